import PyProof.Rows.All
import Wide.All
import OpenK.AllK
import Wide.FinOn
import Lean
import PySem.Challenge.RW_qd0071_01
set_option linter.unusedVariables false
set_option maxRecDepth 100000
set_option genInjectivity false
set_option genSizeOf false
set_option genCtorIdx false
set_option compiler.extract_closed false
open PySem PySem.W PySem.Calls PyProof.Rows
open _root_.Option renaming some->Gu,none->Gw,map_eq_some_iff->GY,isSome_iff_exists->HW,map_some->ID,casesOn->Kk,isNone_iff_eq_none->Mq,bind_some->NS
open _root_.Nat renaming le_of_ble_eq_true->Gv,lt_succ_self->GA,le_trans->GC,lt_succ_of_lt->GF,le_refl->GP,lt_of_lt_of_le->GQ,zero_le->G7,ne_of_lt->G9,sub_add_cancel->Ha,pow_le_pow_right->Hh,le_succ->Hn,succ_le_succ->Hq,zero_testBit->Ht,beq->Hw,shiftLeft->HA,lt_irrefl->HD,ne_of_gt->HK,le_add_right->HN,le_of_not_lt->HO,not_lt->HQ,sub_le->HU,succ_mul->H3,lt_of_le_of_ne->H8,le_of_lt->Ie,add_comm->Ig,zero->Ih,succ->Ii,lor->Im,pos_of_ne_zero->IA,le_antisymm->IH,zero_add->IJ,lt_of_le_of_lt->IW,min_eq_left->I2,add_assoc->I4,testBit_or->Jl,zero_mul->Ju,add_sub_cancel'->Jx,lt_trans->JN,testBit_lt_two_pow->JO,eq_of_beq_eq_true->JX,lt_of_not_le->J4,mul_le_mul_right->J7,le_of_eq->Km,mul_le_mul->Kv,lt_of_sub_pos->KI,lt_succ_of_le->KJ,one_mul->KL,one_shiftLeft->KM,add_sub_cancel_left->KT,min_le_left->Lc,lt_of_sub_ne_zero->Lg,shiftRight->Ll,ble->LG,le_succ_of_le->LJ,le_of_lt_succ->LL,lt_or_ge->LM,testBit_eq_decide_div_mod_eq->LN,add_zero->LQ,le_max_right->L4,add_mul->Mh,not_lt_zero->Mr,rec->Mx,log2->MQ,succ_pred_eq_of_pos->Nd,log2_lt->NE,le_zero->NJ,mul_le_mul_left->NT,add_le_add_left->NV,sub_pos_of_lt->Oi,or_lt_two_pow->Oj,mod->Ol,le_of_not_le->Ou,min_eq_right->OA,testBit_succ->OD,le_max_left->OH,sub_self->Ps,pow_succ->Pt,xor->Pu,pow_add->P9
open _root_.Bool renaming true->Gx,false->Gz,and_eq_true_iff->G0,false_eq_true->HC,and_eq_true->HM,or_eq_true->Il,not_eq_false'->Lo,eq_false_iff->LF,false_and->MA,false_or->MX,or_eq_false_iff->NA,not_eq_true->Ob,not_true->OW
open PySem renaming wpAny_bind->Gy,Value->GB,Shared->GD,model->GR,wpAny_pure->GV,Addr->GW,Expr->GZ,wpAny->G3,wpAny_mono->G4,NameKind->G6,wpAny_holding->Hd,Str->He,Around->Hi,World->Hk,Pos->HR,wpAny_standAt->HT,Heap->HY,rawInt->H9,Program->Ip,wpAny_loadPart_at->Iu,Stmt->IB,mainGlobals->IC,DictEntry->IK,starEach->IL,codeAny_mono->IM,Scope->IS,codeAny->IT,wpAny_execs_cons->IX,swapsWith->IY,relabel->I9,compEnvC->Jf,swappedStores->Ji,intKind->Jm,wpAny_Call_ofName->Jp,assign->Jy,Obj->JE,Comprehension->JI,sizeLine_eq->JS,wpAny_field->JT,assignAll->JU,sizeLine->J1,Keyword->J3,Env->J5,eval->J6,treeTable->J8,wpAny_call->Kb,methodCallPos->Kj,FuncData->Kp,wpAny_execs_nil->Kt,wpAny_Constant_none->Kx,wpAny_isSubtype_exc->Ky,Sem->Kz,bootBuiltins->KC,holding->KD,wpAny_rule->KN,sysModules->KO,builtinsNs->KP,wpAny_Constant_int->KQ,wpAny_Compare1->KR,recursionLimit->KS,wpAny_newObj_type->KY,keywordEach->K0,backTo->K7,call->K8,mem_of_lookup->K9,comprehension->La,wpAny_call_entry->Lh,wpAny_Call_method_late->Lj,valueAt->Lm,Operator->Ls,wpAny_loadName_local->Lu,wpAny_setField->Lz,codeAny_call_builtin->LA,newFunctionEnv->LB,attributeBase->LV,swapsWithSole->LX,assignInOrder->LY,ExceptHandler->L3,wpAny_Constant_str->L5,wpAny_truthy_bool->Mm,backToKw->Mn,PyData->MF,compareOp->MG,Result->MH,wpAny_lookBehind->MI,pastItsLine_dict->MJ,cellsFrom->MK,wpAny_comp_letGo->MM,opaqueClassAbove->MR,wpAny_of_eq->MY,importedModules->M0,Tok->M1,exec_Assign_arm->M5,standAt->Na,notedBy->Nb,Flow->Nf,wpAny_loadPart->Nl,wpAny_Subscript_list_slice->Nn,methodCallForm->Nr,wpAny_newFunctionEnv_cells->Nt,wpAt_of_wpAny->ND,wpAny_newList->NG,arm_eval_Call->NH,getMethod->NR,OsState->NX,truthy->N0,pyIter->N4,codeAny_call_function->Oe,wpAt_bind->Om,unsupported->Ot,wpAny_BinOp->Ow,Const->OE,wpAny_loadName_cell->OI,wpAny_loadName_free->OJ,wpAny_evalPart_some->OM,wpAny_evalPart_none->ON,frameOf->OQ,wpAny_Assign_stores->OR,isTrue->OY,typeOf->O1,isInstance->O2,getAttr->O8,wpAny_truthy_list->O9,wpAny_Return_some->Pa,slot_list_setitem->Pb,foldedSetIterable->Pc,seqIndex?->Pl,assign_Attribute->Pn,checkBuiltinCall->Pw,wpAny_madeBy_exc->Px,letOwnedTupleGo->P7
open _root_.List renaming length_append->GG,mem_append->GH,mem_singleton->GI,length_map->GJ,mem_cons->GK,mem_of_getElem?->GN,append_assoc->GO,append_nil->G1,map_append->G2,cons->G5,getElem?_eq_getElem->Hb,getElem?_map->Hg,all_eq_true->Hj,getD_eq_getElem?_getD->Hl,mem_map->Hm,map_cons->Hs,nil->Hx,length_cons->HF,mem_filterMap->HI,map_map->HJ,getElem?_eq_some_iff->HS,foldl_append->HV,mem_filter->H5,perm_append_comm->H6,sum_cons->Ia,casesOn->Ib,getElem?_set->Ik,take_of_length_le->Iq,mem_flatMap->Iw,getElem?_append_right->Iz,getElem?_append_left->IE,forall_mem_cons->IG,getElem?_of_mem->II,lookup_cons->IN,replicate->IP,filter_append->IU,nodup_cons->IZ,any_cons->I3,reverse_cons->I6,nodup_append->Ja,rec->Jg,length->Jh,getElem?_modify->Jj,filter_cons->Jq,extract_eq_take_drop->Jr,map_congr_left->Jv,foldl_cons->Jz,length_nil->JB,filter_nil->JC,range->JD,mem_range->JJ,flatMap_cons->JL,length_reverse->Kd,reverse_append->Ke,drop_eq_getElem_cons->Kw,reverse_perm->KB,size_toArray->KF,find?_cons->K5,take_append_drop->Lb,mem_append_right->Ld,mem_append_left->Li,take_succ_eq_append_getElem->LC,length_set->Md,forIn_cons->Mf,sum_append->Mg,forIn_nil->MB,map->MC,length_erase_of_mem->MZ,length_eq_zero_iff->M2,getElem?_replicate->M4,map_id->NB,idxOf_cons_self->NC,flatMap_append->NK,length_modify->NU,getElem?_inj->NY,length_range->N5,idxOf_append->N7,map_fst_zip->Oc,drop_length->Od,mem_reverse->Of,head?_drop->Oo,drop_drop->OG,nodup_nil->OP,lookup->Ph
open Decidable renaming decide->GL
open PyProof.Rows renaming wpS_bind->GS,wpS_pure->GX,Keyed->G8,SortSt->Hf,wpS_forRange->HG,pendingOf->HL,oneType'->Ic,arrOf->Ij,assign_Name->Iy,kindOf->IV,seqObj->I8,wpS_modify->Jw,elem'->JP,wpS_mono->JZ,wpS_get->Ki,wpS->KA,IntsAre->KV,reverseSlice'->K4,failedOf->Lf,wpS_lift->Lr,IntKeys->LD,ord_of_one->LI,listUpdate_at->LW,add_str->Mi,seqEpoch_at->MW,entry_list_sort->M3,setPending->Ni,sortedHeap->No,slot_list_sort->Np,args_list_sort->Nq,size_push'->OZ,add_int->Pz,sub_int->PA,mul_int->PB,floordiv_int->PC,mod_int->PD,pow_int_small->PE,lshift_int_small->PG,rshift_int->PH,and_int->PI,or_int->PJ,xor_int->PK,iadd_int->PL,ior_int->PM,eq_int->PN,ne_int->PO,lt_int->PP,le_int->PQ,gt_int->PS,ge_int->PT,eq_str->PU,ne_str->PV,truthy_int->PX,len_tuple->PY,len_list->PZ,call_abs_int->P0,neg_int->P1,list_sort_plain->P4,get?_update_seq->P5
open PySem.Heap renaming get?_push_of_some->GU,get?_update_other->Ho,get?_push_size->Hu,lt_size->HB,get?_update_self->H7,SameBut->Ir,size_push->JK,size_update->JV,get?_push_ne->KG,ExtBut->L7,get?_update_ne->NL
open _root_.Int renaming natCast_nonneg->Hc,eq_ofNat_of_zero_le->IQ,toNat_natCast->Jb,le_of_lt->Jt,le_refl->JH,zero_add->Kl,fmod_eq_emod_of_nonneg->Ku,natAbs_of_nonneg->Lk,mul_zero->LH,ofNat_lt->LK,toNat->L8,one_mul->Mc,add_nonneg->MD,mul_nonneg->ME,fdiv_eq_ediv_of_nonneg->MN,le_add_one->MO,natAbs_mul->MP,add_zero->Ng,zero_mul->Nh,ofNat_le->Nm,emod_lt_of_pos->N6,natAbs_add_le->Oh,max_eq_right->Oz,emod_nonneg->OS,ediv_nonneg->OT,natCast_pow->OU,pow_nonneg->O3,lt_or_le->Pm,ne_of_gt->Pr
open List.Perm renaming append_left->Hp
open PySem.Str renaming ofString->Hr
open PySem.Obj renaming mapSeq->Hv,mapFields->Iv,data_mapFields->JF,isFreed_of_fields->JW,putName->PW
open _root_.Array renaming perm_iff_toList_perm->Hy,toList_append->HE,getElem?_eq_some_iff->Ix,toList_push->IF,getElem?_toList->I0,toList_reverse->Jc,size->Je,length_toList->Js,toList_extract->JY,toList_setIfInBounds->Ko,getElem?_eq_getElem->Kr,size_extract->Ln,any_toList->NZ,isEmpty->OL
open Ne renaming symm->Hz
open Pure renaming pure->HH
open PySem.W renaming listOf->HP,Frag->I5,instObj->J0,findIn->Ka,emptyDict->Kc,looks_findIn->KH,callWith_of->KZ,keepIn->K6,Looks->Lx,topFrame->Mj,dictOf->Nj,plainGet_of->Ox,looks_clsIn->Oy,boot_heap->Pg,specialIn->Pj
open PySem.NameKind renaming free->HX,cell->Jn
open PySem.Calls renaming Name_function_global->HZ,loadGlobal_global->Jo,spliced_cons->JA,evalArgs_plain->J2,spliced_nil->KW,loadGlobal_builtin->OX
open PySem.Value renaming isInt->H4,none->Jd,ref->Jk,isStr->LU,int->N1,str->Qa
open PySem.Env renaming kindOf->Io
open PySem.Code renaming builtin->It,quiet_builtin->NW,frames->Pp
open PySem.Builtin renaming bitAnd->I7,bitOr->JQ,bitXor->J9,bitNot->Kg
open PySem.PyData renaming keyHash->JG,list->O4,int->Pf
open Option.some renaming inj->JM,injEq->MU
open PySem.Builtin.Int renaming intBits->JR
open PySem.W.Fast renaming tw14364793385576792824->Kh,tw14082659384304107361->Mk,te14364793385576792824->Ml,tw5923862056798008813->Mw
open PySem.F renaming excBase_Exception->Kq,plainAttrs_list->L6,slot_list_append->OB,plainAttrs_dict->OO,slot_dict_keys->O0
open Classical renaming propDecidable->Ks,byContradiction->LS
open Break renaming runK->KU
open Prod.mk renaming inj->K3,injEq->Mp
open PySem.Keeper renaming boundFrame->Lp,machine->Me,frame->MV
open ToString renaming toString->Lq
open List.cons renaming injEq->Lw
open PySem.IsL renaming update->Ly
open PySem.Within renaming cons->LR,nil->Pe
open PySem.Expr renaming Name->LZ
open PySem.Expr.Attribute renaming elim->L9
open PySem.Expr.Subscript renaming elim->Ma
open PySem.Stmt.AugAssign renaming elim->Mb
open PySem.W.Looks renaming ld->Mo,of_pure->ML,here->Pk
open PySem.Expr.ListComp renaming elim->Ms
open PySem.Expr.DictComp renaming elim->Mt
open PySem.Expr.Constant renaming elim->Mu
open PySem.Stmt.Continue renaming elim->Mv
open String renaming ofList->My,join->M9
open Nat.succ renaming inj->Mz
open PySem.Expr.UnaryOp renaming elim->MS
open PySem.Expr.Compare renaming elim->MT
open PySem.Expr.BoolOp renaming elim->M6
open PySem.Stmt.Assign renaming elim->M7
open PySem.Stmt.Return renaming elim->M8
open PySem.Around renaming frames_deeper->Nc
open PySem.DictEntry renaming refKey->Nk
open PySem.Expr.BinOp renaming elim->Nu
open PySem.Expr.IfExp renaming elim->Nv
open PySem.Expr.Tuple renaming elim->Nw
open PySem.Expr.Slice renaming elim->Nx
open PySem.Stmt.While renaming elim->Ny
open PySem.Stmt.Raise renaming elim->Nz
open PUnit renaming unit->NI
open PySem.Expr.Dict renaming elim->NM
open PySem.Expr.Call renaming elim->NN
open PySem.Expr.Name renaming elim->NO
open PySem.Expr.List renaming elim->NP
open PySem.Stmt.Expr renaming elim->NQ
open PySem.Sem.pure renaming elim->N8
open PySem.Stmt.For renaming elim->N9
open PySem.Stmt.Try renaming elim->Oa
open PySem.Flow renaming next->Og
open ForIn renaming forIn->Oq
open LE renaming le->Ov
open And renaming intro->OC
open PySem.Stmt.If renaming elim->OF
open PySem.Const renaming casesOn->OV
open Inhabited renaming default->O5
open Min renaming min->O6
open PyProof.Rows.SortSt renaming mk'->O7
open PySem.Heap.FunFrames renaming cons->Pd
open PySem.Builtin.Range renaming rangeSize->Po
open LawfulMonad renaming pure_bind->Pq
open PySem.ExceptHandler renaming casesOn->Py
open PySem.Builtin.List renaming listSubscript?->P6
open PySem.Heap.SameBut renaming update->P8
namespace Mine.T
noncomputable abbrev rw0 := PySem.Challenge.rw_qd0071_01
noncomputable abbrev pr : Ip := rw0.row.toRowW.1
noncomputable def bo := behindTheImports pr
noncomputable def en : J5 := { scope := pr.main.scope, locals := mainNs, globals := mainNs, cells := [], code := .ref 13, frame := Gu 14 }
noncomputable abbrev cE : Code := .body bo en
noncomputable abbrev p0 : HR := ⟨0,0,0,0⟩
noncomputable def qv : Ip := view pr [pr.main.body.length - 1]
noncomputable def lo : List He := pr.boundNames.filter fun n => n != "law"
noncomputable def Xt : GD -> Bool := recOk rw0.row.toRowW.records
noncomputable def S0 (w : Hk) (b : NX) : GD := ⟨Pg w.params, Array.mk [], boot_drawn, boot_toks, b⟩
noncomputable def Sa (w : Hk) (b : NX) : GD := match topGo J8 pr w 11 (Gu (.ref 6)) 12 (S0 w b) (topStub pr) with
  | some (s, _) => s
  | none => S0 w b
noncomputable def bt : List JE -> Nat -> BT -> BT
  | [], _, t => t
  | o :: r, n, t => bt r (n + 1) (t.ins n o)
noncomputable def Sb (w : Hk) (b : NX) : SharedT := let s := Sa w b; ⟨bt s.heap.objs.toList 0 .nil, s.heap.objs.size, s.heap.life, s.gens, s.drawn, s.toks, b⟩
noncomputable def r (n : Nat) : GB := .ref n
noncomputable def s (x : String) (t : Nat) : GB := .str (.ofString x) t
noncomputable def i (z : Int) (t : Nat) : GB := .int z t
noncomputable def fO (i j : Nat) (q : String) (f m : GB) (c a : Nat) : JE := match pr.main.body[i]?.bind fun b => match j, b with
    | 0, b => Gu b
    | j + 1, .ClassDef _ _ _ l .. => l[j]?
    | _, _ => Gw with
  | some (.FunctionDef n d b _ _ _ e ..) => { cls := .type "function", data := .func { name := n, qualname := .ofString q, params := d, body := .stmts b, scope := e, globals := 3, closure := [], defaults := f, kwdefaults := .none, pyModule := m, code := r c, annotations := if a = 0 then Gw else Gu a } }
  | _ => O5
noncomputable def tO (a : Nat) (n : String) (c mro b : List GB) (z : Option GB) (t u : Nat) (w : String) : JE := { cls := .type "type", data := .cls { name := .ofString n, bases := c, mro := r a :: mro, ns := a - 1, qualname := .ofString n, subclasses := b }, slots := #[z, Gw, Gu (s n t), Gu (s n u), Gu (.builtin w), Gu (.bool Gx)] }
noncomputable def gO (c : GB) (d : Option Nat) (l : List GB) : JE := { cls := c, dict := d, data := .fields l.toArray }
noncomputable def qO (l : List GB) : JE := { cls := .type "tuple", data := .seq l.toArray }
noncomputable def fl (t : Nat) : GB := s "/claim/cut.py" t
noncomputable def kO (n q : String) (t : Nat) (l a k : Int) (b u : Nat) : JE := gO (.type "code") Gw [s n t, s q (t + 1), fl (t + 2), i l 0, i a 0, i 0 0, i 0 0, i k 0, r b, .bool Gx, i 181 0, r (b + 1), .none, r (b + 2), r (b + 3), r (b + 4), i u 0, i l 0, fl (u + 1)]
noncomputable def m0 : GB := (s "grammarmill.source" 194)
noncomputable def m1 : GB := (s "grammarmill.nfa" 276)
noncomputable def m2 : GB := (s "grammarmill.charset" 648)
noncomputable def m3 : GB := (s "grammarmill.dfa" 1028)
noncomputable def m4 : GB := (s "grammarmill.regex" 1108)
noncomputable def m5 : GB := (s "law_qd0071_01" 1437)
abbrev I := Nat × JE
noncomputable def c (n : Nat) (o : JE) (x : List I) : List I := (n,o)::x
noncomputable def f (n q : String) (t : Nat) (l a k : Int) (b u x y : Nat) (d m : GB) (z : Nat) := (c (b+5) (kO n q t l a k b u) <| c (b+6) (fO x y q d m (b+5) z) ·)
noncomputable def j (n q : String) (t : Nat) (l a : Int) (b x y : Nat) (d m : GB) (z : Nat) := (c (b+3) (gO (.type "code") Gw [s n t, s q (t + 1), fl (t + 2), i l 0, i a 0, i 0 0, i 0 0, i 3 0, r b, .bool Gx, i 181 0, r (b + 1), .none, .none, .none, r (b + 2), i (t + 3) 0, i l 0, fl (t + 4)]) <| c (b+4) (fO x y q d m (b+3) z) ·)
noncomputable def K (P : Params) : I5 :=
  let D (c : GB) (l : List (String × Nat × GB)) (n : Nat) : JE := { cls := c, data := .dict (l.map fun e => ⟨JG P (.ofString e.1), s e.1 e.2.1, e.2.2⟩).toArray n }
  let w a m b l d (x y : List (String × Nat × GB)) k e n p g o z t u w := (c a (D (.type "dict") (("__module__",b,m)::("__firstlineno__",d,i l (d-1))::x++("__static_attributes__",e,r (a-1))::y) k) <| c (a+1) (tO (a+1) n p g o z t u w) ·)
  let t a m b l d x k e := w a m b l d x [("__doc__",e+1,.none)] k e
  let u a m b l d x k e := w a m b l d x [("__dict__",e+2,r (a+2)),("__weakref__",e+4,r (a+3)),("__doc__",e+5,.none)] k e
  c 2 (D .none [("type.__subclasses__.Exception.0",230,i 46 0),("type.__subclasses__.Exception.n",231,i 1 0)] 2)<|c 3 (D (.type "dict") [("__name__",165,m5),("__doc__",166,.none),("__package__",167,.none),("__loader__",168,(.builtin "__main__.__loader__#opaque")),("__spec__",169,.none),("__annotations__",170,r 6),("__builtins__",171,r 4),("__file__",173,fl 172),("__cached__",174,.none),("_wall",193,r 21),("ToolError",233,r 46),("RegexError",249,r 59),("TableError",265,r 71),("bits",275,r 80),("MOST_STATES",279,i 10000 278),("MOST_READ",281,i 1000 280),("Nfa",371,r 147),("chain",380,r 158),("build",392,r 165),("build_row",406,r 172),("build_choice",421,r 179),("build_loop",436,r 186),("build_copies",451,r 193),("closure",457,r 198),("tags_of",467,r 205),("Subsets",546,r 257),("Positions",647,r 324),("TOP",651,i 127 650),("CharSet",902,r 494),("Classes",1027,r 570),("DEAD",1032,i (-1) 1031),("MOST_SUBSETS",1034,i 10000 1033),("Dfa",1101,r 624),("subset_dfa",1107,r 634),("MOST_REPEAT",1111,i 40 1110),("Node",1147,r 658),("Empty",1165,r 672),("Never",1183,r 684),("Chars",1217,r 710),("Pair",1261,r 743),("Cat",1279,r 755),("Alt",1297,r 767),("Loop",1336,r 800),("Star",1354,r 812),("Plus",1372,r 824),("Opt",1390,r 836),("Repeat",1427,r 862),("spine",1436,r 871),("_law_store",1447,r 878),("_law_draw",1456,r 885),("_law_leaf",1463,r 892),("_law_tree",1474,r 899),("_law_node",1482,r 906),("_law_parts",1491,r 913),("_law_counts",1497,r 918),("_law_built",1509,r 925),("_law_read",1520,r 932),("_law_told",1528,r 939),("_law_after_right",1543,r 946),("law",1561,r 953)] 60)<|c 29 (qO [.none])<|f "__init__" "ToolError.__init__" 208 7 3 3 30 214 2 1 (r 29) m0 0<|c 45 (D (.type "dict") [("__module__",203,m0),("__firstlineno__",207,i 5 206),("__init__",216,r 36),("told",223,r 43),("__static_attributes__",226,r 44),("__weakref__",228,r 47),("__doc__",229,.none)] 3)<|c 46 (tO 46 "ToolError" [(.type "Exception")] [(.type "Exception"),(.type "BaseException"),(.type "object")] [r 59,r 71] (Gu (r 22)) 196 204 "Exception.__new__")<|t 58 m0 241 16 245 [] 2 246 "RegexError" [r 46] [r 46,(.type "Exception"),(.type "BaseException"),(.type "object")] [] (Gu (r 50)) 234 242 "Exception.__new__"<|t 70 m0 257 18 261 [] 2 262 "TableError" [r 46] [r 46,(.type "Exception"),(.type "BaseException"),(.type "object")] [] (Gu (r 62)) 250 258 "Exception.__new__"<|f "bits" "bits" 266 20 1 3 74 273 5 0 .none m0 0<|c 88 (qO [i 10000 278])<|f "__init__" "Nfa.__init__" 294 35 2 3 89 299 9 1 (r 88) m1 0<|f "add_state" "Nfa.add_state" 302 42 1 3 96 306 9 2 .none m1 0<|f "add_move" "Nfa.add_move" 309 49 4 3 103 316 9 3 .none m1 0<|f "add_hop" "Nfa.add_hop" 319 53 3 3 110 325 9 4 .none m1 0<|f "set_first" "Nfa.set_first" 328 57 2 3 117 333 9 5 .none m1 0<|f "set_tag" "Nfa.set_tag" 336 60 3 3 124 342 9 6 .none m1 0<|f "state_count" "Nfa.state_count" 345 63 1 3 131 349 9 7 .none m1 0<|u 146 m1 289 33 293 [("__init__",301,r 95),("add_state",308,r 102),("add_move",318,r 109),("add_hop",327,r 116),("set_first",335,r 123),("set_tag",344,r 130),("state_count",351,r 137),("links",358,r 144)] 4 364 "Nfa" [(.type "object")] [(.type "object")] [] Gw 282 290 "object.__new__"<|f "chain" "chain" 372 68 2 3 152 378 10 0 .none m1 0<|f "build" "build" 381 76 3 3 159 390 11 0 .none m1 0<|f "build_row" "build_row" 393 97 3 3 166 404 12 0 .none m1 0<|f "build_choice" "build_choice" 407 104 3 3 173 419 13 0 .none m1 0<|f "build_loop" "build_loop" 422 115 5 3 180 434 14 0 .none m1 0<|f "build_copies" "build_copies" 437 126 3 3 187 449 15 0 .none m1 0<|j "closure" "closure" 452 145 2 194 16 0 .none m1 0<|f "tags_of" "tags_of" 458 155 2 3 199 465 17 0 .none m1 0<|f "__init__" "Subsets.__init__" 480 163 2 3 213 485 18 1 .none m1 0<|f "closure_of" "Subsets.closure_of" 488 167 2 3 220 495 18 2 .none m1 0<|f "begin" "Subsets.begin" 498 176 1 3 227 502 18 3 .none m1 0<|f "ways" "Subsets.ways" 505 179 2 3 234 514 18 4 .none m1 0<|f "after" "Subsets.after" 517 186 3 3 241 526 18 5 .none m1 0<|f "tags" "Subsets.tags" 529 195 2 3 248 534 18 6 .none m1 0<|u 256 m1 475 161 479 [("__init__",487,r 219),("closure_of",497,r 226),("begin",504,r 233),("ways",516,r 240),("after",528,r 247),("tags",536,r 254)] 4 539 "Subsets" [(.type "object")] [(.type "object")] [] Gw 468 476 "object.__new__"<|c 269 (qO [i 1000 280])<|f "__init__" "Positions.__init__" 559 199 3 3 270 565 19 1 (r 269) m1 0<|j "read" "Positions.read" 568 206 2 277 19 2 .none m1 0<|f "place" "Positions.place" 574 229 2 3 282 580 19 3 .none m1 0<|f "join" "Positions.join" 583 237 3 3 289 590 19 4 .none m1 0<|f "row" "Positions.row" 593 241 2 3 296 604 19 5 .none m1 0<|f "choice" "Positions.choice" 607 254 2 3 303 618 19 6 .none m1 0<|f "loop" "Positions.loop" 621 262 2 3 310 626 19 7 .none m1 0<|j "copies" "Positions.copies" 629 266 2 317 19 8 .none m1 0<|u 323 m1 554 197 558 [("__init__",567,r 276),("read",573,r 281),("place",582,r 288),("join",592,r 295),("row",606,r 302),("choice",620,r 309),("loop",628,r 316),("copies",634,r 321)] 4 640 "Positions" [(.type "object")] [(.type "object")] [] Gw 547 555 "object.__new__"<|f "__init__" "CharSet.__init__" 664 280 2 3 336 669 22 1 .none m2 0<|j "of" "CharSet.of" 726 295 1 373 22 5 .none m2 380<|c 379 (gO (.type "staticmethod") (Gu 378) [r 377,(.bool Gz)])<|f "made" "CharSet.made" 764 303 1 3 391 774 22 7 .none m2 400<|c 399 (gO (.type "staticmethod") (Gu 398) [r 397,(.bool Gz)])<|u 493 m2 659 278 663 [("__init__",671,r 342),("none",689,r 351),("every",707,r 361),("dot",725,r 371),("of",743,r 379),("span",763,r 389),("made",788,r 399),("has",801,r 407),("size",808,r 414),("codes",818,r 421),("least",825,r 428),("is_empty",832,r 435),("union",840,r 442),("meet",848,r 449),("complement",855,r 456),("minus",863,r 463),("same",871,r 470),("meets",879,r 477),("folded",886,r 484),("key",893,r 491)] 4 895 "CharSet" [(.type "object")] [(.type "object")] [] Gw 652 660 "object.__new__"<|f "__init__" "Classes.__init__" 915 376 2 3 506 927 23 1 .none m2 0<|f "mask" "Classes.mask" 961 412 2 3 530 973 23 4 .none m2 0<|u 569 m2 910 374 914 [("__init__",929,r 512),("from_bounds",949,r 521),("of",960,r 529),("mask",975,r 536),("charset",986,r 543),("table",996,r 550),("least",1004,r 557),("word",1010,r 562),("text",1016,r 567)] 4 1020 "Classes" [(.type "object")] [(.type "object")] [] Gw 903 911 "object.__new__"<|f "__init__" "Dfa.__init__" 1047 468 3 3 582 1053 27 1 .none m3 0<|f "state_count" "Dfa.state_count" 1063 475 1 3 596 1067 27 3 .none m3 0<|j "told" "Dfa.told" 1086 486 1 617 27 6 .none m3 0<|u 623 m3 1042 466 1046 [("__init__",1055,r 588),("class_count",1062,r 595),("state_count",1069,r 602),("step",1078,r 609),("links",1085,r 616),("told",1091,r 621)] 4 1094 "Dfa" [(.type "object")] [(.type "object")] [] Gw 1035 1043 "object.__new__"<|c 629 (qO [i 10000 1033])<|j "subset_dfa" "subset_dfa" 1102 488 3 630 28 0 (r 629) m3 0<|u 657 m4 1119 511 1123 [("name",1125,s "node" 1124),("parts",1132,r 648),("told",1139,r 655)] 4 1140 "Node" [(.type "object")] [(.type "object")] [r 672,r 684,r 710,r 743,r 800] Gw 1112 1120 "object.__new__"<|t 671 m4 1155 519 1159 [("name",1161,s "empty" 1160)] 2 1162 "Empty" [r 658] [r 658,(.type "object")] [] (Gu (r 663)) 1148 1156 "object.__new__"<|t 683 m4 1173 521 1177 [("name",1179,s "never" 1178)] 2 1180 "Never" [r 658] [r 658,(.type "object")] [] (Gu (r 675)) 1166 1174 "object.__new__"<|f "__init__" "Chars.__init__" 1198 526 2 3 694 1203 34 2 .none m4 0<|t 709 m4 1191 523 1195 [("name",1197,s "chars" 1196),("__init__",1205,r 700),("told",1212,r 707)] 2 1214 "Chars" [r 658] [r 658,(.type "object")] [] (Gu (r 687)) 1184 1192 "object.__new__"<|f "__init__" "Pair.__init__" 1230 533 3 3 720 1236 35 1 .none m4 0<|t 742 m4 1225 531 1229 [("__init__",1238,r 726),("parts",1245,r 733),("told",1255,r 740)] 2 1258 "Pair" [r 658] [r 658,(.type "object")] [r 755,r 767] (Gu (r 713)) 1218 1226 "object.__new__"<|t 754 m4 1269 546 1273 [("name",1275,s "cat" 1274)] 2 1276 "Cat" [r 743] [r 743,r 658,(.type "object")] [] (Gu (r 746)) 1262 1270 "object.__new__"<|t 766 m4 1287 548 1291 [("name",1293,s "alt" 1292)] 2 1294 "Alt" [r 743] [r 743,r 658,(.type "object")] [] (Gu (r 758)) 1280 1288 "object.__new__"<|f "__init__" "Loop.__init__" 1310 552 2 3 777 1315 38 1 .none m4 0<|t 799 m4 1305 550 1309 [("__init__",1317,r 783),("parts",1324,r 790),("told",1331,r 797)] 2 1333 "Loop" [r 658] [r 658,(.type "object")] [r 812,r 824,r 836,r 862] (Gu (r 770)) 1298 1306 "object.__new__"<|t 811 m4 1344 560 1348 [("name",1350,s "star" 1349)] 2 1351 "Star" [r 800] [r 800,r 658,(.type "object")] [] (Gu (r 803)) 1337 1345 "object.__new__"<|t 823 m4 1362 562 1366 [("name",1368,s "plus" 1367)] 2 1369 "Plus" [r 800] [r 800,r 658,(.type "object")] [] (Gu (r 815)) 1355 1363 "object.__new__"<|t 835 m4 1380 564 1384 [("name",1386,s "opt" 1385)] 2 1387 "Opt" [r 800] [r 800,r 658,(.type "object")] [] (Gu (r 827)) 1373 1381 "object.__new__"<|f "__init__" "Repeat.__init__" 1405 569 4 3 846 1412 42 2 .none m4 0<|t 861 m4 1398 566 1402 [("name",1404,s "repeat" 1403),("__init__",1414,r 852),("told",1421,r 859)] 2 1424 "Repeat" [r 800] [r 800,r 658,(.type "object")] [] (Gu (r 839)) 1391 1399 "object.__new__"<|f "_law_store" "_law_store" 1439 590 1 3 872 1445 45 0 .none m5 0<|f "_law_draw" "_law_draw" 1448 595 2 3 879 1454 46 0 .none m5 0<|f "_law_leaf" "_law_leaf" 1457 602 1 3 886 1461 47 0 .none m5 0<|f "_law_tree" "_law_tree" 1464 604 1 3 893 1472 48 0 .none m5 0<|f "_law_node" "_law_node" 1475 616 1 3 900 1480 49 0 .none m5 0<|f "_law_parts" "_law_parts" 1483 633 2 3 907 1489 50 0 .none m5 0<|j "_law_counts" "_law_counts" 1492 639 1 914 51 0 .none m5 0<|f "_law_built" "_law_built" 1498 651 3 3 919 1507 52 0 .none m5 0<|f "_law_read" "_law_read" 1510 660 3 3 926 1518 53 0 .none m5 0<|f "_law_told" "_law_told" 1521 667 2 3 933 1526 54 0 .none m5 0<|f "_law_after_right" "_law_after_right" 1529 672 1 3 940 1541 55 0 .none m5 0<|f "law" "law" 1544 685 1 3 947 1559 56 0 .none m5 0<|[]
noncomputable def ks : List Nat := [2,3,29,35,36,45,46,58,59,70,71,79,80,88,94,95,101,102,108,109,115,116,122,123,129,130,136,137,146,147,157,158,164,165,171,172,178,179,185,186,192,193,197,198,204,205,218,219,225,226,232,233,239,240,246,247,253,254,256,257,269,275,276,280,281,287,288,294,295,301,302,308,309,315,316,320,321,323,324,341,342,376,377,379,396,397,399,493,494,511,512,535,536,569,570,587,588,601,602,620,621,623,624,629,633,634,657,658,671,672,683,684,699,700,709,710,725,726,742,743,754,755,766,767,782,783,799,800,811,812,823,824,835,836,851,852,861,862,877,878,884,885,891,892,898,899,905,906,912,913,917,918,924,925,931,932,938,939,945,946,952,953]

theorem Gk : ∀ P, ks = (K P).map (·.1) := fun P => by kernel_rfl
theorem e1 : ∀ w b, topGo J8 pr w 11 (Gu (.ref 6)) 12 (S0 w b) (topStub pr) = Gu (Sa w b, ⟨denote J8 cE, cE, p0, [Mj p0]⟩) := fun w b => by kernel_rfl
theorem e2 : ∀ w b, segRun J8 pr w 11 (Gu (.ref 6)) 1 1 (Sa w b) (blockOf bo en cE p0 [Mj p0]) = Gu (.next, (Sb w b).abs, cE, p0) := fun w b => by kernel_rfl
noncomputable def lk {b : Type} (Yf : GD -> b) (w : Hk) (s : GD) := ((staticsOk (Mw pr.main.body) (Pg w.params) s.heap && namesBound pr s.heap && gensDone s && laidKept (Pg w.params) s.heap),
        Fast.tw4187177175401517315 qv lo (Mw pr.main.body) Xt Gx s, Yf s)
noncomputable def fi {β : Type} (w : Hk) (b : GD -> β) : Option (Nf × SharedT × Code × HR) -> Option (Nf × Code × Option β)
  | some (f, s, c, q) => Gu (f, c, (Mk Kh pr w 11 (Gu (.ref 6)) 5 s.abs ⟨doneF .next, c, q, [Mj p0]⟩).map b)
  | none => Gw

noncomputable def fz (o : Option JE) : Option JE := match o with
  | some ⟨_, _, .freed, _⟩ => Gw
  | o => o
noncomputable def pick : List Nat -> Nat -> List JE -> List (Option JE)
  | [], _, _ => []
  | k :: r, n, l => fz (l.drop (k - n)).head? :: pick r k (l.drop (k - n))
noncomputable def asc : Nat -> List Nat -> Bool
  | _, [] => Gx
  | n, k :: r => LG n k && asc k r
theorem yW {h : HY} : ∀ {l : List Nat} {n : Nat}, asc n l = Gx -> pick l n (h.objs.toList.drop n) = l.map h.get? := by
  intro l
  induction l with
  | nil => intro n _; rfl
  | cons k l b =>
    intro n e
    have ⟨c, f⟩ := G0.mp e
    have d : (h.objs.toList.drop n).drop (k - n) = h.objs.toList.drop k := by rw [OG, Nat.add_sub_of_le (Gv c)]
    show fz _ :: pick l k _ = _ :: _
    rw [d, b f, Oo, I0];rfl
noncomputable def pk (s : GD) := pick ks 0 s.heap.objs.toList
theorem C1 (s : GD) : pk s = ks.map s.heap.get? := yW (n := 0) (by kernel_rfl)
theorem e3 : ∀ w b, fi w (lk pk w) (Fast.tw10110043849684766642 Kh pr w 11 (Gu (.ref 6)) 1 20000 (Sb w b) (piecesOf bo en cE p0 [Mj p0])) = Gu (.next, cE, Gu (Gx, openGood qv lo, (K w.params).map fun e => Gu e.2)) := fun w b => by
  kernel_rfl
theorem yh {p q : Ip} {loose : List He} {Xt : GD -> Bool} {c : Type} {Yf : GD -> c} {Ya : Hk -> c} {N n : Nat} {x : Option GB} {w : Hk} {h : HY} {g : Array GenState} {d : Drawn} {k : Nat}
    (o : (fencedOpening J8 p w N).map (fun s => (s.heap, s.gens, s.drawn, s.toks)) = Gu (h, g, d, k))
    (f : (h.isNs IC && g.size == 0) = Gx) (i : h.objs.size = n) (j : h.nsMap IC "__annotations__" = x)
    (r : ∀ b, ∃ s, topRun J8 p w n x N ⟨h, g, d, k, b⟩ (topStub p) = Gu s /\ ((staticsOk (M0 p.main.body) h s.heap && namesBound p s.heap && gensDone s && laidKept h s.heap),
        openSeen q loose (M0 p.main.body) Xt Gx s, Yf s) = (Gx, openGood q loose, Ya w)) :
    (openEnds J8 p w N).map (fun s => (openSeen q loose (M0 p.main.body) Xt Gx s, Yf s)) = Gu (openGood q loose, Ya w) := by
  obtain ⟨⟨_, _, _, _, b⟩, e, m⟩ := GY.mp o;cases m;subst i j;obtain ⟨s, r, l⟩ := r b
  have ⟨t, u⟩ := K3 l
  unfold openEnds;rw [e]
  show (topFrom J8 p w N _).map _ = _
  unfold topFrom;dsimp only;rw [f, r]
  show Option.map _ (match (_ && _ && _ && _ : Bool) with | true => Gu s | false => Gw) = _
  rw [t];exact congrArg Gu u
theorem Cj {β : Type} {w : Hk} {l : GD -> β} {o : Option (Nf × SharedT × Code × HR)} {a : Nf} {b : Code} {d : Option β} (h : fi w l o = Gu (a, b, d)) :
    ∃ s q, o = Gu (a, s, b, q) /\ (Mk Kh pr w 11 (Gu (.ref 6)) 5 s.abs ⟨doneF .next, b, q, [Mj p0]⟩).map l = d := by
  match o, h with
  | some (f, s, c, q), h =>
    have ⟨e, g⟩ := K3 (JM h)
    have ⟨i, j⟩ := K3 g
    subst e i;exact ⟨s, q, rfl, j⟩
theorem left : LeftO pr qv lo Xt (fun s => ks.map s.heap.get?) (fun w => (K w.params).map fun e => Gu e.2) 30000 := fun w => by
  refine yh (q := qv) (loose := lo) (Xt := Xt) (Yf := fun s => ks.map s.heap.get?) (Ya := fun w => (K w.params).map fun e => Gu e.2) (boot_open (p := pr) (N := 30000) (by kernel_rfl) rfl (fun s => by kernel_rfl) w) (n := 11) (x := Gu (.ref 6)) (by kernel_rfl) (by kernel_rfl) (by kernel_rfl) fun b => ?_
  have E := e3 w b
  rw [<- Fast.te10110043849684766642, <- Ml] at E;obtain ⟨s, q, g, i⟩ := Cj E;obtain ⟨d, r, c⟩ := GY.mp i;rw [<- Fast.te14082659384304107361, <- Ml] at r
  have j : topRun J8 pr w 11 (Gu (.ref 6)) 5 s.abs (restOf [] en cE q [Mj p0]) = Gu d := piece_nil r
  have f := piece_app (rest := []) (segRun_of g) j
  rw [G1] at f
  have r := topRun_mono 9982 _ _ _ _ (go_top (e1 w b) (piece_block (e2 w b) f))
  unfold lk at c;rw [<- Fast.te5923862056798008813, <- Fast.te4187177175401517315, C1] at c;exact ⟨d, r, c⟩
theorem top.tw14438334083155810:True:=trivial
theorem top.tw4616471095939477449:True:=trivial
end Mine.T
set_option tactic.hygienic false
namespace Mine
open PySem PySem.W PySem.Calls PyProof.Rows
inductive T2 (α β:Type) |mk (a:α) (b:β)
noncomputable def vw {b:Type} (n:b) (P:b->Prop):b:=@Classical.epsilon b ⟨n⟩ fun x=>¬P x
theorem hk0 {b:Type} {n:b} {P:b->Prop} (h:P (vw n P)) (x:b):P x:=LS fun q=>(@Classical.epsilon_spec_aux b ⟨n⟩ (fun x=>¬P x) ⟨x,q⟩) h
section
variable {A B C D E F G I J K:Type}
noncomputable def W1 (n:A) (P:A->Prop):A:=vw n fun t=>P t
theorem hk1 (n:A) {P:A->Prop} (h:P (W1 n P)) (a:A):P a:=hk0 (n:=n) (P:=fun t=>P t) h (a)
noncomputable def W2 (n:T2 A B) (P:A->B->Prop):T2 A B:=vw n fun t=>P t.1 t.2
theorem hk2 (n:T2 A B) {P:A->B->Prop} (h:P (W2 n P).1 (W2 n P).2) (a:A) (b:B):P a b:=hk0 (n:=n) (P:=fun t=>P t.1 t.2) h (.mk a b)
noncomputable def W3 (n:T2 A (T2 B C)) (P:A->B->C->Prop):T2 A (T2 B C):=vw n fun t=>P t.1 t.2.1 t.2.2
theorem hk3 (n:T2 A (T2 B C)) {P:A->B->C->Prop} (h:P (W3 n P).1 (W3 n P).2.1 (W3 n P).2.2) (a:A) (b:B) (c:C):P a b c:=hk0 (n:=n) (P:=fun t=>P t.1 t.2.1 t.2.2) h (.mk a (.mk b c))
noncomputable def W4 (n:T2 A (T2 B (T2 C D))) (P:A->B->C->D->Prop):T2 A (T2 B (T2 C D)):=vw n fun t=>P t.1 t.2.1 t.2.2.1 t.2.2.2
theorem hk4 (n:T2 A (T2 B (T2 C D))) {P:A->B->C->D->Prop} (h:P (W4 n P).1 (W4 n P).2.1 (W4 n P).2.2.1 (W4 n P).2.2.2) (a:A) (b:B) (c:C) (d:D):P a b c d:=hk0 (n:=n) (P:=fun t=>P t.1 t.2.1 t.2.2.1 t.2.2.2) h (.mk a (.mk b (.mk c d)))
noncomputable def W5 (n:T2 A (T2 B (T2 C (T2 D E)))) (P:A->B->C->D->E->Prop):T2 A (T2 B (T2 C (T2 D E))):=vw n fun t=>P t.1 t.2.1 t.2.2.1 t.2.2.2.1 t.2.2.2.2
theorem hk5 (n:T2 A (T2 B (T2 C (T2 D E)))) {P:A->B->C->D->E->Prop} (h:P (W5 n P).1 (W5 n P).2.1 (W5 n P).2.2.1 (W5 n P).2.2.2.1 (W5 n P).2.2.2.2) (a:A) (b:B) (c:C) (d:D) (e:E):P a b c d e:=hk0 (n:=n) (P:=fun t=>P t.1 t.2.1 t.2.2.1 t.2.2.2.1 t.2.2.2.2) h (.mk a (.mk b (.mk c (.mk d e))))
noncomputable def W6 (n:T2 A (T2 B (T2 C (T2 D (T2 E F))))) (P:A->B->C->D->E->F->Prop):T2 A (T2 B (T2 C (T2 D (T2 E F)))):=vw n fun t=>P t.1 t.2.1 t.2.2.1 t.2.2.2.1 t.2.2.2.2.1 t.2.2.2.2.2
theorem hk6 (n:T2 A (T2 B (T2 C (T2 D (T2 E F))))) {P:A->B->C->D->E->F->Prop} (h:P (W6 n P).1 (W6 n P).2.1 (W6 n P).2.2.1 (W6 n P).2.2.2.1 (W6 n P).2.2.2.2.1 (W6 n P).2.2.2.2.2) (a:A) (b:B) (c:C) (d:D) (e:E) (f:F):P a b c d e f:=hk0 (n:=n) (P:=fun t=>P t.1 t.2.1 t.2.2.1 t.2.2.2.1 t.2.2.2.2.1 t.2.2.2.2.2) h (.mk a (.mk b (.mk c (.mk d (.mk e f)))))
noncomputable def W7 (n:T2 A (T2 B (T2 C (T2 D (T2 E (T2 F G)))))) (P:A->B->C->D->E->F->G->Prop):T2 A (T2 B (T2 C (T2 D (T2 E (T2 F G))))):=vw n fun t=>P t.1 t.2.1 t.2.2.1 t.2.2.2.1 t.2.2.2.2.1 t.2.2.2.2.2.1 t.2.2.2.2.2.2
theorem hk7 (n:T2 A (T2 B (T2 C (T2 D (T2 E (T2 F G)))))) {P:A->B->C->D->E->F->G->Prop} (h:P (W7 n P).1 (W7 n P).2.1 (W7 n P).2.2.1 (W7 n P).2.2.2.1 (W7 n P).2.2.2.2.1 (W7 n P).2.2.2.2.2.1 (W7 n P).2.2.2.2.2.2) (a:A) (b:B) (c:C) (d:D) (e:E) (f:F) (g:G):P a b c d e f g:=hk0 (n:=n) (P:=fun t=>P t.1 t.2.1 t.2.2.1 t.2.2.2.1 t.2.2.2.2.1 t.2.2.2.2.2.1 t.2.2.2.2.2.2) h (.mk a (.mk b (.mk c (.mk d (.mk e (.mk f g))))))
noncomputable def W8 (n:T2 A (T2 B (T2 C (T2 D (T2 E (T2 F (T2 G I))))))) (P:A->B->C->D->E->F->G->I->Prop):T2 A (T2 B (T2 C (T2 D (T2 E (T2 F (T2 G I)))))):=vw n fun t=>P t.1 t.2.1 t.2.2.1 t.2.2.2.1 t.2.2.2.2.1 t.2.2.2.2.2.1 t.2.2.2.2.2.2.1 t.2.2.2.2.2.2.2
theorem hk8 (n:T2 A (T2 B (T2 C (T2 D (T2 E (T2 F (T2 G I))))))) {P:A->B->C->D->E->F->G->I->Prop} (h:P (W8 n P).1 (W8 n P).2.1 (W8 n P).2.2.1 (W8 n P).2.2.2.1 (W8 n P).2.2.2.2.1 (W8 n P).2.2.2.2.2.1 (W8 n P).2.2.2.2.2.2.1 (W8 n P).2.2.2.2.2.2.2) (a:A) (b:B) (c:C) (d:D) (e:E) (f:F) (g:G) (i:I):P a b c d e f g i:=hk0 (n:=n) (P:=fun t=>P t.1 t.2.1 t.2.2.1 t.2.2.2.1 t.2.2.2.2.1 t.2.2.2.2.2.1 t.2.2.2.2.2.2.1 t.2.2.2.2.2.2.2) h (.mk a (.mk b (.mk c (.mk d (.mk e (.mk f (.mk g i)))))))
noncomputable def W9 (n:T2 A (T2 B (T2 C (T2 D (T2 E (T2 F (T2 G (T2 I J)))))))) (P:A->B->C->D->E->F->G->I->J->Prop):T2 A (T2 B (T2 C (T2 D (T2 E (T2 F (T2 G (T2 I J))))))):=vw n fun t=>P t.1 t.2.1 t.2.2.1 t.2.2.2.1 t.2.2.2.2.1 t.2.2.2.2.2.1 t.2.2.2.2.2.2.1 t.2.2.2.2.2.2.2.1 t.2.2.2.2.2.2.2.2
theorem hk9 (n:T2 A (T2 B (T2 C (T2 D (T2 E (T2 F (T2 G (T2 I J)))))))) {P:A->B->C->D->E->F->G->I->J->Prop} (h:P (W9 n P).1 (W9 n P).2.1 (W9 n P).2.2.1 (W9 n P).2.2.2.1 (W9 n P).2.2.2.2.1 (W9 n P).2.2.2.2.2.1 (W9 n P).2.2.2.2.2.2.1 (W9 n P).2.2.2.2.2.2.2.1 (W9 n P).2.2.2.2.2.2.2.2) (a:A) (b:B) (c:C) (d:D) (e:E) (f:F) (g:G) (i:I) (j:J):P a b c d e f g i j:=hk0 (n:=n) (P:=fun t=>P t.1 t.2.1 t.2.2.1 t.2.2.2.1 t.2.2.2.2.1 t.2.2.2.2.2.1 t.2.2.2.2.2.2.1 t.2.2.2.2.2.2.2.1 t.2.2.2.2.2.2.2.2) h (.mk a (.mk b (.mk c (.mk d (.mk e (.mk f (.mk g (.mk i j))))))))
noncomputable def W10 (n:T2 A (T2 B (T2 C (T2 D (T2 E (T2 F (T2 G (T2 I (T2 J K))))))))) (P:A->B->C->D->E->F->G->I->J->K->Prop):T2 A (T2 B (T2 C (T2 D (T2 E (T2 F (T2 G (T2 I (T2 J K)))))))):=vw n fun t=>P t.1 t.2.1 t.2.2.1 t.2.2.2.1 t.2.2.2.2.1 t.2.2.2.2.2.1 t.2.2.2.2.2.2.1 t.2.2.2.2.2.2.2.1 t.2.2.2.2.2.2.2.2.1 t.2.2.2.2.2.2.2.2.2
theorem hk10 (n:T2 A (T2 B (T2 C (T2 D (T2 E (T2 F (T2 G (T2 I (T2 J K))))))))) {P:A->B->C->D->E->F->G->I->J->K->Prop} (h:P (W10 n P).1 (W10 n P).2.1 (W10 n P).2.2.1 (W10 n P).2.2.2.1 (W10 n P).2.2.2.2.1 (W10 n P).2.2.2.2.2.1 (W10 n P).2.2.2.2.2.2.1 (W10 n P).2.2.2.2.2.2.2.1 (W10 n P).2.2.2.2.2.2.2.2.1 (W10 n P).2.2.2.2.2.2.2.2.2) (a:A) (b:B) (c:C) (d:D) (e:E) (f:F) (g:G) (i:I) (j:J) (k:K):P a b c d e f g i j k:=hk0 (n:=n) (P:=fun t=>P t.1 t.2.1 t.2.2.1 t.2.2.2.1 t.2.2.2.2.1 t.2.2.2.2.2.1 t.2.2.2.2.2.2.1 t.2.2.2.2.2.2.2.1 t.2.2.2.2.2.2.2.2.1 t.2.2.2.2.2.2.2.2.2) h (.mk a (.mk b (.mk c (.mk d (.mk e (.mk f (.mk g (.mk i (.mk j k)))))))))
end
section
universe u1 u2 u3 u4
variable {A:Sort u1} {B:Sort u2} {C:Sort u3} {D:Sort u4} {G:Prop}
theorem X02 {p q:Prop} (e:p/\q) (f:p->q->G):G:=f e.1 e.2
theorem X03 {p q r:Prop} (e:p/\q/\r) (f:p->q->r->G):G:=X02 e.2 (f e.1)
theorem X04 {p q r s:Prop} (e:p/\q/\r/\s) (f:p->q->r->s->G):G:=X03 e.2 (f e.1)
theorem X05 {p q r s t:Prop} (e:p/\q/\r/\s/\t) (f:p->q->r->s->t->G):G:=X04 e.2 (f e.1)
theorem X06 {p q r s t u:Prop} (e:p/\q/\r/\s/\t/\u) (f:p->q->r->s->t->u->G):G:=X05 e.2 (f e.1)
theorem X11 {p:A->Prop} (e:∃a,p a) (f:∀a,p a->G):G:=e.elim fun a h=>f a h
theorem X12 {p q:A->Prop} (e:∃a,p a/\q a) (f:∀a,p a->q a->G):G:=e.elim fun a h=>X02 h (f a)
theorem X13 {p q r:A->Prop} (e:∃a,p a/\q a/\r a) (f:∀a,p a->q a->r a->G):G:=e.elim fun a h=>X03 h (f a)
theorem X14 {p q r s:A->Prop} (e:∃a,p a/\q a/\r a/\s a) (f:∀a,p a->q a->r a->s a->G):G:=e.elim fun a h=>X04 h (f a)
theorem X15 {p q r s t:A->Prop} (e:∃a,p a/\q a/\r a/\s a/\t a) (f:∀a,p a->q a->r a->s a->t a->G):G:=e.elim fun a h=>X05 h (f a)
theorem X21 {p:A->B->Prop} (e:∃a b,p a b) (f:∀a b,p a b->G):G:=e.elim fun a h=>X11 h (f a)
theorem X22 {p q:A->B->Prop} (e:∃a b,p a b/\q a b) (f:∀a b,p a b->q a b->G):G:=e.elim fun a h=>X12 h (f a)
theorem X23 {p q r:A->B->Prop} (e:∃a b,p a b/\q a b/\r a b) (f:∀a b,p a b->q a b->r a b->G):G:=e.elim fun a h=>X13 h (f a)
theorem X24 {p q r s:A->B->Prop} (e:∃a b,p a b/\q a b/\r a b/\s a b) (f:∀a b,p a b->q a b->r a b->s a b->G):G:=e.elim fun a h=>X14 h (f a)
theorem X25 {p q r s t:A->B->Prop} (e:∃a b,p a b/\q a b/\r a b/\s a b/\t a b) (f:∀a b,p a b->q a b->r a b->s a b->t a b->G):G:=e.elim fun a h=>X15 h (f a)
theorem X31 {p:A->B->C->Prop} (e:∃a b c,p a b c) (f:∀a b c,p a b c->G):G:=e.elim fun a h=>X21 h (f a)
theorem X32 {p q:A->B->C->Prop} (e:∃a b c,p a b c/\q a b c) (f:∀a b c,p a b c->q a b c->G):G:=e.elim fun a h=>X22 h (f a)
theorem X33 {p q r:A->B->C->Prop} (e:∃a b c,p a b c/\q a b c/\r a b c) (f:∀a b c,p a b c->q a b c->r a b c->G):G:=e.elim fun a h=>X23 h (f a)
theorem X34 {p q r s:A->B->C->Prop} (e:∃a b c,p a b c/\q a b c/\r a b c/\s a b c) (f:∀a b c,p a b c->q a b c->r a b c->s a b c->G):G:=e.elim fun a h=>X24 h (f a)
theorem X35 {p q r s t:A->B->C->Prop} (e:∃a b c,p a b c/\q a b c/\r a b c/\s a b c/\t a b c) (f:∀a b c,p a b c->q a b c->r a b c->s a b c->t a b c->G):G:=e.elim fun a h=>X25 h (f a)
theorem X42 {p q:A->B->C->D->Prop} (e:∃a b c d,p a b c d/\q a b c d) (f:∀a b c d,p a b c d->q a b c d->G):G:=e.elim fun a h=>X32 h (f a)
theorem X43 {p q r:A->B->C->D->Prop} (e:∃a b c d,p a b c d/\q a b c d/\r a b c d) (f:∀a b c d,p a b c d->q a b c d->r a b c d->G):G:=e.elim fun a h=>X33 h (f a)
@[elab_as_elim] theorem rwT {a b:A} {P:A->Prop} (h:a=b) (k:P b):P a:=h▸k
@[elab_as_elim] theorem rwS {a b:A} {P:A->Prop} (h:b=a) (k:P b):P a:=h▸k
@[elab_as_elim] theorem rwI {a b:Prop} {P:Prop->Prop} (h:a↔b) (k:P b):P a:=propext h▸k
@[elab_as_elim] theorem rwJ {a b:Prop} {P:Prop->Prop} (h:b↔a) (k:P b):P a:=propext h▸k
end
noncomputable section
theorem w5 (a b:Nat):a<=a - b+b:=Nat.le_add_of_sub_le (GP _)
noncomputable def EZ (l:List Nat):Nat->Nat:=Jg (fun Z=>0) (fun x Z r i=>Mx x (fun j Z=>r j) i) l
noncomputable def fh (l:List Int):List Nat->Int:=Jg (fun Z=>0) (fun c Z r b=>Jg 0 (fun x b Z=>c * x+r b) b) l
noncomputable def jm (l:List Int):List Int->List Int:=Jg (fun m=>m) (fun a l r m=>Jg (a::l) (fun b m Z=>(a+b)::r m) m) l
noncomputable def lw (k:Int) (l:List Int):List Int:=l.map (k * ·)
noncomputable def Ep (i:Nat):List Int:=Mx [1] (fun Z r=>0::r) i
noncomputable def EW (l:List Int):Bool:=l.all fun c=>GL (0<=c)
noncomputable def LP:=Nat×List Int
variable (xs:List Nat)
def Gr (e:LP):Prop:=fh e.2 (1::xs)=e.1
theorem iy (l):∀m xs,fh (jm l m) xs=fh l xs+fh m xs:=by
 induction l with
 |nil=>intro m xs;exact(Kl _).symm
 |cons a l c=>
  intro m xs
  cases m with
  |nil=>cases xs<;>exact(Ng _).symm
  |cons b m=>
   cases xs with
   |nil=>rfl
   |cons x xs=>
    show(a+b) * x+fh (jm l m) xs=(a * x+fh l xs)+(b * x+fh m xs)
    rw [c,Int.add_mul];ac_rfl
theorem iB (k) (l):∀xs,fh (lw k l) xs=k * fh l xs:=by
 induction l with
 |nil=>intro xs;exact(LH _).symm
 |cons a l b=>
  intro xs
  cases xs with
  |nil=>exact(LH _).symm
  |cons x xs=>
   show k * a * x+fh (lw k l) xs=k * (a * x+fh l xs)
   rw [b,Int.mul_add,Int.mul_assoc]
theorem va (i):∀xs,fh (Ep i) xs=EZ xs i:=by
 induction i with
 |zero=>intro xs;cases xs with
  |nil=>rfl
  |cons x xs=>exact(Ng _).trans (Mc _)
 |succ i b=>intro xs;cases xs with
  |nil=>rfl
  |cons x xs=>exact(congrArg (· +_) (Nh _)).trans ((Kl _).trans (b xs))
theorem wB {l:List Int} (h:EW l=Gx):∀xs,0<=fh l xs:=by
 induction l with
 |nil=>intro xs;exact JH _
 |cons a l b=>
  intro xs
  cases xs with
  |nil=>exact JH _
  |cons x xs=>
   have h:=(HM _ _).mp h
   exact MD (ME (of_decide_eq_true h.1) (Hc _)) (b h.2 xs)
/-- relations:what they say,and the form that is then 0 or more -/
def sq (k p q:Nat):Prop:=bif k.beq 13 then p=q else bif k.beq 11 then p<=q else bif k.beq 12 then p<q else bif k.beq 14 then¬p<=q else¬p<q
noncomputable def Dq (k:Nat) (p q:List Int):List Int:=bif k.beq 13 then jm q (lw (-1) p) else bif k.beq 11 then jm q (lw (-1) p) else bif k.beq 12 then jm [-1] (jm q (lw (-1) p)) else bif k.beq 14 then jm [-1] (jm p (lw (-1) q)) else jm p (lw (-1) q)
noncomputable def CU (l:Nat):Int:=bif l.blt 8 then -(l:Int) else(l:Int) - 8
def F5:Nat->Nat->List LP->Bool->List Int->List Int->Prop->Prop:=
 Mx (fun Z Z Z Z Z Z=>True) fun Z r c d g a b P=>
  bif c.beq 0 then bif g|| !(EW a&&EW b) then True else P
  else bif (c % 16).blt 6 then r (c / 16) ((EZ xs (c % 16),0::Ep (c % 16))::d) g a b P
  else bif (c % 16).beq 6 then bif g&&d.isEmpty then r (c / 16) d Gz [-1] [] False else r (c / 256) ((EZ xs (c / 16 % 16),0::Ep (c / 16 % 16))::d) g a b P
  else bif (c % 16).beq 8 then r (c / 256) ((c / 16 % 16,[((c / 16 % 16:Nat):Int)])::d) g a b P
  else Jg True (fun q d Z=>bif (c % 16).beq 9 then r (c / 256) ((16 * q.1+c / 16 % 16,[((16 * q.1+c / 16 % 16:Nat):Int)])::d) g a b P
   else Jg True (fun p d Z=>
    bif (c % 16).beq 7 then r (c / 16) ((p.1+q.1,jm p.2 q.2)::d) g a b P
    else bif (c % 16).beq 10 then r (c / 16) ((p.1 * q.1,lw p.1 q.2)::d) g a b P
    else(fun L=>bif g then r (c / 256) d Gz L (bif (c % 16).beq 13 then lw (-1) L else []) (sq (c % 16) p.1 q.1)
     else bif (c % 16).beq 13 then r (c / 256) d Gz (jm (lw (CU (c / 16 % 16)) L) a) (Jg [] (fun Z Z Z=>jm (lw (-1 * CU (c / 16 % 16)) L) b) b) (sq (c % 16) p.1 q.1->P)
     else bif (c / 16 % 16).blt 8 then r (c / 256) d Gz (jm (lw (CU (c / 16 % 16)) L) a) b (sq (c % 16) p.1 q.1->P) else True) (Dq (c % 16) p.2 q.2)) d) d
def ig (c:Nat):Prop:=F5 xs 99 c [] Gx [] [] True
theorem bi {b:Bool} {P Q:Prop} (h:b=Gx->P) (h':b=Gz->Q):bif b then P else Q:=match b with
 |true=>h rfl
 |false=>h' rfl
def BA (st:List LP):Prop:=∀e∈st,fh e.2 (1::xs)=e.1
variable {xs}
theorem BA.cons {st:List LP} {d f} (h:BA xs st) (e:fh f (1::xs)=(d:Nat)):BA xs ((d,f)::st):=IG.mpr ⟨e,h⟩
theorem vI (d:Nat):fh [(d:Int)] (1::xs)=d:=(Ng _).trans (Int.mul_one _)
theorem wC (p q:List Int) (b):fh (jm q (lw (-1) p)) b=fh q b - fh p b:=by rw [iy,iB,Int.neg_one_mul,Int.sub_eq_add_neg]
theorem C0 (l:List Int):fh (jm [-1] l) (1::xs)= -1+fh l (1::xs):=iy _ _ _
theorem Ck {p q:Nat} {f g:List Int} (hp:fh f (1::xs)=p) (b:fh g (1::xs)=q) (k:Nat):sq k p q↔bif k.beq 13 then fh (Dq k f g) (1::xs)=0 else 0<=fh (Dq k f g) (1::xs):=by
 unfold Dq sq
 cases k.beq 13 with
 |true=>show p=q↔fh (jm g (lw (-1) f)) (1::xs)=0;rw [wC,hp,b];omega
 |false=>
 cases k.beq 11 with
 |true=>show p<=q↔0<=fh (jm g (lw (-1) f)) (1::xs);rw [wC,hp,b];omega
 |false=>
 cases k.beq 12 with
 |true=>show p<q↔0<=fh (jm [-1] (jm g (lw (-1) f))) (1::xs);rw [C0,wC,hp,b];omega
 |false=>
 cases k.beq 14 with
 |true=>show¬p<=q↔0<=fh (jm [-1] (jm f (lw (-1) g))) (1::xs);rw [C0,wC,hp,b];omega
 |false=>show¬p<q↔0<=fh (jm f (lw (-1) g)) (1::xs);rw [wC,hp,b];omega
theorem cA (f:Nat):∀c st g a b P,BA xs st->(g=Gz->0<=fh a (1::xs)->0<=fh b (1::xs)->P)->F5 xs f c st g a b P:=by
 induction f with
 |zero=>intros;trivial
 |succ f i=>
  intro c st g a b P d j;refine bi (fun Y=>bi (fun Y=>trivial) fun h=>?_) fun Y=>bi (fun Y=>i _ _ _ _ _ _ (d.cons ?_) j) fun Y=>bi (fun Y=>bi (fun Y=>i _ _ _ _ _ _ d fun Y h=>?_) fun Y=>i _ _ _ _ _ _ (d.cons ((congrArg (· +_) (Nh _)).trans ((Kl _).trans (va _ _)))) j) fun Y=>bi (fun Y=>i _ _ _ _ _ _ (d.cons (vI _)) j) fun Y=>?_
  ·simp only [NA,Lo,HM] at h;exact j h.1 (wB h.2.1 _) (wB h.2.2 _)
  ·exact(congrArg (· +_) (Nh _)).trans ((Kl _).trans (va _ _))
  ·exact absurd h (by show¬(0:Int)<= -1 * (1:Nat)+0;decide)
  ·cases st with
   |nil=>trivial
   |cons q st=>
   obtain⟨o,d⟩:=IG.mp d;refine bi (fun Y=>i _ _ _ _ _ _ (BA.cons d (vI _)) j) fun Y=>?_
   cases st with
   |nil=>trivial
   |cons p st=>
   obtain⟨l,d⟩:=IG.mp d;refine bi (fun Y=>i _ _ _ _ _ _ (BA.cons d ?_) j) fun Y=>bi (fun Y=>i _ _ _ _ _ _ (BA.cons d ?_) j) fun Y=>?_
   ·rw [iy,l,o];rfl
   ·rw [iB,o];rfl
   ·have R:=Ck l o (c % 16)
    dsimp only;revert R;generalize Dq (c % 16) p.2 q.2=L;generalize sq (c % 16) p.1 q.1=Z;intro R;refine bi (fun Y=>i _ _ _ _ _ _ d fun Y h m=>R.mpr ?_) fun r=>?_
    ·revert m
     cases(c % 16).beq 13 with
     |true=>intro m;have m:0<=fh (lw (-1) L) (1::xs):=m;rw [iB] at m;show fh L (1::xs)=0;omega
     |false=>intro _;exact h
    ·cases h:(c % 16).beq 13 with
     |true=>
      refine i _ _ _ _ _ _ d fun Y n k z=>?_
      have e:=R.mp z
      rw [h] at e
      have e:fh L (1::xs)=0:=e
      refine j r ?_ ?_
      ·rw [iy,iB,e,LH,Kl] at n;exact n
      ·cases b with
       |nil=>exact JH _
       |cons b s=>
        have k:0<=fh (jm (lw (-1 * CU (c / 16 % 16)) L) (b::s)) (1::xs):=k
        rw [iy,iB,e,LH,Kl] at k;exact k
     |false=>
      refine(bi (fun t=>i _ _ _ _ _ _ d fun Y n k z=>j r ?_ k) fun Y=>trivial:bif (c / 16 % 16).blt 8 then _ else _)
      have e:=R.mp z
      rw [h] at e;rw [iy,iB,show CU (c / 16 % 16)=_ from congrArg (cond · _ _) t] at n
      have:=ME (Hc (c / 16 % 16)) e
      rw [cond_true,Int.neg_mul] at n;omega
theorem l0 (c:Nat):ig [] c:=cA _ _ _ _ _ _ _ (fun Z h=>nomatch h) nofun
theorem l1 {x:Nat} (c:Nat):ig [x] c:=cA _ _ _ _ _ _ _ (fun Z h=>nomatch h) nofun
theorem l2 {x y:Nat} (c:Nat):ig [x,y] c:=cA _ _ _ _ _ _ _ (fun Z h=>nomatch h) nofun
theorem l3 {x y z:Nat} (c:Nat):ig [x,y,z] c:=cA _ _ _ _ _ _ _ (fun Z h=>nomatch h) nofun
theorem l4 {x y z w:Nat} (c:Nat):ig [x,y,z,w] c:=cA _ _ _ _ _ _ _ (fun Z h=>nomatch h) nofun
theorem l5 {x y z w t:Nat} (c:Nat):ig [x,y,z,w,t] c:=cA _ _ _ _ _ _ _ (fun Z h=>nomatch h) nofun
theorem l6 {x y z w t r:Nat} (c:Nat):ig [x,y,z,w,t,r] c:=cA _ _ _ _ _ _ _ (fun Z h=>nomatch h) nofun
theorem l7 {x y z w t r p:Nat} (c:Nat):ig [x,y,z,w,t,r,p] c:=cA _ _ _ _ _ _ _ (fun Z h=>nomatch h) nofun
theorem l8 {x y z w t r p q:Nat} (c:Nat):ig [x,y,z,w,t,r,p,q] c:=cA _ _ _ _ _ _ _ (fun Z h=>nomatch h) nofun
theorem l9 {x y z w t r p q s:Nat} (c:Nat):ig [x,y,z,w,t,r,p,q,s] c:=cA _ _ _ _ _ _ _ (fun Z h=>nomatch h) nofun
theorem Gm {x y z w t r p q s u:Nat} (c:Nat):ig [x,y,z,w,t,r,p,q,s,u] c:=cA _ _ _ _ _ _ _ (fun Z h=>nomatch h) nofun
theorem Gp {x y z w t r p q s u v:Nat} (c:Nat):ig [x,y,z,w,t,r,p,q,s,u,v] c:=cA _ _ _ _ _ _ _ (fun Z h=>nomatch h) nofun
theorem Gq {x y z w t r p q s u v m:Nat} (c:Nat):ig [x,y,z,w,t,r,p,q,s,u,v,m] c:=cA _ _ _ _ _ _ _ (fun Z h=>nomatch h) nofun
end
set_option maxRecDepth 100000
set_option maxHeartbeats 1000000
open Lean in
def tp (s:String) (a:List Syntax):Syntax:=
 (((((((s.replace "?" "[ '? '_ ]~syntheticHole").replace "{" "[ [ [").replace "}" "]null ]!tacticSeq1Indented ]!tacticSeq").replace "!" "Lean.Parser.Tactic.").replace "~" "Lean.Parser.Term.").splitOn " ").foldl (fun l t=>match t.toList with
 | '[' :: _ => .missing::l
 | ']' :: r => let p:=l.span (!·.isMissing); .node .none (My r).toName p.1.reverse.toArray::p.2.tail
 | '\'' :: r => .atom .none (My r)::l
 | '$' :: r => a.getD (My r).toNat! .missing::l
 | '*' :: _ => a.head!.getArgs.toList.reverse++l
 | _ => mkIdent t.toName::l) []).head!
open Lean in
def gz (x:Array Syntax) (e:String):Syntax:=
 let k:=x.size
 tp ("[ '( { [ 'revert [ * ]null ]!revert '; [ 'refine [ 'no_implicit_lambda% [ hk"++toString k++" [ ? ? ]null ]~app ]~noImplicitLambda ]!refine '; [ 'next [ ]null '=> { [ 'repeat { [ 'first [ [ '| { [ 'exact default ]!exact } ]group [ '| { [ 'exact [ '0 ]num ]!exact } ]group [ '| { [ 'exact True ]!exact } ]group [ '| { [ 'intro [ [ '_ ]~hole ]null ]!intro } ]group [ '| { [ 'constructor ]!constructor } ]group ]null ]!first } ]!tacticRepeat_ } ]!«tacticNext_=>_»"++((JD k).foldl (fun (g,t) j=>(g++" '; [ 'generalize [ [ [ ]null "++(if j+1=k then t else "[ "++t++" '. [ '1 ]fieldIdx ]~proj")++" '= $"++toString (j+1)++" ]!generalizeArg ]null [ ]null ]!generalize","[ "++t++" '. [ '2 ]fieldIdx ]~proj")) ("","[ W"++toString k++" [ [ '_ ]~hole [ '_ ]~hole ]null ]~app")).1++e++" } ') ]!paren") (mkNullNode x::x.toList)
local macro_rules | `(tactic| injections $x*) => return gz (Lean.TSyntaxArray.raw x) ""
local macro_rules | `(tactic| delta $x*) => return gz (Lean.TSyntaxArray.raw x) " '; [ 'set_option tactic.hygienic [ ]null 'false 'in { [ 'intros [ ]null ]!intros } ]!set_option"
local macro_rules | `(tactic| obtain ⟨$ps,*⟩ := $e) => do
 let ps:=ps.getElems.toList.map (·.raw)
 let n:=ps.length
 if n<2||ps.dropLast.any fun p=>p[0][0].getNumArgs>1 then Lean.Macro.throwUnsupported
 let q:=ps.zipIdx.map fun (p,i)=>let c:=p[0][0][0]; if p[0][0].getNumArgs=1&&(c.isOfKind `Lean.Parser.Tactic.rcasesPat.one&&c[0].getId != `rfl||c.isOfKind `Lean.Parser.Tactic.rcasesPat.ignore) then (if c.isOfKind `Lean.Parser.Tactic.rcasesPat.one then c[0] else tp "[ '_ ]~hole" [],"") else (tp s!"zq{i}{n}" [],s!" '; [ 'obtain [ ${2+i} ]null [ ]null [ ':= [ zq{i}{n} ]null ]null ]!obtain")
 return tp ("[ 'first ["++String.join ((JD n).map fun k=>if k<=4&&n-k<=7 then s!" [ '| \{ [ 'refine [ X{k}{n-k} [ $1 ? ]null ]~app ]!refine"++(if e.raw.isIdent then " '; [ 'try { [ 'clear [ $1 ]null ]!clear } ]!tacticTry_" else "")++" '; [ 'intro [ * ]null ]!intro"++String.join (q.map (·.2))++" } ]group" else "")++s!" [ '| \{ [ 'rcases [ [ [ ]null $1 ]!elimTarget ]null [ 'with [ [ [ [ '⟨ [ ${n+2} ]null '⟩ ]!rcasesPat.tuple ]null ]!rcasesPatMed [ ]null ]!rcasesPatLo ]null ]!rcases } ]group ]null ]!first") (Lean.mkNullNode (q.map (·.1)).toArray::e::ps.map (fun p=>p[0])++[Lean.Syntax.mkSep ps.toArray (.atom .none ",")])
local macro_rules | `(tactic| cases $x:ident $y:inductionAlts) => return tp ("[ 'first ["++String.join (["V","List","Nat","Tr","Option","Bool","Cell"].map fun t=>" [ '| { [ 'induction [ [ [ ]null $0 ]!elimTarget ]null [ 'using "++t++".cases"++(if t="Nat" then "Aux" else "")++"On ]null [ ]null [ $1 ]null ]!induction } ]group")++" [ '| { [ 'cases [ [ [ ]null [ [ '( [  ]hygieneInfo ]~hygienicLParen $0 ') ]~paren ]!elimTarget ]null [ ]null [ $1 ]null ]!cases } ]group ]null ]!first") [x,y]
local macro_rules | `(tactic| rw [$r,*]) => do
 let A:="[ '( { [ 'first [ [ '| { [ 'refine [ rwT [ [ $0 [ [ '.. ]~ellipsis ]null ]~app ? ]null ]~app ]!refine } ]group [ '| { [ 'refine [ rwI [ [ $0 [ [ '.. ]~ellipsis ]null ]~app ? ]null ]~app ]!refine } ]group [ '| { [ 'rewrite [ [ ]null ]!optConfig [ '[ [ $1 ]null '] ]!rwRuleSeq [ ]null ]!rewriteSeq } ]group ]null ]!first '; [ 'try { [ 'with_reducible { [ 'rfl ]!tacticRfl } ]!withReducible } ]!tacticTry_ } ') ]!paren"
 return tp "[ '( { * } ') ]!paren" [Lean.Syntax.mkSep ((Lean.TSyntaxArray.raw r.getElems).map fun r=>tp (if r[0].getNumArgs=0 then A else (A.replace "wT" "wS").replace "wI" "wJ") [r[1],r]) (.atom .none ";")]
local macro_rules | `(tactic| show $t) => return tp "[ 'refine [ 'no_implicit_lambda% [ [ '( [  ]hygieneInfo ]~hygienicLParen ? ': [ $0 ]null ') ]~typeAscription ]~noImplicitLambda ]!refine" [t]
section
local macro_rules | `(tactic| cases $x:ident) => return tp "[ 'first [ [ '| { [ 'exact [ absurd [ [ '( a ':= [ [ '@ Eq ]~explicit [ Nat [ '_ ]~hole [ '_ ]~hole ]null ]~app ') ]~namedArgument $0 [ 'by { [ 'decide [ [ ]null ]!optConfig ]!decide } ]~byTactic ]null ]~app ]!exact } ]group [ '| { [ 'injection $0 [ ]null ]!injection '; [ 'done ]!done } ]group [ '| { [ 'injection $0 [ 'with [ q1 q2 q3 q4 q5 q6 ]null ]null ]!injection '; $1 '; $2 '; $3 '; $4 '; $5 '; $6 } ]group [ '| { [ 'injection $0 [ 'with [ q1 q2 q3 q4 q5 ]null ]null ]!injection '; $1 '; $2 '; $3 '; $4 '; $5 } ]group [ '| { [ 'injection $0 [ 'with [ q1 q2 q3 q4 ]null ]null ]!injection '; $1 '; $2 '; $3 '; $4 } ]group [ '| { [ 'injection $0 [ 'with [ q1 q2 q3 ]null ]null ]!injection '; $1 '; $2 '; $3 } ]group [ '| { [ 'injection $0 [ 'with [ q1 q2 ]null ]null ]!injection '; $1 '; $2 } ]group [ '| { [ 'injection $0 [ 'with [ q1 ]null ]null ]!injection '; $1 } ]group [ '| { [ 'subst [ $0 ]null ]!subst } ]group ]null ]!first" (x.raw::["q1","q2","q3","q4","q5","q6"].map fun q=>tp ("[ 'cases [ [ [ ]null "++q++" ]!elimTarget ]null [ ]null [ ]null ]!cases") [])
noncomputable def dG:Bool->G8->Array G8->Nat->Nat->Nat->StateT Hf Kz (Option Nat):=sortPriv% PySem.Builtin.gallop
def mK (p:G8):Prop:=∃n t,p.1=.int n t
structure SW (a₀:Array G8) (st:Hf):Prop where
 perm:(Ij st).Perm a₀
 kind:IV st=Ic
 failed:Lf st=Gw
section
variable {prog:Ip} {w:Hk} {A:Hi} {E:GB->GD->Prop} {s:GD} {a₀:Array G8} {st:Hf}
theorem nU {x y:G8} {Q:Option Bool->Hf->Prop} (c:IV st=Ic) (d:mK x) (e:mK y) (h:∀b,Q (Gu b) st):KA (GR prog w) A E s (lt' x y) Q st:=by
 obtain⟨a,t,f⟩:=d;obtain⟨b,u,g⟩:=e;rw [lt'_eq,f,g];refine GS (Ki ?_);rw [c,keyLt'_oneType];refine GS (Lr (wpAny_attempt (oneLt_int ⟨rfl,?_⟩)));exact GX (h _)
theorem aX {xs:Array G8} {i:Nat} (hi:i<xs.size) {Q:G8->Hf->Prop} (h:Q xs[i] st):KA (GR prog w) A E s (JP xs i) Q st:=by
 rw [elem'_eq,getElem?_pos xs i hi];exact GX h
noncomputable def im (b:Bool) (c:G8) (d:Array G8) (base i:Nat):StateT Hf Kz (Option Bool):=do
 let x<-JP d (base+i)
 if b then lt' x c else return (<-lt' c x).map (!·)
theorem tt (left:Bool) (key:G8) (arr:Array G8) (base n hint:Nat):dG left key arr base n hint=(do
 let mut lastofs:=0
 let mut ofs:=1
 let mut lo:=0
 let mut hi:=0
 let Gu right<-im left key arr base hint|return Gw
 if right then
  let maxofs:=n - hint
  for _ in [0:n] do
   if ofs>=maxofs then break
   let Gu more<-im left key arr base (hint+ofs) |return Gw
   if !more then break
   lastofs:=ofs
   ofs:=2 * ofs+1
  lo:=hint+lastofs+1
  hi:=hint+min ofs maxofs
 else
  let maxofs:=hint+1
  for _ in [0:n] do
   if ofs>=maxofs then break
   let Gu found<-im left key arr base (hint - ofs) |return Gw
   if found then break
   lastofs:=ofs
   ofs:=2 * ofs+1
  lo:=hint+1 - O6 ofs maxofs
  hi:=hint - lastofs
 for _ in [0:n] do
  if lo>=hi then break
  let m:=lo+(hi - lo) / 2
  let Gu more<-im left key arr base m|return Gw
  if more then lo:=m+1 else hi:=m
 return Gu hi):=rfl
theorem fU {d:Bool} {g:G8} {c:Array G8} {base i:Nat} (k:IV st=Ic) (e:mK g) (f:∀j (h:j<c.size),mK c[j]) (hi:base+i<c.size) {Q:Option Bool->Hf->Prop} (h:∀b,Q (Gu b) st):KA (GR prog w) A E s (im d g c base i) Q st:=by
 refine GS (aX hi ?_);cases d
 ·exact GS (nU k e (f _ hi) fun b=>GX (h _))
 ·exact nU k (f _ hi) e h
noncomputable def CW (left:Bool) (key:G8) (arr:Array G8) (base n lo' hi':Nat):StateT Hf Kz (Option Nat):=do
 let mut lo:=lo'
 let mut hi:=hi'
 for _ in [0:n] do
  if lo>=hi then break
  let m:=lo+(hi - lo) / 2
  let Gu more<-im left key arr base m|return Gw
  if more then lo:=m+1 else hi:=m
 return Gu hi
theorem xH {f:Bool} {g:G8} {d:Array G8} {base n lo hi:Nat} (p:IV st=Ic) (i:mK g) (m:∀j (h:j<d.size),mK d[j]) (q:hi<=n) (t:base+n<=d.size) {Q:Option Nat->Hf->Prop} (h:∀k,k<=n->Q (Gu k) st):KA (GR prog w) A E s (CW f g d base n lo hi) Q st:=by
 refine GS (HG (I:=fun Z c e=>e=st/\∃l r,c=(Gw,l,r)/\r<=n) (Q:=_) ?step ?fin ⟨rfl,lo,hi,rfl,q⟩)
 case fin=>
  rintro c e ⟨rfl,l,r,rfl,o⟩
  exact GX (h r o)
 case step=>
  rintro x c e _ _ ⟨rfl,l,r,rfl,o⟩
  dsimp only
  split
  ·exact GX (GX (h r o))
  ·refine GS (fU p i m (by lia) fun b=>?_)
   cases b
   ·exact GX ⟨rfl,l,_,rfl,by lia⟩
   ·exact GX ⟨rfl,_,r,rfl,o⟩
theorem di {g:Bool} {o:G8} {f:Array G8} {base n d:Nat} (t:IV st=Ic) (i:mK o) (m:∀j (h:j<f.size),mK f[j]) (q:d<n) (u:base+n<=f.size) {Q:Option Nat->Hf->Prop} (h:∀k,k<=n->Q (Gu k) st):KA (GR prog w) A E s (dG g o f base n d) Q st:=by
 revert g o f base n d Q;delta prog w A E s st;revert Q;delta g o f base n d;delta Q;rw [tt];refine GS (fU t i m ((l4 0x1b27101c131c2730) u q) fun p=>?_);delta p;dsimp only
 have G:∀y v,v<=n->KA (GR prog w) A E s (CW g o f base n y v) Q st:=fun y v q=>xH t i m q u h
 cases p
 ·simp only [HC,if_false];refine GS (HG (I:=fun Z c e=>e=st/\∃l r,c=(Gw,l,r)) (Q:=fun c e=>KA (GR prog w) A E s _ Q e) ?step ?fin ⟨rfl,0,1,rfl⟩)
  case fin=>
   rintro c e ⟨rfl,l,r,rfl⟩
   exact G (d+1 - O6 r (d+1)) (d - l) ((l3 30864090077968) q (HU _ _))
  case step=>
   rintro x c e _ _ ⟨rfl,l,r,rfl⟩
   dsimp only
   split
   ·exact GX (show KA _ _ _ _ _ _ _ from G (d+1 - O6 r (d+1)) (d - l) ((l3 30864090077968) q (HU _ _)))
   ·refine GS (fU t i m ((l5 0x1b27401c431b311c2710) u q (HU _ _)) fun b=>?_);cases b
    ·exact GX ⟨rfl,_,_,rfl⟩
    ·exact GX (show KA _ _ _ _ _ _ _ from G (d+1 - O6 r (d+1)) (d - l) ((l3 30864090077968) q (HU _ _)))
 ·simp only [if_true];refine GS (HG (I:=fun Z c e=>e=st/\∃l r,c=(Gw,l,r)) (Q:=fun c e=>KA (GR prog w) A E s _ Q e) ?step2 ?mfin2 ⟨rfl,0,1,rfl⟩)
  case mfin2=>
   rintro c e ⟨rfl,l,r,rfl⟩
   exact G (d+l+1) (d+min r (n - d)) ((l4 0x1d27031b311b2710) (Ha (Ie q)) (Nat.min_le_right _ _))
  case step2=>
   rintro x c e _ _ ⟨rfl,l,r,rfl⟩
   dsimp only
   split
   ·exact GX (show KA _ _ _ _ _ _ _ from G (d+l+1) (d+min r (n - d)) (by lia))
   ·refine GS (fU t i m (by lia) fun b=>?_)
    cases b
    ·exact GX (show KA _ _ _ _ _ _ _ from G (d+l+1) (d+min r (n - d)) (by lia))
    ·exact GX ⟨rfl,_,_,rfl⟩
end
noncomputable def setMinGallop':Nat->StateT Hf Kz Unit:=sortPriv% PySem.Builtin.setMinGallop
noncomputable def jl:Array G8->Array G8->StateT Hf Kz (Array G8):=sortPriv% PySem.Builtin.mergeLo
theorem iM (g:Nat):setMinGallop' g=modify fun st=>O7 (IV st) (Ij st) (HL st) g (Lf st):=rfl
noncomputable abbrev L2:=Option (Array G8)×Array G8×Nat×Nat×Nat×Nat×Nat
noncomputable def vh (a b out:Array G8) (c d f k e:Nat):StateT Hf Kz (ForInStep L2):=do
 let z<-JP a c
 if(c+1+1==a.size)=Gx then HH (.done (Gu (out.push z++b.extract d b.size++a.extract (c+1) a.size),out.push z,c+1,d,f,k,e))
 else if(GL (k<7)&&GL (e<7))=Gx then HH (.done (Gw,out.push z,c+1,d,f,k,e))
 else HH (.yield (Gw,out.push z,c+1,d,f,k,e))
noncomputable def mfin2 (a b out:Array G8) (e c f k k0:Nat):StateT Hf Kz (ForInStep L2):=do
 let x<-JP a e
 let y<-dG Gx x b c (b.size - c) 0
 match y with
 |some d=>
  if d>0 then
   if(c+d==b.size)=Gx then HH (.done (Gu (out++b.extract c (c+d)++a.extract e a.size++b.extract (c+d) b.size),out++b.extract c (c+d),e,c+d,f,k,d))
   else vh a b (out++b.extract c (c+d)) e (c+d) f k d
  else vh a b out e c f k d
 |x=>HH (.done (Gu (out++a.extract e a.size++b.extract c b.size),out,e,c,f,k,k0))
noncomputable def Bp (a b out:Array G8) (d c e k k0:Nat):StateT Hf Kz (ForInStep L2):=do
 let z<-JP b c
 if(c+1==b.size)=Gx then HH (.done (Gu (out.push z++a.extract d a.size++b.extract (c+1) b.size),out.push z,d,c+1,e,k,k0))
 else mfin2 a b (out.push z) d (c+1) e k k0
structure jx (a b out:Array G8) (ia ib:Nat):Prop where
 perm:(out.toList++(a.toList.drop ia++b.toList.drop ib)).Perm (a.toList++b.toList)
 la:ia<=a.size
 lb:ib<=b.size
section
variable {a b out:Array G8} {c d:Nat}
theorem lz {a:Array G8} {i:Nat} (h:i<a.size):a.toList.drop i=a[i]::a.toList.drop (i+1):=by
 rw [Kw (by simpa using h)];rfl
theorem lg {a:Array G8} {i k:Nat} (h:i+k<=a.size):a.toList.drop i=(a.extract i (i+k)).toList++a.toList.drop (i+k):=by
 rw [JY,Jr,KT, <-OG,Lb]
theorem jx.pa (h:jx a b out c d) (q:c<a.size):jx a b (out.push a[c]) (c+1) d:=by
 refine⟨.trans ?_ h.perm,q,h.lb⟩;rw [IF,lz q,GO];exact .refl _
theorem jx.pb (h:jx a b out c d) (q:d<b.size):jx a b (out.push b[d]) c (d+1):=by
 refine⟨.trans ?_ h.perm,h.la,q⟩;rw [IF,lz q,GO];rw [List.singleton_append];exact Hp _ List.perm_middle.symm
theorem jx.pak {k:Nat} (h:jx a b out c d) (q:c+k<=a.size):jx a b (out++a.extract c (c+k)) (c+k) d:=by
 refine⟨.trans ?_ h.perm,q,h.lb⟩;rw [HE,lg q,GO,GO]
theorem jx.pbk {k:Nat} (h:jx a b out c d) (q:d+k<=b.size):jx a b (out++b.extract d (d+k)) c (d+k):=by
 refine⟨.trans ?_ h.perm,h.la,q⟩;rw [HE,lg q,GO];refine Hp _ ?_;rw [<-GO, <-GO];exact H6.append_right _
theorem oa (a:Array G8) (i:Nat):(a.extract i a.size).toList=a.toList.drop i:=by
 rw [JY,Jr];exact Iq (by simp)
theorem jx.done (h:jx a b out c d):(out++a.extract c a.size++b.extract d b.size).Perm (a++b):=by
 rw [Hy];simp only [HE,oa,GO];exact h.perm
theorem jx.last (h:jx a b out c d):(out++b.extract d b.size++a.extract c a.size).Perm (a++b):=by
 rw [Hy];simp only [HE,oa,GO];exact .trans (H6.append_left _) h.perm
end
structure dE (st st':Hf):Prop where
 arr:Ij st'=Ij st
 pend:HL st'=HL st
 kind:IV st'=IV st
 failed:Lf st'=Lf st
theorem dE.refl (st:Hf):dE st st:=⟨rfl,rfl,rfl,rfl⟩
theorem dE.trans {a b c:Hf} (h:dE a b) (h':dE b c):dE a c:=⟨h'.arr.trans h.arr,h'.pend.trans h.pend,h'.kind.trans h.kind,h'.failed.trans h.failed⟩
structure fX (a b out:Array G8) (ia ib m:Nat):Prop where
 s:jx a b out ia ib
 la:ia+1<a.size
 lb:ib<b.size
 m:m<=ia+ib
inductive Out2 (a b:Array G8) (m:Nat):ForInStep L2->Prop where
 |res (x:Array G8) (c) (h:x.Perm (a++b)):Out2 a b m (.done (Gu x,c))
 |out (out:Array G8) (ia ib:Nat) (c) (h:fX a b out ia ib m):Out2 a b m (.done (Gw,out,ia,ib,c))
 |on (out:Array G8) (ia ib:Nat) (c) (h:fX a b out ia ib m):Out2 a b m (.yield (Gw,out,ia,ib,c))
def bV (a:Array G8):Prop:=∀j (h:j<a.size),mK a[j]
section
variable {prog:Ip} {w:Hk} {A:Hi} {E:GB->GD->Prop} {s:GD} {st:Hf} {a b out:Array G8} {c d m i k k0 f:Nat} {Q:ForInStep L2->Hf->Prop}
theorem rS (h:jx a b out c d) (n:c+1<a.size) (o:d<b.size) (p:m<=c+d) (j:∀r,Out2 a b (m+1) r->Q r st):KA (GR prog w) A E s (vh a b out c d i k f) Q st:=by
 have q:c<a.size:=(l2 1930344537104) n
 refine GS (aX q ?_)
 have l:=h.pa q
 split
 ·exact GX (j _ (.res _ _ l.last))
 ·rename_i z
  replace z:¬c+1+1=a.size:=fun e=>z (beq_iff_eq.mpr e)
  have g:fX a b (out.push a[c]) (c+1) d (m+1):=⟨l,by lia,o,(l3 0x1b72101b7271817180) p⟩
  split
  ·exact GX (j _ (.out _ _ _ _ g))
  ·exact GX (j _ (.on _ _ _ _ g))
theorem zr (o:IV st=Ic) (p:bV a) (t:bV b) (h:jx a b out c d) (j:c+1<a.size) (l:d<b.size) (u:m<=c+d) (g:∀r,Out2 a b (m+1) r->Q r st):KA (GR prog w) A E s (mfin2 a b out c d i k k0) Q st:=by
 have q:c<a.size:=(l2 1930344537104) j
 refine GS (aX q ?_);refine GS (di o (p _ q) t (by exact(l3 0x1c121b72011c008) l (w5 _ _)) (by exact(l3 32053359486736) (Ha (Ie l))) fun f v=>?_)
 dsimp only
 split
 ·have n:=h.pbk (k:=f) (by lia)
  split
  ·rename_i z;refine GX (g _ (.res _ _ ?_))
   have:=n.last
   have e:=eq_of_beq z
   rw [e] at this ⊢
   have y:b.extract b.size b.size= #[]:=by simp
   rw [y] at this ⊢
   simpa using this
  ·rename_i z
   replace z:¬d+f=b.size:=fun e=>z (beq_iff_eq.mpr e)
   exact rS n j (by lia) (by lia) g
 ·exact rS h j l u g
theorem qT (n:IV st=Ic) (o:bV a) (p:bV b) (h:jx a b out c d) (q:c+1<a.size) (j:d<b.size) (t:m<=c+d) (g:∀r,Out2 a b (m+1) r->Q r st):KA (GR prog w) A E s (Bp a b out c d i k k0) Q st:=by
 refine GS (aX j ?_)
 have l:=h.pb j
 split
 ·exact GX (g _ (.res _ _ l.done))
 ·rename_i z
  replace z:¬d+1=b.size:=fun e=>z (beq_iff_eq.mpr e)
  exact zr n o p l q (by lia) ((l3 0x1b72101b7718210) t) g
end
section
variable {prog:Ip} {w:Hk} {A:Hi} {E:GB->GD->Prop} {s:GD} {st:Hf} {a b out:Array G8} {f l m n k k0 k1:Nat}
theorem fH {Q:Unit->Hf->Prop} (h:∀c,dE st c->Q () c):KA (GR prog w) A E s (setMinGallop' n) Q st:=by
 rw [iM];exact Jw (h _ ⟨rfl,rfl,rfl,rfl⟩)
noncomputable def tE (a b out:Array G8) (f l n d c:Nat):StateT Hf Kz (ForInStep L2):=do
 let z<-JP b l
 let y<-dG Gz z a f (a.size - f) 0
 match y with
 |some k=>
  if k>0 then
   if(f+k+1==a.size)=Gx then HH (.done (Gu (out++a.extract f (f+k)++b.extract l b.size++a.extract (f+k) a.size),out++a.extract f (f+k),f+k,l,n,k,c))
   else if(f+k==a.size)=Gx then HH (.done (Gu (out++a.extract f (f+k)++a.extract (f+k) a.size++b.extract l b.size),out++a.extract f (f+k),f+k,l,n,k,c))
   else Bp a b (out++a.extract f (f+k)) (f+k) l n k c
  else Bp a b out f l n k c
 |x=>HH (.done (Gu (out++a.extract f a.size++b.extract l b.size),out,f,l,n,d,c))
theorem vE {u v:Nat} {Q:ForInStep L2->Hf->Prop} (d:IV st=Ic) (i:bV a) (j:bV b) (g:fX a b out f l m) (c:∀r,Out2 a b (m+1) r->Q r st):KA (GR prog w) A E s (tE a b out f l n u v) Q st:=by
 have p:=g.la
 refine GS (aX g.lb ?_);refine GS (di d (j _ g.lb) i (by exact(l3 0x1c171821b72011c008) p (w5 _ _)) (by lia) fun k y=>?_)
 dsimp only
 have z:=g.m
 split
 ·have o:=g.s.pak (k:=k) (by lia)
  split
  ·exact GX (c _ (.res _ _ o.last))
  ·split
   ·exact GX (c _ (.res _ _ o.done))
   ·rename_i q t
    replace q:¬f+k+1=a.size:=fun e=>q (beq_iff_eq.mpr e)
    replace t:¬f+k=a.size:=fun e=>t (beq_iff_eq.mpr e)
    exact qT d i j o (by lia) g.lb (by lia) c
 ·exact qT d i j g.s p g.lb z c
noncomputable def zQ (a b out:Array G8) (f l n d e:Nat):StateT Hf Kz L2:=
 Oq [:a.size+b.size] ((Gw,out,f,l,n,d,e):L2) fun x c=>
  if c.2.2.2.2.1>1 then do
   setMinGallop' (c.2.2.2.2.1 - 1)
   tE a b c.2.1 c.2.2.1 c.2.2.2.1 (c.2.2.2.2.1 - 1) c.2.2.2.2.2.1 c.2.2.2.2.2.2
  else do
   setMinGallop' c.2.2.2.2.1
   tE a b c.2.1 c.2.2.1 c.2.2.2.1 c.2.2.2.2.1 c.2.2.2.2.2.1 c.2.2.2.2.2.2
inductive End2 (a b:Array G8) (m:Nat):L2->Prop where
 |res (x:Array G8) (c) (h:x.Perm (a++b)):End2 a b m (Gu x,c)
 |out (out:Array G8) (f l:Nat) (c) (h:fX a b out f l m):End2 a b m (Gw,out,f,l,c)
theorem wy {v z:Nat} {Q:L2->Hf->Prop} (B:IV st=Ic) (C:bV a) (D:bV b) (g:fX a b out f l m) (q:∀c p,dE st p->End2 a b (m+1) c->Q c p):KA (GR prog w) A E s (zQ a b out f l n v z) Q st:=by
 refine HG (I:=fun y c p=>dE st p/\∃out f l d,c=(Gw,out,f,l,d)/\fX a b out f l (m+y)) ?step ?fin ⟨.refl _,_,_,_,_,rfl,g⟩
 case fin=>
  rintro c p ⟨S,out,f,l,d,rfl,t⟩
  exact q _ _ S (.out _ _ _ _ ⟨t.s,t.la,t.lb,by have F:=t.m;have G:=g.la;exact(l6 0x1b17401c251b47321b17180) F G (L4 _ _)⟩)
 case step=>
  rintro y c p _ _ ⟨S,out,f,l,d,rfl,t⟩
  dsimp only
  split
  all_goals
   refine GS (fH fun u e=>vE ((S.trans e).kind.trans B) C D t fun r H=>?_)
   cases H with
   |res x c h=>exact q _ _ (S.trans e) (.res _ _ h)
   |out o i j c h=>exact q _ _ (S.trans e) (.out _ _ _ _ ⟨h.s,h.la,h.lb,by have J:=h.m;exact(l3 0x1b27187101b27180) J⟩)
   |on o i j c h=>exact⟨S.trans e,_,_,_,_,rfl,h⟩
noncomputable abbrev L1:=Option (Array G8)×Array G8×Nat×Nat×Nat×Nat
noncomputable def zP (a b out:Array G8) (f l n:Nat):StateT Hf Kz L1:=
 Oq [:a.size+b.size] ((Gw,out,f,l,0,0):L1) fun x c=>do
  let z<-JP b c.2.2.2.1
  let y<-JP a c.2.2.1
  let r<-lt' z y
  match r with
  |some d=>
   if d=Gx then do
    let z<-JP b c.2.2.2.1
    if(c.2.2.2.1+1==b.size)=Gx then HH (.done (Gu (c.2.1.push z++a.extract c.2.2.1 a.size++b.extract (c.2.2.2.1+1) b.size),c.2.1.push z,c.2.2.1,c.2.2.2.1+1,0,c.2.2.2.2.2+1))
    else if c.2.2.2.2.2+1>=n then HH (.done (Gw,c.2.1.push z,c.2.2.1,c.2.2.2.1+1,0,c.2.2.2.2.2+1))
    else HH (.yield (Gw,c.2.1.push z,c.2.2.1,c.2.2.2.1+1,0,c.2.2.2.2.2+1))
   else do
    let z<-JP a c.2.2.1
    if(c.2.2.1+1+1==a.size)=Gx then HH (.done (Gu (c.2.1.push z++b.extract c.2.2.2.1 b.size++a.extract (c.2.2.1+1) a.size),c.2.1.push z,c.2.2.1+1,c.2.2.2.1,c.2.2.2.2.1+1,0))
    else if c.2.2.2.2.1+1>=n then HH (.done (Gw,c.2.1.push z,c.2.2.1+1,c.2.2.2.1,c.2.2.2.2.1+1,0))
    else HH (.yield (Gw,c.2.1.push z,c.2.2.1+1,c.2.2.2.1,c.2.2.2.2.1+1,0))
  |x=>HH (.done (Gu (c.2.1++a.extract c.2.2.1 a.size++b.extract c.2.2.2.1 b.size),c.2.1,c.2.2.1,c.2.2.2.1,c.2.2.2.2.1,c.2.2.2.2.2))
inductive End1 (a b:Array G8) (m:Nat):L1->Prop where
 |res (x:Array G8) (c) (h:x.Perm (a++b)):End1 a b m (Gu x,c)
 |out (out:Array G8) (f l:Nat) (c) (h:fX a b out f l m):End1 a b m (Gw,out,f,l,c)
theorem tT {Q:L1->Hf->Prop} (v:IV st=Ic) (D:bV a) (F:bV b) (g:fX a b out f l m) (i:∀c,End1 a b m c->Q c st):KA (GR prog w) A E s (zP a b out f l n) Q st:=by
 revert l m n Q;delta prog w A E s st a b out f;delta l m n Q;refine HG (I:=fun y c j=>j=st/\∃out f l d,c=(Gw,out,f,l,d)/\fX a b out f l m) ?step ?fin ⟨rfl,_,_,_,_,rfl,g⟩
 case fin=>
  rintro c j ⟨rfl,out,f,l,d,rfl,o⟩
  exact i _ (.out _ _ _ _ o)
 case step=>
  rintro y c j _ _ ⟨rfl,out,f,l,d,rfl,o⟩
  revert out f l d;injections y j;intro _ _ v i out f l d o;delta out f l d;dsimp only
  have B:=o.la
  have p:=o.lb
  have C:=o.m
  have q:f<a.size:=(l2 1930344537104) B
  refine GS (aX p (GS (aX q (GS (nU v (F _ p) (D _ q) fun r=>?_)))))
  cases r with
  |true=>
   refine GS (aX p ?_)
   have t:=o.s.pb p
   split
   ·exact GX (i _ (.res _ _ t.done))
   ·rename_i z
    replace z:¬l+1=b.size:=fun e=>z (beq_iff_eq.mpr e)
    have u:fX a b (out.push b[l]) f (l+1) m:=⟨t,B,by lia,(l3 0x1b72101b7718210) C⟩
    split
    ·exact GX (i _ (.out _ _ _ _ u))
    ·exact GX ⟨rfl,_,_,_,_,rfl,u⟩
  |false=>
   refine GS (aX q ?_)
   have t:=o.s.pa q
   split
   ·exact GX (i _ (.res _ _ t.last))
   ·rename_i z
    replace z:¬f+1+1=a.size:=fun e=>z (beq_iff_eq.mpr e)
    have u:fX a b (out.push a[f]) (f+1) l m:=⟨t,by lia,p,(l3 0x1b72101b7271810) C⟩
    split
    ·exact GX (i _ (.out _ _ _ _ u))
    ·exact GX ⟨rfl,_,_,_,_,rfl,u⟩
end
noncomputable abbrev L0:=Option (Array G8)×Array G8×Nat×Nat×Nat
noncomputable def lo3 (c:L2):StateT Hf Kz (ForInStep L0):=KU c.1 (fun Z=>do
 setMinGallop' (c.2.2.2.2.1+1)
 HH (.yield (Gw,c.2.1,c.2.2.1,c.2.2.2.1,c.2.2.2.2.1+1))) fun x=>HH (.done (Gu x,c.2.1,c.2.2.1,c.2.2.2.1,c.2.2.2.2.1))
noncomputable def lo2 (a b:Array G8) (e:Nat) (c:L1):StateT Hf Kz (ForInStep L0):=KU c.1 (fun Z=>do
 rule "list.sort.gallop"
 let d<-zQ a b c.2.1 c.2.2.1 c.2.2.2.1 (e+1) c.2.2.2.2.1 c.2.2.2.2.2
 lo3 d) fun x=>HH (.done (Gu x,c.2.1,c.2.2.1,c.2.2.2.1,e))
noncomputable def lo1 (a b:Array G8) (c:L0):StateT Hf Kz (ForInStep L0):=do
 let d<-zP a b c.2.1 c.2.2.1 c.2.2.2.1 c.2.2.2.2
 lo2 a b c.2.2.2.2 d
noncomputable def Go (a b:Array G8) (x:G8):StateT Hf Kz (Array G8):=do
 let d<-get
 let c<-Oq [:a.size+b.size] ((Gw, #[x],0,1,gallopOf d):L0) fun Z c=>lo1 a b c
 KU c.1 (fun Z=>liftM (m:=Kz) (Ot "internal:list.sort.merge-bound")) HH
theorem pV (a b:Array G8):jl a b=(do
 rule "list.sort.merge-lo"
 let x<-JP b 0
 if(1==b.size)=Gx then HH (#[x]++a.extract 0 a.size++b.extract 1 b.size)
 else if(0+1==a.size)=Gx then HH (#[x]++b.extract 1 b.size++a.extract 0 a.size)
 else Go a b x):=rfl
section
variable {prog:Ip} {w:Hk} {A:Hi} {E:GB->GD->Prop} {s:GD} {st:Hf} {a b out:Array G8} {f l m mg k k0 k1:Nat}
theorem fX.lt (g:fX a b out f l m):m<a.size+b.size:=by have c:=g.la;have d:=g.lb;have e:=g.m;exact(l5 0x1c171831c241b74301c7210) c d e
theorem aR {d:Type} {c:Prop} [Decidable c] {x y:StateT Hf Kz d} {Q:d->Hf->Prop} (e:c->KA (GR prog w) A E s x Q st) (g:¬c->KA (GR prog w) A E s y Q st):KA (GR prog w) A E s (if c then x else y) Q st:=by
 by_cases h:c
 ·rw [if_pos h];exact e h
 ·rw [if_neg h];exact g h
inductive Out1 (a b:Array G8) (m:Nat):ForInStep L0->Prop where
 |res (x:Array G8) (c) (h:x.Perm (a++b)):Out1 a b m (.done (Gu x,c))
 |on (out:Array G8) (f l d:Nat) (h:fX a b out f l m):Out1 a b m (.yield (Gw,out,f,l,d))
theorem B7 {c:L2} (h:End2 a b m c) {Q:ForInStep L0->Hf->Prop} (d:∀r e,dE st e->Out1 a b m r->Q r e):KA (GR prog w) A E s (lo3 c) Q st:=by
 cases h with
 |res x c h=>exact GX (d _ _ (.refl _) (.res _ _ h))
 |out o i j c h=>exact GS (fH fun g n=>GX (d _ _ n (.on _ _ _ _ h)))
theorem Ct (n:IV st=Ic) (p:bV a) (q:bV b) {c:L1} (h:End1 a b m c) {Q:ForInStep L0->Hf->Prop} (d:∀r e,dE st e->Out1 a b (m+1) r->Q r e):KA (GR prog w) A E s (lo2 a b mg c) Q st:=by
 cases h with
 |res x c h=>exact GX (d _ _ (.refl _) (.res _ _ h))
 |out o i j c h=>exact GS (Lr (KN ⟨rfl,GS (wy n p q h fun B t u v=>B7 v fun r g y z=>d r g (u.trans y) z)⟩))
theorem pT (u:IV st=Ic) (v:bV a) (z:bV b) (C:1<=a.size) (q:1<=b.size) {Q:Array G8->Hf->Prop} (p:∀x n,dE st n->x.Perm (a++b)->Q x n):KA (GR prog w) A E s (jl a b) Q st:=by
 revert Q;delta prog w A E s st a b;delta Q;rw [pV]
 have t:jx a b #[b[0]] 0 1:=(jx.mk (by simp) (G7 _) (G7 _):jx a b #[] 0 0).pb q
 refine GS (Lr (KN ⟨rfl,GS (aX q (aR (fun Z=>GX (p _ _ (.refl _) t.done)) fun D=>aR (fun Z=>GX (p _ _ (.refl _) t.last)) fun F=>GS (Ki (GS ?_))))⟩));refine JZ (HG (I:=fun y c n=>dE st n/\∃out f l d,c=(Gw,out,f,l,d)/\fX a b out f l y) (Q:=fun c n=>dE st n/\∃x d,c=(Gu x,d)/\x.Perm (a++b)) ?step ?fin ⟨.refl _,_,_,_,_,rfl,t,?_,?_,G7 _⟩) ?_
 case fin=>
  rintro c n ⟨S,out,f,l,d,rfl,g⟩
  exact absurd g.lt (HD _)
 case step=>
  rintro y c n _ _ ⟨S,out,f,l,d,rfl,g⟩
  refine GS (tT (S.kind.trans u) v z g fun c G=>Ct (S.kind.trans u) v z G fun r H B J=>?_)
  cases J with
  |res x c h=>exact⟨S.trans B,_,_,rfl,h⟩
  |on o i j d h=>exact⟨S.trans B,_,_,_,_,rfl,h⟩
 ·exact H8 C fun e=>F (beq_iff_eq.mpr e)
 ·exact H8 q fun e=>D (beq_iff_eq.mpr e)
 ·rintro c n ⟨S,x,d,rfl,K⟩
  exact GX (p _ _ S K)
end
noncomputable def jc:Array G8->Array G8->StateT Hf Kz (Array G8):=sortPriv% PySem.Builtin.mergeHi
noncomputable abbrev H2:=Option (Array G8)×Nat×Nat×Array G8×Nat×Nat×Nat
noncomputable def BB (a b out:Array G8) (c d f k e:Nat):StateT Hf Kz (ForInStep H2):=do
 let z<-JP a (c - 1)
 if(c - 1==0)=Gx then HH (.done (Gu (a.extract 0 (c - 1)++b.extract 0 d++(out.push z).reverse),c - 1,d,out.push z,f,k,e))
 else if(GL (k<7)&&GL (e<7))=Gx then HH (.done (Gw,c - 1,d,out.push z,f,k,e))
 else HH (.yield (Gw,c - 1,d,out.push z,f,k,e))
noncomputable def CS (a b out:Array G8) (d c e k k0:Nat):StateT Hf Kz (ForInStep H2):=do
 let x<-JP a (d - 1)
 let y<-dG Gx x b 0 c (c - 1)
 match y with
 |some t=>
  if c - t>0 then
   if(t==1)=Gx then HH (.done (Gu (b.extract 0 t++a.extract 0 d++(out++(b.extract t c).reverse).reverse),d,t,out++(b.extract t c).reverse,e,k,c - t))
   else if(t==0)=Gx then HH (.done (Gu (a.extract 0 d++b.extract 0 t++(out++(b.extract t c).reverse).reverse),d,t,out++(b.extract t c).reverse,e,k,c - t))
   else BB a b (out++(b.extract t c).reverse) d t e k (c - t)
  else BB a b out d c e k (c - t)
 |x=>HH (.done (Gu (a.extract 0 d++b.extract 0 c++out.reverse),d,c,out,e,k,k0))
noncomputable def Bh (a b out:Array G8) (d c e k k0:Nat):StateT Hf Kz (ForInStep H2):=do
 let z<-JP b (c - 1)
 if(c - 1==1)=Gx then HH (.done (Gu (b.extract 0 (c - 1)++a.extract 0 d++(out.push z).reverse),d,c - 1,out.push z,e,k,k0))
 else CS a b (out.push z) d (c - 1) e k k0
noncomputable def tN (a b out:Array G8) (c d e g f:Nat):StateT Hf Kz (ForInStep H2):=do
 let z<-JP b (d - 1)
 let y<-dG Gz z a 0 c (c - 1)
 match y with
 |some t=>
  if c - t>0 then
   if(t==0)=Gx then HH (.done (Gu (a.extract 0 t++b.extract 0 d++(out++(a.extract t c).reverse).reverse),t,d,out++(a.extract t c).reverse,e,c - t,f))
   else Bh a b (out++(a.extract t c).reverse) t d e (c - t) f
  else Bh a b out c d e (c - t) f
 |x=>HH (.done (Gu (a.extract 0 c++b.extract 0 d++out.reverse),c,d,out,e,g,f))
structure jW (a b out:Array G8) (na nb:Nat):Prop where
 perm:(a.toList.take na++(b.toList.take nb++out.toList)).Perm (a.toList++b.toList)
 la:na<=a.size
 lb:nb<=b.size
section
variable {a b out:Array G8} {c d:Nat}
theorem lB {a:Array G8} {i:Nat} (h:i - 1<a.size) (e:1<=i):a.toList.take i=a.toList.take (i - 1)++[a[i - 1]]:=by
 obtain⟨j,rfl⟩:∃j,i=j+1:=⟨i - 1,(l2 0x9d071811d71810) (Ha e)⟩;rw [LC (by simpa using h)];rfl
theorem eT {a:Array G8} {i t:Nat} (h:t<=i) (hi:i<=a.size):a.toList.take i=a.toList.take t++(a.extract t i).toList:=by
 rw [JY,Jr];obtain⟨k,rfl⟩:∃k,i=t+k:=⟨i - t,(l3 0x9d07121d7210) (Ha h)⟩;rw [KT,List.take_add]
theorem jW.pa (h:jW a b out c d) (q:c - 1<a.size) (e:1<=c):jW a b (out.push a[c - 1]) (c - 1) d:=by
 refine⟨.trans ?_ h.perm,(l2 470817552) q,h.lb⟩;rw [IF,lB q e,GO];refine Hp _ ?_;rw [<-GO];exact H6
theorem jW.pb (h:jW a b out c d) (q:d - 1<b.size) (e:1<=d):jW a b (out.push b[d - 1]) c (d - 1):=by
 refine⟨.trans ?_ h.perm,h.la,(l2 470817552) q⟩;rw [IF,lB q e];refine Hp _ ?_;rw [GO];refine Hp _ ?_;exact H6
theorem jW.pak {t:Nat} (h:jW a b out c d) (q:t<=c):jW a b (out++(a.extract t c).reverse) t d:=by
 refine⟨.trans ?_ h.perm,GC q h.la,h.lb⟩;rw [HE,eT q h.la,GO,Jc];refine Hp _ ?_;rw [<-GO];refine H6.trans ?_;exact(KB _).append_right _
theorem jW.pbk {t:Nat} (h:jW a b out c d) (q:t<=d):jW a b (out++(b.extract t d).reverse) c t:=by
 refine⟨.trans ?_ h.perm,h.la,GC q h.lb⟩;rw [HE,eT q h.lb,Jc];refine Hp _ ?_;rw [GO];refine Hp _ ?_;exact H6.trans ((KB _).append_right _)
theorem o6 (a:Array G8) (i:Nat):(a.extract 0 i).toList=a.toList.take i:=by
 rw [JY,Jr];rfl
theorem jW.done (h:jW a b out c d):(a.extract 0 c++b.extract 0 d++out.reverse).Perm (a++b):=by
 rw [Hy];simp only [HE,o6,GO,Jc];exact .trans (Hp _ (Hp _ (KB _))) h.perm
theorem jW.last (h:jW a b out c d):(b.extract 0 d++a.extract 0 c++out.reverse).Perm (a++b):=by
 rw [Hy];simp only [HE,o6,Jc];refine .trans ?_ h.perm;rw [<-GO];exact .trans (Hp _ (KB _)) (H6.append_right _)
end
structure dN (a b out:Array G8) (na nb m:Nat):Prop where
 s:jW a b out na nb
 la:1<=na
 lb:2<=nb
 m:na+nb+m<=a.size+b.size
inductive OutH (a b:Array G8) (m:Nat):ForInStep H2->Prop where
 |res (x:Array G8) (c) (h:x.Perm (a++b)):OutH a b m (.done (Gu x,c))
 |out (out:Array G8) (na nb:Nat) (c) (h:dN a b out na nb m):OutH a b m (.done (Gw,na,nb,out,c))
 |on (out:Array G8) (na nb:Nat) (c) (h:dN a b out na nb m):OutH a b m (.yield (Gw,na,nb,out,c))
section
variable {prog:Ip} {w:Hk} {A:Hi} {E:GB->GD->Prop} {s:GD} {st:Hf} {a b out:Array G8} {c d m f k k0 k1:Nat} {Q:ForInStep H2->Hf->Prop}
theorem rM (h:jW a b out c d) (j:1<=c) (n:2<=d) (o:c+d+m<=a.size+b.size) (i:∀r,OutH a b (m+1) r->Q r st):KA (GR prog w) A E s (BB a b out c d f k k1) Q st:=by
 have q:c - 1<a.size:=by have:=h.la;exact(l3 0x1b121d271801c10) this (Ha j)
 refine GS (aX q ?_)
 have l:=h.pa q j
 refine aR (fun Z=>GX (i _ (.res _ _ l.done))) fun z=>?_
 replace z:¬c - 1=0:=fun e=>z (beq_iff_eq.mpr e)
 have g:dN a b (out.push a[c - 1]) (c - 1) d (m+1):=⟨l,((l1 120267583512) (IA z)),n,(l5 0x1b3727141d471801b377182710) o (Ha j)⟩
 exact aR (fun Z=>GX (i _ (.out _ _ _ _ g))) fun Z=>GX (i _ (.on _ _ _ _ g))
theorem zJ (u:IV st=Ic) (v:bV a) (y:bV b) (h:jW a b out c d) (i:1<=c) (z:2<=d) (l:c+d+m<=a.size+b.size) (g:∀r,OutH a b (m+1) r->Q r st):KA (GR prog w) A E s (CS a b out c d f k k0) Q st:=by
 have q:c - 1<a.size:=by have:=h.la;exact(l3 0x1b121d271801c10) this (Ha i)
 have B:=h.lb
 refine GS (aX q ?_);refine GS (di u (v _ q) y (by lia) (by exact(l2 1859749244936) B) fun t n=>?_)
 dsimp only
 have j:=h.pbk (t:=t) n
 refine aR (fun Z=>aR (fun Z=>GX (g _ (.res _ _ j.last))) fun o=>aR (fun Z=>GX (g _ (.res _ _ j.done))) fun p=>?_) fun Z=>rM h i z l g
 replace o:¬t=1:=fun e=>o (beq_iff_eq.mpr e)
 replace p:¬t=0:=fun e=>p (beq_iff_eq.mpr e)
 exact rM j i (by lia) ((l5 0x1b3727101b141b372740) l n) g
theorem rq (j:IV st=Ic) (l:bV a) (n:bV b) (h:jW a b out c d) (o:1<=c) (p:2<=d) (t:c+d+m<=a.size+b.size) (g:∀r,OutH a b (m+1) r->Q r st):KA (GR prog w) A E s (Bh a b out c d f k k0) Q st:=by
 have u:=h.lb
 have q:d - 1<b.size:=by lia
 refine GS (aX q ?_)
 have i:=h.pb q ((l1 116006170648) p)
 refine aR (fun Z=>GX (g _ (.res _ _ i.last))) fun z=>?_
 replace z:¬d - 1=1:=fun e=>z (beq_iff_eq.mpr e)
 exact zJ j l n i o (by lia) ((l5 0x1b3727401b411b372710) t (HU _ _)) g
theorem uk {B C:Nat} (j:IV st=Ic) (l:bV a) (n:bV b) (g:dN a b out c d m) (i:∀r,OutH a b (m+1) r->Q r st):KA (GR prog w) A E s (tN a b out c d f B C) Q st:=by
 have o:=g.la
 have p:=g.lb
 have u:=g.m
 have D:=g.s.la
 have F:=g.s.lb
 have q:d - 1<b.size:=by lia
 refine GS (aX q ?_);refine GS (di j (n _ q) l ((l2 1999064013840) (Ha o)) (by exact(l2 1859749244936) D) fun t v=>?_)
 dsimp only
 have y:=g.s.pak (t:=t) v
 refine aR (fun Z=>aR (fun Z=>GX (i _ (.res _ _ y.done))) fun z=>?_) fun Z=>rq j l n g.s o p u i
 replace z:¬t=0:=fun e=>z (beq_iff_eq.mpr e)
 exact rq j l n y (((l1 120267583512) (IA z))) p ((l5 0x1b3727101b041b372714) u v) i
end
section
variable {prog:Ip} {w:Hk} {A:Hi} {E:GB->GD->Prop} {s:GD} {st:Hf} {a b out:Array G8} {l f m n k k0 k1:Nat}
noncomputable def wH (a b out:Array G8) (l f n d e:Nat):StateT Hf Kz H2:=
 Oq [:a.size+b.size] ((Gw,l,f,out,n,d,e):H2) fun x c=>
  if c.2.2.2.2.1>1 then do
   setMinGallop' (c.2.2.2.2.1 - 1)
   tN a b c.2.2.2.1 c.2.1 c.2.2.1 (c.2.2.2.2.1 - 1) c.2.2.2.2.2.1 c.2.2.2.2.2.2
  else do
   setMinGallop' c.2.2.2.2.1
   tN a b c.2.2.2.1 c.2.1 c.2.2.1 c.2.2.2.2.1 c.2.2.2.2.2.1 c.2.2.2.2.2.2
inductive EndH2 (a b:Array G8) (m:Nat):H2->Prop where
 |res (x:Array G8) (c) (h:x.Perm (a++b)):EndH2 a b m (Gu x,c)
 |out (out:Array G8) (l f:Nat) (c) (h:dN a b out l f m):EndH2 a b m (Gw,l,f,out,c)
theorem sS {v z:Nat} {Q:H2->Hf->Prop} (B:IV st=Ic) (C:bV a) (D:bV b) (g:dN a b out l f m) (q:∀c p,dE st p->EndH2 a b (m+1) c->Q c p):KA (GR prog w) A E s (wH a b out l f n v z) Q st:=by
 refine HG (I:=fun y c p=>dE st p/\∃out l f d,c=(Gw,l,f,out,d)/\dN a b out l f (m+y)) ?step ?fin ⟨.refl _,_,_,_,_,rfl,g⟩
 case fin=>
  rintro c p ⟨S,out,l,f,d,rfl,t⟩
  exact q _ _ S (.out _ _ _ _ ⟨t.s,t.la,t.lb,by have F:=t.m;have G:=g.s.la;have H:=g.la;exact(l6 0x1b5181b251b732774101b47321b732771810) H G F (L4 _ _)⟩)
 case step=>
  rintro y c p _ _ ⟨S,out,l,f,d,rfl,t⟩
  dsimp only
  split
  all_goals
   refine GS (fH fun u e=>uk ((S.trans e).kind.trans B) C D t fun r J=>?_)
   cases J with
   |res x c h=>exact q _ _ (S.trans e) (.res _ _ h)
   |out o i j c h=>exact q _ _ (S.trans e) (.out _ _ _ _ ⟨h.s,h.la,h.lb,by have K:=h.m;exact(l4 0x1b3771872101b3771810) K⟩)
   |on o i j c h=>exact⟨S.trans e,_,_,_,_,rfl,h⟩
noncomputable abbrev H1:=Option (Array G8)×Nat×Nat×Array G8×Nat×Nat
noncomputable def tL (a b out:Array G8) (l f n:Nat):StateT Hf Kz H1:=
 Oq [:a.size+b.size] ((Gw,l,f,out,0,0):H1) fun x c=>do
  let z<-JP b (c.2.2.1 - 1)
  let y<-JP a (c.2.1 - 1)
  let r<-lt' z y
  match r with
  |some d=>
   if d=Gx then do
    let z<-JP a (c.2.1 - 1)
    if(c.2.1 - 1==0)=Gx then HH (.done (Gu (a.extract 0 (c.2.1 - 1)++b.extract 0 c.2.2.1++(c.2.2.2.1.push z).reverse),c.2.1 - 1,c.2.2.1,c.2.2.2.1.push z,c.2.2.2.2.1+1,0))
    else if c.2.2.2.2.1+1>=n then HH (.done (Gw,c.2.1 - 1,c.2.2.1,c.2.2.2.1.push z,c.2.2.2.2.1+1,0))
    else HH (.yield (Gw,c.2.1 - 1,c.2.2.1,c.2.2.2.1.push z,c.2.2.2.2.1+1,0))
   else do
    let z<-JP b (c.2.2.1 - 1)
    if(c.2.2.1 - 1==1)=Gx then HH (.done (Gu (b.extract 0 (c.2.2.1 - 1)++a.extract 0 c.2.1++(c.2.2.2.1.push z).reverse),c.2.1,c.2.2.1 - 1,c.2.2.2.1.push z,0,c.2.2.2.2.2+1))
    else if c.2.2.2.2.2+1>=n then HH (.done (Gw,c.2.1,c.2.2.1 - 1,c.2.2.2.1.push z,0,c.2.2.2.2.2+1))
    else HH (.yield (Gw,c.2.1,c.2.2.1 - 1,c.2.2.2.1.push z,0,c.2.2.2.2.2+1))
  |x=>HH (.done (Gu (a.extract 0 c.2.1++b.extract 0 c.2.2.1++c.2.2.2.1.reverse),c.2.1,c.2.2.1,c.2.2.2.1,c.2.2.2.2.1,c.2.2.2.2.2))
inductive EndH1 (a b:Array G8) (m:Nat):H1->Prop where
 |res (x:Array G8) (c) (h:x.Perm (a++b)):EndH1 a b m (Gu x,c)
 |out (out:Array G8) (l f:Nat) (c) (h:dN a b out l f m):EndH1 a b m (Gw,l,f,out,c)
theorem rZ {Q:H1->Hf->Prop} (B:IV st=Ic) (F:bV a) (G:bV b) (g:dN a b out l f m) (i:∀c,EndH1 a b m c->Q c st):KA (GR prog w) A E s (tL a b out l f n) Q st:=by
 revert f m n Q;delta prog w A E s st a b out l;delta f m n Q;refine HG (I:=fun y c o=>o=st/\∃out l f d,c=(Gw,l,f,out,d)/\dN a b out l f m) ?step ?fin ⟨rfl,_,_,_,_,rfl,g⟩
 case fin=>
  rintro c o ⟨rfl,out,l,f,d,rfl,j⟩
  exact i _ (.out _ _ _ _ j)
 case step=>
  rintro y c o _ _ ⟨rfl,out,l,f,d,rfl,j⟩
  revert out l f d;injections y o;intro _ _ B i out l f d j;delta out l f d;dsimp only
  have v:=j.la
  have C:=j.lb
  have D:=j.m
  have H:=j.s.la
  have J:=j.s.lb
  have t:l - 1<a.size:=(l3 0x1b121d271801c10) H (Ha v)
  have u:f - 1<b.size:=by lia
  refine GS (aX u (GS (aX t (GS (nU B (G _ u) (F _ t) fun r=>?_)))));delta r
  cases r with
  |true=>
   refine GS (aX t ?_)
   have p:=j.s.pa t v
   refine aR (fun Z=>GX (i _ (.res _ _ p.done))) fun z=>?_
   replace z:¬l - 1=0:=fun e=>z (beq_iff_eq.mpr e)
   have q:dN a b (out.push a[l - 1]) (l - 1) f m:=⟨p,((l1 120267583512) (IA z)),C,(l5 0x1b3727141b401b372710) D (HU _ _)⟩
   exact aR (fun Z=>GX (i _ (.out _ _ _ _ q))) fun Z=>GX ⟨rfl,_,_,_,_,rfl,q⟩
  |false=>
   refine GS (aX u ?_)
   have p:=j.s.pb u ((l1 116006170648) C)
   refine aR (fun Z=>GX (i _ (.res _ _ p.last))) fun z=>?_
   replace z:¬f - 1=1:=fun e=>z (beq_iff_eq.mpr e)
   have q:dN a b (out.push b[f - 1]) l (f - 1) m:=⟨p,v,by lia,(l5 0x1b3727401b411b372710) D (HU _ _)⟩
   exact aR (fun Z=>GX (i _ (.out _ _ _ _ q))) fun Z=>GX ⟨rfl,_,_,_,_,rfl,q⟩
noncomputable abbrev H0:=Option (Array G8)×Nat×Nat×Array G8×Nat
noncomputable def hi3 (c:H2):StateT Hf Kz (ForInStep H0):=KU c.1 (fun Z=>do
 setMinGallop' (c.2.2.2.2.1+1)
 HH (.yield (Gw,c.2.1,c.2.2.1,c.2.2.2.1,c.2.2.2.2.1+1))) fun x=>HH (.done (Gu x,c.2.1,c.2.2.1,c.2.2.2.1,c.2.2.2.2.1))
noncomputable def hi2 (a b:Array G8) (n:Nat) (c:H1):StateT Hf Kz (ForInStep H0):=KU c.1 (fun Z=>do
 rule "list.sort.gallop"
 let d<-wH a b c.2.2.2.1 c.2.1 c.2.2.1 (n+1) c.2.2.2.2.1 c.2.2.2.2.2
 hi3 d) fun x=>HH (.done (Gu x,c.2.1,c.2.2.1,c.2.2.2.1,n))
noncomputable def hi1 (a b:Array G8) (c:H0):StateT Hf Kz (ForInStep H0):=do
 let d<-tL a b c.2.2.2.1 c.2.1 c.2.2.1 c.2.2.2.2
 hi2 a b c.2.2.2.2 d
noncomputable def Gc (a b:Array G8) (x:G8):StateT Hf Kz (Array G8):=do
 let st<-get
 let c<-Oq [:a.size+b.size] ((Gw,a.size - 1,b.size, #[x],gallopOf st):H0) fun Z c=>hi1 a b c
 KU c.1 (fun Z=>liftM (m:=Kz) (Ot "internal:list.sort.merge-bound")) HH
theorem qD (a b:Array G8):jc a b=(do
 rule "list.sort.merge-hi"
 let x<-JP a (a.size - 1)
 if(a.size - 1==0)=Gx then HH (a.extract 0 (a.size - 1)++b.extract 0 b.size++ #[x].reverse)
 else if(b.size==1)=Gx then HH (b.extract 0 b.size++a.extract 0 (a.size - 1)++ #[x].reverse)
 else Gc a b x):=rfl
inductive OutH1 (a b:Array G8) (m:Nat):ForInStep H0->Prop where
 |res (x:Array G8) (c) (h:x.Perm (a++b)):OutH1 a b m (.done (Gu x,c))
 |on (out:Array G8) (l f d:Nat) (h:dN a b out l f m):OutH1 a b m (.yield (Gw,l,f,out,d))
theorem AQ {c:H2} (h:EndH2 a b m c) {Q:ForInStep H0->Hf->Prop} (d:∀r e,dE st e->OutH1 a b m r->Q r e):KA (GR prog w) A E s (hi3 c) Q st:=by
 cases h with
 |res x c h=>exact GX (d _ _ (.refl _) (.res _ _ h))
 |out o i j c h=>exact GS (fH fun g p=>GX (d _ _ p (.on _ _ _ _ h)))
theorem AT (p:IV st=Ic) (q:bV a) (t:bV b) {c:H1} (h:EndH1 a b m c) {Q:ForInStep H0->Hf->Prop} (d:∀r e,dE st e->OutH1 a b (m+1) r->Q r e):KA (GR prog w) A E s (hi2 a b n c) Q st:=by
 cases h with
 |res x c h=>exact GX (d _ _ (.refl _) (.res _ _ h))
 |out o i j c h=>exact GS (Lr (KN ⟨rfl,GS (sS p q t h fun C u v y=>AQ y fun r g z B=>d r g (v.trans z) B)⟩))
theorem pA (v:IV st=Ic) (z:bV a) (B:bV b) (C:1<=a.size) (M:1<=b.size) {Q:Array G8->Hf->Prop} (t:∀x p,dE st p->x.Perm (a++b)->Q x p):KA (GR prog w) A E s (jc a b) Q st:=by
 revert Q;delta prog w A E s st a b;delta Q;rw [qD]
 have q:a.size - 1<a.size:=Nat.sub_lt C Nat.one_pos
 have u:jW a b #[a[a.size - 1]] (a.size - 1) b.size:=(jW.mk (by rw [Iq (by simp),Iq (by simp)];simp) (GP _) (GP _):jW a b #[] a.size b.size).pa q C
 refine GS (Lr (KN ⟨rfl,GS (aX q (aR (fun Z=>GX (t _ _ (.refl _) u.done)) fun D=>aR (fun Z=>GX (t _ _ (.refl _) u.last)) fun F=>GS (Ki (GS ?_))))⟩))
 replace D:¬a.size - 1=0:=fun e=>D (beq_iff_eq.mpr e)
 replace F:¬b.size=1:=fun e=>F (beq_iff_eq.mpr e)
 refine JZ (HG (I:=fun y c p=>dE st p/\∃out l f d,c=(Gw,l,f,out,d)/\dN a b out l f y) (Q:=fun c p=>dE st p/\∃x d,c=(Gu x,d)/\x.Perm (a++b)) ?step ?fin ⟨.refl _,_,_,_,_,rfl,u,by lia,by lia,(l3 0x1c101b721708720) q⟩) ?_
 case fin=>
  rintro c p ⟨S,out,l,f,d,rfl,g⟩
  have N:=g.m
  have O:=g.la
  lia
 case step=>
  rintro y c p _ _ ⟨S,out,l,f,d,rfl,g⟩
  refine GS (rZ (S.kind.trans v) z B g fun c H=>AT (S.kind.trans v) z B H fun r J G K=>?_)
  cases K with
  |res x c h=>exact⟨S.trans G,_,_,rfl,h⟩
  |on o i j d h=>exact⟨S.trans G,_,_,_,_,rfl,h⟩
 ·rintro c p ⟨S,x,d,rfl,L⟩
  exact GX (t _ _ S L)
end
noncomputable def POK:List (Nat×Nat×Nat)->Nat->Nat->Prop
 |[],x,e=>x=e
 |r::l,x,e=>r.1=x/\1<=r.2.1/\POK l (x+r.2.1) e
theorem POK.le:∀ {l:List (Nat×Nat×Nat)} {x e:Nat},POK l x e->x<=e
 |[],x,e,h=>Km h
 |r::l,x,e,h=>GC (HN _ _) h.2.2.le
theorem POK.snoc {l:List (Nat×Nat×Nat)}:∀ {x e n p:Nat},POK l x e->1<=n->POK (l++[(e,n,p)]) x (e+n):=by
 induction l with
 |nil=>intro x e n p h b;cases h;exact⟨rfl,b,rfl⟩
 |cons r l c=>exact fun h b=>⟨h.1,h.2.1,c h.2.2 b⟩
theorem POK.join {l:List (Nat×Nat×Nat)}:∀ {x e i d b p f c q:Nat},POK l x e->l[i]? =Gu (d,b,p)->l[i+1]? =Gu (f,c,q)->POK ((l.set i (d,b+c,p)).eraseIdx (i+1)) x e/\f=d+b/\f+c<=e/\1<=b/\1<=c:=by
 induction l with
 |nil=>intro x e i d b p f c q h k m;cases k
 |cons r l s=>
  intro x e i d b p f c q h k m
  cases i with
  |zero=>
   cases l with
   |nil=>cases m
   |cons t l=>
    cases k;cases m;obtain⟨j,n,g,u,o⟩:=h
    have j:d=x:=j
    have g:f=x+b:=g
    have o:POK l (x+b+c) e:=o
    subst j;exact⟨⟨rfl,GC n (HN _ _),by show POK l (d+(b+c)) e;rw [<-I4];exact o⟩,g,by rw [g];exact o.le,n,u⟩
  |succ i=>
   obtain⟨j,n,g⟩:=h;obtain⟨v,y⟩:=s (i:=i) g k m;exact⟨⟨j,n,v⟩,y⟩
theorem POK.mod {l:List (Nat×Nat×Nat)}:∀ {x e i:Nat} {f:Nat×Nat×Nat->Nat×Nat×Nat},(∀r,(f r).1=r.1/\(f r).2.1=r.2.1)->POK l x e->POK (l.modify i f) x e:=by
 induction l with
 |nil=>intro x e i f b h;cases i<;>exact h
 |cons r l c=>
  intro x e i f b h
  cases i with
  |zero=>
   show POK (f r::l) x e
   refine⟨(b r).1.trans h.1,by rw [(b r).2];exact h.2.1,?_⟩
   rw [(b r).2];exact h.2.2
  |succ i=>exact⟨h.1,h.2.1,c b h.2.2⟩
theorem pP (i:Nat):mergeAt' i=(do
 let s<-get
 let (Gu (c,d,e),Gu (g,f,_)):=((HL s)[i]?,(HL s)[i+1]?) |unsupported "internal:list.sort.pending"
 set (Ni s (((HL s).setIfInBounds i (c,d+f,e)).eraseIdxIfInBounds (i+1)))
 let Gu k<-dG Gz (<-JP (Ij s) g) (Ij s) c d 0|return Gz
 let (c,d):=(c+k,d - k)
 if d==0 then return Gx
 let Gu f<-dG Gx (<-JP (Ij s) (c+d - 1)) (Ij s) g f (f - 1) |return Gz
 if f==0 then return Gx
 let x:=(Ij s).extract c g
 let y:=(Ij s).extract g (g+f)
 let b<-if d<=f then jl x y else jc x y
 modify fun s=>setArr s (b.toList.zipIdx.foldl (fun a (p,j)=>a.setIfInBounds (c+j) p) (Ij s))
 return (Lf (<-get)).isNone):=rfl
theorem tZ {b:Type} (xs:List b):∀(l:List b) (i n:Nat),i+n+xs.length<=l.length->(xs.zipIdx n).foldl (fun(a:List b) (p:b×Nat)=>a.set (i+p.2) p.1) l=l.take (i+n)++xs++l.drop (i+n+xs.length):=by
 induction xs with
 |nil=>
  intro l i n h;rw [G1];exact(Lb _ _).symm
 |cons x xs c=>
  intro l i n h
  have h:i+n+(xs.length+1)<=l.length:=h
  rw [List.zipIdx_cons,Jz,c _ i (n+1) (by rw [Md];exact(l4 0x1b3771827101b372771810) h)]
  show List.take (i+(n+1)) (l.set (i+n) x)++xs++List.drop (i+(n+1)+xs.length) (l.set (i+n) x)=_
  have d:List.take (i+(n+1)) (l.set (i+n) x)=l.take (i+n)++[x]:=by
   rw [<-I4,LC (by rw [Md];exact(l3 477699551271968) h),List.take_set_of_le (GP _),List.getElem_set_self]
  have e:List.drop (i+(n+1)+xs.length) (l.set (i+n) x)=l.drop (i+n+(x::xs).length):=by
   rw [List.drop_set_of_lt (by exact(l3 500447198643984))]
   congr 1
   show _=i+n+(xs.length+1)
   exact(l3 0x1d7718271072771810)
  rw [d,e,GO (l.take _) [x] xs];rfl
theorem yI (xs:List G8) (a:Array G8) (i:Nat) (h:i+xs.length<=a.size):(xs.zipIdx.foldl (fun(a:Array G8) (p:G8×Nat)=>a.setIfInBounds (i+p.2) p.1) a).toList=a.toList.take i++xs++a.toList.drop (i+xs.length):=by
 have c:∀(b:List (G8×Nat)) (a:Array G8),(b.foldl (fun(a:Array G8) (p:G8×Nat)=>a.setIfInBounds (i+p.2) p.1) a).toList=b.foldl (fun(a:List G8) (p:G8×Nat)=>a.set (i+p.2) p.1) a.toList:=fun b=>by
  induction b with
  |nil=>exact fun a=>rfl
  |cons p b d=>exact fun a=>by rw [Jz,d,Ko];rfl
 rw [c]
 have e:=tZ xs a.toList i 0 (by simpa using h)
 exact e
section
variable {prog:Ip} {w:Hk} {A:Hi} {E:GB->GD->Prop} {s:GD} {st:Hf} {a₀:Array G8} {e:Nat}
theorem SW.ints (h:SW a₀ st) (b:LD a₀):bV (Ij st):=fun j d=>by
 have c:(Ij st)[j]∈a₀.toList:=(Hy.mp h.perm).mem_iff.mp (by simp)
 exact b _ c
theorem SW.size (h:SW a₀ st):(Ij st).size=a₀.size:=h.perm.size_eq
theorem bV.ext {a:Array G8} (h:bV a) (i j:Nat):bV (a.extract i j):=fun k b=>by
 rw [Array.getElem_extract];exact h _ _
theorem C2 {i j k:Nat} (h:i<=j) (h':j<=k):j - i+(k - j)=k - i:=(Ig _ _).trans (Nat.sub_add_sub_cancel h' h)
theorem SW.lay (h:SW a₀ st) {m:Array G8} {i j k:Nat} (c:i<=j) (b:j<=k) (d:k<=a₀.size) (g:m.Perm ((Ij st).extract i j++(Ij st).extract j k)):(m.toList.zipIdx.foldl (fun(a:Array G8) (p:G8×Nat)=>a.setIfInBounds (i+p.2) p.1) (Ij st)).Perm a₀:=by
 refine Array.Perm.trans ?_ h.perm;rw [Hy]
 have f:=h.size
 have l:m.toList.length=k - i:=by
  rw [(Hy.mp g).length_eq,HE,GG];simp only [Js,Ln];rw [f,I2 (GC b d),I2 d];exact C2 c b
 have n:=Jx (GC c b)
 rw [yI _ _ _ (by rw [l,n,f];exact d),l,n]
 have o:(Ij st).toList=(Ij st).toList.take i++(((Ij st).extract i j).toList++((Ij st).extract j k).toList)++(Ij st).toList.drop k:=by
  have q:=eT (a:=Ij st) (i:=j) (t:=i) c ((l4 0x9d101b121b231b03) f d b)
  have r:=eT (a:=Ij st) (i:=k) (t:=j) b ((l3 0x9d101b121b02) f d)
  rw [<-GO, <-q, <-r,Lb]
 refine .trans ?_ (.of_eq o.symm);refine List.Perm.append_right _ (Hp _ ?_)
 have:=Hy.mp g
 rwa [HE] at this
theorem f9 {i:Nat} {Q:Bool->Hf->Prop} (U:LD a₀) (h:SW a₀ st) (hp:POK (HL st).toList 0 e) (u:e<=a₀.size) (hi:i+1<(HL st).size) (g:∀b,SW a₀ b->POK (HL b).toList 0 e->Q Gx b):KA (GR prog w) A E s (mergeAt' i) Q st:=by
 revert i Q;delta prog w A E s st a₀ e;delta i Q;rw [pP];refine GS (Ki ?_);obtain⟨⟨l,z,I⟩,M⟩:∃r,(HL st)[i]? =Gu r:=⟨_,Kr ((l2 1930344537104) hi)⟩;delta l z I;obtain⟨⟨d,J,V⟩,N⟩:∃r,(HL st)[i+1]? =Gu r:=⟨_,Kr hi⟩;delta d J V;obtain⟨W,o,v,X,G⟩:=POK.join hp (i:=i) (by rw [I0];exact M) (by rw [I0];exact N)
 rw [M,N];dsimp only
 have p:=h.ints U
 have B:=h.size
 generalize q:Ni st (((HL st).setIfInBounds i (l,z+J,I)).eraseIdxIfInBounds (i+1))=c;delta c
 have n:SW a₀ c:=by rw [<-q];exact⟨h.perm,h.kind,h.failed⟩
 have K:POK (HL c).toList 0 e:=by
  rw [<-q]
  show POK ((((HL st).setIfInBounds i (l,z+J,I)).eraseIdxIfInBounds (i+1)).toList) 0 e
  rw [Array.toList_eraseIdxIfInBounds,Ko];exact W
 have Y:Ij c=Ij st:=by rw [<-q]
 refine GS (show KA _ _ _ _ (set c) _ st from Jw (f:=fun Z=>c) ?_)
 have L:d<(Ij st).size:=(l6 0x1b100d321b07421b4189d151c52) u o v G B
 refine GS (aX L ?_);refine GS (di n.kind (p _ L) p ((l1 115989397512) X) ((l6 0x1b109d321b07420b4189d151b53) u o v G B) fun k hk=>?_);delta k;dsimp only;refine aR (fun Z=>GX (g _ n K)) fun C=>?_
 replace C:¬z - k=0:=fun e=>C (beq_iff_eq.mpr e)
 have O:l+k+(z - k) - 1<(Ij st).size:=((Gm 0x1b66969d752861b96776861b76189d6611d57341b7473201c10) u o v G B (Ha (Ie (Lg C))) (HU _ _))
 refine GS (aX O ?_);refine GS (di n.kind (p _ O) p (by exact(l2 1999064013840) (Ha G)) ((l6 0x9d100d321b141b451b05) B o u v) fun t D=>?_)
 delta t;dsimp only;refine aR (fun Z=>GX (g _ n K)) fun H=>?_
 replace H:¬t=0:=fun e=>H (beq_iff_eq.mpr e)
 have F:∀(m:Array G8) (b:Hf),dE c b->m.Perm ((Ij st).extract (l+k) d++(Ij st).extract d (d+t))->KA (GR prog w) A E s (do
   modify fun s=>setArr s (m.toList.zipIdx.foldl (fun a x=>a.setIfInBounds (l+k+x.2) x.1) (Ij s))
   return (Lf (<-get)).isNone) Q b:=fun m b S y=>by
  refine GS (Jw (GS (Ki ?_)));rw [<-Y] at y
  have:=n.lay (i:=l+k) (j:=d) (k:=d+t) ((l4 0x9d72101b231b0731) o hk) (l2 1798400) ((l6 0x1b27100d301b421b151b4750) v o u D) y
  have P:Lf b=Gw:=S.failed.trans n.failed
  have r:KA (GR prog w) A E s (HH Gx:StateT Hf Kz Bool) Q (setArr b (m.toList.zipIdx.foldl (fun a x=>a.setIfInBounds (l+k+x.2) x.1) (Ij b))):=GX (g _ ⟨by rw [S.arr];exact this,S.kind.trans n.kind,P⟩ (by show POK (HL b).toList 0 e;rw [S.pend];exact K))
  show KA _ _ _ _ (HH (Lf b).isNone) _ _
  rw [P];exact r
 have R:((Ij st).extract (l+k) d).size=d - (l+k):=by rw [Ln,I2 (Ie L)]
 have T:((Ij st).extract d (d+t)).size=t:=by
  have yk:d+t<=(Ij st).size:=((l6 0x1b451b57309d421b311b2710) u v B D)
  rw [Ln,I2 yk,KT]
 refine aR (fun Z=>?_) fun Z=>?_
 ·exact GS (pT n.kind (p.ext _ _) (p.ext _ _) (((l6 0x9d75319d201c541b7743211b018) o R (Lg C) (w5 _ _))) (((l2 0x9d101c1081b018) T (IA H))) fun m b S y=>F m b S y)
 ·exact GS (pA n.kind (p.ext _ _) (p.ext _ _) (((l6 0x9d75319d201c541b7743211b018) o R (Lg C) (w5 _ _))) (((l2 0x9d101c1081b018) T (IA H))) fun m b S y=>F m b S y)
end
section
variable {prog:Ip} {w:Hk} {A:Hi} {E:GB->GD->Prop} {s:GD} {st:Hf} {a₀:Array G8} {e:Nat}
structure SP (a₀:Array G8) (e:Nat) (st:Hf):Prop where
 w:SW a₀ st
 p:POK (HL st).toList 0 e
theorem SP.setArr (h:SP a₀ e st) {xs:Array G8} (hp:xs.Perm (Ij st)):SP a₀ e (setArr st xs):=⟨⟨hp.trans h.w.perm,h.w.kind,h.w.failed⟩,h.p⟩
theorem fT {i j:Nat} {Q:Option Bool->Hf->Prop} (l:LD a₀) (h:SP a₀ e st) (hi:i<a₀.size) (m:j<a₀.size) (c:∀b,Q (Gu b) st):KA (GR prog w) A E s (ltAt' i j) Q st:=by
 rw [ltAt'_eq]
 have d:=h.w.size
 have f:=h.w.ints l
 have g:i<(Ij st).size:=(l3 30857680264224) hi d
 have k:j<(Ij st).size:=(l3 30857680264224) m d
 refine GS (Ki ?_);exact GS (aX g (GS (aX k (nU h.w.kind (f _ g) (f _ k) c))))
theorem mT {i j:Nat} {Q:Unit->Hf->Prop} (h:SP a₀ e st) (b:∀c,SP a₀ e c->Q () c):KA (GR prog w) A E s (K4 i j) Q st:=
 wpS_reverse (b _ (h.setArr (mirror_perm _ _ _ _)))
noncomputable def pZ (lo n0 nrem:Nat):StateT Hf Kz (Option Nat):=do
 let mut n:=n0
 rule "list.sort.descending-run"
 n:=n+1
 let mut neq:=0
 for _ in [n:nrem] do
  let Gu smaller<-ltAt' (lo+n) (lo+n - 1) |return Gw
  if smaller then
   if neq>0 then K4 (lo+n - (neq+1)) (lo+n)
   neq:=0
  else
   let Gu larger<-ltAt' (lo+n - 1) (lo+n) |return Gw
   if larger then break
   neq:=neq+1
  n:=n+1
 if neq>0 then K4 (lo+n - (neq+1)) (lo+n)
 K4 lo (lo+n)
 for _ in [n:nrem] do
  let Gu smaller<-ltAt' (lo+n) (lo+n - 1) |return Gw
  if smaller then break
  n:=n+1
 return Gu n
noncomputable def uN (lo n0 nrem:Nat):StateT Hf Kz (Option Nat):=do
 let mut n:=n0
 K4 lo (lo+n)
 for _ in [n:nrem] do
  let Gu smaller<-ltAt' (lo+n) (lo+n - 1) |return Gw
  if smaller then break
  n:=n+1
 return Gu n
theorem mY {lo n f:Nat} {Q:Option Nat->Hf->Prop} (p:LD a₀) (h:SP a₀ e st) (l:lo+f<=a₀.size) (o:1<=n) (v:n<=f) (i:∀m d,SP a₀ e d->1<=m->m<=f->Q (Gu m) d):KA (GR prog w) A E s (uN lo n f) Q st:=by
 refine GS (mT h fun j k=>?_);refine GS (HG (I:=fun x c d=>d=j/\c=(Gw,x)) (Q:=fun c d=>d=j/\∃m,c=(Gw,m)/\1<=m/\m<=f) ?step ?fin ⟨rfl,rfl⟩ |> fun q=>JZ q ?_)
 case fin=>
  rintro c d ⟨rfl,rfl⟩
  exact⟨rfl,_,rfl,(l2 7619073073590296) o (OH _ _),by lia⟩
 case step=>
  rintro x c d r g ⟨rfl,rfl⟩
  dsimp only;refine GS (fT p k ((l4 0x1b27101c131c2730) l g) ((l5 0x1c431b17421b73201c10) g l (HU _ _)) fun b=>?_);cases b
  ·exact GX ⟨rfl,rfl⟩
  ·exact GX ⟨rfl,_,rfl,(l2 7601480903274776) o r,(l2 470817552) g⟩
 ·rintro c d ⟨rfl,m,rfl,t,u⟩
  exact GX (i _ _ k t u)
theorem lA {lo n d:Nat} {Q:Option Nat->Hf->Prop} (k:LD a₀) (h:SP a₀ e st) (j:lo+d<=a₀.size) (v:1<=n) (t:n<d) (i:∀m f,SP a₀ e f->1<=m->m<=d->Q (Gu m) f):KA (GR prog w) A E s (pZ lo n d) Q st:=by
 revert lo n d Q;delta prog w A E s st a₀ e;delta lo n d Q;refine GS (Lr (KN ⟨rfl,?_⟩));dsimp only;refine GS (HG (I:=fun x c f=>SP a₀ e f/\∃q,c=(Gw,x,q)) (Q:=fun c f=>SP a₀ e f/\∃m q,c=(Gw,m,q)/\1<=m/\m<=d) ?step ?fin ⟨h,_,rfl⟩ |> fun q=>JZ q ?_)
 case fin=>
  rintro c f ⟨S,q,rfl⟩
  exact⟨S,_,_,rfl,(l3 493825408741400) t (L4 _ _),by lia⟩
 case step=>
  rintro x c f u g ⟨S,q,rfl⟩
  dsimp only;refine GS (fT k S ((l4 0x1b27101c131c2730) j g) ((l5 0x1b17421c431b73201c10) j g (HU _ _)) fun b=>?_);cases b
  ·refine GS (fT k S ((l5 0x1b17421c431b73201c10) j g (HU _ _)) ((l4 0x1b27101c131c2730) j g) fun b=>?_);cases b
   ·exact GX ⟨S,_,rfl⟩
   ·exact GX ⟨S,_,_,rfl,(l2 29717282533400) u,(l2 470817552) g⟩
  ·dsimp only;refine aR (fun Z=>?_) fun z=>absurd rfl z;refine aR (fun Z=>?_) fun Z=>?_
   ·exact GS (mT S fun l o=>GX ⟨o,_,rfl⟩)
   ·exact GX ⟨S,_,rfl⟩
 ·rintro c f ⟨S,m,q,rfl,p,r⟩
  dsimp only;refine aR (fun Z=>?_) fun Z=>?_
  ·exact GS (mT S fun l o=>show KA _ _ _ _ (uN lo m d) _ _ from mY k o j p r i)
  ·exact show KA _ _ _ _ (uN lo m d) _ _ from mY k S j p r i
theorem nj {lo d:Nat} {Q:Option Nat->Hf->Prop} (k:LD a₀) (h:SP a₀ e st) (j:lo+d<=a₀.size) (o:1<=d) (g:∀m f,SP a₀ e f->1<=m->m<=d->Q (Gu m) f):KA (GR prog w) A E s (countRun' lo d) Q st:=by
 revert lo d Q;delta prog w A E s st a₀ e;delta lo d Q;rw [countRun'_eq];dsimp only;refine GS (HG (β:=Option (Option Nat)×Nat) (I:=fun x c f=>f=st/\c=(Gw,x)) (Q:=fun c f=>f=st/\∃m,c=(Gw,m)/\1<=m/\m<=d) ?step ?fin ⟨rfl,rfl⟩ |> fun q=>JZ q ?_)
 case fin=>
  rintro c f ⟨rfl,rfl⟩
  exact⟨rfl,_,rfl,(l1 115989393432) (OH _ _),by lia⟩
 case step=>
  rintro x c f p i ⟨rfl,rfl⟩
  dsimp only;refine GS (fT k h ((l4 0x1b27101c131c2730) j i) ((l5 0x1c431b17421b73201c10) i j (HU _ _)) fun b=>?_);cases b
  ·exact GX ⟨rfl,rfl⟩
  ·exact GX ⟨rfl,_,rfl,(l1 115989393432) p,(l2 470817552) i⟩
 ·rintro c f ⟨rfl,m,rfl,l,n⟩
  revert m;delta f;delta m;dsimp only;refine aR (fun Z=>GX (g _ _ h l n)) fun z=>?_
  replace z:¬m=d:=fun e=>z (beq_iff_eq.mpr e)
  refine aR (fun Z=>?_) fun Z=>show KA _ _ _ _ (pZ lo m d) _ _ from lA k h j l (by lia) g
  refine GS (fT k h ((l3 0x1b0181b27011c21) o j) (((l5 0x1b17341b72401c321c10) j (HU _ _) (H8 n z))) fun b=>?_);cases b
  ·exact GS (mT h fun r t=>show KA _ _ _ _ (pZ lo m d) _ _ from lA k t j l (((l2 470817808) (H8 n z))) g)
  ·exact GX (g _ _ h l n)
theorem sA {lo n j:Nat} {Q:Bool->Hf->Prop} (m:LD a₀) (h:SP a₀ e st) (o:lo+n<=a₀.size) (g:∀d,SP a₀ e d->Q Gx d):KA (GR prog w) A E s (binarySort' lo n j) Q st:=by
 rw [binarySort'_eq];refine GS (HG (I:=fun Z c d=>c=(Gw,())/\SP a₀ e d) (Q:=fun c d=>c=(Gw,())/\SP a₀ e d) ?step (fun Z Z q=>q) ⟨rfl,h⟩ |> fun q=>JZ q ?_)
 case step=>
  rintro k c d t i ⟨rfl,S⟩
  dsimp only;refine GS (HG (I:=fun Z c f=>f=d/\∃l r,c=(Gw,l,r)/\r<=k) (Q:=fun c f=>f=d/\∃l r,c=(Gw,l,r)) ?istep ?ifin ⟨rfl,0,k,rfl,GP _⟩ |> fun q=>JZ q ?_)
  case ifin=>
   rintro c f ⟨rfl,l,r,rfl,_⟩
   exact⟨rfl,l,r,rfl⟩
  case istep=>
   rintro x c f _ _ ⟨rfl,l,r,rfl,p⟩
   dsimp only;refine aR (fun Z=>GX ⟨rfl,_,_,rfl⟩) fun z=>?_;refine GS (fT m S ((l4 0x1b27101c131c2730) o i) (by lia) fun b=>?_)
   cases b
   ·exact GX ⟨rfl,_,_,rfl,p⟩
   ·exact GX ⟨rfl,_,_,rfl,by lia⟩
  ·rintro c f ⟨rfl,l,r,rfl⟩
   show KA _ _ _ _ (do moveDown' (lo+k) (lo+l);HH (ForInStep.yield (Gw,()))) _ _
   rw [moveDown'_eq];exact GS (Jw (GX ⟨rfl,S.setArr (bubble_perm _ _ _)⟩))
 ·rintro c d ⟨rfl,S⟩
  exact GX (g _ S)
end
section
variable {prog:Ip} {w:Hk} {A:Hi} {E:GB->GD->Prop} {s:GD} {st:Hf} {a₀:Array G8} {e:Nat}
theorem SP.push {lo n:Nat} (h:SP a₀ lo st) (b:1<=n):SP a₀ (lo+n) (Ni st ((HL st).push (lo,n,0))):=
 ⟨⟨h.w.perm,h.w.kind,h.w.failed⟩,by show POK ((HL st).push (lo,n,0)).toList 0 (lo+n);rw [IF];exact h.p.snoc b⟩
theorem SP.mod {f:Nat×Nat×Nat->Nat×Nat×Nat} {i:Nat} (h:SP a₀ e st) (b:∀r,(f r).1=r.1/\(f r).2.1=r.2.1):SP a₀ e (Ni st ((HL st).modify i f)):=
 ⟨⟨h.w.perm,h.w.kind,h.w.failed⟩,by show POK ((HL st).modify i f).toList 0 e;rw [Array.toList_modify];exact h.p.mod b⟩
theorem Bx {c:Prop} [Decidable c] {a b:Nat} (h:a<=b):(if c then a else b)<=b:=by
 by_cases q:c
 ·rw [if_pos q];exact h
 ·rw [if_neg q];exact GP _
set_option tactic.hygienic true in
theorem oH {Q:Unit->Hf->Prop} (G:LD a₀) (h:SP a₀ 0 st) (post:∀b,SW a₀ b->Q () b):KA (GR prog w) A E s sortRuns' Q st:=by
 revert Q;delta prog w A E s st a₀;delta Q;rw [sortRuns'_eq];refine GS (Ki ?_);dsimp only;simp only [h.w.size];refine GS (JZ (HG (I:=fun x c b=>∃d,c=(Gw,d)/\d<=a₀.size/\SP a₀ d b) (Q:=fun c b=>∃d,c=(Gw,d)/\d<=a₀.size/\SP a₀ d b) ?step (fun Z Z q=>q) ⟨0,rfl,G7 _,h⟩) ?post)
 case step=>
  rintro x c b _ _ ⟨d,rfl,g,S⟩
  revert d;delta x b;delta d;dsimp only;refine aR (fun Z=>GX ⟨d,rfl,g,S⟩) fun z=>?_;refine GS (nj G S ((l3 32053359486736) (Ha (Ou z))) ((l3 0x1e211b72011b018) z (w5 _ _)) fun n L M D F=>?_);delta n L;dsimp only;refine aR (fun R=>?_) fun Z=>?_
  ·refine GS (Lr (KN ⟨rfl,?_⟩));generalize H:O6 (a₀.size - d) (minRun' a₀.size a₀.size 0)=m;delta m;refine GS (sA G M (((l5 0x9d131d27041b431b2710) H (Ha (Ie (KI (GC D F)))) (Lc _ _))) fun f N=>?_);delta f;refine aR (fun h=>nomatch h) fun Z=>?_
   have O:1<=m:=by lia
   have P:d+m<=a₀.size:=((l5 0x9d131d27041b431b2710) H (Ha (Ie (KI (GC D F)))) (Lc _ _))
   refine GS (Ki ?_)
   split
   ·rename_i i j k _;delta i j k;refine GS (JZ (HG (I:=fun Z c b=>c=(Gw,())/\SP a₀ d b) (Q:=fun c b=>c=(Gw,())/\SP a₀ d b) ?step (fun Z Z q=>q) ⟨rfl,N⟩) ?_)
    case step=>
     rintro x c b _ _ ⟨rfl,S⟩
     injections x b;intro _ _ S;refine GS (Ki ?_)
     split
     ·rename_i q;rename_i l o p;delta l o p;refine aR (fun Z=>GX ⟨rfl,S⟩) fun Z=>?_
      have z:(HL b).size>1:=by
       by_cases z:(HL b).size>1
       ·exact z
       ·rw [if_neg z] at q;cases q
      exact GS (f9 G S.w S.p (by lia) ((l2 8188234920194432) (Ha z)) fun f J K=>GX ⟨rfl,J,K⟩)
     ·exact GX ⟨rfl,S⟩
    ·rintro c b ⟨rfl,S⟩
     refine GS (Jw (GS (Jw (GX ⟨d+m,rfl,(l2 454040336) P,SP.push (SP.mod S ?_) O⟩))));exact fun r=>⟨rfl,rfl⟩
   ·exact GS (Jw (GX ⟨d+m,rfl,(l2 454040336) P,SP.push N O⟩))
  ·refine GS (Ki ?_)
   split
   ·rename_i t u v _;delta t u v;refine GS (JZ (HG (I:=fun Z c b=>c=(Gw,())/\SP a₀ d b) (Q:=fun c b=>c=(Gw,())/\SP a₀ d b) ?step (fun Z Z q=>q) ⟨rfl,M⟩) ?_)
    case step=>
     rintro x c b _ _ ⟨rfl,S⟩
     injections x b;intro _ _ S;refine GS (Ki ?_)
     split
     ·rename_i q;rename_i y B C;delta y B C;refine aR (fun Z=>GX ⟨rfl,S⟩) fun Z=>?_
      have z:(HL b).size>1:=by
       by_cases z:(HL b).size>1
       ·exact z
       ·rw [if_neg z] at q;cases q
      exact GS (f9 G S.w S.p (by lia) ((l2 8188234920194432) (Ha z)) fun f J K=>GX ⟨rfl,J,K⟩)
     ·exact GX ⟨rfl,S⟩
    ·rintro c b ⟨rfl,S⟩
     refine GS (Jw (GS (Jw (GX ⟨d+n,rfl,((l4 0x1b311d27031b2710) F (Ha (Ie (KI (GC D F))))),SP.push (SP.mod S ?_) D⟩))));exact fun r=>⟨rfl,rfl⟩
   ·exact GS (Jw (GX ⟨d+n,rfl,((l4 0x1b311d27031b2710) F (Ha (Ie (KI (GC D F))))),SP.push M D⟩))
 case post=>
  rintro c b ⟨d,rfl,g,S⟩
  delta b d;dsimp only;refine GS (JZ (HG (I:=fun Z c b=>c=(Gw,())/\SP a₀ d b) (Q:=fun c b=>c=(Gw,())/\SP a₀ d b) ?step2 (fun Z Z q=>q) ⟨rfl,S⟩) ?_)
  case step2=>
   rintro x c b _ _ ⟨rfl,S⟩
   refine GS (Ki ?_);refine aR (fun Z=>GX ⟨rfl,S⟩) fun z=>?_;refine GS (f9 G S.w S.p g ?_ fun f J K=>GX ⟨rfl,J,K⟩);exact IW (Hq (Bx (HU _ 1))) (by lia)
  ·rintro c b ⟨rfl,S⟩
   exact GX (post _ S.w)
end
set_option genCtorIdx true in
inductive V where
 |none
 |bool (b:Bool)
 |int (i:Int)
 |str (k:Nat)
 |tup (vs:List V)
 |lst (vs:List V)
 |obj (c:GW) (ks:List Nat) (vs:List V)
 |dic (ks:List Int) (vs:List V)
 |ref (a:Nat)
 deriving Inhabited
set_option genCtorIdx true in
inductive Cell where
 |dead
 |list (vs:List V)
 |dict (kvs:List (Int×V))
 |inst (c:GW) (as:List (Nat×V))
structure Sg where
 n:Nat
 cell:Nat->Cell
noncomputable def Sg.set (σ:Sg) (a:Nat) (c:Cell):Sg:=⟨σ.n,fun x=>if x=a then c else σ.cell x⟩
noncomputable def Sg.alloc (σ:Sg) (c:Cell):Sg:=⟨σ.n+1,fun x=>if x=σ.n then c else σ.cell x⟩
@[simp] theorem Sg.alloc_n (σ:Sg) (c:Cell):(σ.alloc c).n=σ.n+1:=rfl
theorem Sg.set_cell (σ:Sg) (a x:Nat) (c:Cell):(σ.set a c).cell x=if x=a then c else σ.cell x:=rfl
theorem Sg.alloc_cell (σ:Sg) (x:Nat) (c:Cell):(σ.alloc c).cell x=if x=σ.n then c else σ.cell x:=rfl
noncomputable def DV:List String:=["most","moves","hops","tags","first","nfa","kept","count","classes","masks","follows","spans","bounds","numbers","rows","charset","left","right","body","low","high","name",
 "cat","alt","star","plus","opt","repeat","chars","empty","never","a","b",
 "add_state","add_move","add_hop","set_first","set_tag","state_count","closure_of","begin","ways","after","read","place","join","row","choice","loop","copies","mask","told","of","made","__init__"]
noncomputable def nm (k:Nat):He:=Hr (DV.getD k "?")
noncomputable def PairsI:List IK->List (Int×GB)->Prop
 |[],kvs=>kvs=[]
 |e::c,kvs=>∃b r,kvs=b::r/\H4 b.1 e.key=Gx/\e.val=b.2/\PairsI c r
inductive iO (o:JE) (kvs:List (Int×GB)):Prop where
 |mk (es:Array IK) (ep:Nat) (x:o.ExactDict) (d:o.data=.dict es ep) (k:∀e∈es,∃k,H4 k e.key=Gx/\e.hash=hashInt k) (p:PairsI es.toList kvs) (n:(kvs.map (·.1)).Nodup)
theorem kw {prog:Ip} {w:Hk} {d:List IK}:∀ {kvs:List (Int×GB)},PairsI d kvs↔PySem.Pairs (Jm prog w) d kvs:=by
 induction d with
 |nil=>exact fun{kvs}=>⟨fun(h:kvs=[])=>h▸.nil,fun h=>by cases h;rfl⟩
 |cons e d f=>
  refine fun{kvs}=>⟨fun h=>?_,fun h=>?_⟩
  ·obtain⟨k,r,rfl,g,i,j⟩:=h;exact .cons g i (f.mp j)
  ·cases h with
   |cons a b c=>exact⟨_,_,rfl,a,b,f.mpr c⟩
theorem bv {prog:Ip} {w:Hk} {h:HY} {a:GW} {kvs:List (Int×GB)}:h.DictOf (Jm prog w) a kvs↔∃o,h.get? a=Gu o/\iO o kvs:=by
 refine⟨fun h=>?_,fun h=>?_⟩
 ·obtain⟨o,b,c,q⟩:=h;obtain⟨e,x,d,k,p,n⟩:=q;exact⟨o,e,.mk b c x d k (kw.mpr p) n⟩
 ·obtain⟨o,e,q⟩:=h;obtain⟨b,c,x,d,k,p,n⟩:=q;exact⟨o,b,c,e,x,d,k,kw.mp p,n⟩
structure Gh where
 N:Nat
 φ:Nat->GW
 δ:Nat->GW
 Z:GW->Option JE
noncomputable def EKeys:List Nat->List IK->Prop
 |[],b=>b=[]
 |k::ks,b=>∃e r,b=e::r/\(k<55/\∃t,e.key=.str (nm k) t)/\EKeys ks r
mutual
noncomputable def VRep (G:Gh):V->GB->Prop
 |.none,v=>v=.none
 |.bool b,v=>v=.bool b
 |.int i,v=>∃t,v=.int i t
 |.str k,v=>∃t,v=.str (nm k) t
 |.tup vs,v=>∃a items n,v=.ref a/\G.Z a=Gu {cls:=.type "tuple",data:=.seq items n}/\VReps G vs items.toList
 |.lst vs,v=>∃a items n,v=.ref a/\G.Z a=Gu {cls:=.type "list",data:=.seq items n}/\VReps G vs items.toList
 |.obj c ks vs,v=>∃a d es n,v=.ref a/\G.Z a=Gu (J0 c d)/\G.Z d=Gu (Nj es n)/\EKeys ks es/\VReps G vs (es.map (·.val))
 |.dic ks vs,v=>∃a kvs,v=.ref a/\(∃o,G.Z a=Gu o/\iO o kvs)/\kvs.map (·.1)=ks/\VReps G vs (kvs.map (·.2))
 |.ref i,v=>i<G.N/\v=.ref (G.φ i)
noncomputable def VReps (G:Gh):List V->List GB->Prop
 |[],l=>l=[]
 |x::xs,l=>∃y ys,l=y::ys/\VRep G x y/\VReps G xs ys
end
structure Gh.Le (G G':Gh):Prop where
 N:G.N<=G'.N
 φ:∀i,i<G.N->G'.φ i=G.φ i/\G'.δ i=G.δ i
 Z:∀a o,G.Z a=Gu o->G'.Z a=Gu o
theorem Gh.Le.refl (G:Gh):G.Le G:=⟨GP _,fun Z Z=>⟨rfl,rfl⟩,fun Z Z e=>e⟩
theorem Gh.Le.trans {G d b:Gh} (x:G.Le d) (y:d.Le b):G.Le b:=
 ⟨GC x.N y.N,fun i c=>⟨(y.φ i (GQ c x.N)).1.trans (x.φ i c).1,(y.φ i (GQ c x.N)).2.trans (x.φ i c).2⟩,fun a o e=>y.Z a o (x.Z a o e)⟩
set_option tactic.hygienic true in
theorem VRep.mono {G p:Gh} (l:G.Le p) {x:V}:∀ {v:GB},VRep G x v->VRep p x v:=by
 induction x using V.rec (motive_2:=fun q=>∀ {m:List GB},VReps G q m->VReps p q m) with
 |none=>exact fun h=>h
 |bool _=>exact fun h=>h
 |int _=>exact fun h=>h
 |str _=>exact fun h=>h
 |tup m g=>
  intro _ h;obtain⟨a,f,n,e,z,r⟩:=h;exact⟨a,f,n,e,l.Z _ _ z,g r⟩
 |lst m g=>
  intro _ h;obtain⟨a,f,n,e,z,r⟩:=h;exact⟨a,f,n,e,l.Z _ _ z,g r⟩
 |obj c t m g=>
  intro _ h;obtain⟨a,d,u,n,e,z,A,k,r⟩:=h;exact⟨a,d,u,n,e,l.Z _ _ z,l.Z _ _ A,k,g r⟩
 |dic t m g=>
  intro _ h;obtain⟨a,s,e,⟨o,z,d⟩,k,r⟩:=h;exact⟨a,s,e,⟨o,l.Z _ _ z,d⟩,k,g r⟩
 |ref i=>exact fun h=>⟨GQ h.1 l.N,h.2.trans (by rw [(l.φ i h.1).1])⟩
 |nil=>assumption
 |cons x q i j=>
  rename_i h;obtain⟨y,B,e,a,b⟩:=h;exact⟨y,B,e,i a,j b⟩
theorem VReps.mono {G c:Gh} (l:G.Le c) {xs:List V}:∀ {vs:List GB},VReps G xs vs->VReps c xs vs:=by
 induction xs with
 |nil=>exact fun h=>h
 |cons x xs d=>
  intro _ h;obtain⟨y,f,e,a,b⟩:=h;exact⟨y,f,e,VRep.mono l a,d b⟩
theorem VReps.nil {G:Gh}:VReps G [] []:=by rfl
theorem VReps.cons {G:Gh} {x:V} {v:GB} {xs:List V} {vs:List GB} (a:VRep G x v) (b:VReps G xs vs):VReps G (x::xs) (v::vs):=by exact⟨_,_,rfl,a,b⟩
theorem VReps.length {G:Gh} {xs:List V}:∀ {vs:List GB},VReps G xs vs->vs.length=xs.length:=by
 induction xs with
 |nil=>intro _ h;cases h;rfl
 |cons x xs c=>
  intro _ h;obtain⟨y,d,e,a,b⟩:=h;rw [e];exact congrArg Nat.succ (c b)
theorem VReps.get {G:Gh} {xs:List V}:∀ {vs:List GB} {i:Nat} {x:V},VReps G xs vs->xs[i]? =Gu x->∃v,vs[i]? =Gu v/\VRep G x v:=by
 induction xs with
 |nil=>
  intro _ _ _ _ e;simp at e
 |cons x xs c=>
  intro _ i y h e;obtain⟨v,f,d,a,b⟩:=h;subst d
  cases i with
  |zero=>simp at e;subst e;exact⟨v,by simp,a⟩
  |succ i=>
   have:=c (i:=i) b (by simpa using e)
   simpa using this
theorem VReps.append {G:Gh} {xs:List V}:∀ {c:List V} {vs d:List GB},VReps G xs vs->VReps G c d->VReps G (xs++c) (vs++d):=by
 induction xs with
 |nil=>
  intro _ _ _ h k;subst h;exact k
 |cons x xs e=>
  intro _ _ _ h k;obtain⟨v,f,g,a,b⟩:=h;subst g;exact .cons a (e b k)
theorem VReps.take {G:Gh} (n:Nat) {xs:List V}:∀ {vs:List GB},VReps G xs vs->VReps G (xs.take n) (vs.take n):=by
 induction xs generalizing n with
 |nil=>intro _ h;cases h;cases n<;>exact .nil
 |cons x xs c=>
  intro _ h;obtain⟨v,d,e,a,b⟩:=h;subst e
  cases n with
  |zero=>exact .nil
  |succ n=>exact .cons a (c n b)
theorem VReps.drop {G:Gh} (n:Nat) {xs:List V}:∀ {vs:List GB},VReps G xs vs->VReps G (xs.drop n) (vs.drop n):=by
 induction xs generalizing n with
 |nil=>intro _ h;cases h;cases n<;>exact .nil
 |cons x xs c=>
  intro _ h
  cases n with
  |zero=>exact h
  |succ n=>
   obtain⟨v,d,e,a,b⟩:=h;subst e;exact c n b
theorem VReps.set {G:Gh} {y:V} {u:GB} (c:VRep G y u) (n:Nat) {xs:List V}:∀ {vs:List GB},VReps G xs vs->VReps G (xs.set n y) (vs.set n u):=by
 induction xs generalizing n with
 |nil=>intro _ h;cases h;exact .nil
 |cons x xs d=>
  intro _ h;obtain⟨v,e,f,a,b⟩:=h;subst f
  cases n with
  |zero=>exact .cons c b
  |succ n=>exact .cons a (d n b)
theorem VReps.reverse {G:Gh} {xs:List V}:∀ {vs:List GB},VReps G xs vs->VReps G xs.reverse vs.reverse:=by
 induction xs with
 |nil=>
  intro _ h;subst h;exact .nil
 |cons x xs c=>
  intro _ h;obtain⟨v,d,e,a,b⟩:=h;subst e;rw [I6,I6];exact VReps.append (c b) (.cons a .nil)
noncomputable def ARep (G:Gh):List (Nat×V)->List IK->Prop
 |[],c=>c=[]
 |d::r,c=>∃e b,c=e::b/\(d.1<55/\∃t,e.key=.str (nm d.1) t)/\VRep G d.2 e.val/\ARep G r b
noncomputable def DRep (G:Gh):List (Int×V)->List (Int×GB)->Prop
 |[],l=>l=[]
 |b::r,l=>∃y c,l=y::c/\y.1=b.1/\VRep G b.2 y.2/\DRep G r c
theorem ARep.mono {G j:Gh} (l:G.Le j) {f:List (Nat×V)}:∀ {g:List IK},ARep G f g->ARep j f g:=by
 induction f with
 |nil=>exact fun h=>h
 |cons x f k=>
  intro g h;obtain⟨e,i,a,b,c,d⟩:=h;exact⟨e,i,a,b,c.mono l,k d⟩
theorem DRep.mono {G j:Gh} (l:G.Le j) {f:List (Int×V)}:∀ {g:List (Int×GB)},DRep G f g->DRep j f g:=by
 induction f with
 |nil=>exact fun h=>h
 |cons x f k=>
  intro g h;obtain⟨e,i,a,b,c,d⟩:=h;exact⟨e,i,a,b,c.mono l,k d⟩
noncomputable def iq (G:Gh) (h:HY) (i:Nat):Cell->Prop
 |.dead=>True
 |.list vs=>∃items n,h.get? (G.φ i)=Gu (HP items n)/\VReps G vs items.toList
 |.dict kvs=>∃b,(∃o,h.get? (G.φ i)=Gu o/\iO o b)/\DRep G kvs b
 |.inst c e=>h.get? (G.φ i)=Gu (J0 c (G.δ i))/\∃d n,h.get? (G.δ i)=Gu (Nj d n)/\ARep G e d
def aT (σ:Sg) (i:Nat):Prop:=i<σ.n/\σ.cell i≠.dead
structure ff (base:HY) (Fs:List J5) (Pv:List GW) (G:Gh) (σ:Sg) (h:HY):Prop where
 N:G.N=σ.n
 stays:base.StaysIn h
 frames:h.FunFrames base Fs
 cells:∀i,aT σ i->iq G h i (σ.cell i)
 live:∀i,aT σ i->(∃o,h.get? (G.φ i)=Gu o)/\∃o,h.get? (G.δ i)=Gu o
 fresh:∀i,aT σ i->∀b,b=G.φ i\/b=G.δ i->base.get? b=Gw/\G.Z b=Gw/\b∉Pv
 inj:∀i j,aT σ i->aT σ j->i≠j->∀b,b=G.φ i\/b=G.δ i->b≠G.φ j/\b≠G.δ j
 froz:∀a o,G.Z a=Gu o->h.get? a=Gu o
 pv:∀b∈Pv,(∃o,h.get? b=Gu o)/\base.get? b=Gw/\G.Z b=Gw
 fpv:∀env∈Fs,∀L,env.frame=Gu L->L∈Pv
 sys:(∃o,base.get? KO=Gu o)/\G.Z KO=Gw
structure gj (Fs:List J5) (G:Gh) (σ:Sg) (h:HY) (G':Gh) (σ':Sg) (h':HY):Prop where
 le:G.Le G'
 keep:∀b o,h.get? b=Gu o->(∀i,aT σ i->b≠G.φ i/\b≠G.δ i)->∃o',h'.get? b=Gu o'/\(o'=o\/(b∈Fs.filterMap (·.frame)/\∃sl,o'={o with slots:=sl}))
 there:∀b,(∃o,h.get? b=Gu o)->∃o,h'.get? b=Gu o
 newφ:∀i,G.N<=i->aT σ' i->h.get? (G'.φ i)=Gw/\h.get? (G'.δ i)=Gw
 newZ:∀a o,G'.Z a=Gu o->G.Z a=Gu o\/h.get? a=Gw\/∃i,aT σ i/\(a=G.φ i\/a=G.δ i)
 dead:∀i,i<G.N->aT σ' i->aT σ i
theorem Ga {h:HY} {a:GW} {o:JE} (e:h.get? a=Gu o): @LT.lt Nat instLTNat a h.objs.size:=HB e
theorem jf {h h':HY} {a:GW} {m:He->Option GB} (x:h.Ns a m) (k:∀o,h.get? a=Gu o->∃b,h'.get? a=Gu b/\b.data=o.data):h'.Ns a m:=by
 obtain⟨o,e,f,g,i,r⟩:=x;obtain⟨b,c,d⟩:=k o g;exact⟨b,e,f,c,d.trans i,r⟩
theorem dS {h h' base:HY} {l:List J5}:h.FunFrames base l->(∀env∈l,∀L,env.frame=Gu L->∀o,h.get? L=Gu o->(∀vs,o.data≠.fields vs)->∃b,h'.get? L=Gu b/\∀vs,b.data≠.fields vs)->h'.FunFrames base l:=by
 induction l with
 |nil=>
  intro _ _;exact trivial
 |cons env _ i=>
  intro c k;obtain⟨j,⟨L,o,g,m,n,p⟩,q⟩:=c;obtain⟨b,d,f⟩:=k env (.head _) L g o n p;exact⟨j,⟨L,b,g,m,d,f⟩,i q fun e r=>k e (.tail _ r)⟩
theorem dh {h h' base:HY} {l:List J5} (x:h.FunFrames base l) (k:∀env∈l,∀L,env.frame=Gu L->∀o,h.get? L=Gu o->∃b,h'.get? L=Gu b/\b.data=o.data):h'.FunFrames base l:=
 dS x fun env f L g o e i=>by
  obtain⟨b,c,d⟩:=k env f L g o e;exact⟨b,c,fun j e=>i j (d▸e)⟩
structure Cx where
 base:HY
 Fs:List J5
 env:J5
 Pv:List GW
 pins:List (GW×JE)
 G₀:Gh
 σ₀:Sg
 s₀:GD
 comp:Bool
def f3 (env:J5) (G:Gh) (h:HY) (m:He->Option GB) (x:He×G6) (v:V):Prop:=
 (x.2=.local/\∃u,m x.1=Gu u/\VRep G v u)\/((x.2=.cell\/x.2=.free)/\∃a u,env.cells.lookup x.1=Gu a/\h.IsCell a (Gu u)/\VRep G v u)
def pF (env:J5) (ρ:List (Option V)) (G:Gh) (h:HY):Prop:=
 ∃m,h.Ns env.locals m/\(∀(k:Nat) x v,env.scope.names[k]? =Gu x->ρ[k]? =Gu (Gu v)->f3 env G h m x v)/\∀x,(x,Jn)∈env.scope.names->∃a b,env.cells.lookup x=Gu a/\h.IsCell a b
structure aJ (c:Cx):Prop where
 kind:c.env.scope.kind=.function
 nodup:(c.env.scope.names.map (·.1)).Nodup
 locPv:c.env.locals∈c.Pv
 locNew:c.s₀.heap.get? c.env.locals=Gw
 baseLe:c.base.objs.size<=c.env.locals
 cellPv:∀x a,c.env.cells.lookup x=Gu a->a∈c.Pv/\a≠c.env.locals
 cellNew:c.comp=Gz->∀x a,(x,Jn)∈c.env.scope.names->c.env.cells.lookup x=Gu a->c.s₀.heap.get? a=Gw
 cellInj:∀x y a b,c.env.cells.lookup x=Gu a->c.env.cells.lookup y=Gu b->x≠y->a≠b
 pins:∀p∈c.pins,p.1∈c.Pv/\p.1≠c.env.locals/\p.1∉c.Fs.filterMap (·.frame)/\∀x a,c.env.cells.lookup x=Gu a->p.1≠a
 glob:c.env.globals=IC
 bi:c.env.builtins=KP
 frame:∃e r L,c.Fs=e::r/\e.frame=Gu L/\c.env.frame=Gu L
 fpv:∀env∈c.Fs,∀L,env.frame=Gu L->L∈c.Pv
section
structure At (c:Cx) (ρ:List (Option V)) (G:Gh) (σ:Sg) (s:GD):Prop where
 inv:ff c.base c.Fs c.Pv G σ s.heap
 envr:pF c.env ρ G s.heap
 adv:gj c.Fs c.G₀ c.σ₀ c.s₀.heap G σ s.heap
 gens:s.gens=c.s₀.gens
 os:s.os=c.s₀.os
 pins:∀p∈c.pins,s.heap.get? p.1=Gu p.2
variable {c:Cx} {ρ:List (Option V)} {G:Gh} {σ:Sg} {s:GD}
theorem iq.keeps {h h':HY} {i:Nat} {cl:Cell} (x:iq G h i cl) (f:∀o,h.get? (G.φ i)=Gu o->h'.get? (G.φ i)=Gu o) (g:∀o,h.get? (G.δ i)=Gu o->h'.get? (G.δ i)=Gu o):iq G h' i cl:=by
 cases cl with
 |dead=>trivial
 |list l=>obtain⟨d,n,a,b⟩:=x;exact⟨d,n,f _ a,b⟩
 |dict j=>obtain⟨e,⟨o,a,b⟩,r⟩:=x;exact⟨e,⟨o,f _ a,b⟩,r⟩
 |inst C m=>obtain⟨a,k,n,b,r⟩:=x;exact⟨f _ a,k,n,g _ b,r⟩
theorem iq.mono {g:Gh} {h:HY} {i:Nat} {cl:Cell} (l:G.Le g) (hi:i<G.N) (x:iq G h i cl):iq g h i cl:=by
 obtain⟨f,j⟩:=l.φ i hi
 cases cl with
 |dead=>trivial
 |list o=>obtain⟨d,n,a,b⟩:=x;exact⟨d,n,f▸a,b.mono l⟩
 |dict k=>obtain⟨e,a,r⟩:=x;exact⟨e,by rw [f];exact a,r.mono l⟩
 |inst C p=>obtain⟨a,m,n,b,r⟩:=x;exact⟨f▸j▸a,m,n,j▸b,r.mono l⟩
theorem f3.keeps {env:J5} {j:Gh} {h h':HY} {m:He->Option GB} {x:He×G6} {v:V} (z:f3 env G h m x v) (l:G.Le j)
  (k:∀y a,env.cells.lookup y=Gu a->∀o,h.get? a=Gu o->∃i,h'.get? a=Gu i/\i.data=o.data):f3 env j h' m x v:=by
 rcases z with ⟨a,u,b,d⟩ |⟨a,b,u,e,⟨o,f,n⟩,d⟩
 ·exact .inl ⟨a,u,b,d.mono l⟩
 ·obtain⟨i,g,p⟩:=k _ _ e o f;exact .inr ⟨a,b,u,e,⟨i,g,p.trans n⟩,d.mono l⟩
theorem pF.keeps {env:J5} {g:Gh} {h h':HY} (x:pF env ρ G h) (l:G.Le g) (k:∀o,h.get? env.locals=Gu o->∃e,h'.get? env.locals=Gu e/\e.data=o.data)
  (j:∀y a,env.cells.lookup y=Gu a->∀o,h.get? a=Gu o->∃e,h'.get? a=Gu e/\e.data=o.data):pF env ρ g h':=by
 obtain⟨m,a,b,d⟩:=x;refine⟨m,jf a k,fun i y v p r=>(b i y v p r).keeps l j,fun y t=>?_⟩;obtain⟨q,f,n,⟨o,u,z⟩⟩:=d y t;obtain⟨e,A,B⟩:=j y q n o u;exact⟨q,f,n,e,A,B.trans z⟩
theorem At.tok (x:At c ρ G σ s) (t:M1):At c ρ G σ {s with toks:=t}:=⟨x.inv,x.envr,x.adv,x.gens,x.os,x.pins⟩
theorem ff.pv_ne {base:HY} {Fs:List J5} {d:List GW} {h:HY} (x:ff base Fs d G σ h) {b:GW} (f:b∈d):∀i,aT σ i->b≠G.φ i/\b≠G.δ i:=
 fun i g=>⟨fun e=>(x.fresh i g _ (.inl rfl)).2.2 (e▸f),fun e=>(x.fresh i g _ (.inr rfl)).2.2 (e▸f)⟩
theorem At.grow (x:At c ρ G σ s) {h':HY} {t:M1} (k:∀b o,s.heap.get? b=Gu o->h'.get? b=Gu o):At c ρ G σ {s with heap:=h',toks:=t}:=by
 have g:∀b o,s.heap.get? b=Gu o->∃d,h'.get? b=Gu d/\d.data=o.data:=fun b o e=>⟨o,k b o e,rfl⟩
 refine⟨⟨x.inv.N,fun b o e=>k b o (x.inv.stays b o e),dh x.inv.frames fun Z Z L Z o e=>g L o e,fun i j=>(x.inv.cells i j).keeps (k _) (k _),fun i j=>?_,x.inv.fresh,x.inv.inj,fun a o e=>k a o (x.inv.froz a o e),
   fun b l=>?_,x.inv.fpv,x.inv.sys⟩,x.envr.keeps (.refl _) (g _) (fun Z a Z=>g a),⟨x.adv.le,fun b o e f=>?_,fun b l=>(x.adv.there b l).elim fun o e=>⟨o,k _ _ e⟩,x.adv.newφ,x.adv.newZ,x.adv.dead⟩,x.gens,x.os,fun p m=>k _ _ (x.pins p m)⟩
 ·obtain⟨⟨o,a⟩,⟨d,b⟩⟩:=x.inv.live i j;exact⟨⟨o,k _ _ a⟩,⟨d,k _ _ b⟩⟩
 ·obtain⟨⟨o,a⟩,r⟩:=x.inv.pv b l;exact⟨⟨o,k _ _ a⟩,r⟩
 ·obtain⟨d,a,r⟩:=x.adv.keep b o e f;exact⟨d,k _ _ a,r⟩
theorem At.push (x:At c ρ G σ s) (o:JE) (t:M1):At c ρ G σ {s with heap:=s.heap.push o,toks:=t}:=
 x.grow (fun Z Z e=>GU _ e)
theorem At.mut (x:At c ρ G σ s) (C:aJ c) {i:Nat} {cl:Cell} (hi:aT σ i) {h':HY} {t:M1} (k:∀b o,s.heap.get? b=Gu o->b≠G.φ i->b≠G.δ i->h'.get? b=Gu o)
  (I:∃o,h'.get? (G.φ i)=Gu o) (J:∃o,h'.get? (G.δ i)=Gu o) (P:iq G h' i cl):At c ρ G (σ.set i cl) {s with heap:=h',toks:=t}:=by
 revert i cl h' t;delta c ρ G σ s;revert h' t;delta i cl;delta h' t
 have g:∀j,aT (σ.set i cl) j->aT σ j:=fun j d=>by
  refine⟨d.1,fun e=>?_⟩
  by_cases q:j=i
  ·subst q;exact hi.2 e
  ·exact d.2 (by rw [Sg.set_cell,if_neg q];exact e)
 have D:∀b∈c.Pv,∀o,s.heap.get? b=Gu o->h'.get? b=Gu o:=fun b l o e=>k b o e (x.inv.pv_ne l i hi).1 (x.inv.pv_ne l i hi).2
 have E:∀b∈c.Pv,∀o,s.heap.get? b=Gu o->∃v,h'.get? b=Gu v/\v.data=o.data:=fun b l o e=>⟨o,D b l o e,rfl⟩
 have B:=x.inv.fresh i hi
 refine⟨⟨x.inv.N,fun b o e=>k b o (x.inv.stays b o e) (fun q=>by rw [q,(B _ (.inl rfl)).1] at e;cases e) (fun q=>by rw [q,(B _ (.inr rfl)).1] at e;cases e),
   dh x.inv.frames fun F Q L R o e=>E L (x.inv.fpv F Q L R) o e,fun j d=>?_,fun j d=>?_,fun j d=>x.inv.fresh j (g j d),fun a b S l=>x.inv.inj a b (g a S) (g b l),
   fun a o e=>k a o (x.inv.froz a o e) (fun q=>by rw [q,(B _ (.inl rfl)).2.1] at e;cases e) (fun q=>by rw [q,(B _ (.inr rfl)).2.1] at e;cases e),fun b l=>?_,x.inv.fpv,x.inv.sys⟩,
  x.envr.keeps (.refl _) (E _ C.locPv) (fun y a e=>E a (C.cellPv y a e).1),⟨x.adv.le,fun b o e f=>?_,fun b l=>?_,fun j d a=>x.adv.newφ j d (g j a),x.adv.newZ,fun j d a=>x.adv.dead j d (g j a)⟩,x.gens,x.os,
  fun p K=>D _ (C.pins p K).1 _ (x.pins p K)⟩
 ·by_cases q:j=i
  ·subst q;rw [Sg.set_cell,if_pos rfl];exact P
  ·rw [Sg.set_cell,if_neg q]
   have z:=x.inv.inj j i (g j d) hi q _ (.inl rfl)
   have A:=x.inv.inj j i (g j d) hi q _ (.inr rfl)
   exact(x.inv.cells j (g j d)).keeps (fun o e=>k _ o e z.1 z.2) (fun o e=>k _ o e A.1 A.2)
 ·by_cases q:j=i
  ·subst q;exact⟨I,J⟩
  ·have z:=x.inv.inj j i (g j d) hi q _ (.inl rfl)
   have A:=x.inv.inj j i (g j d) hi q _ (.inr rfl)
   obtain⟨⟨o,a⟩,⟨v,b⟩⟩:=x.inv.live j (g j d);exact⟨⟨o,k _ _ a z.1 z.2⟩,⟨v,k _ _ b A.1 A.2⟩⟩
 ·obtain⟨⟨o,a⟩,r⟩:=x.inv.pv b l;exact⟨⟨o,D b l _ a⟩,r⟩
 ·obtain⟨v,a,r⟩:=x.adv.keep b o e f
  have n:∀q,(q=G.φ i\/q=G.δ i)->b≠q:=fun q m u=>by
   by_cases H:i<c.G₀.N
   ·have M:=x.adv.dead i H hi
    have:=x.adv.le.φ i H
    rcases m with m|m
    ·exact(f i M).1 (by rw [u,m,this.1])
    ·exact(f i M).2 (by rw [u,m,this.2])
   ·have:=x.adv.newφ i (HO H) hi
    rcases m with m|m
    ·rw [u,m,this.1] at e;cases e
    ·rw [u,m,this.2] at e;cases e
  exact⟨v,k _ _ a (n _ (.inl rfl)) (n _ (.inr rfl)),r⟩
 ·obtain⟨o,e⟩:=x.adv.there b l
  by_cases N:b=G.φ i
  ·rw [N];exact I
  ·by_cases O:b=G.δ i
   ·rw [O];exact J
   ·exact⟨o,k _ _ e N O⟩
noncomputable def Gh.add (G:Gh) (a d:GW):Gh:={G with N:=G.N+1,φ:=fun i=>if i=G.N then a else G.φ i,δ:=fun i=>if i=G.N then d else G.δ i}
noncomputable def Gh.frz (G:Gh) (a:GW) (o:JE):Gh:={G with Z:=fun b=>if b=a then Gu o else G.Z b}
theorem Gh.add_le (G:Gh) (a d:GW):G.Le (G.add a d):=⟨Hn _,fun i b=>⟨if_neg (G9 b),if_neg (G9 b)⟩,fun Z Z e=>e⟩
theorem Gh.frz_le (G:Gh) (a:GW) (o:JE) (h:G.Z a=Gw):G.Le (G.frz a o):=⟨GP _,fun Y Y=>⟨rfl,rfl⟩,fun b d e=>by
 show(if b=a then Gu o else G.Z b)=Gu d
 by_cases q:b=a
 ·subst q;rw [h] at e;cases e
 ·rw [if_neg q];exact e⟩
def qt (c:Cx) (G:Gh) (σ:Sg) (q:GW):Prop:=(c.base.get? q=Gw/\G.Z q=Gw/\q∉c.Pv)/\(∀j,aT σ j->G.φ j≠q/\G.δ j≠q)/\c.s₀.heap.get? q=Gw
theorem At.adopt' {u:GD} (k:At c ρ G σ u) {a d:GW} {cl:Cell}
  (y:qt c G σ a) (hd:qt c G σ d) (L:∃o,u.heap.get? a=Gu o) (M:∃o,u.heap.get? d=Gu o) (N:iq (G.add a d) u.heap G.N cl) (E:cl≠.dead):
  At c ρ (G.add a d) (σ.alloc cl) u:=by
 revert u a d cl;delta c ρ G σ;revert a d cl;delta u;delta a d cl
 have z:=k.inv.N
 have C:=Gh.add_le G a d
 have n:∀j,aT (σ.alloc cl) j->j≠G.N->aT σ j:=fun j f q=>by
  have O:j≠σ.n:=z▸q
  refine⟨?_,?_⟩
  ·have:=f.1;simp only [Sg.alloc_n] at this;lia
  ·have:=f.2;rw [Sg.alloc_cell,if_neg O] at this;exact this
 have r:∀j,aT σ j->j<G.N:=fun j f=>z▸f.1
 have g:∀j,j<G.N->(G.add a d).φ j=G.φ j/\(G.add a d).δ j=G.δ j:=C.φ
 have l:(G.add a d).φ G.N=a/\(G.add a d).δ G.N=d:=⟨if_pos rfl,if_pos rfl⟩
 have v:∀j,aT σ j->∀b,(b=G.φ j\/b=G.δ j)->∀q,qt c G σ q->b≠q:=fun j f b m q F=>by
  rcases m with rfl|rfl
  ·exact(F.2.1 j f).1
  ·exact(F.2.1 j f).2
 have A:∀b,qt c G σ b->c.base.get? b=Gw/\G.Z b=Gw/\b∉c.Pv:=fun b m=>m.1
 have t:∀b,qt c G σ b->c.s₀.heap.get? b=Gw:=fun b m=>m.2.2
 refine⟨⟨by rw [Sg.alloc_n, <-z];rfl,k.inv.stays,k.inv.frames,fun j f=>?_,fun j f=>?_,fun j f b m=>?_,fun i j P f H b m=>?_,k.inv.froz,k.inv.pv,k.inv.fpv,k.inv.sys⟩,k.envr.keeps C (fun o e=>⟨o,e,rfl⟩) (fun Y Y Y o e=>⟨o,e,rfl⟩),
  ⟨k.adv.le.trans C,k.adv.keep,k.adv.there,fun j f p=>?_,k.adv.newZ,fun j f p=>?_⟩,k.gens,k.os,k.pins⟩
 ·by_cases q:j=G.N
  ·subst q;rw [Sg.alloc_cell,if_pos z];exact N
  ·rw [Sg.alloc_cell,if_neg (z▸q)];exact(k.inv.cells j (n j f q)).mono C (r j (n j f q))
 ·by_cases q:j=G.N
  ·subst q;rw [l.1,l.2];exact⟨L,M⟩
  ·rw [(g j (r j (n j f q))).1,(g j (r j (n j f q))).2];exact k.inv.live j (n j f q)
 ·by_cases q:j=G.N
  ·subst q;rw [l.1,l.2] at m;rcases m with rfl|rfl
   ·exact A _ y
   ·exact A _ hd
  ·rw [(g j (r j (n j f q))).1,(g j (r j (n j f q))).2] at m;exact k.inv.fresh j (n j f q) b m
 ·revert b;delta i j;delta b
  by_cases I:i=G.N
  ·subst I;rw [l.1,l.2] at m
   have p:=n j f (Hz H)
   rw [(g j (r j p)).1,(g j (r j p)).2]
   have B:=v j p _ (.inl rfl)
   have J:=v j p _ (.inr rfl)
   rcases m with rfl|rfl
   ·exact⟨(B _ y).symm,(J _ y).symm⟩
   ·exact⟨(B _ hd).symm,(J _ hd).symm⟩
  ·have D:=n i P I
   rw [(g i (r i D)).1,(g i (r i D)).2] at m
   have B:=v i D b m
   by_cases K:j=G.N
   ·subst K;rw [l.1,l.2];exact⟨B _ y,B _ hd⟩
   ·have p:=n j f K
    rw [(g j (r j p)).1,(g j (r j p)).2];exact k.inv.inj i j D p H b m
 ·by_cases q:j=G.N
  ·subst q;rw [l.1,l.2];exact⟨t _ y,t _ hd⟩
  ·rw [(g j (r j (n j p q))).1,(g j (r j (n j p q))).2];exact k.adv.newφ j f (n j p q)
 ·have q:j≠G.N:=by have:=k.adv.le.N;exact(l3 493688003875334) f this
  exact k.adv.dead j f (n j p q)
theorem At.free (x:At c ρ G σ s) {q:GW} (b:s.heap.get? q=Gw):qt c G σ q:=by
 refine⟨⟨?_,?_,fun z=>?_⟩,fun j d=>⟨fun z=>?_,fun z=>?_⟩,?_⟩
 ·cases e:c.base.get? q with
  |none=>rfl
  |some o=>have:=x.inv.stays q o e;rw [b] at this;cases this
 ·cases e:G.Z q with
  |none=>rfl
  |some o=>have:=x.inv.froz q o e;rw [b] at this;cases this
 ·obtain⟨⟨o,e⟩,_⟩:=x.inv.pv q z;rw [b] at e;cases e
 ·obtain⟨⟨o,e⟩,_⟩:=x.inv.live j d;rw [z,b] at e;cases e
 ·obtain⟨_,⟨o,e⟩⟩:=x.inv.live j d;rw [z,b] at e;cases e
 ·cases e:c.s₀.heap.get? q with
  |none=>rfl
  |some o=>obtain⟨g,f⟩:=x.adv.there q ⟨o,e⟩;rw [b] at f;cases f
theorem At.adopt (x:At c ρ G σ s) {e:GD} (f:At c ρ G σ e) {a d:GW} {cl:Cell}
 (g:s.heap.get? a=Gw) (hd:s.heap.get? d=Gw) (i:∃o,e.heap.get? a=Gu o) (j:∃o,e.heap.get? d=Gu o) (k:iq (G.add a d) e.heap G.N cl) (b:cl≠.dead):
 At c ρ (G.add a d) (σ.alloc cl) e:=f.adopt' (x.free g) (x.free hd) i j k b
theorem At.track (x:At c ρ G σ s) {h':HY} {t:M1} {a d:GW} {cl:Cell} (k:∀b o,s.heap.get? b=Gu o->h'.get? b=Gu o)
 (f:s.heap.get? a=Gw) (hd:s.heap.get? d=Gw) (g:∃o,h'.get? a=Gu o) (i:∃o,h'.get? d=Gu o) (j:iq (G.add a d) h' G.N cl) (e:cl≠.dead):
 At c ρ (G.add a d) (σ.alloc cl) {s with heap:=h',toks:=t}:=x.adopt (x.grow (t:=t) k) f hd g i j e
theorem At.froze (x:At c ρ G σ s) {h':HY} {t:M1} {a:GW} {o:JE} (k:∀b o,s.heap.get? b=Gu o->h'.get? b=Gu o)
  (y:s.heap.get? a=Gw) (z:h'.get? a=Gu o):At c ρ (G.frz a o) σ {s with heap:=h',toks:=t}/\G.Le (G.frz a o)/\(G.frz a o).Z a=Gu o:=by
 revert h' t a o;delta c ρ G σ s;delta h' t a o
 have d:=x.grow (t:=t) k
 have A:G.Z a=Gw:=by
  cases e:G.Z a with
  |none=>rfl
  |some o=>have:=x.inv.froz _ _ e;rw [y] at this;cases this
 have n:=Gh.frz_le G a o A
 have p:∀b g,s.heap.get? b=Gu g->b≠a:=fun b g e q=>by rw [q,y] at e;cases e
 have l:∀b,b≠a->(G.frz a o).Z b=G.Z b:=fun b i=>if_neg i
 refine⟨⟨⟨x.inv.N,d.inv.stays,d.inv.frames,fun j m=>(d.inv.cells j m).mono n (x.inv.N▸m.1),d.inv.live,fun j m b i=>?_,d.inv.inj,fun b g e=>?_,fun b i=>?_,d.inv.fpv,d.inv.sys.1,?_⟩,d.envr.keeps n (fun o e=>⟨o,e,rfl⟩) (fun Y Y Y o e=>⟨o,e,rfl⟩),
  ⟨x.adv.le.trans n,d.adv.keep,d.adv.there,d.adv.newφ,fun b g e=>?_,d.adv.dead⟩,x.gens,x.os,d.pins⟩,n,if_pos rfl⟩
 ·have f:=x.inv.fresh j m b i
  refine⟨f.1,?_,f.2.2⟩;rw [l b];exact f.2.1;obtain⟨⟨r,u⟩,⟨F,B⟩⟩:=x.inv.live j m;rcases i with rfl|rfl
  ·exact p _ _ u
  ·exact p _ _ B
 ·by_cases q:b=a
  ·subst q
   have:(G.frz b o).Z b=Gu o:=if_pos rfl
   rw [this] at e;cases e;exact z
  ·rw [l b q] at e;exact d.inv.froz b g e
 ·obtain⟨⟨r,u⟩,C,D⟩:=x.inv.pv b i;exact⟨⟨r,k _ _ u⟩,C,by rw [l b (p _ _ u)];exact D⟩
 ·obtain⟨g,v⟩:=x.inv.sys.1;rw [l _ (p _ _ (x.inv.stays _ _ v))];exact x.inv.sys.2
 ·by_cases q:b=a
  ·subst q;refine .inr (.inl ?_)
   cases E:c.s₀.heap.get? b with
   |none=>rfl
   |some r=>obtain⟨g,v⟩:=x.adv.there b ⟨r,E⟩;rw [y] at v;cases v
  ·rw [l b q] at e;exact x.adv.newZ b g e
theorem At.priv (x:At c ρ G σ s) (N:aJ c) {q:GW} (y:q∈c.Pv) (D:c.s₀.heap.get? q=Gw) (hp:∀p∈c.pins,p.1≠q) {h':HY} {t:M1} {k:List (Option V)} (E:∀b,b≠q->h'.get? b=s.heap.get? b)
  (F:∃o,h'.get? q=Gu o/\((∀vs,o.data≠.fields vs)\/∀env∈c.Fs,env.frame≠Gu q)) (H:pF c.env k G h'):At c k G σ {s with heap:=h',toks:=t}:=by
 have g:∀b o,(b=q->False)->s.heap.get? b=Gu o->h'.get? b=Gu o:=fun b o n e=>(E b n).trans e
 obtain⟨A,l,d⟩:=F
 have u:∀b,(∃o,s.heap.get? b=Gu o)->∃o,h'.get? b=Gu o:=fun b ⟨o,e⟩=>by
  by_cases z:b=q
  ·exact⟨A,z▸l⟩
  ·exact⟨o,g b o z e⟩
 have B:=x.inv.pv q y
 refine⟨⟨x.inv.N,fun b o e=>g b o (fun z=>by rw [z,B.2.1] at e;cases e) (x.inv.stays b o e),dS x.inv.frames fun env I L J o e K=>?_,fun i j=>(x.inv.cells i j).keeps (fun o e=>g _ o (fun z=>(x.inv.pv_ne y i j).1 z.symm) e) (fun o e=>g _ o (fun z=>(x.inv.pv_ne y i j).2 z.symm) e),
   fun i j=>⟨u _ (x.inv.live i j).1,u _ (x.inv.live i j).2⟩,x.inv.fresh,x.inv.inj,fun b o e=>g b o (fun z=>by rw [z,B.2.2] at e;cases e) (x.inv.froz b o e),fun b v=>⟨u b (x.inv.pv b v).1,(x.inv.pv b v).2⟩,x.inv.fpv,x.inv.sys⟩,H,
  ⟨x.adv.le,fun b o e f=>?_,fun b v=>u b (x.adv.there b v),x.adv.newφ,x.adv.newZ,x.adv.dead⟩,x.gens,x.os,fun p m=>g _ _ (hp p m) (x.pins p m)⟩
 ·by_cases z:L=q
  ·subst z;rcases d with d|d
   ·exact⟨A,l,d⟩
   ·exact absurd J (d env I)
  ·exact⟨o,g L o z e,K⟩
 ·obtain⟨C,M,r⟩:=x.adv.keep b o e f;exact⟨C,g b C (fun z=>by rw [z,D] at e;cases e) M,r⟩
theorem wt {d β:Type}:∀ {l:List (d×β)} {i j:Nat} {x y:d×β},(l.map (·.1)).Nodup->l[i]? =Gu x->l[j]? =Gu y->x.1=y.1->i=j:=by
 intro l i j x y f g k e
 have b:(l.map (·.1))[i]? =Gu x.1:=by rw [Hg,g];rfl
 have m:(l.map (·.1))[j]? =Gu x.1:=by rw [Hg,k,e];rfl
 exact(NY (by rw [HS] at b;exact b.1) f).mp (b.trans m.symm)
theorem At.store (x:At c ρ G σ s) (i:aJ c) {k:Nat} {y:He×G6} {v:V} {F:GB} {h':HY} {t:M1} (J:c.env.scope.names[k]? =Gu y) (U:VRep G v F)
  (hs:(y.2=.local/\(∀m,s.heap.Ns c.env.locals m->h'.Ns c.env.locals (fun x=>if x=y.1 then Gu F else m x))/\Ir c.env.locals s.heap h')\/
   ∃a,c.comp=Gz/\y.2=.cell/\c.env.cells.lookup y.1=Gu a/\h'.IsCell a (Gu F)/\Ir a s.heap h'):At c (ρ.set k (Gu v)) G σ {s with heap:=h',toks:=t}:=by
 revert k y v F h' t;delta c ρ G σ s;delta k y v F h' t;obtain⟨m,K,W,X⟩:=x.envr;delta m
 have n:∀(j:Nat) z u,c.env.scope.names[j]? =Gu z->(ρ.set k (Gu v))[j]? =Gu (Gu u)->(j=k/\z=y/\u=v)\/(j≠k/\z.1≠y.1/\ρ[j]? =Gu (Gu u)):=fun j z u C l=>by
  by_cases q:j=k
  ·subst q;rw [J] at C;cases C;rw [Ik] at l;simp only [if_true] at l
   split at l
   ·simp only [MU] at l;exact .inl ⟨rfl,rfl,l.symm⟩
   ·cases l
  ·refine .inr ⟨q,fun e=>q (wt i.nodup C J e),?_⟩;rw [Ik,if_neg (Hz q)] at l;exact l
 rcases hs with ⟨I,H,D⟩ |⟨a,L,I,E,g,D⟩
 ·refine x.priv i i.locPv i.locNew (fun p M=>(i.pins p M).2.1) D.2 ?_ ⟨_,H m K,fun j z u C l=>?_,fun z N=>?_⟩
  ·obtain⟨o,Y,Z,d,f,_⟩:=H m K;exact⟨o,d,.inl fun vs e=>by rw [f] at e;cases e⟩
  ·delta j z u;rcases n j z u C l with ⟨rfl,rfl,rfl⟩ |⟨q,O,P⟩
   ·exact .inl ⟨I,F,by simp,U⟩
   ·rcases W j z u C P with ⟨d,w,f,A⟩ |⟨d,b,w,f,⟨o,A,Q⟩,R⟩
    ·exact .inl ⟨d,w,by simp [O,f],A⟩
    ·exact .inr ⟨d,b,w,f,⟨o,(D.2 b (i.cellPv _ _ f).2).trans A,Q⟩,R⟩
  ·obtain⟨b,B,d,⟨o,f,A⟩⟩:=X z N;exact⟨b,B,d,o,(D.2 b (i.cellPv _ _ d).2).trans f,A⟩
 ·delta a
  have S:(y.1,Jn)∈c.env.scope.names:=by
   have:=GN J
   rw [<-I];exact this
  have T:=(i.cellPv _ _ E).2
  refine x.priv i (i.cellPv _ _ E).1 (i.cellNew L _ _ S E) (fun p M=>(i.pins p M).2.2.2 _ _ E) D.2 ?_ ⟨m,?_,fun j z u C l=>?_,fun z N=>?_⟩
  ·obtain⟨o,d,f⟩:=g;exact⟨o,d,.inl fun vs e=>by rw [f] at e;cases e⟩
  ·obtain⟨o,Y,Z,d,r⟩:=K;exact⟨o,Y,Z,(D.2 _ (Hz T)).trans d,r⟩
  ·delta j z u;rcases n j z u C l with ⟨rfl,rfl,rfl⟩ |⟨q,O,P⟩
   ·exact .inr ⟨.inl I,a,F,E,g,U⟩
   ·rcases W j z u C P with ⟨d,w,f,A⟩ |⟨d,b,w,f,⟨o,A,Q⟩,R⟩
    ·exact .inl ⟨d,w,f,A⟩
    ·exact .inr ⟨d,b,w,f,⟨o,(D.2 b (i.cellInj _ _ _ _ f E O)).trans A,Q⟩,R⟩
  ·obtain⟨b,B,d,⟨o,f,A⟩⟩:=X z N
   by_cases q:z=y.1
   ·subst q;exact⟨a,_,E,g⟩
   ·exact⟨b,B,d,o,(D.2 b (i.cellInj _ _ _ _ d E q)).trans f,A⟩
end
set_option genCtorIdx true in
inductive Op|add|sub|mul|fdiv|mod|pow|shl|shr|band|bor|bxor
set_option genCtorIdx true in
inductive Rel|eq|ne|lt|le|gt|ge
inductive mj where
 |tup|lst|dct0
 |attr (n:Nat) |idx|from1|upto24
 |bin (op:Op) |rel (op:Rel) |isNone|notNone|inn|notIn|not
 |app|pop|rev|sortedKeys|get|len|sorted|tupleOf|intOf|abs|sum|ord|max|min
set_option genCtorIdx true in
inductive E where
 |const (v:V)
 |loc (k:Nat)
 |op (p:mj) (es:List E)
 |and (a b:E) |or (a b:E) |ite (c a b:E)
 |chain (a b c:E)
 |tsorted (e:E)
 |app (o e:E)
 |getD (o k d:E)
 |dct1 (k v:E)
 |dtrue (t:Nat) (iter:E)
 |callF (f:GW) (es:List E)
 |callM (n:Nat) (r:E) (es:List E)
 |callC (C:GW) (es:List E)
 |comp (vars:List (Option Nat)) (t:Nat) (elt iter:E)
 |compR (vars:List (Option Nat)) (t:Nat) (elt iter:E)
inductive ky where
 |loc (k:Nat)
 |locs (ks:List Nat)
set_option genCtorIdx true in
inductive S where
 |expr (e:E)
 |assign (t:ky) (e:E)
 |setAttr (o:E) (n:Nat) (e:E)
 |setIdx (o i e:E)
 |aug (k:Nat) (op:Op) (e:E)
 |augAttr (o:E) (n:Nat) (op:Op) (e:E)
 |augIdx (o i:E) (op:Op) (e:E)
 |ret (e:E)
 |ite (c:E) (a b:List S)
 |while (c:E) (b:List S)
 |for (t:ky) (e:E) (b:List S)
 |forR (k:Nat) (e:E) (b:List S)
 |cont
 |raise (e:E)
 |stuck
 |try (b:List S) (h:List S)
 |frz (k:Nat)
inductive Fl where
 |next|cont
 |ret (v:V)
structure mn where
 fields:List (GW×List Nat)
 consts:List ((GW×Nat)×V)
 meths:List ((GW×Nat)×GW)
 inits:List (GW×Option GW)
noncomputable def V.isN:V->Bool
 |.none=>Gx
 |_=>Gz
noncomputable def dT:Op->Int->Int->Option Int
 |.add,a,b=>Gu (a+b)
 |.sub,a,b=>Gu (a - b)
 |.mul,a,b=>if a.natAbs<2^60\/(a.natAbs<2^3000/\b.natAbs<2^3000) then Gu (a * b) else Gw
 |.fdiv,a,b=>if b=0\/1000000<b.natAbs then Gw else Gu (a.fdiv b)
 |.mod,a,b=>if b=0 then Gw else Gu (a.fmod b)
 |.pow,a,b=>if 0<=b/\b<=1000/\a.natAbs<2^64 then Gu (a^b.toNat) else Gw
 |.shl,a,b=>if 0<=b/\b<=1000000/\a.natAbs<2^64 then Gu (a * 2^b.toNat) else Gw
 |.shr,a,b=>if 0<=b then Gu (a.fdiv (2^b.toNat)) else Gw
 |.band,a,b=>Gu (I7 a b)
 |.bor,a,b=>Gu (JQ a b)
 |.bxor,a,b=>Gu (J9 a b)
noncomputable def A6:Rel->Int->Int->Bool
 |.eq,a,b=>a==b
 |.ne,a,b=>!(a==b)
 |.lt,a,b=>GL (a<b)
 |.le,a,b=>GL (a<=b)
 |.gt,a,b=>GL (a>b)
 |.ge,a,b=>GL (a>=b)
noncomputable def ints?:List V->Option (List Int)
 |[]=>Gu []
 |.int i::r=>(ints? r).map (i:: ·)
 |_::_=>Gw
noncomputable def strs?:List V->Option (List Nat)
 |[]=>Gu []
 |.str i::r=>(strs? r).map (i:: ·)
 |_::_=>Gw
noncomputable def aV:V->Sg->Option (List V)
 |.tup vs,_=>Gu vs
 |.lst vs,_=>Gu vs
 |.ref a,σ=>match σ.cell a with
  |.list vs=>Gu vs
  |_=>Gw
 |_,_=>Gw
noncomputable def lookI (k:Int):List (Int×V)->Option V
 |[]=>Gw
 |b::r=>if b.1=k then Gu b.2 else lookI k r
noncomputable def putI (k:Int) (v:V):List (Int×V)->List (Int×V)
 |[]=>[(k,v)]
 |b::r=>if b.1=k then(k,v)::r else b::putI k v r
noncomputable def cO:V->Sg->Option (List (Int×V))
 |.dic ks vs,_=>Gu (ks.zip vs)
 |.ref a,σ=>match σ.cell a with
  |.dict kvs=>Gu kvs
  |_=>Gw
 |_,_=>Gw
noncomputable def lookN (k:Nat):List (Nat×V)->Option V
 |[]=>Gw
 |b::r=>if b.1=k then Gu b.2 else lookN k r
noncomputable def putN' (k:Nat) (v:V):List (Nat×V)->List (Nat×V)
 |[]=>[(k,v)]
 |b::r=>if b.1=k then(k,v)::r else b::putN' k v r
noncomputable def lookT {β:Type} (c:GW) (n:Nat):List ((GW×Nat)×β)->Option β
 |[]=>Gw
 |e::r=>if e.1.1=c/\e.1.2=n then Gu e.2 else lookT c n r
noncomputable def lookC {β:Type} (c:GW):List (GW×β)->Option β
 |[]=>Gw
 |e::r=>if e.1=c then Gu e.2 else lookC c r
noncomputable def bX (T:mn) (c:GW) (n:Nat):Bool:=match lookC c T.fields with
 |some b=>b.contains n&&GL (n<55)
 |none=>Gz
noncomputable def wK (T:mn) (c:GW):Bool:=(lookC c T.fields).isSome
noncomputable def eF (T:mn) (c:GW) (n:Nat) (b:List (Nat×V)):Option V:=match lookN n b with
 |some v=>if bX T c n then Gu v else Gw
 |none=>if wK T c&&GL (n<55) then lookT c n T.consts else Gw
noncomputable def kC (T:mn) (n:Nat) (σ:Sg):V->Option V
 |.obj c ks vs=>if ks.length=vs.length then eF T c n (ks.zip vs) else Gw
 |.ref a=>match σ.cell a with
  |.inst c b=>eF T c n b
  |_=>Gw
 |_=>Gw
noncomputable def ny (σ:Sg):V->Option (GW×List Nat)
 |.obj c ks _=>Gu (c,ks)
 |.ref a=>match σ.cell a with
  |.inst c b=>Gu (c,b.map (·.1))
  |_=>Gw
 |_=>Gw
noncomputable def dY (T:mn) (n:Nat) (σ:Sg) (v:V):Option GW:=match ny σ v with
 |some (c,b)=>if b.contains n|| !(wK T c) ||decide (55<=n) then Gw else lookT c n T.meths
 |none=>Gw
noncomputable def Cp (vs:List V) (i:Int):Option V:=if 0<=i then vs[i.toNat]? else if -(vs.length:Int)<=i then vs[(i+vs.length).toNat]? else Gw
noncomputable def b7 (σ:Sg):V->Option Bool
 |.bool b=>Gu b
 |.int i=>Gu (!(i==0))
 |.ref a=>match σ.cell a with
  |.list vs=>if vs.length<=1000000 then Gu (!vs.isEmpty) else Gw
  |_=>Gw
 |.lst vs=>if vs.length<=1000000 then Gu (!vs.isEmpty) else Gw
 |_=>Gw
structure Vw (σ:Sg) (n:Nat) (x:V) (d:MF):Prop where
 lay:d.canLay0=Gx
 dep:d.depth<=n
 rd:∀ {c:Cx} {ρ:List (Option V)} {G:Gh} {s:GD} {v:GB},At c ρ G σ s->VRep G x v->∃as,Reads s.heap v d as
structure qu (σ:Sg) (n:Nat) (xs:List V) (ds:List MF):Prop where
 lay:PyData.canLayAll0 ds=Gx
 dep:PyData.depthAll ds<=n
 rd:∀ {c:Cx} {ρ:List (Option V)} {G:Gh} {s:GD} {vs:List GB},At c ρ G σ s->VReps G xs vs->∃as,ReadsAll s.heap vs ds as
noncomputable def kg (σ:Sg) (x y:V):Bool:=@GL (∃d,Vw σ 8 x d/\Vw σ 8 y d) (Ks _)
inductive FrzL:Sg->List V->List V->Sg->Prop
 |nil {σ}:FrzL σ [] [] σ
 |keep {σ σ' v l l'}:FrzL σ l l' σ'->FrzL σ (v::l) (v::l') σ'
 |tup {σ σ₁ σ' vs vs' l l'}:FrzL σ vs vs' σ₁->FrzL σ₁ l l' σ'->FrzL σ (.tup vs::l) (.tup vs'::l') σ'
 |list {σ σ₁ σ' a vs vs' l l'}:σ.cell a=.list vs->a<σ.n->FrzL (σ.set a .dead) vs vs' σ₁->FrzL σ₁ l l' σ'->FrzL σ (.ref a::l) (.lst vs'::l') σ'
 |dict {σ σ₁ σ' a kvs vs' l l'}:σ.cell a=.dict kvs->a<σ.n->FrzL (σ.set a .dead) (kvs.map (·.2)) vs' σ₁->FrzL σ₁ l l' σ'->FrzL σ (.ref a::l) (.dic (kvs.map (·.1)) vs'::l') σ'
 |inst {σ σ₁ σ' a c as vs' l l'}:σ.cell a=.inst c as->a<σ.n->FrzL (σ.set a .dead) (as.map (·.2)) vs' σ₁->FrzL σ₁ l l' σ'->FrzL σ (.ref a::l) (.obj c (as.map (·.1)) vs'::l') σ'
noncomputable def iD (l:List Int):List Int:=l.mergeSort (fun a b=>GL (a<=b))
noncomputable def lQ:Nat->Option Int
 |31=>Gu 97
 |32=>Gu 98
 |_=>Gw
noncomputable def w6 {β:Type} (f:Int->Option β):V->Option β
 |.int i=>f i
 |_=>Gw
noncomputable def yA {β:Type} (f:Nat->Option β):V->Option β
 |.ref a=>f a
 |_=>Gw
noncomputable def Fc {β:Type} (f:List V->Option β):V->Option β
 |.lst l=>f l
 |_=>Gw
noncomputable def p1 {β:Type} (f:V->Option β):List V->Option β
 |[v]=>f v
 |_=>Gw
noncomputable def p2 {β:Type} (f:V->V->Option β):List V->Option β
 |[v,w]=>f v w
 |_=>Gw
noncomputable def p3 {β:Type} (f:V->V->V->Option β):List V->Option β
 |[v,w,x]=>f v w x
 |_=>Gw
noncomputable abbrev PR:=Option (V×Sg)
noncomputable def bU (a:Nat) (σ:Sg) (f:List V->PR):PR:=match σ.cell a with
 |.list l=>f l
 |_=>Gw
noncomputable def kQ (a:Nat) (σ:Sg) (f:List (Int×V)->PR):PR:=match σ.cell a with
 |.dict b=>f b
 |_=>Gw
noncomputable def tC (v:V) (σ:Sg) (f:List V->PR) (g:List (Int×V)->PR):PR:=match aV v σ with
 |some l=>f l
 |none=>match cO v σ with
  |some b=>g b
  |none=>Gw
noncomputable def rA (σ:Sg) (kvs:List (Int×V)):PR:=if kvs.length<64 then Gu (.ref σ.n,σ.alloc (.list ((iD (kvs.map (·.1))).map .int))) else Gw
noncomputable def w7 (i:Int) (c:V) (σ:Sg):Option Bool:=match cO c σ with
 |some b=>Gu (lookI i b).isSome
 |none=>match (aV c σ).bind ints? with
  |some d=>Gu (d.any (· ==i))
  |none=>Gw
noncomputable def AK (k:Nat) (c:List V) (σ:Sg):PR:=match strs? c with
 |some b=>if k<55/\b.all (· <55) then Gu (.bool (b.any (· ==k)),σ) else Gw
 |none=>Gw
noncomputable def D5 (op:Rel) (a b:V) (σ:Sg):PR:=match op with
 |.ne=>if kg σ a b then Gu (.bool Gz,σ) else Gw
 |_=>Gw
noncomputable def FR (op:Rel) (a b:Nat) (σ:Sg):PR:=match op with
 |.eq=>if a<55/\b<55 then Gu (.bool (GL (a=b)),σ) else Gw
 |.ne=>if a<55/\b<55 then Gu (.bool (!(GL (a=b))),σ) else Gw
 |_=>Gw
noncomputable def FF (op:Rel) (σ:Sg) (a b:V):PR:=match a with
 |.int i=>match b with
  |.int j=>Gu (.bool (A6 op i j),σ)
  |_=>D5 op a b σ
 |.str i=>match b with
  |.str j=>FR op i j σ
  |_=>D5 op a b σ
 |_=>D5 op a b σ
noncomputable def Db:Op->Bool
 |.add=>Gx
 |_=>Gz
noncomputable def EH (op:Op) (σ:Sg) (a b:V):PR:=match a with
 |.int i=>w6 (fun j=>(dT op i j).map (.int ·,σ)) b
 |.ref i=>yA (fun j=>if Db op then bU i σ fun l=>bU j σ fun k=>if l.length+k.length<=1000000 then Gu (.ref σ.n,σ.alloc (.list (l++k))) else Gw else Gw) b
 |_=>Gw
noncomputable def Ge (σ:Sg) (x c:V):PR:=match x with
 |.int i=>(w7 i c σ).map (.bool ·,σ)
 |.str k=>match c with
  |.tup b=>AK k b σ
  |_=>Gw
 |_=>Gw
noncomputable def eH (a:Nat) (σ:Sg):PR:=match σ.cell a with
 |.list l=>match l with
  |[v]=>Gu (.ref σ.n,σ.alloc (.list [v]))
  |_=>Gw
 |.dict b=>rA σ b
 |_=>Gw
noncomputable def BE (σ:Sg) (v:V):PR:=match v with
 |.ref a=>bU a σ fun l=>if l.length<=1000000 then Gu (.tup l,σ) else Gw
 |.lst l=>if l.length<=1000000 then Gu (.tup l,σ) else Gw
 |_=>Gw
noncomputable def Fd (σ:Sg) (v:V):PR:=match v with
 |.int i=>Gu (.int i,σ)
 |.bool b=>Gu (.int (if b then 1 else 0),σ)
 |_=>Gw
noncomputable def EJ (σ:Sg) (v:V):PR:=match v with
 |.str k=>(lQ k).map (.int ·,σ)
 |_=>Gw
noncomputable def aI (T:mn) (p:mj) (vs:List V) (σ:Sg):PR:=match p with
 |.tup=>if vs.length<=1000 then Gu (.tup vs,σ) else Gw
 |.lst=>if vs.length<=1000 then Gu (.ref σ.n,σ.alloc (.list vs)) else Gw
 |.dct0=>match vs with
  |[]=>Gu (.ref σ.n,σ.alloc (.dict []))
  |_=>Gw
 |.attr n=>p1 (fun v=>(kC T n σ v).map (·,σ)) vs
 |.idx=>p2 (fun v=>w6 fun i=>tC v σ (fun l=>if l.length<=1000000 then(Cp l i).map (·,σ) else Gw) fun e=>(lookI i e).map (·,σ)) vs
 |.from1=>p1 (Fc fun l=>if l.length<=1000000 then Gu (.ref σ.n,σ.alloc (.list (l.drop 1))) else Gw) vs
 |.upto24=>p1 (Fc fun l=>if l.length<=1000000 then Gu (.ref σ.n,σ.alloc (.list (l.take 24))) else Gw) vs
 |.bin f=>p2 (EH f σ) vs
 |.rel f=>p2 (FF f σ) vs
 |.isNone=>p1 (fun v=>Gu (.bool v.isN,σ)) vs
 |.notNone=>p1 (fun v=>Gu (.bool (!v.isN),σ)) vs
 |.inn=>p2 (Ge σ) vs
 |.notIn=>p2 (fun x c=>w6 (fun i=>(w7 i c σ).map (.bool !·,σ)) x) vs
 |.not=>p1 (fun v=>(b7 σ v).map (.bool !·,σ)) vs
 |.app=>p2 (fun x v=>yA (fun a=>bU a σ fun l=>if a<σ.n/\l.length<=1000000 then Gu (.none,σ.set a (.list (l++[v]))) else Gw) x) vs
 |.pop=>p1 (yA fun a=>bU a σ fun l=>if a<σ.n/\l.length<=1000000 then l.getLast?.map (·,σ.set a (.list l.dropLast)) else Gw) vs
 |.rev=>p1 (yA fun a=>bU a σ fun l=>if a<σ.n/\l.length<=1000000 then Gu (.none,σ.set a (.list l.reverse)) else Gw) vs
 |.sortedKeys=>p1 (yA fun a=>kQ a σ (rA σ)) vs
 |.get=>p3 (fun x k d=>yA (fun a=>w6 (fun k=>kQ a σ fun e=>Gu ((lookI k e).getD d,σ)) k) x) vs
 |.len=>p1 (fun v=>tC v σ (fun l=>if l.length<=1000000 then Gu (.int l.length,σ) else Gw) fun e=>if e.length<=1000000 then Gu (.int e.length,σ) else Gw) vs
 |.sorted=>p1 (yA fun a=>eH a σ) vs
 |.tupleOf=>p1 (BE σ) vs
 |.intOf=>p1 (Fd σ) vs
 |.abs=>p1 (w6 fun i=>Gu (.int i.natAbs,σ)) vs
 |.sum=>p1 (yA fun a=>bU a σ fun l=>(ints? l).map fun g=>(.int g.sum,σ)) vs
 |.ord=>p1 (EJ σ) vs
 |.max=>p2 (fun x y=>w6 (fun a=>w6 (fun b=>Gu (.int (if b>a then b else a),σ)) y) x) vs
 |.min=>p2 (fun x y=>w6 (fun a=>w6 (fun b=>Gu (.int (if b<a then b else a),σ)) y) x) vs
theorem dA {β:Type} {f:Nat->Option β} {v:V} {r:β} (h:yA f v=Gu r):∃a,v=.ref a/\f a=Gu r:=by
 cases v with
 |ref a=>exact⟨a,rfl,h⟩
 |_=>cases h
theorem cr {β:Type} {f:Int->Option β} {v:V} {r:β} (h:w6 f v=Gu r):∃a,v=.int a/\f a=Gu r:=by
 cases v with
 |int a=>exact⟨a,rfl,h⟩
 |_=>cases h
theorem m9 {β:Type} {f:List V->Option β} {v:V} {r:β} (h:Fc f v=Gu r):∃a,v=.lst a/\f a=Gu r:=by
 cases v with
 |lst a=>exact⟨a,rfl,h⟩
 |_=>cases h
set_option tactic.hygienic true in
theorem bW {a:Nat} {σ:Sg} {f:List V->PR} {r:V×Sg} (h:bU a σ f=Gu r):∃l,σ.cell a=.list l/\f l=Gu r:=by
 unfold bU at h
 split at h
 ·rename_i l e;exact⟨l,e,h⟩
 ·cases h
set_option tactic.hygienic true in
theorem jO {a:Nat} {σ:Sg} {f:List (Int×V)->PR} {r:V×Sg} (h:kQ a σ f=Gu r):∃l,σ.cell a=.dict l/\f l=Gu r:=by
 unfold kQ at h
 split at h
 ·rename_i l e;exact⟨l,e,h⟩
 ·cases h
set_option tactic.hygienic true in
theorem nq {v:V} {σ:Sg} {f:List V->PR} {g:List (Int×V)->PR} {r:V×Sg} (h:tC v σ f g=Gu r):(∃l,aV v σ=Gu l/\f l=Gu r)\/∃kvs,cO v σ=Gu kvs/\g kvs=Gu r:=by
 unfold tC at h
 split at h
 ·rename_i l e;exact .inl ⟨l,e,h⟩
 ·split at h
  ·rename_i kvs e;exact .inr ⟨kvs,e,h⟩
  ·cases h
set_option tactic.hygienic true in
theorem oM {i:Int} {c:V} {σ:Sg} {b:Bool} (h:w7 i c σ=Gu b):(∃kvs,cO c σ=Gu kvs/\b=(lookI i kvs).isSome)\/∃l is,aV c σ=Gu l/\ints? l=Gu is/\b=is.any (· ==i):=by
 delta i c σ b;unfold w7 at h
 split at h
 ·rename_i kvs e;cases h;exact .inl ⟨kvs,e,rfl⟩
 ·split at h
  ·rename_i is e;delta is;cases h;obtain⟨l,d,f⟩:=Option.bind_eq_some_iff.mp e;delta l;exact .inr ⟨l,is,d,f,rfl⟩
  ·cases h
theorem ba {b:Type} {p:Prop} [Decidable p] {x:Option b} {r:b} (h:(if p then x else Gw)=Gu r):p/\x=Gu r:=by
 split at h
 ·rename_i q;exact⟨q,h⟩
 ·cases h
noncomputable def ja (σ:Sg):V->Bool
 |.ref a=>match σ.cell a with
  |.list _=>Gx
  |_=>Gz
 |_=>Gz
noncomputable def k9 (σ:Sg):V->Bool
 |.ref a=>match σ.cell a with
  |.dict _=>Gx
  |_=>Gz
 |_=>Gz
theorem pW {σ:Sg} {v:V} (h:ja σ v=Gx):∃a l,v=.ref a/\σ.cell a=.list l:=by
 cases v with
 |ref a=>
  revert h
  show(match σ.cell a with|.list _=>Gx|_=>Gz)=Gx->_
  cases e:σ.cell a with
  |list l=>exact fun Z=>⟨a,l,rfl,e⟩
  |_=>intro h;cases h
 |_=>cases h
theorem j9 {σ:Sg} {v:V} (h:k9 σ v=Gx):∃a l,v=.ref a/\σ.cell a=.dict l:=by
 cases v with
 |ref a=>
  revert h
  show(match σ.cell a with|.dict _=>Gx|_=>Gz)=Gx->_
  cases e:σ.cell a with
  |dict l=>exact fun Z=>⟨a,l,rfl,e⟩
  |_=>intro h;cases h
 |_=>cases h
noncomputable abbrev aC:=GW->List V->(V->Sg->Prop)->(Sg->Prop)->Sg->Prop
noncomputable def fx (v:V) (σ:Sg):Option (List V):=match v with
 |.str k=>if(lQ k).isSome then Gu [.str k] else Gw
 |v=>match aV v σ with
  |some l=>if l.length<=1000000 then Gu l else Gw
  |none=>Gw
def cq (v:V) (l:List V) (σ:Sg):Prop:=match v with
 |.ref a=>a<σ.n/\σ.cell a=.list l
 |_=>True
noncomputable def a6 (n:Int):List V:=(JD n.toNat).map fun(i:Nat)=>V.int (i:Int)
noncomputable def eX (ρ:List (Option V)):ky->V->Sg->Option (List (Option V))
 |.loc k,v,_=>Gu (ρ.set k (Gu v))
 |.locs ks,v,σ=>match v with
  |.tup vs=>if ks.length=vs.length/\(ks.length=2\/ks.length=3) then Gu ((ks.zip vs).foldl (fun ρ b=>ρ.set b.1 (Gu b.2)) ρ) else Gw
  |_=>Gw
noncomputable def compW (W:V->(V->Sg->Prop)->(Sg->Prop)->Sg->Prop) (b:Sg->Prop) (X:Sg->Prop):List V->List V->(List V->Sg->Prop)->Sg->Prop
 |[],acc,Q,σ=>b σ/\Q acc σ
 |i::r,acc,Q,σ=>b σ/\W i (fun u σ'=>compW W b X r (acc++[u]) Q σ') X σ
mutual
noncomputable def wpE (T:mn) (C:aC) (ρ:List (Option V)):E->(V->Sg->Prop)->(Sg->Prop)->Sg->Prop
 |.const v,Q,_,σ=>Q v σ
 |.loc k,Q,_,σ=>match ρ[k]? with
  |some (Gu v)=>Q v σ
  |_=>False
 |.op p es,Q,X,σ=>wpEs T C ρ es (fun vs σ'=>match aI T p vs σ' with
  |some (v,σ'')=>Q v σ''
  |none=>False) X σ
 |.and a b,Q,X,σ=>wpE T C ρ a (fun v σ'=>match b7 σ' v with
  |some Gx=>wpE T C ρ b Q X σ'
  |some Gz=>Q v σ'
  |none=>False) X σ
 |.or a b,Q,X,σ=>wpE T C ρ a (fun v σ'=>match b7 σ' v with
  |some Gx=>Q v σ'
  |some Gz=>wpE T C ρ b Q X σ'
  |none=>False) X σ
 |.ite c a b,Q,X,σ=>wpE T C ρ c (fun v σ'=>match b7 σ' v with
  |some t=>(match t with
   |true=>wpE T C ρ a Q X σ'
   |false=>wpE T C ρ b Q X σ')
  |none=>False) X σ
 |.chain _ _ _,_,_,_=>False
 |.tsorted e,Q,X,σ=>wpE T C ρ e (fun v σ'=>∃a kvs,v=.ref a/\σ'.cell a=.dict kvs/\kvs.length<=200/\∀l:List Int,l.Perm (kvs.map (·.1))->Q (.tup (l.map .int)) (σ'.alloc (.list (l.map .int)))) X σ
 |.app o e,Q,X,σ=>wpE T C ρ o (fun v σ'=>ja σ' v=Gx/\wpE T C ρ e (fun y σ''=>match aI T .app [v,y] σ'' with
  |some (r,σ₃)=>Q r σ₃
  |none=>False) X σ') X σ
 |.getD o k d,Q,X,σ=>wpE T C ρ o (fun v σ'=>k9 σ' v=Gx/\wpE T C ρ k (fun y σ''=>wpE T C ρ d (fun z σ₃=>match aI T .get [v,y,z] σ₃ with
  |some (r,σ₄)=>Q r σ₄
  |none=>False) X σ'') X σ') X σ
 |.dct1 k v,Q,X,σ=>wpE T C ρ k (fun x σ₁=>wpE T C ρ v (fun y σ₂=>∃i,x=.int i/\σ₂.cell σ.n=.dict []/\Q (.ref σ.n) (σ₂.set σ.n (.dict [(i,y)]))) X σ₁) X (σ.alloc (.dict []))
 |.dtrue _ e,Q,X,σ=>wpE T C ρ e (fun v σ'=>∃a i,v=.ref a/\σ'.cell a=.list [.int i]/\Q (.ref σ'.n) (σ'.alloc (.dict [(i,.bool Gx)]))) X σ
 |.callF f es,Q,X,σ=>wpEs T C ρ es (fun vs σ'=>C f vs Q X σ') X σ
 |.callM n r es,Q,X,σ=>wpE T C ρ r (fun v σ'=>match dY T n σ' v with
  |some f=>wpEs T C ρ es (fun vs σ''=>C f (v::vs) Q X σ'') X σ'
  |none=>False) X σ
 |.callC c es,Q,X,σ=>wpEs T C ρ es (fun vs σ'=>match lookC c T.inits with
  |some (Gu f)=>C f (.ref σ'.n::vs) (fun r σ''=>r=.none/\Q (.ref σ'.n) σ'') X (σ'.alloc (.inst c []))
  |some Gw=>match vs with
   |[]=>Q (.ref σ'.n) (σ'.alloc (.inst c []))
   |_=>False
  |none=>False) X σ
 |.comp vars t elt iter,Q,X,σ=>wpE T C ρ iter (fun v σ'=>match fx v σ' with
  |some l=>compW (fun i Q' X' σ''=>wpE T C ((vars.map fun|none=>Gw|some k=>(ρ[k]?).join).set t (Gu i)) elt Q' X' σ'') (cq v l) X l [] (fun us σ''=>Q (.ref σ''.n) (σ''.alloc (.list us))) σ'
  |none=>False) X σ
 |.compR vars t elt iter,Q,X,σ=>wpE T C ρ iter (fun v σ'=>∃n,v=.int n/\0<=n/\n<=1000000/\compW (fun i Q' X' σ''=>wpE T C ((vars.map fun|none=>Gw|some k=>(ρ[k]?).join).set t (Gu i)) elt Q' X' σ'') (fun Z=>True) X (a6 n) [] (fun us σ''=>Q (.ref σ''.n) (σ''.alloc (.list us))) σ') X σ
noncomputable def wpEs (T:mn) (C:aC) (ρ:List (Option V)):List E->(List V->Sg->Prop)->(Sg->Prop)->Sg->Prop
 |[],Q,_,σ=>Q [] σ
 |e::r,Q,X,σ=>wpE T C ρ e (fun v σ'=>wpEs T C ρ r (fun vs σ''=>Q (v::vs) σ'') X σ') X σ
end
noncomputable def wpB (T:mn) (C:aC) (ρ:List (Option V)):E->(Bool->Sg->Prop)->(Sg->Prop)->Sg->Prop
 |.and a b,Q,X,σ=>wpB T C ρ a (fun t σ'=>match t with
  |true=>wpB T C ρ b Q X σ'
  |false=>Q Gz σ') X σ
 |.or a b,Q,X,σ=>wpB T C ρ a (fun t σ'=>match t with
  |true=>Q Gx σ'
  |false=>wpB T C ρ b Q X σ') X σ
 |.chain a b c,Q,X,σ=>wpE T C ρ a (fun x σ'=>wpE T C ρ b (fun y d=>match x,y with
  |.int i,.int j=>if i<=j then wpE T C ρ c (fun z f=>match z with
   |.int k=>Q (GL (j<k)) f
   |_=>False) X d else Q Gz d
  |_,_=>False) X σ') X σ
 |e,Q,X,σ=>wpE T C ρ e (fun v σ'=>match b7 σ' v with
  |some t=>Q t σ'
  |none=>False) X σ
noncomputable abbrev cU:=Fl->List (Option V)->Sg->Prop
noncomputable def forW (W:V->List (Option V)->cU->Sg->Prop) (c:Sg->Prop):List V->List (Option V)->cU->Sg->Prop
 |[],ρ,Q,σ=>c σ/\Q .next ρ σ
 |i::r,ρ,Q,σ=>c σ/\W i ρ (fun fl b σ'=>match fl with
  |.next|.cont=>forW W c r b Q σ'
  |.ret v=>Q (.ret v) b σ') σ
def Cn (B:List (Option V)->(Bool->Sg->Prop)->Sg->Prop) (W:List (Option V)->cU->Sg->Prop) (ρ:List (Option V)) (Q:cU) (σ:Sg):Prop:=
 ∃I:Nat->List (Option V)->Sg->Prop,(∃n,I n ρ σ)/\∀n ρ σ,I n ρ σ->B ρ (fun t c=>match t with
  |false=>Q .next ρ c
  |true=>W ρ (fun e d b=>match e with
   |.next|.cont=>∃m,m<n/\I m d b
   |.ret v=>Q (.ret v) d b) c) σ
noncomputable def ov (T:mn) (σ:Sg) (n:Nat) (u:V):V->Option Sg
 |.ref a=>match σ.cell a with
  |.inst c b=>if a<σ.n/\b.length<=100/\bX T c n then Gu (σ.set a (.inst c (putN' n u b))) else Gw
  |_=>Gw
 |_=>Gw
noncomputable def jC (σ:Sg) (u:V):V->V->Option Sg
 |.ref a,.int i=>match σ.cell a with
  |.list l=>if a<σ.n/\l.length<=1000000/\0<=i/\i<l.length then Gu (σ.set a (.list (l.set i.toNat u))) else Gw
  |.dict kvs=>if a<σ.n/\kvs.length<=1000000 then Gu (σ.set a (.dict (putI i u kvs))) else Gw
  |_=>Gw
 |_,_=>Gw
mutual
noncomputable def wpS (T:mn) (C:aC):S->List (Option V)->cU->(Sg->Prop)->Sg->Prop
 |.expr e,ρ,Q,X,σ=>wpE T C ρ e (fun Z σ'=>Q .next ρ σ') X σ
 |.assign t e,ρ,Q,X,σ=>wpE T C ρ e (fun v σ'=>match eX ρ t v σ' with
  |some ρ'=>Q .next ρ' σ'
  |none=>False) X σ
 |.setAttr o n e,ρ,Q,X,σ=>wpE T C ρ e (fun u σ₁=>wpE T C ρ o (fun v σ₂=>match ov T σ₂ n u v with
  |some σ₃=>Q .next ρ σ₃
  |none=>False) X σ₁) X σ
 |.setIdx o i e,ρ,Q,X,σ=>wpE T C ρ e (fun u σ₁=>wpE T C ρ o (fun v σ₂=>wpE T C ρ i (fun j σ₃=>match jC σ₃ u v j with
  |some σ₄=>Q .next ρ σ₄
  |none=>False) X σ₂) X σ₁) X σ
 |.aug k op e,ρ,Q,X,σ=>∃a,ρ[k]? =Gu (Gu (.int a))/\wpE T C ρ e (fun v σ'=>∃b r,v=.int b/\dT op a b=Gu r/\Q .next (ρ.set k (Gu (.int r))) σ') X σ
 |.augAttr o n op e,ρ,Q,X,σ=>wpE T C ρ o (fun v σ₁=>∃a,kC T n σ₁ v=Gu (.int a)/\wpE T C ρ e (fun u σ₂=>∃b r σ₃,u=.int b/\dT op a b=Gu r/\ov T σ₂ n (.int r) v=Gu σ₃/\Q .next ρ σ₃) X σ₁) X σ
 |.augIdx o i op e,ρ,Q,X,σ=>wpE T C ρ o (fun v σ₁=>wpE T C ρ i (fun j σ₂=>∃a σz,aI T .idx [v,j] σ₂=Gu (.int a,σz)/\wpE T C ρ e (fun u σ₃=>∃b r σ₄,u=.int b/\dT op a b=Gu r/\jC σ₃ (.int r) v j=Gu σ₄/\Q .next ρ σ₄) X σ₂) X σ₁) X σ
 |.ret e,ρ,Q,X,σ=>wpE T C ρ e (fun v σ'=>Q (.ret v) ρ σ') X σ
 |.ite c a b,ρ,Q,X,σ=>wpB T C ρ c (fun t σ'=>match t with
  |true=>wpSs T C a ρ Q X σ'
  |false=>wpSs T C b ρ Q X σ') X σ
 |.while c b,ρ,Q,X,σ=>Cn (fun ρ Q' σ=>wpB T C ρ c Q' X σ) (fun ρ Q' σ=>wpSs T C b ρ Q' X σ) ρ Q σ
 |.for t e b,ρ,Q,X,σ=>wpE T C ρ e (fun v σ'=>match aV v σ' with
  |some l=>forW (fun i ρ Q' σ=>match eX ρ t i σ with
   |some ρ'=>wpSs T C b ρ' Q' X σ
   |none=>False) (cq v l) l ρ Q σ'
  |none=>False) X σ
 |.forR k e b,ρ,Q,X,σ=>wpE T C ρ e (fun v σ'=>∃n,v=.int n/\0<=n/\n<=1000000/\forW (fun i ρ Q' σ=>wpSs T C b (ρ.set k (Gu i)) Q' X σ) (fun Z=>True) (a6 n) ρ Q σ') X σ
 |.cont,ρ,Q,_,σ=>Q .cont ρ σ
 |.raise e,ρ,_,X,σ=>wpE T C ρ e (fun v σ'=>∃i,v=.int i/\0<=i/\i<=1000000/\X σ') X σ
 |.stuck,_,_,_,_=>False
 |.try b h,ρ,Q,X,σ=>wpSs T C b ρ Q (fun σ'=>wpSs T C h (ρ.map fun Z=>Gw) Q X σ') σ
 |.frz k,ρ,Q,_,σ=>match ρ[k]? with
  |some (Gu v)=>∃v' σ',FrzL σ [v] [v'] σ'/\Q .next (ρ.set k (Gu v')) σ'
  |_=>False
noncomputable def wpSs (T:mn) (C:aC):List S->List (Option V)->cU->(Sg->Prop)->Sg->Prop
 |[],ρ,Q,_,σ=>Q .next ρ σ
 |s::r,ρ,Q,X,σ=>wpS T C s ρ (fun fl ρ' σ'=>match fl with
  |.next=>wpSs T C r ρ' Q X σ'
  |fl=>Q fl ρ' σ') X σ
end
noncomputable def Op.m:Op->Ls
 |.add=>.Add|.sub=>.Sub|.mul=>.Mult|.fdiv=>.FloorDiv|.mod=>.Mod|.pow=>.Pow|.shl=>.LShift|.shr=>.RShift|.band=>.BitAnd|.bor=>.BitOr|.bxor=>.BitXor
noncomputable def Rel.m:Rel->CmpOp
 |.eq=>.Eq|.ne=>.NotEq|.lt=>.Lt|.le=>.LtE|.gt=>.Gt|.ge=>.GtE
theorem jG {a:Int} (h:a.natAbs<2^3000):JR a<=3000:=by
 unfold JR
 split
 ·exact(l0 118274766856)
 ·rename_i q
  have:a.natAbs≠0:=fun e=>q (by simpa using e)
  have:=(NE this).mpr h
  exact(l1 0x1c89b9b801b89b9b87180) this
theorem qf {a:Int} (h:a.natAbs<2^60):JR a<=64:=by
 unfold JR
 split
 ·exact(l0 453593096)
 ·rename_i q
  have:a.natAbs≠0:=fun e=>q (by simpa using e)
  have:=(NE this).mpr h
  exact(l1 0x1cc93801b09487180) this
theorem CD {a b:Int} (c:a.natAbs<2^3000) (d:b.natAbs<2^3000):IntMulOk a b:=by
 have f:=jG c
 have g:=jG d
 intro h
 have e:=(G0.mp h).2
 have i:=of_decide_eq_true e
 have:(bitsLine:Int)=134217728:=rfl
 lia
section
variable {prog:Ip} {w:Hk} {A:Hi} {E:GB->GD->Prop} {s:GD} {a b r:Int} {t u:M1} {Q:GB->GD->Prop}
theorem CT (op:Op) (e:dT op a b=Gu r) (h:Q (.int r s.toks) {s with toks:=s.toks+1}):G3 (GR prog w) A (binaryOp op.m (.int a t) (.int b u)) Q E s:=by
 cases op
 ·cases e;exact Pz h
 ·cases e;exact PA h
 ·change ite _ _ _=_ at e
  split at e
  ·rename_i q;cases e;exact PB h (q.elim (fun q=>.of_left (qf q)) fun q=>CD q.1 q.2)
  ·cases e
 ·change ite _ _ _=_ at e
  split at e
  ·cases e
  ·rename_i q;cases e;exact PC (fun z=>q (.inl z)) h (.inl (PyProof.noPylong_small (by lia)))
 ·change ite _ _ _=_ at e
  split at e
  ·cases e
  ·rename_i q;cases e;exact PD q h
 ·change ite _ _ _=_ at e
  split at e
  ·rename_i q;cases e;exact PE q.1 (by lia) q.2.2 h
  ·cases e
 ·change ite _ _ _=_ at e
  split at e
  ·rename_i q;cases e;exact PG q.1 q.2.1 q.2.2 h
  ·cases e
 ·change ite _ _ _=_ at e
  split at e
  ·rename_i q;cases e;exact PH q h
  ·cases e
 ·cases e;exact PI h
 ·cases e;exact PJ h
 ·cases e;exact PK h
theorem qk (op:Op) (e:dT op a b=Gu r) (c:op=.add\/op=.bor) (h:Q (.int r s.toks) {s with toks:=s.toks+1}):G3 (GR prog w) A (inplaceOp op.m (.int a t) (.int b u)) Q E s:=by
 rcases c with rfl|rfl<;>cases e
 ·exact PL h
 ·exact PM h
theorem Dl (op:Rel) (h:Q (.bool (A6 op a b)) s):G3 (GR prog w) A (MG op.m (.int a t) (.int b u)) Q E s:=by
 cases op
 ·exact PN h
 ·exact PO h
 ·exact PP h
 ·exact PQ h
 ·exact PS h
 ·exact PT h
end
structure U where
 prog:Ip
 T:mn
 Kf:Params->I5
 gl:List (He×GB)
 te:GW
noncomputable def lookS (x:He):List (He×GB)->Option GB
 |[]=>Gw
 |e::r=>if e.1=x then Gu e.2 else lookS x r
structure Rm (A:Hi) (d:Nat) (Fs:List J5):Prop where
 handled:A.handled=Gw
 depth:A.depth+20 * d+20<=900
 units:A.units+100 * d+100<=9000
 frames:A.frames=Gu Fs
structure D1 (A:Hi) (d:Nat) (Fs:List J5):Prop where
 handled:A.handled=Gw
 depth:A.depth+20 * d+10<=900
 units:A.units+100 * d+50<=9000
 frames:A.frames=Gu Fs
theorem Rm.toC {A:Hi} {d:Nat} {Fs:List J5} (r:Rm A d Fs):D1 A d Fs:=⟨r.handled,by have:=r.depth;exact(l1 0x1b4989387491801b4989387a80) this,by have:=r.units;exact(l1 0x1b892939287496801b89293928729380) this,r.frames⟩
noncomputable def dg:List He:=[Hr "len",Hr "sorted",Hr "range",Hr "tuple",Hr "str",Hr "int",Hr "abs",Hr "sum",Hr "ord",Hr "max",Hr "min",Hr "Exception"]
structure Gd (u:U) (w:Hk) (base:HY):Prop where
 inK:(u.Kf w.params).In base
 globals:∃mg,base.Ns IC mg/\(∀x v,lookS x u.gl=Gu v->mg x=Gu v)/\∀x∈dg,mg x=Gw
 builtins:∃mb,base.Ns KP mb/\∀x∈dg,mb x=KC x
 lim:base.NoLimit
inductive nk (u:U) (L:Option GW) (e:GB) (ps:List GW) (h:HY):Prop where
 |mk (a:GW) (oe:JE) (vs:Array GB) (he:e=.ref a) (ha:h.get? a=Gu oe) (hc:oe.cls=.ref u.te) (hd:oe.data=.fields vs) (k:(ps=[a]/\vs[1]? =Gu .none)\/
  ∃t ot ts x,ps=[a,t]/\t≠a/\vs[1]? =Gu (.ref t)/\h.get? t=Gu ot/\ot.data=.fields ts/\ts[3]? =Gu x/\(x=.none\/∃l,L=Gu l/\x=H9 l))
inductive Ch (base:HY) (Fs:List J5) (Pv:List GW) (G:Gh) (σ:Sg) (s:GD) (Q:V->Sg->Prop) (v:GB) (s':GD):Prop where
 |mk (G':Gh) (σ':Sg) (x:V) (i:ff base Fs Pv G' σ' s'.heap) (a:gj Fs G σ s.heap G' σ' s'.heap) (g:s'.gens=s.gens) (o:s'.os=s.os) (r:VRep G' x v) (q:Q x σ')
inductive AL (base:HY) (Fs:List J5) (Pv:List GW) (u:U) (G:Gh) (σ:Sg) (s:GD) (X:Sg->Prop) (e:GB) (s':GD):Prop where
 |mk (G':Gh) (σ':Sg) (ps:List GW) (i:ff base Fs (ps++Pv) G' σ' s'.heap) (a:gj Fs G σ s.heap G' σ' s'.heap) (g:s'.gens=s.gens) (o:s'.os=s.os) (x:nk u Gw e ps s'.heap) (n:∀b∈ps,s.heap.get? b=Gw) (q:X σ')
def eK (base:HY) (Fs:List J5) (b:List GW) (u:U) (G:Gh) (σ:Sg) (s:GD) (Q:V->Sg->Prop) (X:Sg->Prop) (r:MH) (c:GD):Prop:=match r with
 |.ok (.ret v)=>Ch base Fs b G σ s Q v c
 |.ok _=>False
 |.error e=>AL base Fs b u G σ s X e c
noncomputable def ae (u:U) (d:Nat):aC:=fun f e Q X i=>
 ∀(w:Hk) (A:Hi) (b:HY) (g:List J5) (j:List GW) (G:Gh) (s:GD) (c:List GB),Gd u w b->D1 A d g->ff b g j G i s.heap->@Ov Nat instLENat b.objs.size s.heap.objs.size->VReps G e c->
  IT (GR u.prog w) A (.call (.ref f) ⟨c,[]⟩) (eK b g j u G i s Q X) s
inductive hB (c:Cx) (ρ:List (Option V)) (G:Gh) (Q:V->Sg->Prop) (v:GB) (s':GD):Prop where
 |mk (G':Gh) (σ':Sg) (r:V) (a:At c ρ G' σ' s') (l:G.Le G') (h:VRep G' r v) (q:Q r σ')
inductive C8 (c:Cx) (ρ:List (Option V)) (G:Gh) (Q:List V->Sg->Prop) (vs:List GB) (s':GD):Prop where
 |mk (G':Gh) (σ':Sg) (rs:List V) (a:At c ρ G' σ' s') (l:G.Le G') (h:VReps G' rs vs) (q:Q rs σ')
inductive a9 (u:U) (c:Cx) (X:Sg->Prop) (e:GB) (s':GD):Prop where
 |mk (G':Gh) (σ':Sg) (ps:List GW) (i:ff c.base c.Fs (ps++c.Pv) G' σ' s'.heap) (a:gj c.Fs c.G₀ c.σ₀ c.s₀.heap G' σ' s'.heap) (g:s'.gens=c.s₀.gens) (o:s'.os=c.s₀.os) (x:nk u c.env.frame e ps s'.heap) (n:∀b∈ps,c.s₀.heap.get? b=Gw) (m:∃m,s'.heap.Ns c.env.locals m) (q:X σ')
def ao (u:U) (d:Nat) (names:List (He×G6)) (e:GZ) (g:E):Prop:=
 ∀(w:Hk) (A:Hi) (c:Cx),aJ c->c.env.scope.names=names->Gd u w c.base->Rm A d c.Fs->∀(b:List (Option V)) (G:Gh) (f:Sg) (s:GD) (Q:V->Sg->Prop) (X:Sg->Prop),At c b G f s->wpE u.T (ae u d) b g Q X f->
  G3 (GR u.prog w) A (J6 e c.env) (hB c b G Q) (a9 u c X) s
section
variable {u:U} {d:Nat} {names:List (He×G6)} {w:Hk} {A:Hi} {c:Cx} {ρ:List (Option V)} {G:Gh} {σ:Sg} {s:GD}
theorem hB.of {Q:V->Sg->Prop} {v:GB} {x:V} (a:At c ρ G σ s) (h:VRep G x v) (q:Q x σ):hB c ρ G Q v s:=⟨G,σ,x,a,.refl _,h,q⟩
theorem hB.le {Q:V->Sg->Prop} {v:GB} {f:Gh} {g:GD} (l:G.Le f) (h:hB c ρ f Q v g):hB c ρ G Q v g:=by
 obtain⟨e,b,x,a,i,r,q⟩:=h;exact⟨e,b,x,a,l.trans i,r,q⟩
theorem az {e:GZ} {i:E} (S:ao u d names e i) (j:aJ c) (m:c.env.scope.names=names) (g:Gd u w c.base) (n:Rm A d c.Fs) {P:GB->GD->Prop} {Q:V->Sg->Prop} {X:Sg->Prop} (a:At c ρ G σ s)
  (h:wpE u.T (ae u d) ρ i Q X σ) (k:∀v f b σ' x,At c ρ b σ' f->G.Le b->VRep b x v->Q x σ'->P v f):G3 (GR u.prog w) A (J6 e c.env) P (a9 u c X) s:=
 G4 (S w A c j m g n ρ G σ s Q X a h) (fun v f o=>by obtain⟨b,σ',x,p,l,r,q⟩:=o;exact k v f b σ' x p l r q) fun Z Z x=>x
theorem kind_at {env:J5} (hd:(env.scope.names.map (·.1)).Nodup) {k:Nat} {x:He×G6} (h:env.scope.names[k]? =Gu x):env.kindOf x.1=Gu x.2:=by
 unfold Io;generalize env.scope.names=l at hd h
 induction l generalizing k with
 |nil=>simp at h
 |cons y l g=>
  obtain⟨b,m⟩:=y;rw [Hs,IZ] at hd
  cases k with
  |zero=>simp at h;subst h;simp [Ph]
  |succ k=>
   have f:l[k]? =Gu x:=by simpa using h
   have i:x.1∈l.map (·.1):=Hm.mpr ⟨x,GN f,rfl⟩
   have j:¬x.1=b:=fun e=>hd.1 (e▸i)
   rw [IN]
   have:(x.1==b)=Gz:=by simpa using j
   rw [this];exact g hd.2 f
theorem zH {T:mn} {C:aC} {k:Nat} {v:V} {Q:V->Sg->Prop} {X:Sg->Prop} (e:ρ[k]? =Gu (Gu v)) (q:Q v σ):wpE T C ρ (.loc k) Q X σ:=by
 show(match ρ[k]? with|some (Gu v)=>Q v σ|_=>False)
 rw [e];exact q
theorem rh {x:He} {pos:HR} {k:Nat} {kd:G6} (o:names[k]? =Gu (x,kd)) (hd:(x==("__debug__":He))=Gz) (p:(x==("__classdict__":He))=Gz):ao u d names (.Name x pos) (.loc k):=by
 intro w A c i q g D ρ G σ s Q X a h
 have h:(match ρ[k]? with|some (Gu v)=>Q v σ|_=>False):=h
 split at h
 ·rename_i v t;obtain⟨m,z,B,_⟩:=a.envr
  have l:c.env.scope.names[k]? =Gu (x,kd):=by rw [q];exact o
  have j:=kind_at i.nodup l
  refine wpAny_Name ?_ hd;rcases B k _ v l t with ⟨e,y,C,r⟩ |⟨e,b,y,n,f,r⟩
  ·exact Lu i.kind (by rw [j];exact congrArg Gu e) z C (.of a r h)
  ·rcases e with e|e
   ·exact OI i.kind (by rw [j];exact congrArg Gu e) n f (.of a r h)
   ·exact OJ i.kind (by rw [j];exact congrArg Gu e) n f (.of a r h) p
 ·exact h.elim
theorem wD {k pos}:ao u d names (.Constant .none k pos) (.const .none):=by
 intro w A c b e g f ρ G σ s Q X a h;exact Kx (.of a (by rfl) h)
theorem nu {b k pos}:ao u d names (.Constant (.bool b) k pos) (.const (.bool b)):=by
 intro w A c e f g i ρ G σ s Q X a h;exact wpAny_Constant_bool (.of a (by rfl) h)
theorem xI {i k pos}:ao u d names (.Constant (.int i) k pos) (.const (.int i)):=by
 intro w A c b e g f ρ G σ s Q X a h;exact KQ (.of (a.tok _) (by exact⟨_,rfl⟩) h)
theorem x8 {x:He} {j k pos} (e:nm j=x):ao u d names (.Constant (.str x) k pos) (.const (.str j)):=by
 intro w A c b f g i ρ G σ s Q X a h;exact L5 (.of (a.tok _) (by exact⟨_,by rw [e]⟩) h)
theorem n6 {x:He} {pos:HR} {i:Int} {t:M1} (f:names.lookup x=Gu .globalImplicit) (e:lookS x u.gl=Gu (.int i t)) (hd:(x==("__debug__":He))=Gz):ao u d names (.Name x pos) (.const (.int i)):=by
 intro w A c b j g n ρ G σ s Q X a h;obtain⟨k,l,m,_⟩:=g.globals
 have:s.heap.Ns c.env.globals k:=by rw [b.glob];exact l.keeps a.inv.stays
 exact HZ b.kind (by unfold Io;rw [j];exact f) (Jo this (m x _ e) (.of a (by exact⟨_,rfl⟩) h)) hd
set_option tactic.hygienic true in
theorem tA {l r:GZ} {L M:E} {p:mj} (Y:ao u d names l L) (Z:ao u d names r M) (N:aJ c) (O:c.env.scope.names=names) (g:Gd u w c.base) (R:Rm A d c.Fs) {Q:V->Sg->Prop} {X:Sg->Prop} {P:GB->GB->GD->Prop}
  (a:At c ρ G σ s) (h:wpE u.T (ae u d) ρ (.op p [L,M]) Q X σ)
  (k:∀x y S T K σ' U r i,At c ρ K σ' U->G.Le K->VRep K x S->VRep K y T->aI u.T p [x,y] σ'=Gu (r,i)->Q r i->P S T U):
  G3 (GR u.prog w) A (J6 l c.env) (fun a o=>G3 (GR u.prog w) A (J6 r c.env) (fun b j=>P a b j) (a9 u c X) o) (a9 u c X) s:=by
 have h:wpE u.T (ae u d) ρ L (fun x m=>wpE u.T (ae u d) ρ M (fun y f=>match aI u.T p [x,y] f with|some (v,i)=>Q v i|none=>False) X m) X σ:=h
 refine az Y N O g R a h fun v o W m x B C D F=>?_;refine az Z N O g R B F fun v' j H f y I q J n=>?_
 split at n
 ·rename_i z t e;exact k x y v v' H f j z t I (C.trans q) (D.mono q) J e n
 ·exact n.elim
set_option tactic.hygienic true in
theorem kI {l:GZ} {y:E} {p:mj} (F:ao u d names l y) (H:aJ c) (I:c.env.scope.names=names) (g:Gd u w c.base) (J:Rm A d c.Fs) {Q:V->Sg->Prop} {X:Sg->Prop} {P:GB->GD->Prop}
  (a:At c ρ G σ s) (h:wpE u.T (ae u d) ρ (.op p [y]) Q X σ)
  (k:∀x C B σ' D r f,At c ρ B σ' D->G.Le B->VRep B x C->aI u.T p [x] σ'=Gu (r,f)->Q r f->P C D):
  G3 (GR u.prog w) A (J6 l c.env) P (a9 u c X) s:=by
 have h:wpE u.T (ae u d) ρ y (fun x b=>match aI u.T p [x] b with|some (v,f)=>Q v f|none=>False) X σ:=h
 refine az F H I g J a h fun v m n b x o q t i=>?_
 split at i
 ·rename_i z j e;exact k x v n b m z j o q t e i
 ·exact i.elim
end
section
variable {u:U} {d:Nat} {names:List (He×G6)} {w:Hk} {A:Hi} {c:Cx} {ρ:List (Option V)} {G:Gh} {σ:Sg} {s:GD}
theorem At.cell (a:At c ρ G σ s) {i:Nat} {cl:Cell} (hi:i<G.N) (b:σ.cell i=cl) (hd:cl≠.dead):aT σ i/\iq G s.heap i cl:=by
 have e:aT σ i:=⟨a.inv.N▸hi,by rw [b];exact hd⟩
 exact⟨e,b▸a.inv.cells i e⟩
theorem aU {i:Nat} {v:GB} (h:VRep G (.ref i) v):i<G.N/\v=.ref (G.φ i):=by exact h
theorem aE {i:Int} {v:GB} (h:VRep G (.int i) v):∃t,v=.int i t:=by exact h
theorem gP {b:Bool} {v:GB} (h:VRep G (.bool b) v):v=.bool b:=by exact h
theorem fQ {k:Nat} {v:GB} (h:VRep G (.str k) v):∃t,v=.str (nm k) t:=by exact h
theorem tK {v:GB} (h:VRep G .none v):v=.none:=by exact h
theorem fM {vs:List V} {v:GB} (h:VRep G (.tup vs) v):∃a items n,v=.ref a/\G.Z a=Gu {cls:=.type "tuple",data:=.seq items n}/\VReps G vs items.toList:=by exact h
theorem eD {vs:List V} {v:GB} (h:VRep G (.lst vs) v):∃a items n,v=.ref a/\G.Z a=Gu {cls:=.type "list",data:=.seq items n}/\VReps G vs items.toList:=by exact h
theorem bz (i:Int) (t:M1):VRep G (.int i) (.int i t):=by exact⟨t,rfl⟩
theorem bO (b:Bool):VRep G (.bool b) (.bool b):=by rfl
theorem i6:VRep G .none .none:=by rfl
theorem AX {i:Nat} (h:i<G.N):VRep G (.ref i) (.ref (G.φ i)):=by exact⟨h,rfl⟩
theorem aN (h:HY):h.get? h.objs.size=Gw:=by
 cases e:h.get? h.objs.size with
 |none=>rfl
 |some o=>exact absurd (HB e) (HD _)
theorem gp (a:At c ρ G σ s) {items:Array GB} {vs:List V} {n:Nat} {t:M1} (r:VReps G vs items.toList):
  ∃b,At c ρ b (σ.alloc (.list vs)) {s with heap:=s.heap.push (HP items n),toks:=t}/\G.Le b/\VRep b (.ref σ.n) (.ref s.heap.objs.size):=by
 have g:=Gh.add_le G s.heap.objs.size s.heap.objs.size
 have f:(s.heap.push (HP items n)).get? s.heap.objs.size=Gu (HP items n):=Hu _ rfl
 refine⟨G.add s.heap.objs.size s.heap.objs.size,a.track (fun Z Z e=>GU _ e) (aN _) (aN _) ⟨_,f⟩ ⟨_,f⟩ ?_ (by simp),g,?_⟩
 ·refine⟨items,n,?_,r.mono g⟩;rw [show(G.add s.heap.objs.size s.heap.objs.size).φ G.N=s.heap.objs.size from if_pos rfl];exact f
 ·refine⟨by rw [<-a.inv.N];exact GA _,?_⟩
  rw [show(G.add s.heap.objs.size s.heap.objs.size).φ σ.n=s.heap.objs.size from if_pos a.inv.N.symm]
theorem rB (a:At c ρ G σ s) {items:Array GB} {vs:List V} {t:M1} (r:VReps G vs items.toList):
  ∃b,At c ρ b σ {s with heap:=s.heap.push {cls:=.type "tuple",data:=.seq items},toks:=t}/\G.Le b/\VRep b (.tup vs) (.ref s.heap.objs.size):=by
 obtain⟨g,f,z⟩:=a.froze (h':=s.heap.push {cls:=.type "tuple",data:=.seq items}) (t:=t) (a:=s.heap.objs.size) (o:={cls:=.type "tuple",data:=.seq items}) (fun Z Z e=>GU _ e)
  (aN _) (Hu _ rfl)
 exact⟨_,g,f,by exact⟨_,_,_,rfl,z,r.mono f⟩⟩
theorem yo {l r:GZ} {D F:E} {op:Op} {pos:HR} (T:ao u d names l D) (U:ao u d names r F):ao u d names (.BinOp l op.m r pos) (.op (.bin op) [D,F]):=by
 revert l r D F op pos;delta u d names;delta l r D F op pos;intro w A c V W g Y ρ G σ s Q X a h;revert ρ G σ s Q X;delta w A c;delta ρ G σ s Q X;refine Ow (tA T U V W g Y a h fun x y Z vy v o m z p b L M H e q=>?_);delta x y Z vy v o m z p
 cases x with
 |int i=>
  obtain⟨j,rfl,e⟩:=cr e;obtain⟨t,rfl⟩:=aE M;obtain⟨t',rfl⟩:=aE H;obtain⟨k,hk,e⟩:=GY.mp e;cases e;exact CT op hk (.le L (.of (b.tok _) (bz _ _) q))
 |ref i=>
  delta i;obtain⟨j,rfl,e⟩:=dA e;injections j;intro e H e;obtain⟨I,e⟩:=ba e
  have I:op=.add:=by cases op<;>first|rfl|cases I
  subst I;obtain⟨k,N,e⟩:=bW e;injections k;intro N e;obtain⟨O,P,e⟩:=bW e;injections O;intro P e;obtain⟨J,e⟩:=ba e;cases e;obtain⟨hi,rfl⟩:=aU M;obtain⟨hj,rfl⟩:=aU H;obtain⟨_,items,n,g1,R⟩:=b.cell hi N (by simp)
  delta items n;obtain⟨_,f,n',g2,S⟩:=b.cell hj P (by simp)
  delta f n'
  have B:=R.length
  have C:=S.length
  simp only [Js] at B C;refine PySem.P.add_list g1 g2 ?_ (by rw [B,C];exact(l1 0x1b09492949f801b090909090909180) J)
  obtain⟨G',a',K,rr⟩:=gp (n:=0) (t:=m.toks) b (items:=items++f) (vs:=k++O) (by rw [HE];exact R.append S)
  exact⟨G',_,_,a',L.trans K,rr,q⟩
 |_=>cases e
end
theorem pQ:∀a,a<55->∀b,b<55->nm a=nm b->a=b:=by
 have h:(JD 55).all (fun a=>(JD 55).all fun b=>GL (a=b) || !(GL (nm a=nm b)))=Gx:=by decide+kernel
 intro a d b f e
 have g:=Hj.mp h a (JJ.mpr d)
 have c:=Hj.mp g b (JJ.mpr f)
 simp only [e,decide_true,OW,Bool.or_false,decide_eq_true_eq] at c;exact c
section
variable {u:U} {d:Nat} {names:List (He×G6)} {prog:Ip} {w:Hk} {A:Hi} {c:Cx} {ρ:List (Option V)} {G:Gh} {σ:Sg} {s:GD}
theorem j0 {l:List V}:∀ {vs:List GB} {is:List Int},VReps G l vs->ints? l=Gu is->KV vs is:=by
 induction l with
 |nil=>
  intro _ _ r e;subst r;cases e;exact .nil
 |cons x l b=>
  intro _ _ r e;obtain⟨y,k,rfl,f,g⟩:=r
  cases x with
  |int i=>
   obtain⟨is,j,rfl⟩:=GY.mp e;obtain⟨t,rfl⟩:=aE f;exact .cons i t (b g j)
  |_=>cases e
theorem jI {is:List Int} {vs:List GB} (h:KV vs is):VReps G (is.map .int) vs:=by
 induction h with
 |nil=>exact .nil
 |cons n t h b=>exact .cons (bz n t) b
theorem wZ {l:List V}:∀ {vs:List GB} {ks:List Nat},VReps G l vs->strs? l=Gu ks->StrsAre vs (ks.map nm):=by
 induction l with
 |nil=>
  intro _ _ r e;subst r;cases e;exact .nil
 |cons x l b=>
  intro _ _ r e;obtain⟨y,k,rfl,f,g⟩:=r
  cases x with
  |str i=>
   obtain⟨m,j,rfl⟩:=GY.mp e;obtain⟨t,rfl⟩:=fQ f;exact .cons _ t (b g j)
  |_=>cases e
theorem hU {kvs:List (Int×V)}:∀ {b:List (Int×GB)} (k:Int),DRep G kvs b->match lookI k kvs with|none=>Lm b k=Gw|some v=>∃x,Lm b k=Gu x/\VRep G v x:=by
 induction kvs with
 |nil=>
  intro _ k r;subst r;rfl
 |cons f kvs g=>
  intro _ k r;obtain⟨y,l,rfl,e,i,j⟩:=r;unfold lookI Lm
  by_cases q:f.1=k
  ·rw [if_pos q];refine⟨y.2,?_,i⟩;rw [K5,show GL (y.1=k)=Gx from decide_eq_true (e.trans q)];rfl
  ·rw [if_neg q,K5,show GL (y.1=k)=Gz from decide_eq_false (fun z=>q (e.symm.trans z))]
   exact g k j
theorem wR {ks:List Int}:∀ {vs:List V} {b:List (Int×GB)},b.map (·.1)=ks->VReps G vs (b.map (·.2))->DRep G (ks.zip vs) b:=by
 induction ks with
 |nil=>
  intro vs b e r;cases b with|nil=>rfl|cons _ _=>cases e
 |cons k ks f=>
  intro vs b e r
  cases b with
  |nil=>cases e
  |cons g b=>
   cases vs with
   |nil=>cases r
   |cons v vs=>
    obtain⟨y,l,h,i,j⟩:=r;cases h;cases e;exact⟨g,b,rfl,rfl,i,f rfl j⟩
theorem h9 {i:Nat} {kvs:List (Int×V)} (h:σ.cell i=.dict kvs):cO (.ref i) σ=Gu kvs:=by
 unfold cO;dsimp only;rw [h]
theorem qh {i:Nat} {l:List V} (h:σ.cell i=.list l):aV (.ref i) σ=Gu l:=by
 unfold aV;dsimp only;rw [h]
set_option tactic.hygienic true in
theorem eO (a:At c ρ G σ s) {x:V} {v:GB} {kvs:List (Int×V)} (r:VRep G x v) (e:cO x σ=Gu kvs) (prog:Ip) (w:Hk):
  ∃b f,v=.ref b/\s.heap.DictOf (Jm prog w) b f/\DRep G kvs f/\(b==KO)=Gz:=by
 cases x with
 |ref i=>
  obtain⟨m,rfl⟩:=aU r;unfold cO at e;dsimp only at e
  cases g:σ.cell i with
  |dict l=>
   rw [g] at e;cases e;obtain⟨n,f,o,j⟩:=a.cell m g nofun
   refine⟨_,f,rfl,bv.mpr o,j,?_⟩;obtain⟨y,p⟩:=a.inv.sys.1
   have:=(a.inv.fresh i n _ (.inl rfl)).1
   exact beq_false_of_ne fun q=>by rw [q,p] at this;cases this
  |_=>rw [g] at e;cases e
 |dic B C=>
  cases e;obtain⟨b,f,rfl,⟨o,z,t⟩,k,j⟩:=r;refine⟨b,f,rfl,bv.mpr ⟨o,a.inv.froz _ _ z,t⟩,wR k j,beq_false_of_ne fun q=>?_⟩;rw [q,a.inv.sys.2] at z;cases z
 |_=>cases e
set_option tactic.hygienic true in
theorem gw (a:At c ρ G σ s) {x:V} {v:GB} {l:List V} (r:VRep G x v) (e:aV x σ=Gu l):
  ∃b items n,v=.ref b/\VReps G l items.toList/\((s.heap.get? b=Gu {cls:=.type "tuple",data:=.seq items n}/\x=.tup l)\/s.heap.get? b=Gu (HP items n)):=by
 cases x with
 |ref i=>
  obtain⟨m,rfl⟩:=aU r;unfold aV at e;dsimp only at e
  cases j:σ.cell i with
  |list k=>
   rw [j] at e;cases e;obtain⟨o,items,n,g,f⟩:=a.cell m j nofun
   exact⟨_,items,n,rfl,f,.inr g⟩
  |_=>rw [j] at e;cases e
 |tup k=>
  cases e;obtain⟨b,items,n,rfl,z,f⟩:=fM r;exact⟨b,items,n,rfl,f,.inl ⟨a.inv.froz _ _ z,rfl⟩⟩
 |lst k=>
  cases e;obtain⟨b,items,n,rfl,z,f⟩:=eD r;exact⟨b,items,n,rfl,f,.inr (a.inv.froz _ _ z)⟩
 |_=>cases e
noncomputable abbrev hY (r:GZ):Prop:=∀op,behindInMarks op r=Gz
theorem eJ {x:V} {v:GB} (r:VRep G x v):(v==Jd)=x.isN/\plainIs v .none=Gx:=by
 cases x with
 |none=>cases r;exact⟨rfl,rfl⟩
 |bool _=>cases r;exact⟨rfl,rfl⟩
 |int _=>obtain⟨t,rfl⟩:=r;exact⟨rfl,rfl⟩
 |str _=>obtain⟨t,rfl⟩:=r;exact⟨rfl,rfl⟩
 |tup _=>obtain⟨a,_,_,rfl,_⟩:=r;exact⟨rfl,rfl⟩
 |lst _=>obtain⟨a,_,_,rfl,_⟩:=r;exact⟨rfl,rfl⟩
 |obj _ _ _=>obtain⟨a,_,_,_,rfl,_⟩:=r;exact⟨rfl,rfl⟩
 |dic _ _=>obtain⟨a,_,rfl,_⟩:=r;exact⟨rfl,rfl⟩
 |ref _=>obtain⟨_,rfl⟩:=r;exact⟨rfl,rfl⟩
theorem pS {l:GZ} {j:E} {pos:HR} {k:Nat} {p:HR} (r:ao u d names l j):ao u d names (.Compare l [.Is] [.Constant .none k p] pos) (.op .isNone [j]):=by
 intro w A c t v g y ρ G σ s Q X a h;refine KR (kI r t v g y a h fun x C m f n z i b B o e q=>Kx ?_) rfl;cases e;refine wpAny_is_plain (eJ o).2 ?_;rw [(eJ o).1];exact .le B (.of b (bO _) q)
theorem oO {l:GZ} {j:E} {pos:HR} {k:Nat} {p:HR} (r:ao u d names l j):ao u d names (.Compare l [.IsNot] [.Constant .none k p] pos) (.op .notNone [j]):=by
 intro w A c t v g y ρ G σ s Q X a h;refine KR (kI r t v g y a h fun x C m f n z i b B o e q=>Kx ?_) rfl;cases e;refine wpAny_isNot_plain (eJ o).2 ?_;rw [(eJ o).1];exact .le B (.of b (bO _) q)
theorem dX {b:GW} {items:Array GB} {n:Nat} (h:s.heap.get? b=Gu {cls:=.type "tuple",data:=.seq items n}):IsTup s.heap b items:=⟨_,h,rfl,n,rfl⟩
theorem aY {b:GW} {items:Array GB} {n:Nat} (h:s.heap.get? b=Gu (HP items n)):s.heap.IsList b items:=⟨_,h,rfl,n,rfl⟩
theorem kr (a:At c ρ G σ s) {kvs:List (Int×V)} {b:List (Int×GB)} (r:DRep G kvs b) (k:Int):(Lm b k).isSome=(lookI k kvs).isSome:=by
 have:=hU k r
 split at this
 ·rename_i e;rw [e,this];rfl
 ·rename_i e;obtain⟨x,h,_⟩:=this;rw [e,h];rfl
theorem f7 (i:Int) (t:M1):H4 i (.int i t)=Gx:=by simp [H4]
theorem pu {i j:Nat} (hi:i<55) (b:j<55):(nm i==nm j)=GL (i=j):=by
 by_cases e:i=j
 ·subst e;simp
 ·rw [beq_false_of_ne fun z=>e (pQ i hi j b z),decide_eq_false e]
theorem Cd {i:Nat} (hi:i<55) {ks:List Nat}:ks.all (· <55)=Gx->(ks.map nm).any (· ==nm i)=ks.any (· ==i):=by
 induction ks with
 |nil=>
  intro _;exact rfl
 |cons k ks b=>
  intro h;obtain⟨e,f⟩:=G0.mp h;rw [Hs,I3,I3,b f,pu (of_decide_eq_true e) hi];rfl
set_option tactic.hygienic true in
theorem Bu {l r:GZ} {F H:E} {pos:HR} (B:ao u d names l F) (O:ao u d names r H) (P:hY r):ao u d names (.Compare l [.In] [r] pos) (.op .inn [F,H]):=by
 intro w A c R S g T ρ G σ s Q X a h;refine KR (tA B O R S g T a h fun x y vx vy I j J z m f v K C e q=>?_) (P _)
 cases x with
 |int i=>
  obtain⟨t,rfl⟩:=aE K;obtain⟨r,U,e⟩:=GY.mp e;cases e;rcases oM U with ⟨V,D,rfl⟩ |⟨l,is,B,W,rfl⟩
  ·obtain⟨b,L,rfl,Y,p,Z⟩:=eO f C D u.prog w;refine wpAny_in_of (knd:=Jm u.prog w) (f7 i t) Z Y.mapOf ?_;rw [kr f p];exact .le v (.of (f.tok _) (bO _) q)
  ·obtain⟨b,o,n,rfl,p,k⟩:=gw f C B
   have M:=j0 p W
   rcases k with ⟨k,_⟩ |k
   ·exact in_tuple_ints (dX k) M (.le v (.of f (bO _) q))
   ·exact in_list_ints (aY k) M (.le v (.of f (bO _) q))
 |str i=>
  obtain⟨t,rfl⟩:=fQ K
  cases y with
  |tup us=>
   replace e:AK i us j=Gu (z,m):=e
   unfold AK at e
   split at e
   ·rename_i ks D;obtain⟨N,e⟩:=ba e;cases e;obtain⟨b,o,n,rfl,z,p⟩:=fM C;refine in_tuple_strs (dX (f.inv.froz _ _ z)) (wZ p D) ?_;rw [Cd N.1 N.2];exact .le v (.of f (bO _) q)
   ·cases e
  |_=>cases e
 |_=>cases e
theorem sF {l r:GZ} {C D:E} {pos:HR} (j:ao u d names l C) (L:ao u d names r D) (M:hY r):ao u d names (.Compare l [.NotIn] [r] pos) (.op .notIn [C,D]):=by
 intro w A c N O g P ρ G σ s Q X a h;refine KR (tA j L N O g P a h fun x y Z vy F m H z o f p R I e q=>?_) (M _);obtain⟨i,rfl,e⟩:=cr e;obtain⟨t,rfl⟩:=aE R;obtain⟨r,S,e⟩:=GY.mp e;cases e;rcases oM S with ⟨T,U,rfl⟩ |⟨l,is,j,V,rfl⟩
 ·obtain⟨b,J,rfl,W,v,Y⟩:=eO f I U u.prog w;refine wpAny_notIn_of (knd:=Jm u.prog w) (f7 i t) Y W.mapOf ?_;rw [kr f v];exact .le p (.of (f.tok _) (bO _) q)
 ·obtain⟨b,B,n,rfl,v,k⟩:=gw f I j
  have K:=j0 v V
  rcases k with ⟨k,_⟩ |k
  ·exact notin_tuple_ints (dX k) K (.le p (.of f (bO _) q))
  ·exact notin_list_ints (aY k) K (.le p (.of f (bO _) q))
def uC (u:U):Prop:=∀(w:Hk) (A:Hi) (c:Cx) (ρ:List (Option V)) (G:Gh) (σ:Sg) (s:GD) (x y:V) (b e:GB) (Q:GB->GD->Prop) (E:GB->GD->Prop),A.units+60<cLine->At c ρ G σ s->VRep G x b->VRep G y e->kg σ x y=Gx->
 (∀f,Q (.bool Gz) {s with toks:=f})->G3 (GR u.prog w) A (MG .NotEq b e) Q E s
theorem Rm.line (b:Rm A d c.Fs):A.units+60<cLine:=by
 have e:=b.units
 have f:cLine=9900:=rfl
 exact(l3 0x1b89293928749687209dc9a9692811c17c9380) e f
theorem yf {l r:GZ} {F H:E} {op:Rel} {pos:HR} (L:uC u) (M:ao u d names l F) (N:ao u d names r H) (O:hY r):ao u d names (.Compare l [op.m] [r] pos) (.op (.rel op) [F,H]):=by
 intro w A c P R g I ρ G σ s Q X a h;refine KR (tA M N P R g I a h fun x y J K o k m z n f v C D e q=>?_) (O _)
 have b:D5 op x y k=Gu (z,n)->G3 (GR u.prog w) A (MG op.m J K) (hB c ρ G Q) (a9 u c X) m:=fun B=>by
  cases op<;>first|cases B|skip
  obtain⟨S,B⟩:=ba B;cases B;exact L w A c ρ o k m x y J K _ _ I.line f C D S fun U=>.le v (.of (f.tok _) (bO _) q)
 cases x with
 |int i=>
  cases y with
  |int j=>
   obtain⟨t,rfl⟩:=aE C;obtain⟨T,rfl⟩:=aE D;cases e;exact Dl op (.le v (.of f (bO _) q))
  |_=>exact b e
 |str i=>
  cases y with
  |str j=>
   obtain⟨t,rfl⟩:=fQ C;obtain⟨T,rfl⟩:=fQ D;cases op<;>first|cases e|skip
   ·obtain⟨p,e⟩:=ba e;cases e;refine PU ?_;rw [pu p.1 p.2];exact .le v (.of f (bO _) q)
   ·obtain⟨p,e⟩:=ba e;cases e;refine PV ?_
    show hB c ρ G Q (.bool (!(nm i==nm j))) m
    rw [pu p.1 p.2];exact .le v (.of f (bO _) q)
  |_=>exact b e
 |_=>exact b e
end
noncomputable def q8 (K:I5) (c:GW) (n:Nat):Bool:=Ka K (.ref c) (nm n) ==Gu Gw&&takerIn K c (nm n) ==Gu Gw
noncomputable def i7 (K:I5) (c:GW):Bool:=plainGet K c (nm 0)&&hasDictIn K c&&plainOver K c&&Ka K (.ref c) "__setattr__"==Gu (Gu (.builtin "object.__setattr__"))
noncomputable def mD (K:I5) (c:GW) (n:Nat) (v:V):Bool:=match v with
 |.str k=>match Ka K (.ref c) (nm n) with
  |some (Gu (.str s t))=>s==nm k&&Pj K (.str s t) "__get__"==Gu Gw&& !(copiedNames.contains (nm n))
  |_=>Gz
 |_=>Gz
noncomputable def wE (K:I5) (c:GW) (n:Nat) (f:GW):Bool:=Ka K (.ref c) (nm n) ==Gu (Gu (.ref f))&&isFn K (.ref f)&&K6 K (.ref f)
noncomputable def jK (K:I5) (c:GW) (i:Option GW):Bool:=makesIn K c&&K6 K (.ref c)&&match i with
 |some f=>Ka K (.ref c) "__init__"==Gu (Gu (.ref f))&&isFn K (.ref f)
 |none=>Ka K (.ref c) "__init__"==Gu (Gu (.builtin "object.__init__"))
structure fG (T:mn) (K:I5):Prop where
 inits:T.inits.all (fun e=>jK K e.1 e.2)=Gx
 fields:T.fields.all (fun e=>i7 K e.1&&e.2.all fun n=>q8 K e.1 n)=Gx
 consts:T.consts.all (fun e=>mD K e.1.1 e.1.2 e.2)=Gx
 meths:T.meths.all (fun e=>wE K e.1.1 e.1.2 e.2)=Gx
theorem b6 {β:Type} {c:GW} {b:β} {l:List (GW×β)}:lookC c l=Gu b->(c,b)∈l:=by
 induction l with
 |nil=>
  intro h;cases h
 |cons e r d=>
  intro h;change ite _ _ _=_ at h
  split at h
  ·rename_i q;cases h;rw [<-q];exact .head _
  ·exact .tail _ (d h)
theorem ii {β:Type} {c:GW} {n:Nat} {b:β} {l:List ((GW×Nat)×β)}:lookT c n l=Gu b->((c,n),b)∈l:=by
 induction l with
 |nil=>
  intro h;cases h
 |cons e r d=>
  intro h;change ite _ _ _=_ at h
  split at h
  ·rename_i q;cases h;obtain⟨⟨x,y⟩,z⟩:=e;simp only at q;rw [<-q.1, <-q.2];exact .head _
  ·exact .tail _ (d h)
theorem gv {G:Gh} {n:Nat} (i:n<55) {b:List (Nat×V)}:∀ {c:List IK},ARep G b c->match lookN n b with
  |some v=>∃x,getL (nm n) c=Gu (Gu x)/\VRep G v x
  |none=>getL (nm n) c=Gu Gw:=by
 induction b with
 |nil=>exact fun(h:_=[])=>h▸rfl
 |cons d b f=>
  intro c h;obtain⟨e,c,rfl,⟨j,t,g⟩,k,l⟩:=h
  have f:=f l
  show match if d.1=n then Gu d.2 else lookN n b with|some v=>_|none=>_
  unfold getL
  by_cases q:d.1=n
  ·rw [if_pos q];refine⟨e.val,?_,k⟩;rw [K5,show e.key.isStr (nm n)=Gx from by rw [g, <-q];simp [LU]]
  ·rw [if_neg q]
   have m:e.key.isStr (nm n)=Gz:=by
    rw [g];simp only [LU,beq_eq_false_iff_ne,ne_eq];exact fun z=>q (pQ _ j _ i (by first|exact z|exact z.symm))
   have o:e.refKey=Gz:=by unfold Nk;rw [g]
   rw [K5,m,I3,o];exact f
theorem vO {G:Gh} {ks:List Nat}:∀ {vs:List V} {b:List IK},EKeys ks b->VReps G vs (b.map (·.val))->ks.length=vs.length->ARep G (ks.zip vs) b:=by
 induction ks with
 |nil=>
  intro _ _ k r _;subst k;rfl
 |cons k ks d=>
  intro vs _ h r c;obtain⟨e,b,rfl,f,g⟩:=h
  cases vs with
  |nil=>cases c
  |cons v vs=>
   obtain⟨y,l,h,i,j⟩:=r;simp only [Hs,Lw] at h;exact⟨e,b,rfl,f,h.1▸i,d g (h.2▸j) (by simpa using c)⟩
section
variable {u:U} {d:Nat} {names:List (He×G6)} {w:Hk} {A:Hi} {c:Cx} {ρ:List (Option V)} {G:Gh} {σ:Sg} {s:GD}
theorem ma (a:At c ρ G σ s) {x:V} {v:GB} {C:GW} {l:List (Nat×V)} (r:VRep G x v)
  (e:(∃ks vs,x=.obj C ks vs/\l=ks.zip vs/\ks.length=vs.length)\/∃i,x=.ref i/\σ.cell i=.inst C l):
  ∃b g f n,v=.ref b/\s.heap.get? b=Gu (J0 C g)/\s.heap.get? g=Gu (Nj f n)/\ARep G l f/\InstAt s.heap b (J0 C g) C (Gu (Nj f n)):=by
 rcases e with ⟨ks,vs,rfl,rfl,o⟩ |⟨i,rfl,p⟩
 ·obtain⟨b,g,f,n,rfl,q,t,y,m⟩:=r
  have j:=a.inv.froz _ _ q
  have k:=a.inv.froz _ _ t
  exact⟨b,g,f,n,rfl,j,k,vO y m o,⟨j,rfl,rfl,k⟩⟩
 ·obtain⟨z,rfl⟩:=aU r;obtain⟨B,j,f,n,k,m⟩:=a.cell z p (by simp)
  exact⟨_,_,f,n,rfl,j,k,m,⟨j,rfl,rfl,k⟩⟩
noncomputable abbrev da (o:GZ):Prop:=∀attr env (t:Kz GB),LV o attr env t=t
inductive ClassF (K:I5) (C:GW):Prop
 |mk (pg:plainGet K C (nm 0)=Gx) (hd:hasDictIn K C=Gx) (po:plainOver K C=Gx) (sa:Ka K (.ref C) "__setattr__"=Gu (Gu (.builtin "object.__setattr__"))):ClassF K C
theorem jX {K:I5} {C:GW} (h:i7 K C=Gx):ClassF K C:=by
 simp only [i7,HM,beq_iff_eq] at h;exact .mk h.1.1.1 h.1.1.2 h.1.2 h.2
inductive FieldF (K:I5) (C:GW) (n:Nat):Prop
 |mk (hn:n<55) (c:ClassF K C) (f1:Ka K (.ref C) (nm n)=Gu Gw) (f2:takerIn K C (nm n)=Gu Gw):FieldF K C n
theorem nZ {T:mn} {K:I5} (f:fG T K) {C:GW} {n:Nat} (h:bX T C n=Gx):FieldF K C n:=by
 unfold bX at h
 cases b:lookC C T.fields with
 |none=>rw [b] at h;cases h
 |some i=>
  rw [b] at h
  have h:=G0.mp h
  have g:=G0.mp (Hj.mp f.fields _ (b6 b))
  have e:=G0.mp (Hj.mp g.2 n (List.contains_iff_mem.mp h.1))
  exact .mk (of_decide_eq_true h.2) (jX g.1) (beq_iff_eq.mp e.1) (beq_iff_eq.mp e.2)
theorem qo {y:V} {v:GB} (r:VRep G y v):handedIn v=Gx:=by
 cases y with
 |none=>cases r;rfl
 |bool _=>cases r;rfl
 |int _=>obtain⟨t,rfl⟩:=r;rfl
 |str _=>obtain⟨t,rfl⟩:=r;rfl
 |tup _=>obtain⟨a,_,_,rfl,_⟩:=r;rfl
 |lst _=>obtain⟨a,_,_,rfl,_⟩:=r;rfl
 |obj _ _ _=>obtain⟨a,_,_,_,rfl,_⟩:=r;rfl
 |dic _ _=>obtain⟨a,_,rfl,_⟩:=r;rfl
 |ref _=>obtain⟨_,rfl⟩:=r;rfl
set_option tactic.hygienic true in
theorem k7 (m:fG u.T (u.Kf w.params)) (g:Gd u w c.base) (a:At c ρ G σ s) {x:V} {v:GB} {n:Nat} {y:V} (r:VRep G x v) (e:kC u.T n σ x=Gu y) {f:Bool} {Q:GB->GD->Prop} {E:GB->GD->Prop}
  (h:∀J,VRep G y J->Q J {s with toks:=s.toks+1}):G3 (GR u.prog w) A (O8 v (nm n) f) Q E s:=by
 revert x v n y f Q E;delta u w A c ρ G σ s;revert f Q E;delta x v n y;delta f Q E
 have X:(u.Kf w.params).In s.heap:=g.inK.keeps a.inv.stays
 have q:∀ {C:GW} {o:List (Nat×V)},((∃p B,x=.obj C p B/\o=p.zip B/\p.length=B.length)\/∃i,x=.ref i/\σ.cell i=.inst C o)->eF u.T C n o=Gu y->
   G3 (GR u.prog w) A (O8 v (nm n) f) Q E s:=fun{C o} S l=>by
  obtain⟨b,dx,es,k,rfl,h1,h2,P,I⟩:=ma a r S;unfold eF at l
  split at l
  ·rename_i z K
   split at l
   ·rename_i D;cases l
    cases nZ m D with|mk T j U f2=>
    cases j with|mk L M W Y=>
    have F:=gv T P
    rw [K] at F;obtain⟨J,N,R⟩:=F;exact get_value X I (Ox L).1 (findObj_own M U rfl N) (qo R) (h J R)
   ·cases l
  ·rename_i K
   split at l
   ·rename_i D;simp only [HM,decide_eq_true_eq] at D
    have F:=gv D.2 P
    rw [K] at F
    have j:=Hj.mp m.consts _ (ii l)
    obtain⟨p,O⟩:=HW.mp D.1
    cases jX (G0.mp (Hj.mp m.fields _ (b6 O))).1 with|mk L M W Y=>
    unfold mD at j
    split at j
    ·rename_i k' H
     split at j
     ·rename_i st t Z;simp only [HM,beq_iff_eq,Bool.not_eq_true'] at j H;subst H;exact get_value X I (Ox L).1 (findObj_cls M Z j.1.2 rfl j.2 F) rfl (h _ (by exact⟨t,by rw [j.1.1]⟩))
     ·cases j
    ·cases j
   ·cases l
 cases x with
 |obj C p B=>
  change ite _ _ _=_ at e
  split at e
  ·rename_i N;exact q (.inl ⟨p,B,rfl,rfl,N⟩) e
  ·cases e
 |ref i=>
  have e:(match σ.cell i with|.inst c o=>eF u.T c n o|_=>Gw)=Gu y:=e
  cases j:σ.cell i with
  |inst C o=>rw [j] at e;exact q (.inr ⟨i,rfl,j⟩) e
  |_=>rw [j] at e;cases e
 |_=>cases e
theorem wx (i:∀w:Hk,fG u.T (u.Kf w.params)) {o:GZ} {b:E} {n:Nat} {x:He} {pos:HR} (p:ao u d names o b) (t:da o) (v:nm n=x):ao u d names (.Attribute o x pos) (.op (.attr n) [b]):=by
 subst v;intro w A c B C g D ρ G σ s Q X a h
 have F:J6 (.Attribute o (nm n) pos) c.env=(do
   let b<-J6 o c.env
   Na pos.atName
   let r<-KD [b] (O8 b (nm n) Gx)
   letTemporaryGo o b r
   HH r):=by
  rw [show J6 (.Attribute o (nm n) pos) c.env=(do
   let b<-LV o (nm n) c.env (J6 o c.env)
   Na pos.atName
   let r<-KD [b] (O8 b (nm n) Gx)
   letTemporaryGo o b r
   HH r) from by with_unfolding_all rfl,t]
 refine Attribute_any_ ?_ F;refine kI p B C g D a h fun x M l j m z k f H I e q=>?_;obtain⟨y,J,K⟩:=GY.mp e;cases K;exact k7 (i w) g f I J fun N L=>.le H (.of (f.tok _) L q)
theorem sM {ks:List Nat}:∀ {b:List IK},EKeys ks b->b.length=ks.length:=by
 induction ks with
 |nil=>intro b h;cases h;rfl
 |cons k ks f=>intro b h;obtain⟨e,r,rfl,_,h⟩:=h;exact congrArg Nat.succ (f h)
set_option tactic.hygienic true in
theorem m6 (p:fG u.T (u.Kf w.params)) (g:Gd u w c.base) (a:At c ρ G σ s) {x:V} {v:GB} {n:Nat} {f:GW} (r:VRep G x v) (e:dY u.T n σ x=Gu f) {pl:Kz Bool} {Q:GB×List GB->GD->Prop} {E:GB->GD->Prop}
  (h:Q (.ref f,[v]) s):G3 (GR u.prog w) A (NR v (nm n) pl) Q E s:=by
 revert x v n f pl Q E;delta u w A c ρ G σ s;revert pl Q E;delta x v n f;delta pl Q E
 have X:(u.Kf w.params).In s.heap:=g.inK.keeps a.inv.stays
 have q:∀ {C:GW} {l:List (Nat×V)},((∃m o,x=.obj C m o/\l=m.zip o/\m.length=o.length)\/∃i,x=.ref i/\σ.cell i=.inst C l)->(l.map (·.1)).contains n=Gz->wK u.T C=Gx->n<55->lookT C n u.T.meths=Gu f->
   G3 (GR u.prog w) A (NR v (nm n) pl) Q E s:=fun{C l} J t j O P=>by
  obtain⟨b,R,K,k,rfl,D,Y,y,I⟩:=ma a r J
  have S:lookN n l=Gw:=by
   clear y J
   induction l with
   |nil=>rfl
   |cons Z l T=>
    rw [Hs,List.contains_cons,NA] at t
    show ite _ _ _=_
    rw [if_neg (fun z=>by rw [z] at t;simp at t)]
    exact T t.2
  have L:=gv O y
  rw [S] at L;obtain⟨m,F⟩:=HW.mp j
  cases jX (G0.mp (Hj.mp p.fields _ (b6 F))).1 with|mk B hd po sa=>
  have M:=G0.mp (G0.mp (Hj.mp p.meths _ (ii P))).1
  have B:=Ox B
  have U:typeIn (u.Kf w.params) (.ref f)=Gu (.type "function"):=beq_iff_eq.mp M.2
  refine method_fn X I B.1 B.2 (beq_iff_eq.mp M.1) U ?_ h
  show shadowIn (Gu (Nj K k)) (nm n)=Gu Gz
  unfold shadowIn;simp [lookIn_dict,L]
 cases x with
 |obj C m o=>
  delta C m o;change ite _ _ _=_ at e
  split at e
  ·cases e
  ·rename_i j;simp only [Il,not_or,Ob,decide_eq_true_eq,Lo,Nat.not_le] at j;obtain⟨b,R,K,k,rfl,z1,z2,W,y⟩:=r
   have N:m.length=o.length:=by
    have D:=y.length
    rw [GJ] at D;rw [<-D,sM W]
   refine q (.inl ⟨m,o,rfl,rfl,N⟩) ?_ j.1.2 j.2 e;rw [Oc (Km N)];exact j.1.1
 |ref i=>
  unfold dY ny at e;dsimp only at e
  cases H:σ.cell i with
  |inst C l=>
   rw [H] at e;change ite _ _ _=_ at e
   split at e
   ·cases e
   ·rename_i j;simp only [Il,not_or,Ob,decide_eq_true_eq,Lo,Nat.not_le] at j;exact q (.inr ⟨i,rfl,H⟩) j.1.1 j.1.2 j.2 e
  |_=>rw [H] at e;cases e
 |_=>cases e
end
theorem uE {G:Gh} {n:Nat} (f:n<55) {g:Int} {t:M1} {x:V} {i:GB} (j:VRep G x i) {c:List (Nat×V)}:∀ {b:List IK},ARep G c b->ARep G (putN' n x c) (putL (nm n) g (.str (nm n) t) i b):=by
 induction c with
 |nil=>exact fun(h:_=[])=>h▸⟨_,[],rfl,⟨f,t,rfl⟩,j,rfl⟩
 |cons o c p=>
  intro b h;obtain⟨e,b,rfl,⟨k,l,d⟩,r,m⟩:=h;unfold putN' putL
  by_cases q:o.1=n
  ·rw [if_pos q,if_pos (show e.key.isStr (nm n)=Gx from by rw [d, <-q];simp [LU])]
   exact⟨_,b,rfl,⟨f,l,by rw [d,q]⟩,j,m⟩
  ·have s:¬(e.key.isStr (nm n)=Gx):=by
    rw [d];simp only [LU,beq_iff_eq];exact fun z=>q (pQ _ k _ f (by first|exact z|exact z.symm))
   rw [if_neg q,if_neg s];exact⟨e,_,rfl,⟨k,l,d⟩,r,p m⟩
theorem wn {G:Gh} {b:List (Nat×V)}:∀ {c:List IK},ARep G b c->c.length=b.length:=by
 induction b with
 |nil=>
  intro _ h;subst h;rfl
 |cons g b d=>
  intro _ h;obtain⟨e,c,rfl,_,_,f⟩:=h;rw [HF,HF,d f]
theorem sd {G:Gh} {c:List (Nat×V)}:∀ {d:List IK},ARep G c d->∀e∈d,e.refKey=Gz:=by
 induction c with
 |nil=>
  intro _ h e b;subst h;cases b
 |cons k c f=>
  intro _ h e b;obtain⟨l,g,rfl,⟨_,t,i⟩,_,j⟩:=h;rcases GK.mp b with rfl|b
  ·unfold Nk;rw [i]
  ·exact f j e b
theorem t5 (name:He) (c:Int) (k v:GB) (b:List IK):(putL name c k v b).length<=b.length+1:=by
 induction b with
 |nil=>exact GP _
 |cons e b d=>
  unfold putL
  split
  ·exact Hn _
  ·exact Hq d
section
variable {u:U} {d:Nat} {names:List (He×G6)} {w:Hk} {A:Hi} {c:Cx} {ρ:List (Option V)} {G:Gh} {σ:Sg} {s:GD}
set_option tactic.hygienic true in
theorem kU (K:fG u.T (u.Kf w.params)) (g:Gd u w c.base) (Y:aJ c) (a:At c ρ G σ s) {x y:V} {v f:GB} {n:Nat} {σ':Sg} (r:VRep G x v) (ry:VRep G y f) (e:ov u.T σ n y x=Gu σ') {Q:Unit->GD->Prop} {E:GB->GD->Prop}
  (h:∀R,At c ρ G σ' R->Q () R):G3 (GR u.prog w) A (setAttr v (nm n) f) Q E s:=by
 revert x y v f n σ' Q E;delta u w A c ρ G σ s;revert Q E;delta x y v f n σ';delta Q E
 have X:(u.Kf w.params).In s.heap:=g.inK.keeps a.inv.stays
 cases x with
 |ref i=>
  delta i;unfold ov at e;dsimp only at e
  cases p:σ.cell i with
  |inst C as=>
   rw [p] at e;delta C as;change ite _ _ _=_ at e
   split at e
   ·rename_i t;cases e;obtain⟨hi,B,hf⟩:=t;obtain⟨b,S,j,k,hb,D,F,J,I⟩:=ma a r (.inr ⟨i,rfl,p⟩);delta b S j k;obtain⟨L,rfl⟩:=aU r;cases hb;obtain⟨al,H,_⟩:=a.cell L p (by simp)
    have M:S=G.δ i:=by
     rw [D] at H
     have:=congrArg Obj.dict (JM H)
     exact JM this
    subst M
    cases nZ K hf with|mk T p f1 f2=>
    cases p with|mk pg hd po sa=>
     obtain⟨cd,N,l⟩:=any_some (show(clsIn (u.Kf w.params) C).any (·.hasDict)=Gx from hd)
     delta cd;refine set_plain X I sa ?_;refine osa_open (s:={s with toks:=s.toks+1}) X I po f2 fun b=>?_
     delta b;refine Gy (GV (Gy (Gy (Nl D (Gy (Pk (s:={s with toks:=s.toks+1}) (Oy X N) ?_))))))
     rw [l];refine GV (a:=Gu (G.δ i)) (Gy (GV (Gy ?_)));refine Gy (Gy (wpAny_askSetting (GV (Gy (wpAny_mkText (Gy (Nl F ?_)))))))
     have ag:=gv T J
     have c0:(!j.toArray.any (·.key.isStr (nm n))&&j.toArray.any (·.refKey))=Gz:=by
      have:j.any (·.refKey)=Gz:=List.any_eq_false.mpr fun e he=>by rw [sd J e he];decide
      rw [<-NZ, <-NZ,this,Bool.and_false]
     dsimp only;rw [aRefKeyMayBeTheName_at,c0];refine wpAny_updatePart F ?_
     have U:=putName_dict (nm n) (JG w.params (nm n)) (.str (nm n) (s.toks+1)) f j k
     have m:(s.heap.update (G.δ i) (PW (nm n) (JG w.params (nm n)) (.str (nm n) (s.toks+1)) f)).get? (G.δ i)=Gu (Nj (putL (nm n) (JG w.params (nm n)) (.str (nm n) (s.toks+1)) f j) (putN (nm n) j k)):=by
      rw [<-U];exact H7 _ F (by rw [U];rfl)
     have hz:=t5 (nm n) (JG w.params (nm n)) (.str (nm n) (s.toks+1)) f j
     have O:=wn J
     refine Gy (MI m (MJ (by rw [KF,JS];exact(l3 0x1d101b496811b718021b718090909090909182) O B hz)) ?_)
     refine GV ?_
     have W:G.δ i≠G.φ i:=fun z=>by rw [z,D] at F;cases F
     have P:∀q,q≠G.δ i->(s.heap.update (G.δ i) (PW (nm n) (JG w.params (nm n)) (.str (nm n) (s.toks+1)) f)).get? q=s.heap.get? q:=fun q t=>Ho _ _ (Hz t)
     refine h _ (a.mut Y al (fun q o e Z t=>(P q t).trans e) ⟨_,(P _ W.symm).trans D⟩ ⟨_,m⟩ ⟨(P _ W.symm).trans D,_,_,m,uE T ry J⟩)
   ·cases e
  |_=>rw [p] at e;cases e
 |_=>cases e
end
section
variable {u:U} {d:Nat} {names:List (He×G6)} {w:Hk} {A:Hi} {c:Cx} {ρ:List (Option V)} {G:Gh} {σ:Sg} {s:GD}
noncomputable def SndEs (u:U) (d:Nat) (names:List (He×G6)):List GZ->List E->Prop
 |[],[]=>True
 |e::r,b::f=>ao u d names e b/\SndEs u d names r f
 |_,_=>False
noncomputable def noStar:List GZ->Prop
 |[]=>True
 |e::r=>(∀r env,IL (e::r) env=(Gz,J6 e env)::IL r env)/\noStar r
theorem aL {e:GZ} {r:List GZ} {env:J5} (h:noStar (e::r)):IL (e::r) env=(Gz,J6 e env)::IL r env/\noStar r:=⟨h.1 r env,h.2⟩
theorem gf {pos:HR} (D:aJ c) (F:c.env.scope.names=names) (g:Gd u w c.base) (H:Rm A d c.Fs) {t:List GZ}:∀ {b:List E} {G:Gh} {σ:Sg} {s:GD} {Q:List V->Sg->Prop} {X:Sg->Prop},SndEs u d names t b->noStar t->At c ρ G σ s->wpEs u.T (ae u d) ρ b Q X σ->
  G3 (GR u.prog w) A (spliced (K7 pos (IL t c.env))) (C8 c ρ G Q) (a9 u c X) s:=by
 induction t with
 |nil=>
  intro b G σ s Q X S _ a h
  cases b with
  |nil=>exact KW ⟨G,σ,[],a,.refl _,.nil,h⟩
  |cons _ _=>exact S.elim
 |cons e r I=>
  intro b G σ s Q X S J a h
  cases b with
  |nil=>exact S.elim
  |cons N O=>
   obtain⟨K,L⟩:=aL (env:=c.env) J;rw [K]
   show G3 _ _ (spliced ((Gz,J6 e c.env)::K7 pos (IL r c.env))) _ _ _
   refine JA (az S.1 D F g H a h fun v z B y x j k l m=>?_);refine G4 (I S.2 L j m) (fun P C h=>?_) fun Z Z x=>x;obtain⟨n,i,M,o,f,p,q⟩:=h;exact⟨n,i,x::M,o,k.trans f,.cons (l.mono f) p,q⟩
theorem yx {n:List GZ} {i:List E} {k:Nat} {pos:HR} (S:SndEs u d names n i) (r:noStar n):ao u d names (.Tuple n k pos) (.op .tup i):=by
 intro w A c v y g z ρ G σ s Q X a h;refine Tuple_ (G4 (gf v y g z S r a h) (fun vs j B=>?_) fun Z Z x=>x);obtain⟨q,o,C,l,m,f,b⟩:=B
 split at b
 ·rename_i e;obtain⟨D,e⟩:=ba e;cases e;refine KY (T:="tuple") (data:=.seq vs.toArray) ?_ ?_
  ·obtain⟨F,H,p,I⟩:=rB (t:=j.toks) l (items:=vs.toArray) (vs:=C) (by simpa using f)
   exact⟨F,_,_,H,m.trans p,I,b⟩
  ·show vs.toArray.size<=J1
   rw [KF,f.length];exact(l1 0x1b89e93801b090909090909180) D
 ·exact b.elim
theorem xT {m:List GZ} {i:List E} {pos:HR} (S:SndEs u d names m i) (r:noStar m):ao u d names (.List m pos) (.op .lst i):=by
 intro w A c v y g z ρ G σ s Q X a h;refine List_ (G4 (gf v y g z S r a h) (fun vs j B=>?_) fun Z Z x=>x);obtain⟨q,o,C,k,l,f,b⟩:=B
 split at b
 ·rename_i e;obtain⟨D,e⟩:=ba e;cases e;refine KY (T:="list") (data:=.seq vs.toArray) ?_ ?_
  ·obtain⟨F,H,p,I⟩:=gp (n:=0) (t:=j.toks) k (items:=vs.toArray) (vs:=C) (by simpa using f)
   exact⟨F,_,_,H,l.trans p,I,b⟩
  ·show vs.toArray.size<=J1
   rw [KF,f.length];exact(l1 0x1b89e93801b090909090909180) D
 ·exact b.elim
theorem jw {items:Array GB} {vs:List V} (h:items.size=vs.length):items.isEmpty=vs.isEmpty:=by
 cases vs with
 |nil=>simp only [JB] at h;unfold OL;rw [h];rfl
 |cons v vs=>simp only [HF] at h;unfold OL;rw [h];rfl
set_option tactic.hygienic true in
theorem gu (a:At c ρ G σ s) {x:V} {v:GB} {b:Bool} (r:VRep G x v) (e:b7 σ x=Gu b) {Q:Bool->GD->Prop} {E:GB->GD->Prop} (h:∀tk,Q b {s with toks:=tk}):G3 (GR u.prog w) A (N0 v) Q E s:=by
 cases x with
 |bool m=>
  cases gP r;cases e;exact Mm (h s.toks)
 |int i=>
  obtain⟨t,rfl⟩:=aE r;cases e;exact PX (h s.toks)
 |ref i=>
  obtain⟨o,rfl⟩:=aU r;unfold b7 at e;dsimp only at e
  cases j:σ.cell i with
  |list k=>
   rw [j] at e;change ite _ _ _=_ at e
   split at e
   ·rename_i p;cases e;obtain⟨y,f,n,q,l⟩:=a.cell o j nofun
    have g:f.size=_:=l.length
    refine O9 (aY q) (by rw [g];lia) ?_
    have:f.isEmpty=k.isEmpty:=jw g
    rw [this];exact h _
   ·cases e
  |_=>rw [j] at e;cases e
 |lst k=>
  obtain⟨m,f,n,rfl,z,l⟩:=eD r;change ite _ _ _=_ at e
  split at e
  ·rename_i p;cases e
   have g:f.size=_:=l.length
   refine O9 (aY (a.inv.froz _ _ z)) (by rw [g];lia) ?_
   have:f.isEmpty=k.isEmpty:=jw g
   rw [this];exact h _
  ·cases e
 |_=>cases e
end
noncomputable abbrev mW (sl:GZ):Prop:=∀o i,subscripted sl Gz o i=operate [o,i] (getItem o i)
section
variable {u:U} {d:Nat} {names:List (He×G6)} {w:Hk} {A:Hi} {c:Cx} {ρ:List (Option V)} {G:Gh} {σ:Sg} {s:GD}
theorem AC {l:List V} {items:Array GB} {i:Int} {x:V} (r:VReps G l items.toList) (e:Cp l i=Gu x):∃v j,Pl i items.size=Gu j/\items[j]? =Gu v/\VRep G x v/\(0<=i->j=i.toNat)/\(i<0->j=(i+items.size).toNat/\ -(items.size:Int)<=i):=by
 revert l items i x;delta G;delta l items i x
 have k:Je _=_:=r.length
 change ite _ _ _=_ at e
 split at e
 ·rename_i b;obtain⟨v,f,g⟩:=r.get e;delta v
  have n:=(HS.mp e).1
  refine⟨v,i.toNat,?_,by simpa using f,g,fun Z=>rfl,fun h=>by lia⟩
  have:(GL (0<=i)&&GL (i<(items.size:Int)))=Gx:=by simp;lia
  simp only [Pl,if_neg (show¬i<0 by exact Int.not_lt.mpr b),this,if_true]
 ·split at e
  ·rename_i b o
   have m:l[(i+items.size).toNat]? =Gu x:=by rw [k];exact e
   obtain⟨v,f,g⟩:=r.get m;delta v
   have n:=(HS.mp m).1
   refine⟨v,(i+items.size).toNat,?_,by simpa using f,g,fun h=>(absurd h b),fun Z=>⟨rfl,by rw [k];exact o⟩⟩
   have:(GL (0<=i+(items.size:Int))&&GL (i+(items.size:Int) <(items.size:Int)))=Gx:=by simp;lia
   simp only [Pl,if_pos (show i<0 by exact Int.not_le.mp b),this,if_true]
  ·cases e
theorem wq (a:At c ρ G σ s) {x y:V} {p F:GB} {i:Int} {z:V} {σ':Sg} (H:VRep G x p) (M:VRep G (.int i) F) (e:aI u.T .idx [x,.int i] σ=Gu (z,σ')) {Q:GB->GD->Prop} {E:GB->GD->Prop}
  (h:∀v tk,VRep G z v->Q v {s with toks:=tk}):G3 (GR u.prog w) A (getItem p F) Q E s/\∃T N,s.TypeIs p T/\typeLookup (.type T) "__getitem__"=HH (Gu (.builtin N))/\σ'=σ:=by
 obtain⟨t,rfl⟩:=aE M;rcases nq e with ⟨l,O,e⟩ |⟨P,R,e⟩
 ·obtain⟨X,e⟩:=ba e;obtain⟨S,r,B⟩:=GY.mp e;cases B;obtain⟨b,C,n,rfl,o,k⟩:=gw a H O;obtain⟨v,j,U,g,m,I,D⟩:=AC o r
  have J:Je _=_:=o.length
  have W:=(Ix.mp g).1
  have f:i<2^63/\ -(2^63)<=i:=by
   rcases Pm i 0 with q|q
   ·have:=(D q).2;lia
   ·have:=I q;lia
  rcases k with ⟨k,_⟩ |k
  ·exact⟨getItem_tuple (dX k) f.2 f.1 U g (h v s.toks m),"tuple",_,(dX k).typeIs,slot_tuple_getitem.lookup,rfl⟩
  ·refine⟨?_,"list",_,⟨_,k,rfl⟩,slot_list_getitem.lookup,rfl⟩;rcases Pm i 0 with q|q
   ·exact wpAny_getItem_list_neg (aY k) q (D q).2 f.2 (by rw [<-(D q).1];exact g) (h v s.toks m)
   ·exact wpAny_getItem_list (aY k) q f.1 (by rw [<-I q];exact g) (h v s.toks m)
 ·obtain⟨S,r,B⟩:=GY.mp e;cases B;obtain⟨b,K,rfl,L,o,Y⟩:=eO a H R u.prog w
  have:=hU i o
  rw [r] at this;obtain⟨v,g,m⟩:=this;exact⟨wpAny_getItem_of (knd:=Jm u.prog w) (f7 i t) L.mapOf g (h v _ m),"dict",_,L.typeIs,slot_dict_getitem.lookup,rfl⟩
theorem zj {l r:GZ} {k n:E} {pos:HR} (C:ao u d names l k) (D:ao u d names r n) (F:mW r):ao u d names (.Subscript l r pos) (.op .idx [k,n]):=by
 intro w A c H I g J ρ G σ s Q X a h;refine Subscript_ (tA C D H I g J a h fun x y S U o f p z j b K t B e q=>?_);obtain⟨i,rfl,e⟩:=cr e
 have:=wq (u:=u) (w:=w) (A:=A) (y:=V.none) (Q:=hB c ρ G Q) (E:=a9 u c X) b t B e (fun v L M=>by
  have N:j=f:=by
   obtain⟨_,_,_,_,_,O⟩:=wq (u:=u) (w:=w) (A:=A) (y:=V.none) (Q:=fun Z Z=>True) (E:=fun Z Z=>True) b t B e (fun Z Z Z=>trivial);exact O
  subst N;exact .le K (.of (b.tok L) M q))
 obtain⟨m,T,W,P,R,_⟩:=this;exact tail_any P R m (F _ _)
theorem F7 (k a:Nat):max 0 (O6 (k:Int) a)=((O6 k a:Nat):Int):=by
 rcases Nat.le_total k a with h|h
 ·rw [I2 h,Int.min_eq_left (Nm.mpr h)];exact Oz (Hc _)
 ·rw [OA h,Int.min_eq_right (Nm.mpr h)];exact Oz (Hc _)
theorem qG (items:Array GB):slicePick items (Gu 1) Gw Gw=(items.toList.drop 1).toArray:=by
 rw [kmk_pick_nat (a:=O6 1 items.size) (b:=items.size) items (by simp [sliceBounds];exact F7 1 _)]
 congr 1
 by_cases h:items.size=0
 ·have:items.toList=[]:=by rw [<-M2];simpa using h
  simp [this]
 ·rw [show O6 1 items.size=1 by exact I2 (IA h)]
  rw [Iq (by simp)]
theorem nF (items:Array GB):slicePick items Gw (Gu 24) Gw=(items.toList.take 24).toArray:=by
 rw [kmk_pick_nat (a:=0) (b:=O6 24 items.size) items (by simp [sliceBounds];exact F7 24 _)]
 congr 1
 simp only [List.drop_zero,Nat.sub_zero]
 by_cases h:items.size<=24
 ·rw [show O6 24 items.size=items.size by exact OA h,Iq (by simp),Iq h]
 ·rw [show O6 24 items.size=24 by exact I2 (Ou h)]
theorem sy {x:He} {y C D pos:HR} {k:Nat} {B:E} (J:ao u d names (.Name x y) B):ao u d names (.Subscript (.Name x y) (.Slice (Gu (.Constant (.int 1) k C)) Gw Gw D) pos) (.op .from1 [B]):=by
 revert x y C D pos k B;delta u d names;delta x y C D pos k B;intro w A c K L g M ρ G σ s Q X a h;revert ρ G σ s Q X;delta w A c;delta ρ G σ s Q X;refine Nn (kI J K L g M a h fun x N o j f z m i O H e q=>?_);delta x N o j f z m;refine OM (KQ ?_);refine ON ?_;obtain⟨l,rfl,e⟩:=m9 e;injections l;intro e H e;obtain⟨P,e⟩:=ba e;cases e;obtain⟨b,items,n,rfl,z,I⟩:=eD H;delta b items n
 have R:=i.inv.froz _ _ z
 have p:Je _=_:=I.length
 refine⟨_,items,_,_,rfl,aY (s:={f with toks:=f.toks+1}) R,by rw [p];exact(l1 0x1b09492949f801b090909090909180) P,.int 1 _,.none,?_⟩
 rw [qG]
 have r:=i.push {cls:=.type "slice",data:=.fields #[.int 1 f.toks,.none,.none]} f.toks
 obtain⟨S,T,F,v⟩:=gp (n:=0) (t:=f.toks+1) r (items:=(items.toList.drop 1).toArray) (vs:=l.drop 1) (by simpa using I.drop 1)
 rw [JK] at v;exact⟨S,_,_,T,O.trans F,v,q⟩
theorem qF {x:He} {y C D pos:HR} {k:Nat} {B:E} (J:ao u d names (.Name x y) B):ao u d names (.Subscript (.Name x y) (.Slice Gw (Gu (.Constant (.int 24) k C)) Gw D) pos) (.op .upto24 [B]):=by
 revert x y C D pos k B;delta u d names;delta x y C D pos k B;intro w A c K L g M ρ G σ s Q X a h;revert ρ G σ s Q X;delta w A c;delta ρ G σ s Q X;refine Nn (kI J K L g M a h fun x N o j f z m i O H e q=>?_);delta x N o j f z m;refine ON ?_;refine OM (KQ ?_);obtain⟨l,rfl,e⟩:=m9 e;injections l;intro e H e;obtain⟨P,e⟩:=ba e;cases e;obtain⟨b,items,n,rfl,z,I⟩:=eD H;delta b items n
 have R:=i.inv.froz _ _ z
 have p:Je _=_:=I.length
 refine⟨_,items,_,_,rfl,aY (s:={f with toks:=f.toks+1}) R,by rw [p];exact(l1 0x1b09492949f801b090909090909180) P,.none,.int 24 _,?_⟩
 rw [nF]
 have r:=i.push {cls:=.type "slice",data:=.fields #[.none,.int 24 f.toks,.none]} f.toks
 obtain⟨S,T,F,v⟩:=gp (n:=0) (t:=f.toks+1) r (items:=(items.toList.take 24).toArray) (vs:=l.take 24) (by simpa using I.take 24)
 rw [JK] at v;exact⟨S,_,_,T,O.trans F,v,q⟩
end
section
variable {u:U} {d:Nat} {names:List (He×G6)} {w:Hk} {A:Hi} {c:Cx} {ρ:List (Option V)} {G:Gh} {σ:Sg} {s:GD}
noncomputable def jS (base h:HY) (L:GW):List (GW×JE):=(JD h.objs.size).filterMap fun b=>if b=L then Gw else match base.get? b with
 |some _=>Gw
 |none=>(h.get? b).map (b,·)
theorem nM (base h:HY) (L:GW):News base L h (jS base h L):=by
 intro p f;obtain⟨b,k,e⟩:=HI.mp f
 split at e
 ·cases e
 ·rename_i g
  split at e
  ·cases e
  ·rename_i i;obtain⟨o,j,rfl⟩:=GY.mp e;exact⟨j,g,i⟩
theorem ki {base h:HY} {L b:GW} {o:JE} (e:h.get? b=Gu o) (f:b≠L) (g:base.get? b=Gw):(b,o)∈jS base h L:=by
 refine HI.mpr ⟨b,JJ.mpr (Ga e),?_⟩;rw [if_neg f,g,e];rfl
theorem At.fr (a:At c ρ G σ s) (j:aJ c):∃m,Fr c.base c.env.locals s.heap m/\News c.base c.env.locals s.heap (jS c.base s.heap c.env.locals)/\
  ∀h' t,Fr c.base c.env.locals h' m->News c.base c.env.locals h' (jS c.base s.heap c.env.locals)->At c ρ G σ {s with heap:=h',toks:=t}/\∀b o,s.heap.get? b=Gu o->b≠c.env.locals->h'.get? b=Gu o:=by
 delta c ρ G σ s;obtain⟨m,K,M,O⟩:=a.envr;delta m;refine⟨m,⟨K,a.inv.stays,j.baseLe⟩,nM _ _ _,fun h' t F N=>?_⟩;delta h' t
 have k:∀b o,s.heap.get? b=Gu o->b≠c.env.locals->h'.get? b=Gu o:=fun b o e P=>by
  cases q:c.base.get? b with
  |some n=>
   have:=a.inv.stays b n q
   rw [e] at this;cases this;exact F.keep b o q
  |none=>exact(N _ (ki e P q)).1
 obtain⟨C,Q,R,E,D,_⟩:=F.ns;delta C Q R
 have z:∀b,(∃o,s.heap.get? b=Gu o)->∃o,h'.get? b=Gu o:=fun b ⟨o,e⟩=>by
  by_cases q:b=c.env.locals
  ·exact⟨C,q▸E⟩
  ·exact⟨o,k b o e q⟩
 have H:∀i,aT σ i->G.φ i≠c.env.locals/\G.δ i≠c.env.locals:=fun i g=>⟨fun q=>(a.inv.pv_ne j.locPv i g).1 q.symm,fun q=>(a.inv.pv_ne j.locPv i g).2 q.symm⟩
 refine⟨⟨⟨a.inv.N,F.keep,dS a.inv.frames fun S he L T o e U=>?_,fun i g=>(a.inv.cells i g).keeps (fun o e=>k _ o e (H i g).1) (fun o e=>k _ o e (H i g).2),fun i g=>⟨z _ (a.inv.live i g).1,z _ (a.inv.live i g).2⟩,a.inv.fresh,a.inv.inj,
   fun b o e=>k b o (a.inv.froz b o e) fun q=>?_,fun b B=>⟨z b (a.inv.pv b B).1,(a.inv.pv b B).2⟩,a.inv.fpv,a.inv.sys⟩,⟨m,F.ns,fun i y v V W=>(M i y v V W).keeps (.refl _) fun y b e o X=>⟨o,k b o X (j.cellPv y b e).2,rfl⟩,fun y Y=>by
   obtain⟨b,l,I,o,Z,h3⟩:=O y Y
   exact⟨b,l,I,o,k b o Z (j.cellPv y b I).2,h3⟩⟩,
  ⟨a.adv.le,fun b o e f=>?_,fun b B=>z b (a.adv.there b B),a.adv.newφ,a.adv.newZ,a.adv.dead⟩,a.gens,a.os,fun p J=>k _ _ (a.pins p J) (j.pins p J).2.1⟩,k⟩
 ·by_cases q:L=c.env.locals
  ·subst q;exact⟨C,E,fun vs e=>by rw [D] at e;cases e⟩
  ·exact⟨o,k L o e q,U⟩
 ·rw [q] at e
  have:=(a.inv.pv _ j.locPv).2.2
  rw [this] at e;cases e
 ·obtain⟨n,e',r⟩:=a.adv.keep b o e f;exact⟨n,k b n e' (fun q=>by rw [q,j.locNew] at e;cases e),r⟩
theorem cH (b:String):∀h:HY,True->∃k,(k=MV\/k=Me\/k=Lp)/\Lx (GR u.prog w) h (keeperOf (.builtin b)) k:=fun h Z=>⟨.machine,.inr (.inl rfl),.of_pure rfl⟩
theorem gc (T:String):∀h:HY,True->∃k,(k=MV\/k=Me\/k=Lp)/\Lx (GR u.prog w) h (keeperOf (.type T)) k:=fun h Z=>⟨.machine,.inr (.inl rfl),.of_pure rfl⟩
theorem mC {x:He} {pos:HR} {v:GB} (g:Gd u w c.base) (f:aJ c) (l:c.env.scope.names=names) (a:At c ρ G σ s) (m:names.lookup x=Gu .globalImplicit) (k:x∈dg) (e:KC x=Gu v) (hd:(x==("__debug__":He))=Gz) {Q:GB->GD->Prop} {E:GB->GD->Prop} (h:Q v s):
  G3 (GR u.prog w) A (J6 (.Name x pos) c.env) Q E s:=by
 obtain⟨n,o,_,b⟩:=g.globals;obtain⟨p,i,j⟩:=g.builtins
 have q:s.heap.Ns c.env.globals n:=by rw [f.glob];exact o.keeps a.inv.stays
 have r:s.heap.Ns c.env.builtins p:=by rw [f.bi];exact i.keeps a.inv.stays
 exact HZ f.kind (by unfold Io;rw [l];exact m) (OX q (b x k) r ((j x k).trans e) h) hd
theorem fJ {x:He} {H pos:HR} {e:GZ} {C:E} {v:GB} {p:mj} (I:names.lookup x=Gu .globalImplicit) (J:x∈dg) (K:KC x=Gu v) (hd:(x==("__debug__":He))=Gz) (S:ao u d names e C) (L:noStar [e])
  (M:(∃o,v=.builtin o)\/∃T,v=.type T)
  (m:∀(w:Hk) (A:Hi) (c:Cx) (ρ:List (Option V)) (G:Gh) (σ:Sg) (s:GD) (x:V) (n:GB) (z:V) (σ':Sg) (Q:GB->GD->Prop) (E:GB->GD->Prop),aJ c->Gd u w c.base->Rm A d c.Fs->At c ρ G σ s->VRep G x n->aI u.T p [x] σ=Gu (z,σ')->
   (∀r t i,At c ρ i σ' t->G.Le i->VRep i z r->Q r t)->G3 (GR u.prog w) A (K8 v [n]) Q E s):
  ao u d names (.Call (.Name x H) [e] [] pos) (.op p [C]):=by
 intro w A c y D g F ρ G σ s Q X a h;refine Jp (mC g y D a I J K hd ?_);obtain⟨N,_⟩:=aL (env:=c.env) L;rw [N];refine KZ (P:=fun Z=>True) rfl (by rcases M with ⟨o,rfl⟩ |⟨T,rfl⟩;exact cH o;exact gc T) (J2 (JA (kI S y D g F a h fun x n j f k z b l O R e q=>KW ⟨trivial,?_⟩)))
 exact m w A c ρ j f k x n z b _ _ y g F l R e fun r t i U B W=>⟨i,b,z,U,O.trans B,W,q⟩
theorem rP {x:He} {O pos:HR} {e f:GZ} {J K:E} {v:GB} {p:mj} (R:names.lookup x=Gu .globalImplicit) (U:x∈dg) (W:KC x=Gu v) (hd:(x==("__debug__":He))=Gz) (S:ao u d names e J) (Y:ao u d names f K) (ns:noStar [e,f])
  (hf:(∃B,v=.builtin B)\/∃T,v=.type T)
  (m:∀(w:Hk) (A:Hi) (c:Cx) (ρ:List (Option V)) (G:Gh) (σ:Sg) (s:GD) (x y:V) (j l:GB) (z:V) (σ':Sg) (Q:GB->GD->Prop) (E:GB->GD->Prop),aJ c->Gd u w c.base->Rm A d c.Fs->At c ρ G σ s->VRep G x j->VRep G y l->aI u.T p [x,y] σ=Gu (z,σ')->
   (∀C D o,At c ρ o σ' D->G.Le o->VRep o z C->Q C D)->G3 (GR u.prog w) A (K8 v [j,l]) Q E s):
  ao u d names (.Call (.Name x O) [e,f] [] pos) (.op p [J,K]):=by
 intro w A c F L g M ρ G σ s Q X a h;refine Jp (mC g F L a R U W hd ?_);obtain⟨h1,H⟩:=aL (env:=c.env) ns;obtain⟨h2,_⟩:=aL (env:=c.env) H;rw [h1,h2];refine KZ (P:=fun Z=>True) rfl (by rcases hf with ⟨B,rfl⟩ |⟨T,rfl⟩;exact cH B;exact gc T) (J2 (JA ?_))
 refine G4 (tA S Y F L g M a h (P:=fun j l b=>G3 (GR u.prog w) A (K8 v [j,l]) (hB c ρ G Q) (a9 u c X) b) fun x y j l r n b z i t le rx ry e q=>?_) (fun j b k=>JA (G4 k (fun l N k=>KW ⟨trivial,k⟩) fun Z Z x=>x)) fun Z Z x=>x;exact m w A c ρ r n b x y j l z i _ _ F g M t rx ry e fun C D o a' I rz=>⟨o,i,z,a',le.trans I,rz,q⟩
theorem m7 {G:Gh} {kvs:List (Int×V)}:∀ {b:List (Int×GB)},DRep G kvs b->b.length=kvs.length:=by
 induction kvs with
 |nil=>
  intro _ h;subst h;rfl
 |cons f kvs e=>
  intro _ h;obtain⟨y,g,rfl,_,_,r⟩:=h;exact congrArg (· +1) (e r)
theorem DE {w:Hk} {A:Hi} {c:Cx} {ρ:List (Option V)} {G:Gh} {σ:Sg} {s:GD} {x:V} {q:GB} {z:V} {σ':Sg} {Q:GB->GD->Prop} {E:GB->GD->Prop} (a:At c ρ G σ s) (r:VRep G x q) (e:aI u.T .len [x] σ=Gu (z,σ'))
  (h:∀t v j,At c ρ j σ' v->G.Le j->VRep j z t->Q t v):G3 (GR u.prog w) A (K8 (.builtin "len") [q]) Q E s:=by
 rcases nq e with ⟨l,i,e⟩ |⟨m,y,e⟩
 ·obtain⟨B,e⟩:=ba e;cases e;obtain⟨b,o,n,rfl,p,k⟩:=gw a r i
  have f:Je _=_:=p.length
  rcases k with ⟨k,_⟩ |k
  ·exact PY (dX k) (by rw [f];lia) (h _ _ G (a.tok _) (.refl _) (by rw [f];exact bz _ _))
  ·exact PZ (aY k) (by rw [f];lia) (h _ _ G (a.tok _) (.refl _) (by rw [f];exact bz _ _))
 ·obtain⟨B,e⟩:=ba e;cases e;obtain⟨b,g,rfl,C,p,D⟩:=eO a r y u.prog w
  have i:g.length=m.length:=m7 p
  exact call_len_dict D C (by rw [i];lia) (h _ _ G (a.tok _) (.refl _) (by rw [i];exact bz _ _))
end
section
variable {u:U} {d:Nat} {names:List (He×G6)} {w:Hk} {A:Hi} {c:Cx} {ρ:List (Option V)} {G:Gh} {σ:Sg} {s:GD} {x y:V} {f g:GB} {z:V} {σ':Sg} {Q:GB->GD->Prop} {E:GB->GD->Prop}
theorem DL (a:At c ρ G σ s) (k:VRep G x f) (e:aI u.T .intOf [x] σ=Gu (z,σ')) (h:∀l m j,At c ρ j σ' m->G.Le j->VRep j z l->Q l m):G3 (GR u.prog w) A (K8 (.type "int") [f]) Q E s:=by
 cases x with
 |int i=>
  cases e;obtain⟨t,rfl⟩:=aE k;exact call_int_int (h _ _ G a (.refl _) (bz _ _))
 |bool b=>
  cases e;cases gP k;exact call_int_bool (h _ _ G (a.tok _) (.refl _) (bz _ _))
 |_=>cases e
theorem DM (a:At c ρ G σ s) (l:VRep G x f) (e:aI u.T .abs [x] σ=Gu (z,σ')) (h:∀j k b,At c ρ b σ' k->G.Le b->VRep b z j->Q j k):G3 (GR u.prog w) A (K8 (.builtin "abs") [f]) Q E s:=by
 obtain⟨i,rfl,e⟩:=cr e;cases e;obtain⟨t,rfl⟩:=aE l;refine P0 fun u m=>h _ _ G (a.tok _) (.refl _) ?_;rw [show(if i<0 then -i else i)=((i.natAbs:Nat):Int) by split<;>lia]
 exact bz _ _
theorem DS (a:At c ρ G σ s) (p:VRep G x f) (e:aI u.T .ord [x] σ=Gu (z,σ')) (h:∀n o j,At c ρ j σ' o->G.Le j->VRep j z n->Q n o):G3 (GR u.prog w) A (K8 (.builtin "ord") [f]) Q E s:=by
 cases x with
 |str k=>
  obtain⟨i,b,e⟩:=GY.mp e;cases e;obtain⟨t,rfl⟩:=fQ p;unfold lQ at b
  split at b
  ·cases b
   have l:(nm 31).length=1:=by decide+kernel
   have m:(nm 31).cps.getD 0 0=97:=by decide+kernel
   exact LI l (h _ _ G (a.tok _) (.refl _) (by rw [m];exact bz 97 _))
  ·cases b
   have l:(nm 32).length=1:=by decide+kernel
   have m:(nm 32).cps.getD 0 0=98:=by decide+kernel
   exact LI l (h _ _ G (a.tok _) (.refl _) (by rw [m];exact bz 98 _))
  ·cases b
 |_=>cases e
theorem Dw (p:A.handled=Gw) (q:aJ c) (a:At c ρ G σ s) (r:VRep G x f) (e:aI u.T .sum [x] σ=Gu (z,σ')) (h:∀k o b,At c ρ b σ' o->G.Le b->VRep b z k->Q k o):G3 (GR u.prog w) A (K8 (.builtin "sum") [f]) Q E s:=by
 obtain⟨i,rfl,e⟩:=dA e;obtain⟨t,rfl⟩:=aU r;obtain⟨l,v,e⟩:=bW e;obtain⟨L,j,e⟩:=GY.mp e;cases e;obtain⟨M,items,n,B,C⟩:=a.cell t v (by simp)
 obtain⟨m,F,N,D⟩:=a.fr q;refine LSm.sum_ints F N p (aY (items:=items.toList.toArray) B) (j0 C j) fun H I O J K=>?_;exact h _ _ G (D H I J K).1 (.refl _) (bz _ _)
theorem CE (n:A.handled=Gw) (o:aJ c) (a:At c ρ G σ s) (p:VRep G x f) (q:VRep G y g) (e:aI u.T .max [x,y] σ=Gu (z,σ')) (h:∀k l b,At c ρ b σ' l->G.Le b->VRep b z k->Q k l):G3 (GR u.prog w) A (K8 (.builtin "max") [f,g]) Q E s:=by
 obtain⟨i,rfl,e⟩:=cr e;obtain⟨j,rfl,e⟩:=cr e;cases e;obtain⟨t,rfl⟩:=aE p;obtain⟨H,rfl⟩:=aE q;obtain⟨m,F,N,r⟩:=a.fr o;exact max_two_N n F N fun v B C D=>h _ _ G (r v B C D).1 (.refl _) (bz _ _)
theorem CG (n:A.handled=Gw) (o:aJ c) (a:At c ρ G σ s) (p:VRep G x f) (q:VRep G y g) (e:aI u.T .min [x,y] σ=Gu (z,σ')) (h:∀k l b,At c ρ b σ' l->G.Le b->VRep b z k->Q k l):G3 (GR u.prog w) A (K8 (.builtin "min") [f,g]) Q E s:=by
 obtain⟨i,rfl,e⟩:=cr e;obtain⟨j,rfl,e⟩:=cr e;cases e;obtain⟨t,rfl⟩:=aE p;obtain⟨H,rfl⟩:=aE q;obtain⟨m,F,N,r⟩:=a.fr o;exact min_two_N n F N fun v B C D=>h _ _ G (r v B C D).1 (.refl _) (bz _ _)
theorem oR (a:At c ρ G σ s) {b:GW} {items:Array GB} {n:Nat} {l:List V} (k:s.heap.get? b=Gu (HP items n)) (m:VReps G l items.toList) (q:l.length<=1000000) (h:∀o p e,At c ρ e σ p->G.Le e->VRep e (.tup l) o->Q o p):
  G3 (GR u.prog w) A (K8 (.type "tuple") [.ref b]) Q E s:=by
 have i:Je _=_:=m.length
 refine call_tuple_list (aY k) (fun D v=>?_) (by rw [i];exact(l1 0x1b09492949f801b090909090909180) q)
 have j:=a.grow (t:=s.toks) v
 obtain⟨e,B,C,r⟩:=rB (t:=s.toks) j (items:=items) m;exact h _ _ e B C r
theorem rI (a:At c ρ G σ s) (p:VRep G x f) (e:aI u.T .tupleOf [x] σ=Gu (z,σ')) (h:∀q r k,At c ρ k σ' r->G.Le k->VRep k z q->Q q r):G3 (GR u.prog w) A (K8 (.type "tuple") [f]) Q E s:=by
 cases x with
 |ref i=>
  obtain⟨t,rfl⟩:=aU p;obtain⟨l,v,e⟩:=bW e;obtain⟨m,e⟩:=ba e;cases e;obtain⟨C,j,n,B,o⟩:=a.cell t v (by simp)
  exact oR a B o m h
 |lst l=>
  obtain⟨m,e⟩:=ba e;cases e;obtain⟨b,j,n,rfl,z,o⟩:=eD p;exact oR a (a.inv.froz _ _ z) o m h
 |_=>cases e
theorem vg (F:aJ c) (a:At c ρ G σ s) (r:VRep G x f) (H:VRep G y g) (e:aI u.T .app [x,y] σ=Gu (z,σ')):∃b items n,f=.ref b/\items.size<=J1/\s.heap.get? b=Gu (HP items n)/\z=.none/\At c ρ G σ' {s with heap:=s.heap.update b (Hv fun j=>j.push g)}:=by
 revert z σ';delta u c ρ G σ s x y f g;delta z σ';obtain⟨i,rfl,e⟩:=dA e;injections i;intro e r e;obtain⟨I,rfl⟩:=aU r;obtain⟨l,t,e⟩:=bW e;injections l;intro t e;obtain⟨J,e⟩:=ba e;cases e;obtain⟨v,items,n,B,C⟩:=a.cell I t (by simp)
 delta items n
 have k:Je _=_:=C.length
 have m:(s.heap.update (G.φ i) (Hv fun j=>j.push g)).get? (G.φ i)=Gu (HP (items.push g) (n+1)):=by
  have:=Ly (h:=s.heap) (l:=G.φ i) B (fun j=>j.push g)
  rw [if_neg (by simp)] at this;exact this
 have D:∀q,q≠G.φ i->(s.heap.update (G.φ i) (Hv fun j=>j.push g)).get? q=s.heap.get? q:=fun q p=>Ho _ _ (Hz p)
 refine⟨_,items,n,rfl,by rw [k];exact(l1 0x1b09492949f801b090909090909180) J.2,B,rfl,?_⟩
 refine a.mut F v (fun q o e p Z=>(D q p).trans e) ⟨_,m⟩ ?_ ⟨_,_,m,by rw [IF];exact C.append (.cons H .nil)⟩
 by_cases q:G.δ i=G.φ i
 ·rw [q];exact⟨_,m⟩
 ·obtain⟨o,K⟩:=(a.inv.live i v).2;exact⟨o,(D _ q).trans K⟩
theorem CV (K:aJ c) (a:At c ρ G σ s) (B:VRep G x f) (e:aI u.T .pop [x] σ=Gu (z,σ')):∃b items n y,f=.ref b/\items.size<=J1/\s.heap.get? b=Gu (HP items n)/\items[items.size - 1]? =Gu y/\VRep G z y/\At c ρ G σ' {s with heap:=s.heap.update b (Hv fun k=>k.eraseIdxIfInBounds (items.size - 1))}:=by
 delta u c ρ G σ s x f z σ';obtain⟨i,rfl,e⟩:=dA e;injections i;intro e B e;obtain⟨L,rfl⟩:=aU B;obtain⟨l,C,e⟩:=bW e;injections l;intro C e;obtain⟨M,e⟩:=ba e;obtain⟨y,m,e⟩:=GY.mp e;injections y;intro m e;rcases e with ⟨⟩
 obtain⟨D,items,n,F,p⟩:=a.cell L C (by simp)
 delta items n
 have j:Je _=_:=p.length
 have H:0<l.length:=by cases l with
  |nil=>simp at m
  |cons _ _=>simp
 have N:l[items.size - 1]? =Gu z:=by rw [j, <-List.getLast?_eq_getElem?];exact m
 obtain⟨g,I,O⟩:=p.get N;delta g;rw [I0] at I;obtain⟨r,t⟩:∃r,(s.heap.update (G.φ i) (Hv fun k=>k.eraseIdxIfInBounds (items.size - 1))).get? (G.φ i)=Gu (HP (items.eraseIdxIfInBounds (items.size - 1)) r):=⟨_,Ly (h:=s.heap) (l:=G.φ i) F (fun k=>k.eraseIdxIfInBounds (items.size - 1))⟩;delta r
 have J:∀q,q≠G.φ i->(s.heap.update (G.φ i) (Hv fun k=>k.eraseIdxIfInBounds (items.size - 1))).get? q=s.heap.get? q:=fun q v=>Ho _ _ (Hz v)
 refine⟨_,items,n,g,rfl,by rw [j];exact(l1 0x1b09492949f801b090909090909180) M.2,F,I,O,?_⟩
 refine a.mut K D (fun q o e v Z=>(J q v).trans e) ⟨_,t⟩ ?_ ⟨_,_,t,?_⟩
 by_cases q:G.δ i=G.φ i
 ·rw [q];exact⟨_,t⟩
 ·obtain⟨o,P⟩:=(a.inv.live i D).2;exact⟨o,(J _ q).trans P⟩
 ·have:(items.eraseIdxIfInBounds (items.size - 1)).toList=items.toList.take (l.length - 1):=by
   rw [Array.eraseIdxIfInBounds,dif_pos (by lia),Array.toList_eraseIdx,j,List.eraseIdx_eq_take_drop_succ,show items.toList.drop (l.length - 1+1)=[] from List.drop_eq_nil_of_le (by rw [Js];exact(l3 0x1d201b718121b71810) j (w5 _ _)),G1]
  rw [this,List.dropLast_eq_take];exact p.take _
theorem CQ (H:aJ c) (a:At c ρ G σ s) (t:VRep G x f) (e:aI u.T .rev [x] σ=Gu (z,σ')):∃b items n,f=.ref b/\items.size<=J1/\s.heap.get? b=Gu (HP items n)/\z=.none/\At c ρ G σ' {s with heap:=s.heap.update b (Hv fun j=>j.reverse)}:=by
 delta u c ρ G σ s x f z σ';obtain⟨i,rfl,e⟩:=dA e;injections i;intro e t e;obtain⟨I,rfl⟩:=aU t;obtain⟨l,v,e⟩:=bW e;injections l;intro v e;obtain⟨J,e⟩:=ba e;cases e;obtain⟨B,items,n,C,D⟩:=a.cell I v (by simp)
 delta items n
 have k:Je _=_:=D.length
 obtain⟨m,p⟩:∃m,(s.heap.update (G.φ i) (Hv fun j=>j.reverse)).get? (G.φ i)=Gu (HP items.reverse m):=⟨_,Ly (h:=s.heap) (l:=G.φ i) C (fun j=>j.reverse)⟩;delta m
 have F:∀q,q≠G.φ i->(s.heap.update (G.φ i) (Hv fun j=>j.reverse)).get? q=s.heap.get? q:=fun q r=>Ho _ _ (Hz r)
 refine⟨_,items,n,rfl,by rw [k];exact(l1 0x1b09492949f801b090909090909180) J.2,C,rfl,?_⟩
 refine a.mut H B (fun q o e r Z=>(F q r).trans e) ⟨_,p⟩ ?_ ⟨_,_,p,by rw [Jc];exact D.reverse⟩
 by_cases q:G.δ i=G.φ i
 ·rw [q];exact⟨_,p⟩
 ·obtain⟨o,K⟩:=(a.inv.live i B).2;exact⟨o,(F _ q).trans K⟩
end
section
variable {u:U} {d:Nat} {names:List (He×G6)} {w:Hk} {A:Hi} {c:Cx} {ρ:List (Option V)} {G:Gh} {σ:Sg} {s:GD}
theorem cC {b:GW} {items:Array GB} {n:Nat} (h:s.heap.get? b=Gu (HP items n)):s.TypeIs (.ref b) "list"/\∀a,Jk b=.ref a->∃f,s.heap.get? a=Gu f/\f.dict=Gw:=
 ⟨⟨_,h,rfl⟩,fun a e=>by cases e;exact⟨_,h,rfl⟩⟩
theorem yF {o:GZ} {r:E} {x:He} {f pos:HR} (C:ao u d names o r) (D:da o) (H:x="pop") (I:(f.endLine==pos.line)=Gx):ao u d names (.Call (.Attribute o x f) [] [] pos) (.op .pop [r]):=by
 subst H;intro w A c t J g K ρ G σ s Q X a h;refine Lj (D _ _ _) rfl I rfl (kI C t J g K a h fun x S v k B z l i L M e q=>?_);obtain⟨b,m,n,y,rfl,N,p,O,R,j⟩:=CV t i M e;refine⟨"list","list.pop",L6,F.slot_list_pop,rfl,(cC p).1,(cC p).2,P.pop_list (n:=n) p O (.le L (.of j R q)) N⟩
theorem zI {o:GZ} {r:E} {x:He} {f pos:HR} (B:ao u d names o r) (C:da o) (D:x="reverse") (H:(f.endLine==pos.line)=Gx):ao u d names (.Call (.Attribute o x f) [] [] pos) (.op .rev [r]):=by
 subst D;intro w A c t I g J ρ G σ s Q X a h;refine Lj (C _ _ _) rfl H rfl (kI B t I g J a h fun x N v k y z l i K L e q=>?_);obtain⟨b,m,n,rfl,M,p,rfl,j⟩:=CQ t i L e;refine⟨"list","list.reverse",L6,F.slot_list_reverse,rfl,(cC p).1,(cC p).2,P.reverse_list (n:=n) p (.le K (.of j i6 q)) M⟩
set_option tactic.hygienic true in
theorem tS (a:At c ρ G σ s) {x:V} {j:GB} (k:VRep G x j) (e:ja σ x=Gx):∃b items n,j=.ref b/\s.heap.get? b=Gu (HP items n):=by
 obtain⟨i,g,rfl,f⟩:=pW e;obtain⟨l,rfl⟩:=aU k;obtain⟨o,items,n,m,p⟩:=a.cell l f nofun
 exact⟨_,_,_,rfl,m⟩
set_option tactic.hygienic true in
theorem vX (a:At c ρ G σ s) {x:V} {j:GB} (n:VRep G x j) (e:k9 σ x=Gx):∃b,j=.ref b/\s.TypeIs (.ref b) "dict"/\(∀a,Jk b=.ref a->∃k,s.heap.get? a=Gu k/\k.dict=Gw):=by
 obtain⟨i,g,rfl,f⟩:=j9 e;obtain⟨p,rfl⟩:=aU n;obtain⟨q,l,⟨o,m,t,v,d,r⟩,y⟩:=a.cell p f nofun
 exact⟨_,rfl,⟨_,m,d.1⟩,fun a e=>by cases e;exact⟨_,m,d.2.1⟩⟩
set_option tactic.hygienic true in
theorem xQ {o e:GZ} {L M:E} {x:He} {j pos:HR} (W:ao u d names o L) (Y:ao u d names e M) (Z:noStar [e]) (D:da o) (hx:x="append") (hl:(j.endLine==pos.line)=Gx):ao u d names (.Call (.Attribute o x j) [e] [] pos) (.app L M):=by
 subst hx;intro w A c H N g O ρ G σ s Q X a h;refine wpAny_Call_method1_late (D _ _ _) hl (by rw [(aL Z).1];rfl) (az W H N g O a h fun v R S I x k p l hh=>?_)
 obtain⟨q,r⟩:=hh;obtain⟨b,f,n,rfl,T⟩:=tS k l q;refine⟨"list","list.append",L6,OB,rfl,(cC T).1,(cC T).2,P.append_list (az Y H N g O k r fun v U V J y t m B i=>?_)⟩
 split at i
 ·rename_i z K e;obtain⟨b',f,n,D,hs,g2,rfl,C⟩:=vg H t (l.mono m) B e;cases D;exact⟨f,n,hs,g2,.le (p.trans m) (.of C i6 i)⟩
 ·exact i.elim
set_option tactic.hygienic true in
theorem zb {o e f:GZ} {o' e' f':E} {x:He} {j pos:HR} (ho:ao u d names o o') (he:ao u d names e e') (hf:ao u d names f f') (ns:noStar [e,f]) (hb:da o) (hx:x="get") (hl:(j.endLine==pos.line)=Gx):ao u d names (.Call (.Attribute o x j) [e,f] [] pos) (.getD o' e' f'):=by
 revert o e f o' e' f' x j pos;delta u d names;delta o e f o' e' f' x j pos;subst hx;intro w A c ok hn g rm ρ G σ s Q X a h;revert ρ G σ s Q X;delta w A c;delta ρ G σ s Q X;refine wpAny_Call_method2_late (hb _ _ _) hl (by rw [(aL ns).1,(aL (aL (env:=c.env) ns).2).1];rfl) (az ho ok hn g rm a h fun v R B K x n S l hh=>?_)
 obtain⟨C,T⟩:=hh;delta v R B K x;obtain⟨b,rfl,t1,t2⟩:=vX n l C;delta b;obtain⟨i,q,rfl,L⟩:=j9 C;delta i q;obtain⟨hi,hv⟩:=aU l;cases hv
 have hs:((B.φ i) ==KO)=Gz:=by
  obtain⟨b',_,M,_,_,hs⟩:=eO n (x:=.ref i) l (h9 L) u.prog w;cases M;exact hs
 refine⟨"dict","dict.get",OO,F.slot_dict_get,rfl,t1,t2,wpAny_dict_get2 (knd:=Jm u.prog w) hs (az he ok hn g rm n T fun vk U V N y W D H I=>?_)⟩;delta vk U V N y;refine az hf ok hn g rm W I fun vd Y Z O z J p c' m=>?_;delta vd Y Z O z
 split at m
 ·rename_i r P e;injections r P;intro e m;obtain⟨k,rfl,e⟩:=cr e;injections k;intro e H I e;obtain⟨kvs,hc,e⟩:=jO e;injections kvs;intro hc e;cases e;obtain⟨t,rfl⟩:=aE (H.mono p);delta t;obtain⟨b',d',M,hd,rr,_⟩:=eO J (x:=.ref i) (l.mono (D.trans p)) (kvs:=kvs) (h9 hc) u.prog w;delta b' d';cases M;refine⟨k,_,show H4 k (.int k t)=Gx by simp [H4],hd.mapOf,.le (S.trans (D.trans p)) (.of (J.tok _) ?_ m)⟩
  have:=hU k rr
  split at this
  ·rename_i hz;rw [hz,this];exact c'
  ·rename_i vz hz;obtain⟨x,hx,rx⟩:=this;rw [hz,hx];exact rx
 ·exact m.elim
end
section
variable {u:U} {d:Nat} {names:List (He×G6)} {w:Hk} {A:Hi} {c:Cx} {ρ:List (Option V)} {G:Gh} {σ:Sg} {s:GD}
inductive oB (c:Cx) (ρ:List (Option V)) (G:Gh) (Q:Bool->Sg->Prop) (t:Bool) (s':GD):Prop where
 |mk (G':Gh) (σ':Sg) (a:At c ρ G' σ' s') (l:G.Le G') (q:Q t σ')
theorem oB.of {Q:Bool->Sg->Prop} {t:Bool} (a:At c ρ G σ s) (q:Q t σ):oB c ρ G Q t s:=⟨G,σ,a,.refl _,q⟩
theorem oB.le {Q:Bool->Sg->Prop} {t:Bool} {f:Gh} {g:GD} (l:G.Le f) (h:oB c ρ f Q t g):oB c ρ G Q t g:=by
 obtain⟨e,b,a,i,q⟩:=h;exact⟨e,b,a,l.trans i,q⟩
def dU (u:U) (d:Nat) (names:List (He×G6)) (e:GZ) (b:E):Prop:=
 ∀(w:Hk) (A:Hi) (c:Cx),aJ c->c.env.scope.names=names->Gd u w c.base->Rm A d c.Fs->∀(ρ:List (Option V)) (G:Gh) (σ:Sg) (s:GD) (Q:Bool->Sg->Prop) (X:Sg->Prop),At c ρ G σ s->wpB u.T (ae u d) ρ b Q X σ->
  G3 (GR u.prog w) A (OY e c.env (J6 e c.env)) (oB c ρ G Q) (a9 u c X) s
noncomputable abbrev eo (e:GZ):Prop:=(∀env whole,OY e env whole=(do let v<-whole;Na e.pos;KD [v] (N0 v)))\/∃l op r pos,e=.Compare l [op] [r] pos
theorem qd {env:J5} (l op r pos b):OY (.Compare l [op] [r] pos) env b=(do let c<-J6 (.Compare l [op] [r] pos) env;KD [c] (N0 c)):=by
 rw [isTrue_Compare1,eval_Compare1];simp only [bind_assoc]
set_option tactic.hygienic true in
theorem rG {e:GZ} {p:E} (S:ao u d names e p) (hp:eo e) (y:aJ c) (z:c.env.scope.names=names) (g:Gd u w c.base) (B:Rm A d c.Fs) {Q:Bool->Sg->Prop} {X:Sg->Prop} (a:At c ρ G σ s)
  (h:wpE u.T (ae u d) ρ p (fun v σ'=>match b7 σ' v with|some t=>Q t σ'|none=>False) X σ):
  G3 (GR u.prog w) A (OY e c.env (J6 e c.env)) (oB c ρ G Q) (a9 u c X) s:=by
 have j:G3 (GR u.prog w) A (J6 e c.env) (fun v b=>G3 (GR u.prog w) A (N0 v) (oB c ρ G Q) (a9 u c X) b) (a9 u c X) s:=
  az S y z g B a h fun v b q o x i m n f=>by
   split at f
   ·rename_i t C;exact gu i n C fun F=>.le m (.of (i.tok _) f)
   ·exact f.elim
 rcases hp with hp|⟨l,H,r,D,rfl⟩
 ·exact wpAny_isTrue_value j (hp _ _)
 ·rw [qd];exact Gy (G4 j (fun v b k=>Hd k) fun Z Z x=>x)
theorem xv {e:GZ} {b:E} (S:ao u d names e b) (hp:eo e) (f:∀T C ρ Q X σ,wpB T C ρ b Q X σ=wpE T C ρ b (fun v σ'=>match b7 σ' v with|some t=>Q t σ'|none=>False) X σ):dU u d names e b:=by
 intro w A c i j g k ρ G σ s Q X a h;rw [f] at h;exact rG S hp i j g k a h
theorem dm {e:GZ} {i:E} (S:dU u d names e i) (j:aJ c) (m:c.env.scope.names=names) (g:Gd u w c.base) (n:Rm A d c.Fs) {P:Bool->GD->Prop} {Q:Bool->Sg->Prop} {X:Sg->Prop} (a:At c ρ G σ s)
  (h:wpB u.T (ae u d) ρ i Q X σ) (k:∀t b f σ',At c ρ f σ' b->G.Le f->Q t σ'->P t b):G3 (GR u.prog w) A (OY e c.env (J6 e c.env)) P (a9 u c X) s:=
 G4 (S w A c j m g n ρ G σ s Q X a h) (fun v b o=>by obtain⟨f,σ',p,l,q⟩:=o;exact k v b f σ' p l q) fun Z Z x=>x
theorem wX {x:GZ} {rest:List GZ} {pos:HR} {m n:E} (r:dU u d names x m) (y:dU u d names (.BoolOp .And rest pos) n):dU u d names (.BoolOp .And (x::rest) pos) (.and m n):=by
 intro w A c o p g q ρ G σ s Q X a h;refine isTrue_and (dm r o p g q a h fun t j l i b e f=>?_)
 cases t with
 |true=>exact G4 (y w A c o p g q ρ l i j Q X b f) (fun v z k=>k.le e) fun Z Z x=>x
 |false=>exact .le e (.of b f)
theorem yL {x:GZ} {rest:List GZ} {pos:HR} {m n:E} (r:dU u d names x m) (y:dU u d names (.BoolOp .Or rest pos) n):dU u d names (.BoolOp .Or (x::rest) pos) (.or m n):=by
 intro w A c o p g q ρ G σ s Q X a h;refine isTrue_or (dm r o p g q a h fun t j l i b e f=>?_)
 cases t with
 |false=>exact G4 (y w A c o p g q ρ l i j Q X b f) (fun v z k=>k.le e) fun Z Z x=>x
 |true=>exact .le e (.of b f)
theorem su {x:GZ} {pos:HR} {j:E} (m:dU u d names x j):dU u d names (.BoolOp .And [x] pos) j:=by
 intro w A c n o g p ρ G σ s Q X a h;refine isTrue_and (dm m n o g p a h fun t k l i b e f=>?_)
 cases t with
 |true=>exact isTrue_and_nil (.le e (.of b f))
 |false=>exact .le e (.of b f)
theorem uy {x:GZ} {pos:HR} {j:E} (m:dU u d names x j):dU u d names (.BoolOp .Or [x] pos) j:=by
 intro w A c n o g p ρ G σ s Q X a h;refine isTrue_or (dm m n o g p a h fun t k l i b e f=>?_)
 cases t with
 |false=>exact isTrue_or_nil (.le e (.of b f))
 |true=>exact .le e (.of b f)
theorem pJ {x y z:GZ} {pos:HR} {O P R:E} (hx:ao u d names x O) (hy:ao u d names y P) (hz:ao u d names z R) (ns:hY z):dU u d names (.Compare x [.LtE,.Lt] [y,z] pos) (.chain O P R):=by
 revert x y z pos O P R;delta u d names;delta x y z pos O P R;intro w A c S T g U ρ G σ s Q X a h;revert ρ G σ s Q X;delta w A c;delta ρ G σ s Q X;refine isTrue_chain (az hx S T g U a h fun C f D r i F l H I=>?_) (ns _);delta C f D r i
 show G3 (GR u.prog w) A (do
  let m<-KD [C] (J6 y c.env)
  Na pos
  let B<-KD [C,m] (MG .LtE C m)
  release [C,m] [B]
  if<-KD [B,m] (N0 B) then testChain pos m [.Lt] [J6 z c.env] else HH Gz) _ _ f
 refine Gy (Hd (az hy S T g U F I fun vy n J v j o p K b=>?_));delta vy n J v j;refine Gy (HT (Gy (Hd ?_)))
 cases i with
 |int i=>
  cases j with
  |int j=>
   obtain⟨t,rfl⟩:=aE H;obtain⟨V,rfl⟩:=aE K;refine le_int (Gy (wpAny_release' (Gy (Hd (Mm ?_)))));simp only at b
   by_cases e:i<=j
   ·rw [if_pos e] at b;rw [decide_eq_true e]
    show G3 (GR u.prog w) A (do
     let m<-KD [N1 j V] (J6 z c.env)
     Na pos
     let B<-operate [N1 j V,m] (MG .Lt (N1 j V) m)
     KD [B] (N0 B)) _ _ n
    refine Gy (Hd (az hz S T g U o b fun vz Y Z W k L M N q=>?_))
    cases k with
    |int k=>
     obtain⟨b',rfl⟩:=aE N;refine Gy (HT (Gy (wpAny_operating (lt_int (Hd (Mm ?_))))));exact .le (l.trans (p.trans M)) (.of L q)
    |_=>exact q.elim
   ·rw [if_neg e] at b;rw [decide_eq_false e];exact GV (.le (l.trans p) (.of o b))
  |_=>exact b.elim
 |_=>cases j<;>exact b.elim
theorem xg {t b o:GZ} {pos:HR} {B p q:E} (C:ao u d names t B) (hp:eo t) (D:ao u d names b p) (F:ao u d names o q):ao u d names (.IfExp t b o pos) (.ite B p q):=by
 intro w A c r y g z ρ G σ s Q X a h;refine wpAny_IfExp (G4 (rG C hp r y g z a (Q:=fun t n=>match t with|true=>wpE u.T (ae u d) ρ p Q X n|false=>wpE u.T (ae u d) ρ q Q X n) h) (fun t f H=>?_) fun Z Z x=>x)
 obtain⟨i,e,j,l,m⟩:=H
 cases t with
 |true=>exact G4 (D w A c r y g z ρ i e f Q X j m) (fun v I k=>k.le l) fun Z Z x=>x
 |false=>exact G4 (F w A c r y g z ρ i e f Q X j m) (fun v I k=>k.le l) fun Z Z x=>x
theorem xW {x y:GZ} {pos:HR} {p q:E} (C:ao u d names x p) (D:ao u d names y q):ao u d names (.BoolOp .And [x,y] pos) (.and p q):=by
 intro w A c r t g z ρ G σ s Q X a h;refine wpAny_And2 (az C r t g z a h fun v B n m i b l j f=>?_)
 split at f<;>rename_i e
 ·exact gu b j e fun o=>G4 (D w A c r t g z ρ n m _ Q X (b.tok o) f) (fun v F k=>k.le l) fun Z Z x=>x
 ·exact gu b j e fun o=>.le l (.of (b.tok o) j f)
 ·exact f.elim
theorem B0 {x y:GZ} {pos:HR} {p q:E} (C:ao u d names x p) (D:ao u d names y q):ao u d names (.BoolOp .Or [x,y] pos) (.or p q):=by
 intro w A c r t g z ρ G σ s Q X a h;refine wpAny_Or2 (az C r t g z a h fun v B n m i b l j f=>?_)
 split at f<;>rename_i e
 ·exact gu b j e fun o=>.le l (.of (b.tok o) j f)
 ·exact gu b j e fun o=>G4 (D w A c r t g z ρ n m _ Q X (b.tok o) f) (fun v F k=>k.le l) fun Z Z x=>x
 ·exact f.elim
theorem uz {i:Int} {k:Nat} {p pos:HR}:ao u d names (.UnaryOp .USub (.Constant (.int i) k p) pos) (.const (.int (-i))):=by
 intro w A c b e g f ρ G σ s Q X a h;exact wpAny_UnaryOp (KQ (P1 (.of ((a.tok _).tok _) (bz _ _) h)))
end
section
variable {u:U} {d:Nat} {names:List (He×G6)} {w:Hk} {A:Hi} {c:Cx} {ρ:List (Option V)} {G:Gh} {σ:Sg} {s:GD}
theorem nv:iO {cls:=.type "dict",data:=.dict #[]} []:=⟨#[],0,⟨rfl,rfl,rfl⟩,rfl,fun e b=>(by simp at b),rfl,OP⟩
theorem dy {G:Gh} {a d:GW}:(G.add a d).φ G.N=a/\(G.add a d).δ G.N=d:=⟨if_pos rfl,if_pos rfl⟩
theorem i9 {a d:GW} (x:At c ρ G σ s):VRep (G.add a d) (.ref σ.n) (.ref a):=by
 refine⟨by rw [<-x.inv.N];exact GA _,?_⟩
 rw [<-x.inv.N,dy.1]
theorem oj (a:At c ρ G σ s) {t:M1}:∃b,At c ρ b (σ.alloc (.dict [])) {s with heap:=s.heap.push {cls:=.type "dict",data:=.dict #[]},toks:=t}/\G.Le b/\VRep b (.ref σ.n) (.ref s.heap.objs.size):=by
 have f:(s.heap.push {cls:=.type "dict",data:=.dict #[]}).get? s.heap.objs.size=Gu {cls:=.type "dict",data:=.dict #[]}:=Hu _ rfl
 refine⟨G.add s.heap.objs.size s.heap.objs.size,a.track (fun Z Z e=>GU _ e) (aN _) (aN _) ⟨_,f⟩ ⟨_,f⟩ ?_ (by simp),Gh.add_le _ _ _,i9 a⟩
 exact⟨[],⟨_,by rw [dy.1];exact f,nv⟩,rfl⟩
theorem vA {pos:HR}:ao u d names (.Dict [] [] pos) (.op .dct0 []):=by
 intro w A c i j g k ρ G σ s Q X a h;obtain⟨b,e,f,r⟩:=oj (t:=s.toks) a;exact wpAny_Dict_empty ⟨b,_,_,e,f,r,h⟩
theorem t7 {k v:GZ} {O P:E} {pos:HR} (hk:ao u d names k O) (hv:ao u d names v P):ao u d names (.Dict [Gu k] [v] pos) (.dct1 O P):=by
 revert k v O P pos;delta u d names;delta k v O P pos;intro w A c T W g Y ρ G σ s Q X a h;revert ρ G σ s Q X;delta w A c;delta ρ G σ s Q X;obtain⟨D,F,le,r⟩:=oj (t:=s.toks) a;delta D;refine wpAny_Dict_pairs (knd:=Jm u.prog w) (pairs:=[(J6 k c.env,do let x<-J6 v c.env;Na pos;HH x)]) rfl (by simp) (by simp) (evalPairs_cons (az hk T W g Y F h fun vk H I B x J n K L=>?_))
 delta vk H I B x;refine Gy (az hv T W g Y J L fun R p f C y l z M m=>?_);delta R p f C y;refine Gy (HT (GV (evalPairs_nil ?_)));obtain⟨i,rfl,hc,m⟩:=m;delta i;obtain⟨t,rfl⟩:=aE K;delta t
 have r':=r.mono (n.trans z)
 obtain⟨hi,hD⟩:=aU r';obtain⟨al,N,⟨o,g1,dd⟩,rr⟩:=l.cell hi hc (by simp)
 revert o;delta N;delta o
 have j:f.φ σ.n=s.heap.objs.size:=by injection hD.symm
 subst rr;refine⟨[(i,R)],⟨by show H4 i (.int i t)=Gx;simp [H4],rfl,trivial⟩,bv.mpr ⟨o,j▸g1,dd⟩,fun h' hd sb=>?_⟩
 delta h';obtain⟨S,U,V⟩:=bv.mp hd;delta S;refine⟨f,_,_,l.mut (h':=h') (t:=p.toks+1) T al (fun b o e n1 Z=>(sb.2 b (by rw [<-j];exact n1)).trans e) ⟨S,j▸U⟩ ?_ (cl:=.dict [(i,y)]) ?_,le.trans (n.trans z),hD▸r',m⟩
 ·by_cases q:f.δ σ.n=f.φ σ.n
  ·rw [q,j];exact⟨S,U⟩
  ·obtain⟨o,ho⟩:=(l.inv.live _ al).2;exact⟨o,(sb.2 _ (by rw [<-j];exact q)).trans ho⟩
 ·exact⟨[(i,R)],⟨S,j▸U,V⟩,⟨(i,R),[],rfl,rfl,M,rfl⟩⟩
def gb (u:U):Prop:=∀(w:Hk) (A:Hi) (s:GD) (D:GW) (b:List GB) (g:List Int) (n:Nat) (P:GB->GD->Prop) (E:GB->GD->Prop),s.heap.get? D=Gu (HP b.toArray n)->KV b g->64<=b.length->b.length<=200->
 (∀e f,KV e.toList f->f.Perm g->P .none {s with heap:=No s.heap D b e})->G3 (GR u.prog w) A (K8 (.builtin "list.sort") [.ref D]) P E s
theorem kH (l:gb u) {D:GW} {vs:List GB} {f:List Int} {n:Nat} {P:GB->GD->Prop} {E:GB->GD->Prop} (g:s.heap.get? D=Gu (HP vs.toArray n)) (k:KV vs f) (m:vs.length<=200)
  (h:∀out b,KV out.toList b->b.Perm f->(vs.length<64->b.Pairwise (· <= ·))->P .none {s with heap:=No s.heap D vs out}):G3 (GR u.prog w) A (K8 (.builtin "list.sort") [.ref D]) P E s:=by
 by_cases e:vs.length<64
 ·exact Lh Np ⟨_,g,rfl⟩ M3 (list_sort_tree (n:=n) g k e fun out b i j o=>⟨.none,rfl,h out b i j fun Z=>o⟩) (Nq _)
 ·exact l w A s D vs f n P E g k ((l1 8735929148639560) e) m fun out b i j=>h out b i j fun q=>absurd q e
theorem lp {a b:List Int} (hp:a.Perm b) (e:a.Pairwise (· <= ·)):a=iD b:=by
 refine ksm_same (hp.trans (List.mergeSort_perm b _).symm) e ?_
 have:=List.pairwise_mergeSort (le:=fun a b:Int=>GL (a<=b)) (fun a b c f g=>by simp only [decide_eq_true_eq] at *;lia) (fun a b=>by simp only [Il,decide_eq_true_eq];lia) b
 exact this.imp fun h=>of_decide_eq_true h
theorem mM {σ:Sg} {c b:Cell}:(σ.alloc c).set σ.n b=σ.alloc b:=by
 unfold Sg.alloc Sg.set
 congr 1
 funext x
 by_cases q:x=σ.n<;>simp [q]
theorem rX {D:GW} {f:JE} {b:List (GW×JE)} {h':HY} (a:At c ρ G σ s) (g:b=jS c.base s.heap c.env.locals) (i:News c.base c.env.locals h' ((D,f)::b)) (j:∀q∈b,q.1<D):s.heap.get? D=Gw:=by
 cases e:s.heap.get? D with
 |none=>rfl
 |some o=>
  have:=(i _ (.head _)).2
  have k:=ki e this.1 this.2
  exact absurd (j _ (g▸k)) (HD _)
theorem mH {T:String} {r dd:GW} {n:Nat} {P:Nat->GB->Prop} {V:HY->Prop} (K:KdlSrc u.prog w T r dd n P V) (so:gb u) (hh:A.handled=Gw) (W:aJ c) (a:At c ρ G σ s) (i:V s.heap) (J:n<=200) (ks:List Int) (l:ks.length=n)
  (X:∀j v,P j v->∃k t,ks[j]? =Gu k/\v=.int k t) {Q:GB->GD->Prop} {E:GB->GD->Prop}
  (h:∀L Y s' M,L.Perm ks->(n<64->L=iD ks)->At c ρ M (σ.alloc (.list (L.map .int))) s'->G.Le M->VRep M (.ref σ.n) Y->Q Y s'):G3 (GR u.prog w) A (K8 (.builtin "sorted") [.ref r]) Q E s:=by
 obtain⟨m,F,N,O⟩:=a.fr W;refine kdu_sorted K hh F N i (by exact(l1 0x1b89c801b090909090909180) J) fun D h' tk g F' H l1 I hv=>?_
 have hI:KV g ks:=by
  clear H O h i K
  induction g generalizing n ks P with
  |nil=>cases ks with
   |nil=>exact .nil
   |cons _ _=>simp at l I;lia
  |cons v g ih=>
   obtain⟨k,t,R,rfl⟩:=X 0 v (hv 0 v rfl)
   cases ks with
   |nil=>simp at R
   |cons O ks=>
    simp at R;subst R;exact .cons _ _ (ih (n:=n - 1) (P:=fun j v=>P (j+1) v) ((l2 0x1b89c811b101b89c80) J (HU _ _)) ks (by simp at l;lia) (fun j v S=>by simpa using X (j+1) v S) (by simp at I;lia) fun j v S=>hv (j+1) v (by simpa using S))
 have y:=(O h' tk F' fun p hp=>H p (.tail _ hp)).1
 have hD:=rX a rfl H l1
 have z:h'.get? D=Gu (HP g.toArray 0):=(H _ (.head _)).1
 have B:=a.adopt y (a:=D) (d:=D) (cl:=.list (ks.map .int)) hD hD ⟨_,z⟩ ⟨_,z⟩ ⟨g.toArray,0,by rw [dy.1];exact z,by simpa using jI hI⟩ (by simp)
 refine kH so z hI ((l2 0x1d101b89c811b89c80) I J) fun out C h1 h2 h3=>?_
 have al:aT (σ.alloc (.list (ks.map .int))) G.N:=⟨by rw [a.inv.N];exact GA _,by rw [a.inv.N,Sg.alloc_cell,if_pos rfl];simp⟩
 obtain⟨e,U⟩:=sortedHeap_at (out:=out) z
 have f:=B.mut W al (cl:=.list (C.map .int)) (h':=No h' D g out) (t:=tk) (fun b o e n1 Z=>by
  rw [dy.1] at n1;exact(sortedHeap_old n1 (HB e)).trans e) (by rw [dy.1];exact⟨_,U⟩) (by rw [dy.2];exact⟨_,U⟩) ⟨out,e,by rw [dy.1];exact U,jI h1⟩
 rw [a.inv.N,mM] at f;exact h C _ _ _ h2 (fun q=>lp h2 (h3 ((l2 0x1d101c094811c09480) I q))) f (Gh.add_le _ _ _) (i9 a)
end
section
variable {u:U} {d:Nat} {names:List (He×G6)} {w:Hk} {A:Hi} {c:Cx} {ρ:List (Option V)} {G:Gh} {σ:Sg} {s:GD}
theorem cJ {x:He} {i pos:HR} {e:GZ} {v:GB} (j:names.lookup x=Gu .globalImplicit) (l:x∈dg) (m:KC x=Gu v) (hd:(x==("__debug__":He))=Gz) (n:noStar [e])
  (o:(∃f,v=.builtin f)\/∃T,v=.type T) (p:aJ c) (q:c.env.scope.names=names) (g:Gd u w c.base) (a:At c ρ G σ s) {Q:GB->GD->Prop} {X:GB->GD->Prop}
  (h:G3 (GR u.prog w) A (J6 e c.env) (fun y b=>G3 (GR u.prog w) A (K8 v [y]) Q X b) X s):
  G3 (GR u.prog w) A (J6 (.Call (.Name x i) [e] [] pos) c.env) Q X s:=by
 refine Jp (mC g p q a j l m hd ?_);obtain⟨r,_⟩:=aL (env:=c.env) n;rw [r];exact KZ (P:=fun Z=>True) rfl (by rcases o with ⟨f,rfl⟩ |⟨T,rfl⟩;exact cH f;exact gc T) (J2 (JA (G4 h (fun y b k=>KW ⟨trivial,k⟩) fun Z Z x=>x)))
theorem kN {D:GW} {v:GB} {n:Nat} {P:Fin->GD->Prop} {E:GB->GD->Prop} (g:s.heap.get? D=Gu (I8 "list" #[v] n))
  (h:P (.done (.ret .none)) {s with heap:=No s.heap D [v] #[v]}):G3 (GR u.prog w) A (Builtin.«list.sort» ⟨[.ref D],[]⟩) P E s:=by
 rw [P4]
 have j:D<s.heap.objs.size:=HB g
 refine Gy (listItems_at g rfl ?_);refine Gy (LW g rfl ?_);obtain⟨i,b⟩:∃i,(s.heap.update D (Hv fun Z=> #[])).get? D=Gu (I8 "list" #[] i):=⟨_,P5 g (fun Z=> #[])⟩;refine Gy (MW b rfl ?_);refine Gy (wpAny_newTuple ?_);refine Gy (NG ?_);refine Hd ?_
 have f:(((s.heap.update D (Hv fun Z=> #[])).push (I8 "tuple" [v].toArray 0)).push (I8 "list" #[] 0)).get? D=Gu (I8 "list" #[] i):=by
  rw [KG _ _ _ (by rw [OZ,JV];exact G9 (GF j)),KG _ _ _ (by rw [JV];exact G9 j)]
  exact b
 show G3 (GR u.prog w) A _ P E {s with heap:=((s.heap.update D (Hv fun Z=> #[])).push (I8 "tuple" [v].toArray 0)).push (I8 "list" #[] 0)}
 dsimp only;rw [if_pos (show(#[v]:Array GB).size<2 by simp),if_pos (show(#[v]:Array GB).size<2 by simp)]
 refine Gy (GV ?_);rw [StateT.run_pure];refine Gy (GV ?_);dsimp only;refine Gy (MW f rfl ?_)
 have e:((#[v]:Array GB).zip #[v]).map (·.2)= #[v]:=by simp
 refine Gy (LW f rfl ?_ (hsz2:=by show(((#[v]:Array GB).zip #[v]).map (·.2)).size<=_;rw [e];simp [J1]))
 simp only [bne_self_eq_false,HC,if_false];refine GV ?_
 show P _ {s with heap:=(((s.heap.update D (Hv fun Z=> #[])).push (I8 "tuple" [v].toArray 0)).push (I8 "list" #[] 0)).update D (Hv fun Z=>((#[v]:Array GB).zip #[v]).map (·.2))}
 rw [e];exact h
theorem qc {l:GW} {v:GB} {Q:GB->GD->Prop} {E:GB->GD->Prop} (f:s.heap.IsList l #[v])
  (h:Q (.ref (s.heap.objs.size+1)) {s with heap:=sortedAll s.heap [v] #[v]}):G3 (GR u.prog w) A (K8 (.builtin "sorted") [.ref l]) Q E s:=by
 refine Calls.call_function_entry kind_sorted plain_sorted entry_sorted (args_sorted1 _) ?_;refine Gy (m:=checkCount "sorted" 1 1 _) (GV ?_);refine Gy (collect_list (vs:=[v]) f ?_);refine Gy (NG ?_)
 have b:((s.heap.push (I8 "list" #[] 0)).update s.heap.objs.size (Hv (· ++[v].toArray))).objs.size=s.heap.objs.size+1:=by
  rw [JV,OZ]
 have e:(((s.heap.push (I8 "list" #[] 0)).update s.heap.objs.size (Hv (· ++[v].toArray))).push (I8 "list" [v].toArray 0)).get? (s.heap.objs.size+1)=Gu (I8 "list" [v].toArray 0):=by
  rw [<-b];exact Hu _ rfl
 show G3 _ _ _ _ _ {s with heap:=((s.heap.push (I8 "list" #[] 0)).update s.heap.objs.size (Hv (· ++[v].toArray))).push (I8 "list" [v].toArray 0)}
 rw [b];refine Gy (Hd (Lh Np ⟨_,e,rfl⟩ M3 (kN e ⟨_,rfl,?_⟩) (Nq _)));exact GV ⟨_,rfl,h⟩
theorem mE (a:At c ρ G σ s) {i:Nat} {kvs:List (Int×V)} (hi:i<G.N) (j:σ.cell i=.dict kvs):∃f ep,s.heap.DictAt (Jm u.prog w) (G.φ i) f ep/\((G.φ i) ==KO)=Gz/\f.map (·.1)=kvs.map (·.1):=by
 obtain⟨b,f,m,k,l,n⟩:=eO a (x:=.ref i) (v:=.ref (G.φ i)) (AX hi) (kvs:=kvs) (h9 j) u.prog w;cases m;obtain⟨ep,g⟩:=k.dictAt;refine⟨f,ep,g,n,?_⟩;clear j k g
 induction kvs generalizing f with
 |nil=>subst l;rfl
 |cons q kvs o=>obtain⟨y,p,rfl,e,_,r⟩:=l;simp [o p r,e]
theorem jj {kvs:List (Int×GB)} {ks:List Int} (h:kvs.map (·.1)=ks):∀(j:Nat) (v:GB),(∃k x,kvs[j]? =Gu (k,x)/\(Jm u.prog w).is k v=Gx)->∃k t,ks[j]? =Gu k/\v=.int k t:=by
 rintro j v ⟨k,x,e,b⟩
 refine⟨k,?_⟩
 have:H4 k v=Gx:=b
 cases v<;>simp [H4] at this
 subst this;exact⟨_,by rw [<-h,Hg,e];rfl,rfl⟩
set_option tactic.hygienic true in
theorem pU {x:He} {np pos:HR} {e:GZ} {O:E} (so:gb u) (hk:names.lookup x=Gu .globalImplicit) (hx:x="sorted") (S:ao u d names e O) (ns:noStar [e]):ao u d names (.Call (.Name x np) [e] [] pos) (.op .sorted [O]):=by
 subst hx;intro w A c H P g R ρ G σ s Q X a h;refine cJ hk (by decide) (by decide+kernel) (by decide+kernel) ns (.inl ⟨"sorted",rfl⟩) H P g a (kI S H P g R a h fun x vx k p b z r f T rx e q=>?_)
 obtain⟨i,rfl,e⟩:=dA e;obtain⟨U,rfl⟩:=aU rx
 replace e:eH i p=Gu (z,r):=e
 unfold eH at e
 split at e
 ·rename_i l I
  split at e<;>cases e
  rename_i v;obtain⟨al,j,n,g1,J⟩:=f.cell U I (by simp)
  obtain⟨F,V,B,rv,J⟩:=(show∃y W,j.toList=y::W/\VRep k v y/\VReps k [] W by exact J)
  subst J
  have B:j= #[F]:=by rw [<-Array.toArray_toList (xs:=j),B]
  subst B;refine qc (aY g1) ?_;obtain⟨e,K⟩:=sortedAll_at b.heap [F] #[F]
  have C:b.heap.get? (b.heap.objs.size+1)=Gw:=by
   cases e:b.heap.get? (b.heap.objs.size+1) with
   |none=>rfl
   |some o=>exact absurd (HB e) (HQ.mpr (Hn _))
  refine⟨_,_,_,f.track (t:=b.toks) (cl:=.list [v]) (a:=b.heap.objs.size+1) (d:=b.heap.objs.size+1) (fun Z Z=>sortedAll_old) C C ⟨_,K⟩ ⟨_,K⟩ ⟨#[F],e,by rw [dy.1];exact K,.cons (rv.mono (Gh.add_le _ _ _)) .nil⟩ (by simp),T.trans (Gh.add_le _ _ _),i9 f,q⟩
 ·rename_i kvs I;obtain⟨C,e⟩:=ba e
  ·cases e;obtain⟨m,ep,hd,L,D⟩:=mE (u:=u) (w:=w) f U I
   have M:m.length=kvs.length:=by simpa using congrArg Jh D
   refine mH (kdl_dict (knd:=Jm u.prog w) (kvs:=m) (ep:=ep) L) so R.handled H f hd ((l2 0x1c094801d011b89c81) C M) (kvs.map (·.1)) (by rw [GJ,M]) (jj D) fun l' vz s' G' hp L Y N r'=>?_
   rw [L ((l2 0x1c094801d011c09481) C M)] at Y;exact⟨G',_,_,Y,T.trans N,r',q⟩
 ·cases e
theorem jz {x:He} {R pos J m:HR} {k:He} {e:GZ} {K:E} (T:gb u) (U:names.lookup x=Gu .globalImplicit) (V:x="sorted") (S:ao u d names e K) (W:da e) (f:k="keys") (r:(J.endLine==m.line)=Gx):ao u d names (.Call (.Name x R) [.Call (.Attribute e k J) [] [] m] [] pos) (.op .sortedKeys [K]):=by
 subst V;subst f;intro w A c B L g M ρ G σ s Q X a h;refine cJ U (by decide) (by decide+kernel) (by decide+kernel) ⟨fun Z Z=>rfl,trivial⟩ (.inl ⟨"sorted",rfl⟩) B L g a (Lj (W _ _ _) rfl r rfl (kI S B L g M a h fun x vx t C v z D l Y rx e q=>?_))
 obtain⟨i,rfl,e⟩:=dA e;obtain⟨hi,rfl⟩:=aU rx;obtain⟨kvs,hc,e⟩:=jO e;obtain⟨N,e⟩:=ba e;cases e;obtain⟨b,ep,O,H,f⟩:=mE (u:=u) (w:=w) l hi hc
 have r:b.length=kvs.length:=by simpa using congrArg Jh f
 have j:=O.dictOf
 obtain⟨o,ho,dd⟩:=bv.mp j
 have xd:o.ExactDict:=by
  cases dd with
  |mk es ep x d k p n=>exact x
 refine⟨"dict","dict.keys",OO,O0,rfl,j.typeIs,fun a e=>by cases e;exact⟨_,ho,xd.2.1⟩,?_⟩
 refine callWith_method0 (env:=c.env) (pos:=m) (call_meetsIn O0 j.typeIs F.entry_dict_keys (F.args_dict_keys_1 _) (kdl_meets_keys (Jm u.prog w) _ H) ⟨⟨b,j⟩,?_⟩)
 have y:=l.push {cls:=.type "dict_keys",data:=.fields #[.ref (t.φ i)]} v.toks
 refine mH (kdl_keys (knd:=Jm u.prog w) (kvs:=b) (ep:=ep)) T M.handled B y ⟨⟨_,Hu _ rfl,rfl,rfl⟩,O.push _⟩ ((l2 0x1c094801d011b89c81) N r) (kvs.map (·.1)) (by rw [GJ,r]) (jj f) fun l' vz s' G' hp H P I r'=>?_
 rw [H ((l2 0x1c094801d011c09481) N r)] at P;exact⟨G',_,_,P,Y.trans I,r',q⟩
set_option tactic.hygienic true in
theorem nO {x y:He} {P pos R m:HR} {e:GZ} {H:E} (T:gb u) (U:names.lookup x=Gu .globalImplicit) (n:names.lookup y=Gu .globalImplicit) (V:x="sorted") (W:y="tuple") (S:ao u d names e H) (Y:noStar [e]):ao u d names (.Call (.Name y P) [.Call (.Name x R) [e] [] m] [] pos) (.tsorted H):=by
 subst V;subst W;intro w A c l o g I ρ G σ s Q X a h;refine cJ n (by decide) (by decide+kernel) (by decide+kernel) ⟨fun Z Z=>rfl,trivial⟩ (.inr ⟨"tuple",rfl⟩) l o g a ?_
 refine cJ U (by decide) (by decide+kernel) (by decide+kernel) Y (.inl ⟨"sorted",rfl⟩) l o g a (az S l o g I a h fun v J K p x b le rx q=>?_)
 obtain⟨i,kvs,rfl,hc,L,q⟩:=q;obtain⟨hi,rfl⟩:=aU rx;obtain⟨f,ep,hd,M,j⟩:=mE (u:=u) (w:=w) b hi hc
 have N:f.length=kvs.length:=by simpa using congrArg Jh j
 refine mH (kdl_dict (knd:=Jm u.prog w) (kvs:=f) (ep:=ep) M) T I.handled l b hd ((l2 0x1d101b89c811b89c80) N L) (kvs.map (·.1)) (by rw [GJ,N]) (jj j) fun r vz s' G' O M a' t r'=>?_
 have B:r.length<=200:=by rw [O.length_eq,GJ];exact L
 refine rI (u:=u) (w:=w) (A:=A) (z:=.tup (r.map .int)) a' r' ?_ fun vz b' C D k F=>⟨C,_,_,D,le.trans (t.trans k),F,q r O⟩
 show bU _ _ _=_
 unfold bU;simp only [Sg.alloc_cell,if_true,GJ];rw [if_pos (by exact(l1 0x1b89c801b09492949f80) B)]
end
section
variable {u:U} {d:Nat} {names:List (He×G6)}
theorem w8 {x:He} {f pos:HR} {e:GZ} {b:E} (i:names.lookup x=Gu .globalImplicit) (j:x="len") (S:ao u d names e b) (k:noStar [e]):ao u d names (.Call (.Name x f) [e] [] pos) (.op .len [b]):=by
 subst j;exact fJ i (by decide) (by decide+kernel) (by decide+kernel) S k (.inl ⟨"len",rfl⟩) fun w A c n G o s x p z l Q E q g r a m e h=>DE a m e h
theorem nG {x:He} {f pos:HR} {e:GZ} {b:E} (i:names.lookup x=Gu .globalImplicit) (j:x="tuple") (S:ao u d names e b) (k:noStar [e]):ao u d names (.Call (.Name x f) [e] [] pos) (.op .tupleOf [b]):=by
 subst j;exact fJ i (by decide) (by decide+kernel) (by decide+kernel) S k (.inr ⟨"tuple",rfl⟩) fun w A c n G o s x p z l Q E q g r a m e h=>rI a m e h
theorem tu {x:He} {f pos:HR} {e:GZ} {b:E} (i:names.lookup x=Gu .globalImplicit) (j:x="int") (S:ao u d names e b) (k:noStar [e]):ao u d names (.Call (.Name x f) [e] [] pos) (.op .intOf [b]):=by
 subst j;exact fJ i (by decide) (by decide+kernel) (by decide+kernel) S k (.inr ⟨"int",rfl⟩) fun w A c n G o s x p z l Q E q g r a m e h=>DL a m e h
theorem yX {x:He} {f pos:HR} {e:GZ} {b:E} (i:names.lookup x=Gu .globalImplicit) (j:x="abs") (S:ao u d names e b) (k:noStar [e]):ao u d names (.Call (.Name x f) [e] [] pos) (.op .abs [b]):=by
 subst j;exact fJ i (by decide) (by decide+kernel) (by decide+kernel) S k (.inl ⟨"abs",rfl⟩) fun w A c n G o s x p z l Q E q g r a m e h=>DM a m e h
theorem yH {x:He} {f pos:HR} {e:GZ} {b:E} (i:names.lookup x=Gu .globalImplicit) (j:x="sum") (S:ao u d names e b) (k:noStar [e]):ao u d names (.Call (.Name x f) [e] [] pos) (.op .sum [b]):=by
 subst j;exact fJ i (by decide) (by decide+kernel) (by decide+kernel) S k (.inl ⟨"sum",rfl⟩) fun w A c p G q s x r z l Q E m g n a o e h=>Dw n.handled m a o e h
theorem zD {x:He} {f pos:HR} {e:GZ} {b:E} (i:names.lookup x=Gu .globalImplicit) (j:x="ord") (S:ao u d names e b) (k:noStar [e]):ao u d names (.Call (.Name x f) [e] [] pos) (.op .ord [b]):=by
 subst j;exact fJ i (by decide) (by decide+kernel) (by decide+kernel) S k (.inl ⟨"ord",rfl⟩) fun w A c n G o s x p z l Q E q g r a m e h=>DS a m e h
theorem xC {x:He} {j pos:HR} {e f:GZ} {b i:E} (k:names.lookup x=Gu .globalImplicit) (l:x="max") (S:ao u d names e b) (m:ao u d names f i) (n:noStar [e,f]):ao u d names (.Call (.Name x j) [e,f] [] pos) (.op .max [b,i]):=by
 subst l;exact rP k (by decide) (by decide+kernel) (by decide+kernel) S m n (.inl ⟨"max",rfl⟩) fun w A c v G B s x y C D z o Q E p g q a r t e h=>CE q.handled p a r t e h
theorem yu {x:He} {j pos:HR} {e f:GZ} {b i:E} (k:names.lookup x=Gu .globalImplicit) (l:x="min") (S:ao u d names e b) (m:ao u d names f i) (n:noStar [e,f]):ao u d names (.Call (.Name x j) [e,f] [] pos) (.op .min [b,i]):=by
 subst l;exact rP k (by decide) (by decide+kernel) (by decide+kernel) S m n (.inl ⟨"min",rfl⟩) fun w A c v G B s x y C D z o Q E p g q a r t e h=>CG q.handled p a r t e h
end
section
variable {u:U} {d:Nat} {names:List (He×G6)} {w:Hk} {A:Hi} {c:Cx} {ρ:List (Option V)} {G y:Gh} {σ σ₀:Sg} {s:GD} {base h p h':HY} {Fs:List J5} {B ps ps':List GW}
noncomputable def eG (Fs:List J5):List GW:=Fs.filterMap (·.frame)
theorem gB (i:ff base Fs (ps++B) G σ h) (v:gj Fs y σ₀ p G σ h) (N:∀b∈ps,p.get? b=Gw)
  (O:∀env∈Fs,∀L,env.frame=Gu L->L∈B)
  (k:∀b o,h.get? b=Gu o->b∉ps->b∉eG Fs->h'.get? b=Gu o) (I:∀b∈eG Fs,∀o,h.get? b=Gu o->∃t,h'.get? b=Gu {o with slots:=t})
  (F:∀b∈ps',(∃o,h'.get? b=Gu o)/\(b∈ps\/h.get? b=Gw)) (J:∀b∈ps,∃o,h'.get? b=Gu o):
  ff base Fs (ps'++B) G σ h'/\gj Fs y σ₀ p G σ h'/\∀b∈ps',p.get? b=Gw:=by
 have z:∀b∈eG Fs,b∈B:=fun b g=>by
  obtain⟨env,C,D⟩:=HI.mp g;exact O env C b D
 have K:∀b,b∉ps++B->∀o,h.get? b=Gu o->h'.get? b=Gu o:=fun b g o e=>
  k b o e (fun q=>g (GH.mpr (.inl q))) (fun q=>g (GH.mpr (.inr (z b q))))
 have P:∀j,aT σ j->∀b,(b=G.φ j\/b=G.δ j)->∀o,h.get? b=Gu o->h'.get? b=Gu o:=fun j l b g o e=>K b (i.fresh j l b g).2.2 o e
 have H:∀b,(∃o,h.get? b=Gu o)->∃o,h'.get? b=Gu o:=fun b ⟨o,e⟩=>by
  by_cases q:b∈ps
  ·exact J b q
  ·by_cases Q:b∈eG Fs
   ·obtain⟨t,m⟩:=I b Q o e;exact⟨_,m⟩
   ·exact⟨o,k b o e q Q⟩
 have n:∀j,aT σ j->∀b,(b=G.φ j\/b=G.δ j)->∀q,h.get? q=Gw->b≠q:=fun j l b g q R e=>by
  obtain⟨⟨o,S⟩,⟨E,T⟩⟩:=i.live j l;rcases g with rfl|rfl
  ·rw [e,R] at S;cases S
  ·rw [e,R] at T;cases T
 refine⟨⟨i.N,fun b o e=>K b (fun q=>?_) o (i.stays b o e),dh i.frames fun env C L D o e=>?_,fun j l=>(i.cells j l).keeps (P j l _ (.inl rfl)) (P j l _ (.inr rfl)),fun j l=>⟨H _ (i.live j l).1,H _ (i.live j l).2⟩,
   fun j l b g=>⟨(i.fresh j l b g).1,(i.fresh j l b g).2.1,fun q=>?_⟩,i.inj,fun b o e=>K b (fun q=>?_) o (i.froz b o e),fun b g=>?_,fun env C L D=>GH.mpr (.inr (O env C L D)),i.sys⟩,
  ⟨v.le,fun b o e f=>?_,fun b g=>H b (v.there b g),v.newφ,v.newZ,v.dead⟩,fun b g=>?_⟩
 ·rw [(i.pv b q).2.1] at e;cases e
 ·obtain⟨t,m⟩:=I L (HI.mpr ⟨env,C,D⟩) o e;exact⟨_,m,rfl⟩
 ·rcases GH.mp q with q|q
  ·rcases(F b q).2 with q|q
   ·exact(i.fresh j l b g).2.2 (GH.mpr (.inl q))
   ·exact n j l b g b q rfl
  ·exact(i.fresh j l b g).2.2 (GH.mpr (.inr q))
 ·rw [(i.pv b q).2.2] at e;cases e
 ·rcases GH.mp g with q|q
  ·refine⟨(F b q).1,?_⟩;rcases(F b q).2 with q|q
   ·exact(i.pv b (GH.mpr (.inl q))).2
   ·constructor
    ·cases e:base.get? b with
     |none=>rfl
     |some o=>have:=i.stays b o e;rw [q] at this;cases this
    ·cases e:G.Z b with
     |none=>rfl
     |some o=>have:=i.froz b o e;rw [q] at this;cases this
  ·have:=i.pv b (GH.mpr (.inr q))
   exact⟨H b this.1,this.2⟩
 ·have U:b∉ps:=fun q=>by rw [N b q] at e;cases e
  obtain⟨E,m,r⟩:=v.keep b o e f
  by_cases q:b∈eG Fs
  ·obtain⟨t,M⟩:=I b q E m;refine⟨_,M,.inr ⟨q,?_⟩⟩;rcases r with rfl|⟨_,V,rfl⟩
   ·exact⟨t,rfl⟩
   ·exact⟨t,rfl⟩
  ·exact⟨E,k b E m U q,r⟩
 ·rcases(F b g).2 with q|q
  ·exact N b q
  ·cases e:p.get? b with
   |none=>rfl
   |some o=>obtain⟨E,m⟩:=v.there b ⟨o,e⟩;rw [q] at m;cases m
theorem oK {env e:J5} {r:List J5} {L:GW} {Q:GB->GD->Prop} {E:GB->GD->Prop} (g:A.frames=Gu (e::r)) (k:s.heap.FunFrames base (e::r)) (j:e.frame=Gu L)
  (l:env.frame=Gu L) (h:∀h',Heap.SlotsOnly (eG (e::r)) s.heap h'->Q (.ref L) {s with heap:=h'}):G3 (GR u.prog w) A (OQ env) Q E s:=by
 refine Gy (wpAny_frameEnvs g ?_)
 have i:((e::r).dropWhile fun x=>x.frame != env.frame)=e::r:=by simp [List.dropWhile,j,l]
 rw [i];refine Gy (Gy (wpAny_readyFrames_fun k fun f b=>GV ?_));rw [j];exact GV (h f b)
inductive Ad (u:U) (L:GW) (e:GB) (ps:List GW) (h:HY):Prop where
 |mk (a:GW) (oe:JE) (vs:Array GB) (t:GW) (ot:JE) (ts:Array GB) (he:e=.ref a) (ha:h.get? a=Gu oe) (hc:oe.cls=.ref u.te) (hd:oe.data=.fields vs) (hp:ps=[a,t]) (n:t≠a) (h1:vs[1]? =Gu (.ref t)) (ht:h.get? t=Gu ot) (htd:ot.data=.fields ts) (h3:ts[3]? =Gu (H9 L))
theorem gH {env e:J5} {r:List J5} {L a:GW} {F:JE} {vs:Array GB} {i:GB} {g:Bool} {Q:Unit->GD->Prop} {E:GB->GD->Prop}
  (M:A.frames=Gu (e::r)) (T:s.heap.FunFrames base (e::r)) (V:e.frame=Gu L) (W:env.frame=Gu L)
  (U:s.heap.get? a=Gu F) (X:F.cls=.ref u.te) (hd:F.data=.fields vs) (H:1<vs.size)
  (h:∀h' t,(∀b o,s.heap.get? b=Gu o->b≠a->b∉eG (e::r)->h'.get? b=Gu o)->(∀b∈eG (e::r),∀o,s.heap.get? b=Gu o->∃N,h'.get? b=Gu {o with slots:=N})->
   s.heap.get? t=Gw->Ad u L (.ref a) [a,t] h'->Q () {s with heap:=h'}):
  G3 (GR u.prog w) A (do let Y<-OQ env;let n<-entryPlaceOf L g;let b<-EntryCells.newEntry i Y .none (H9 L) .none n;setField (.ref a) 1 b) Q E s:=by
 revert env e r L a F vs i g Q E;delta u w A s base;revert E;delta env e r L a F vs i g Q;delta E
 have v:a∉eG (e::r):=fun Z=>by
  obtain⟨_,o,ho,O⟩:=T.mem Z;rw [U] at ho;injection ho with ho;subst ho;exact O vs hd
 refine Gy (oK M T V W fun f j=>?_);delta f;refine Gy (wpAny_entryPlaceOf fun n I=>?_);delta n;refine Gy (KY ?_ (I.sizeOk5 _ _ _ _ _))
 have k:f.get? a=Gu F:=(j.2.1 a v).trans U
 have l:=GU (h:=f) {cls:=.type "traceback",dict:=Gw,data:=.fields ([i,.ref L,.none,H9 L,.none]++(if n.isEmpty then IP 6 Jd else n)).toArray} k
 refine Lz l hd H ?_
 have J:f.objs.size≠a:=HK (HB k)
 have m:=JF hd (·.setIfInBounds 1 (Jk f.objs.size))
 have C:=H7 (Iv (·.setIfInBounds 1 (Jk f.objs.size))) l (JW m)
 have D:=(Ho (f.push {cls:=.type "traceback",dict:=Gw,data:=.fields ([i,.ref L,.none,H9 L,.none]++(if n.isEmpty then IP 6 Jd else n)).toArray})
  (Iv (·.setIfInBounds 1 (Jk f.objs.size))) (Hz J)).trans (Hu f rfl)
 have z:∀b o,b≠a->f.get? b=Gu o->
   ((f.push {cls:=.type "traceback",dict:=Gw,data:=.fields ([i,.ref L,.none,H9 L,.none]++(if n.isEmpty then IP 6 Jd else n)).toArray}).update a (Iv (·.setIfInBounds 1 (Jk f.objs.size)))).get? b=Gu o:=fun b o P K=>by
  rw [Ho _ _ (Hz P)];exact GU _ K
 refine h _ f.objs.size (fun b o K R S=>z b o R ((j.2.1 b S).trans K)) (fun b K o ho=>?_) ?_ ?_
 ·obtain⟨N,e'⟩:=j.2.2 b o ho;exact⟨N,z b _ (fun q=>v (q▸K)) e'⟩
 ·rw [j.1];exact aN _
 ·refine⟨a,_,_,_,_,_,rfl,C,?_,m,rfl,J,?_,D,rfl,?_⟩
  ·rw [Obj.cls_mapFields];exact X
  ·simp [H]
  ·rcases I with rfl|⟨_,_,_,_,_,_,_,rfl⟩<;>simp
inductive ji (u:U) (c:Cx) (X:Sg->Prop) (e:GB) (s':GD):Prop where
 |mk (G':Gh) (σ':Sg) (ps:List GW) (L:GW) (f:c.env.frame=Gu L) (i:ff c.base c.Fs (ps++c.Pv) G' σ' s'.heap) (a:gj c.Fs c.G₀ c.σ₀ c.s₀.heap G' σ' s'.heap) (g:s'.gens=c.s₀.gens) (o:s'.os=c.s₀.os)
 (x:Ad u L e ps s'.heap) (n:∀b∈ps,c.s₀.heap.get? b=Gw) (m:∃m,s'.heap.Ns c.env.locals m) (q:X σ')
theorem gR {h h':HY} {L:GW} {m:He->Option GB} {Fs:List J5} {ps:List GW} (x:h.Ns L m) (hp:∀b∈ps,∃o vs,h.get? b=Gu o/\o.data=.fields vs)
  (k:∀b o,h.get? b=Gu o->b∉ps->b∉eG Fs->h'.get? b=Gu o) (t:∀b∈eG Fs,∀o,h.get? b=Gu o->∃j,h'.get? b=Gu {o with slots:=j}):h'.Ns L m:=by
 obtain⟨o,l,n,e,i,r⟩:=x
 have v:L∉ps:=fun q=>by
  obtain⟨z,vs,g,f⟩:=hp L q;rw [e] at g;cases g;rw [i] at f;cases f
 by_cases q:L∈eG Fs
 ·obtain⟨j,g⟩:=t L q o e;exact⟨_,l,n,g,i,r⟩
 ·exact⟨o,l,n,k L o e v q,i,r⟩
theorem jL (ok:aJ c) (fr:A.frames=Gu c.Fs) {X:Sg->Prop} {e:GB} {Q:Unit->GD->Prop} {E:GB->GD->Prop} (h:a9 u c X e s) (k:∀s',ji u c X e s'->Q () s'):G3 (GR u.prog w) A (noteFrame e c.env) Q E s:=by
 revert X e Q E;delta u w A c s;delta X e Q E;obtain⟨G',n,ps,P,av,hg,ho,⟨a,oe,S,rfl,v,m,C,hc⟩,nw,⟨T,F⟩,hX⟩:=h;revert a oe S T;delta G' n ps;revert T;delta a oe S;delta T;obtain⟨e0,r,L,g,hL,j⟩:=ok.frame;delta e0 r L
 have fl:s.heap.FunFrames c.base (e0::r):=g▸P.frames
 unfold noteFrame;simp only [j]
 have U:1<S.size:=by
  rcases hc with ⟨_,H⟩ |⟨_,_,_,_,_,_,H,_⟩<;>exact(Ix.mp H).1
 have l:a∉eG c.Fs:=fun hm=>by
  obtain⟨_,o,ho,l⟩:=P.frames.mem hm;rw [v] at ho;injection ho with ho;subst ho;exact l S C
 rcases hc with ⟨rfl,H⟩ |⟨t,ot,ts,x,rfl,I,H,J,i,h3,hx⟩
 ·refine Gy (JT v C H ?_);rw [if_neg (by decide)]
  refine gH (base:=c.base) (g▸fr) fl hL j v m C U fun h' t R V W N=>k _ ?_;delta h' t
  obtain⟨Y,gt⟩:(∃o,h'.get? a=Gu o)/\∃o,h'.get? t=Gu o:=by
   obtain⟨Z,d',e',D,f',g',e1,e2,e3,e4,e5,e6,e7,e8,e9,j'⟩:=N;cases e1;simp only [Lw,and_true,true_and] at e5;subst e5;exact⟨⟨_,e2⟩,⟨_,e8⟩⟩
  have K:h'.Ns c.env.locals T:=gR (Fs:=c.Fs) (ps:=[a]) F (fun b hb=>by
    rcases GK.mp hb with rfl|hb
    ·exact⟨_,_,v,C⟩
    ·cases hb) (fun b o e q M=>R b o e (fun z=>q (by rw [z];exact .head _)) (g▸M)) (g▸V)
  obtain⟨i',Z,n'⟩:=gB (ps':=[a,t]) P av nw ok.fpv (fun b o e q M=>R b o e (fun z=>q (by rw [z];exact .head _)) (g▸M)) (g▸V)
   (fun b hb=>by
    rcases GK.mp hb with rfl|hb
    ·exact⟨Y,.inl (.head _)⟩
    ·rcases GK.mp hb with rfl|hb
     ·exact⟨gt,.inr W⟩
     ·cases hb) (fun b hb=>by
    rcases GK.mp hb with rfl|hb
    ·exact Y
    ·cases hb)
  exact⟨G',n,_,L,j,i',Z,hg,ho,N,n',⟨_,K⟩,hX⟩
 ·delta t ot ts x
  have O:t∉eG c.Fs:=fun hm=>by
   obtain⟨_,o,ho,l⟩:=P.frames.mem hm;rw [J] at ho;injection ho with ho;subst ho;exact l ts i
  refine Gy (JT v C H ?_);rw [if_pos (show(Jk t != Jd)=Gx from by simp)]
  refine Gy (JT J i h3 ?_)
  by_cases b':x=H9 L
  ·subst b';rw [if_pos (show(H9 L==H9 L)=Gx from by simp)]
   exact GV (k s ⟨G',n,_,L,j,P,av,hg,ho,⟨a,oe,S,t,ot,ts,rfl,v,m,C,rfl,I,H,J,i,h3⟩,nw,⟨_,F⟩,hX⟩)
  ·rw [if_neg (show¬(x==H9 L)=Gx from by simpa using b')]
   refine Gy (Lz J i (Ix.mp h3).1 ?_)
   have f:∀b,b≠t->(s.heap.update t (Iv (·.setIfInBounds 3 Jd))).get? b=s.heap.get? b:=fun b hb=>Ho _ _ (Hz hb)
   refine gH (s:={s with heap:=s.heap.update t (Iv (·.setIfInBounds 3 Jd))}) (base:=c.base) (g▸fr)
    (fl.of_keeps fun b o hb l=>⟨o,(f b fun q=>by rw [q,J] at hb;injection hb with hb;subst hb;exact l ts i).trans hb,rfl⟩) hL j ((f a (Hz I)).trans v) m C U fun h' D R V W N=>k _ ?_
   delta h' D
   obtain⟨Y,gt⟩:(∃o,h'.get? a=Gu o)/\∃o,h'.get? D=Gu o:=by
    obtain⟨Z,d',e',D,f',g',e1,e2,e3,e4,e5,e6,e7,e8,e9,j'⟩:=N;cases e1;simp only [Lw,and_true,true_and] at e5;subst e5;exact⟨⟨_,e2⟩,⟨_,e8⟩⟩
   have c':=H7 (Iv (·.setIfInBounds 3 Jd)) J (JW (JF i _))
   have k':s.heap.get? D=Gw:=by
    by_cases q:D=t
    ·subst q;rw [c'] at W;cases W
    ·rw [<-f D q];exact W
   have gT:∃o,h'.get? t=Gu o:=⟨_,R t _ c' I (g▸O)⟩
   have K:h'.Ns c.env.locals T:=gR (Fs:=c.Fs) (ps:=[a,t]) F (fun b hb=>by
    rcases GK.mp hb with rfl|hb
    ·exact⟨_,_,v,C⟩
    ·rcases GK.mp hb with rfl|hb
     ·exact⟨_,_,J,i⟩
     ·cases hb) (fun b o e q M=>R b o ((f b fun z=>q (by rw [z];exact .tail _ (.head _))).trans e) (fun z=>q (by rw [z];exact .head _)) (g▸M))
    (fun b hb o e=>V b (g▸hb) o ((f b fun z=>O (z▸hb)).trans e))
   obtain⟨i',Z,n'⟩:=gB (ps':=[a,D]) P av nw ok.fpv (fun b o e q M=>R b o ((f b fun z=>q (by rw [z];exact .tail _ (.head _))).trans e) (fun z=>q (by rw [z];exact .head _)) (g▸M))
    (fun b hb o e=>V b (g▸hb) o ((f b fun z=>O (z▸hb)).trans e))
    (fun b hb=>by
     rcases GK.mp hb with rfl|hb
     ·exact⟨Y,.inl (.head _)⟩
     ·rcases GK.mp hb with rfl|hb
      ·exact⟨gt,.inr k'⟩
      ·cases hb) (fun b hb=>by
     rcases GK.mp hb with rfl|hb
     ·exact Y
     ·rcases GK.mp hb with rfl|hb
      ·exact gT
      ·cases hb)
   exact⟨G',n,_,L,j,i',Z,hg,ho,N,n',⟨_,K⟩,hX⟩
theorem qB {L:Option GW} {x:GB} (f:Option GW) (e:x=f.elim .none (fun f=>H9 f)) (b:f=Gw\/f=L):x=.none\/∃l,L=Gu l/\x=H9 l:=by
 cases f with
 |none=>exact .inl e
 |some l=>
  rcases b with b|b
  ·cases b
  ·exact .inr ⟨l,b.symm,e⟩
theorem gY (W:aJ c) {X:Sg->Prop} {e:GB} {f:Option GW} {Q:Unit->GD->Prop} {E:GB->GD->Prop} (h:ji u c X e s)
  (k:∀l r σ' ps,ff c.base c.Fs (ps++c.Pv) r σ' l.heap->gj c.Fs c.G₀ c.σ₀ c.s₀.heap r σ' l.heap->l.gens=c.s₀.gens->l.os=c.s₀.os->(∀L,(f=Gw\/f=L)->nk u L e ps l.heap)->(∀b∈ps,c.s₀.heap.get? b=Gw)->(∃m,l.heap.Ns c.env.locals m)->X σ'->Q () l):
  G3 (GR u.prog w) A (setFlight e f) Q E s:=by
 revert X e f Q E;delta u w A c s;delta X e f Q E;obtain⟨r,σ',ps,L,Y,S,Z,hg,ho,⟨a,K,M,t,T,N,rfl,H,v,O,rfl,n,U,I,j,h3⟩,nw,⟨J,P⟩,hX⟩:=h;revert a K M t T N J;delta r σ' L;revert J;delta a K M t T N;delta J;refine Gy (JT H O U ?_);rw [if_pos (show(Jk t != Jd)=Gx from by simp)]
 have C:=(Ix.mp h3).1
 refine Lz I j C ?_
 have g:∀b,b≠t->(s.heap.update t (Iv (·.setIfInBounds 3 (f.elim .none fun f=>H9 f)))).get? b=s.heap.get? b:=fun b i=>Ho _ _ (Hz i)
 have D:=H7 (Iv (·.setIfInBounds 3 (f.elim .none fun f=>H9 f))) I (JW (JF j _))
 have F:t∉eG c.Fs:=fun hm=>by
  obtain⟨_,o,ho,R⟩:=S.frames.mem hm;rw [I] at ho;injection ho with ho;subst ho;exact R N j
 have V:∀b∈[a,t],∃o,(s.heap.update t (Iv (·.setIfInBounds 3 (f.elim .none fun f=>H9 f)))).get? b=Gu o:=fun b i=>by
  rcases GK.mp i with rfl|i
  ·exact⟨_,(g _ (Hz n)).trans H⟩
  ·rcases GK.mp i with rfl|i
   ·exact⟨_,D⟩
   ·cases i
 obtain⟨i',a',n'⟩:=gB (ps':=[a,t]) (h':=s.heap.update t (Iv (·.setIfInBounds 3 (f.elim .none fun f=>H9 f)))) S Z nw W.fpv (fun b o e q q'=>(g b fun z=>q (by rw [z];exact .tail _ (.head _))).trans e)
  (fun b i o e=>⟨o.slots,(g b fun z=>F (z▸i)).trans e⟩) (fun b i=>⟨V b i,.inl i⟩) V
 exact k _ r σ' _ i' a' hg ho (fun L hL=>⟨a,K,M,rfl,(g _ (Hz n)).trans H,v,O,.inr ⟨t,_,_,_,rfl,n,U,D,JF j _,by simp [C],qB f rfl hL⟩⟩) n' ⟨J,gR (Fs:=c.Fs) (ps:=[a,t]) P (fun b i=>by
    rcases GK.mp i with rfl|i
    ·exact⟨_,_,H,O⟩
    ·rcases GK.mp i with rfl|i
     ·exact⟨_,_,I,j⟩
     ·cases i) (fun b o e q q'=>(g b fun z=>q (by rw [z];exact .tail _ (.head _))).trans e) (fun b i o e=>⟨o.slots,(g b fun z=>F (z▸i)).trans e⟩)⟩ hX
theorem ub (k:aJ c) (m:A.frames=Gu c.Fs) {n:Hi} {X:Sg->Prop} {e:GB} (h:a9 u c X e s):Nb (GR u.prog w) A c.env (cameBackBy (GR u.prog w) n c.env (a9 u c X)) e s:=by
 refine jL k m h fun K N=>?_;obtain⟨M,o,ps,L,q,O,P,Q,R,⟨a,S,T,t,U,V,rfl,r,l,v,rfl,z,C,W,D,Y⟩,Z,_,hX⟩:=id N;refine Gy (JT r v C ?_);rw [if_neg (by simp)]
 exact gY k N fun E f b ps' F H g i x I J j=>⟨f,b,ps',F,H,g,i,x _ (.inr rfl),I,J,j⟩
theorem yG (l:aJ c) (o:A.frames=Gu c.Fs) {X:Sg->Prop} {e:GB} {Q:Unit->GD->Prop} {E:GB->GD->Prop} (h:a9 u c X e s)
  (k:∀f m σ' ps,ff c.base c.Fs (ps++c.Pv) m σ' f.heap->gj c.Fs c.G₀ c.σ₀ c.s₀.heap m σ' f.heap->f.gens=c.s₀.gens->f.os=c.s₀.os->nk u Gw e ps f.heap->(∀b∈ps,c.s₀.heap.get? b=Gw)->X σ'->Q () f):
  G3 (GR u.prog w) A (leaving c.env e) Q E s:=by
 refine Gy (jL l o h fun f N=>gY l N fun q r n ps' t v g i x z Z j=>k _ _ _ _ t v g i (x _ (.inl rfl)) z j)
end
noncomputable def Bv (G:Gh):Fl->Nf->Prop
 |.next,f=>f=.next
 |.cont,f=>f=.cont
 |.ret v,f=>∃b,f=.ret b/\VRep G v b
inductive eA (c:Cx) (G:Gh) (Q:cU) (f:Nf) (s':GD):Prop where
 |mk (G':Gh) (σ':Sg) (ρ':List (Option V)) (fl:Fl) (a:At c ρ' G' σ' s') (l:G.Le G') (r:Bv G' fl f) (q:Q fl ρ' σ')
def bB (u:U) (d:Nat) (names:List (He×G6)) (st:IB) (b:S):Prop:=
 ∀(w:Hk) (A:Hi) (c:Cx),aJ c->c.env.scope.names=names->Gd u w c.base->Rm A d c.Fs->c.comp=Gz->∀(e:List (Option V)) (G:Gh) (f:Sg) (s:GD) (Q:cU) (X:Sg->Prop),At c e G f s->wpS u.T (ae u d) b e Q X f->
  G3 (GR u.prog w) A (exec st c.env) (eA c G Q) (a9 u c X) s
def cP (u:U) (d:Nat) (names:List (He×G6)) (st:List IB) (b:List S):Prop:=
 ∀(w:Hk) (A:Hi) (c:Cx),aJ c->c.env.scope.names=names->Gd u w c.base->Rm A d c.Fs->c.comp=Gz->∀(e:List (Option V)) (G:Gh) (f:Sg) (s:GD) (Q:cU) (X:Sg->Prop),At c e G f s->wpSs u.T (ae u d) b e Q X f->
  G3 (GR u.prog w) A (execs st c.env) (eA c G Q) (a9 u c X) s
section
variable {u:U} {d:Nat} {names:List (He×G6)} {w:Hk} {A:Hi} {c:Cx} {ρ:List (Option V)} {G:Gh} {σ:Sg} {s:GD}
theorem eA.of {Q:cU} {fl:Fl} {f:Nf} (a:At c ρ G σ s) (h:Bv G fl f) (q:Q fl ρ σ):eA c G Q f s:=⟨G,σ,ρ,fl,a,.refl _,h,q⟩
theorem eA.le {Q:cU} {f:Nf} {i:Gh} {j:GD} (l:G.Le i) (h:eA c i Q f j):eA c G Q f j:=by
 obtain⟨e,b,g,k,a,m,r,q⟩:=h;exact⟨e,b,g,k,a,l.trans m,r,q⟩
theorem eA.next {Q:cU} (a:At c ρ G σ s) (q:Q .next ρ σ):eA c G Q .next s:=.of a (fl:=.next) rfl q
theorem eA.cont {Q:cU} (a:At c ρ G σ s) (q:Q .cont ρ σ):eA c G Q .cont s:=.of a (fl:=.cont) rfl q
theorem eA.ret {Q:cU} {v:V} {b:GB} (a:At c ρ G σ s) (r:VRep G v b) (q:Q (.ret v) ρ σ):eA c G Q (.ret b) s:=.of a (fl:=.ret v) ⟨b,rfl,r⟩ q
theorem uY:cP u d names [] []:=by
 intro w A c b e g f i ρ G σ s Q X a h;exact Kt (.next a h)
theorem yD {st:IB} {n:S} {r:List IB} {q:List S} (D:bB u d names st n) (E:cP u d names r q):cP u d names (st::r) (n::q):=by
 intro w A c t y g z B ρ G σ s Q X a h;refine IX (G4 (D w A c t y g z B ρ G σ s _ X a h) (fun f o F=>?_) fun Z Z x=>x);obtain⟨p,l,m,H,b,e,i,j⟩:=F
 cases H with
 |next=>
  cases i;exact G4 (E w A c t y g z B m p l o Q X b j) (fun f C k=>k.le e) fun Z Z x=>x
 |cont=>cases i;exact .le e (.cont b j)
 |ret v=>
  obtain⟨J,rfl,I⟩:=i;exact .le e (.ret b I j)
def dB (names:List (He×G6)) (x:He) (k:Nat):Prop:=names[k]? =Gu (x,.local)\/names[k]? =Gu (x,.cell)
theorem dM (b:aJ c) (F:c.env.scope.names=names) (a:At c ρ G σ s) {x:He} {k:Nat} (e:dB names x k) (l:c.comp=Gz\/names[k]? =Gu (x,.local)) {v:V} {H:GB} (r:VRep G v H) {Q:Unit->GD->Prop} {E:GB->GD->Prop}
  (h:∀I,At c (ρ.set k (Gu v)) G σ I->Q () I):G3 (GR u.prog w) A (storeName c.env x H) Q E s:=by
 obtain⟨m,J,U,M⟩:=a.envr;rcases e with e|e
 ·have f:c.env.scope.names[k]? =Gu (x,.local):=by rw [F];exact e
  have N:(c.env.scope.kind==.class||(c.env.scope.kind==.module&&c.env.locals != c.env.globals))=Gz:=by rw [b.kind];rfl
  refine wpAny_storeName_local (kind_at b.nodup f) J (fun K n p=>h _ (a.store b f r (.inl ⟨rfl,fun O z=>?_,p⟩))) N;obtain⟨o,W,X,j,B,P⟩:=J;obtain⟨Y,R,S,g,i,C⟩:=z;rw [j] at g;cases g;rw [B] at i;cases i
  have D:m=O:=funext fun y=>(P.2 y).symm.trans (C.2 y)
  exact D▸n
 ·have f:c.env.scope.names[k]? =Gu (x,.cell):=by rw [F];exact e
  have l:c.comp=Gz:=by
   rcases l with h|h
   ·exact h
   ·rw [e] at h;cases h
  obtain⟨q,L,j,B⟩:=M x (GN f);exact wpAny_storeName_cell b.kind (kind_at b.nodup f) j B fun K T p=>h {s with heap:=K} (a.store (t:=s.toks) b f r (.inr ⟨q,l,rfl,j,T,p⟩))
noncomputable abbrev b9 (e:GZ):Prop:=∀t n env,IY e t n env=HH Gz
theorem lY {e:GZ} (h:b9 e) {t:GZ} {n:Nat} {env:J5}:LX [t] e n env=HH Gz:=h (Gu t) n env
theorem xB {e:GZ} {k:E} {pos:HR} (S:ao u d names e k) (p:b9 e):bB u d names (.Expr e pos) (.expr k):=by
 intro w A c l q g r t ρ G σ s Q X a h;exact wpAny_Expr_any (az S l q g r a h fun v m n j x b f o i=>.le f (.next b i)) (by unfold interactive;simp [l.kind]) (p _ _ _)
theorem xy {x:He} {k:Nat} {e:GZ} {n:E} {p pos:HR} (S:ao u d names e n) (z:b9 e) (B:dB names x k):bB u d names (.Assign [.Name x p] e pos) (.assign (.loc k) n):=by
 intro w A c o q g C D ρ G σ s Q X a h;exact wpAny_Assign_Name (az S o q g C a h fun v r t m x b f i j=>dM o q b B (.inl D) i fun y l=>.le f (.next l j)) (z _ _ _)
theorem BY {e:GZ} {l:E} {pos:HR} (S:ao u d names e l):bB u d names (.Return (Gu e) pos) (.ret l):=by
 intro w A c o p g q r ρ G σ s Q X a h;exact Pa (az S o p g q a h fun v m n k x b f i j=>.le f (.ret b i j))
theorem yE {pos:HR}:bB u d names (.Continue pos) .cont:=by
 intro w A c b e g f i ρ G σ s Q X a h;exact wpAny_Continue (.cont a h)
theorem Dy {t:GZ} {y:E} {b o:List IB} {z B:List S} {pos:HR} (D:dU u d names t y) (F:cP u d names b z) (H:cP u d names o B):bB u d names (.If t b o pos) (.ite y z B):=by
 intro w A c q r g v C ρ G σ s Q X a h;refine wpAny_If (dm D q r g v a h fun t i j e l m n=>?_)
 cases t with
 |true=>exact G4 (F w A c q r g v C ρ j e i Q X l n) (fun f p k=>k.le m) fun Z Z x=>x
 |false=>exact G4 (H w A c q r g v C ρ j e i Q X l n) (fun f p k=>k.le m) fun Z Z x=>x
inductive Dc (c:Cx) (Q:cU) (f:Nf) (s':GD):Prop where
 |mk (G':Gh) (σ':Sg) (ρ':List (Option V)) (fl:Fl) (a:At c ρ' G' σ' s') (r:Bv G' fl f) (q:Q fl ρ' σ')
theorem eA.t {Q:cU} {f:Nf} (h:eA c G Q f s):Dc c Q f s:=by
 obtain⟨g,b,e,i,a,_,r,q⟩:=h;exact⟨g,b,e,i,a,r,q⟩
def f6 (u:U) (d:Nat) (names:List (He×G6)) (st:List IB) (b:List S):Prop:=
 ∀(w:Hk) (A:Hi) (c:Cx),aJ c->c.env.scope.names=names->Gd u w c.base->Rm A d c.Fs->c.comp=Gz->c.pins=[]->∀(ρ:List (Option V)) (G:Gh) (σ:Sg) (s:GD) (Q:cU) (X:Sg->Prop),At c ρ G σ s->wpSs u.T (ae u d) b ρ Q X σ->
  G3 (GR u.prog w) A (execs st c.env) (Dc c Q) (a9 u c X) s
theorem cP.t {st:List IB} {b:List S} (h:cP u d names st b):f6 u d names st b:=fun w A c e f g i j Z ρ G σ s Q X a k=>G4 (h w A c e f g i j ρ G σ s Q X a k) (fun Z Z x=>x.t) fun Z Z x=>x
end
section
variable {u:U} {d:Nat} {names:List (He×G6)} {w:Hk} {A:Hi} {c:Cx} {ρ:List (Option V)} {G:Gh} {σ:Sg} {s:GD}
theorem A7 (g:aJ c) (o:c.env.scope.names=names) (a:At c ρ G σ s) {x:He} {k:Nat} {kd:G6} {v:V} (p:names[k]? =Gu (x,kd)) (q:ρ[k]? =Gu (Gu v)) (t:(x==("__classdict__":He))=Gz) {Q:GB->GD->Prop} {E:GB->GD->Prop}
  (h:∀j,VRep G v j->Q j s):G3 (GR u.prog w) A (loadName c.env x) Q E s:=by
 obtain⟨m,z,B,_⟩:=a.envr
 have l:c.env.scope.names[k]? =Gu (x,kd):=by rw [o];exact p
 have i:=kind_at g.nodup l
 rcases B k _ v l q with ⟨e,y,C,r⟩ |⟨e,b,y,n,f,r⟩
 ·exact Lu g.kind (by rw [i];exact congrArg Gu e) z C (h y r)
 ·rcases e with e|e
  ·exact OI g.kind (by rw [i];exact congrArg Gu e) n f (h y r)
  ·exact OJ g.kind (by rw [i];exact congrArg Gu e) n f (h y r) t
set_option tactic.hygienic true in
theorem BW {x:He} {k:Nat} {op:Op} {e:GZ} {C:E} {p pos:HR} (S:ao u d names e C) (D:dB names x k) (K:op=.add\/op=.bor) (L:(x==("__classdict__":He))=Gz):bB u d names (.AugAssign (.Name x p) op.m e pos) (.aug k op C):=by
 intro w A c o q g M N ρ G σ s Q X a h;obtain⟨i,O,h⟩:=h;obtain⟨F,z⟩:∃F,names[k]? =Gu (x,F):=by rcases D with h|h<;>exact⟨_,h⟩
 refine wpAny_AugAssign_Name (A7 o q a z O L fun T P=>az S o q g M a h fun v H I B y f l m b=>?_);obtain⟨t,rfl⟩:=aE P;obtain⟨j,r,rfl,R,b⟩:=b;obtain⟨U,rfl⟩:=aE m;exact qk op R K (dM o q (f.tok _) D (.inl N) (bz r _) fun J n=>.le l (.next n b))
theorem kJ {l:GW} {items:Array GB} {n:Nat} {k:Int} {t:M1} {v:GB} {Q:Unit->GD->Prop} {E:GB->GD->Prop} (e:s.heap.get? l=Gu (HP items n))
  (m:0<=k) (b:k<2^63) (p:k<items.size)
  (hQ:∀f,(s.heap.update l (Hv (·.setIfInBounds k.toNat v))).get? l=Gu (HP (items.setIfInBounds k.toNat v) f)->Q () {s with heap:=s.heap.update l (Hv (·.setIfInBounds k.toNat v))}):
  G3 (GR u.prog w) A (setItem (.ref l) (.int k t) v) Q E s:=by
 have g:s.heap.IsList l items:=aY e
 unfold setItem
 try with_reducible refine Hd ?_
 first|refine Gy (GV ?_) |skip
 refine Gy (wpAny_sequenceKey g.typeIs (by decide) ?_)
 refine Gy (wpAny_callSpecial?_slot (name:=Hr "__setitem__") g.typeIs Pb
  (Lh Pb g.typeIs entry_list_setitem ?_ (args_list_setitem _ _ _)))
 show G3 _ _ (P6 (.int k t) >>= _) _ _ s
 refine Gy (wpAny_listSubscript_int (fitsIndex_of m b) ?_);clear b;obtain⟨j,rfl⟩:=IQ m
 have o:j<items.size:=by lia
 have i:items[j]? =Gu items[j]:=Kr o
 show G3 _ _ ((seqItemAt l j >>= fun r=>HH (r.map (j,·))) >>= _) _ _ s
 refine Gy (Gy (wpAny_seqItemAt e rfl (GV ?_)));rw [i]
 show G3 _ _ (setSeqItemAt l j v >>= _) _ _ s
 have hfin:∃f,(s.heap.update l (Hv (·.setIfInBounds j v))).get? l=Gu (HP (items.setIfInBounds j v) f):=⟨_,Ly (h:=s.heap) (l:=l) e (·.setIfInBounds j v)⟩
 obtain⟨f,hfin⟩:=hfin;refine Gy (wpAny_setSeqItemAt e rfl ?_)
 first
  |exact Gy (GV (GV ⟨.none,rfl,GV (hQ _ hfin)⟩))
  |exact wpAny_pure ⟨.none,rfl,wpAny_pure (hQ _ hfin)⟩
theorem wk (k:Int) {kvs:List (Int×V)}:∀ {b:List (Int×GB)},DRep G kvs b->b.any (fun f=>f.1=k)=kvs.any (fun f=>f.1=k):=by
 induction kvs with
 |nil=>
  intro _ r;subst r;rfl
 |cons f _ g=>
  intro _ r;obtain⟨y,i,rfl,e,_,r⟩:=r;rw [I3,I3,g r,e]
theorem yy {k:Int} {v:V} {kvs:List (Int×V)}:(kvs.map (·.1)).Nodup->putI k v kvs=if kvs.any (fun b=>b.1=k) then kvs.map (fun b=>if b.1=k then(b.1,v) else b) else kvs++[(k,v)]:=by
 induction kvs with
 |nil=>exact fun Z=>rfl
 |cons b r i=>
  intro f
  have f:=IZ.mp f
  show(if b.1=k then _ else _)=_
  by_cases q:b.1=k
  ·have j:∀x∈r,x.1≠k:=fun x g e=>f.1 (Hm.mpr ⟨x,g,e.trans q.symm⟩)
   have l:r.map (fun b=>if b.1=k then(b.1,v) else b)=r:=by
    conv=>rhs;rw [<-NB r]
    exact Jv fun x g=>if_neg (j x g)
   rw [if_pos q,I3,decide_eq_true q,Bool.true_or,if_pos rfl,Hs,if_pos q,l,q]
  ·rw [if_neg q,i f.2,I3,decide_eq_false q,MX,Hs,if_neg q]
   by_cases z:(r.any fun b=>b.1=k)=Gx
   ·rw [if_pos z,if_pos z]
   ·rw [if_neg z,if_neg z];rfl
theorem oU {k:Int} {v:V} {g:GB} (l:VRep G v g) {kvs:List (Int×V)} {b:List (Int×GB)} (r:DRep G kvs b) (hd:(kvs.map (·.1)).Nodup):DRep G (putI k v kvs) (stored b k g):=by
 rw [yy hd];unfold stored;rw [wk k r]
 by_cases z:(kvs.any fun f=>f.1=k)=Gx
 ·rw [if_pos z,if_pos z];clear hd z
  induction kvs generalizing b with
  |nil=>subst r;rfl
  |cons f kvs i=>
   obtain⟨y,m,rfl,e,j,r⟩:=r;refine⟨_,_,rfl,?_,?_,i r⟩
   ·show(if y.1=k then(y.1,g) else y).1=(if f.1=k then(f.1,v) else f).1
    by_cases q:f.1=k
    ·rw [if_pos q,if_pos (e.trans q)];exact e
    ·rw [if_neg q,if_neg (fun z=>q (e.symm.trans z))];exact e
   ·show VRep G (if f.1=k then(f.1,v) else f).2 (if y.1=k then(y.1,g) else y).2
    by_cases q:f.1=k
    ·rw [if_pos q,if_pos (e.trans q)];exact l
    ·rw [if_neg q,if_neg (fun z=>q (e.symm.trans z))];exact j
 ·rw [if_neg z,if_neg z];clear hd z
  induction kvs generalizing b with
  |nil=>subst r;exact⟨_,_,rfl,rfl,l,rfl⟩
  |cons f kvs i=>
   obtain⟨y,m,rfl,e,j,r⟩:=r;exact⟨_,_,rfl,e,j,i r⟩
theorem kY {kvs:List (Int×V)}:∀ {b:List (Int×GB)},DRep G kvs b->b.map (·.1)=kvs.map (·.1):=by
 induction kvs with
 |nil=>
  intro _ r;subst r;rfl
 |cons _ _ f=>
  intro _ r;obtain⟨y,g,rfl,e,_,r⟩:=r;simp [f r,e]
set_option tactic.hygienic true in
theorem nP (N:aJ c) (a:At c ρ G σ s) {x j y:V} {O P F:GB} {σ':Sg} (rx:VRep G x O) (rj:VRep G j P) (R:VRep G y F) (e:jC σ y x j=Gu σ') {Q:Unit->GD->Prop} {E:GB->GD->Prop}
  (h:∀S,At c ρ G σ' S->Q () S):G3 (GR u.prog w) A (setItem O P F) Q E s:=by
 cases x with
 |ref i=>
  cases j with
  |int k=>
   obtain⟨T,rfl⟩:=aU rx;obtain⟨t,rfl⟩:=aE rj
   have b:∀ {r:HY},(∀q,q≠G.φ i->r.get? q=s.heap.get? q)->aT σ i->(∃o,r.get? (G.φ i)=Gu o)->∃o,r.get? (G.δ i)=Gu o:=fun{r} C f ⟨o,ho⟩=>by
    by_cases q:G.δ i=G.φ i
    ·rw [q];exact⟨o,ho⟩
    ·obtain⟨U,H⟩:=(a.inv.live i f).2;exact⟨U,(C _ q).trans H⟩
   unfold jC at e;dsimp only at e
   cases v:σ.cell i with
   |list l=>
    rw [v] at e;change ite _ _ _=_ at e
    split at e
    ·rename_i D;cases e;obtain⟨f,g,n,I,p⟩:=a.cell T v nofun
     have z:g.size=_:=p.length
     refine kJ I D.2.2.1 (by lia) (by rw [z];exact D.2.2.2) fun n' m=>h {s with heap:=_} ?_
     have C:∀q,q≠G.φ i->(s.heap.update (G.φ i) (Hv (·.setIfInBounds k.toNat F))).get? q=s.heap.get? q:=fun q B=>Ho _ _ (Hz B)
     exact a.mut (t:=s.toks) N f (fun q o e B Z=>(C q B).trans e) ⟨_,m⟩ (b C f ⟨_,m⟩) ⟨_,_,m,by rw [Ko];exact p.set R _⟩
    ·cases e
   |dict J=>
    rw [v] at e;change ite _ _ _=_ at e
    split at e
    ·rename_i D;cases e;obtain⟨f,W,⟨o,I,X⟩,p⟩:=a.cell T v nofun
     have hd:=(bv (prog:=u.prog) (w:=w)).mpr ⟨o,I,X⟩
     obtain⟨_,_,_,_,_,_,nd⟩:=X
     have K:(J.map (·.1)).Nodup:=kY p▸nd
     refine wpAny_setItem_pairs (knd:=Jm u.prog w) (k:=k) (show H4 k (.int k t)=Gx by simp [H4]) hd (fun r L Y=>?_) (by rw [m7 p];exact(l1 0x1b09492949f801b090909090909180) D.2)
     obtain⟨U,m,M⟩:=bv.mp L;exact h _ (a.mut (t:=s.toks+1) N f (fun q o e B Z=>(Y.2 q B).trans e) ⟨_,m⟩ (b Y.2 f ⟨_,m⟩) ⟨_,⟨_,m,M⟩,oU R p K⟩)
    ·cases e
   |_=>rw [v] at e;cases e
  |_=>cases e
 |_=>cases e
set_option tactic.hygienic true in
theorem sR {o i e:GZ} {M N O:E} {p pos:HR} (W:ao u d names o M) (Y:ao u d names i N) (Z:ao u d names e O) (nc:b9 e):bB u d names (.Assign [.Subscript o i p] e pos) (.setIdx M N O):=by
 intro w A c D F g H cf ρ G σ s Q X a h;refine wpAny_Assign_Subscript (az Z D F g H a h fun v P R I y l m n q=>az W D F g H l q fun vo S T J x r k t z=>az Y D F g H r z fun vi U V K j B b C f=>?_) (nc _ _ _)
 split at f
 ·rename_i L e;exact nP D B (t.mono b) C (n.mono (k.trans b)) e fun s' a'=>.le (m.trans (k.trans b)) (.next a' f)
 ·exact f.elim
set_option tactic.hygienic true in
theorem pR (B:∀w:Hk,fG u.T (u.Kf w.params)) {o e:GZ} {I J:E} {x:He} {n:Nat} {p pos:HR} (P:ao u d names o I) (R:ao u d names e J) (S:b9 e) (T:nm n=x):bB u d names (.Assign [.Attribute o x p] e pos) (.setAttr I n J):=by
 subst T;intro w A c C K g L V ρ G σ s Q X a h;refine OR (az R C K g L a h fun v j M D y l m q r=>?_) (lY S) (by rfl)
 show G3 _ _ (JU v [Jy (.Attribute o (nm n) p) c.env]) _ _ _
 have i:G3 (GR u.prog w) A (Jy (.Attribute o (nm n) p) c.env v) (fun Z=>eA c G Q .next) (a9 u c X) j:=by
  rw [Pn];refine Gy (Hd (az P C K g L l r fun W N O F x t f z b=>Gy (HT (Gy (Hd ?_)))))
  split at b
  ·rename_i H e;exact kU (B w) g C t z (q.mono f) e fun s' U=>wpAny_release (.le (m.trans f) (.next U b))
  ·exact b.elim
 first
  |exact Gy (Hd (G4 i (fun Z s' k=>wpAny_pure k) fun Z Z x=>x))
  |exact Gy (G4 i (fun Z s' k=>wpAny_pure k) fun Z Z x=>x)
  |exact i
set_option tactic.hygienic true in
theorem pY (q:∀w:Hk,fG u.T (u.Kf w.params)) {o e:GZ} {I J:E} {x:He} {n:Nat} {op:Op} {p pos:HR} (R:ao u d names o I) (S:ao u d names e J) (T:op=.add\/op=.bor) (U:nm n=x):bB u d names (.AugAssign (.Attribute o x p) op.m e pos) (.augAttr I n op J):=by
 subst U;intro w A c C K g L cf ρ G σ s Q X a h;refine wpAny_AugAssign_AttributeAny (az R C K g L a h fun vo M N D x k v l b=>?_);obtain⟨i,V,b⟩:=b;refine k7 (q w) g k l V fun vi W=>?_;obtain⟨t,rfl⟩:=aE W;refine az S C K g L (k.tok _) b fun ve O P F y z m B f=>?_;obtain⟨j,r,H,rfl,Y,Z,f⟩:=f;obtain⟨t',rfl⟩:=aE B;exact qk op Y T (kU (q w) g C (z.tok _) (l.mono m) (bz r _) Z fun s' a'=>.le (v.trans m) (.next a' f))
set_option tactic.hygienic true in
theorem to {o e:GZ} {R S T:E} {x:He} {op:Op} {p U pos:HR} (So:ao u d names o R) (Si:ao u d names (.Name x U) S) (Se:ao u d names e T) (ho:op=.add\/op=.bor):bB u d names (.AugAssign (.Subscript o (.Name x U) p) op.m e pos) (.augIdx R S op T):=by
 intro w A c J K g L cf ρ G σ s Q X a h;refine wpAny_AugAssign_Subscript (az So J K g L a h fun vo V W M x B C n D=>az Si J K g L B D fun vi Y Z N j q f v i=>?_);obtain⟨z,d',hi,i⟩:=i
 obtain⟨k,rfl⟩:∃k,j=.int k:=by
  cases j with
  |int k=>exact⟨k,rfl⟩
  |_=>cases hi
 refine(wq (y:=.none) q (n.mono f) v hi fun vz tk rz=>?_).1
 have F:=q.tok tk
 obtain⟨t,rfl⟩:=aE rz;refine az Se J K g L F i fun ve b' c' O y H l I m=>?_;obtain⟨b,r,P,rfl,hr,hs,m⟩:=m;obtain⟨t',rfl⟩:=aE I;exact qk op hr ho (nP J (H.tok _) (n.mono (f.trans l)) (v.mono l) (bz r _) hs fun s' a'=>.le (C.trans (f.trans l)) (.next a' m))
end
section
variable {u:U} {d:Nat} {names:List (He×G6)} {w:Hk} {A:Hi} {c:Cx} {ρ:List (Option V)} {G:Gh} {σ:Sg} {s:GD}
noncomputable def TgtAt (names:List (He×G6)):List GZ->List Nat->Prop
 |[],ks=>ks=[]
 |e::r,ks=>∃k b,ks=k::b/\(∃x p,e=.Name x p/\dB names x k)/\TgtAt names r b
inductive TgtOK (names:List (He×G6)):GZ->ky->Prop
 |name {x:He} {p:HR} {k:Nat} (h:dB names x k):TgtOK names (.Name x p) (.loc k)
 |tup {elts:List GZ} {c:Nat} {p:HR} {ks:List Nat} (h:TgtAt names elts ks):TgtOK names (.Tuple elts c p) (.locs ks)
theorem yl {b:List GZ}:∀ {ks:List Nat},TgtAt names b ks->b.length=ks.length:=by
 induction b with
 |nil=>
  intro ks h;subst h;rfl
 |cons e r f=>
  intro ks h;obtain⟨k,g,rfl,_,h⟩:=h;simp [f h]
theorem jr {env:J5} {b:List GZ}:∀ {ks:List Nat},TgtAt names b ks->assignEach b env=b.map fun t=>(Gz,Jy t env):=by
 induction b with
 |nil=>
  intro ks h;exact rfl
 |cons e r f=>
  intro ks h;obtain⟨k,g,rfl,⟨x,p,rfl,_⟩,h⟩:=h
  show(Gz,Jy (.Name x p) env)::assignEach r env=_
  rw [f h];rfl
theorem wz (o:c.comp=Gz) (q:aJ c) (z:c.env.scope.names=names) {Q:Unit->GD->Prop} {E:GB->GD->Prop} (b:List GZ):∀ {ks:List Nat} {vs:List V} {items:List GB} {ρ:List (Option V)} {s:GD},TgtAt names b ks->vs.length=ks.length->At c ρ G σ s->VReps G vs items->
  (∀j,At c ((ks.zip vs).foldl (fun ρ l=>ρ.set l.1 (Gu l.2)) ρ) G σ j->Q () j)->G3 (GR u.prog w) A (LY (b.map fun t=>Jy t c.env) items) Q E s:=by
 induction b with
 |nil=>
  intro ks vs items ρ s f i a r h;subst f
  cases vs with
  |nil=>
   subst r;exact GV (h s a)
  |cons _ _=>cases i
 |cons e b B=>
  intro ks vs items ρ s f i a r h;obtain⟨k,C,rfl,⟨x,p,rfl,D⟩,f⟩:=f
  cases vs with
  |nil=>cases i
  |cons v vs=>
   obtain⟨y,m,rfl,F,r⟩:=r
   show G3 _ _ (do KD m (Jy (.Name x p) c.env y);LY (b.map fun t=>Jy t c.env) m) _ _ _
   refine Gy (Hd (Iy (dM q z a D (.inl o) F fun n g=>?_)));exact B f (by simpa using i) g r h
set_option tactic.hygienic true in
theorem oA (B:c.comp=Gz) (C:aJ c) (D:c.env.scope.names=names) (J:A.handled=Gw) (a:At c ρ G σ s) {tg:GZ} {t:ky} (g:TgtOK names tg t) {v:V} {F:GB} (r:VRep G v F) {j:List (Option V)} (e:eX ρ t v σ=Gu j) {Q:Unit->GD->Prop} {E:GB->GD->Prop}
  (h:∀H,At c j G σ H->Q () H):G3 (GR u.prog w) A (Jy tg c.env F) Q E s:=by
 cases g with
 |@name x p k g=>
  cases e;exact Iy (dM C D a g (.inl B) r h)
 |@tup i k p N g=>
  cases v with
  |tup O=>
   change ite _ _ _=_ at e
   split at e
   ·rename_i m;cases e;obtain⟨b,f,n,rfl,z,I⟩:=fM r
    have l:f.size=_:=I.length
    have y:s.heap.IsTuple b f:=⟨_,a.inv.froz _ _ z,rfl,n,rfl⟩
    refine wpAny_assign_Tuple J y (by rw [jr g,GJ,l,yl g];exact m.1) (by rw [jr g];clear g h m;induction i with|nil=>rfl|cons _ _ K=>simp [List.findIdx?_cons,K]) fun P L=>?_
    have M:=a.grow (t:=s.toks) fun q o e=>L q o (G9 (HB e)) e
    rw [jr g,HJ];exact wz B C D i g m.1.symm M I h
   ·cases e
  |_=>cases e
set_option tactic.hygienic true in
theorem AP {b:List GZ} {ks:List Nat} {e:GZ} {r:E} {k:Nat} {p pos:HR} (S:ao u d names e r) (D:b9 e) (F:TgtAt names b ks) (H:∀env:J5,env.scope.names=names->env.scope.kind=.function->Ji [.Tuple b k p] e env=HH Gw):bB u d names (.Assign [.Tuple b k p] e pos) (.assign (.locs ks) r):=by
 intro w A c n o g y I ρ G σ s Q X a h;refine Assign_Tuple (az S n o g y a h fun v z B q x i j l f=>?_) (lY D) (H _ o n.kind)
 split at f
 ·rename_i J e;exact oA I n o y.handled i (tg:=.Tuple b k p) (t:=.locs ks) (.tup F) l e fun C m=>.le j (.next m f)
 ·exact f.elim
theorem vJ {k:Nat} {v:V} {l:List (Nat×V)} (h:k∉l.map (·.1)):∀ρ:List (Option V),l.foldl (fun ρ b=>ρ.set b.1 (Gu b.2)) (ρ.set k (Gu v))=(l.foldl (fun ρ b=>ρ.set b.1 (Gu b.2)) ρ).set k (Gu v):=by
 induction l with
 |nil=>exact fun Z=>rfl
 |cons a l f=>
  have e:k≠a.1/\k∉l.map (·.1):=not_or.mp fun q=>h (GK.mpr q)
  exact fun ρ=>(congrArg (l.foldl _) (List.set_comm _ _ e.1)).trans (f e.2 _)
theorem xY {l:List (Nat×V)} (h:(l.map (·.1)).Nodup) (ρ:List (Option V)):l.reverse.foldl (fun ρ b=>ρ.set b.1 (Gu b.2)) ρ=l.foldl (fun ρ b=>ρ.set b.1 (Gu b.2)) ρ:=by
 induction l with
 |nil=>rfl
 |cons a l f=>
  have e:=IZ.mp h
  rw [I6,HV,f e.2];exact(vJ e.1 ρ).symm
theorem uI {ρ:List (Option V)} {ks:List Nat} {vs:List V} (f:ks.Nodup) (e:ks.length=vs.length):(ks.reverse.zip vs.reverse).foldl (fun ρ b=>ρ.set b.1 (Gu b.2)) ρ=(ks.zip vs).foldl (fun ρ b=>ρ.set b.1 (Gu b.2)) ρ:=
 (congrArg (List.foldl _ ρ) (List.reverse_zipWith e).symm).trans (xY (by rw [Oc (Km e)];exact f) ρ)
noncomputable def SlotsAt (names:List (He×G6)):List He->List Nat->Prop
 |[],[]=>True
 |x::r,k::ks=>dB names x k/\SlotsAt names r ks
 |_,_=>False
theorem qw {xs:List He}:∀ {ks:List Nat} {x:He} {k:Nat},SlotsAt names xs ks->dB names x k->SlotsAt names (xs++[x]) (ks++[k]):=by
 induction xs with
 |nil=>
  intro ks x k h b
  cases ks with
  |nil=>exact⟨b,trivial⟩
  |cons _ _=>exact h.elim
 |cons y xs e=>
  intro ks x k h b
  cases ks with
  |nil=>exact h.elim
  |cons _ _=>exact⟨h.1,e h.2 b⟩
theorem slots_rev:∀ {xs:List He} {ks:List Nat},SlotsAt names xs ks->SlotsAt names xs.reverse ks.reverse
 |[],[],_=>trivial
 |_::_,_::_,h=>by
  rw [I6,I6];exact qw (slots_rev h.2) h.1
theorem slots_len:∀ {xs:List He} {ks:List Nat},SlotsAt names xs ks->xs.length=ks.length
 |[],[],_=>rfl
 |_::_,_::_,h=>by simp [slots_len h.2]
theorem yc (m:c.comp=Gz) (o:aJ c) (p:c.env.scope.names=names) {Q:Unit->GD->Prop} {E:GB->GD->Prop}:∀ {xs:List He} {ks:List Nat} {vs:List V} {items:List GB} {ρ:List (Option V)} {s:GD},SlotsAt names xs ks->vs.length=ks.length->At c ρ G σ s->VReps G vs items->
  (∀g,At c ((ks.zip vs).foldl (fun ρ i=>ρ.set i.1 (Gu i.2)) ρ) G σ g->Q () g)->G3 (GR u.prog w) A (LY (xs.map fun n=>bindName c.env n) items) Q E s:=by
 intro xs
 induction xs with
 |nil=>
  intro ks vs items ρ s b f a r h
  cases ks with
  |cons _ _=>exact b.elim
  |nil=>
   cases vs with
   |nil=>
    subst r;exact GV (h s a)
   |cons _ _=>cases f
 |cons x xs q=>
  intro ks vs items ρ s b f a r h
  cases ks with
  |nil=>exact b.elim
  |cons k ks=>
   cases vs with
   |nil=>cases f
   |cons v vs=>
    obtain⟨y,j,rfl,t,r⟩:=r
    show G3 _ _ (do KD j (bindName c.env x y);LY (xs.map fun n=>bindName c.env n) j) _ _ _
    refine Gy (Hd (wpAny_bindName (dM o p a b.1 (.inl m) t fun l e=>?_)));exact q b.2 (Mz f) e r h
set_option tactic.hygienic true in
theorem yZ {j:List GZ} {xs:List He} {ks:List Nat} {e:GZ} {K:E} {k:Nat} {p pos:HR} (S:ao u d names e K) (R:b9 e) (L:SlotsAt names xs ks) (hd:ks.Nodup) (T:∀env:J5,env.scope.names=names->env.scope.kind=.function->Ji [.Tuple j k p] e env=HH (Gu xs)):bB u d names (.Assign [.Tuple j k p] e pos) (.assign (.locs ks) K):=by
 intro w A c D F g M U ρ G σ s Q X a h;refine Assign_Tuple_swapped (az S D F g M a h fun v l N H x m y B i=>?_) (lY R) (T _ F D.kind)
 split at i
 ·rename_i V e
  cases x with
  |tup Z=>
   change ite _ _ _=_ at e
   split at e
   ·rename_i I;cases e;obtain⟨b,f,n,rfl,z,O⟩:=fM B
    have C:f.size=_:=O.length
    have J:l.heap.IsTuple b f:=⟨_,m.inv.froz _ _ z,rfl,n,rfl⟩
    rw [show xs.length=f.size by rw [C,slots_len L];exact I.1]
    refine wpAny_unpackItems_tuple M.handled J fun h' W=>?_
    have Y:=m.grow (t:=l.toks) fun q o e=>W q o (G9 (HB e)) e
    refine yc U D F (slots_rev L) (by simp [I.1]) Y O.reverse fun P r=>?_
    rw [uI hd I.1] at r;exact .le y (.next r i)
   ·cases e
  |_=>cases e
 ·exact i.elim
end
noncomputable def Cx.own (c:Cx) (I:GW):Cx:={c with Pv:=I::c.Pv}
noncomputable def Cx.pin (c:Cx) (p:GW×JE):Cx:={c with pins:=p::c.pins}
section
variable {u:U} {d:Nat} {names:List (He×G6)} {w:Hk} {A:Hi} {c:Cx} {ρ:List (Option V)} {G:Gh} {σ:Sg} {s:GD} {I:GW} {o:JE}
theorem ff.pv_le {base h:HY} {Fs:List J5} {g Pv':List GW} (x:ff base Fs g G σ h) (l:∀b∈Pv',b∈g) (j:∀env∈Fs,∀L,env.frame=Gu L->L∈Pv'):ff base Fs Pv' G σ h:=
 ⟨x.N,x.stays,x.frames,x.cells,x.live,fun i f b e=>⟨(x.fresh i f b e).1,(x.fresh i f b e).2.1,fun q=>(x.fresh i f b e).2.2 (l b q)⟩,x.inj,x.froz,fun b e=>x.pv b (l b e),j,x.sys⟩
structure ed (c:Cx) (I:GW):Prop where
 pv:I∉c.Pv
 new:c.s₀.heap.get? I=Gw
theorem wi (b:aJ c) (k:ed c I):aJ (c.own I):=
 ⟨b.kind,b.nodup,.tail _ b.locPv,b.locNew,b.baseLe,fun x a e=>⟨.tail _ (b.cellPv x a e).1,(b.cellPv x a e).2⟩,b.cellNew,b.cellInj,fun p g=>⟨.tail _ (b.pins p g).1,(b.pins p g).2⟩,b.glob,b.bi,b.frame,fun f i L j=>.tail _ (b.fpv f i L j)⟩
theorem wN (b:aJ c) (i:ed c I):aJ ((c.own I).pin (I,o)):=
 ⟨b.kind,b.nodup,.tail _ b.locPv,b.locNew,b.baseLe,fun x a e=>⟨.tail _ (b.cellPv x a e).1,(b.cellPv x a e).2⟩,b.cellNew,b.cellInj,fun p g=>by
  rcases GK.mp g with rfl|g
  ·refine⟨.head _,fun(e:I=c.env.locals)=>i.pv (by rw [e];exact b.locPv),fun q=>?_,fun x a e (q:I=a)=>i.pv (by rw [q];exact(b.cellPv x a e).1)⟩
   obtain⟨f,j,k⟩:=HI.mp q;exact i.pv (b.fpv f j _ k)
  ·exact⟨.tail _ (b.pins p g).1,(b.pins p g).2⟩,b.glob,b.bi,b.frame,fun f j L k=>.tail _ (b.fpv f j L k)⟩
theorem At.own (x:At c ρ G σ s) (C:aJ c) {h':HY} {t:M1} (k:∀b o,s.heap.get? b=Gu o->h'.get? b=Gu o) (l:s.heap.get? I=Gw) (g:h'.get? I=Gu o):At (c.own I) ρ G σ {s with heap:=h',toks:=t}/\ed c I:=by
 have f:=x.grow (t:=t) k
 have y:ed c I:=by
  refine⟨fun q=>?_,?_⟩
  ·obtain⟨⟨o,e⟩,_⟩:=x.inv.pv I q;rw [l] at e;cases e
  ·cases e:c.s₀.heap.get? I with
   |none=>rfl
   |some o=>obtain⟨D,p⟩:=x.adv.there I ⟨o,e⟩;rw [l] at p;cases p
 refine⟨⟨⟨f.inv.N,f.inv.stays,f.inv.frames,f.inv.cells,f.inv.live,fun i m b j=>⟨(f.inv.fresh i m b j).1,(f.inv.fresh i m b j).2.1,fun q=>?_⟩,f.inv.inj,f.inv.froz,fun b j=>?_,fun n z L B=>.tail _ (f.inv.fpv n z L B),f.inv.sys⟩,f.envr,f.adv,f.gens,f.os,f.pins⟩,y⟩
 ·rcases GK.mp q with q|q
  ·obtain⟨⟨E,r⟩,⟨F,v⟩⟩:=x.inv.live i m;rcases j with j|j
   ·rw [<-j,q,l] at r;cases r
   ·rw [<-j,q,l] at v;cases v
  ·exact(f.inv.fresh i m b j).2.2 q
 ·rcases GK.mp j with rfl|j
  ·refine⟨⟨_,g⟩,?_,?_⟩
   ·show c.base.get? b=Gw
    cases e:c.base.get? b with
    |none=>rfl
    |some o=>have:=x.inv.stays b o e;rw [l] at this;cases this
   ·cases e:G.Z b with
    |none=>rfl
    |some o=>have:=x.inv.froz b o e;rw [l] at this;cases this
  ·exact f.inv.pv b j
theorem At.pinned (x:At (c.own I) ρ G σ s) (g:s.heap.get? I=Gu o):At ((c.own I).pin (I,o)) ρ G σ s:=
 ⟨x.inv,x.envr,x.adv,x.gens,x.os,fun p b=>by
  rcases GK.mp b with rfl|b
  ·exact g
  ·exact x.pins p b⟩
theorem At.unpin (x:At ((c.own I).pin (I,o)) ρ G σ s):At (c.own I) ρ G σ s/\s.heap.get? I=Gu o:=
 ⟨⟨x.inv,x.envr,x.adv,x.gens,x.os,fun p b=>x.pins p (.tail _ b)⟩,x.pins (I,o) (.head _)⟩
theorem At.moved (x:At (c.own I) ρ G σ s) (f:aJ c) (b:ed c I) {h':HY} {t:M1} {l:JE} (i:Ir I s.heap h') (g:h'.get? I=Gu l):At (c.own I) ρ G σ {s with heap:=h',toks:=t}:=by
 have j:=wi f b
 obtain⟨m,D,E,F⟩:=x.envr
 have n:c.env.locals≠I:=fun q=>b.pv (q▸f.locPv)
 have r:∀y a,c.env.cells.lookup y=Gu a->a≠I:=fun y a e q=>b.pv (q▸(f.cellPv y a e).1)
 refine x.priv j (.head _) b.new (fun p v q=>b.pv (q▸(f.pins p v).1)) i.2 ⟨l,g,.inr fun k z B=>b.pv (f.fpv k z _ B)⟩ (x.envr.keeps (.refl _) (fun o e=>⟨o,(i.2 _ n).trans e,rfl⟩) fun y a e o C=>⟨o,(i.2 a (r y a e)).trans C,rfl⟩)
theorem At.loose (x:At (c.own I) ρ G σ s) (m:aJ c) (B:ed c I) {h':HY} {t:M1} (k:∀b o,b≠I->s.heap.get? b=Gu o->h'.get? b=Gu o):At c ρ G σ {s with heap:=h',toks:=t}:=by
 revert h' t;delta c ρ G σ s I;delta h' t
 have F:(∃o,s.heap.get? I=Gu o)/\c.base.get? I=Gw/\G.Z I=Gw:=x.inv.pv I (.head _)
 have n:∀b∈c.Pv,∀o,s.heap.get? b=Gu o->h'.get? b=Gu o:=fun b j o e=>k b o (fun q=>B.pv (q▸j)) e
 have z:∀i,aT σ i->∀b,(b=G.φ i\/b=G.δ i)->∀o,s.heap.get? b=Gu o->h'.get? b=Gu o:=fun i g b j o e=>k b o (fun q=>(x.inv.fresh i g b j).2.2 (q▸.head _)) e
 refine⟨⟨x.inv.N,fun b o e=>k b o (fun q=>by rw [q,F.2.1] at e;cases e) (x.inv.stays b o e),dh x.inv.frames fun l C L D o e=>⟨o,n L (m.fpv l C L D) o e,rfl⟩,fun i g=>(x.inv.cells i g).keeps (z i g _ (.inl rfl)) (z i g _ (.inr rfl)),
   fun i g=>?_,fun i g b j=>⟨(x.inv.fresh i g b j).1,(x.inv.fresh i g b j).2.1,fun q=>(x.inv.fresh i g b j).2.2 (.tail _ q)⟩,x.inv.inj,fun b o e=>k b o (fun q=>by rw [q,F.2.2] at e;cases e) (x.inv.froz b o e),
   fun b j=>?_,fun l C L D=>m.fpv l C L D,x.inv.sys⟩,
  x.envr.keeps (.refl _) (fun o e=>⟨o,n _ m.locPv o e,rfl⟩) (fun y a e o J=>⟨o,n a (m.cellPv y a e).1 o J,rfl⟩),⟨x.adv.le,fun b o e f=>?_,fun b j=>?_,x.adv.newφ,x.adv.newZ,x.adv.dead⟩,x.gens,x.os,fun p H=>n _ (m.pins p H).1 _ (x.pins p H)⟩
 ·obtain⟨⟨K,M⟩,⟨N,O⟩⟩:=x.inv.live i g;exact⟨⟨K,z i g _ (.inl rfl) _ M⟩,⟨N,z i g _ (.inr rfl) _ O⟩⟩
 ·obtain⟨⟨o,e⟩,r⟩:=x.inv.pv b (.tail _ j);exact⟨⟨o,n b j _ e⟩,r⟩
 ·obtain⟨v,E,r⟩:=x.adv.keep b o e f;exact⟨v,k b v (fun q=>by rw [q,B.new] at e;cases e) E,r⟩
 ·obtain⟨o,e⟩:=j;obtain⟨v,E⟩:=x.adv.there b ⟨o,e⟩;exact⟨v,k b v (fun q=>by rw [q,B.new] at e;cases e) E⟩
theorem a9.unpin (i:aJ c) {X:Sg->Prop} {e:GB} (h:a9 u ((c.own I).pin (I,o)) X e s):a9 u c X e s:=by
 obtain⟨j,f,k,l,m,n,p,r,t,v,y⟩:=h;refine⟨j,f,k,l.pv_le (fun b z=>?_) fun g B L C=>GH.mpr (.inr (i.fpv g B L C)),m,n,p,r,t,v,y⟩;rcases GH.mp z with q|q
 ·exact GH.mpr (.inl q)
 ·exact GH.mpr (.inr (.tail _ q))
noncomputable def f0:List String:=["enumerate","zip","dict_itemiterator","dict_reverseitemiterator","odict_iterator","itertools.zip_longest","itertools.pairwise"]
structure sQ (u:U) (w:Hk) (A:Hi) (G₀:Gh) (l:List V) (st:Sg->Prop) (I:GW) (sh:Nat->JE->Prop):Prop where
 plain:∀i o,sh i o->∃n vs,o.cls=.type n/\o.data=.fields vs/\f0.contains n=Gz
 item:∀ {c:Cx} {ρ:List (Option V)} {G:Gh} {σ:Sg} {s:GD} {o:JE} (i:Nat) (x:V) {Q:Option GB->GD->Prop} {E:GB->GD->Prop},At c ρ G σ s->G₀.Le G->st σ->I∈c.Pv->s.heap.get? I=Gu o->sh i o->l[i]? =Gu x->
  (∀vx h' tk o',h'.get? I=Gu o'->sh (i+1) o'->Ir I s.heap h'->VRep G x vx->Q (Gu vx) {s with heap:=h',toks:=tk})->G3 (GR u.prog w) A (pyNext (.ref I)) Q E s
 stop:∀ {c:Cx} {ρ:List (Option V)} {G:Gh} {σ:Sg} {s:GD} {o:JE} {Q:Option GB->GD->Prop} {E:GB->GD->Prop},At c ρ G σ s->G₀.Le G->st σ->I∈c.Pv->s.heap.get? I=Gu o->sh l.length o->
  (∀h' tk,L7 I s.heap h'->Q Gw {s with heap:=h',toks:=tk})->G3 (GR u.prog w) A (pyNext (.ref I)) Q E s
 self:∀ {s:GD} {o:JE} (i:Nat) {Q:GB->GD->Prop} {E:GB->GD->Prop},s.heap.get? I=Gu o->sh i o->Q (.ref I) s->G3 (GR u.prog w) A (N4 (.ref I)) Q E s
theorem xw {b:Gh} {l:List V} {st:Sg->Prop} {e:Nat->JE->Prop} (S:sQ u w A b l st I e) {tg:GZ} {i:Nat} {v:GB} (g:s.heap.get? I=Gu o) (h:e i o) {Q:Unit->GD->Prop} {E:GB->GD->Prop} (q:Q () s):G3 (GR u.prog w) A (P7 tg (.ref I) v) Q E s:=by
 obtain⟨n,f,j,k,m⟩:=S.plain i o h;unfold P7
 cases tg with
 |Tuple _ _ _=>
  cases v with
  |ref a=>
   refine Gy (wpAny_load g ?_);rw [j,k];simp only
   rw [if_neg (by
    intro h
    have:(f0.contains n&&f[0]? ==Gu (H9 a))=Gx:=h
    rw [m,MA] at this;cases this)]
   exact GV q
  |_=>exact GV q
 |List _ _=>
  cases v with
  |ref a=>
   refine Gy (wpAny_load g ?_);rw [j,k];simp only
   rw [if_neg (by
    intro h
    have:(f0.contains n&&f[0]? ==Gu (H9 a))=Gx:=h
    rw [m,MA] at this;cases this)]
   exact GV q
  |_=>exact GV q
 |_=>exact GV q
theorem we {t:GZ} {N:E} {b:List IB} {O:List S} {pos:HR} (ht:dU u d names t N) (hb:cP u d names b O):bB u d names (.While t b [] pos) (.while N O):=by
 revert t N b O pos;delta u d names;delta t N b O pos;intro w A c P V g R cf ρ G σ s Q X a h;revert ρ G σ s Q X;delta w A c;delta ρ G σ s Q X;obtain⟨J,⟨n,h0⟩,K⟩:=h;revert n;delta J;delta n
 have W:=R.frames
 refine wpAny_While (codeAny_whileLoop (fun n s=>∃ρ Y σ,At c ρ Y σ s/\G.Le Y/\J n ρ σ) ?_ n ⟨ρ,G,σ,a,.refl _,h0⟩)
 rintro n s ⟨ρ,L,σ,a,j,hJ⟩
 injections n s ρ L σ;intro a j hJ;refine G4 (dm ht P V g R a (K n ρ σ hJ) fun t B C p D k F=>?_) (fun Z Z x=>x) fun Z Z x=>ub P W x
 ·delta t B C p
  cases t with
  |false=>
   show G3 _ _ _ _ _ _
   exact Kt (.le (j.trans k) (.next D F))
  |true=>
   show G3 _ _ _ _ _ _
   refine G4 (hb w A c P V g R cf ρ C p B _ X D F) (fun f M hh=>?_) fun Z Z x=>ub P W x;obtain⟨l,e,i,T,q,r,y,z⟩:=hh;revert l e i T;delta f M;delta l e i T
   cases T with
   |next=>cases y;obtain⟨m,U,H⟩:=z;exact⟨m,U,i,l,e,q,j.trans (k.trans r),H⟩
   |cont=>cases y;obtain⟨m,U,H⟩:=z;exact⟨m,U,i,l,e,q,j.trans (k.trans r),H⟩
   |ret v=>obtain⟨vv,rfl,rv⟩:=y;exact .le (j.trans (k.trans r)) (.ret q rv z)
def Bq (u:U) (d:Nat) (t:ky) (e:List S) (X:Sg->Prop) (i:V) (ρ:List (Option V)) (Q:cU) (σ:Sg):Prop:=match eX ρ t i σ with
 |some b=>wpSs u.T (ae u d) e b Q X σ
 |none=>False
theorem r6 {W:V->List (Option V)->cU->Sg->Prop} {st:Sg->Prop} {i:V} {r:List V} {Q:cU} (h:forW W st (i::r) ρ Q σ):st σ/\W i ρ (fun fl b σ'=>match fl with|.next|.cont=>forW W st r b Q σ'|.ret v=>Q (.ret v) b σ') σ:=h
theorem ue {W:V->List (Option V)->cU->Sg->Prop} {st:Sg->Prop} {Q:cU} (h:forW W st [] ρ Q σ):st σ/\Q .next ρ σ:=h
inductive ForI (c:Cx) (I:GW) (G:Gh) (sh:Nat->JE->Prop) (W:V->List (Option V)->cU->Sg->Prop) (st:Sg->Prop) (l:List V) (Q:cU):Nat->GD->Prop where
 |mk (i:Nat) (ρ:List (Option V)) (G':Gh) (σ:Sg) (o:JE) (s:GD) (hi:i<=l.length) (a:At (c.own I) ρ G' σ s) (le:G.Le G') (gI:s.heap.get? I=Gu o) (hsh:sh i o) (h:forW W st (l.drop i) ρ Q σ):ForI c I G sh W st l Q (l.length+1 - i) s
theorem m_for {tg:GZ} {t:ky} {b:List IB} {b':List S} (ht:TgtOK names tg t) (hb:cP u d names b b') (ok:aJ c) (hn:c.env.scope.names=names) (g:Gd u w c.base) (rm:Rm A d c.Fs) (cf:c.comp=Gz) {G₀:Gh} {l:List V} {st:Sg->Prop} {sh:Nat->JE->Prop} (S:sQ u w A G₀ l st I sh) (ap:ed c I)
  (a:At (c.own I) ρ G σ s) (le:G₀.Le G) (gI:s.heap.get? I=Gu o) (h0:sh 0 o) {Q:cU} {X:Sg->Prop} (h:forW (Bq u d t b' X) st l ρ Q σ):
  IT (GR u.prog w) A (.forLoop tg (.ref I) b [] c.env) (fun r s'=>match r with|.ok f=>eA c G Q f s'|.error e=>cameBackBy (GR u.prog w) A c.env (a9 u c X) e s') s:=by
 revert I o tg t b b' G₀ l st sh Q X;delta u d names w A c ρ G σ s;revert G₀ l st sh Q X;delta I o tg t b b';revert Q X;delta G₀ l st sh;delta Q X
 have fr:=rm.frames
 have okI:=wi ok ap
 refine codeAny_forLoop_any (ForI c I G sh (Bq u d t b' X) st l Q) ?_ (l.length+1) (.mk 0 ρ G σ o s (G7 _) a (.refl _) gI h0 h)
 rintro n s ⟨i,ρ,G₁,σ,o,_,hi,a,l₁,gI,hsh,h⟩
 injections s i ρ G₁ σ o;intro hi l₁ hsh h a gI
 by_cases hlt:i<l.length
 ·rw [Kw hlt] at h
  have h:=r6 h
  refine S.item i l[i] a (le.trans l₁) h.1 (.head _) gI hsh (Hb hlt) fun vx h' tk o' gI' hsh' sb rx=>?_;delta vx h' tk o';refine xw S (s:={s with heap:=h',toks:=tk}) gI' hsh' ?_
  have h2:=h.2
  unfold Bq at h2
  split at h2
  ·rename_i ρ' e
   have okP:=wN (o:=o') ok ap
   refine oA (c:=(c.own I).pin (I,o')) cf okP hn rm.handled ((a.moved (t:=tk) ok ap sb gI').pinned gI') ht rx e fun s₂ a₂=>?_;refine G4 (hb w A _ okP hn g rm cf ρ' G₁ σ s₂ _ X a₂ h2) (fun f s₃ hh=>?_) fun Z Z x=>ub ok fr (a9.unpin ok x);obtain⟨G₃,σ₃,ρ₃,fl,a₃,l₃,r₃,q₃⟩:=hh;obtain⟨a₄,gI₄⟩:=a₃.unpin
   have lt:l.length+1 - (i+1) <l.length+1 - i:=Nat.sub_lt_sub_left (KJ hi) (GA i)
   cases fl with
   |next=>cases r₃;exact⟨_,lt,.mk (i+1) ρ₃ G₃ σ₃ o' _ hlt a₄ (l₁.trans l₃) gI₄ hsh' q₃⟩
   |cont=>cases r₃;exact⟨_,lt,.mk (i+1) ρ₃ G₃ σ₃ o' _ hlt a₄ (l₁.trans l₃) gI₄ hsh' q₃⟩
   |ret v=>
    obtain⟨vv,rfl,rv⟩:=r₃;exact .le (l₁.trans l₃) (.ret (a₄.loose (h':=s₃.heap) (t:=s₃.toks) ok ap fun Z Z Z e=>e) rv q₃)
  ·exact h2.elim
 ·cases IH hi (HO hlt);rw [Od] at h
  have h:=ue h
  refine S.stop a (le.trans l₁) h.1 (.head _) gI hsh fun h' tk eb=>Kt ?_;exact .le l₁ (.next (a.loose (t:=tk) ok ap fun b o n e=>eb b o n e) h.2)
end
section
variable {u:U} {d:Nat} {names:List (He×G6)} {w:Hk} {A:Hi} {c:Cx} {ρ:List (Option V)} {G:Gh} {σ:Sg} {s:GD} {I:GW} {o:JE}
def ux (b:GW) (i:Nat) (o:JE):Prop:=o.cls=.type "list_iterator"/\o.data=.fields #[.ref b,.int i 0]
def zM (b:GW) (i:Nat) (o:JE):Prop:=o.cls=.type "tuple_iterator"/\o.data=.fields #[.ref b,.int i 0]
def iW (n i:Nat) (o:JE):Prop:=o={cls:=.type "range_iterator",dict:=Gw,data:=.fields #[H9 (i:Int),H9 ((n:Int) - (i:Int)),H9 1],slots:= #[]}
def zT (f:Gh) (l:List V) (st:Sg->Prop) (b:GW):Prop:=
 ∀ {c:Cx} {ρ:List (Option V)} {G:Gh} {σ:Sg} {s:GD},At c ρ G σ s->f.Le G->st σ->∃e n,s.heap.get? b=Gu (HP e n)/\VReps G l e.toList
theorem o9 {l:List V} {items:Array GB} (r:VReps G l items.toList) {i:Nat} {x:V} (h:l[i]? =Gu x):∃b,items[i]? =Gu b/\VRep G x b:=by
 obtain⟨v,e,f⟩:=r.get h;exact⟨v,by rw [<-I0];exact e,f⟩
theorem wj {e:Gh} {l:List V} {st:Sg->Prop} {b:GW} (m:A.handled=Gw) (L:zT e l st b):sQ u w A e l st I (ux b) where
 plain:=fun i o h=>⟨_,_,h.1,h.2,by decide⟩
 item:=fun{c ρ G σ s o} i x {Q E} a p f y g h z k=>by
  obtain⟨j,n,q,r⟩:=L a p f;obtain⟨B,C,D⟩:=o9 r z;exact wpAny_pyNext_list_item ⟨_,g,h.1,h.2⟩ (aY q) C fun t m F=>by obtain⟨H,J,K,M⟩:=m;exact k B t _ H J ⟨K,M⟩ F D
 stop:=fun{c ρ G σ s o Q E} a p f y g h k=>by
  obtain⟨j,n,q,r⟩:=L a p f
  have v:=r.length
  simp only [Js] at v;exact wpAny_pyNext_list_end m ⟨_,g,h.1,h.2⟩ (aY q) (by simp [v]) fun t N=>k t s.toks N
 self:=fun{s o} i {Q E} g h k=>wpAny_pyIter_listiter ⟨_,g,h.1,h.2⟩ k
theorem xk {e:Gh} {l:List V} {b:GW} {items:Array GB} {n:Nat} (j:A.handled=Gw) (z:e.Z b=Gu {cls:=.type "tuple",data:=.seq items n}) (q:VReps e l items.toList):sQ u w A e l (fun Y=>True) I (zM b) where
 plain:=fun i o h=>⟨_,_,h.1,h.2,by decide⟩
 item:=fun{c ρ G σ s o} i x {Q E} a f m t g h v k=>by
  obtain⟨y,B,C⟩:=o9 (q.mono f) v;exact wpAny_pyNext_tuple_item ⟨_,g,h.1,h.2⟩ ⟨_,a.inv.froz _ _ (f.Z _ _ z),rfl,_,rfl⟩ B fun p j D=>by obtain⟨F,H,J,K⟩:=j;exact k y p _ F H ⟨J,K⟩ D C
 stop:=fun{c ρ G σ s o Q E} a f m t g h k=>by
  have r:=q.length
  simp only [Js] at r;exact wpAny_pyNext_tuple_end j ⟨_,g,h.1,h.2⟩ ⟨_,a.inv.froz _ _ (f.Z _ _ z),rfl,_,rfl⟩ (by simp [r]) fun p L=>k p s.toks L
 self:=fun{s o} i {Q E} g h k=>wpAny_pyIter_tupleiter ⟨_,g,h.1,h.2⟩ k
theorem jV {n:Int} {i:Nat} {x:V} (h:(a6 n)[i]? =Gu x):i<n.toNat/\x=.int (i:Int):=by
 unfold a6 at h;rw [Hg] at h;obtain⟨j,f,rfl⟩:=GY.mp h;obtain⟨b,e⟩:=HS.mp f;simp only [N5] at b;simp only [List.getElem_range] at e;exact⟨b,by rw [e]⟩
theorem r7 {b:Gh} {n:Int} (j:A.handled=Gw):sQ u w A b (a6 n) (fun Z=>True) I (iW n.toNat) where
 plain:=fun i o h=>by cases h;exact⟨_,_,rfl,rfl,by decide⟩
 item:=fun{c ρ G σ s o} i x {Q E} a l e m g h p k=>by
  cases h;obtain⟨v,rfl⟩:=jV p;refine wpAny_pyNext_range_item g (by lia) fun f q r=>k _ f _ _ q ?_ r (bz _ _)
  unfold iW;rw [show((i+1:Nat):Int)=(i:Int)+1 by lia,show((n.toNat:Int) - ((i:Int)+1))=(n.toNat:Int) - (i:Int) - 1 by lia]
 stop:=fun{c ρ G σ s o Q E} a l e m g h k=>by
  cases h;refine wpAny_pyNext_range_end j g ?_ fun f t=>k f s.toks t;simp [a6]
 self:=fun{s o} i {Q E} g h k=>by
  cases h;exact wpAny_pyIter_rangeiter g k
set_option tactic.hygienic true in
theorem uO (O:aJ c) (B:A.handled=Gw) (a:At c ρ G σ s) {x:V} {C:GB} {l:List V} (H:VRep G x C) (e:aV x σ=Gu l) {Q:GB->GD->Prop} {E:GB->GD->Prop}
  (h:∀I q o P,s.heap.get? I=Gw->(∀b o,s.heap.get? b=Gu o->q.heap.get? b=Gu o)->q.gens=s.gens->q.os=s.os->At (c.own I) ρ G σ q->ed c I->q.heap.get? I=Gu o->P 0 o->(∀A:Hi,A.handled=Gw->sQ u w A G l (cq x l) I P)->Q (.ref I) q):G3 (GR u.prog w) A (N4 C) Q E s:=by
 have f:=aN s.heap
 have r:∀b j n,C=.ref b->s.heap.get? b=Gu (HP j n)->zT G l (cq x l) b->G3 (GR u.prog w) A (N4 C) Q E s:=fun b j n T J L=>by
  subst T;refine wpAny_pyIter_list (aY J) ?_
  have g:(s.heap.push {cls:=.type "list_iterator",data:=.fields #[.ref b,.int 0 0]}).get? s.heap.objs.size=Gu {cls:=.type "list_iterator",data:=.fields #[.ref b,.int 0 0]}:=Hu _ rfl
  obtain⟨m,K⟩:=a.own (t:=s.toks) O (fun Y Y e=>GU _ e) f g;exact h _ _ _ (ux b) f (fun Y Y e=>GU _ e) rfl rfl m K g ⟨rfl,rfl⟩ fun A B=>wj B L
 cases x with
 |ref i=>
  obtain⟨R,rfl⟩:=aU H;unfold aV at e;dsimp only at e
  cases M:σ.cell i with
  |list S=>
   rw [M] at e;rcases e with ⟨⟩
   obtain⟨Z,j,n,J,D⟩:=a.cell R M nofun
   refine r _ j n rfl J fun{c ρ U σ s} m F v=>?_
   have p:i<σ.n/\σ.cell i=.list l:=v
   obtain⟨W,k,X,y,N⟩:=m.cell (i:=i) (by rw [m.inv.N];exact p.1) p.2 nofun
   rw [(F.φ i R).1] at y;exact⟨k,X,y,N⟩
  |_=>rw [M] at e;cases e
 |lst S=>
  rcases e with ⟨⟩
  obtain⟨b,j,n,rfl,z,D⟩:=eD H;refine r _ j n rfl (a.inv.froz _ _ z) fun{c ρ U σ s} m F v=>⟨j,n,m.inv.froz _ _ (F.Z _ _ z),D.mono F⟩
 |tup S=>
  rcases e with ⟨⟩
  obtain⟨b,j,n,rfl,z,D⟩:=fM H;refine wpAny_pyIter_tuple ⟨_,a.inv.froz _ _ z,rfl,_,rfl⟩ ?_
  have g:(s.heap.push {cls:=.type "tuple_iterator",data:=.fields #[.ref b,.int 0 0]}).get? s.heap.objs.size=Gu {cls:=.type "tuple_iterator",data:=.fields #[.ref b,.int 0 0]}:=Hu _ rfl
  obtain⟨m,K⟩:=a.own (t:=s.toks) O (fun Y Y e=>GU _ e) f g;exact h _ _ _ (zM b) f (fun Y Y e=>GU _ e) rfl rfl m K g ⟨rfl,rfl⟩ fun A B=>xk B z D
 |_=>cases e
theorem mS (B:aJ c) (r:A.handled=Gw) (a:At c ρ G σ s) {n:Int} {t:M1} (F:0<=n) (H:n<=1000000) {Q:GB->GD->Prop} {E:GB->GD->Prop}
  (h:∀I i o y,s.heap.get? I=Gw->(∀b o,s.heap.get? b=Gu o->i.heap.get? b=Gu o)->i.gens=s.gens->i.os=s.os->At (c.own I) ρ G σ i->ed c I->i.heap.get? I=Gu o->y 0 o->(∀A:Hi,A.handled=Gw->sQ u w A G (a6 n) (fun Z=>True) I y)->Q (.ref I) i):G3 (GR u.prog w) A (K8 (.type "range") [.int n t]) (fun v i=>G3 (GR u.prog w) A (N4 v) Q E i) E s:=by
 refine call_range_1 ?_;refine wpAny_pyIter_range (IsRange.new ..) (small_one (by decide) (by decide) (by lia) (by lia)) ?_
 have l:Po 0 n 1=(n.toNat:Int):=by rw [rangeSize_one];split<;>lia
 have z:=a.push {cls:=.type "range",dict:=Gw,data:=.fields #[.int 0 s.toks,.int n t,.int 1 (s.toks+1)],slots:= #[]} (s.toks+2)
 rw [l];refine(fun(q:_)=>?_) trivial
 have m:∀ {f:HY} {k:M1},(∀b o,s.heap.get? b=Gu o->f.get? b=Gu o)->Q (.ref f.objs.size) {s with heap:=f.push {cls:=.type "range_iterator",data:=.fields #[H9 0,H9 (n.toNat:Int),H9 1]},toks:=k}:=fun{f k} p=>by
  have j:=a.grow (t:=k) p
  have g:(f.push {cls:=.type "range_iterator",data:=.fields #[H9 0,H9 (n.toNat:Int),H9 1]}).get? f.objs.size=Gu {cls:=.type "range_iterator",data:=.fields #[H9 0,H9 (n.toNat:Int),H9 1]}:=Hu _ rfl
  obtain⟨C,D⟩:=j.own (t:=k) B (fun Z Z e=>GU _ e) (aN _) g
  exact h _ _ _ (iW n.toNat) ((by
   cases e:s.heap.get? f.objs.size with
   |none=>rfl
   |some o=>exact absurd (HB (p _ _ e)) (HD _))) (fun Z Z e=>GU _ (p _ _ e)) rfl rfl C D g (by unfold iW;simp) fun A r=>r7 r
 exact m fun Z Z e=>GU _ e
noncomputable abbrev fy (e:GZ):Prop:=∀env x,Pc e env x=HH x
set_option tactic.hygienic true in
theorem Az {tg z:GZ} {t:ky} {j:E} {b:List IB} {D:List S} {pos:HR} (L:TgtOK names tg t) (hi:ao u d names z j) (M:fy z) (N:cP u d names b D):bB u d names (.For tg z b [] pos) (.for t j D):=by
 intro w A c ok F g y O ρ G σ s Q X a h;refine wpAny_For (az hi ok F g y a h fun v H J B x m n p i=>?_) (fun x=>M _ _)
 split at i
 ·rename_i l P;refine uO ok y.handled m p P fun I K o U Z Z Z Z q R T C S=>?_;refine IM (m_for L N ok F g y O (S A y.handled) R q (.refl _) T C i) fun r V k=>?_
  cases r with
  |ok f=>exact .le n k
  |error e=>exact k
 ·exact i.elim
set_option tactic.hygienic true in
theorem zg {x z:He} {k:Nat} {p O P pos:HR} {e:GZ} {J:E} {b:List IB} {K:List S} (R:dB names x k) (T:names.lookup z=Gu .globalImplicit) (U:z="range") (V:ao u d names e J) (W:noStar [e]) (Y:cP u d names b K):
  bB u d names (.For (.Name x p) (.Call (.Name z O) [e] [] P) b [] pos) (.forR k J K):=by
 subst U;intro w A c ok B g y cf ρ G σ s Q X a h;refine wpAny_For (cJ T (by decide) (by decide+kernel) (by decide+kernel) W (.inr ⟨"range",rfl⟩) ok B g a (az V ok B g y a h fun v L M C x j l m i=>?_)) (fun x=>rfl)
 obtain⟨n,rfl,D,F,i⟩:=i;obtain⟨t,rfl⟩:=aE m;refine mS ok y.handled j D F fun I N o sh Z Z Z Z q ap gI H S=>?_;refine IM (m_for (tg:=.Name x p) (t:=.loc k) (.name R) Y ok B g y cf (S A y.handled) ap q (.refl _) gI H i) fun r s' k=>?_
 cases r with
 |ok f=>exact .le l k
 |error e=>exact k
end
section
variable {u:U} {d:Nat} {names:List (He×G6)} {w:Hk} {A:Hi} {c:Cx} {ρ:List (Option V)} {G z:Gh} {σ σ':Sg} {s j:GD} {I:GW} {o:JE}
theorem gj.trans {Fs:List J5} {g:Gh} {σ₀:Sg} {k h h':HY} (x:gj Fs g σ₀ k G σ h) (y:gj Fs G σ h z σ' h'):gj Fs g σ₀ k z σ' h':=by
 revert Fs g σ₀ k h h';delta G z σ σ';delta Fs g σ₀ k h h'
 have L:∀b o,k.get? b=Gu o->(∀i,aT σ₀ i->b≠g.φ i/\b≠g.δ i)->∀i,aT σ i->b≠G.φ i/\b≠G.δ i:=fun b o e f i n=>by
  by_cases l:i<g.N
  ·have:=f i (x.dead i l n)
   rw [(x.le.φ i l).1,(x.le.φ i l).2];exact this
  ·have:=x.newφ i (HO l) n
   exact⟨fun q=>(by rw [q,this.1] at e;cases e),fun q=>(by rw [q,this.2] at e;cases e)⟩
 have p:∀b,h.get? b=Gw->k.get? b=Gw:=fun b H=>by
  cases e:k.get? b with
  |none=>rfl
  |some o=>obtain⟨M,J⟩:=x.there b ⟨o,e⟩;rw [H] at J;cases J
 refine⟨x.le.trans y.le,fun b o e f=>?_,fun b H=>y.there b (x.there b H),fun i n F=>?_,fun a o e=>?_,fun i n F=>?_⟩
 ·delta b o;obtain⟨r,B,C⟩:=x.keep b o e f;delta r;obtain⟨t,D,v⟩:=y.keep b r B (L b o e f);delta t;refine⟨t,D,?_⟩;rcases C with rfl|⟨m,K,rfl⟩
  ·exact v
  ·delta K;rcases v with rfl|⟨_,E,rfl⟩
   ·exact .inr ⟨m,K,rfl⟩
   ·delta E;exact .inr ⟨m,E,rfl⟩
 ·delta i
  by_cases l:i<G.N
  ·have:=x.newφ i n (y.dead i l F)
   rw [(y.le.φ i l).1,(y.le.φ i l).2];exact this
  ·have:=y.newφ i (HO l) F
   exact⟨p _ this.1,p _ this.2⟩
 ·delta a o;rcases y.newZ a o e with h|h|⟨i,n,h⟩
  ·exact x.newZ a o h
  ·exact .inr (.inl (p a h))
  ·injections i;intro n h
   by_cases l:i<g.N
   ·refine .inr (.inr ⟨i,x.dead i l n,?_⟩);rw [(x.le.φ i l).1,(x.le.φ i l).2] at h;exact h
   ·have:=x.newφ i (HO l) n
    rcases h with rfl|rfl
    ·exact .inr (.inl this.1)
    ·exact .inr (.inl this.2)
 ·delta i;exact x.dead i n (y.dead i (GQ n x.le.N) F)
theorem At.after (x:At c ρ G σ s) (g:aJ c) (i:ff c.base c.Fs c.Pv z σ' j.heap) (v:gj c.Fs G σ s.heap z σ' j.heap) (t:j.gens=s.gens) (B:j.os=s.os):At c ρ z σ' j:=by
 have n:∀b∈c.Pv,∀o,s.heap.get? b=Gu o->∃f,j.heap.get? b=Gu f/\f.data=o.data:=fun b C o e=>by
  obtain⟨f,l,r⟩:=v.keep b o e (x.inv.pv_ne C);refine⟨f,l,?_⟩;rcases r with rfl|⟨_,D,rfl⟩<;>rfl
 refine⟨i,x.envr.keeps v.le (n _ g.locPv) fun y a e=>n a (g.cellPv y a e).1,x.adv.trans v,t.trans x.gens,B.trans x.os,fun p q=>?_⟩
 have k:=g.pins p q
 obtain⟨f,l,r⟩:=v.keep _ _ (x.pins p q) (x.inv.pv_ne k.1);rcases r with rfl|⟨m,_⟩
 ·exact l
 ·exact absurd m k.2.2.1
theorem At.ns_after (x:At c ρ G σ s) (b:aJ c) (v:gj c.Fs G σ s.heap z σ' j.heap):∃m,j.heap.Ns c.env.locals m:=by
 obtain⟨m,f,_⟩:=x.envr;refine⟨m,jf f fun o e=>?_⟩;obtain⟨g,i,r⟩:=v.keep _ o e (x.inv.pv_ne b.locPv);refine⟨g,i,?_⟩;rcases r with rfl|⟨_,k,rfl⟩<;>rfl
theorem zY (B:aJ c) (a:At c ρ G σ s) {Q:V->Sg->Prop} {X:Sg->Prop}:(∀v j,eK c.base c.Fs c.Pv u G σ s Q X (.ok (.ret v)) j->hB c ρ G Q v j)/\∀e j,eK c.base c.Fs c.Pv u G σ s Q X (.error e) j->a9 u c X e j:=by
 revert Q X;delta u c ρ G σ s;delta Q X;refine⟨fun v j k=>?_,fun e j k=>?_⟩
 ·obtain⟨z,σ',x,i,f,g,m,E,q⟩:=k;exact⟨z,σ',x,a.after B i f g m,f.le,E,q⟩
 ·delta e j;obtain⟨z,σ',C,i,f,g,m,⟨b,n,p,F,H,J,K,r⟩,L,M⟩:=k;revert b n p;delta z σ' C;delta b n p;refine⟨z,σ',C,i,a.adv.trans f,g.trans a.gens,m.trans a.os,⟨b,n,p,F,H,J,K,?_⟩,fun q N=>?_,a.ns_after B f,M⟩
  ·rcases r with r|⟨t,O,P,x,R,S,T,U,W,Y,y⟩
   ·exact .inl r
   ·refine .inr ⟨t,O,P,x,R,S,T,U,W,Y,?_⟩;rcases y with y|⟨l,Z,_⟩
    ·exact .inl y
    ·cases Z
  ·cases e:c.s₀.heap.get? q with
   |none=>rfl
   |some o=>obtain⟨o',D⟩:=a.adv.there q ⟨o,e⟩;rw [L q N] at D;cases D
theorem At.base (b:aJ c) (a:At c ρ G σ s): @Ov Nat instLENat c.base.objs.size s.heap.objs.size:=by
 obtain⟨⟨o,e⟩,_⟩:=a.inv.pv _ b.locPv;exact GC b.baseLe (Ie (HB e))
theorem pz (ok:aJ c) (g:Gd u w c.base) (l:Rm A d c.Fs) (a:At c ρ G σ s) {f:GW} {i:List V} {b:List GB} (r:VReps G i b) {Q:V->Sg->Prop} {X:Sg->Prop} (h:ae u d f i Q X σ):
  G3 (GR u.prog w) A (K8 (.ref f) b) (hB c ρ G Q) (a9 u c X) s:=by
 have e:=zY (u:=u) ok a (Q:=Q) (X:=X)
 refine Kb (IM (h w A c.base c.Fs c.Pv G s b g l.toC a.inv (At.base ok a) r) fun r j k=>?_)
 cases r with
 |ok m=>
  cases m with
  |ret v=>exact e.1 v j k
  |_=>exact k.elim
 |error x=>exact e.2 x j k
theorem nY {K:I5} {f:GB} (e:K6 K f=Gx):∀h:HY,K.In h->∃k,(k=MV\/k=Me\/k=Lp)/\Lx (GR u.prog w) h (keeperOf f) k:=fun h X=>by
 obtain⟨k,b,l⟩:=looks_keep (M:=GR u.prog w) e X;exact⟨k,by rcases b with h|h;exact .inl h;exact .inr (.inl h),l⟩
theorem mI {first:List GB} {D:GB} {pos:HR} (K:K6 (u.Kf w.params) D=Gx) (L:aJ c) (M:c.env.scope.names=names) (g:Gd u w c.base) (N:Rm A d c.Fs) {i:List GZ} {l:List E} (S:SndEs u d names i l) (t:noStar i) (a:At c ρ G σ s) {Q:List V->Sg->Prop} {X:Sg->Prop} {P:GB->GD->Prop}
  (h:wpEs u.T (ae u d) ρ l Q X σ) (k:∀vs j z σ' rs,At c ρ z σ' j->G.Le z->VReps z rs vs->Q rs σ'->G3 (GR u.prog w) A (K8 D (first++vs)) P (a9 u c X) j):
  G3 (GR u.prog w) A (callWith pos D first (K7 pos (IL i c.env)) (Mn pos (K0 [] c.env))) P (a9 u c X) s:=by
 have n:∀ {i:List GZ},noStar i->(K7 pos (IL i c.env)).any (·.1)=Gz:=by
  intro i
  induction i with
  |nil=>intro _;rfl
  |cons e r O=>
   intro F;obtain⟨H,J⟩:=aL (env:=c.env) F;rw [H]
   show(Gz||(K7 pos (IL r c.env)).any (·.1))=Gz
   rw [O J];rfl
 refine KZ (P:=(u.Kf w.params).In) (by rw [n t];rfl) (nY K) ?_
 have p:=gf (pos:=pos) L M g N S t a h
 have b:G3 (GR u.prog w) A (spliced (K7 pos (IL i c.env))) (fun vs f=>(u.Kf w.params).In f.heap/\G3 (GR u.prog w) A (K8 D (first++vs)) P (a9 u c X) f) (a9 u c X) s:=
  G4 p (fun vs f R=>by obtain⟨v,q,rs,m,y,B,C⟩:=R;exact⟨g.inK.keeps m.inv.stays,k vs f v q rs m y B C⟩) fun Z Z x=>x
 match i,l,S,t,h,p,b with
 |[],[],_,_,h,_,b=>
  refine PySem.evalArgs_none ?_;exact⟨g.inK.keeps a.inv.stays,by simpa using k [] s G σ [] a (.refl _) .nil h⟩
 |e::r,l,S,t,h,p,b=>
  obtain⟨H,J⟩:=aL (env:=c.env) t;rw [H] at b ⊢;exact J2 b
 |[],_::_,S,_,_,_,_=>exact S.elim
theorem sJ {x:He} {f:GW} {p pos:HR} {l:List GZ} {b:List E} (q:names.lookup x=Gu .globalImplicit) (e:lookS x u.gl=Gu (.ref f)) (hd:(x==("__debug__":He))=Gz) (r:∀w:Hk,K6 (u.Kf w.params) (.ref f)=Gx)
  (S:SndEs u d names l b) (t:noStar l):ao u d names (.Call (.Name x p) l [] pos) (.callF f b):=by
 intro w A c i m g n ρ G σ s Q X a h;obtain⟨y,B,C,_⟩:=g.globals
 have D:s.heap.Ns c.env.globals y:=by rw [i.glob];exact B.keeps a.inv.stays
 refine Jp (HZ i.kind (by unfold Io;rw [m];exact q) (Jo D (C x _ e) ?_) hd)
 refine mI (r w) i m g n S t a h fun M j z σ' N F H J K=>?_;exact G4 (pz i g n F J K) (fun v L k=>k.le H) fun Z Z x=>x
theorem pi {env:J5} {pos:HR} {b:List GZ}:noStar b->(K7 pos (IL b env)).all (fun x=>!x.1)=Gx:=by
 induction b with
 |nil=>exact fun Z=>rfl
 |cons e r g=>
  intro f;obtain⟨i,k⟩:=aL (env:=env) f;rw [i];exact g k
theorem tc {T:mn} {n:Nat} {σ:Sg} {v:V} {f:GW} (h:dY T n σ v=Gu f):∃c,lookT c n T.meths=Gu f:=by
 unfold dY at h
 cases e:ny σ v with
 |none=>rw [e] at h;cases h
 |some r=>
  rw [e] at h;change ite _ _ _=_ at h
  split at h
  ·cases h
  ·exact⟨_,h⟩
set_option tactic.hygienic true in
theorem tn (q:∀w:Hk,fG u.T (u.Kf w.params)) {o:GZ} {L:E} {n:Nat} {x:He} {b pos:HR} {i:List GZ} {r:List E} (T:ao u d names o L) (U:da o) (V:nm n=x) (S:SndEs u d names i r) (M:noStar i)
  (F:(GL (i.length+([]:List J3).length+(if([]:List J3).isEmpty then 0 else 1) <30))=Gx) (W:(b.endLine==pos.line)=Gx):ao u d names (.Call (.Attribute o x b) i [] pos) (.callM n L r):=by
 subst V;intro w A c H N g J ρ G σ s Q X a h;rw [NH,U];refine Gy (az T H N g J a h fun v O P K y l t m e=>?_);refine Gy (HT ?_)
 split at e
 ·rename_i f D
  have p:Nr (i.length+([]:List J3).length) (K7 pos (IL i c.env)) (Mn pos (K0 [] c.env))=Gx:=by
   show((K7 pos (IL i c.env)).all (fun x=>!x.1)&&(Mn pos (K0 [] c.env)).all (fun x=>x.1.isSome)&&GL (i.length+([]:List J3).length+(if([]:List J3).isEmpty then 0 else 1) <30))=Gx
   rw [pi M,F];rfl
  have B:Kj Gx o c.env b pos=HH pos:=by unfold Kj;simp [W]
  have Y:K6 (u.Kf w.params) (.ref f)=Gx:=by
   obtain⟨C,D⟩:=tc D;exact(G0.mp (Hj.mp (q w).meths _ (ii D))).2
  unfold methodCall;rw [p];refine Gy (Hd (m6 (q w) g l m D ?_));refine Gy (MY B ?_);refine mI (first:=[v]) Y H N g J S M l e fun vs j z σ' rs a' R r' q'=>?_;exact G4 (pz H g J a' (.cons (m.mono R) r') q') (fun v b' k=>k.le (t.trans R)) fun Z Z x=>x
 ·exact e.elim
end
section
variable {base h:HY} {Fs:List J5} {m:List GW} {G d:Gh} {σ σ₁:Sg}
theorem gj.same (c:ff base Fs m G σ h):gj Fs G σ h G σ h:=
 ⟨.refl _,fun b o e Z=>⟨o,e,.inl rfl⟩,fun Z x=>x,fun i f a=>absurd a.1 (by rw [<-c.N];exact(l2 454041345) f),fun a o e=>.inl e,fun Z Z a=>a⟩
theorem bn {i j:Nat} (a:aT (σ.set i .dead) j):aT σ j/\j≠i:=by
 have b:j≠i:=fun e=>a.2 (by rw [Sg.set_cell,if_pos e])
 exact⟨⟨a.1,fun e=>a.2 (by rw [Sg.set_cell,if_neg b];exact e)⟩,b⟩
theorem gr (c:ff base Fs m G σ h) (i:Nat):ff base Fs m G (σ.set i .dead) h/\gj Fs G σ h G (σ.set i .dead) h:=by
 refine⟨⟨c.N,c.stays,c.frames,fun j f=>?_,fun j f=>c.live j (bn f).1,fun j f=>c.fresh j (bn f).1,fun a b g k=>c.inj a b (bn g).1 (bn k).1,c.froz,c.pv,c.fpv,c.sys⟩,
  ⟨.refl _,fun b o e Z=>⟨o,e,.inl rfl⟩,fun Z x=>x,fun j f a=>absurd (bn a).1.1 (by rw [<-c.N];exact(l2 454041345) f),fun a o e=>.inl e,fun j Z a=>(bn a).1⟩⟩
 rw [Sg.set_cell,if_neg (bn f).2];exact c.cells j (bn f).1
theorem nA {σ₀:Sg} {c:Gh} {a:GW} {o:JE} (g:ff base Fs m G σ h) (l:gj Fs c σ₀ h G σ h) (v:h.get? a=Gu o) (k:base.get? a=Gw) (y:G.Z a=Gw) (hp:a∉m) (s:∀j,aT σ j->G.φ j≠a/\G.δ j≠a)
  (z:∃i,aT σ₀ i/\(a=c.φ i\/a=c.δ i)):ff base Fs m (G.frz a o) σ h/\gj Fs c σ₀ h (G.frz a o) σ h:=by
 have t:=Gh.frz_le G a o y
 have p:∀b,b≠a->(G.frz a o).Z b=G.Z b:=fun b k=>if_neg k
 refine⟨⟨g.N,g.stays,g.frames,fun j n=>(g.cells j n).mono t (g.N▸n.1),g.live,fun j n b k=>?_,g.inj,fun b r e=>?_,fun b k=>?_,g.fpv,g.sys.1,?_⟩,
  ⟨l.le.trans t,l.keep,l.there,l.newφ,fun b r e=>?_,l.dead⟩⟩
 ·have f:=g.fresh j n b k
  refine⟨f.1,?_,f.2.2⟩;rw [p b];exact f.2.1;rcases k with rfl|rfl
  ·exact(s j n).1
  ·exact(s j n).2
 ·by_cases q:b=a
  ·subst q;rw [show(G.frz b o).Z b=Gu o from if_pos rfl] at e
   cases e;exact v
  ·rw [p b q] at e;exact g.froz b r e
 ·obtain⟨A,B,C⟩:=g.pv b k;exact⟨A,B,by rw [p b (fun e=>hp (e▸k))];exact C⟩
 ·obtain⟨r,u⟩:=g.sys.1;rw [p _ (fun e=>by rw [e,k] at u;cases u)];exact g.sys.2
 ·by_cases q:b=a
  ·subst q;exact .inr (.inr z)
  ·rw [p b q] at e;exact l.newZ b r e
theorem n8 {i:Nat} (l:ff base Fs m G σ h) (p:aT σ i) (c:ff base Fs m d σ₁ h) (g:gj Fs G (σ.set i .dead) h d σ₁ h) {b:GW} (r:b=G.φ i\/b=G.δ i):
  base.get? b=Gw/\b∉m/\(∀j,aT σ₁ j->d.φ j≠b/\d.δ j≠b)/\d.Z b=Gw:=by
 have f:=l.fresh i p b r
 refine⟨f.1,f.2.2,fun j k=>?_,?_⟩
 ·by_cases s:j<G.N
  ·obtain⟨t,u⟩:=bn (g.dead j s k)
   have:=l.inj i j p t (Hz u) b r
   rw [(g.le.φ j s).1,(g.le.φ j s).2];exact⟨this.1.symm,this.2.symm⟩
  ·have n:=g.newφ j (HO s) k
   obtain⟨⟨o,e⟩,_⟩:=c.live j k;rw [n.1] at e;cases e
 ·cases e:d.Z b with
  |none=>rfl
  |some o=>
   rcases g.newZ b o e with q|q|⟨j,k,q⟩
   ·rw [f.2.1] at q;cases q
   ·obtain⟨⟨z,v⟩,⟨A,y⟩⟩:=l.live i p;rcases r with rfl|rfl
    ·rw [q] at v;cases v
    ·rw [q] at y;cases y
   ·obtain⟨t,u⟩:=bn k
    have:=l.inj i j p t (Hz u) b r
    rcases q with q|q
    ·exact absurd q this.1
    ·exact absurd q this.2
theorem pX {c:List (Nat×V)}:∀ {f:List IK},ARep G c f->EKeys (c.map (·.1)) f/\VReps G (c.map (·.2)) (f.map (·.val)):=by
 induction c with
 |nil=>
  intro f r;subst r;exact⟨rfl,.nil⟩
 |cons n c i=>
  intro f r;obtain⟨e,g,rfl,k,j,l⟩:=r;obtain⟨a,b⟩:=i l;exact⟨⟨e,g,rfl,k,a⟩,.cons j b⟩
theorem qH {b:List (Int×V)}:∀ {c:List (Int×GB)},DRep G b c->VReps G (b.map (·.2)) (c.map (·.2)):=by
 induction b with
 |nil=>
  intro c r;subst r;exact .nil
 |cons l b f=>
  intro c r;obtain⟨e,g,rfl,k,i,j⟩:=r;exact .cons i (f j)
theorem mh {i:Nat} (j:ff base Fs m G σ h) (k:aT σ i) (c:ff base Fs m d σ₁ h) (l:gj Fs G (σ.set i .dead) h d σ₁ h) {b:GW} {o:JE} (n:b=G.φ i\/b=G.δ i) (g:h.get? b=Gu o):
  ff base Fs m (d.frz b o) σ₁ h/\gj Fs G σ h (d.frz b o) σ₁ h/\d.Le (d.frz b o):=by
 obtain⟨q,r,s,p⟩:=n8 j k c l n;obtain⟨e,f⟩:=nA c ((gr j i).2.trans l) g q p r s ⟨i,k,n⟩;exact⟨e,f,Gh.frz_le _ _ _ p⟩
theorem jJ {i:Nat} {c:Cell} (b:σ.cell i=c) (hi:i<σ.n) (hd:c≠.dead):aT σ i:=⟨hi,fun q=>hd (b.symm.trans q)⟩
theorem mi {vs K:List V} {σ':Sg} (f:FrzL σ vs K σ'):∀ {G:Gh} {A:List GB},ff base Fs m G σ h->VReps G vs A->∃U,ff base Fs m U σ' h/\gj Fs G σ h U σ' h/\VReps U K A:=by
 induction f with
 |nil=>exact fun s r=>⟨_,s,.same s,r⟩
 |keep _ H=>
  intro G A s r;obtain⟨u,A,rfl,ru,I⟩:=r;obtain⟨d,e,b,n⟩:=H s I;exact⟨d,e,b,.cons (ru.mono b.le) n⟩
 |tup _ _ H v=>
  intro G A s r;obtain⟨u,A,rfl,⟨a,y,k,rfl,z,E⟩,I⟩:=r;obtain⟨d,e,b,n⟩:=H s E;obtain⟨M,j,c,N⟩:=v e (I.mono b.le);exact⟨M,j,b.trans c,.cons ⟨a,y,k,rfl,(b.trans c).le.Z _ _ z,n.mono c.le⟩ N⟩
 |list J O _ _ H v=>
  intro G A s r;obtain⟨u,A,rfl,⟨W,rfl⟩,I⟩:=r
  have F:=jJ J O nofun
  have C:=s.cells _ F
  rw [J] at C;obtain⟨y,k,g,E⟩:=C;obtain⟨d,e,b,n⟩:=H (gr s _).1 E;obtain⟨j,c,P⟩:=mh s F e b (.inl rfl) g;obtain⟨B,p,i,D⟩:=v j (I.mono c.le);exact⟨B,p,c.trans i,.cons ⟨_,y,k,rfl,i.le.Z _ _ (if_pos rfl),n.mono (P.trans i.le)⟩ D⟩
 |dict J O _ _ H v=>
  intro G A s r;obtain⟨u,A,rfl,⟨W,rfl⟩,I⟩:=r
  have F:=jJ J O nofun
  have C:=s.cells _ F
  rw [J] at C;obtain⟨Q,⟨o,g,dd⟩,E⟩:=C;obtain⟨d,e,b,n⟩:=H (gr s _).1 (qH E);obtain⟨j,c,P⟩:=mh s F e b (.inl rfl) g;obtain⟨B,p,i,D⟩:=v j (I.mono c.le);exact⟨B,p,c.trans i,.cons ⟨_,Q,rfl,⟨o,i.le.Z _ _ (if_pos rfl),dd⟩,kY E,n.mono (P.trans i.le)⟩ D⟩
 |@inst σ σ₁ σ' a C as K l l' J O _ _ H v=>
  intro G A s r;obtain⟨u,A,rfl,⟨W,rfl⟩,I⟩:=r
  have F:=jJ J O nofun
  have X:=s.cells _ F
  rw [J] at X;obtain⟨g,Y,k,Z,E⟩:=X;obtain⟨ek,E⟩:=pX E;obtain⟨d,e,b,n⟩:=H (gr s _).1 E;obtain⟨j,c,P⟩:=mh s F e b (.inr rfl) Z;obtain⟨m1,m2,m3,m4⟩:=n8 s F e b (.inl rfl)
  have ne:G.φ a≠G.δ a:=fun q=>by
   have:=congrArg Obj.data (JM (g.symm.trans ((congrArg h.get? q).trans Z)))
   cases this
  have z2:(d.frz (G.δ a) (Nj Y k)).Z (G.φ a)=Gw:=(if_neg ne).trans m4
  obtain⟨p,i⟩:=nA j c g m1 z2 m2 m3 ⟨a,F,.inl rfl⟩
  have R:=Gh.frz_le _ _ (J0 C (G.δ a)) z2
  obtain⟨S,L,t,T⟩:=v p (I.mono i.le);exact⟨S,L,i.trans t,.cons ⟨_,_,Y,k,rfl,t.le.Z _ _ (if_pos rfl),(R.trans t.le).Z _ _ (if_pos rfl),ek,n.mono ((P.trans R).trans t.le)⟩ T⟩
end
section
variable {u:U} {d:Nat}
theorem mcall_frz {f:GW} {i:List V} {Q Q':V->Sg->Prop} {X:Sg->Prop} {σ:Sg} (m:ae u d f i Q' X σ) (k:∀v σ',Q' v σ'->∃t b,FrzL σ' [v] [t] b/\Q t b):ae u d f i Q X σ:=by
 intro w A n B C G s o g D E F H;refine IM (m w A n B C G s o g D E F H) fun r M h=>?_;unfold eK at h ⊢
 split at h
 ·obtain⟨N,σ',x,y,z,I,J,K,q⟩:=h;obtain⟨t,b,e,L⟩:=k _ _ q;obtain⟨p,j,l,c⟩:=mi e y (.cons K .nil);obtain⟨_,_,e,c,_⟩:=c;cases e;exact⟨p,b,t,j,z.trans l,I,J,c,L⟩
 ·exact h
 ·exact h
theorem kG {f:GW} {i b:List V} {Q:V->Sg->Prop} {X:Sg->Prop} {σ σ':Sg} (e:FrzL σ i b σ') (m:ae u d f b Q X σ'):ae u d f i Q X σ:=by
 intro w A n B C G s o g D E F H;obtain⟨p,j,c,t⟩:=mi e E H;refine IM (m w A n B C p s o g D j F t) fun r N h=>?_;unfold eK at h ⊢
 split at h
 ·obtain⟨v,σ',x,k,l,y,z,I,q⟩:=h;exact⟨v,σ',x,k,c.trans l,y,z,I,q⟩
 ·exact h
 ·obtain⟨v,σ',J,k,l,y,z,K,L,M⟩:=h;exact⟨v,σ',J,k,c.trans l,y,z,K,L,M⟩
end
section
variable {c:Cx} {ρ:List (Option V)} {G:Gh} {σ:Sg} {s:GD} {u:U} {d:Nat} {names:List (He×G6)}
theorem At.frz (a:At c ρ G σ s) (J:aJ c) {k:Nat} {y:He×G6} {v n:V} {σ':Sg} (H:c.env.scope.names[k]? =Gu y) (K:ρ[k]? =Gu (Gu v)) (e:FrzL σ [v] [n] σ'):∃f,At c (ρ.set k (Gu n)) f σ' s/\G.Le f:=by
 obtain⟨m,L,I,M⟩:=a.envr
 have t:∀(f:Gh) (u:GB),G.Le f->VRep f n u->(∀j x g,j≠k->c.env.scope.names[j]? =Gu x->ρ[j]? =Gu (Gu g)->f3 c.env f s.heap m x g)->f3 c.env f s.heap m y n->pF c.env (ρ.set k (Gu n)) f s.heap:=fun f u T r N O=>by
  refine⟨m,L,fun j x g z i=>?_,M⟩
  by_cases q:j=k
  ·subst q;rw [H] at z;cases z;rw [Ik] at i;simp only [if_true] at i
   split at i
   ·cases i;exact O
   ·cases i
  ·rw [Ik,if_neg (Hz q)] at i;exact N j x g q z i
 have p:∀u,VRep G v u->(∀f,VRep f n u->f3 c.env f s.heap m y n)->∃f,At c (ρ.set k (Gu n)) f σ' s/\G.Le f:=fun u P Q=>by
  obtain⟨f,C,l,B⟩:=mi e a.inv (.cons P .nil);obtain⟨_,_,R,B,_⟩:=B;cases R
  have A:=a.after J C l rfl rfl
  exact⟨f,⟨A.inv,t f u l.le B (fun j x g Z z i=>(I j x g z i).keeps l.le fun Z Z Z o e=>⟨o,e,rfl⟩) (Q f B),A.adv,A.gens,A.os,A.pins⟩,l.le⟩
 rcases I k y v H K with ⟨D,u,E,F⟩ |⟨D,b,u,E,F,S⟩
 ·exact p u F fun f r=>.inl ⟨D,u,E,r⟩
 ·exact p u S fun f r=>.inr ⟨D,b,u,E,F,r⟩
end
noncomputable def allL:Nat->(List GB->Prop)->Prop
 |0,P=>P []
 |n+1,P=>∀v,allL n fun l=>P (v::l)
theorem xh {l:List GB}:∀ {P:List GB->Prop},allL l.length P->P l:=by
 induction l with
 |nil=>exact fun h=>h
 |cons v l b=>exact fun{P} h=>b (P:=fun l=>P (v::l)) (h v)
def iI (K:I5) (c:Kp) (xs:List He) (n:Nat) (ds:List GB):Prop:=allL n fun b=>∀S,peek K S (bindArgs c ⟨b,[]⟩)=Gu (xs.zip (b++ds))
theorem pe {K:I5} {s:GD} {c:Kp} {xs:List He} {b ds:List GB} (X:K.In s.heap) (h:iI K c xs b.length ds):BindsTo s c ⟨b,[]⟩ (xs.zip (b++ds)):=
 fun M Z Z Z q=>(Looks.of_peek (M:=M) X (xh h _)).here q
theorem oP {xs:List He} {vs:List GB} {n:He} (h:n∉xs):(xs.zip vs).lookup n=Gw:=by
 induction xs generalizing vs with
 |nil=>rfl
 |cons x xs b=>
  cases vs with
  |nil=>rfl
  |cons v vs=>
   rw [List.zip_cons_cons,IN]
   have:(n==x)=Gz:=by simpa using fun e:n=x=>h (e▸.head _)
   rw [this];exact b fun q=>h (.tail _ q)
theorem qm {kd:He->Option G6} {b:List (He×GB)}:∀ {m:He->Option GB} {y:He},b.lookup y=Gw->bindL kd b m y=m y:=by
 induction b with
 |nil=>exact fun Z=>rfl
 |cons e r c=>
  intro m y h;rw [IN] at h
  cases q:y==e.1 with
  |true=>rw [q] at h;cases h
  |false=>
   rw [q] at h;refine(c h).trans ?_
   split
   ·exact if_neg (by simpa using q)
   ·rfl
theorem qs {kd:He->Option G6} {b:List (He×GB)}:∀ {m:He->Option GB} {y:He},b.lookup y=Gw->bindC kd b m y=m y:=by
 induction b with
 |nil=>exact fun Z=>rfl
 |cons e r c=>
  intro m y h;rw [IN] at h
  cases q:y==e.1 with
  |true=>rw [q] at h;cases h
  |false=>
   rw [q] at h;refine(c h).trans ?_
   split
   ·rfl
   ·exact if_neg (by simpa using q)
theorem oq {kd:He->Option G6} {xs:List He}:∀ {vs:List GB} {m:He->Option GB} {i:Nat} {y:He} {v:GB},xs.Nodup->xs[i]? =Gu y->vs[i]? =Gu v->kd y=Gu .local->bindL kd (xs.zip vs) m y=Gu v:=by
 induction xs with
 |nil=>intro _ _ _ _ _ _ h;cases h
 |cons x xs f=>
  intro vs m i y v b d c e
  cases vs with
  |nil=>cases c
  |cons g vs=>
   rw [IZ] at b
   cases i with
   |zero=>
    cases d;cases c;refine(qm (oP b.1)).trans ?_;rw [if_pos e];exact if_pos rfl
   |succ i=>exact f b.2 d c e
theorem t8 {kd:He->Option G6} {xs:List He}:∀ {vs:List GB} {m:He->Option GB} {i:Nat} {y:He} {v:GB},xs.Nodup->xs[i]? =Gu y->vs[i]? =Gu v->kd y≠Gu .local->bindC kd (xs.zip vs) m y=Gu v:=by
 induction xs with
 |nil=>intro _ _ _ _ _ _ h;cases h
 |cons x xs f=>
  intro vs m i y v b d c e
  cases vs with
  |nil=>cases c
  |cons g vs=>
   rw [IZ] at b
   cases i with
   |zero=>
    cases d;cases c;refine(qs (oP b.1)).trans ?_;rw [if_neg e];exact if_pos rfl
   |succ i=>exact f b.2 d c e
theorem xG {ks:List Nat}:∀ {b:List V} {ρ:List (Option V)} {k:Nat} {v:V},((ks.zip b).foldl (fun ρ c=>ρ.set c.1 (Gu c.2)) ρ)[k]? =Gu (Gu v)->(∃i:Nat,ks[i]? =Gu k/\b[i]? =Gu v)\/ρ[k]? =Gu (Gu v):=by
 induction ks with
 |nil=>exact .inr
 |cons g ks d=>
  intro b ρ k v h
  cases b with
  |nil=>exact .inr h
  |cons a b=>
   rcases d h with h|h
   ·obtain⟨i,e,f⟩:=h;exact .inl ⟨i+1,e,f⟩
   ·rw [Ik] at h
    split at h
    ·rename_i q
     split at h
     ·cases h;exact .inl ⟨0,congrArg Gu q,rfl⟩
     ·cases h
    ·exact .inr h
theorem sI {names:List (He×G6)} {xs:List He}:∀ {ks:List Nat} {i k:Nat},SlotsAt names xs ks->ks[i]? =Gu k->∃x,xs[i]? =Gu x/\dB names x k:=by
 induction xs with
 |nil=>
  intro ks i k b h
  cases ks with
  |nil=>cases h
  |cons _ _=>exact b.elim
 |cons x xs c=>
  intro ks i k b h
  cases ks with
  |nil=>exact b.elim
  |cons d ks=>
   cases i with
   |zero=>cases h;exact⟨x,rfl,b.1⟩
   |succ i=>exact c b.2 h
theorem s6 {names:List (He×G6)} {xs:List He}:∀ {ks:List Nat} {x:He},SlotsAt names xs ks->x∈xs->∃k,dB names x k:=by
 induction xs with
 |nil=>intro _ _ _ h;cases h
 |cons y xs c=>
  intro ks x b h
  cases ks with
  |nil=>exact b.elim
  |cons d ks=>
   cases h with
   |head=>exact⟨d,b.1⟩
   |tail _ h=>exact c b.2 h
theorem mo {names:List (He×G6)} (hd:(names.map (·.1)).Nodup) {k:Nat} {x:He×G6} (h:names[k]? =Gu x):names.lookup x.1=Gu x.2:=
 kind_at (env:={scope:={kind:=.function,names:=names,isGenerator:=Gz,isCoroutine:=Gz},locals:=0,globals:=0,cells:=[]}) hd h
theorem sD {names:List (He×G6)}:∀ {n:Nat} {acc:List (He×GW)} {x:He},(acc.lookup x).isSome=Gx->((MK n names acc).lookup x).isSome=Gx:=by
 induction names with
 |nil=>exact fun h=>h
 |cons e r b=>
  intro n acc x h;unfold MK
  split
  ·refine b ?_;rw [IN]
   split
   ·rfl
   ·exact h
  ·exact b h
theorem hO {names:List (He×G6)}:∀ {n:Nat} {acc:List (He×GW)} {x:He},(x,Jn)∈names->((MK n names acc).lookup x).isSome=Gx:=by
 induction names with
 |nil=>intro _ _ _ h;cases h
 |cons e r b=>
  intro n acc x h;unfold MK;rcases GK.mp h with h|h
  ·subst h;rw [if_pos (by rfl)]
   exact sD (by simp)
  ·split<;>exact b h
structure DK (K:I5) (fd:Kp) (body:List IB):Prop where
 kind:fd.scope.kind=.function
 co:fd.scope.isCoroutine=Gz
 gen:fd.scope.isGenerator=Gz
 glob:fd.globals=IC
 bi:fd.builtins=KP
 clo:fd.closure=[]
 body:fd.body=.stmts body
 code:codeIn K fd.code fd.qualname=Gx
inductive tG (u:U) (d:Nat) (K:I5) (f:GW) (k n:Nat) (ks:List Nat) (body':List S) (ds:List V):Prop where
 |mk (xs:List He) (body:List IB) (fo:JE) (fd:Kp) (dsv:List GB) (hf:K.lookup f=Gu fo) (hfd:fo.data=.func fd) (FN:DK K fd body) (nd:(fd.scope.names.map (·.1)).Nodup) (xd:xs.Nodup) (sl:SlotsAt fd.scope.names xs ks) (B:f6 u d fd.scope.names body body')
  (len:fd.scope.names.length=n) (bd:iI K fd xs k dsv) (rds:∀G,VReps G ds dsv)
noncomputable def bh (base:HY) (Fs:List J5) (Pv:List GW) (G:Gh) (σ:Sg) (s:GD) (env:J5):Cx:={base:=base,Fs:=env::Fs,env:=env,Pv:=env.locals::(env.cells.filterMap (fun p=>env.cells.lookup p.1)++Pv),pins:=[],G₀:=G,σ₀:=σ,s₀:=s,comp:=Gz}
noncomputable def dR (n:Nat) (ks:List Nat) (b:List V):List (Option V):=(ks.zip b).foldl (fun d c=>d.set c.1 (Gu c.2)) (IP n Gw)
section
variable {u:U} {d:Nat}
theorem oF {f:GW} {n:Nat} {ks:List Nat} {J:List S} {ds F:List V} {Q:V->Sg->Prop} {X:Sg->Prop} {σ:Sg} (hK:∀w:Hk,tG u d (u.Kf w.params) f F.length n ks J ds)
  (h:wpSs u.T (ae u d) J (dR n ks (F++ds)) (fun fl Y σ'=>match fl with|.next=>Q .none σ'|.ret v=>Q v σ'|.cont=>False) X σ):ae u (d+1) f F Q X σ:=by
 revert f n ks J ds F Q X σ;delta u d;delta f n ks J ds F Q X σ;intro w A l D E G s q' g rm I hb rv;delta w A l D E G s q';obtain⟨xs,r',fo,fd,C',hf,D',FN,nd,xd,sl,B,rfl,bd,E'⟩:=hK w;delta xs r' fo fd C'
 have K:(u.Kf w.params).In s.heap:=g.inK.keeps I.stays
 have ho:s.heap.get? f=Gu fo:=K f fo hf
 have t':=rv.append (E' G)
 rw [<-rv.length] at bd
 have u':s.heap.NoLimit:=g.lim.keeps I.stays
 refine Oe (by have u1:=rm.depth;have u2:KS=1000:=rfl;exact(l3 0x1b4989387a87209d89e93811c10) u1 u2) ho D' FN.co FN.gen FN.body (codeRec_of K FN.code) (pe K bd _ _ _ _ ?_)
 rw [FN.clo];refine Nt FN.kind (fun b hb=>?_) fun c he s' x=>?_
 ·obtain⟨hx,_⟩:=List.of_mem_zip (show(b.1,b.2)∈_ from hb)
  obtain⟨k,hk⟩:=s6 sl hx;rcases hk with hk|hk
  ·exact .inl (mo nd hk)
  ·exact .inr ⟨mo nd hk,hO (GN hk)⟩
 revert s';delta c;delta s'
 have U:c.locals=s.heap.objs.size:=by rw [he];rfl
 have N:c.cells=MK (s.heap.objs.size+1) fd.scope.names []:=by rw [he];rfl
 have R:c.scope=fd.scope:=by rw [he];rfl
 have W:c.frame=Gu c.locals:=by rw [he];rfl
 have F':c.globals=IC:=by rw [he];exact FN.glob
 have H':c.builtins=KP:=by rw [he];exact FN.bi
 obtain⟨h',tk,rfl⟩:=x.toInCall.same;delta h' tk
 have C:=x.toInCall.keep
 have O:s.heap.get? c.locals=Gw:=by rw [U];exact aN _
 have j':∀y a,c.cells.lookup y=Gu a->s.heap.get? a=Gw:=fun y a e=>by
  have u3:=x.above y a (K9 e)
  cases q:s.heap.get? a with
  |none=>rfl
  |some o=>
   have h1:=HB q
   rw [U] at u3;exact absurd (JN u3 h1) (HD _)
 have I':∀y a,c.cells.lookup y=Gu a->a≠c.locals:=fun y a e=>HK (x.above y a (K9 e))
 have i': @Ov Nat instLENat l.objs.size s.heap.objs.size:=hb
 have J':∀y a,c.cells.lookup y=Gu a->a∈(bh l D E G σ s c).Pv:=fun y a e=>.tail _ (GH.mpr (.inl (HI.mpr ⟨(y,a),K9 e,e⟩)))
 have ok:aJ (bh l D E G σ s c):=⟨by show c.scope.kind=_;rw [R];exact FN.kind,by show(c.scope.names.map _).Nodup;rw [R];exact nd,.head _,O,by show @Ov Nat instLENat l.objs.size c.locals;rw [U];exact i',
  fun y a e=>⟨J' y a e,I' y a e⟩,fun Y y a Y e=>j' y a e,fun y z a b e1 e2 ne q=>ne (name_of_addr x.apart (K9 e1) (by rw [q];exact K9 e2)),fun p hp=>(by cases hp),F',H',⟨c,D,c.locals,rfl,W,W⟩,
  fun e M L hL=>by
   rcases GK.mp M with rfl|M
   ·rw [W] at hL;cases hL;exact .head _
   ·exact .tail _ (GH.mpr (.inr (I.fpv e M L hL)))⟩
 have Z:∀b∈c.locals::c.cells.filterMap (fun p=>c.cells.lookup p.1),s.heap.get? b=Gw/\∃o,h'.get? b=Gu o:=fun b t=>by
  rcases GK.mp t with rfl|t
  ·obtain⟨o,_,_,e,_⟩:=x.toInCall.ns;exact⟨O,o,e⟩
  ·obtain⟨p,hm,hl⟩:=HI.mp t;obtain⟨o,e,_⟩:=x.cell _ _ hl;exact⟨j' _ _ hl,o,e⟩
 have split:∀b∈(bh l D E G σ s c).Pv,(s.heap.get? b=Gw/\∃o,h'.get? b=Gu o)\/b∈E:=fun b t=>by
  rcases GK.mp t with rfl|t
  ·exact .inl (Z _ (.head _))
  ·rcases GH.mp t with t|t
   ·exact .inl (Z _ (.tail _ t))
   ·exact .inr t
 have b':∀b,s.heap.get? b=Gw->l.get? b=Gw/\G.Z b=Gw:=fun b t=>by
  constructor
  ·cases e:l.get? b with
   |none=>rfl
   |some o=>have u4:=I.stays b o e;rw [t] at u4;cases u4
  ·cases e:G.Z b with
   |none=>rfl
   |some o=>have u5:=I.froz b o e;rw [t] at u5;cases u5
 have K':ff (bh l D E G σ s c).base (bh l D E G σ s c).Fs (bh l D E G σ s c).Pv G σ h':=by
  refine⟨I.N,fun b o e=>C b o (I.stays b o e),?_,fun i hi=>(I.cells i hi).keeps (C _) (C _),fun i hi=>?_,fun i hi b t=>⟨(I.fresh i hi b t).1,(I.fresh i hi b t).2.1,fun q=>?_⟩,I.inj,fun b o e=>C b o (I.froz b o e),fun b t=>?_,ok.fpv,⟨I.sys.1,I.sys.2⟩⟩
  ·exact Pd (by rw [R,FN.kind];decide) W x.toInCall.ns (b' _ O).1 (I.frames.of_keeps fun b o e Y=>⟨o,C b o e,rfl⟩)
  ·obtain⟨⟨o1,e1⟩,⟨o2,e2⟩⟩:=I.live i hi;exact⟨⟨o1,C _ _ e1⟩,⟨o2,C _ _ e2⟩⟩
  ·rcases split b q with ⟨q1,_⟩ |q1
   ·obtain⟨⟨o1,e1⟩,⟨o2,e2⟩⟩:=I.live i hi;rcases t with rfl|rfl
    ·rw [q1] at e1;cases e1
    ·rw [q1] at e2;cases e2
   ·exact(I.fresh i hi b t).2.2 q1
  ·rcases split b t with ⟨q1,q2⟩ |q1
   ·exact⟨q2,b' b q1⟩
   ·obtain⟨⟨o,e⟩,r⟩:=I.pv b q1;exact⟨⟨o,C _ _ e⟩,r⟩
 have v':pF (bh l D E G σ s c).env (dR fd.scope.names.length ks (F++ds)) G h':=by
  refine⟨_,x.toInCall.ns,fun k y v e1 e2=>?_,fun y hy=>?_⟩
  ·have T:fd.scope.names[k]? =Gu y:=by rw [<-R];exact e1
   rcases xG e2 with ⟨i,h1,h2⟩ |h3
   ·obtain⟨z,h3,h4⟩:=sI sl h1;obtain⟨vv,h5,h6⟩:=t'.get h2
    have hy:y.1=z:=by
     rcases h4 with h4|h4<;> · rw [h4] at T;cases T;rfl
    have y':c.kindOf y.1=Gu y.2:=kind_at ok.nodup e1
    rcases h4 with h4|h4
    ·rw [h4] at T;cases T;exact .inl ⟨rfl,vv,oq xd h3 h5 y',h6⟩
    ·rw [h4] at T;cases T
     have c':(z,Jn)∈fd.scope.names:=GN h4
     obtain⟨a,ha⟩:=HW.mp (hO (n:=s.heap.objs.size+1) (acc:=[]) c');rw [<-N] at ha
     have hc:=x.cell z a ha
     rw [t8 xd h3 h5 (by rw [y'];simp)] at hc
     exact .inr ⟨.inl rfl,a,vv,ha,hc,h6⟩
   ·rw [M4] at h3
    split at h3<;>cases h3
  ·have c':(y,Jn)∈fd.scope.names:=by rw [<-R];exact hy
   obtain⟨a,ha⟩:=HW.mp (hO (n:=s.heap.objs.size+1) (acc:=[]) c');rw [<-N] at ha;exact⟨a,_,ha,x.cell y a ha⟩
 have L':gj (bh l D E G σ s c).Fs (bh l D E G σ s c).G₀ (bh l D E G σ s c).σ₀ (bh l D E G σ s c).s₀.heap G σ h':=
  ⟨.refl _,fun b o e Y=>⟨o,C b o e,.inl rfl⟩,fun b hh=>by obtain⟨o,e⟩:=hh;exact⟨o,C b o e⟩,fun i hi ai=>absurd ai.1 (by rw [<-I.N];exact HQ.mpr hi),fun a o e=>.inl e,fun Y Y h=>h⟩
 have M':At (bh l D E G σ s c) (dR fd.scope.names.length ks (F++ds)) G σ {s with heap:=h',toks:=tk}:=⟨K',v',L',rfl,rfl,fun p hp=>(by cases hp)⟩
 have N':Rm (A.deeper c) d (bh l D E G σ s c).Fs:=⟨rm.handled,by have u6:=rm.depth;show A.depth+1+20 * d+20<=900;exact(l2 0x1b4989387a87a7181491801b498938749187a149187180) u6,by have u7:=rm.units;show A.units+3+100 * d+100<=9000;exact(l2 0x1b89293928729387a7181496801b89293928749687a149687380) u7,Nc rm.frames⟩
 have k':∀ {G':Gh} {σ':Sg} {ps:List GW} {H:HY},ff (bh l D E G σ s c).base (bh l D E G σ s c).Fs (ps++(bh l D E G σ s c).Pv) G' σ' H->ff l D (ps++E) G' σ' H:=fun{G' σ' ps H} i=>by
  have i1:=i.pv_le (Pv':=ps++(bh l D E G σ s c).Pv) (fun b hb=>hb) i.fpv
  refine⟨i.N,i.stays,i.frames.2.2,i.cells,i.live,fun j hj b t=>⟨(i.fresh j hj b t).1,(i.fresh j hj b t).2.1,fun q=>(i.fresh j hj b t).2.2 ?_⟩,i.inj,i.froz,fun b t=>i.pv b ?_,fun e M L hL=>GH.mpr (.inr (I.fpv e M L hL)),i.sys⟩
  ·rcases GH.mp q with q|q
   ·exact GH.mpr (.inl q)
   ·exact GH.mpr (.inr (.tail _ (GH.mpr (.inr q))))
  ·rcases GH.mp t with q|q
   ·exact GH.mpr (.inl q)
   ·exact GH.mpr (.inr (.tail _ (GH.mpr (.inr q))))
 have d':∀ {G':Gh} {σ':Sg} {H:HY},gj (bh l D E G σ s c).Fs (bh l D E G σ s c).G₀ (bh l D E G σ s c).σ₀ (bh l D E G σ s c).s₀.heap G' σ' H->gj D G σ s.heap G' σ' H:=fun{G' σ' H} v=>
  ⟨v.le,fun b o e f=>by
   obtain⟨o',e',r⟩:=v.keep b o e f;refine⟨o',e',?_⟩;rcases r with rfl|⟨m,r⟩
   ·exact .inl rfl
   ·refine .inr ⟨?_,r⟩;obtain⟨z',M,hL⟩:=HI.mp m;rcases GK.mp M with rfl|M
    ·rw [W] at hL;cases hL;rw [O] at e;cases e
    ·exact HI.mpr ⟨z',M,hL⟩,v.there,v.newφ,v.newZ,v.dead⟩
 have hn:(bh l D E G σ s c).env.scope.names=fd.scope.names:=by show c.scope.names=_;rw [R]
 refine⟨u'.keeps C,codeAny_func (G4 (B w (A.deeper c) (bh l D E G σ s c) ok hn g N' rfl rfl _ G σ _ _ X M' h) (fun f l' ⟨m',f',O',fl,P,n',g'⟩=>?_) fun e l' hx=>?_)⟩
 ·have A':∀v x,VRep m' x v->Q x f'->eK l D E u G σ s Q X (.ok (.ret v)) l':=fun v x rx qx=>by
   have i:=k' (ps:=[]) P.inv
   exact⟨m',f',x,i,d' P.adv,P.gens,P.os,rx,qx⟩
  cases fl with
  |next=>cases n';exact A' _ _ i6 g'
  |cont=>exact g'.elim
  |ret v=>obtain⟨vv,rfl,P'⟩:=n';exact A' _ _ P' g'
 ·exact yG ok (Nc rm.frames) hx fun R' B' p' ps i v hg ho Q' nw hX=>⟨B',p',ps,k' i,d' v,hg,ho,Q',nw,hX⟩
end
section
variable {u:U} {d:Nat} {names:List (He×G6)} {w:Hk} {A:Hi} {c:Cx} {ρ:List (Option V)} {G:Gh} {σ:Sg} {s:GD}
theorem ut (b:Bool):(if b=Gx then 1 else 0:Nat)<=1:=by cases b<;>decide
theorem wU (a:At c ρ G σ s) (C:GW):∃b,At c ρ b (σ.alloc (.inst C [])) {s with heap:=(s.heap.push Kc).push (J0 C s.heap.objs.size)}/\G.Le b/\VRep b (.ref σ.n) (.ref (s.heap.objs.size+1)):=by
 have f:(s.heap.push Kc).objs.size=s.heap.objs.size+1:=JK ..
 have j:s.heap.get? (s.heap.objs.size+1)=Gw:=by
  cases e:s.heap.get? (s.heap.objs.size+1) with
  |none=>rfl
  |some o=>exact absurd (HB e) (HQ.mpr (Hn _))
 have g:((s.heap.push Kc).push (J0 C s.heap.objs.size)).get? s.heap.objs.size=Gu Kc:=GU _ (Hu _ rfl)
 have i:((s.heap.push Kc).push (J0 C s.heap.objs.size)).get? (s.heap.objs.size+1)=Gu (J0 C s.heap.objs.size):=by
  have:=Hu (s.heap.push Kc) (o:=J0 C s.heap.objs.size) rfl
  rwa [f] at this
 refine⟨G.add (s.heap.objs.size+1) s.heap.objs.size,a.track (t:=s.toks) (cl:=.inst C []) (fun Z Z e=>GU _ (GU _ e)) j (aN _) ⟨_,i⟩ ⟨_,g⟩ ?_ (by simp),Gh.add_le _ _ _,i9 a⟩
 exact⟨by rw [dy.1,dy.2];exact i,[],0,by rw [dy.2];exact g,rfl⟩
def zV (T:mn) (M:aC) (C:GW) (b:List V) (Q:V->Sg->Prop) (X:Sg->Prop) (σ:Sg):Prop:=match lookC C T.inits with
 |some (Gu f)=>M f (.ref σ.n::b) (fun r e=>r=.none/\Q (.ref σ.n) e) X (σ.alloc (.inst C []))
 |some Gw=>match b with
  |[]=>Q (.ref σ.n) (σ.alloc (.inst C []))
  |_=>False
 |none=>False
set_option tactic.hygienic true in
theorem B1 (B:fG u.T (u.Kf w.params)) (ok:aJ c) (g:Gd u w c.base) (E:Rm A d c.Fs) (a:At c ρ G σ s) {C:GW} {j:List V} {i:List GB} (r:VReps G j i) {Q:V->Sg->Prop} {X:Sg->Prop}
  (h:zV u.T (ae u d) C j Q X σ):G3 (GR u.prog w) A (K8 (.ref C) i) (hB c ρ G Q) (a9 u c X) s:=by
 revert C j i Q X;delta u d w A c ρ G σ s;revert Q X;delta C j i;delta Q X
 have K:(u.Kf w.params).In s.heap:=g.inK.keeps a.inv.stays
 obtain⟨p,l,H,I⟩:=wU a C;delta p;unfold zV at h
 split at h
 ·rename_i f J;delta f
  have z:=Hj.mp B.inits _ (b6 J)
  simp only [jK,HM,beq_iff_eq] at z;refine Kb ?_;obtain⟨n,L,O,t,P⟩:=s;delta n L O t P;refine make_core (makes_of K z.1.1) (KH K z.2.1) (fun y=>bind_fn K y (beq_iff_eq.mp z.2.2)) (.inl rfl) ?_
  have R:D1 (A.under (.builtin "type.__call__" ⟨.ref C::i,[]⟩)) d c.Fs:=by
   have h1:=E.depth
   have h2:=E.units
   refine⟨E.handled,?_,?_,?_⟩
   ·have S:(It "type.__call__" ⟨.ref C::i,[]⟩).weight<=4:=by
     unfold Code.weight
     have:(It "type.__call__" ⟨.ref C::i,[]⟩).frames<=1:=by unfold Pp;exact ut _
     have hg:(It "type.__call__" ⟨.ref C::i,[]⟩).isGuard=Gz:=by rfl
     have hc:(It "type.__call__" ⟨.ref C::i,[]⟩).isCaller=Gz:=by rfl
     have hk:(It "type.__call__" ⟨.ref C::i,[]⟩).isCreation=Gx:=by rfl
     rw [hg,hc,hk];simp only [if_true,HC,if_false];exact(l1 0x1b1801b487087087180) this
    show A.depth+(It "type.__call__" ⟨.ref C::i,[]⟩).weight+20 * d+10<=900
    exact(l3 0x1b498938749187101b4821b4989387a871720) h1 S
   ·have S:(It "type.__call__" ⟨.ref C::i,[]⟩).cUnits<=4:=by
     have:(It "type.__call__" ⟨.ref C::i,[]⟩).frames<=1:=by unfold Pp;exact ut _
     show 1+3 * (It "type.__call__" ⟨.ref C::i,[]⟩).frames<=4
     exact(l1 0x3b1801b487a03818) this
    show A.units+(It "type.__call__" ⟨.ref C::i,[]⟩).cUnits+100 * d+50<=9000
    exact(l3 0x1b89293928749687101b4821b892939287293871720) h2 S
   ·show pushEnvs (It "type.__call__" ⟨.ref C::i,[]⟩).envs A.frames=_
    rw [E.frames];rfl
  have e:=zY (u:=u) ok l (Q:=fun r D=>r=.none/\Q (.ref σ.n) D) (X:=X)
  refine IM (h w _ c.base c.Fs c.Pv p _ _ g R l.inv (At.base ok l) (.cons I (r.mono H))) fun r U k=>?_
  cases r with
  |ok fl=>
   cases fl with
   |ret v=>
    obtain⟨G',T,x,a',W,rx,⟨rfl,q⟩⟩:=e.1 v U k;exact⟨tK rx,G',T,_,a',H.trans W,I.mono W,q⟩
   |_=>exact k.elim
  |error x=>exact e.2 x U k
 ·rename_i J
  have z:=Hj.mp B.inits _ (b6 J)
  simp only [jK,HM,beq_iff_eq] at z
  split at h
  ·subst r;obtain⟨m,F,N,k'⟩:=a.fr ok;delta m;refine Kb ?_
   have Y:=makes_of (M:=GR u.prog w) K z.1.1
   obtain⟨n,L,O,t,P⟩:=s;delta n L O t P
   have Z:=(N.push F Kc).push (F.push _) (J0 C n.objs.size)
   rw [JK] at Z;refine make_core Y (KH K z.2) (fun y=>ML (oi_bind y)) (.inr ⟨rfl,rfl⟩) ?_
   have t1:Lx (GR u.prog w) ((n.push Kc).push (J0 C n.objs.size)) (O1 (.ref (n.objs.size+1))) (.ref C):=(Mo (Z _ (.head _)).1).andThen .now
   have t2:Lx (GR u.prog w) ((n.push Kc).push (J0 C n.objs.size)) (O2 (.ref (n.objs.size+1)) (.type "object")) Gx:=t1.andThen (Y.top.keeps fun b o e=>GU _ (GU _ e))
   refine LA oi_plain entry_oi (@check_slot (GR u.prog w) _ _ _ "object.__init__" "object" "__init__" (.ref (n.objs.size+1)) [] [] _ oi_kind oi_split t2 (oi_args (.ref (n.objs.size+1))) ?_);rw [oi_run];exact GV (OC rfl ⟨p,_,_,l,H,I,h⟩)
  ·exact h.elim
 ·exact h.elim
theorem r8 (b:∀w:Hk,fG u.T (u.Kf w.params)) {x:He} {C:GW} {p pos:HR} {l:List GZ} {f:List E} (q:names.lookup x=Gu .globalImplicit) (e:lookS x u.gl=Gu (.ref C)) (hd:(x==("__debug__":He))=Gz)
  {i:Option GW} (r:lookC C u.T.inits=Gu i) (S:SndEs u d names l f) (t:noStar l):ao u d names (.Call (.Name x p) l [] pos) (.callC C f):=by
 intro w A c j m g n ρ G σ s Q X a h;obtain⟨y,z,B,_⟩:=g.globals
 have D:s.heap.Ns c.env.globals y:=by rw [j.glob];exact z.keeps a.inv.stays
 refine Jp (HZ j.kind (by unfold Io;rw [m];exact q) (Jo D (B x _ e) ?_) hd)
 have o:=Hj.mp (b w).inits _ (b6 r)
 simp only [jK,HM] at o;refine mI o.1.2 j m g n S t a h fun M N O F P H I J K=>?_;exact G4 (B1 (b w) j g n H J K) (fun v L k=>k.le I) fun Z Z x=>x
end
inductive ClsG (K:I5) (C:GW) (x:He) (f:GW):Prop
 |val (h1:Pj K (.ref C) "__getattribute__"=Gu (Gu (.builtin "type.__getattribute__"))) (h2:readsIn K C (.type "type")=Gx) (h3:K6 K (.ref f)=Gx) (h:findCls K (.ref C) (.type "type") x=Gu (.val (.ref f))):ClsG K C x f
 |get (h1:Pj K (.ref C) "__getattribute__"=Gu (Gu (.builtin "type.__getattribute__"))) (h2:readsIn K C (.type "type")=Gx) (h3:K6 K (.ref f)=Gx) (p:GW) {r:List GB} (h:findCls K (.ref C) (.type "type") x=Gu (.get (.builtin "staticmethod.__get__") (.ref p) .none (.ref C))) (h5:recIn K p "staticmethod"=Gu (.ref f::r)):ClsG K C x f
section
variable {u:U} {d:Nat} {names:List (He×G6)} {w:Hk} {A:Hi} {c:Cx} {ρ:List (Option V)} {G:Gh} {σ:Sg} {s:GD}
set_option tactic.hygienic true in
theorem x9 {C f:GW} {x:He} {pl:Kz Bool} (X:(u.Kf w.params).In s.heap) (h:ClsG (u.Kf w.params) C x f) {Q:GB×List GB->GD->Prop} {E:GB->GD->Prop} (k:∀tk,Q (.ref f,[]) {s with toks:=tk}):
  G3 (GR u.prog w) A (NR (.ref C) x pl) Q E s:=by
 revert C f x pl Q E;delta u w A s;revert Q E;delta C f x pl;delta Q E
 cases h with
 |val b g _ e=>exact method_cls X b (cls_value X g e rfl (k _))
 |get b g _ p e i=>exact method_cls X b (cls_bind X g e (Kb (sm_get (s:={s with toks:=s.toks+1}) X i (handed_on rfl (k _)))))
theorem sH {y x:He} {C f:GW} {B b pos:HR} {i:List GZ} {l:List E} (J:names.lookup y=Gu .globalImplicit) (e:lookS y u.gl=Gu (.ref C)) (hd:(y==("__debug__":He))=Gz) (D:∀w:Hk,ClsG (u.Kf w.params) C x f)
  (S:SndEs u d names i l) (F:noStar i)
  (p:(GL (i.length+([]:List J3).length+(if([]:List J3).isEmpty then 0 else 1) <30))=Gx) (K:(b.endLine==pos.line)=Gx):ao u d names (.Call (.Attribute (.Name y B) x b) i [] pos) (.callF f l):=by
 intro w A c o H g I ρ G σ s Q X a h;obtain⟨L,M,N,_⟩:=g.globals
 have O:s.heap.Ns c.env.globals L:=by rw [o.glob];exact M.keeps a.inv.stays
 have P:K6 (u.Kf w.params) (.ref f)=Gx:=by
  cases D w with
  |val _ _ q _=>exact q
  |get _ _ q _ _ _=>exact q
 rw [NH,show∀m r (t:Kz GB),LV _ m r t=t from fun Z Z Z=>rfl]
 refine Gy (HZ o.kind (by unfold Io;rw [H];exact J) (Jo O (N y _ e) ?_) hd)
 refine Gy (HT ?_)
 have j:Nr (i.length+([]:List J3).length) (K7 pos (IL i c.env)) (Mn pos (K0 [] c.env))=Gx:=by
  show((K7 pos (IL i c.env)).all (fun x=>!x.1)&&(Mn pos (K0 [] c.env)).all (fun x=>x.1.isSome)&&GL (i.length+([]:List J3).length+(if([]:List J3).isEmpty then 0 else 1) <30))=Gx
  rw [pi F,p];rfl
 have n:Kj Gx (.Name y B) c.env b pos=HH pos:=by unfold Kj;simp [K]
 unfold methodCall;rw [j];refine Gy (Hd (x9 (g.inK.keeps a.inv.stays) (D w) fun R=>?_));refine Gy (MY n ?_)
 have z:=a.tok R
 refine mI (first:=[]) P o H g I S F z h fun vs s' G' T rs z U V W=>?_;exact G4 (pz o g I z V W) (fun v Y k=>k.le U) fun Z Z x=>x
end
section
variable {M:Model} {A:Hi} {E:GB->GD->Prop} {s:GD} {env:J5}
def bu (M:Model) (A:Hi) (E:GB->GD->Prop) (use:Option (GB->Kz Unit)) (Q:GB->GD->Prop) (acc:GB) (cenv:J5) (r:MH) (c:GD):Prop:=
 match r,use with
 |.ok _,Gw=>∃m,c.heap.Ns cenv.locals m/\∀b,Ir cenv.locals c.heap b->Q acc {c with heap:=b}
 |.ok _,Gu u=>G3 M A (u acc) (fun Z d=>∃m,d.heap.Ns cenv.locals m/\∀b,Ir cenv.locals d.heap b->Q .none {d with heap:=b}) E c
 |.error x,_=>∃m,c.heap.Ns cenv.locals m/\∀b e,b.Ns cenv.locals e->Ir cenv.locals c.heap b->G3 M A (passOn "comprehension.variables-let-go" x cenv:Kz GB) (fun Z Z=>False) E {c with heap:=b}
theorem bk {e:GZ} {scope:IS} {pos:HR} {b first:Kz GB} {g:JI} {K:List JI} {cl:List (He×GW)} {use:Option (GB->Kz Unit)}
  {Q:GB->GD->Prop}
  (L:clausesOf e=g::K) (U:∀x,Pc g.iter env x=HH x) (t:∀(V:GB->GD->Prop) (p:GD) (P:List (He×GW)->GD->Prop),P cl p->G3 M A (closureFor scope env) P V p)
  (j:scope.kind=.function) (q:∀x∈scope.names,x.2=.local->scope.names.lookup x.1=Gu .local)
  (h:G3 M A first (fun x l=>G3 M A (N4 x) (fun H k=>G3 M A b (fun acc i=>
   G3 M A (LB scope env.globals cl [] env.qual Gw .none (Gu env)) (fun cenv c=>
    IT M A (.compStart e 0 H acc {cenv with scope:=I9 scope env}) (bu M A E use Q acc {cenv with scope:=I9 scope env}) c) E i) E k) E l) E s):
  G3 M A (La e scope env pos b Gz first use) Q E s:=by
 revert e scope pos b first g K cl use Q;delta M A E s env;delta e scope pos b first g K cl use Q;unfold La;rw [L]
 refine Gy (G4 h (fun x l z=>Gy (HT (Gy (MY (U x) (Gy (Hd (G4 z (fun H k B=>
  wpAny_standIf (Gy (G4 B (fun acc i C=>Gy (t _ _ _ (Gy (G4 C (fun cenv c D=>?_) fun Z Z d=>d)))) fun Z Z d=>d)))
   fun Z Z d=>d))))))) fun Z Z d=>d)
 revert H k acc i cenv c;delta x l;revert acc i cenv c;delta H k;revert cenv c;delta acc i;delta cenv c;dsimp only
 have I:∀x∈(scope.names.filter fun x=>(x.2==.local||x.2==.cell)&&x.1 != (".0":He)).reverse,x.2=.local->
   Io {cenv with scope:=I9 scope env} x.1=Gu .local:=fun x N J=>lookup_relabel_local (q x (H5.mp (Of.mp N)).1 J)
 have O:∀x∈(scope.names.filter fun x=>(x.2==.local||x.2==.cell)&&x.1 != (".0":He)).reverse.drop 1++(scope.names.filter fun x=>(x.2==.local||x.2==.cell)&&x.1 != (".0":He)).reverse.take 1,
   x.2=.local->Io {cenv with scope:=I9 scope env} x.1=Gu .local:=fun x N J=>by
  rcases GH.mp N with R|R
  ·exact I x (List.mem_of_mem_drop R) J
  ·exact I x (List.mem_of_mem_take R) J
 refine Hd (Gy (wpAny_attempt (Hd (wpAny_run (IM D fun r p v=>?_)))));delta r p
 cases r with
 |ok f=>
  cases use with
  |none=>
   obtain⟨m,F,v⟩:=v;exact Gy (Hd (MM (cenv:={cenv with scope:=I9 scope env}) j _ p m I F fun d G Z n=>GV (v d n)))
  |some u=>
   refine Gy (KN (Gy (Hd (G4 v (fun Z S o=>?_) fun Z Z d=>d))));obtain⟨m,F,o⟩:=o;exact Gy (MM (cenv:={cenv with scope:=I9 scope env}) j _ S m O F fun d G Z n=>GV (o d n))
 |error x=>
  have o:∃m,p.heap.Ns cenv.locals m/\∀d G,d.Ns cenv.locals G->Ir cenv.locals p.heap d->G3 M A (passOn "comprehension.variables-let-go" x {cenv with scope:=I9 scope env}:Kz GB) (fun Z Z=>False) E {p with heap:=d}:=by cases use<;>exact v
  obtain⟨m,F,v⟩:=o;exact Gy (Hd (MM (cenv:={cenv with scope:=I9 scope env}) j _ p m I F fun d G T n=>G4 (v d G T n) (fun Z Z f=>f.elim) fun Z Z y=>y))
theorem cQ {c:IS} (D:∀x,(x,HX)∈c.names->∃a,env.cells.lookup x=Gu a):
  ∃cl:List (He×GW),(∀(i:GB->GD->Prop) (f:GD) (P:List (He×GW)->GD->Prop),P cl f->G3 M A (closureFor c env) P i f)/\
   (∀x a,cl.lookup x=Gu a->env.cells.lookup x=Gu a)/\∀x,(x,HX)∈c.names->∃a,cl.lookup x=Gu a:=by
 revert c;delta M A env;delta c
 have t:∀(l:List (He×G6)) (d:List (He×GW)),(∀x,(x,HX)∈l->∃a,env.cells.lookup x=Gu a)->(∀x a,d.lookup x=Gu a->env.cells.lookup x=Gu a)->
   ∃cl:List (He×GW),(∀(i:GB->GD->Prop) (f:GD) (P:List (He×GW)->GD->Prop),P cl f->G3 M A (Oq l d fun x B=>do
    if x.2==.free then HH (.yield ((x.1, <-cellOf env x.1)::B)) else HH (.yield B)) P i f)/\
    (∀x a,cl.lookup x=Gu a->env.cells.lookup x=Gu a)/\(∀x,(d.lookup x).isSome=Gx->(cl.lookup x).isSome=Gx)/\∀x,(x,HX)∈l->(cl.lookup x).isSome=Gx:=by
  intro l
  induction l with
  |nil=>intro d _ r;exact⟨d,fun i f P h=>by rw [MB];exact GV h,r,fun Z h=>h,fun x h=>(by cases h)⟩
  |cons y l C=>
   intro d u r;obtain⟨n,k⟩:=y
   by_cases v:k=.free
   ·subst v;obtain⟨a,e⟩:=u n (.head _)
    have z:∀x b,Ph x ((n,a)::d)=Gu b->env.cells.lookup x=Gu b:=fun x b h=>by
     rw [IN] at h
     cases q:x==n with
     |true=>rw [q] at h;cases h;rw [beq_iff_eq.mp q];exact e
     |false=>rw [q] at h;exact r x b h
    obtain⟨cl,j,m,o,p⟩:=C ((n,a)::d) (fun x g=>u x (.tail _ g)) z;refine⟨cl,fun i f P h=>?_,m,fun x g=>o x ?_,fun x g=>?_⟩
    ·rw [Mf];simp only [beq_self_eq_true,if_true];exact Gy (Gy (wpAny_cellOf e (GV (j i f P h))))
    ·rw [IN]
     split
     ·rfl
     ·exact g
    ·rcases GK.mp g with q|q
     ·cases q;exact o _ (by simp)
     ·exact p x q
   ·obtain⟨cl,j,m,o,p⟩:=C d (fun x g=>u x (.tail _ g)) r;refine⟨cl,fun i f P h=>?_,m,o,fun x g=>?_⟩
    ·rw [Mf]
     have:(k==HX)=Gz:=by simpa using v
     simp only [this,HC,if_false];exact Gy (GV (j i f P h))
    ·rcases GK.mp g with q|q
     ·cases q;exact absurd rfl v
     ·exact p x q
 obtain⟨cl,j,m,o,p⟩:=t c.names [] D (fun Z Z h=>by cases h)
 refine⟨cl,fun i f P h=>?_,m,fun x g=>HW.mp (p x g)⟩
 have:=j i f P h
 exact Gy (G4 this (fun Z Z x=>GV x) fun Z Z x=>x)
end
structure bQ (names:List (He×G6)) (scope:IS) (vars:List (Option Nat)) (t:Nat) (x:He):Prop where
 kind:scope.kind=.function
 nd:(scope.names.map (·.1)).Nodup
 cell:∀y∈scope.names,y.2≠.cell
 vars:∀(k:Nat) y,scope.names[k]? =Gu y->(y.2≠.free/\(vars[k]?).join=Gw)\/(y.2=.free/\∃j,vars[k]? =Gu (Gu j)/\names[j]? =Gu (y.1,.cell))
 tgt:scope.names[t]? =Gu (x,.local)
noncomputable def dC (b:IS):List (He×G6):=b.names.map fun(n,k)=>if k==.free then(n,.cell) else(n,k)
noncomputable def pf (b:List (Option Nat)) (ρ:List (Option V)):List (Option V):=b.map fun
 |none=>Gw
 |some k=>(ρ[k]?).join
section
variable {u:U} {d:Nat} {names:List (He×G6)} {w:Hk} {A:Hi} {c:Cx} {ρ:List (Option V)} {G F:Gh} {σ σ':Sg} {s H B:GD} {I D C:GW} {o:JE} {l:IS} {E:List (Option Nat)} {t:Nat} {x:He}
theorem cI (st:bQ names l E t x) (b:aJ c) (f:c.env.scope.names=names):(I9 l c.env).names=dC l:=by
 delta names c l E t x;refine Jv fun y g=>?_;delta y;obtain⟨n,k⟩:=y;delta n k;obtain⟨i,m⟩:=II g;delta i
 by_cases e:k=.free
 ·subst e;rcases st.vars i _ m with ⟨h,_⟩ |⟨_,j,_,p⟩
  ·exact absurd rfl h
  ·have:=kind_at b.nodup (k:=j) (x:=(n,.cell)) (by rw [f];exact p)
   simp only [this,b.kind,beq_self_eq_true,Bool.and_self,if_true]
 ·have:(k==HX)=Gz:=by simpa using e
  simp only [this,MA,HC,if_false]
theorem At.weaken {b:List (Option V)} (a:At c ρ G σ s) (h:∀(k:Nat) v,b[k]? =Gu (Gu v)->ρ[k]? =Gu (Gu v)):At c b G σ s:=by
 obtain⟨m,e,f,g⟩:=a.envr;exact⟨a.inv,⟨m,e,fun k y v i j=>f k y v i (h k v j),g⟩,a.adv,a.gens,a.os,a.pins⟩
theorem At.toOwn (a:At c ρ G σ s) (k:∃o,s.heap.get? I=Gu o) (m:c.base.get? I=Gw/\G.Z I=Gw) (n:∀j,aT σ j->∀b,(b=G.φ j\/b=G.δ j)->b≠I):At (c.own I) ρ G σ s:=
 ⟨⟨a.inv.N,a.inv.stays,a.inv.frames,a.inv.cells,a.inv.live,fun i f b e=>⟨(a.inv.fresh i f b e).1,(a.inv.fresh i f b e).2.1,fun q=>by
  rcases GK.mp q with q|q
  ·exact n i f b e q
  ·exact(a.inv.fresh i f b e).2.2 q⟩,a.inv.inj,a.inv.froz,fun b e=>by
  rcases GK.mp e with rfl|e
  ·exact⟨k,m⟩
  ·exact a.inv.pv b e,fun g p L r=>.tail _ (a.inv.fpv g p L r),a.inv.sys⟩,a.envr,a.adv,a.gens,a.os,a.pins⟩
noncomputable def Cx.cmp (c:Cx) (l:IS) (cl:List (He×GW)) (I D C:GW) (G:Gh) (σ:Sg) (s:GD):Cx:=
 {base:=c.base,Fs:=c.Fs,env:=Jf l cl C c.env,Pv:=C::D::I::c.Pv,pins:=[],G₀:=G,σ₀:=σ,s₀:=s,comp:=Gx}
theorem kZ (J:aJ c) (a:At c ρ G σ B) {cl:List (He×GW)} {K:List (Option V)} (Q:B.heap.get? I=Gw) (R:B.heap.get? D=Gw) (S:B.heap.get? C=Gw) (L:D≠C) (M:D≠I) (N:C≠I)
  (g:At (c.cmp l cl I D C G σ B) K F σ' H) {f:HY} {ce:Cell} {tk:M1} {O:JE} (P:L7 I H.heap f) (Z:H.heap.get? D=Gu O) (rr:f.get? D=Gu O->iq (F.add D D) f F.N ce) (hd:ce≠.dead):
  At (c.own C) ρ (F.add D D) (σ'.alloc ce) {H with heap:=f,toks:=tk}/\ed c C:=by
 have i:ff c.base c.Fs c.Pv F σ' H.heap:=g.inv.pv_le (fun b p=>.tail _ (.tail _ (.tail _ p))) J.fpv
 have r:=a.after J i g.adv g.gens g.os
 have m:∀q,B.heap.get? q=Gw->q∉c.Pv/\c.s₀.heap.get? q=Gw:=fun q T=>⟨(a.free T).1.2.2,(a.free T).2.2⟩
 have U:=g.inv.pv C (.head _)
 have W:=g.inv.pv D (.tail _ (.head _))
 have X:=g.inv.pv I (.tail _ (.tail _ (.head _)))
 have v:=r.toOwn X.1 X.2 fun j n b p q=>(g.inv.fresh j n b p).2.2 (q▸.tail _ (.tail _ (.head _)))
 have y:=v.loose (h':=f) (t:=tk) J ⟨(m I Q).1,(m I Q).2⟩ fun b o nb e=>P b o nb e
 have z:=y.toOwn (by obtain⟨o,e⟩:=U.1;exact⟨o,P C o N e⟩) U.2 fun j n b p q=>(g.inv.fresh j n b p).2.2 (q▸.head _)
 have k:f.get? D=Gu O:=P D _ M Z
 have Y:qt (c.own C) F σ' D:=⟨⟨W.2.1,W.2.2,fun q=>by
  rcases GK.mp q with q|q
  ·exact L q
  ·exact(m D R).1 q⟩,fun j n=>⟨fun q=>(g.inv.fresh j n _ (.inl rfl)).2.2 (by rw [q];exact .tail _ (.head _)),fun q=>(g.inv.fresh j n _ (.inr rfl)).2.2 (by rw [q];exact .tail _ (.head _))⟩,(m D R).2⟩
 exact⟨z.adopt' Y Y ⟨_,k⟩ ⟨_,k⟩ (rr k) hd,(m C S).1,(m C S).2⟩
theorem Bc (st:bQ names l E t x) (i:aJ c) (P:c.env.scope.names=names) (a:At c ρ G σ B) {cl:List (He×GW)} (f:∀x a,cl.lookup x=Gu a->c.env.cells.lookup x=Gu a) (r:B.heap.get? C=Gw)
  (k: @Ov Nat instLENat c.base.objs.size C):aJ (c.cmp l cl I D C G σ B):=by
 have j:∀b∈c.Pv,b≠C:=fun b m q=>by
  obtain⟨⟨o,e⟩,_⟩:=a.inv.pv b m;rw [q,r] at e;cases e
 have g:∀b∈c.Pv,b∈(c.cmp l cl I D C G σ B).Pv:=fun b m=>.tail _ (.tail _ (.tail _ m))
 refine⟨st.kind,?_,.head _,r,?_,fun y b e=>⟨g b (i.cellPv y b (f y b e)).1,j b (i.cellPv y b (f y b e)).1⟩,fun h=>(by cases h),fun y z b v J K=>i.cellInj y z b v (f y b J) (f z v K),fun p M=>(by cases M),i.glob,i.bi,i.frame,fun n N L O=>g L (i.fpv n N L O)⟩
 ·show((I9 l c.env).names.map (·.1)).Nodup
  have:(I9 l c.env).names.map (·.1)=l.names.map (·.1):=by
   rw [HJ];refine Jv fun y Z=>?_
   show(if _ then _ else _:He×G6).1=_
   split<;>rfl
  rw [this];exact st.nd
 ·exact k
theorem Bs (st:bQ names l E t x) (ok:aJ c) (hn:c.env.scope.names=names) (a:At c ρ G σ B) {cl:List (He×GW)} (W:∀x a,cl.lookup x=Gu a->c.env.cells.lookup x=Gu a) (L:∀x,(x,HX)∈l.names->∃a,cl.lookup x=Gu a)
  (hI:B.heap.get? I=Gw) (hD:B.heap.get? D=Gw) (hC:B.heap.get? C=Gw) (n:∀b o,B.heap.get? b=Gu o->s.heap.get? b=Gu o) (gI:∃o,s.heap.get? I=Gu o) (gD:∃o,s.heap.get? D=Gu o) (ns:∃m,s.heap.Ns C m)
  (hg:s.gens=B.gens) (ho:s.os=B.os):At (c.cmp l cl I D C G σ B) (pf E ρ) G σ s:=by
 revert l E t x cl;delta names c ρ G σ s B I D C;revert cl;delta l E t x;delta cl
 have g:=a.grow (t:=s.toks) n
 have gC:∃o,s.heap.get? C=Gu o:=by obtain⟨m,o,_,_,e,_⟩:=ns;exact⟨o,e⟩
 have S:∀q,B.heap.get? q=Gw->(c.base.get? q=Gw/\G.Z q=Gw)/\∀j,aT σ j->∀b,(b=G.φ j\/b=G.δ j)->b≠q:=fun q hq=>by
  have f:=a.free hq
  refine⟨⟨f.1.1,f.1.2.1⟩,fun j hj b M=>?_⟩;rcases M with rfl|rfl
  ·exact(f.2.1 j hj).1
  ·exact(f.2.1 j hj).2
 have g1:=g.toOwn gI (S I hI).1 (S I hI).2
 have g2:=g1.toOwn gD (S D hD).1 (S D hD).2
 have g3:=g2.toOwn gC (S C hC).1 (S C hC).2
 obtain⟨m,hm⟩:=ns;delta m;obtain⟨mp,e',sl,cc⟩:=g.envr;delta mp;refine⟨g3.inv,⟨m,hm,fun k y v e1 N=>?_,fun y hy=>?_⟩,⟨.refl _,fun b o e Y=>⟨o,n b o e,.inl rfl⟩,fun b hh=>by obtain⟨o,e⟩:=hh;exact⟨o,n b o e⟩,fun i hi ai=>absurd ai.1 (by rw [<-a.inv.N];exact HQ.mpr hi),fun a o e=>.inl e,fun Y Y h=>h⟩,hg,ho,fun p hp=>(by cases hp)⟩
 ·delta k y v
  have O:(dC l)[k]? =Gu y:=by rw [<-cI st ok hn];exact e1
  unfold dC at O;rw [Hg] at O;obtain⟨z,T,rfl⟩:=GY.mp O;delta z;unfold pf at N;rw [Hg] at N;delta z;obtain⟨vj,P,N⟩:=GY.mp N;injections vj;intro P N;rcases st.vars k z T with ⟨h1,U⟩ |⟨h1,j,U,h3⟩
  ·rw [P] at U;subst U;cases N
  ·delta j;rw [P] at U;simp only [MU] at U;subst U
   have J:(ρ[j]?).join=Gu v:=N
   have e3:ρ[j]? =Gu (Gu v):=by
    cases q:ρ[j]? with
    |none=>rw [q] at J;cases J
    |some r=>rw [q] at J;simp only [Option.join_some] at J;rw [J]
   obtain⟨V,X⟩:=z;delta V X;subst h1
   have Z:=GN T
   obtain⟨b,M⟩:=L V Z;rcases sl j _ v (by rw [hn];exact h3) e3 with ⟨q,_⟩ |⟨_,b',uu,Q,R,r⟩
   ·cases q
   ·refine .inr ⟨.inl rfl,b,uu,M,?_,r⟩
    have:=W _ _ M
    simp only at Q;rw [this] at Q;cases Q;exact R
 ·delta y
  have d':(y,Jn)∈dC l:=by rw [<-cI st ok hn];exact hy
  obtain⟨z,T,K⟩:=Hm.mp d';delta z;obtain⟨V,X⟩:=z;delta V X
  by_cases q:X=.free
  ·subst q;simp only [beq_self_eq_true,if_true,Mp,and_true] at K;subst K;obtain⟨b,M⟩:=L V T;obtain⟨k,hk⟩:=II T;rcases st.vars k _ hk with ⟨h,_⟩ |⟨_,j,_,h3⟩
   ·exact absurd rfl h
   ·obtain⟨b',c',h4,h5⟩:=cc V (by rw [hn];exact GN h3)
    have:=W _ _ M
    rw [h4] at this;cases this;exact⟨_,c',M,h5⟩
  ·have:(X==HX)=Gz:=by simpa using q
   simp only [this,HC,if_false,Mp] at K;exact absurd K.2 (st.cell _ T)
end
section
variable {u:U} {d:Nat} {names:List (He×G6)} {w:Hk} {A:Hi} {c:Cx} {ρ:List (Option V)} {G j:Gh} {σ σ':Sg} {s B H:GD} {I D C:GW} {o:JE} {f:IS} {t:Nat} {x:He}
theorem At.priv2 (a:At c ρ G σ s) (l:aJ c) {q:GW} (m:q∈c.Pv) (n:c.s₀.heap.get? q=Gw) (hp:∀p∈c.pins,p.1≠q) (r:∀env∈c.Fs,env.frame≠Gu q) (v:c.env.locals≠q) (z:∀y b,c.env.cells.lookup y=Gu b->b≠q) {h':HY} {tk:M1} {k:JE}
  (i:Ir q s.heap h') (g:h'.get? q=Gu k):At c ρ G σ {s with heap:=h',toks:=tk}:=
 a.priv l m n hp i.2 ⟨k,g,.inr r⟩ (a.envr.keeps (.refl _) (fun o e=>⟨o,(i.2 _ v).trans e,rfl⟩) fun y b e o E=>⟨o,(i.2 b (z y b e)).trans E,rfl⟩)
structure w3 (c:Cx) (q:GW):Prop where
 pv:q∈c.Pv
 new:c.s₀.heap.get? q=Gw
 fr:∀env∈c.Fs,env.frame≠Gu q
 loc:c.env.locals≠q
 cells:∀y b,c.env.cells.lookup y=Gu b->b≠q
noncomputable def Cx.pins2 (c:Cx) (p q:GW×JE):Cx:={c with pins:=[p,q]}
theorem ji.pins2 {u:U} {c:Cx} {p q:GW×JE} {X:Sg->Prop} {e:GB} {s:GD} (h:ji u (c.pins2 p q) X e s):ji u c X e s:=by
 obtain⟨j,σ',b,L,g,i,k,l,m,n,r,v,y⟩:=h;exact⟨j,σ',b,L,g,i,k,l,m,n,r,v,y⟩
theorem ox (g:aJ c) {p q:GW×JE} (hp:w3 c p.1) (m:w3 c q.1):aJ (c.pins2 p q):=
 ⟨g.kind,g.nodup,g.locPv,g.locNew,g.baseLe,g.cellPv,g.cellNew,g.cellInj,fun r k=>by
  have i:w3 c r.1:=by
   rcases GK.mp k with rfl|k
   ·exact hp
   ·rcases GK.mp k with rfl|k
    ·exact m
    ·cases k
  refine⟨i.pv,fun e=>i.loc e.symm,fun z=>?_,fun y b e z=>i.cells y b e z.symm⟩;obtain⟨l,n,v⟩:=HI.mp z;exact i.fr l n v,g.glob,g.bi,g.frame,g.fpv⟩
theorem qy {g' c':GZ} {J:E} {px pos:HR} (he:ao u d names g' J) (ok:aJ c) (j':c.pins=[]) (hn:c.env.scope.names=names) (g:Gd u w c.base) (rm:Rm A d c.Fs) {L:Gh} {l:List V} {st:Sg->Prop} {sh:Nat->JE->Prop} (S:sQ u w A L l st I sh)
  (oI:w3 c I) (oD:w3 c D) (q':I≠D) (r':names[t]? =Gu (x,.local)) (F':∀v,ρ[t]? ≠Gu (Gu v)) (hl:l.length<=1000000)
  (a:At c ρ G σ s) (le:L.Le G) (gI:s.heap.get? I=Gu o) (h0:sh 0 o) {n0:Nat} (gD:s.heap.get? D=Gu (HP #[] n0)) {Q:List V->Sg->Prop} {X:Sg->Prop} {R:MH->GD->Prop}
  (h:compW (fun i Q' X' M=>wpE u.T (ae u d) (ρ.set t (Gu i)) J Q' X' M) st X l [] Q σ)
  (H':∀B j σ' W items n h' tk,At c ρ j σ' B->G.Le j->B.heap.get? D=Gu (HP items n)->VReps j W items.toList->Q W σ'->L7 I B.heap h'->R (.ok .next) {B with heap:=h',toks:=tk})
  (I':∀e B,ji u c X e B->R (.error e) B):
  IT (GR u.prog w) A (.compLoop (.ListComp g' [⟨.Name x px,c',[],0⟩] f pos) 0 (.ref I) (.ref D) c.env) R s:=by
 revert I D o f t x g' c' J px pos L l st sh n0 Q X R;delta u d names w A c ρ G σ s;revert pos L l st sh n0 Q X R;delta I D o f t x g' c' J px;revert n0 Q X R;delta pos L l st sh;revert Q X R;delta n0;delta Q X R
 have fr:=rm.frames
 refine codeAny_compLoop_list (fun n s=>∃i W items Y j σ o,n=l.length+1 - i/\i<=l.length/\W.length=i/\At c ρ j σ s/\G.Le j/\s.heap.get? I=Gu o/\sh i o/\s.heap.get? D=Gu (HP items Y)/\VReps j W items.toList/\
   compW (fun i Q' X' M=>wpE u.T (ae u d) (ρ.set t (Gu i)) J Q' X' M) st X (l.drop i) W Q σ) ?_ (l.length+1) ⟨0,[], #[],n0,G,σ,o,rfl,G7 _,rfl,a,.refl _,gI,h0,gD,.nil,h⟩
 rintro n s ⟨i,W,items,Y,d',σ,o,rfl,hi,k',a,O,gI,l',gD,rr,h⟩
 injections s i W items Y d' σ o;intro hi k' a O gI l' gD rr h
 by_cases e':i<l.length
 ·have hd:l.drop i=l[i]::l.drop (i+1):=Kw e'
  rw [hd] at h;refine S.item i l[i] a (le.trans O) h.1 oI.pv gI l' (Hb e') fun vx h' tk o' t' u' sb rx=>?_;delta vx h' tk o'
  have J':h'.get? D=Gu (HP items Y):=(sb.2 D (Hz q')).trans gD
  have T:=a.priv2 (tk:=tk) ok oI.pv oI.new (fun p hp=>by rw [j'] at hp;cases hp) oI.fr oI.loc oI.cells sb t'
  have m':=ox (p:=(I,o')) (q:=(D,HP items Y)) ok oI oD
  have aP:At (c.pins2 (I,o') (D,HP items Y)) ρ d' σ {s with heap:=h',toks:=tk}:=⟨T.inv,T.envr,T.adv,T.gens,T.os,fun r hr=>by
   rcases GK.mp hr with rfl|hr
   ·exact t'
   ·rcases GK.mp hr with rfl|hr
    ·exact J'
    ·cases hr⟩
  have v':(c.pins2 (I,o') (D,HP items Y)).env.scope.names=names:=hn
  refine Iy (dM (c:=c.pins2 (I,o') (D,HP items Y)) m' v' aP (.inl r') (.inr r') rx fun y' z'=>?_);delta y'
  refine G4 (az he m' v' g rm z' h.2 (P:=fun v b=>G3 (GR u.prog w) A (K8 (.builtin "list.append") [.ref D,v]) (fun Z f'=>∃m,m<l.length+1 - i/\∃i W items Y j σ o,m=l.length+1 - i/\i<=l.length/\W.length=i/\At c ρ j σ f'/\G.Le j/\f'.heap.get? I=Gu o/\sh i o/\f'.heap.get? D=Gu (HP items Y)/\VReps j W items.toList/\
   compW (fun i Q' X' M=>wpE u.T (ae u d) (ρ.set t (Gu i)) J Q' X' M) st X (l.drop i) W Q σ) (Nb (GR u.prog w) A c.env fun e B=>R (.error e) B) b) fun v b b' K y z i' A' B'=>?_) (fun Z Z x=>x) fun e B hx=>?_
  ·delta v b b' K y
   have p':b.heap.get? I=Gu o':=z.pins (I,o') (.head _)
   have U:b.heap.get? D=Gu (HP items Y):=z.pins (D,HP items Y) (.tail _ (.head _))
   have C':Je _=_:=rr.length
   have D':At c ρ b' K b:=(show At c _ b' K b from⟨z.inv,z.envr,z.adv,z.gens,z.os,fun p hp=>by rw [j'] at hp;cases hp⟩).weaken fun k v e=>by
    by_cases q:k=t
    ·subst q;exact absurd e (F' v)
    ·rw [Ik,if_neg (Hz q)];exact e
   refine call_meets OB (cC U).1 F.entry_list_append (F.args_list_append_2 _ _) (PySem.list_append D items Y v (by rw [C',k'];exact(l2 0x1b09492949f811c101b090909090909180) hl e')) ⟨U,?_⟩
   obtain⟨n',g2⟩:∃n',(b.heap.update D (Hv fun xs=>xs.push v)).get? D=Gu (HP (items.push v) n'):=⟨_,Ly (h:=b.heap) (l:=D) U (fun xs=>xs.push v)⟩
   have E':=D'.priv2 (tk:=b.toks) (h':=b.heap.update D (Hv fun xs=>xs.push v)) ok oD.pv oD.new (fun p hp=>by rw [j'] at hp;cases hp) oD.fr oD.loc oD.cells (P8 ..) g2
   exact⟨l.length+1 - (i+1),by lia,i+1,W++[y],items.push v,n',b',K,o',rfl,e',by simp [k'],E',O.trans i',(Ho _ _ (Hz q')).trans p',u',g2,by rw [IF];exact(rr.mono i').append (.cons A' .nil),B'⟩
  ·exact jL m' fr hx fun K' N=>I' e K' N.pins2
 ·have L':i=l.length:=IH ((l2 454040336) hi) ((l2 520166160) e')
  subst L';rw [Od] at h;refine S.stop a (le.trans O) h.1 oI.pv gI l' fun h' tk eb=>?_;exact H' s d' σ W items Y h' tk a O gD rr h.2 eb
end
section
variable {u:U} {d:Nat} {names:List (He×G6)} {w:Hk} {A:Hi} {c:Cx} {ρ:List (Option V)} {G B:Gh} {σ σ':Sg} {s p f:GD} {I D C:GW} {o:JE} {scope:IS} {j:List (Option Nat)} {t:Nat} {x:He}
theorem vb (l:aJ c) (a:At c ρ G σ f) {cl:List (He×GW)} (hC:f.heap.get? C=Gw) {X:Sg->Prop} {e:GB} (N:ji u (c.cmp scope cl I D C G σ f) X e p) {h':HY} (n:Ir C p.heap h') (ex:∃o,h'.get? C=Gu o):
  ji u c X e {p with heap:=h'}:=by
 revert scope cl X e h';delta u c ρ G σ p f I D C;revert h';delta scope cl X e;delta h';obtain⟨B,σ',O,L,hf,iv,av,hg,ho,nt,nw,⟨m,hm⟩,hX⟩:=N;revert m;delta B σ' O L;delta m
 have P:gj c.Fs c.G₀ c.σ₀ c.s₀.heap B σ' p.heap:=a.adv.trans av
 have i:∀b,f.heap.get? b=Gw->c.s₀.heap.get? b=Gw:=fun b g=>(a.free g).2.2
 have Q:ff c.base c.Fs ((C::O)++c.Pv) B σ' p.heap:=iv.pv_le (fun b g=>by
  rcases GK.mp g with rfl|g
  ·exact GH.mpr (.inr (.head _))
  ·rcases GH.mp g with q|q
   ·exact GH.mpr (.inl q)
   ·exact GH.mpr (.inr (.tail _ (.tail _ (.tail _ q))))) fun k R L S=>GH.mpr (.inr (l.fpv k R L S))
 have T:∀b∈C::O,c.s₀.heap.get? b=Gw:=fun b g=>by
  rcases GK.mp g with rfl|g
  ·exact i _ hC
  ·exact i _ (nw b g)
 have v:C∉c.Pv:=(a.free hC).1.2.2
 have cF:C∉eG c.Fs:=fun q=>by
  obtain⟨k,R,S⟩:=HI.mp q;exact v (l.fpv k R C S)
 obtain⟨y,oe,E,F,ot,ts,rfl,ha,H,J,rfl,U,h1,ht,K,h3⟩:=nt;delta y oe E F ot ts
 have V:p.heap.Ns C m:=hm
 have M:∀q o E,p.heap.get? q=Gu o->o.data=.fields E->q≠C:=fun q o E e J z=>by
  obtain⟨o',_,_,W,Y,_⟩:=V;rw [z,W] at e;cases e;rw [Y] at J;cases J
 have ga:=(n.2 _ (M y _ _ ha J)).trans ha
 have gt:=(n.2 _ (M F _ _ ht K)).trans ht
 have gg:∀b∈[y,F],∃o,h'.get? b=Gu o:=fun b g=>by
  rcases GK.mp g with rfl|g
  ·exact⟨_,ga⟩
  ·rcases GK.mp g with rfl|g
   ·exact⟨_,gt⟩
   ·cases g
 obtain⟨i',a',n'⟩:=gB (ps':=[y,F]) (h':=h') Q P T l.fpv (fun b o e q Z=>(n.2 b fun z=>q (z▸.head _)).trans e) (fun b g o e=>⟨o.slots,(n.2 b fun z=>cF (z▸g)).trans e⟩) (fun b g=>⟨gg b g,.inl (.tail _ g)⟩) (fun b g=>by
   rcases GK.mp g with rfl|g
   ·exact ex
   ·exact gg b g)
 refine⟨B,σ',_,L,hf,i',a',hg.trans a.gens,ho.trans a.os,⟨y,oe,E,F,ot,ts,rfl,ga,H,J,rfl,U,h1,gt,K,h3⟩,n',?_,hX⟩;obtain⟨mp,b'⟩:=a.ns_after l av;obtain⟨o',es,ep,W,r⟩:=b';exact⟨mp,o',es,ep,(n.2 _ fun z=>v (by rw [<-z];exact l.locPv)).trans W,r⟩
theorem ql (v:aJ c) {X:Sg->Prop} {e:GB} {b:String} {env:J5} (y:env.frame=c.env.frame) (N:ji u c X e s) {q:Type} {Q:q->GD->Prop}:G3 (GR u.prog w) A (PySem.passOn b e env:Kz q) Q (a9 u c X) s:=by
 obtain⟨B,σ',T,L,z,U,V,W,Y,⟨a,Z,vs,t,ot,ts,rfl,E,r,F,rfl,H,J,ht,K,h3⟩,nw,_,hX⟩:=id N;refine Gy (JT E F J ?_);rw [if_neg (by simp)]
 refine Gy (gY v N fun M i g k O P l m x R S n=>wpAny_throw ?_);exact⟨i,g,k,O,P,l,m,x _ (.inr y),R,S,n⟩
theorem lj (st:bQ names scope j t x):(dC scope)[t]? =Gu (x,.local):=by
 rw [Hg,st.tgt];rfl
theorem ro (st:bQ names scope j t x) (v:V):(pf j ρ)[t]? ≠Gu (Gu v):=fun e=>by
 unfold pf at e;rw [Hg] at e;obtain⟨k,b,e⟩:=GY.mp e;rcases st.vars t _ st.tgt with ⟨_,g⟩ |⟨i,_⟩
 ·rw [b] at g;subst g;cases e
 ·cases i
structure Dd (c:Cx) (scope:IS) (cl:List (He×GW)) (j:List (Option Nat)) (ρ:List (Option V)) (G:Gh) (σ:Sg) (f:GD) (I D C:GW) (o ob:JE) (s₃:GD):Prop where
 nI:f.heap.get? I=Gw
 nD:f.heap.get? D=Gw
 nC:f.heap.get? C=Gw
 DC:D≠C
 DI:D≠I
 CI:C≠I
 ok:aJ (c.cmp scope cl I D C G σ f)
 oI:w3 (c.cmp scope cl I D C G σ f) I
 oD:w3 (c.cmp scope cl I D C G σ f) D
 at':At (c.cmp scope cl I D C G σ f) (pf j ρ) G σ s₃
 gI:s₃.heap.get? I=Gu o
 gD:s₃.heap.get? D=Gu ob
theorem qN (g:aJ c) (a:At c ρ G σ f) {cl:List (He×GW)} (i:f.heap.get? C=Gw) {X:Sg->Prop} {e:GB} (N:ji u (c.cmp scope cl I D C G σ f) X e p) {use:Option (GB->Kz Unit)} {P:GB->GD->Prop}:
  bu (GR u.prog w) A (a9 u c X) use P (.ref D) (Jf scope cl C c.env) (.error e) p:=by
 obtain⟨_,_,_,_,_,_,_,_,_,_,_,⟨m,k⟩,_⟩:=id N;refine⟨m,k,fun q r b l=>?_⟩;obtain⟨v,_,_,n,_⟩:=b;exact ql (env:=Jf scope cl C c.env) g rfl (vb g a i N l ⟨_,n⟩)
theorem qU {use:Option (GB->Kz Unit)} {e:GZ} {S:String} {Q:Data} (b':sizeOk Q) (c':Obj.isFreed {cls:=.type S,dict:=Gw,data:=Q}=Gz) (Z:bQ names scope j t x) (R:aJ c) (hn:c.env.scope.names=names)
  (a:At c ρ G σ f) {v:List (He×GW)} (J:∀x a,v.lookup x=Gu a->c.env.cells.lookup x=Gu a) (T:∀x,(x,HX)∈scope.names->∃a,v.lookup x=Gu a)
  (hI:f.heap.get? I=Gw) (l:∀b o,f.heap.get? b=Gu o->s.heap.get? b=Gu o) (hg:s.gens=f.gens) (ho:s.os=f.os) (gI:s.heap.get? I=Gu o)
  {P:GB->GD->Prop} {X:Sg->Prop} {E':GB->GD->Prop}
  (h:∀D C i,Dd c scope v j ρ G σ f I D C o {cls:=.type S,dict:=Gw,data:=Q} i->
   IT (GR u.prog w) A (.compStart e 0 (.ref I) (.ref D) (Jf scope v C c.env)) (bu (GR u.prog w) A (a9 u c X) use P (.ref D) (Jf scope v C c.env)) i):
  G3 (GR u.prog w) A (newObj (.type S) Q) (fun U i=>G3 (GR u.prog w) A (LB scope c.env.globals v [] c.env.qual Gw .none (Gu c.env)) (fun H V=>
   IT (GR u.prog w) A (.compStart e 0 (.ref I) U {H with scope:=I9 scope c.env}) (bu (GR u.prog w) A (a9 u c X) use P U {H with scope:=I9 scope c.env}) V) E' i) E' s:=by
 refine KY (hd:=b') (wpAny_newFunctionEnv Z.cell (by intro y hy;simp at hy) (fun m k g=>?_) Z.kind)
 generalize K:s.heap.push {cls:=.type S,dict:=Gw,data:=Q}=E at k g ⊢
 have hC:E.objs.size=s.heap.objs.size+1:=by rw [<-K,JK]
 have F:∀b,@LT.lt Nat instLTNat b s.heap.objs.size->b≠E.objs.size/\b≠s.heap.objs.size:=fun b hb=>⟨by rw [hC];exact G9 (GF hb),G9 hb⟩
 have L:s.heap.objs.size≠E.objs.size:=by rw [hC];exact G9 (GA _)
 have M:∀b o,s.heap.get? b=Gu o->m.get? b=Gu o:=fun b o e=>g.extBut b o (F b (HB e)).1 (GU _ (K▸GU _ e))
 have gD:m.get? s.heap.objs.size=Gu {cls:=.type S,dict:=Gw,data:=Q}:=g.extBut _ _ L (GU _ (K▸Hu _ c'))
 have n:∀q,@Ov Nat instLENat s.heap.objs.size q->f.heap.get? q=Gw:=fun q W=>by
  cases e:f.heap.get? q with
  |none=>rfl
  |some o'=>exact absurd (HB (l _ _ e)) (HQ.mpr W)
 have hD:=n _ (GP _)
 have N:=n E.objs.size (by rw [hC];exact Hn _)
 have d':aJ (c.cmp scope v I s.heap.objs.size E.objs.size G σ f):=Bc Z R hn a J N (by
  rw [hC];obtain⟨⟨o',e⟩,_⟩:=a.inv.pv _ R.locPv;exact GC R.baseLe (GC (Ie (HB (l _ _ e))) (Hn _)))
 have a':At (c.cmp scope v I s.heap.objs.size E.objs.size G σ f) (pf j ρ) G σ {s with heap:=m,toks:=s.toks+([]:List (He×GB)).length}:=
  Bs Z R hn a J T hI hD N (fun b o e=>M b o (l b o e)) ⟨_,M _ _ gI⟩ ⟨_,gD⟩ ⟨_,k⟩ hg ho
 have Y:∀b∈c.Pv,∃o,f.heap.get? b=Gu o:=fun b hb=>(a.inv.pv b hb).1
 have r:∀q,f.heap.get? q=Gw->q∈(c.cmp scope v I s.heap.objs.size E.objs.size G σ f).Pv->E.objs.size≠q->w3 (c.cmp scope v I s.heap.objs.size E.objs.size G σ f) q:=fun q W hp f'=>
  ⟨hp,W,fun g' he hL=>(by obtain⟨o',e⟩:=Y q (R.fpv g' he q hL);rw [W] at e;cases e),f',fun y b e z=>(by obtain⟨o',e'⟩:=Y b (R.cellPv y b (J y b e)).1;rw [z,W] at e';cases e')⟩
 have O:=HB gI
 exact h _ _ _ ⟨hI,hD,N,L,Hz (F I O).2,Hz (F I O).1,d',r I hI (.tail _ (.tail _ (.head _))) (Hz (F I O).1),r _ hD (.tail _ (.head _)) (Hz L),a',M _ _ gI,gD⟩
theorem lZ {use:Option (GB->Kz Unit)} {K z:GZ} {F:E} {px pos:HR} (st:bQ names scope j t x) (he:ao u d (dC scope) K F) (ok:aJ c) (hn:c.env.scope.names=names) (g:Gd u w c.base) (rm:Rm A d c.Fs) {l:List V} {T:Sg->Prop} {sh:Nat->JE->Prop} (S:sQ u w A G l T I sh)
  (a:At c ρ G σ f) {cl:List (He×GW)} (f':∀x a,cl.lookup x=Gu a->c.env.cells.lookup x=Gu a) (U:∀x,(x,HX)∈scope.names->∃a,cl.lookup x=Gu a)
  (hI:f.heap.get? I=Gw) (W:∀b o,f.heap.get? b=Gu o->s.heap.get? b=Gu o) (hg:s.gens=f.gens) (ho:s.os=f.os) (gI:s.heap.get? I=Gu o) (h0:sh 0 o) (hl:l.length<=1000000)
  {Q:List V->Sg->Prop} {P:GB->GD->Prop} {X:Sg->Prop} {E':GB->GD->Prop}
  (h:compW (fun i Q' X' Y=>wpE u.T (ae u d) ((pf j ρ).set t (Gu i)) F Q' X' Y) T X l [] Q σ)
  (hP:∀(D C:GW) (p:GD) (B:Gh) (σ':Sg) (Z:List V) (m:He->Option GB),(∃L,At (c.own C) ρ L (σ'.alloc (.list Z)) p/\ed c C/\G.Le L/\VRep L (.ref σ'.n) (.ref D))->p.heap.Ns C m->Q Z σ'->
   bu (GR u.prog w) A (a9 u c X) use P (.ref D) (Jf scope cl C c.env) (.ok .next) p):
  G3 (GR u.prog w) A (newList []) (fun acc y=>G3 (GR u.prog w) A (LB scope c.env.globals cl [] c.env.qual Gw .none (Gu c.env)) (fun cenv b'=>
   IT (GR u.prog w) A (.compStart (.ListComp K [⟨.Name x px,z,[],0⟩] scope pos) 0 (.ref I) acc {cenv with scope:=I9 scope c.env}) (bu (GR u.prog w) A (a9 u c X) use P acc {cenv with scope:=I9 scope c.env}) b') E' y) E' s:=by
 refine qU (by size_fits) rfl st ok hn a f' U hI W hg ho gI fun D C y k=>?_
 have g':Rm A d (c.cmp scope cl I D C G σ f).Fs:=rm
 have H:IT (GR u.prog w) A (.compLoop (.ListComp K [⟨.Name x px,z,[],0⟩] scope pos) 0 (.ref I) (.ref D) (Jf scope cl C c.env))
   (bu (GR u.prog w) A (a9 u c X) use P (.ref D) (Jf scope cl C c.env)) y:=by
  refine qy (c:=c.cmp scope cl I D C G σ f) he k.ok rfl (cI st ok hn) g g' S k.oI k.oD (Hz k.DI) (lj st) (ro st) hl k.at' (.refl _) k.gI h0 k.gD h
   (fun J c' M Z O n d' tk v e' R rr q eb=>?_) fun e J N=>qN ok a k.nC N
  obtain⟨m,⟨oL,es,ep,eL,rL⟩,_⟩:=v.envr;refine hP D C {J with heap:=d',toks:=tk} c' M Z m ?_ ⟨oL,es,ep,eb _ _ k.CI eL,rL⟩ q
  have r:=kZ (tk:=tk) (ce:=.list Z) ok a k.nI k.nD k.nC k.DC k.DI k.CI v eb R (fun i'=>⟨O,n,by rw [dy.1];exact i',rr.mono (Gh.add_le _ _ _)⟩) (by simp)
  refine⟨_,r.1,r.2,e'.trans (Gh.add_le _ _ _),?_⟩;refine⟨by rw [<-v.inv.N];exact GA _,?_⟩
  rw [<-v.inv.N,dy.1]
 exact codeAny_compStart_list H (S.self 0 k.gI h0 H)
end
section
variable {u:U} {d:Nat} {names:List (He×G6)} {w:Hk} {A:Hi} {c:Cx} {ρ:List (Option V)} {G F:Gh} {σ σ':Sg} {s s' B:GD} {I D C:GW} {o:JE} {f:IS} {n:List (Option Nat)} {t:Nat} {x:He}
def Ae (k:Nat) (tk:M1) (i:Nat) (o:JE):Prop:=o.cls=.type "str_ascii_iterator"/\o.data=.fields #[.str (nm k) tk,.int i 0]
theorem jy {k:Nat} (h:(lQ k).isSome=Gx):∃c,nm k=⟨#[c]⟩/\(nm k).cps.all (· <128)=Gx:=by
 unfold lQ at h
 split at h
 ·exact⟨97,by decide+kernel,by decide+kernel⟩
 ·exact⟨98,by decide+kernel,by decide+kernel⟩
 ·cases h
theorem x6 {b:Gh} {k:Nat} {tk:M1} (p:(lQ k).isSome=Gx) (v:A.handled=Gw):sQ u w A b [.str k] (fun Z=>True) I (Ae k tk) where
 plain:=fun i o h=>⟨_,_,h.1,h.2,by decide⟩
 item:=fun{c ρ G σ s o} i x {Q E} a y j z g h l q=>by
  obtain⟨r,e,_⟩:=jy p
  cases i with
  |zero=>
   simp at l;subst l;refine wpAny_pyNext_ascii_item ⟨_,g,h.1,h.2⟩ (c:=r) (by rw [e];rfl) fun m ⟨H,J,K,L⟩ M=>q _ m _ H J ⟨K,L⟩ M ?_
   exact⟨_,by rw [e]⟩
  |succ i=>simp at l
 stop:=fun{c ρ G σ s o Q E} a y j z g h q=>by
  obtain⟨r,e,_⟩:=jy p;exact wpAny_pyNext_ascii_end v ⟨_,g,h.1,h.2⟩ (by rw [e];rfl) fun m N=>q m s.toks N
 self:=fun{s o} i {Q E} g h q=>wpAny_pyIter_striter_ascii ⟨_,g,h.1,h.2⟩ q
set_option tactic.hygienic true in
theorem lX (H:aJ c) (m:A.handled=Gw) (a:At c ρ G σ s) {x:V} {r:GB} {l:List V} (v:VRep G x r) (e:fx x σ=Gu l) {Q:GB->GD->Prop} {E:GB->GD->Prop}
  (h:∀I s' o j,s.heap.get? I=Gw->(∀b o,s.heap.get? b=Gu o->s'.heap.get? b=Gu o)->s'.gens=s.gens->s'.os=s.os->s'.heap.get? I=Gu o->j 0 o->(∀A:Hi,A.handled=Gw->sQ u w A G l (cq x l) I j)->l.length<=1000000->Q (.ref I) s'):G3 (GR u.prog w) A (N4 r) Q E s:=by
 unfold fx at e
 split at e
 ·rename_i k
  split at e
  ·rename_i y;cases e;obtain⟨J,rfl⟩:=fQ v;obtain⟨R,T,g⟩:=jy y;refine wpAny_pyIter_ascii g ?_;exact h _ _ _ (Ae k J) (aN _) (fun Z Z e=>GU _ e) rfl rfl (Hu _ rfl) ⟨rfl,rfl⟩ (fun A m=>x6 y m) (by simp)
  ·cases e
 ·split at e
  ·rename_i U p
   split at e
   ·rename_i K;cases e;exact uO H m a v p fun I i o j L M N O z W P q S=>h I i o j L M N O P q S K
   ·cases e
  ·cases e
theorem d4 (st:bQ names f n t x) (a:At c ρ G σ s) (g:c.env.scope.names=names):∀x,(x,HX)∈f.names->∃a,c.env.cells.lookup x=Gu a:=fun y i=>by
 obtain⟨_,_,_,l⟩:=a.envr;obtain⟨k,m⟩:=II i;rcases st.vars k _ m with ⟨h,_⟩ |⟨_,j,_,p⟩
 ·exact absurd rfl h
 ·obtain⟨b,e,q,_⟩:=l y (by rw [g];exact GN p)
  exact⟨b,q⟩
theorem dq (st:bQ names f n t x):∀y∈f.names,y.2=.local->f.names.lookup y.1=Gu .local:=fun y b e=>by
 obtain⟨k,g⟩:=II b;rw [mo st.nd g,e]
set_option tactic.hygienic true in
theorem snd_comp {q N:GZ} {j r:E} {px pos:HR} (st:bQ names f n t x) (he:ao u d (dC f) q j) (hi:ao u d names N r) (oi:fy N):
  ao u d names (.ListComp q [⟨.Name x px,N,[],0⟩] f pos) (.comp n t j r):=by
 intro w A c K O g L ρ G σ s Q X a h;rw [eval_ListComp];obtain⟨cl,p,P,z⟩:=cQ (M:=GR u.prog w) (A:=A) (d4 st a O);refine bk (use:=Gw) rfl (fun x=>oi _ _) p st.kind (dq st) (az hi K O g L a h fun v B Z R y k H J i=>?_)
 split at i
 ·rename_i l hl;refine lX K L.handled k J hl fun I b' o sh n1 k1 g1 o1 gI T S hz=>?_;refine lZ (use:=Gw) st he K O g L (S A L.handled) k P z n1 k1 g1 o1 gI T hz i fun D C s' F σ' us m hk hm hq=>⟨m,hm,fun h' sb=>?_⟩;obtain⟨U,V,ap,W,Y⟩:=hk;exact⟨U,_,_,V.loose (h':=h') (t:=s'.toks) K ap fun b o nb e=>(sb.2 b nb).trans e,H.trans W,Y,hq⟩
 ·exact i.elim
theorem jZ (K:aJ c) (M:c.comp=Gz) (N:c.env.scope.names=names) {y:He} {k:Nat} {p:HR} (O:dB names y k) {cl:List (He×GW)} {ce:Cell} {m:He->Option GB} {P:GB->GD->Prop} {X:Sg->Prop}
  (h:∃g,At (c.own C) ρ g (σ'.alloc ce) s'/\ed c C/\G.Le g/\VRep g (.ref σ'.n) (.ref D)) (Q:s'.heap.Ns C m) (q:∀g i,At c (ρ.set k (Gu (.ref σ'.n))) g (σ'.alloc ce) i->G.Le g->P .none i):
  bu (GR u.prog w) A (a9 u c X) (Gu fun v=>JU v [Jy (.Name y p) c.env]) P (.ref D) (Jf f cl C c.env) (.ok .next) s':=by
 obtain⟨g,a,L,R,r⟩:=h;obtain⟨H,S,T,U,V⟩:=Q
 have W:=a.pinned U
 have J:=wN (o:=H) K L
 show G3 _ _ (JU _ [Jy (.Name y p) c.env]) _ _ _
 have key:G3 (GR u.prog w) A (Jy (.Name y p) c.env (.ref D)) (fun Z i=>∃m,i.heap.Ns (Jf f cl C c.env).locals m/\∀h',Ir (Jf f cl C c.env).locals i.heap h'->P .none {i with heap:=h'}) (a9 u c X) s':=by
  refine Iy (dM (c:=(c.own C).pin (C,H)) J N W O (.inl M) r fun j l=>?_);obtain⟨z,E⟩:=l.unpin;exact⟨m,⟨H,S,T,E,V⟩,fun h' Y=>q g _ (z.loose (h':=h') (t:=j.toks) K L fun b o nb e=>(Y.2 b nb).trans e) R⟩
 first
  |exact key
  |exact wpAny_bind (wpAny_holding (wpAny_mono key (fun Z s' k=>wpAny_pure k) fun Z Z x=>x))
  |exact wpAny_bind (wpAny_mono key (fun Z s' k=>wpAny_pure k) fun Z Z x=>x)
theorem ss_comp {b r:GZ} {e H:E} {T pos p i:HR} {y:He} {k:Nat} (st:bQ names f n t x) (he:ao u d (dC f) b e) (hi:ao u d names r H) (oi:fy r) (hk:dB names y k)
  (hw:∀env:J5,env.scope.names=names->env.scope.kind=.function->IY (.ListComp b [⟨.Name x T,r,[],0⟩] f pos) (Gu (.Name y p)) i.line env=HH Gx):
  bB u d names (.Assign [.Name y p] (.ListComp b [⟨.Name x T,r,[],0⟩] f pos) i) (.assign (.loc k) (.comp n t e H)):=by
 intro w A c K L g U cf ρ G σ s Q X a h
 have h:wpE u.T (ae u d) ρ (.comp n t e H) (fun v σ'=>Q .next (ρ.set k (Gu v)) σ') X σ:=h
 rw [M5];refine Gy (HT ?_);rw [show LX [LZ y p] (.ListComp b [⟨.Name x T,r,[],0⟩] f pos) i.line c.env=HH Gx from hw _ L K.kind]
 refine Gy (GV ?_);rw [if_pos rfl];obtain⟨cl,J,V,N⟩:=cQ (M:=GR u.prog w) (A:=A) (d4 st a L);refine Gy ?_
 show G3 _ _ (do let _<-La (.ListComp b [⟨.Name x T,r,[],0⟩] f pos) f c.env _ (newList []) _ (J6 r c.env) (Gu fun v=>JU v [Jy (.Name y p) c.env])) _ _ _
 refine Gy (bk (use:=Gu fun v=>JU v [Jy (.Name y p) c.env]) (Q:=fun Z s'=>G3 (GR u.prog w) A (HH NI) (fun Z O=>G3 (GR u.prog w) A (HH Og) (eA c G Q) (a9 u c X) O) (a9 u c X) s') rfl (fun x=>oi _ _) J st.kind (dq st) (az hi K L g U a h fun v B e' W z q P R j=>?_))
 split at j
 ·rename_i l hl;refine lX K U.handled q R hl fun I f' o sh n1 k1 g1 o1 gI Y S hz=>?_;refine lZ st he K L g U (S A U.handled) q V N n1 k1 g1 o1 gI Y hz j fun D C s' F σ' us m b' hm hq=>?_;refine jZ K cf L hk b' hm fun g' O c' d'=>GV (GV ?_);exact .le (P.trans d') (.next c' hq)
 ·exact j.elim
end
section
variable {u:U} {d:Nat} {names:List (He×G6)} {w:Hk} {A:Hi} {c:Cx} {ρ:List (Option V)} {G q:Gh} {σ σ':Sg} {s l j:GD} {f:IS} {i:List (Option Nat)} {t:Nat} {x:He}
theorem jd {n:Int} (h:n<=1000000):(a6 n).length<=1000000:=by
 rw [GJ,N5];lia
set_option tactic.hygienic true in
theorem sO {B R:GZ} {p F:E} {px pos np cp:HR} {T:He} (st:bQ names f i t x) (he:ao u d (dC f) B p) (hi:ao u d names R F) (hr:names.lookup T=Gu .globalImplicit) (hx:T="range") (ns:noStar [R]):
  ao u d names (.ListComp B [⟨.Name x px,.Call (.Name T np) [R] [] cp,[],0⟩] f pos) (.compR i t p F):=by
 subst hx;intro w A c H O g P ρ G σ s Q X a h;rw [eval_ListComp];obtain⟨cl,z,U,J⟩:=cQ (M:=GR u.prog w) (A:=A) (d4 st a O);refine bk (use:=Gw) rfl (fun x=>rfl) z st.kind (dq st) (cJ hr (by decide) (by decide+kernel) (by decide+kernel) ns (.inr ⟨"range",rfl⟩) H O g a (az hi H O g P a h fun v j e' V y r K L k=>?_))
 obtain⟨n,rfl,W,N,k⟩:=k;obtain⟨tk,rfl⟩:=aE L;refine mS H P.handled r W N fun I f' o sh n1 k1 g1 o1 g' ap gI Y S=>?_;refine lZ (use:=Gw) st he H O g P (S A P.handled) r U J n1 k1 g1 o1 gI Y (jd N) k fun D C l q σ' us m hk hm hq=>⟨m,hm,fun h' sb=>?_⟩;obtain⟨Z,b',ap,c',d'⟩:=hk;exact⟨Z,_,_,b'.loose (h':=h') (t:=l.toks) H ap fun b o nb e=>(sb.2 b nb).trans e,K.trans c',d',hq⟩
theorem uL {r H:GZ} {b B:E} {P pos K L p e:HR} {N y:He} {k:Nat} (st:bQ names f i t x) (he:ao u d (dC f) r b) (hi:ao u d names H B) (hr:names.lookup N=Gu .globalImplicit) (hx:N="range") (ns:noStar [H]) (hk:dB names y k)
  (hw:∀env:J5,env.scope.names=names->env.scope.kind=.function->IY (.ListComp r [⟨.Name x P,.Call (.Name N K) [H] [] L,[],0⟩] f pos) (Gu (.Name y p)) e.line env=HH Gx):
  bB u d names (.Assign [.Name y p] (.ListComp r [⟨.Name x P,.Call (.Name N K) [H] [] L,[],0⟩] f pos) e) (.assign (.loc k) (.compR i t b B)):=by
 revert r H b B P pos K L p e N y k;delta u d names f i t x;revert N y k;delta r H b B P pos K L p e;delta N y k;subst hx;intro w A c R T g rm cf ρ G σ s Q X a h;revert ρ G σ s Q X;delta w A c;delta ρ G σ s Q X
 have h:wpE u.T (ae u d) ρ (.compR i t b B) (fun v σ'=>Q .next (ρ.set k (Gu v)) σ') X σ:=h
 rw [M5];refine Gy (HT ?_);rw [show LX [LZ y p] (.ListComp r [⟨.Name x P,.Call (.Name (Hr "range") K) [H] [] L,[],0⟩] f pos) e.line c.env=HH Gx from hw _ T R.kind]
 refine Gy (GV ?_);rw [if_pos rfl];obtain⟨cl,O,c',U⟩:=cQ (M:=GR u.prog w) (A:=A) (d4 st a T);delta cl;refine Gy ?_
 show G3 _ _ (do let _<-La (.ListComp r [⟨.Name x P,.Call (.Name (Hr "range") K) [H] [] L,[],0⟩] f pos) f c.env _ (newList []) _ (J6 (.Call (.Name (Hr "range") K) [H] [] L) c.env) (Gu fun v=>JU v [Jy (.Name y p) c.env])) _ _ _
 refine Gy (bk (use:=Gu fun v=>JU v [Jy (.Name y p) c.env]) (Q:=fun Z l=>G3 (GR u.prog w) A (HH NI) (fun Z V=>G3 (GR u.prog w) A (HH Og) (eA c G Q) (a9 u c X) V) (a9 u c X) l) rfl (fun x=>rfl) O st.kind (dq st) (cJ hr (by decide) (by decide+kernel) (by decide+kernel) ns (.inr ⟨"range",rfl⟩) R T g a (az hi R T g rm a h fun v j k' d' z J W Y F=>?_)))
 obtain⟨n,rfl,e',b',F⟩:=F;obtain⟨tk,rfl⟩:=aE Y;refine mS R rm.handled J e' b' fun I l' o sh n1 k1 g1 o1 m' ap gI f' S=>?_;refine lZ st he R T g rm (S A rm.handled) J c' U n1 k1 g1 o1 gI f' (jd b') F fun D C l q σ' us m g' hm hq=>?_;refine jZ R cf T hk g' hm fun n' V i' j'=>GV (GV ?_);exact .le (W.trans j') (.next i' hq)
end
inductive ExcOK (K:I5) (te:GW):Prop
 |mk (k1:instIn K (.ref te) (.type "tuple")=Gu Gz) {c:GB} {d:Option GW} {x:ClassData} {sl:Array (Option GB)} (hk:K.lookup te=Gu ⟨c,d,.cls x,sl⟩) (k3:subIn K (.ref te) (.type "BaseException")=Gu Gx) (k4:subIn K (.ref te) (.ref te)=Gu Gx):ExcOK K te
section
variable {u:U} {d:Nat} {names:List (He×G6)} {w:Hk} {A:Hi} {c:Cx} {ρ:List (Option V)} {G i:Gh} {σ σ':Sg} {s j:GD}
set_option tactic.hygienic true in
theorem mw {e:GW} {f:JE} (X:(u.Kf w.params).In s.heap) (k:ExcOK (u.Kf w.params) u.te) (g:s.heap.get? e=Gu f) (l:f.cls=.ref u.te) {Q:Bool->GD->Prop} {E:GB->GD->Prop} (q:Q Gx s):
  G3 (GR u.prog w) A (excMatches (.ref e) (.ref u.te)) Q E s:=by
 cases k with|mk m n o p=>
 refine Gy ((looks_instIn X m).here ?_);simp only [HC,if_false];refine Gy (GV ?_);simp only [Mf,MB,bind_assoc,Pq]
 have r:G3 (GR u.prog w) A (isExcClass (.ref u.te)) (fun b j=>b=Gx/\j=s) E s:=by
  refine Gy (Pk (E:=E) ((Mo (M:=GR u.prog w) (part:=Gw) (X _ _ n)).andThen .now) ?_);simp only [if_true];exact(looks_subIn X o).here ⟨rfl,rfl⟩
 refine Gy (G4 r (fun b j t=>?_) fun Z Z x=>x);obtain⟨v,y⟩:=t;subst v;subst y;simp only [OW,HC,if_false,Pq];refine Gy ?_
 have z:Lx (GR u.prog w) j.heap (O1 (.ref e)) (.ref u.te):=by
  have:=(Mo (M:=GR u.prog w) (part:=Gw) g)
  refine this.andThen ?_;rw [l];exact .now
 refine z.here ?_;refine Gy ((looks_subIn X p).here ?_);simp only [if_true,Pq];exact GV q
theorem xV {st:IB} {o:S} {r:List IB} {q:List S} (D:bB u d names st o) (E:f6 u d names r q):f6 u d names (st::r) (o::q):=by
 intro w A c t y g z B F ρ G σ s Q X a h;refine IX (G4 (D w A c t y g z B ρ G σ s _ X a h) (fun f p H=>?_) fun Z Z x=>x);obtain⟨k,b,e,I,l,C,m,n⟩:=H
 cases I with
 |next=>
  cases m;exact E w A c t y g z B F e k b p Q X l n
 |cont=>cases m;exact⟨k,b,e,.cont,l,rfl,n⟩
 |ret v=>
  obtain⟨J,rfl,K⟩:=m;exact⟨k,b,e,.ret v,l,⟨J,rfl,K⟩,n⟩
theorem A3 (g:aJ c) (l:c.pins=[]) (n:∀x∈c.env.scope.names,x.2≠.cell) {ps:List GW} (o:ff c.base c.Fs (ps++c.Pv) i σ' s.heap) (q:gj c.Fs c.G₀ c.σ₀ c.s₀.heap i σ' s.heap) (r:s.gens=c.s₀.gens) (t:s.os=c.s₀.os) (y:∃m,s.heap.Ns c.env.locals m):
  At c (ρ.map fun Z=>Gw) i σ' s:=by
 obtain⟨m,z⟩:=y;refine⟨o.pv_le (fun b B=>GH.mpr (.inr B)) g.fpv,⟨m,z,fun k x v D e=>?_,fun x C=>absurd rfl (n _ C)⟩,q,r,t,fun p f=>by rw [l] at f;cases f⟩
 rw [Hg] at e;obtain⟨_,_,h⟩:=GY.mp e;cases h
theorem ti (T:aJ c) {e:GB} {ps:List GW} {Q:Unit->GD->Prop} {E:GB->GD->Prop} (y:ff c.base c.Fs (ps++c.Pv) i σ' s.heap) (L:gj c.Fs c.G₀ c.σ₀ c.s₀.heap i σ' s.heap) (xs:nk u Gw e ps s.heap) (U:∀b∈ps,c.s₀.heap.get? b=Gw) (M:∃m,s.heap.Ns c.env.locals m)
  (k:∀h' ps',ff c.base c.Fs (ps'++c.Pv) i σ' h'->gj c.Fs c.G₀ c.σ₀ c.s₀.heap i σ' h'->(∃m,h'.Ns c.env.locals m)->Q () {s with heap:=h'}):
  G3 (GR u.prog w) A (setFlight e Gw) Q E s:=by
 revert e ps Q E;delta u w A c i σ' s;delta e ps Q E;obtain⟨a,V,W,rfl,r,N,B,X⟩:=xs;delta a V W;rcases X with ⟨rfl,C⟩ |⟨t,Y,O,x,rfl,D,C,v,l,h3,hx⟩
 ·refine Gy (JT r B C ?_);rw [if_neg (by decide)]
  exact GV (k s.heap _ y L M)
 ·delta t Y O x;refine Gy (JT r B C ?_);rw [if_pos (show(Jk t != Jd)=Gx from by simp)]
  have F:=(Ix.mp h3).1
  refine Lz v l F ?_;generalize p:s.heap.update t _=n;delta n
  have g:∀b,b≠t->n.get? b=s.heap.get? b:=fun b f=>by rw [<-p];exact Ho _ _ (Hz f)
  have H:∃o,n.get? t=Gu o:=by rw [<-p];exact⟨_,H7 _ v (JW (JF l _))⟩
  have I:t∉eG c.Fs:=fun J=>by
   obtain⟨_,o,ho,K⟩:=y.frames.mem J;rw [v] at ho;injection ho with ho;subst ho;exact K O l
  have P:∀b∈[a,t],∃o,n.get? b=Gu o:=fun b f=>by
   rcases GK.mp f with rfl|f
   ·exact⟨_,(g _ (Hz D)).trans r⟩
   ·rcases GK.mp f with rfl|f
    ·exact H
    ·cases f
  have R:∀b o,s.heap.get? b=Gu o->b∉ [a,t]->b∉eG c.Fs->n.get? b=Gu o:=fun b o e q Z=>(g b fun z=>q (by rw [z];exact .tail _ (.head _))).trans e
  have S:∀b∈eG c.Fs,∀o,s.heap.get? b=Gu o->∃sl,n.get? b=Gu {o with slots:=sl}:=fun b f o e=>⟨o.slots,(g b fun z=>I (z▸f)).trans e⟩
  obtain⟨i',a',n'⟩:=gB (ps':=[a,t]) (h':=n) y L U T.fpv R S (fun b f=>⟨P b f,.inl f⟩) P;obtain⟨m,J⟩:=M
  exact k n _ i' a' ⟨m,gR (Fs:=c.Fs) (ps:=[a,t]) J (fun b f=>by
   rcases GK.mp f with rfl|f
   ·exact⟨_,_,r,B⟩
   ·rcases GK.mp f with rfl|f
    ·exact⟨_,_,v,l⟩
    ·cases f) R S⟩
theorem Ce {b r:List IB} {H I:List S} {y:He} {P R T pos n:HR} {k:Nat} (kx:∀w:Hk,ExcOK (u.Kf w.params) u.te) (hk:names.lookup y=Gu .globalImplicit) (e:lookS y u.gl=Gu (.ref u.te)) (hd:(y==("__debug__":He))=Gz)
  (nc:∀x∈names,x.2≠.cell) (hb:cP u d names b H) (hr:f6 u d names r I):
  f6 u d names (.Try b [.ExceptHandler (Gu (.Name y P)) Gw [.Return (Gu (.Constant .none k R)) T] pos] [] [] n::r) (.try H [.ret (.const .none)]::I):=by
 revert b r H I y P R T pos n k;delta u d names;revert k;delta b r H I y P R T pos n;delta k;intro w A c E O g U cf cp ρ G σ s Q X a h;revert ρ G σ s Q X;delta w A c;delta ρ G σ s Q X
 have h:wpSs u.T (ae u d) H ρ (fun J L σ'=>match J with|.next=>wpSs u.T (ae u d) I L Q X σ'|J=>Q J L σ') (fun σ'=>Q (.ret .none) (ρ.map fun Z=>Gw) σ') σ:=h
 have fr:=U.frames
 refine IX (wpAny_Try_except (G4 (hb w A c E O g U cf ρ G σ s _ _ a h) (fun f o ⟨p,l,m,J,t,f',z,B⟩=>?_) fun x o hx=>?_))
 ·cases J with
  |next=>
   cases z;exact Kt (hr w A c E O g U cf cp m p l o Q X t B)
  |cont=>cases z;exact⟨p,l,m,.cont,t,rfl,B⟩
  |ret v=>
   obtain⟨vv,rfl,rv⟩:=z;exact⟨p,l,m,.ret v,t,⟨vv,rfl,rv⟩,B⟩
 ·delta x o;refine jL E fr hx fun g' N=>gY E N fun C F D ps V av hg ho xs nw nl hX=>?_;obtain⟨e0,oe,vs,rfl,ha,M,i',j'⟩:=id (xs Gw (.inl rfl))
  have K:(u.Kf w.params).In C.heap:=g.inK.keeps V.stays
  obtain⟨mg,W,hv,_⟩:=g.globals
  have h1:C.heap.Ns c.env.globals mg:=by rw [E.glob];exact W.keeps V.stays
  refine wpAny_handleBy_cons (codeAny_handlers_test (HZ E.kind (by unfold Io;rw [O];exact hk) (Jo h1 (hv y _ e) ?_) hd)) (by intro q;cases q)
  refine mw K (kx w) ha M ?_;simp only [if_true];refine codeAny_handlers_suite (ti E V av (xs Gw (.inl rfl)) nw nl fun h' k' Y c' d'=>?_)
  have e':At c (ρ.map fun Z=>Gw) F D {C with heap:=h'}:=A3 E cp (by rw [O];exact nc) Y c' hg ho d'
  refine IX (Pa (Kx ?_));exact⟨F,D,_,.ret .none,e',⟨_,rfl,i6⟩,hX⟩
end
theorem Aw {u:U}:uC u:=by
 intro w A c m G n s x y o p Q E e a f g h k;obtain⟨d,b,i⟩:=@of_decide_eq_true _ (Ks _) h;obtain⟨q,j⟩:=b.rd a f;obtain⟨r,l⟩:=i.rd a g;refine SeqAt.compareNe_reads j l b.lay b.lay (by have:=b.dep;exact(l4 0x1c27c93801b8831b311c2710) e this (Lc _ _)) ?_
 rw [SeqAt.eqv_refl _ b.lay];exact k s.toks
noncomputable abbrev Ns:=List (He×G6)
theorem kL {b:Bool} (h:(!b)=Gx):b=Gz:=by cases b<;>first|rfl|cases h
noncomputable def DZ (names:Ns) (x:He):Bool:=GL (names.lookup x=Gu .globalImplicit)&& !(x==("__debug__":He))
theorem mu {names:Ns} {x:He} (h:DZ names x=Gx):names.lookup x=Gu .globalImplicit/\(x==("__debug__":He))=Gz:=by
 obtain⟨a,b⟩:=G0.mp h;exact⟨of_decide_eq_true a,kL b⟩
noncomputable def slot (names:Ns) (x:He) (k:Nat):Bool:=GL (names[k]? =Gu (x,.local)) ||decide (names[k]? =Gu (x,.cell))
theorem df {names:Ns} {x:He} {k:Nat} (h:slot names x k=Gx):dB names x k:=(Bool.or_eq_true_iff.mp h).imp of_decide_eq_true of_decide_eq_true
noncomputable def slots (names:Ns):List He->List Nat->Bool
 |[],[]=>Gx
 |x::r,k::ks=>slot names x k&&slots names r ks
 |_,_=>Gz
theorem pc {names:Ns} {xs:List He}:∀ {ks:List Nat},slots names xs ks=Gx->SlotsAt names xs ks:=by
 induction xs with
 |nil=>
  intro ks h
  cases ks with
  |nil=>trivial
  |cons _ _=>cases h
 |cons x xs b=>
  intro ks h
  cases ks with
  |nil=>cases h
  |cons k ks=>exact⟨df (G0.mp h).1,b (G0.mp h).2⟩
noncomputable def tJ (names:Ns) (y:He×G6) (o:Option (Option Nat)):Bool:=if y.2=.free then(match o with
 |some (Gu j)=>GL (names[j]? =Gu (y.1,.cell))
 |_=>Gz) else o.join.isNone&& !(GL (y.2=.cell))
noncomputable def fk (names:Ns) (b:IS) (c:List (Option Nat)) (t:Nat) (x:He):Bool:=GL (b.kind=.function)&&(GL (b.names.map (·.1)).Nodup&&(GL (b.names[t]? =Gu (x,.local))&&
 (JD b.names.length).all fun k=>match b.names[k]? with
  |some y=>tJ names y c[k]?
  |none=>Gx))
theorem ow {names:Ns} {y:He×G6} {o:Option (Option Nat)} (h:tJ names y o=Gx):y.2≠.cell/\((y.2≠.free/\o.join=Gw)\/(y.2=.free/\∃j,o=Gu (Gu j)/\names[j]? =Gu (y.1,.cell))):=by
 change ite _ _ _=_ at h
 by_cases q:y.2=.free
 ·rw [if_pos q] at h;refine⟨fun z=>(by rw [z] at q;cases q),.inr ⟨q,?_⟩⟩
  match o,h with
  |some (Gu j),h=>exact⟨j,rfl,of_decide_eq_true h⟩
 ·rw [if_neg q] at h;obtain⟨a,b⟩:=G0.mp h;exact⟨of_decide_eq_false (kL b),.inl ⟨q,Mq.mp a⟩⟩
theorem gF {names:Ns} {d:IS} {b:List (Option Nat)} {t:Nat} {x:He} (h:fk names d b t x=Gx):bQ names d b t x:=by
 delta names d b t x;obtain⟨f,h⟩:=G0.mp h;obtain⟨g,h⟩:=G0.mp h;obtain⟨i,j⟩:=G0.mp h
 have c:∀(k:Nat) y,d.names[k]? =Gu y->tJ names y b[k]? =Gx:=fun k y e=>by
  have:=Hj.mp j k (JJ.mpr (HS.mp e).1)
  rw [e] at this;exact this
 refine⟨of_decide_eq_true f,of_decide_eq_true g,fun y l=>?_,fun k y e=>(ow (c k y e)).2,of_decide_eq_true i⟩;obtain⟨k,m⟩:=II l;exact(ow (c k y m)).1
noncomputable def jp:E->Bool
 |.and .. =>Gz
 |.or .. =>Gz
 |.chain .. =>Gz
 |_=>Gx
theorem ir {b:E} (h:jp b=Gx):∀T C ρ Q X σ,wpB T C ρ b Q X σ=wpE T C ρ b (fun v σ'=>match b7 σ' v with|some t=>Q t σ'|none=>False) X σ:=by
 cases b<;>first|(intros;rfl) |cases h
theorem j6 {b:Type} {F:J5->b} {r:b} {names:Ns} (h:∀(c:IS) (env:J5),F {env with scope:={c with kind:=.function,names:=names}}=r) (env:J5) (d:env.scope.names=names) (e:env.scope.kind=.function):F env=r:=by
 subst d
 have:=h env.scope env
 rw [<-e] at this;exact this
def yt (u:U):Prop:=∀(d:Nat) (b:Ns) (l:IS) (f:List (Option Nat)) (t:Nat) (x y:He) (j:GZ) (g:E) (k m:Nat) (p n o q i c:HR),bQ b l f t x->ao u d b j g->fy j->dB b y k->(x==("__debug__":He))=Gz->(x==("__classdict__":He))=Gz->
 (∀e:J5,e.scope.names=b->e.scope.kind=.function->IY (.DictComp (.Name x o) (.Constant (.bool Gx) m q) [⟨.Name x n,j,[],0⟩] l i) (Gu (.Name y p)) c.line e=HH Gx)->
 bB u d b (.Assign [.Name y p] (.DictComp (.Name x o) (.Constant (.bool Gx) m q) [⟨.Name x n,j,[],0⟩] l i) c) (.assign (.loc k) (.dtrue t g))
def rT (u:U):Prop:=∀(d:Nat) (b:Ns) (x y c f:He) (i j:Nat) (k l m n o p q r s:HR) (e:GZ) (g:E),b.lookup x=Gu .globalImplicit->(x==("__debug__":He))=Gz->lookS x u.gl=Gu (.ref u.te)->b.lookup y=Gu .globalImplicit->y="str"->ao u d b e g->noStar [e]->c.cps.size+f.cps.size<=1000->
 bB u d b (.Raise (Gu (.Call (.Name x k) [.BinOp (.BinOp (.Constant (.str c) i l) .Add (.Call (.Name y m) [e] [] n) o) .Add (.Constant (.str f) j p) q] [] r)) Gw s) (.raise g)
section
variable {u:U} {d:Nat} {names:Ns}
theorem ur {st:IB}:bB u d names st .stuck:=by
 intro w A c b e g f i j G k s Q X a h;exact h.elim
theorem BH {k:Nat} {y:He×G6} {l:List IB} {i:List S} (p:names[k]? =Gu y) (h:f6 u d names l i):f6 u d names l (.frz k::i):=by
 intro w A c m n g r t z o G B s Q X a f
 have f:(match o[k]? with|some (Gu v)=>∃j b,FrzL B [v] [j] b/\wpSs u.T (ae u d) i (o.set k (Gu j)) Q X b|_=>False):=f
 split at f
 ·rename_i v C;obtain⟨j,b,e,q⟩:=f;obtain⟨D,E,F⟩:=a.frz m (by rw [n];exact p) C e
  exact h w A c m n g r t z _ D b s Q X E q
 ·exact f.elim
theorem Cc:f6 u d names [] []:=uY.t
end
section
variable {u:U} {d:Nat} {names:List (He×G6)} {w:Hk} {A:Hi} {c:Cx} {ρ:List (Option V)} {G E:Gh} {σ σ':Sg} {s f B:GD} {I D C:GW} {o:JE} {scope:IS} {F:List (Option Nat)} {t:Nat} {x:He}
theorem xt {T:GZ} {px xp pos cp:HR} {kk:Nat} (I':(x==("__debug__":He))=Gz) (J':(x==("__classdict__":He))=Gz) (ok:aJ c) (d':c.pins=[]) (hn:c.env.scope.names=names) (g:Gd u w c.base) (rm:Rm A d c.Fs) {L:Gh} {i:Int} {st:Sg->Prop} {U:Nat->JE->Prop} (S:sQ u w A L [.int i] st I U)
  (oI:w3 c I) (oD:w3 c D) (i':I≠D) (e':names[t]? =Gu (x,.local)) (K':∀v,ρ[t]? ≠Gu (Gu v)) (L':t<ρ.length) (j':st σ)
  (a:At c ρ G σ s) (le:L.Le G) (gI:s.heap.get? I=Gu o) (h0:U 0 o) (gD:∃o,s.heap.get? D=Gu o/\iO o []) {X:Sg->Prop} {R:MH->GD->Prop}
  (M':∀f E o v h' tk,At c ρ E σ f->G.Le E->f.heap.get? D=Gu o->iO o [(i,v)]->VRep E (.bool Gx) v->L7 I f.heap h'->R (.ok .next) {f with heap:=h',toks:=tk})
  (N':∀e f,ji u c X e f->R (.error e) f):
  IT (GR u.prog w) A (.compLoop (.DictComp (.Name x xp) (.Constant (.bool Gx) kk cp) [⟨.Name x px,T,[],0⟩] scope pos) 0 (.ref I) (.ref D) c.env) R s:=by
 revert I D o scope t x T px xp pos cp kk L i st U X R;delta u d names w A c ρ G σ s;revert cp kk L i st U X R;delta I D o scope t x T px xp pos;revert X R;delta cp kk L i st U;delta X R
 have fr:=rm.frames
 refine codeAny_compLoop_testsD (fun n s=>(n=2/\At c ρ G σ s/\(∃o,s.heap.get? I=Gu o/\U 0 o)/\∃o,s.heap.get? D=Gu o/\iO o [])\/(n=1/\∃E,At c ρ E σ s/\G.Le E/\(∃o,s.heap.get? I=Gu o/\U 1 o)/\∃o v,s.heap.get? D=Gu o/\iO o [(i,v)]/\VRep E (.bool Gx) v)) ?_ 2 (.inl ⟨rfl,a,⟨o,gI,h0⟩,gD⟩)
 rintro n s (⟨rfl,a,⟨o,gI,W⟩,l,gD,dD⟩ |⟨rfl,E,a,lG,⟨o,gI,W⟩,l,v,gD,dD,rv⟩)
 ·revert o l;injections s;intro a o gI W l gD dD;revert l;injections o;intro gI W l gD dD;injections l;intro gD dD;refine S.item 0 (.int i) a le j' oI.pv gI W rfl fun vx h' tk o' k' l' sb rx=>?_;delta vx h' tk o';obtain⟨tx,rfl⟩:=aE rx;delta tx
  have O':h'.get? D=Gu l:=(sb.2 D (Hz i')).trans gD
  have M:=a.priv2 (tk:=tk) ok oI.pv oI.new (fun p hp=>by rw [d'] at hp;cases hp) oI.fr oI.loc oI.cells sb k'
  have b':=ox (p:=(I,o')) (q:=(D,l)) ok oI oD
  have aP:At (c.pins2 (I,o') (D,l)) ρ G σ {s with heap:=h',toks:=tk}:=⟨M.inv,M.envr,M.adv,M.gens,M.os,fun r hr=>by
   rcases GK.mp hr with rfl|hr
   ·exact k'
   ·rcases GK.mp hr with rfl|hr
    ·exact O'
    ·cases hr⟩
  refine Iy (dM (c:=c.pins2 (I,o') (D,l)) b' hn aP (.inl e') (.inr e') rx fun m' n'=>?_);delta m';rw [MB];refine GV ?_;rw [if_pos rfl]
  have p':(c.pins2 (I,o') (D,l)).env.scope.names=names:=hn
  have tl:(ρ.set t (Gu (.int i)))[t]? =Gu (Gu (.int i)):=List.getElem?_set_self L'
  have nx:∀ {k:Nat} {v:V},(ρ.set t (Gu (.int i)))[k]? =Gu (Gu v)->k≠t->ρ[k]? =Gu (Gu v):=fun e q=>by rw [Ik,if_neg (Hz q)] at e;exact e
  have nt:∀e f,a9 u (c.pins2 (I,o') (D,l)) X e f->Nb (GR u.prog w) A c.env (fun e f=>R (.error e) f) e f:=fun e f hx=>jL b' fr hx fun P' N=>N' e P' N.pins2
  refine G4 (az (rh (x:=x) e' I' J') b' p' g rm (X:=X) (Q:=fun y z=>y=.int i/\z=σ) n' (zH tl ⟨rfl,rfl⟩) (P:=fun kv H=>G3 (GR u.prog w) A (J6 (.Constant (.bool Gx) kk cp) c.env) (fun vv Y=>G3 (GR u.prog w) A (dictSet D kv vv) (fun Z j=>∃m,m<2/\((m=2/\At c ρ G σ j/\(∃o,j.heap.get? I=Gu o/\U 0 o)/\∃o,j.heap.get? D=Gu o/\iO o [])\/(m=1/\∃E,At c ρ E σ j/\G.Le E/\(∃o,j.heap.get? I=Gu o/\U 1 o)/\∃o v,j.heap.get? D=Gu o/\iO o [(i,v)]/\VRep E (.bool Gx) v))) (Nb (GR u.prog w) A c.env fun e f=>R (.error e) f) Y) (Nb (GR u.prog w) A c.env fun e f=>R (.error e) f) H) fun kv q' r' z y t' u' v' y'=>?_) (fun Z Z x=>x) nt;delta kv q' r' z y;obtain⟨rfl,rfl⟩:=y';refine G4 (az (nu (b:=Gx)) b' p' g rm (X:=X) (Q:=fun y J=>y=.bool Gx/\J=z) t' ⟨rfl,rfl⟩ (P:=fun vv Y=>G3 (GR u.prog w) A (dictSet D kv vv) (fun Z j=>∃m,m<2/\((m=2/\At c ρ G z j/\(∃o,j.heap.get? I=Gu o/\U 0 o)/\∃o,j.heap.get? D=Gu o/\iO o [])\/(m=1/\∃E,At c ρ E z j/\G.Le E/\(∃o,j.heap.get? I=Gu o/\U 1 o)/\∃o v,j.heap.get? D=Gu o/\iO o [(i,v)]/\VRep E (.bool Gx) v))) (Nb (GR u.prog w) A c.env fun e f=>R (.error e) f) Y) fun vv H O J y K z' A' B'=>?_) (fun Z Z x=>x) nt;delta vv H O J y;obtain⟨rfl,rfl⟩:=B'
  have f':H.heap.get? I=Gu o':=K.pins (I,o') (.head _)
  have g':H.heap.get? D=Gu l:=K.pins (D,l) (.tail _ (.head _))
  obtain⟨C',rfl⟩:=aE v';delta C'
  have D':At c ρ O J H:=(show At c _ O J H from⟨K.inv,K.envr,K.adv,K.gens,K.os,fun p hp=>by rw [d'] at hp;cases hp⟩).weaken fun k v e=>by
   by_cases q:k=t
   ·subst q;exact absurd e (K' v)
   ·rw [Ik,if_neg (Hz q)];exact e
  refine wpAny_dictSet_pairs (knd:=Jm u.prog w) (k:=i) (show H4 i (.int i C')=Gx by simp [H4]) (bv.mpr ⟨_,g',dD⟩) fun E' F' c'=>?_
  delta E';obtain⟨o2,g2,d2⟩:=bv.mp F'
  have H':=D'.priv2 (tk:=H.toks+1) (h':=E') ok oD.pv oD.new (fun p hp=>by rw [d'] at hp;cases hp) oD.fr oD.loc oD.cells c' g2
  exact⟨1,by decide,.inr ⟨rfl,O,H',u'.trans z',⟨o',(c'.2 I i').trans f',l'⟩,o2,vv,g2,d2,A'⟩⟩
 ·refine S.stop a (le.trans lG) j' oI.pv gI W fun h' tk eb=>?_;exact M' s E l v h' tk a lG gD dD rv eb
theorem vq {n j:Nat} {v:V} (e:(ρ++List.replicate n Gw)[j]? =Gu (Gu v)):ρ[j]? =Gu (Gu v)\/False:=by
 rw [List.getElem?_append] at e
 split at e
 ·exact .inl e
 ·rw [M4] at e
  split at e<;>cases e
theorem yB {use:Option (GB->Kz Unit)} {p:GZ} {px xp pos cp:HR} {kk:Nat} (U:(x==("__debug__":He))=Gz) (V:(x==("__classdict__":He))=Gz) (st:bQ names scope F t x) (T:aJ c) (hn:c.env.scope.names=names) (g:Gd u w c.base) (rm:Rm A d c.Fs) {i:Int} {J:Sg->Prop} {sh:Nat->JE->Prop} (S:sQ u w A G [.int i] J I sh)
  (a:At c ρ G σ B) (W:J σ) {cl:List (He×GW)} (Y:∀x a,cl.lookup x=Gu a->c.env.cells.lookup x=Gu a) (K:∀x,(x,HX)∈scope.names->∃a,cl.lookup x=Gu a)
  (hI:B.heap.get? I=Gw) (L:∀b o,B.heap.get? b=Gu o->s.heap.get? b=Gu o) (hg:s.gens=B.gens) (ho:s.os=B.os) (gI:s.heap.get? I=Gu o) (h0:sh 0 o)
  {P:GB->GD->Prop} {X:Sg->Prop} {E':GB->GD->Prop}
  (hP:∀(D C:GW) (f:GD) (E:Gh) (m:He->Option GB),(∃z,At (c.own C) ρ z (σ.alloc (.dict [(i,.bool Gx)])) f/\ed c C/\G.Le z/\VRep z (.ref σ.n) (.ref D))->f.heap.Ns C m->
   bu (GR u.prog w) A (a9 u c X) use P (.ref D) (Jf scope cl C c.env) (.ok .next) f):
  G3 (GR u.prog w) A newDict (fun acc n=>G3 (GR u.prog w) A (LB scope c.env.globals cl [] c.env.qual Gw .none (Gu c.env)) (fun cenv M=>
   IT (GR u.prog w) A (.compStart (.DictComp (.Name x xp) (.Constant (.bool Gx) kk cp) [⟨.Name x px,p,[],0⟩] scope pos) 0 (.ref I) acc {cenv with scope:=I9 scope c.env}) (bu (GR u.prog w) A (a9 u c X) use P acc {cenv with scope:=I9 scope c.env}) M) E' n) E' s:=by
 refine qU (by size_fits) rfl st T hn a Y K hI L hg ho gI fun D C n k=>?_
 have Z:Rm A d (c.cmp scope cl I D C G σ B).Fs:=rm
 have q:IT (GR u.prog w) A (.compLoop (.DictComp (.Name x xp) (.Constant (.bool Gx) kk cp) [⟨.Name x px,p,[],0⟩] scope pos) 0 (.ref I) (.ref D) (Jf scope cl C c.env))
   (bu (GR u.prog w) A (a9 u c X) use P (.ref D) (Jf scope cl C c.env)) n:=by
  refine xt (c:=c.cmp scope cl I D C G σ B) (X:=X) U V k.ok rfl (cI st T hn) g Z S k.oI k.oD (Hz k.DI) (lj st) (ρ:=pf F ρ++List.replicate (t+1) Gw) (fun v e=>(vq e).elim (ro st v) id) (by simp;exact(l2 7641071632)) W (k.at'.weaken fun j v e=>(vq e).elim id False.elim) (.refl _) k.gI h0 ⟨_,k.gD,nv⟩
   (fun y O c' v Q tk l R H dd rv eb=>?_) fun e y N=>qN T a k.nC N
  obtain⟨m,⟨oL,es,ep,eL,rL⟩,_⟩:=l.envr;refine hP D C {y with heap:=Q,toks:=tk} O m ?_ ⟨oL,es,ep,eb _ _ k.CI eL,rL⟩
  have r:=kZ (tk:=tk) (ce:=.dict [(i,.bool Gx)]) T a k.nI k.nD k.nC k.DC k.DI k.CI l eb H (fun b'=>⟨_,⟨_,by rw [dy.1];exact b',dd⟩,_,_,rfl,rfl,rv.mono (Gh.add_le _ _ _),rfl⟩) (by simp)
  refine⟨_,r.1,r.2,R.trans (Gh.add_le _ _ _),?_⟩;refine⟨by rw [<-l.inv.N];exact GA _,?_⟩
  rw [<-l.inv.N,dy.1]
 exact codeAny_compStart_dict q (S.self 0 k.gI h0 q)
set_option tactic.hygienic true in
theorem uT:yt u:=by
 delta u;intro d names T F t x y U K k V p W Y cp r e st hi oi hk b' c' hw w A c L N g rm cf ρ G σ s Q X a h;revert V p W Y cp r e w A c ρ G σ s Q X;delta d names T F t x y U K k;revert w A c ρ G σ s Q X;delta V p W Y cp r e;revert ρ G σ s Q X;delta w A c;delta ρ G σ s Q X
 have h:wpE u.T (ae u d) ρ (.dtrue t K) (fun v σ'=>Q .next (ρ.set k (Gu v)) σ') X σ:=h
 rw [M5];refine Gy (HT ?_);rw [show LX [LZ y p] (.DictComp (.Name x Y) (.Constant (.bool Gx) V cp) [⟨.Name x W,U,[],0⟩] T r) e.line c.env=HH Gx from hw _ N L.kind]
 refine Gy (GV ?_);rw [if_pos rfl];obtain⟨cl,J,d',O⟩:=cQ (M:=GR u.prog w) (A:=A) (d4 st a N);delta cl;refine Gy ?_
 show G3 _ _ (do let _<-La (.DictComp (.Name x Y) (.Constant (.bool Gx) V cp) [⟨.Name x W,U,[],0⟩] T r) T c.env _ newDict _ (J6 U c.env) (Gu fun v=>JU v [Jy (.Name y p) c.env])) _ _ _
 refine Gy (bk (use:=Gu fun v=>JU v [Jy (.Name y p) c.env]) (Q:=fun Z f=>G3 (GR u.prog w) A (HH NI) (fun Z P=>G3 (GR u.prog w) A (HH Og) (eA c G Q) (a9 u c X) P) (a9 u c X) f) rfl (fun x=>oi _ _) J st.kind (dq st) (az hi L N g rm a h fun v B j' j z n R H q=>?_));obtain⟨b,i,rfl,hc,q⟩:=q
 have hl:fx (.ref b) j=Gu [.int i]:=by show(match aV (.ref b) j with|some l=>if l.length<=1000000 then Gu l else Gw|none=>Gw)=_;rw [qh hc];rfl
 refine lX L rm.handled n H hl fun I k' o sh n1 k1 g1 o1 gI e' S hz=>?_;refine yB (names:=names) b' c' st L N g rm (S A rm.handled) n ⟨n.inv.N▸(aU H).1,hc⟩ d' O n1 k1 g1 o1 gI e' fun D C f E m f' hm=>?_;refine jZ L cf N hk f' hm fun l' P g' i'=>GV (GV ?_);exact .le (R.trans i') (.next g' q)
end
noncomputable def tab:mn where
 fields:=[(147,[0,1,2,3,4]),(257,[5,6]),(324,[0,7,8,9,10]),(494,[11]),(570,[12,13,7]),(624,[14,3]),(672,[]),(684,[]),(710,[15]),(755,[16,17]),(767,[16,17]),(812,[18]),(824,[18]),(836,[18]),(862,[18,19,20])]
 consts:=[((755,21),.str 22),((767,21),.str 23),((812,21),.str 24),((824,21),.str 25),((836,21),.str 26),((862,21),.str 27),((710,21),.str 28),((672,21),.str 29),((684,21),.str 30)]
 meths:=[((147,33),102),((147,34),109),((147,35),116),((147,36),123),((147,37),130),((147,38),137),((257,39),226),((257,40),233),((257,41),240),((257,42),247),((257,3),254),
  ((324,43),281),((324,44),288),((324,45),295),((324,46),302),((324,47),309),((324,48),316),((324,49),321),((570,50),536),((624,51),621),((624,38),602)]
 inits:=[(147,Gu 95),(257,Gu 219),(324,Gu 276),(494,Gu 342),(570,Gu 512),(624,Gu 588),(672,Gw),(684,Gw),(710,Gu 700),(755,Gu 726),(767,Gu 726),(812,Gu 783),(824,Gu 783),(836,Gu 783),(862,Gu 852)]
noncomputable def gl (x:He) (v:GB):He×GB:=(x,v)
noncomputable def EE:List (He×GB):=[gl "bits" (.ref 80),gl "chain" (.ref 158),gl "build" (.ref 165),gl "build_row" (.ref 172),gl "build_choice" (.ref 179),gl "build_loop" (.ref 186),gl "build_copies" (.ref 193),gl "closure" (.ref 198),gl "tags_of" (.ref 205),gl "subset_dfa" (.ref 634),gl "Nfa" (.ref 147),gl "Subsets" (.ref 257),gl "Positions" (.ref 324),gl "CharSet" (.ref 494),gl "Classes" (.ref 570),gl "Dfa" (.ref 624),gl "Empty" (.ref 672),gl "Never" (.ref 684),gl "Chars" (.ref 710),gl "Cat" (.ref 755)]
noncomputable def ER:List (He×GB):=[gl "Alt" (.ref 767),gl "Loop" (.ref 800),gl "Star" (.ref 812),gl "Plus" (.ref 824),gl "Opt" (.ref 836),gl "Repeat" (.ref 862),gl "TableError" (.ref 71),gl "_law_store" (.ref 878),gl "_law_draw" (.ref 885),gl "_law_leaf" (.ref 892),gl "_law_tree" (.ref 899),gl "_law_node" (.ref 906),gl "_law_parts" (.ref 913),gl "_law_counts" (.ref 918),gl "_law_built" (.ref 925),gl "_law_read" (.ref 932),gl "_law_told" (.ref 939),gl "_law_after_right" (.ref 946),gl "TOP" (.int 127 650),gl "DEAD" (.int (-1) 1031),gl "MOST_REPEAT" (.int 40 1110)]
noncomputable def zU:List (He×GB):=EE++ER
noncomputable def lookSt (C:GW) (x:He):List ((GW×He)×GW)->Option GW
 |[]=>Gw
 |e::r=>if e.1.1=C/\e.1.2=x then Gu e.2 else lookSt C x r
theorem qr {C:GW} {x:He} {f:GW} {l:List ((GW×He)×GW)}:lookSt C x l=Gu f->((C,x),f)∈l:=by
 induction l with
 |nil=>intro h;cases h
 |cons e r d=>
  intro h
  by_cases q:e.1.1=C/\e.1.2=x
  ·have h:=(if_pos q).symm.trans h
   cases h;obtain⟨⟨a,b⟩,c⟩:=e;cases q.1;cases q.2;exact .head _
  ·exact .tail _ (d ((if_neg q).symm.trans h))
noncomputable def D6:List ((GW×He)×GW):=[((494,"of"),377),((494,"made"),397),((800,"__init__"),783)]
structure UO (u:U):Prop where
 gl:u.gl=zU
 T:u.T=tab
 te:u.te=71
 tab:∀w:Hk,fG u.T (u.Kf w.params)
 kp:∀(w:Hk) (x:He) (f:GW),lookS x u.gl=Gu (.ref f)->lookC f u.T.inits=Gw->K6 (u.Kf w.params) (.ref f)=Gx
 sf:∀(w:Hk) e,e∈D6->ClsG (u.Kf w.params) e.1.1 e.1.2 e.2
 exc:∀w:Hk,ExcOK (u.Kf w.params) u.te
 so:gb u
 rs:rT u
section
variable {u:U} {d:Nat} {names:Ns}
theorem aa {a b:Bool} (h:(a&&b)=Gx):a=Gx/\b=Gx:=G0.mp h
noncomputable def Ds (names:Ns) (x:He) (k:Nat):Bool:=(match names[k]? with|some y=>GL (y.1=x) |none=>Gz)&&(!(x==("__debug__":He))&& !(x==("__classdict__":He)))
set_option tactic.hygienic true in
theorem Dp {x:He} {k:Nat} {pos:HR} (h:Ds names x k=Gx):ao u d names (.Name x pos) (.loc k):=by
 obtain⟨b,h⟩:=aa h;obtain⟨c,f⟩:=aa h
 split at b
 ·rename_i y e;cases of_decide_eq_true b;exact rh (kd:=y.2) e (kL c) (kL f)
 ·cases b
noncomputable def Au (o:Option GB) (i:Int):Bool:=match o with
 |some (.int j _)=>GL (j=i)
 |_=>Gz
theorem xa {o:Option GB} {i:Int} (h:Au o i=Gx):∃t,o=Gu (.int i t):=by
 cases o with
 |none=>cases h
 |some v=>cases v with
  |int j t=>cases of_decide_eq_true h;exact⟨t,rfl⟩
  |_=>cases h
theorem BG (c:UO u) {x:He} {i:Int} {pos:HR} (h:(DZ names x&&Au (lookS x zU) i)=Gx):ao u d names (.Name x pos) (.const (.int i)):=by
 obtain⟨b,f⟩:=aa h;obtain⟨t,e⟩:=xa f;exact n6 (mu b).1 (by rw [c.gl];exact e) (mu b).2
noncomputable def vK (names:Ns) (x:He) (f:GW):Bool:=DZ names x&&lookS x zU==Gu (.ref f)
theorem km (c:UO u) {x:He} {f:GW} (h:vK names x f=Gx):names.lookup x=Gu .globalImplicit/\(x==("__debug__":He))=Gz/\lookS x u.gl=Gu (.ref f):=by
 obtain⟨b,e⟩:=aa h;exact⟨(mu b).1,(mu b).2,by rw [c.gl];exact beq_iff_eq.mp e⟩
theorem vG {b:List GZ} (h:GL (b.length<20)=Gx):(GL (b.length+([]:List J3).length+(if([]:List J3).isEmpty then 0 else 1) <30))=Gx:=by
 have:=of_decide_eq_true h
 exact decide_eq_true (show b.length+0+0<30 by lia)
theorem zK (g:UO u) {x:He} {f:GW} {j pos:HR} {i:List GZ} {e:List E} (S:SndEs u d names i e) (k:noStar i) (h:(vK names x f&&(lookC f tab.inits).isNone)=Gx):ao u d names (.Call (.Name x j) i [] pos) (.callF f e):=by
 obtain⟨a,b,c⟩:=km g (aa h).1;exact sJ a c b (fun w=>g.kp w x f c (by rw [g.T];exact Mq.mp (aa h).2)) S k
theorem xN (g:UO u) {x:He} {C:GW} {k pos:HR} {j:List GZ} {f:List E} (S:SndEs u d names j f) (l:noStar j) (h:(vK names x C&&(lookC C tab.inits).isSome)=Gx):ao u d names (.Call (.Name x k) j [] pos) (.callC C f):=by
 obtain⟨a,b,c⟩:=km g (aa h).1;obtain⟨i,e⟩:=HW.mp (aa h).2;exact r8 g.tab a c b (i:=i) (by rw [g.T];exact e) S l
theorem yd (g:UO u) {o:GZ} {e:E} {n:Nat} {x:He} {f pos:HR} {c:List GZ} {b:List E} (i:ao u d names o e) (S:SndEs u d names c b) (j:da o) (k:noStar c) (h:(GL (nm n=x)&&(GL (c.length<20)&&f.endLine==pos.line))=Gx):ao u d names (.Call (.Attribute o x f) c [] pos) (.callM n e b):=by
 exact tn g.tab i j (of_decide_eq_true (aa h).1) S k (vG (aa (aa h).2).1) (aa (aa h).2).2
noncomputable def yT (y:He):GW:=match lookS y zU with
 |some (.ref C)=>C
 |_=>0
theorem zd (i:UO u) {y x:He} {f:GW} {k j pos:HR} {g:List GZ} {e:List E} (S:SndEs u d names g e) (l:noStar g) (h:(vK names y (yT y)&&(GL (lookSt (yT y) x D6=Gu f)&&(GL (g.length<20)&&j.endLine==pos.line)))=Gx):ao u d names (.Call (.Attribute (.Name y k) x j) g [] pos) (.callF f e):=by
 obtain⟨a,b,c⟩:=km i (aa h).1
 have h:=aa (aa h).2
 exact sH a c b (fun w=>i.sf w _ (qr (of_decide_eq_true h.1))) S l (vG (aa h.2).1) (aa h.2).2
theorem Ap (c:UO u) {o:GZ} {b:E} {n:Nat} {x:He} {pos:HR} (e:ao u d names o b) (f:da o) (h:GL (nm n=x)=Gx):ao u d names (.Attribute o x pos) (.op (.attr n) [b]):=
 wx c.tab e f (of_decide_eq_true h)
noncomputable def rQ (names:Ns) (x y:He):Bool:=GL (names.lookup x=Gu .globalImplicit)&&GL (x=y)
theorem cY {x y:He} (h:rQ names x y=Gx):names.lookup x=Gu .globalImplicit/\x=y:=⟨of_decide_eq_true (aa h).1,of_decide_eq_true (aa h).2⟩
theorem Ec {e:GZ} {b:E} (S:ao u d names e b) (h:eo e) (h':jp b=Gx):dU u d names e b:=xv S h (ir h')
theorem CO {l r:GZ} {b c:E} {o:CmpOp} {op:Rel} {pos:HR} (e:ao u d names l b) (f:ao u d names r c) (h:hY r) (g:o=op.m):ao u d names (.Compare l [o] [r] pos) (.op (.rel op) [b,c]):=g▸yf Aw e f h
theorem DO {l r:GZ} {b c:E} {o:Ls} {op:Op} {pos:HR} (e:ao u d names l b) (f:ao u d names r c) (g:o=op.m):ao u d names (.BinOp l o r pos) (.op (.bin op) [b,c]):=g▸yo e f
theorem A4 {g:IS} {b:List (Option Nat)} {t:Nat} {x:He} {e i:GZ} {c f:E} {j pos:HR} (k:ao u d (dC g) e c) (hi:ao u d names i f) (l:fy i) (h:fk names g b t x=Gx):ao u d names (.ListComp e [⟨.Name x j,i,[],0⟩] g pos) (.comp b t c f):=
 snd_comp (gF h) k hi l
theorem zu {g:IS} {b:List (Option Nat)} {t:Nat} {x j:He} {e i:GZ} {c f:E} {l m n pos:HR} (o:ao u d (dC g) e c) (hi:ao u d names i f) (p:noStar [i]) (h:(fk names g b t x&&rQ names j "range")=Gx):ao u d names (.ListComp e [⟨.Name x l,.Call (.Name j m) [i] [] n,[],0⟩] g pos) (.compR b t c f):=
 have k:=cY (aa h).2;sO (gF (aa h).1) o hi k.1 k.2 p
theorem xf {i:IS} {b:List (Option Nat)} {t k:Nat} {x y:He} {f j:GZ} {c g:E} {l pos p e:HR} (m:ao u d (dC i) f c) (hi:ao u d names j g) (n:fy j) (h:(fk names i b t x&&slot names y k)=Gx)
  (o:∀(s:IS) (env:J5),IY (.ListComp f [⟨.Name x l,j,[],0⟩] i pos) (Gu (.Name y p)) e.line {env with scope:={s with kind:=.function,names:=names}}=HH Gx):bB u d names (.Assign [.Name y p] (.ListComp f [⟨.Name x l,j,[],0⟩] i pos) e) (.assign (.loc k) (.comp b t c g)):=
 ss_comp (gF (aa h).1) m hi n (df (aa h).2) (j6 (F:=fun env=>IY _ _ _ env) o)
theorem tF {j:IS} {c:List (Option Nat)} {t k:Nat} {x y m:He} {g l:GZ} {e i:E} {n pos p f o q:HR} (r:ao u d (dC j) g e) (hi:ao u d names l i) (v:noStar [l]) (h:(fk names j c t x&&(rQ names m "range"&&slot names y k))=Gx)
  (z:∀(s:IS) (env:J5),IY (.ListComp g [⟨.Name x n,.Call (.Name m o) [l] [] q,[],0⟩] j pos) (Gu (.Name y p)) f.line {env with scope:={s with kind:=.function,names:=names}}=HH Gx):bB u d names (.Assign [.Name y p] (.ListComp g [⟨.Name x n,.Call (.Name m o) [l] [] q,[],0⟩] j pos) f) (.assign (.loc k) (.compR c t e i)):=
 have b:=cY (aa (aa h).2).1;uL (gF (aa h).1) r hi b.1 b.2 v (df (aa (aa h).2).2) (j6 (F:=fun env=>IY _ _ _ env) z)
theorem xi {i:IS} {e:List (Option Nat)} {t k j:Nat} {x y:He} {g:GZ} {f:E} {p l m n pos c:HR} (hi:ao u d names g f) (o:fy g) (h:(fk names i e t x&&(slot names y k&&(!(x==("__debug__":He))&& !(x==("__classdict__":He)))))=Gx)
  (q:∀(s:IS) (env:J5),IY (.DictComp (.Name x m) (.Constant (.bool Gx) j n) [⟨.Name x l,g,[],0⟩] i pos) (Gu (.Name y p)) c.line {env with scope:={s with kind:=.function,names:=names}}=HH Gx):bB u d names (.Assign [.Name y p] (.DictComp (.Name x m) (.Constant (.bool Gx) j n) [⟨.Name x l,g,[],0⟩] i pos) c) (.assign (.loc k) (.dtrue t f)):=
 have b:=aa (aa h).2;uT d names i e t x y g f k j p l m n pos c (gF (aa h).1) hi o (df b.1) (kL (aa b.2).1) (kL (aa b.2).2) (j6 (F:=fun env=>IY _ _ _ env) q)
theorem B5 {x:He} {k:Nat} {e:GZ} {b:E} {p pos:HR} (S:ao u d names e b) (c:b9 e) (h:slot names x k=Gx):bB u d names (.Assign [.Name x p] e pos) (.assign (.loc k) b):=xy S c (df h)
theorem BN (f:UO u) {o e:GZ} {b c:E} {x:He} {n:Nat} {p pos:HR} (g:ao u d names o b) (i:ao u d names e c) (j:b9 e) (h:GL (nm n=x)=Gx):bB u d names (.Assign [.Attribute o x p] e pos) (.setAttr b n c):=pR f.tab g i j (of_decide_eq_true h)
noncomputable def AE:Op->Bool
 |.add|.bor=>Gx
 |_=>Gz
theorem pH {o:Op} (h:AE o=Gx):o=.add\/o=.bor:=by cases o<;>first|exact .inl rfl|exact .inr rfl|cases h
theorem DF {x:He} {k:Nat} {o:Ls} {op:Op} {e:GZ} {b:E} {p pos:HR} (S:ao u d names e b) (h:(slot names x k&&(AE op&& !(x==("__classdict__":He))))=Gx) (c:o=op.m):bB u d names (.AugAssign (.Name x p) o e pos) (.aug k op b):=c▸BW S (df (aa h).1) (pH (aa (aa h).2).1) (kL (aa (aa h).2).2)
theorem Al (f:UO u) {o e:GZ} {b c:E} {x:He} {n:Nat} {q:Ls} {op:Op} {p pos:HR} (g:ao u d names o b) (i:ao u d names e c) (h:(AE op&&GL (nm n=x))=Gx) (j:q=op.m):bB u d names (.AugAssign (.Attribute o x p) q e pos) (.augAttr b n op c):=j▸pY f.tab g i (pH (aa h).1) (of_decide_eq_true (aa h).2)
theorem AW {o e:GZ} {b c f:E} {x:He} {q:Ls} {op:Op} {p g pos:HR} (i:ao u d names o b) (j:ao u d names (.Name x g) c) (k:ao u d names e f) (h:AE op=Gx) (l:q=op.m):bB u d names (.AugAssign (.Subscript o (.Name x g) p) q e pos) (.augIdx b c op f):=l▸to i j k (pH h)
theorem CR {b:List GZ} {ks:List Nat} {e:GZ} {c:E} {n:Nat} {p pos:HR} (S:ao u d names e c) (f:TgtAt names b ks) (h:b9 e) (g:∀(s:IS) (env:J5),Ji [.Tuple b n p] e {env with scope:={s with kind:=.function,names:=names}}=HH Gw):bB u d names (.Assign [.Tuple b n p] e pos) (.assign (.locs ks) c):=
 AP S h f (j6 (F:=fun env=>Ji [.Tuple b n p] e env) g)
theorem Cs {x y:He} {ks:List Nat} {a b:GZ} {f:E} {n m:Nat} {c e p q pos:HR} (S:ao u d names (.Tuple [a,b] m q) f) (h:(slots names [x,y] ks&&GL ks.Nodup)=Gx) (g:∀(s:IS) (env:J5),Ji [.Tuple [.Name x c,.Name y e] n p] (.Tuple [a,b] m q) {env with scope:={s with kind:=.function,names:=names}}=HH (Gu [x,y])):bB u d names (.Assign [.Tuple [.Name x c,.Name y e] n p] (.Tuple [a,b] m q) pos) (.assign (.locs ks) f):=
 yZ S (fun Z Z Z=>rfl) (pc (aa h).1) (of_decide_eq_true (aa h).2) (j6 (F:=fun env=>Ji [.Tuple [.Name x c,.Name y e] n p] (.Tuple [a,b] m q) env) g)
theorem AF {x c:He} {k:Nat} {p i j pos:HR} {e:GZ} {f:E} {b:List IB} {g:List S} (l:ao u d names e f) (m:cP u d names b g) (n:noStar [e]) (h:(slot names x k&&rQ names c "range")=Gx):bB u d names (.For (.Name x p) (.Call (.Name c i) [e] [] j) b [] pos) (.forR k f g):=
 have k:=cY (aa h).2;zg (df (aa h).1) k.1 k.2 l n m
theorem xm (c:UO u) {x y f g:He} {j k:Nat} {l m n o p q r s t:HR} {e:GZ} {i:E} (S:ao u d names e i) (v:noStar [e]) (h:(vK names x 71&&(rQ names y "str"&&GL (f.cps.size+g.cps.size<=1000)))=Gx):
  bB u d names (.Raise (Gu (.Call (.Name x l) [.BinOp (.BinOp (.Constant (.str f) j m) .Add (.Call (.Name y n) [e] [] o) p) .Add (.Constant (.str g) k q) r] [] s)) Gw t) (.raise i):=
 have a:=km c (aa h).1;have b:=cY (aa (aa h).2).1;c.rs d names x y f g j k l m n o p q r s t e i a.1 a.2.1 (by rw [c.te];exact a.2.2) b.1 b.2 S v (of_decide_eq_true (aa (aa h).2).2)
theorem DJ (e:UO u) {b r:List IB} {f g:List S} {y:He} {i j l pos c:HR} {k:Nat} (m:cP u d names b f) (n:f6 u d names r g) (h:(vK names y 71&&names.all fun x=>!(GL (x.2=.cell)))=Gx):
  f6 u d names (.Try b [.ExceptHandler (Gu (.Name y i)) Gw [.Return (Gu (.Constant .none k j)) l] pos] [] [] c::r) (.try f [.ret (.const .none)]::g):=
 have a:=km e (aa h).1;Ce e.exc a.1 (by rw [e.te];exact a.2.2) a.2.1 (fun x o=>of_decide_eq_false (kL (Hj.mp (aa h).2 x o))) m n
theorem CJ {k:Nat} {l:List IB} {b:List S} (h:f6 u d names l b) (c:(names[k]?).isSome=Gx):f6 u d names l (.frz k::b):=let ⟨_,e⟩:=HW.mp c;BH e h
end
noncomputable def Gl:List S:=[.assign (.loc 1) (.op .lst []),.assign (.loc 2) (.const (.int 0)),.assign (.loc 3) (.loc 0),.while (.op (.rel .gt) [.loc 3,.const (.int 0)]) [.ite (.op (.rel .eq) [.op (.bin .band) [.loc 3,.const (.int 1)],.const (.int 1)]) [.expr (.app (.loc 1) (.loc 2))] [],.assign (.loc 3) (.op (.bin .shr) [.loc 3,.const (.int 1)]),.assign (.loc 2) (.op (.bin .add) [.loc 2,.const (.int 1)])],.ret (.loc 1)]
noncomputable def F9:List S:=[.setAttr (.loc 0) 0 (.loc 1),.setAttr (.loc 0) 1 (.op .lst []),.setAttr (.loc 0) 2 (.op .lst []),.setAttr (.loc 0) 3 (.op .dct0 []),.setAttr (.loc 0) 4 (.const (.int 0))]
noncomputable def FG:List S:=[.ite (.op (.rel .ge) [.op .len [.op (.attr 1) [.loc 0]],.op (.attr 0) [.loc 0]]) [.raise (.op (.attr 0) [.loc 0])] [],.expr (.app (.op (.attr 1) [.loc 0]) (.op .lst [])),.expr (.app (.op (.attr 2) [.loc 0]) (.op .lst [])),.ret (.op (.bin .sub) [.op .len [.op (.attr 1) [.loc 0]],.const (.int 1)])]
noncomputable def FI:List S:=[.ite (.op (.rel .ne) [.loc 2,.const (.int 0)]) [.expr (.app (.op .idx [.op (.attr 1) [.loc 0],.loc 1]) (.op .tup [.loc 2,.loc 3]))] []]
noncomputable def EN:List S:=[.ite (.op .notIn [.loc 2,.op .idx [.op (.attr 2) [.loc 0],.loc 1]]) [.expr (.app (.op .idx [.op (.attr 2) [.loc 0],.loc 1]) (.loc 2))] []]
noncomputable def Fx:List S:=[.setAttr (.loc 0) 4 (.loc 1)]
noncomputable def ET:List S:=[.setIdx (.op (.attr 3) [.loc 0]) (.loc 1) (.loc 2)]
noncomputable def Eh:List S:=[.ret (.op .len [.op (.attr 1) [.loc 0]])]
noncomputable def El:List S:=[.assign (.loc 2) (.op .lst []),.while (.op (.rel .eq) [.op (.attr 21) [.loc 0],.loc 1]) [.expr (.app (.loc 2) (.op (.attr 17) [.loc 0])),.assign (.loc 0) (.op (.attr 16) [.loc 0])],.expr (.app (.loc 2) (.loc 0)),.expr (.op .rev [.loc 2]),.ret (.loc 2)]
noncomputable def sT:List S:=[.assign (.loc 3) (.op (.attr 21) [.loc 1]),.ite (.op (.rel .eq) [.loc 3,.const (.str 22)]) [.ret (.callF 172 [.loc 0,.callF 158 [.loc 1,.const (.str 22)],.loc 2])] [],.ite (.op (.rel .eq) [.loc 3,.const (.str 23)]) [.ret (.callF 179 [.loc 0,.callF 158 [.loc 1,.const (.str 23)],.loc 2])] [],.ite (.op (.rel .eq) [.loc 3,.const (.str 24)]) [.ret (.callF 186 [.loc 0,.op (.attr 18) [.loc 1],.loc 2,.const (.bool Gx),.const (.bool Gx)])] [],.ite (.op (.rel .eq) [.loc 3,.const (.str 25)]) [.ret (.callF 186 [.loc 0,.op (.attr 18) [.loc 1],.loc 2,.const (.bool Gz),.const (.bool Gx)])] [],.ite (.op (.rel .eq) [.loc 3,.const (.str 26)]) [.ret (.callF 186 [.loc 0,.op (.attr 18) [.loc 1],.loc 2,.const (.bool Gx),.const (.bool Gz)])] [],.ite (.op (.rel .eq) [.loc 3,.const (.str 27)]) [.ret (.callF 193 [.loc 0,.loc 1,.loc 2])] [],.assign (.loc 4) (.callM 33 (.loc 0) []),.assign (.loc 5) (.callM 33 (.loc 0) []),.ite (.op (.rel .eq) [.loc 3,.const (.str 28)]) [.expr (.callM 34 (.loc 0) [.loc 4,.callM 50 (.loc 2) [.op (.attr 15) [.loc 1]],.loc 5])] [.ite (.op (.rel .eq) [.loc 3,.const (.str 29)]) [.expr (.callM 35 (.loc 0) [.loc 4,.loc 5])] []],.ret (.op .tup [.loc 4,.loc 5])]
noncomputable def E9:List S:=[.assign (.locs [3,4]) (.callF 165 [.loc 0,.op .idx [.loc 1,.const (.int 0)],.loc 2]),.for (.loc 5) (.op .from1 [.loc 1]) [.assign (.locs [6,7]) (.callF 165 [.loc 0,.loc 5,.loc 2]),.expr (.callM 35 (.loc 0) [.loc 4,.loc 6]),.assign (.loc 4) (.loc 7)],.ret (.op .tup [.loc 3,.loc 4])]
noncomputable def EB:List S:=[.assign (.loc 3) (.callM 33 (.loc 0) []),.assign (.loc 4) (.op .lst []),.for (.loc 5) (.loc 1) [.assign (.locs [6,7]) (.callF 165 [.loc 0,.loc 5,.loc 2]),.expr (.callM 35 (.loc 0) [.loc 3,.loc 6]),.expr (.app (.loc 4) (.loc 7))],.assign (.loc 8) (.callM 33 (.loc 0) []),.for (.loc 7) (.loc 4) [.expr (.callM 35 (.loc 0) [.loc 7,.loc 8])],.ret (.op .tup [.loc 3,.loc 8])]
noncomputable def Fz:List S:=[.assign (.loc 5) (.callM 33 (.loc 0) []),.assign (.locs [6,7]) (.callF 165 [.loc 0,.loc 1,.loc 2]),.assign (.loc 8) (.callM 33 (.loc 0) []),.expr (.callM 35 (.loc 0) [.loc 5,.loc 6]),.expr (.callM 35 (.loc 0) [.loc 7,.loc 8]),.ite (.loc 4) [.expr (.callM 35 (.loc 0) [.loc 7,.loc 6])] [],.ite (.loc 3) [.expr (.callM 35 (.loc 0) [.loc 5,.loc 8])] [],.ret (.op .tup [.loc 5,.loc 8])]
noncomputable def EI:List S:=[.assign (.loc 3) (.callM 33 (.loc 0) []),.assign (.loc 4) (.loc 3),.forR 5 (.op (.attr 19) [.loc 1]) [.assign (.locs [6,7]) (.callF 165 [.loc 0,.op (.attr 18) [.loc 1],.loc 2]),.expr (.callM 35 (.loc 0) [.loc 4,.loc 6]),.assign (.loc 4) (.loc 7)],.ite (.op .isNone [.op (.attr 20) [.loc 1]]) [.assign (.locs [6,7]) (.callF 186 [.loc 0,.op (.attr 18) [.loc 1],.loc 2,.const (.bool Gx),.const (.bool Gx)]),.expr (.callM 35 (.loc 0) [.loc 4,.loc 6]),.ret (.op .tup [.loc 3,.loc 7])] [],.assign (.loc 8) (.callM 33 (.loc 0) []),.expr (.callM 35 (.loc 0) [.loc 4,.loc 8]),.forR 5 (.op (.bin .sub) [.op (.attr 20) [.loc 1],.op (.attr 19) [.loc 1]]) [.assign (.locs [6,7]) (.callF 165 [.loc 0,.op (.attr 18) [.loc 1],.loc 2]),.expr (.callM 35 (.loc 0) [.loc 4,.loc 6]),.expr (.callM 35 (.loc 0) [.loc 7,.loc 8]),.assign (.loc 4) (.loc 7)],.ret (.op .tup [.loc 3,.loc 8])]
noncomputable def FB:List S:=[.assign (.loc 3) (.dtrue 1 (.loc 1)),.assign (.loc 4) (.op .sorted [.loc 3]),.while (.loc 4) [.assign (.loc 2) (.op .pop [.loc 4]),.for (.loc 5) (.op .idx [.op (.attr 2) [.loc 0],.loc 2]) [.ite (.op .notIn [.loc 5,.loc 3]) [.setIdx (.loc 3) (.loc 5) (.const (.bool Gx)),.expr (.app (.loc 4) (.loc 5))] []]],.ret (.tsorted (.loc 3))]
noncomputable def Ej:List S:=[.assign (.loc 2) (.op .dct0 []),.for (.loc 3) (.loc 1) [.ite (.op .inn [.loc 3,.op (.attr 3) [.loc 0]]) [.setIdx (.loc 2) (.op .idx [.op (.attr 3) [.loc 0],.loc 3]) (.const (.bool Gx))] []],.ret (.tsorted (.loc 2))]
noncomputable def Eo:List S:=[.setAttr (.loc 0) 5 (.loc 1),.setAttr (.loc 0) 6 (.op .dct0 [])]
noncomputable def Em:List S:=[.ite (.op .notIn [.loc 1,.op (.attr 6) [.loc 0]]) [.assign (.loc 2) (.const (.int 0)),.for (.loc 3) (.callF 198 [.op (.attr 5) [.loc 0],.op .lst [.loc 1]]) [.ite (.or (.op .idx [.op (.attr 1) [.op (.attr 5) [.loc 0]],.loc 3]) (.op .inn [.loc 3,.op (.attr 3) [.op (.attr 5) [.loc 0]]])) [.aug 2 .bor (.op (.bin .shl) [.const (.int 1),.loc 3])] []],.setIdx (.op (.attr 6) [.loc 0]) (.loc 1) (.loc 2)] [],.ret (.op .idx [.op (.attr 6) [.loc 0],.loc 1])]
noncomputable def FH:List S:=[.ret (.callM 39 (.loc 0) [.op (.attr 4) [.op (.attr 5) [.loc 0]]])]
noncomputable def Fa:List S:=[.assign (.loc 2) (.op .lst []),.for (.loc 3) (.callF 80 [.loc 1]) [.for (.locs [4,5]) (.op .idx [.op (.attr 1) [.op (.attr 5) [.loc 0]],.loc 3]) [.expr (.app (.loc 2) (.op .tup [.loc 4,.callM 39 (.loc 0) [.loc 5]]))]],.ret (.loc 2)]
noncomputable def FL:List S:=[.ite (.op (.rel .lt) [.loc 2,.const (.int 0)]) [.ret (.const (.int 0))] [],.assign (.loc 3) (.const (.int 0)),.for (.locs [4,5]) (.loc 1) [.ite (.op (.bin .band) [.op (.bin .shr) [.loc 4,.loc 2],.const (.int 1)]) [.aug 3 .bor (.loc 5)] []],.ret (.loc 3)]
noncomputable def FJ:List S:=[.ret (.callF 205 [.op (.attr 5) [.loc 0],.callF 80 [.loc 1]])]
noncomputable def DP:List S:=[.setAttr (.loc 0) 0 (.loc 2),.setAttr (.loc 0) 7 (.const (.int 0)),.setAttr (.loc 0) 8 (.loc 1),.setAttr (.loc 0) 9 (.op .lst [.const (.int 0)]),.setAttr (.loc 0) 10 (.op .lst [.const (.int 0)])]
noncomputable def xS:List S:=[.augAttr (.loc 0) 7 .add (.const (.int 1)),.ite (.op (.rel .gt) [.op (.attr 7) [.loc 0],.op (.attr 0) [.loc 0]]) [.raise (.op (.attr 0) [.loc 0])] [],.assign (.loc 2) (.op (.attr 21) [.loc 1]),.ite (.op (.rel .eq) [.loc 2,.const (.str 22)]) [.ret (.callM 46 (.loc 0) [.comp [Gw,Gw,Gu 0] 1 (.callM 43 (.loc 2) [.loc 1]) (.callF 158 [.loc 1,.const (.str 22)])])] [],.ite (.op (.rel .eq) [.loc 2,.const (.str 23)]) [.ret (.callM 47 (.loc 0) [.comp [Gw,Gw,Gu 0] 1 (.callM 43 (.loc 2) [.loc 1]) (.callF 158 [.loc 1,.const (.str 23)])])] [],.ite (.op (.rel .eq) [.loc 2,.const (.str 24)]) [.assign (.locs [3,4,5]) (.callM 48 (.loc 0) [.callM 43 (.loc 0) [.op (.attr 18) [.loc 1]]]),.ret (.op .tup [.const (.bool Gx),.loc 4,.loc 5])] [],.ite (.op (.rel .eq) [.loc 2,.const (.str 25)]) [.ret (.callM 48 (.loc 0) [.callM 43 (.loc 0) [.op (.attr 18) [.loc 1]]])] [],.ite (.op (.rel .eq) [.loc 2,.const (.str 26)]) [.assign (.locs [3,4,5]) (.callM 43 (.loc 0) [.op (.attr 18) [.loc 1]]),.ret (.op .tup [.const (.bool Gx),.loc 4,.loc 5])] [],.ite (.op (.rel .eq) [.loc 2,.const (.str 27)]) [.ret (.callM 49 (.loc 0) [.loc 1])] [],.ite (.op (.rel .eq) [.loc 2,.const (.str 28)]) [.ret (.callM 44 (.loc 0) [.callM 50 (.op (.attr 8) [.loc 0]) [.op (.attr 15) [.loc 1]]])] [],.ret (.op .tup [.op (.rel .eq) [.loc 2,.const (.str 29)],.const (.int 0),.const (.int 0)])]
noncomputable def Ed:List S:=[.ite (.op (.rel .eq) [.loc 1,.const (.int 0)]) [.ret (.op .tup [.const (.bool Gz),.const (.int 0),.const (.int 0)])] [],.expr (.app (.op (.attr 9) [.loc 0]) (.loc 1)),.expr (.app (.op (.attr 10) [.loc 0]) (.const (.int 0))),.assign (.loc 2) (.op (.bin .shl) [.const (.int 1),.op (.bin .sub) [.op .len [.op (.attr 9) [.loc 0]],.const (.int 1)]]),.ret (.op .tup [.const (.bool Gz),.loc 2,.loc 2])]
noncomputable def Fw:List S:=[.for (.loc 3) (.callF 80 [.loc 1]) [.augIdx (.op (.attr 10) [.loc 0]) (.loc 3) .bor (.loc 2)]]
noncomputable def ES:List S:=[.assign (.locs [2,3,4]) (.op .tup [.const (.bool Gx),.const (.int 0),.const (.int 0)]),.for (.locs [5,6,7]) (.loc 1) [.expr (.callM 45 (.loc 0) [.loc 4,.loc 6]),.ite (.loc 2) [.aug 3 .bor (.loc 6)] [],.ite (.loc 5) [.aug 4 .bor (.loc 7)] [.assign (.loc 4) (.loc 7)],.assign (.loc 2) (.and (.loc 2) (.loc 5))],.ret (.op .tup [.loc 2,.loc 3,.loc 4])]
noncomputable def FQ:List S:=[.assign (.locs [2,3,4]) (.op .tup [.const (.bool Gz),.const (.int 0),.const (.int 0)]),.for (.locs [5,6,7]) (.loc 1) [.assign (.loc 2) (.or (.loc 2) (.loc 5)),.aug 3 .bor (.loc 6),.aug 4 .bor (.loc 7)],.ret (.op .tup [.loc 2,.loc 3,.loc 4])]
noncomputable def Fm:List S:=[.expr (.callM 45 (.loc 0) [.op .idx [.loc 1,.const (.int 2)],.op .idx [.loc 1,.const (.int 1)]]),.ret (.loc 1)]
noncomputable def EX:List S:=[.assign (.loc 3) (.compR [Gw,Gw,Gu 1,Gu 0] 1 (.callM 43 (.loc 3) [.op (.attr 18) [.loc 2]]) (.op (.attr 19) [.loc 1])),.ite (.op .isNone [.op (.attr 20) [.loc 1]]) [.assign (.locs [4,5,6]) (.callM 48 (.loc 0) [.callM 43 (.loc 0) [.op (.attr 18) [.loc 1]]]),.expr (.app (.loc 3) (.op .tup [.const (.bool Gx),.loc 5,.loc 6])),.ret (.callM 46 (.loc 0) [.loc 3])] [],.forR 2 (.op (.bin .sub) [.op (.attr 20) [.loc 1],.op (.attr 19) [.loc 1]]) [.assign (.locs [4,5,6]) (.callM 43 (.loc 0) [.op (.attr 18) [.loc 1]]),.expr (.app (.loc 3) (.op .tup [.const (.bool Gx),.loc 5,.loc 6]))],.ret (.callM 46 (.loc 0) [.loc 3])]
noncomputable def Ff:List S:=[.setAttr (.loc 0) 11 (.loc 1)]
noncomputable def Fv:List S:=[.ret (.callF 397 [.comp [Gw,Gw,Gw] 1 (.op .tup [.op .ord [.loc 1],.op .ord [.loc 1]]) (.loc 0)])]
noncomputable def EK:List S:=[.assign (.loc 1) (.op .lst []),.for (.locs [2,3]) (.loc 0) [.assign (.loc 4) (.op .max [.loc 2,.const (.int 0)]),.assign (.loc 5) (.op .min [.loc 3,.const (.int 127)]),.ite (.op (.rel .le) [.loc 4,.loc 5]) [.expr (.app (.loc 1) (.op .tup [.loc 4,.loc 5]))] []],.assign (.loc 6) (.op .lst []),.for (.locs [4,5]) (.op .sorted [.loc 1]) [.ite (.and (.loc 6) (.op (.rel .le) [.loc 4,.op (.bin .add) [.op .idx [.op .idx [.loc 6,.const (.int (-1))],.const (.int 1)],.const (.int 1)]])) [.ite (.op (.rel .gt) [.loc 5,.op .idx [.op .idx [.loc 6,.const (.int (-1))],.const (.int 1)]]) [.setIdx (.loc 6) (.const (.int (-1))) (.op .tup [.op .idx [.op .idx [.loc 6,.const (.int (-1))],.const (.int 0)],.loc 5])] []] [.expr (.app (.loc 6) (.op .tup [.loc 4,.loc 5]))]],.ret (.callC 494 [.op .tupleOf [.loc 6]])]
noncomputable def Fq:List S:=[.assign (.loc 2) (.dct1 (.const (.int 0)) (.const (.int 0))),.forR 3 (.op .len [.loc 1]) [.for (.locs [4,5]) (.op (.attr 11) [.op .idx [.loc 1,.loc 3]]) [.setIdx (.loc 2) (.loc 4) (.op (.bin .bxor) [.getD (.loc 2) (.loc 4) (.const (.int 0)),.op (.bin .shl) [.const (.int 1),.loc 3]]),.ite (.op (.rel .lt) [.loc 5,.const (.int 127)]) [.setIdx (.loc 2) (.op (.bin .add) [.loc 5,.const (.int 1)]) (.op (.bin .bxor) [.getD (.loc 2) (.op (.bin .add) [.loc 5,.const (.int 1)]) (.const (.int 0)),.op (.bin .shl) [.const (.int 1),.loc 3]])] []]],.setAttr (.loc 0) 12 (.op .lst []),.setAttr (.loc 0) 13 (.op .lst []),.assign (.loc 6) (.op .dct0 []),.assign (.loc 7) (.const (.int 0)),.for (.loc 8) (.op .sortedKeys [.loc 2]) [.assign (.loc 7) (.op (.bin .bxor) [.loc 7,.op .idx [.loc 2,.loc 8]]),.ite (.op .notIn [.loc 7,.loc 6]) [.setIdx (.loc 6) (.loc 7) (.op .len [.loc 6])] [],.expr (.app (.op (.attr 12) [.loc 0]) (.loc 8)),.expr (.app (.op (.attr 13) [.loc 0]) (.op .idx [.loc 6,.loc 7]))],.setAttr (.loc 0) 7 (.op .len [.loc 6])]
noncomputable def zo:List S:=[.assign (.loc 2) (.const (.int 0)),.assign (.loc 3) (.const (.int 0)),.assign (.loc 4) (.op (.attr 11) [.loc 1]),.assign (.loc 5) (.const (.int 0)),.forR 6 (.op .len [.op (.attr 12) [.loc 0]]) [.assign (.loc 7) (.op .idx [.op (.attr 12) [.loc 0],.loc 6]),.assign (.loc 8) (.const (.int 127)),.ite (.op (.rel .lt) [.op (.bin .add) [.loc 6,.const (.int 1)],.op .len [.op (.attr 12) [.loc 0]]]) [.assign (.loc 8) (.op (.bin .sub) [.op .idx [.op (.attr 12) [.loc 0],.op (.bin .add) [.loc 6,.const (.int 1)]],.const (.int 1)])] [],.while (.and (.op (.rel .lt) [.loc 5,.op .len [.loc 4]]) (.op (.rel .lt) [.op .idx [.op .idx [.loc 4,.loc 5],.const (.int 1)],.loc 7])) [.assign (.loc 5) (.op (.bin .add) [.loc 5,.const (.int 1)])],.ite (.and (.op (.rel .lt) [.loc 5,.op .len [.loc 4]]) (.op (.rel .le) [.op .idx [.op .idx [.loc 4,.loc 5],.const (.int 0)],.loc 8])) [.ite (.or (.op (.rel .gt) [.op .idx [.op .idx [.loc 4,.loc 5],.const (.int 0)],.loc 7]) (.op (.rel .lt) [.op .idx [.op .idx [.loc 4,.loc 5],.const (.int 1)],.loc 8])) [.stuck] [],.assign (.loc 2) (.op (.bin .bor) [.loc 2,.op (.bin .shl) [.const (.int 1),.op .idx [.op (.attr 13) [.loc 0],.loc 6]]])] [.assign (.loc 3) (.op (.bin .bor) [.loc 3,.op (.bin .shl) [.const (.int 1),.op .idx [.op (.attr 13) [.loc 0],.loc 6]]])]],.ite (.op (.bin .band) [.loc 2,.loc 3]) [.stuck] [],.ret (.loc 2)]
noncomputable def Fe:List S:=[.setAttr (.loc 0) 14 (.loc 1),.setAttr (.loc 0) 3 (.loc 2)]
noncomputable def EA:List S:=[.ret (.op .len [.op (.attr 14) [.loc 0]])]
noncomputable def Ez:List S:=[.ret (.op .tup [.op .tupleOf [.comp [Gw,Gw,Gw] 1 (.op .tupleOf [.loc 1]) (.op (.attr 14) [.loc 0])],.op .tupleOf [.op (.attr 3) [.loc 0]]])]
noncomputable def C7:List S:=[.assign (.loc 3) (.callC 257 [.loc 0]),.assign (.loc 4) (.op .lst [.callM 40 (.loc 3) []]),.assign (.loc 5) (.dct1 (.op .idx [.loc 4,.const (.int 0)]) (.const (.int 0))),.assign (.loc 6) (.op .lst []),.while (.op (.rel .lt) [.op .len [.loc 6],.op .len [.loc 4]]) [.assign (.loc 7) (.callM 41 (.loc 3) [.op .idx [.loc 4,.op .len [.loc 6]]]),.assign (.loc 8) (.op .lst []),.forR 9 (.loc 1) [.assign (.loc 10) (.callM 42 (.loc 3) [.loc 7,.loc 9]),.ite (.op (.rel .eq) [.loc 10,.const (.int 0)]) [.expr (.app (.loc 8) (.const (.int (-1)))),.cont] [],.ite (.op .notIn [.loc 10,.loc 5]) [.ite (.op (.rel .ge) [.op .len [.loc 4],.loc 2]) [.raise (.loc 2)] [],.setIdx (.loc 5) (.loc 10) (.op .len [.loc 4]),.expr (.app (.loc 4) (.loc 10))] [],.expr (.app (.loc 8) (.op .idx [.loc 5,.loc 10]))],.expr (.app (.loc 6) (.loc 8))],.ret (.callC 624 [.loc 6,.comp [Gw,Gw,Gu 3] 1 (.callM 3 (.loc 2) [.loc 1]) (.loc 4)])]
noncomputable def Fg:List S:=[.setAttr (.loc 0) 15 (.loc 1)]
noncomputable def Fb:List S:=[.setAttr (.loc 0) 16 (.loc 1),.setAttr (.loc 0) 17 (.loc 2)]
noncomputable def ED:List S:=[.setAttr (.loc 0) 18 (.loc 1)]
noncomputable def Fh:List S:=[.expr (.callF 783 [.loc 0,.loc 1]),.ite (.or (.op (.rel .lt) [.loc 2,.const (.int 0)]) (.op (.rel .gt) [.loc 2,.const (.int 40)])) [.stuck] [],.ite (.and (.op .notNone [.loc 3]) (.or (.op (.rel .lt) [.loc 3,.loc 2]) (.op (.rel .gt) [.loc 3,.const (.int 40)]))) [.stuck] [],.setAttr (.loc 0) 19 (.loc 2),.setAttr (.loc 0) 20 (.loc 3)]
noncomputable def Ei:List S:=[.assign (.loc 1) (.const (.int 29)),.for (.loc 2) (.op .upto24 [.loc 0]) [.assign (.loc 1) (.op (.bin .add) [.op (.bin .mul) [.loc 1,.const (.int 1553)],.op (.bin .mod) [.op (.bin .add) [.op (.bin .mul) [.const (.int 2),.op .abs [.op .intOf [.loc 2]]],.op .intOf [.op (.rel .lt) [.loc 2,.const (.int 0)]]],.op (.bin .pow) [.const (.int 10),.const (.int 36)]]])],.ret (.op .lst [.loc 1,.const (.int 0),.op (.bin .add) [.op (.bin .mul) [.const (.int 2),.loc 1],.const (.int 1)]])]
noncomputable def Fi:List S:=[.ite (.op (.rel .eq) [.op .idx [.loc 0,.const (.int 0)],.const (.int 0)]) [.setIdx (.loc 0) (.const (.int 1)) (.op (.bin .add) [.op .idx [.loc 0,.const (.int 1)],.const (.int 1)]),.setIdx (.loc 0) (.const (.int 0)) (.op (.bin .mul) [.op (.bin .pow) [.const (.int 1000003),.op (.bin .add) [.const (.int 5),.op .idx [.loc 0,.const (.int 1)]]],.op .idx [.loc 0,.const (.int 2)]])] [],.assign (.loc 2) (.op (.bin .mod) [.op .idx [.loc 0,.const (.int 0)],.loc 1]),.setIdx (.loc 0) (.const (.int 0)) (.op (.bin .fdiv) [.op .idx [.loc 0,.const (.int 0)],.loc 1]),.ret (.loc 2)]
noncomputable def EF:List S:=[.ret (.op .idx [.op .tup [.op .tup [.const (.str 31)],.op .tup [.const (.str 32)],.op .tup [.const (.str 31)],.op .tup [.const (.str 29)],.op .tup [.const (.str 30)]],.callF 885 [.loc 0,.const (.int 5)]])]
noncomputable def FW:List S:=[.assign (.loc 1) (.callF 892 [.loc 0]),.forR 2 (.op (.bin .add) [.const (.int 1),.callF 885 [.loc 0,.const (.int 3)]]) [.assign (.loc 3) (.callF 885 [.loc 0,.const (.int 8)]),.ite (.op (.rel .lt) [.loc 3,.const (.int 2)]) [.assign (.loc 1) (.op .tup [.op .idx [.op .tup [.const (.str 22),.const (.str 23)],.loc 3],.loc 1,.callF 892 [.loc 0]])] [.ite (.op (.rel .lt) [.loc 3,.const (.int 5)]) [.assign (.loc 1) (.op .tup [.op .idx [.op .tup [.const (.str 24),.const (.str 25),.const (.str 26)],.op (.bin .sub) [.loc 3,.const (.int 2)]],.loc 1])] [.assign (.loc 4) (.callF 885 [.loc 0,.const (.int 3)]),.assign (.loc 1) (.op .tup [.const (.str 27),.loc 1,.loc 4,.ite (.op (.rel .eq) [.loc 3,.const (.int 7)]) (.const .none) (.op (.bin .add) [.loc 4,.callF 885 [.loc 0,.op (.bin .sub) [.const (.int 4),.loc 4]]])])]]],.ret (.loc 1)]
noncomputable def xF:List S:=[.ite (.op .inn [.op .idx [.loc 0,.const (.int 0)],.op .tup [.const (.str 31),.const (.str 32)]]) [.ret (.callC 710 [.callF 377 [.op .idx [.loc 0,.const (.int 0)]]])] [],.ite (.op (.rel .eq) [.op .idx [.loc 0,.const (.int 0)],.const (.str 29)]) [.ret (.callC 672 [])] [],.ite (.op (.rel .eq) [.op .idx [.loc 0,.const (.int 0)],.const (.str 30)]) [.ret (.callC 684 [])] [],.assign (.loc 1) (.callF 906 [.op .idx [.loc 0,.const (.int 1)]]),.ite (.op (.rel .eq) [.op .idx [.loc 0,.const (.int 0)],.const (.str 22)]) [.ret (.callC 755 [.loc 1,.callF 906 [.op .idx [.loc 0,.const (.int 2)]]])] [],.ite (.op (.rel .eq) [.op .idx [.loc 0,.const (.int 0)],.const (.str 23)]) [.ret (.callC 767 [.loc 1,.callF 906 [.op .idx [.loc 0,.const (.int 2)]]])] [],.ite (.op (.rel .eq) [.op .idx [.loc 0,.const (.int 0)],.const (.str 27)]) [.ret (.callC 862 [.loc 1,.op .idx [.loc 0,.const (.int 2)],.op .idx [.loc 0,.const (.int 3)]])] [],.ite (.op (.rel .eq) [.op .idx [.loc 0,.const (.int 0)],.const (.str 24)]) [.ret (.callC 812 [.loc 1])] [],.ret (.ite (.op (.rel .eq) [.op .idx [.loc 0,.const (.int 0)],.const (.str 25)]) (.callC 824 [.loc 1]) (.callC 836 [.loc 1]))]
noncomputable def EU:List S:=[.assign (.loc 2) (.op .lst []),.while (.op (.rel .eq) [.op .idx [.loc 0,.const (.int 0)],.loc 1]) [.expr (.app (.loc 2) (.op .idx [.loc 0,.const (.int 2)])),.assign (.loc 0) (.op .idx [.loc 0,.const (.int 1)])],.ret (.op (.bin .add) [.loc 2,.op .lst [.loc 0]])]
noncomputable def Dn:List S:=[.ite (.op .inn [.op .idx [.loc 0,.const (.int 0)],.op .tup [.const (.str 22),.const (.str 23)]]) [.assign (.loc 1) (.comp [Gw,Gw,Gw] 1 (.callF 918 [.loc 1]) (.callF 913 [.loc 0,.op .idx [.loc 0,.const (.int 0)]])),.ret (.op .tup [.op (.bin .add) [.op .sum [.comp [Gw,Gw] 1 (.op .idx [.loc 1,.const (.int 0)]) (.loc 1)],.op (.bin .mul) [.const (.int 2),.op .intOf [.op (.rel .eq) [.op .idx [.loc 0,.const (.int 0)],.const (.str 23)]]]],.op (.bin .add) [.op .sum [.comp [Gw,Gw] 1 (.op .idx [.loc 1,.const (.int 1)]) (.loc 1)],.const (.int 1)]])] [],.ite (.op (.rel .eq) [.op .len [.loc 0],.const (.int 1)]) [.ret (.op .tup [.const (.int 2),.const (.int 1)])] [],.assign (.locs [2,3]) (.callF 918 [.op .idx [.loc 0,.const (.int 1)]]),.ite (.op (.rel .ne) [.op .idx [.loc 0,.const (.int 0)],.const (.str 27)]) [.ret (.op .tup [.op (.bin .add) [.loc 2,.const (.int 2)],.op (.bin .add) [.loc 3,.const (.int 1)]])] [],.ite (.op .isNone [.op .idx [.loc 0,.const (.int 3)]]) [.ret (.op .tup [.op (.bin .add) [.const (.int 3),.op (.bin .mul) [.op (.bin .add) [.op .idx [.loc 0,.const (.int 2)],.const (.int 1)],.loc 2]],.op (.bin .add) [.const (.int 1),.op (.bin .mul) [.op (.bin .add) [.op .idx [.loc 0,.const (.int 2)],.const (.int 1)],.loc 3]]])] [],.ret (.op .tup [.op (.bin .add) [.const (.int 2),.op (.bin .mul) [.op .idx [.loc 0,.const (.int 3)],.loc 2]],.op (.bin .add) [.const (.int 1),.op (.bin .mul) [.op .idx [.loc 0,.const (.int 3)],.loc 3]]])]
noncomputable def FO:List S:=[.assign (.loc 3) (.callC 147 [.loc 2]),.try [.assign (.locs [4,5]) (.callF 165 [.loc 3,.loc 0,.loc 1])] [.ret (.const .none)],.expr (.callM 36 (.loc 3) [.loc 4]),.expr (.callM 37 (.loc 3) [.loc 5,.const (.int 3)]),.ret (.loc 3)]
noncomputable def Ee:List S:=[.assign (.loc 3) (.callC 324 [.loc 1,.loc 2]),.try [.assign (.loc 4) (.callM 43 (.loc 3) [.loc 0])] [.ret (.const .none)],.ret (.op .tup [.loc 4,.op (.attr 9) [.loc 3],.op (.attr 10) [.loc 3]])]
noncomputable def FC:List S:=[.try [.ret (.callM 51 (.callF 634 [.loc 0,.const (.int 3),.loc 1]) [])] [.ret (.const .none)]]
noncomputable def EG:List S:=[.assign (.loc 1) (.callC 257 [.loc 0]),.assign (.loc 2) (.callM 40 (.loc 1) []),.assign (.loc 3) (.callM 41 (.loc 1) [.loc 2]),.for (.loc 4) (.op .tup [.const (.int (-1)),.const (.int 0),.const (.int 1),.const (.int 2),.const (.int (-40)),.const (.int 3),.const (.int 70)]) [.assign (.loc 5) (.const (.int 0)),.forR 6 (.callM 38 (.loc 0) []) [.for (.locs [7,8]) (.op .idx [.op (.attr 1) [.loc 0],.loc 6]) [.ite (.and (.op (.bin .band) [.op (.bin .shr) [.loc 2,.loc 6],.const (.int 1)]) (.and (.chain (.const (.int 0)) (.loc 4) (.const (.int 3))) (.op (.bin .band) [.op (.bin .shr) [.loc 7,.loc 4],.const (.int 1)]))) [.assign (.loc 5) (.op (.bin .bor) [.loc 5,.callM 39 (.loc 1) [.loc 8]])] []]],.ite (.op (.rel .ne) [.callM 42 (.loc 1) [.loc 3,.loc 4],.loc 5]) [.ret (.const (.bool Gz))] []],.ret (.const (.bool Gx))]
noncomputable def mq:List S:=[.assign (.loc 1) (.callF 878 [.loc 0]),.assign (.loc 2) (.callF 899 [.loc 1]),.assign (.locs [3,4]) (.op .tup [.callF 906 [.loc 2],.callC 570 [.op .lst [.callF 377 [.const (.str 31)],.callF 377 [.const (.str 32)]]]]),.frz 4,.assign (.locs [5,6]) (.callF 918 [.loc 2]),.assign (.locs [7,8]) (.op .tup [.callF 925 [.loc 3,.loc 4,.loc 5],.callC 147 []]),.ite (.or (.op .isNone [.loc 7]) (.or (.op (.rel .ne) [.callM 38 (.loc 7) [],.loc 5]) (.op .notNone [.callF 925 [.loc 3,.loc 4,.op (.bin .sub) [.loc 5,.const (.int 1)]]]))) [.ret (.const (.bool Gz))] [],.expr (.callF 165 [.loc 8,.loc 3,.loc 4]),.ite (.or (.op (.rel .ne) [.op .tup [.op (.attr 1) [.loc 8],.op (.attr 2) [.loc 8]],.op .tup [.op (.attr 1) [.loc 7],.op (.attr 2) [.loc 7]]]) (.op (.rel .ne) [.op (.attr 0) [.loc 8],.const (.int 10000)])) [.ret (.const (.bool Gz))] [],.assign (.loc 9) (.callC 324 [.loc 4]),.assign (.loc 10) (.callM 43 (.loc 9) [.loc 3]),.ite (.or (.op (.rel .ne) [.callF 932 [.loc 3,.loc 4,.loc 6],.op .tup [.loc 10,.op (.attr 9) [.loc 9],.op (.attr 10) [.loc 9]]]) (.op .notNone [.callF 932 [.loc 3,.loc 4,.op (.bin .sub) [.loc 6,.const (.int 1)]]])) [.ret (.const (.bool Gz))] [],.ite (.or (.op (.rel .ne) [.op (.attr 7) [.loc 9],.loc 6]) (.op (.rel .ne) [.op (.attr 0) [.loc 9],.const (.int 1000)])) [.ret (.const (.bool Gz))] [],.assign (.loc 11) (.callF 634 [.loc 7,.const (.int 3)]),.ite (.op (.rel .ne) [.callF 939 [.loc 7,.callM 38 (.loc 11) []],.callM 51 (.loc 11) []]) [.ret (.const (.bool Gz))] [],.ite (.and (.op (.rel .gt) [.callM 38 (.loc 11) [],.const (.int 1)]) (.op .notNone [.callF 939 [.loc 7,.op (.bin .sub) [.callM 38 (.loc 11) [],.const (.int 1)]]])) [.ret (.const (.bool Gz))] [],.ret (.callF 946 [.loc 7])]
structure Fn where
 n:Nat
 ks:List Nat
 d:Option Int
 body:List S
noncomputable def fj:List (GW×Fn):=[(80,⟨4,[0],Gw,Gl⟩),
 (95,⟨2,[0,1],Gu 10000,F9⟩),
 (102,⟨4,[0],Gw,FG⟩),
 (109,⟨4,[0,1,2,3],Gw,FI⟩),
 (116,⟨3,[0,1,2],Gw,EN⟩),
 (123,⟨2,[0,1],Gw,Fx⟩),
 (130,⟨3,[0,1,2],Gw,ET⟩),
 (137,⟨2,[0],Gw,Eh⟩),
 (158,⟨3,[0,1],Gw,El⟩),
 (165,⟨11,[0,1,2],Gw,sT⟩),
 (172,⟨9,[0,1,2],Gw,E9⟩),
 (179,⟨10,[0,1,2],Gw,EB⟩),
 (186,⟨10,[0,1,2,3,4],Gw,Fz⟩),
 (193,⟨12,[0,1,2],Gw,EI⟩),
 (198,⟨8,[0,1],Gw,FB⟩),
 (205,⟨6,[0,1],Gw,Ej⟩),
 (219,⟨2,[0,1],Gw,Eo⟩),
 (226,⟨5,[0,1],Gw,Em⟩),
 (233,⟨1,[0],Gw,FH⟩),
 (240,⟨7,[0,1],Gw,Fa⟩),
 (247,⟨6,[0,1,2],Gw,FL⟩),
 (254,⟨4,[0,1],Gw,FJ⟩),
 (276,⟨3,[0,1,2],Gu 1000,DP⟩),
 (281,⟨9,[0,1],Gw,xS⟩),
 (288,⟨4,[0,1],Gw,Ed⟩),
 (295,⟨5,[0,1,2],Gw,Fw⟩),
 (302,⟨8,[0,1],Gw,ES⟩),
 (309,⟨8,[0,1],Gw,FQ⟩),
 (316,⟨2,[0,1],Gw,Fm⟩),
 (321,⟨8,[0,1],Gw,EX⟩),
 (342,⟨2,[0,1],Gw,Ff⟩),
 (377,⟨2,[0],Gw,Fv⟩),
 (397,⟨13,[0],Gw,EK⟩),
 (512,⟨13,[0,1],Gw,Fq⟩),
 (536,⟨13,[0,1],Gw,zo⟩),
 (588,⟨3,[0,1,2],Gw,Fe⟩),
 (602,⟨2,[0],Gw,EA⟩),
 (621,⟨2,[0],Gw,Ez⟩),
 (634,⟨18,[0,1,2],Gu 10000,C7⟩),
 (700,⟨2,[0,1],Gw,Fg⟩),
 (726,⟨3,[0,1,2],Gw,Fb⟩),
 (783,⟨2,[0,1],Gw,ED⟩),
 (852,⟨8,[0,1,2,3],Gw,Fh⟩),
 (878,⟨5,[0],Gw,Ei⟩),
 (885,⟨3,[0,1],Gw,Fi⟩),
 (892,⟨2,[0],Gw,EF⟩),
 (899,⟨8,[0],Gw,FW⟩),
 (906,⟨13,[0],Gw,xF⟩),
 (913,⟨3,[0,1],Gw,EU⟩),
 (918,⟨9,[0],Gw,Dn⟩),
 (925,⟨9,[0,1,2],Gw,FO⟩),
 (932,⟨7,[0,1,2],Gw,Ee⟩),
 (939,⟨4,[0,1],Gw,FC⟩),
 (946,⟨11,[0],Gw,EG⟩),
 (953,⟨26,[0],Gw,mq⟩)]
noncomputable def d6 (Q:V->Sg->Prop):cU:=fun c Z b=>match c with
 |.next=>Q .none b
 |.ret v=>Q v b
 |.cont=>False
structure bg (u:U):Prop where
 T:u.T=tab
 call:∀(f:GW) (F:Fn),lookC f fj=Gu F->∀(d:Nat) (args:List V) (Q:V->Sg->Prop) (X:Sg->Prop) (σ:Sg),args.length=F.ks.length->wpSs tab (ae u d) F.body (dR F.n F.ks args) (d6 Q) X σ->ae u (d+1) f args Q X σ
 callD:∀(f:GW) (F:Fn) (i:Int),lookC f fj=Gu F->F.d=Gu i->∀(d:Nat) (args:List V) (Q:V->Sg->Prop) (X:Sg->Prop) (σ:Sg),args.length+1=F.ks.length->wpSs tab (ae u d) F.body (dR F.n F.ks (args++[.int i])) (d6 Q) X σ->ae u (d+1) f args Q X σ
theorem ae.up {u:U} {d j:Nat} (h:d<=j) {f:GW} {b:List V} {Q:V->Sg->Prop} {X:Sg->Prop} {σ:Sg} (m:ae u d f b Q X σ):ae u j f b Q X σ:=
 fun w A c k l G s e g i n o p=>m w A c k l G s e g ⟨i.handled,by have:=i.depth;lia,by have:=i.units;lia,i.frames⟩ n o p
theorem vl {o:Option (Option V)} {v:V} {f:V->Prop} (e:o=Gu (Gu v)) (q:f v):match (generalizing:=false) o with|some (Gu v)=>f v|_=>False:=by subst e;exact q
theorem zR {o:PR} {r:V} {σ:Sg} {f:V->Sg->Prop} (e:o=Gu (r,σ)) (q:f r σ):match (generalizing:=false) o with|some (v,σ)=>f v σ|none=>False:=by subst e;exact q
theorem DG {o:Option Bool} {A B:Prop} (e:o=Gu Gx) (q:A):match (generalizing:=false) o with|some Gx=>A|some Gz=>B|none=>False:=by subst e;exact q
theorem Du {o:Option Bool} {A B:Prop} (e:o=Gu Gz) (q:B):match (generalizing:=false) o with|some Gx=>A|some Gz=>B|none=>False:=by subst e;exact q
section
variable {C:aC} {ρ d:List (Option V)} {σ σ₁ σ₂ g:Sg} {e a b:E} {o:List E} {v x y:V} {vs:List V} {p:mj} {Q:V->Sg->Prop} {X:Sg->Prop} {K:cU} {l:List S}
def Ev (C:aC) (ρ:List (Option V)) (σ:Sg) (e:E) (v:V) (σ':Sg):Prop:=∀(Q:V->Sg->Prop) (X:Sg->Prop),Q v σ'->wpE tab C ρ e Q X σ
def vW (C:aC) (ρ:List (Option V)) (σ:Sg) (o:List E) (vs:List V) (σ':Sg):Prop:=∀(Q:List V->Sg->Prop) (X:Sg->Prop),Q vs σ'->wpEs tab C ρ o Q X σ
def d8 (C:aC) (ρ:List (Option V)) (σ:Sg) (e:E) (t:Bool) (σ':Sg):Prop:=∀(Q:Bool->Sg->Prop) (X:Sg->Prop),Q t σ'->wpB tab C ρ e Q X σ
theorem Ev.loc {k:Nat} (h:ρ[k]? =Gu (Gu v)):Ev C ρ σ (.loc k) v σ:=fun Q X q=>vl h q
theorem Ev.const:Ev C ρ σ (.const v) v σ:=fun Q X q=>q
theorem Ev.op (h:vW C ρ σ o vs σ₁) (e:aI tab p vs σ₁=Gu (v,σ₂)):Ev C ρ σ (.op p o) v σ₂:=fun Q X q=>by
 exact h _ _ (zR e q)
theorem vW.nil:vW C ρ σ [] [] σ:=fun Q X q=>q
theorem vW.cons (h:Ev C ρ σ e v σ₁) (h':vW C ρ σ₁ o vs σ₂):vW C ρ σ (e::o) (v::vs) σ₂:=fun Q X q=>h _ _ (h' _ _ q)
theorem Ev.app (h:Ev C ρ σ a v σ₁) (c:ja σ₁ v=Gx) (h':Ev C ρ σ₁ b y σ₂) (e:aI tab .app [v,y] σ₂=Gu (x,g)):Ev C ρ σ (.app a b) x g:=fun Q X q=>by
 exact h _ _ ⟨c,h' _ _ (zR e q)⟩
theorem Ev.andT (h:Ev C ρ σ a v σ₁) (t:b7 σ₁ v=Gu Gx) (h':Ev C ρ σ₁ b y σ₂):Ev C ρ σ (.and a b) y σ₂:=fun Q X q=>h _ _ (DG t (h' _ _ q))
theorem Ev.andF (h:Ev C ρ σ a v σ₁) (t:b7 σ₁ v=Gu Gz):Ev C ρ σ (.and a b) v σ₁:=fun Q X q=>h _ _ (Du t q)
theorem Ev.orT (h:Ev C ρ σ a v σ₁) (t:b7 σ₁ v=Gu Gx):Ev C ρ σ (.or a b) v σ₁:=fun Q X q=>h _ _ (DG t q)
theorem Ev.orF (h:Ev C ρ σ a v σ₁) (t:b7 σ₁ v=Gu Gz) (h':Ev C ρ σ₁ b y σ₂):Ev C ρ σ (.or a b) y σ₂:=fun Q X q=>h _ _ (Du t (h' _ _ q))
theorem d8.of (h:Ev C ρ σ e v σ₁) {t:Bool} (c:b7 σ₁ v=Gu t) (hp:jp e=Gx):d8 C ρ σ e t σ₁:=fun Q X q=>by
 rw [ir hp];exact h _ _ (by rw [c];exact q)
theorem d8.andT (h:d8 C ρ σ a Gx σ₁) {t:Bool} (h':d8 C ρ σ₁ b t σ₂):d8 C ρ σ (.and a b) t σ₂:=fun Q X q=>h _ _ (h' _ _ q)
theorem d8.andF (h:d8 C ρ σ a Gz σ₁):d8 C ρ σ (.and a b) Gz σ₁:=fun Q X q=>h _ _ q
theorem d8.orT (h:d8 C ρ σ a Gx σ₁):d8 C ρ σ (.or a b) Gx σ₁:=fun Q X q=>h _ _ q
theorem d8.orF (h:d8 C ρ σ a Gz σ₁) {t:Bool} (h':d8 C ρ σ₁ b t σ₂):d8 C ρ σ (.or a b) t σ₂:=fun Q X q=>h _ _ (h' _ _ q)
theorem eV {Q:List V->Sg->Prop} (h:Q [] σ):wpEs tab C ρ [] Q X σ:=h
theorem lV {Q:List V->Sg->Prop} (h:wpE tab C ρ e (fun v σ'=>wpEs tab C ρ o (fun vs c=>Q (v::vs) c) X σ') X σ):wpEs tab C ρ (e::o) Q X σ:=h
theorem gQ {f:GW} (h:wpEs tab C ρ o (fun vs σ'=>C f vs Q X σ') X σ):wpE tab C ρ (.callF f o) Q X σ:=h
theorem oy (h:wpEs tab C ρ o (fun vs σ'=>match aI tab p vs σ' with|some (v,c)=>Q v c|none=>False) X σ):wpE tab C ρ (.op p o) Q X σ:=h
theorem yv {n:Nat} (h:wpE tab C ρ e (fun v σ'=>match dY tab n σ' v with|some f=>wpEs tab C ρ o (fun vs c=>C f (v::vs) Q X c) X σ'|none=>False) X σ):wpE tab C ρ (.callM n e o) Q X σ:=h
theorem C6 (h:wpE tab C ρ a (fun v σ'=>ja σ' v=Gx/\wpE tab C ρ b (fun y c=>match aI tab .app [v,y] c with|some (r,g)=>Q r g|none=>False) X σ') X σ):wpE tab C ρ (.app a b) Q X σ:=h
theorem iZ {c:GW} (h:wpEs tab C ρ o (fun vs σ'=>match lookC c tab.inits with|some (Gu f)=>C f (.ref σ'.n::vs) (fun r i=>r=.none/\Q (.ref σ'.n) i) X (σ'.alloc (.inst c [])) |some Gw=>(match vs with|[]=>Q (.ref σ'.n) (σ'.alloc (.inst c [])) |_=>False) |none=>False) X σ):wpE tab C ρ (.callC c o) Q X σ:=h
theorem BX {f:List (Option Nat)} {t:Nat} (h:wpE tab C ρ e (fun v σ'=>match fx v σ' with|some l=>compW (fun i Q' j c=>wpE tab C ((f.map fun|none=>Gw|some k=>(ρ[k]?).join).set t (Gu i)) a Q' j c) (cq v l) X l [] (fun m c=>Q (.ref c.n) (c.alloc (.list m))) σ'|none=>False) X σ):wpE tab C ρ (.comp f t a e) Q X σ:=h
theorem ay {f:GW} (h:vW C ρ σ o vs σ₁) (m:C f vs Q X σ₁):wpE tab C ρ (.callF f o) Q X σ:=h _ _ m
theorem w_callM {n:Nat} {f:GW} (h:Ev C ρ σ a v σ₁) (c:dY tab n σ₁ v=Gu f) (i:vW C ρ σ₁ o vs σ₂) (m:C f (v::vs) Q X σ₂):wpE tab C ρ (.callM n a o) Q X σ:=by
 exact h _ _ (by rw [c];exact i _ _ m)
theorem w_callC {c f:GW} (h:vW C ρ σ o vs σ₁) (i:lookC c tab.inits=Gu (Gu f)) (m:C f (.ref σ₁.n::vs) (fun r σ'=>r=.none/\Q (.ref σ₁.n) σ') X (σ₁.alloc (.inst c []))):wpE tab C ρ (.callC c o) Q X σ:=by
 refine h _ _ ?_;rw [i];exact m
noncomputable def hZ (C:aC) (l:List S) (K:cU) (X:Sg->Prop):cU:=fun f d c=>match f with
 |.next=>wpSs tab C l d K X c
 |f=>K f d c
def EC (C:aC) (t:ky) (l:List S) (ρ:List (Option V)) (K:cU) (X:Sg->Prop):V->Sg->Prop:=fun v c=>match eX ρ t v c with
 |some d=>wpSs tab C l d K X c
 |none=>False
theorem aB {t:ky} (c:eX ρ t v σ=Gu d) (q:wpSs tab C l d K X σ):EC C t l ρ K X v σ:=by
 show match eX ρ t v σ with|some d=>wpSs tab C l d K X σ|none=>False
 rw [c];exact q
theorem ak (q:K .next ρ σ):wpSs tab C [] ρ K X σ:=q
theorem bm (q:K .next ρ σ):hZ C [] K X .next ρ σ:=ak (C:=C) (X:=X) q
theorem w_asg {t:ky} (h:wpE tab C ρ e (EC C t l ρ K X) X σ):wpSs tab C (.assign t e::l) ρ K X σ:=h
theorem ar {t:ky} (h:Ev C ρ σ e v σ₁) (c:eX ρ t v σ₁=Gu d) (q:wpSs tab C l d K X σ₁):wpSs tab C (.assign t e::l) ρ K X σ:=
 w_asg (h _ _ (aB c q))
theorem aD (h:wpE tab C ρ e (fun Z σ'=>wpSs tab C l ρ K X σ') X σ):wpSs tab C (.expr e::l) ρ K X σ:=h
theorem ax (h:wpE tab C ρ e (fun v σ'=>K (.ret v) ρ σ') X σ):wpSs tab C (.ret e::l) ρ K X σ:=h
theorem aq {t:Bool} {l₁ c:List S} (h:d8 C ρ σ e t σ₁) (q:wpSs tab C (bif t then l₁ else c) ρ (hZ C l K X) X σ₁):wpSs tab C (.ite e l₁ c::l) ρ K X σ:=by
 refine h _ _ ?_;cases t<;>exact q
theorem aG {n:Nat} (h:Ev C ρ σ e x σ₁) (c:Ev C ρ σ₁ a v σ₂) (f:ov tab σ₂ n x v=Gu g) (q:wpSs tab C l ρ K X g):wpSs tab C (.setAttr a n e::l) ρ K X σ:=by
 exact h _ _ (c _ _ (by rw [f];exact q))
theorem bT {i:E} {j:V} {c:Sg} (h:Ev C ρ σ e x σ₁) (f:Ev C ρ σ₁ a v σ₂) (hi:Ev C ρ σ₂ i j g) (k:jC g x v j=Gu c) (q:wpSs tab C l ρ K X c):wpSs tab C (.setIdx a i e::l) ρ K X σ:=by
 exact h _ _ (f _ _ (hi _ _ (by rw [k];exact q)))
theorem lu {k:Nat} {op:Op} {i j r:Int} (c:ρ[k]? =Gu (Gu (.int i))) (h:Ev C ρ σ e (.int j) σ₁) (f:dT op i j=Gu r) (q:wpSs tab C l (ρ.set k (Gu (.int r))) K X σ₁):wpSs tab C (.aug k op e::l) ρ K X σ:=by
 exact⟨_,c,h _ _ ⟨_,_,rfl,f,q⟩⟩
theorem sw {n:Nat} {op:Op} {i j r:Int} (c:Ev C ρ σ a v σ₁) (f:kC tab n σ₁ v=Gu (.int i)) (h:Ev C ρ σ₁ e (.int j) σ₂) (k:dT op i j=Gu r) (m:ov tab σ₂ n (.int r) v=Gu g) (q:wpSs tab C l ρ K X g):wpSs tab C (.augAttr a n op e::l) ρ K X σ:=by
 exact c _ _ ⟨_,f,h _ _ ⟨_,_,_,rfl,k,m,q⟩⟩
theorem vn {k:E} {op:Op} {y:V} {i j r:Int} {c f:Sg} (m:Ev C ρ σ a v σ₁) (hi:Ev C ρ σ₁ k y σ₂) (n:aI tab .idx [v,y] σ₂=Gu (.int i,f)) (h:Ev C ρ σ₂ e (.int j) g) (s:dT op i j=Gu r) (t:jC g (.int r) v y=Gu c) (q:wpSs tab C l ρ K X c):wpSs tab C (.augIdx a k op e::l) ρ K X σ:=by
 exact m _ _ (hi _ _ ⟨_,_,n,h _ _ ⟨_,_,_,rfl,s,t,q⟩⟩)
theorem me {i:Int} (h:Ev C ρ σ e (.int i) σ₁) (c:0<=i) (f:i<=1000000) (q:X σ₁):wpSs tab C (.raise e::l) ρ K X σ:=h _ _ ⟨_,rfl,c,f,q⟩
theorem uX {b h:List S} (q:wpSs tab C b ρ (hZ C l K X) (fun σ'=>wpSs tab C h (ρ.map fun Z=>Gw) (hZ C l K X) X σ') σ):wpSs tab C (.try b h::l) ρ K X σ:=q
theorem CM {k:Nat} {c:V} (j:ρ[k]? =Gu (Gu v)) (m:FrzL σ [v] [c] σ₁) (q:wpSs tab C l (ρ.set k (Gu c)) K X σ₁):wpSs tab C (.frz k::l) ρ K X σ:=by
 exact vl (f:=fun v=>∃c i,FrzL σ [v] [c] i/\wpSs tab C l (ρ.set k (Gu c)) K X i) j ⟨c,σ₁,m,q⟩
theorem BV (q:K .cont ρ σ):wpSs tab C (.cont::l) ρ K X σ:=q
theorem oE {W:V->List (Option V)->cU->Sg->Prop} {m:Sg->Prop} (I:List V->List (Option V)->Sg->Prop) (c:∀r ρ σ,I r ρ σ->m σ) (f:∀i r ρ σ (j:cU),I (i::r) ρ σ->(∀d σ',I r d σ'->j .next d σ'/\j .cont d σ')->(∀v d σ',K (.ret v) d σ'->j (.ret v) d σ')->W i ρ j σ) (done:∀ρ σ,I [] ρ σ->K .next ρ σ) (l:List V):∀(ρ:List (Option V)) (σ:Sg),I l ρ σ->forW W m l ρ K σ:=by
 induction l with
 |nil=>
  intro ρ σ h;exact⟨c _ _ _ h,done _ _ h⟩
 |cons i r n=>
  intro ρ σ h;refine⟨c _ _ _ h,f i r ρ σ _ h (fun d σ' q=>?_) fun v d σ' k=>k⟩
  have:=n d σ' q
  exact⟨this,this⟩
def nH (C:aC) (t:ky) (b l:List S) (ρ:List (Option V)) (K:cU) (X:Sg->Prop):V->Sg->Prop:=fun v c=>match aV v c with
 |some vs=>forW (fun i ρ f σ=>match eX ρ t i σ with
  |some d=>wpSs tab C b d f X σ
  |none=>False) (cq v vs) vs ρ (hZ C l K X) c
 |none=>False
theorem bK {t:ky} {b:List S} (h:wpE tab C ρ e (nH C t b l ρ K X) X σ):wpSs tab C (.for t e b::l) ρ K X σ:=h
theorem bG {t:ky} {b:List S} {vs:List V} (I:List V->List (Option V)->Sg->Prop) (k:aV v σ=Gu vs) (m:I vs ρ σ) (j:∀r ρ σ,I r ρ σ->cq v vs σ)
  (f:∀i r ρ σ (c:cU),I (i::r) ρ σ->(∀d σ',I r d σ'->c .next d σ'/\c .cont d σ')->(∀v d σ',K (.ret v) d σ'->c (.ret v) d σ')->∃d,eX ρ t i σ=Gu d/\wpSs tab C b d c X σ)
  (done:∀ρ σ,I [] ρ σ->wpSs tab C l ρ K X σ):nH C t b l ρ K X v σ:=by
 unfold nH;rw [k];refine oE (K:=hZ C l K X) I j (fun i r ρ σ c n s u=>?_) done _ _ _ m;obtain⟨d,z,q⟩:=f i r ρ σ c n s u;rw [z];exact q
def uD (C:aC) (k:Nat) (b l:List S) (ρ:List (Option V)) (K:cU) (X:Sg->Prop):V->Sg->Prop:=fun v c=>∃n,v=.int n/\0<=n/\n<=1000000/\forW (fun i ρ f σ=>wpSs tab C b (ρ.set k (Gu i)) f X σ) (fun Z=>True) (a6 n) ρ (hZ C l K X) c
theorem dJ {k:Nat} {b:List S} (h:wpE tab C ρ e (uD C k b l ρ K X) X σ):wpSs tab C (.forR k e b::l) ρ K X σ:=h
theorem cM {k:Nat} {b:List S} {n:Int} (I:List V->List (Option V)->Sg->Prop) (j:0<=n) (m:n<=1000000) (q:I (a6 n) ρ σ)
  (c:∀i r ρ σ (f:cU),I (i::r) ρ σ->(∀d σ',I r d σ'->f .next d σ'/\f .cont d σ')->(∀v d σ',K (.ret v) d σ'->f (.ret v) d σ')->wpSs tab C b (ρ.set k (Gu i)) f X σ)
  (done:∀ρ σ,I [] ρ σ->wpSs tab C l ρ K X σ):uD C k b l ρ K X (.int n) σ:=by
 exact⟨n,rfl,j,m,oE (K:=hZ C l K X) I (fun Z Z Z Z=>trivial) c done _ _ _ q⟩
theorem eQ {b:List S} (I:Nat->List (Option V)->Sg->Prop) {n:Nat} (r:I n ρ σ)
  (f:∀n ρ σ,I n ρ σ->∃t σ',d8 C ρ σ e t σ'/\(t=Gz->wpSs tab C l ρ K X σ')/\(t=Gx->∀i:cU,(∀m d c,m<n->I m d c->i .next d c/\i .cont d c)->(∀v d σ',K (.ret v) d σ'->i (.ret v) d σ')->wpSs tab C b ρ i X σ')):wpSs tab C (.while e b::l) ρ K X σ:=by
 refine⟨I,⟨n,r⟩,fun n ρ σ h=>?_⟩;obtain⟨t,σ',s,u,z⟩:=f n ρ σ h;refine s _ _ ?_
 cases t with
 |false=>exact u rfl
 |true=>exact z rfl _ (fun m d c j q=>⟨⟨m,j,q⟩,⟨m,j,q⟩⟩) fun v d σ' k=>k
theorem iu {W:V->(V->Sg->Prop)->(Sg->Prop)->Sg->Prop} {j:Sg->Prop} {Q:List V->Sg->Prop} (I:List V->List V->Sg->Prop) (c:∀r acc σ,I r acc σ->j σ) (f:∀i r acc σ (Q':V->Sg->Prop),I (i::r) acc σ->(∀v σ',I r (acc++[v]) σ'->Q' v σ')->W i Q' X σ) (done:∀acc σ,I [] acc σ->Q acc σ) (l:List V):∀(acc:List V) (σ:Sg),I l acc σ->compW W j X l acc Q σ:=by
 induction l with
 |nil=>
  intro acc σ h;exact⟨c _ _ _ h,done _ _ h⟩
 |cons i r k=>
  intro acc σ h;exact⟨c _ _ _ h,f i r acc σ _ h fun v σ' m=>k _ σ' m⟩
end
section
variable {σ:Sg} {a c n:Nat} {d:List (Nat×V)} {l:List V} {v x:V} {i:Int} {kvs:List (Int×V)}
theorem a7 {n:Nat} {c:GW} (h:σ.cell a=.inst c d) (e:eF tab c n d=Gu v):aI tab (.attr n) [.ref a] σ=Gu (v,σ):=by
 show(kC tab n σ (.ref a)).map (·,σ)=_
 unfold kC;simp only [h,e,ID]
theorem bH {n:Nat} {c:GW} {ks:List Nat} {vs:List V} (b:ks.length=vs.length) (e:eF tab c n (ks.zip vs)=Gu v):aI tab (.attr n) [.obj c ks vs] σ=Gu (v,σ):=by
 show(kC tab n σ (.obj c ks vs)).map (·,σ)=_
 unfold kC;simp only [if_pos b,e,ID]
theorem bC {w:V} (h:aV w σ=Gu l) (b:l.length<=1000000) (e:Cp l i=Gu v):aI tab .idx [w,.int i] σ=Gu (v,σ):=by
 show tC w σ _ _=_
 unfold tC;simp only [h,if_pos b,e,ID]
theorem jP {w:V} (h:aV w σ=Gw) (hd:cO w σ=Gu kvs) (e:lookI i kvs=Gu v):aI tab .idx [w,.int i] σ=Gu (v,σ):=by
 show tC w σ _ _=_
 unfold tC;simp only [h,hd,e,ID]
theorem d7 {w:V} (h:aV w σ=Gu l) (b:l.length<=1000000):aI tab .len [w] σ=Gu (.int l.length,σ):=by
 show tC w σ _ _=_
 unfold tC;simp only [h,if_pos b]
theorem uF {w:V} (h:aV w σ=Gw) (hd:cO w σ=Gu kvs) (b:kvs.length<=1000000):aI tab .len [w] σ=Gu (.int kvs.length,σ):=by
 show tC w σ _ _=_
 unfold tC;simp only [h,hd,if_pos b]
theorem bI (h:σ.cell a=.list l) (b:a<σ.n) (e:l.length<=1000000):aI tab .app [.ref a,v] σ=Gu (.none,σ.set a (.list (l++[v]))):=by
 show bU a σ _=_
 unfold bU;simp only [h,if_pos (OC b e)]
theorem CZ (h:σ.cell a=.list (l++[v])) (b:a<σ.n) (e:l.length<1000000):aI tab .pop [.ref a] σ=Gu (v,σ.set a (.list l)):=by
 show bU a σ _=_
 unfold bU;simp only [h];rw [if_pos ⟨b,by simp;exact(l1 0x1c09492949f801bf9392949f80) e⟩]
 simp
theorem sx (h:σ.cell a=.list [v]):aI tab .sorted [.ref a] σ=Gu (.ref σ.n,σ.alloc (.list [v])):=by
 show eH a σ=_
 unfold eH;simp only [h]
theorem r9 (h:σ.cell a=.dict kvs) (b:kvs.length<64):aI tab .sortedKeys [.ref a] σ=Gu (.ref σ.n,σ.alloc (.list ((iD (kvs.map fun(x:Int×V)=>x.1)).map .int))):=by
 show kQ a σ _=_
 unfold kQ rA;simp only [h,if_pos b]
theorem sK (h:σ.cell a=.dict kvs) (b:kvs.length<64):aI tab .sorted [.ref a] σ=Gu (.ref σ.n,σ.alloc (.list ((iD (kvs.map fun(x:Int×V)=>x.1)).map .int))):=by
 show eH a σ=_
 unfold eH rA;simp only [h,if_pos b]
theorem CB {a b:Int} (h:b<=a):aI tab .max [.int a,.int b] σ=Gu (.int a,σ):=by
 show Gu (V.int (if b>a then b else a),σ)=_
 rw [if_neg (by lia)]
theorem CL {a b:Int} (h:a<=b):aI tab .min [.int a,.int b] σ=Gu (.int a,σ):=by
 show Gu (V.int (if b<a then b else a),σ)=_
 rw [if_neg (by lia)]
theorem Dg (h:σ.cell a=.list l) (b:a<σ.n) (e:l.length<=1000000):aI tab .rev [.ref a] σ=Gu (.none,σ.set a (.list l.reverse)):=by
 show bU a σ _=_
 unfold bU;simp only [h,if_pos (OC b e)]
theorem yw (b:l.length<=1000000):aI tab .from1 [.lst l] σ=Gu (.ref σ.n,σ.alloc (.list (l.drop 1))):=if_pos b
theorem lC (h:σ.cell a=.list l) (b:l.length<=1000000):aI tab .tupleOf [.ref a] σ=Gu (.tup l,σ):=by
 show bU a σ _=_
 unfold bU;simp only [h,if_pos b]
theorem ku (b:l.length<=1000000):aI tab .tupleOf [.lst l] σ=Gu (.tup l,σ):=by
 show(if l.length<=1000000 then Gu (V.tup l,σ) else Gw)=_
 rw [if_pos b]
theorem aK (b:l.length<=1000):aI tab .tup l σ=Gu (.tup l,σ):=by
 show(if l.length<=1000 then Gu (V.tup l,σ) else Gw)=_
 rw [if_pos b]
theorem bP (b:l.length<=1000):aI tab .lst l σ=Gu (.ref σ.n,σ.alloc (.list l)):=by
 show(if l.length<=1000 then Gu (V.ref σ.n,σ.alloc (.list l)) else Gw)=_
 rw [if_pos b]
theorem CY {w:V} (hd:cO w σ=Gu kvs):aI tab .inn [.int i,w] σ=Gu (.bool (lookI i kvs).isSome,σ):=by
 show(w7 i w σ).map _=_
 unfold w7;simp only [hd,ID]
theorem fF {w:V} (hd:cO w σ=Gu kvs):aI tab .notIn [.int i,w] σ=Gu (.bool (!(lookI i kvs).isSome),σ):=by
 show(w7 i w σ).map _=_
 unfold w7;simp only [hd,ID]
theorem mX (is:List Int):ints? (is.map .int)=Gu is:=by
 induction is with
 |nil=>
  exact rfl
 |cons i r b=>
  show(ints? (r.map .int)).map (i:: ·)=_;rw [b];rfl
theorem tW {w:V} {is:List Int} (hd:cO w σ=Gw) (h:aV w σ=Gu (is.map .int)):aI tab .notIn [.int i,w] σ=Gu (.bool (!(is.any (· ==i))),σ):=by
 show(w7 i w σ).map _=_
 unfold w7;simp only [hd,h,NS,mX,ID]
theorem Bn (h:kg σ v x=Gx) (b:∀i,v≠.int i) (e:∀i,v≠.str i):aI tab (.rel .ne) [v,x] σ=Gu (.bool Gz,σ):=by
 cases v<;>first|exact absurd rfl (b _) |exact absurd rfl (e _) |exact if_pos h
theorem vc {a b:Nat} (h:a<55/\b<55):aI tab (.rel .ne) [.str a,.str b] σ=Gu (.bool (!(GL (a=b))),σ):=if_pos h
theorem aF {op:Op} {a b r:Int} (e:dT op a b=Gu r):aI tab (.bin op) [.int a,.int b] σ=Gu (.int r,σ):=by
 show(dT op a b).map (V.int ·,σ)=_
 rw [e];rfl
theorem Af {a b:Int} (h:b≠0):dT .mod a b=Gu (a.fmod b):=if_neg h
theorem A0 {a b:Int} (h:b≠0) (h':b.natAbs<=1000000):dT .fdiv a b=Gu (a.fdiv b):=if_neg (by lia)
theorem jo {a b:Int} (h:a.natAbs<2^60\/(a.natAbs<2^3000/\b.natAbs<2^3000)):dT .mul a b=Gu (a * b):=if_pos h
theorem Ab {a b:Int} (e:0<=b) (f:b<=1000) (h:a.natAbs<2^64):dT .pow a b=Gu (a^b.toNat):=if_pos ⟨e,f,h⟩
theorem rV {a b:Int} (e:0<=b) (f:b<=1000000) (h:a.natAbs<2^64):dT .shl a b=Gu (a * 2^b.toNat):=if_pos ⟨e,f,h⟩
theorem z7 {a b:Int} (e:0<=b):dT .shr a b=Gu (a.fdiv (2^b.toNat)):=if_pos e
theorem aA (h:σ.cell a=.list l):aV (.ref a) σ=Gu l:=by
 unfold aV;dsimp only;rw [h]
theorem cy (h:σ.cell a=.dict kvs):aV (.ref a) σ=Gw:=by
 unfold aV;dsimp only;rw [h]
theorem br (h:σ.cell a=.dict kvs):cO (.ref a) σ=Gu kvs:=by
 unfold cO;dsimp only;rw [h]
theorem sL (h:σ.cell a=.list l):cO (.ref a) σ=Gw:=by
 unfold cO;dsimp only;rw [h]
theorem aM (h:σ.cell a=.list l):ja σ (.ref a)=Gx:=by
 unfold ja;dsimp only;rw [h]
theorem vC (h:σ.cell a=.dict kvs):k9 σ (.ref a)=Gx:=by
 unfold k9;dsimp only;rw [h]
theorem jB (h:σ.cell a=.list l) (b:l.length<=1000000):b7 σ (.ref a)=Gu (!l.isEmpty):=by
 unfold b7;dsimp only;rw [h];exact if_pos b
theorem sr (b:l.length<=1000000):b7 σ (.lst l)=Gu (!l.isEmpty):=by
 exact if_pos b
theorem aS {n:Nat} {c:GW} (h:σ.cell a=.inst c d) (b:a<σ.n) (e:d.length<=100) (f:bX tab c n=Gx):ov tab σ n v (.ref a)=Gu (σ.set a (.inst c (putN' n v d))):=by
 unfold ov;dsimp only;rw [h];exact if_pos ⟨b,e,f⟩
theorem fP (h:σ.cell a=.list l) (b:a<σ.n) (e:l.length<=1000000) (f:0<=i) (g:i<l.length):jC σ v (.ref a) (.int i)=Gu (σ.set a (.list (l.set i.toNat v))):=by
 unfold jC;dsimp only;rw [h];exact if_pos ⟨b,e,f,g⟩
theorem cw (h:σ.cell a=.dict kvs) (b:a<σ.n) (e:kvs.length<=1000000):jC σ v (.ref a) (.int i)=Gu (σ.set a (.dict (putI i v kvs))):=by
 unfold jC;dsimp only;rw [h];exact if_pos ⟨b,e⟩
theorem aw {n:Nat} {c f:GW} (h:σ.cell a=.inst c d) (e:((d.map (·.1)).contains n|| !(wK tab c) ||decide (55<=n))=Gz) (b:lookT c n tab.meths=Gu f):dY tab n σ (.ref a)=Gu f:=by
 unfold dY ny;simp only [h,e,HC,if_false,b]
theorem dZ {n:Nat} {c f:GW} {ks:List Nat} {vs:List V} (e:(ks.contains n|| !(wK tab c) ||decide (55<=n))=Gz) (b:lookT c n tab.meths=Gu f):dY tab n σ (.obj c ks vs)=Gu f:=by
 unfold dY ny;simp only [e,HC,if_false,b]
theorem cX {k:Nat} (e:l[k]? =Gu v):Cp l (k:Int)=Gu v:=by
 unfold Cp;rw [if_pos (Hc k)]
 simpa using e
theorem am {b:Cell}:(σ.set a b).cell a=b:=by rw [Sg.set_cell,if_pos rfl]
theorem af {b:Cell} {y:Nat} (h:y≠a):(σ.set a b).cell y=σ.cell y:=by rw [Sg.set_cell,if_neg h]
theorem ah {b:Cell}:(σ.alloc b).cell σ.n=b:=by rw [Sg.alloc_cell,if_pos rfl]
theorem au {b:Cell} {y:Nat} (h:y<σ.n):(σ.alloc b).cell y=σ.cell y:=by rw [Sg.alloc_cell,if_neg (by exact(l2 7533613318) h)]
end
structure aZ (σ σ':Sg):Prop where
 n:σ.n<=σ'.n
 cell:∀x,x<σ.n->σ'.cell x=σ.cell x
theorem aZ.refl (σ:Sg):aZ σ σ:=⟨GP _,fun Z Z=>rfl⟩
theorem aZ.trans {σ σ₁ σ₂:Sg} (a:aZ σ σ₁) (b:aZ σ₁ σ₂):aZ σ σ₂:=⟨GC a.n b.n,fun x h=>(b.cell x (GQ h a.n)).trans (a.cell x h)⟩
theorem aZ.alloc (σ:Sg) (c:Cell):aZ σ (σ.alloc c):=⟨Hn _,fun x h=>au h⟩
set_option exponentiation.threshold 4000
section
variable {u:U} {d:Nat} {Q:V->Sg->Prop} {X:Sg->Prop} {σ:Sg}
structure fV (σ:Sg) (a:Nat) (K:Nat) (w k m:Int):Prop where
 cell:σ.cell a=.list [.int w,.int k,.int m]
 lt:a<σ.n
 w0:0<=w
 w1:w.natAbs<2^2900
 k0:0<=k
 k1:k<=K
 m0:0<m
 m1:m.natAbs<2^500
theorem sC {e:Nat} (h:e<=60):((1000003:Int) ^e).natAbs<2^1300:=by
 rw [Int.natAbs_pow]
 calc (1000003:Int).natAbs^e<=1000003^60:=Hh (by decide) h
  _<2^1300:=by decide+kernel
theorem kW {C:aC} {a K:Nat} {w k m c:Int} (S:fV σ a K w k m) (e:0<c) (s:c<=1000)
  (f:∀r σ' n,0<=r->r<c->fV σ' a K n k m->σ'.n=σ.n->(∀x,x≠a->σ'.cell x=σ.cell x)->Q (.int r) σ'):
  wpSs tab C [.assign (.loc 2) (.op (.bin .mod) [.op .idx [.loc 0,.const (.int 0)],.loc 1]),.setIdx (.loc 0) (.const (.int 0)) (.op (.bin .fdiv) [.op .idx [.loc 0,.const (.int 0)],.loc 1]),.ret (.loc 2)] [Gu (.ref a),Gu (.int c),Gw] (d6 Q) X σ:=by
 have g:c≠0:=(Pr e)
 have i:aI tab .idx [.ref a,.int 0] σ=Gu (.int w,σ):=bC (aA S.cell) (by simp) rfl
 refine ar (.op (.cons (.op (.cons (.loc rfl) (.cons .const .nil)) i) (.cons (.loc rfl) .nil)) (aF (Af g))) rfl ?_;refine bT (.op (.cons (.op (.cons (.loc rfl) (.cons .const .nil)) i) (.cons (.loc rfl) .nil)) (aF (A0 g (by lia)))) (.loc rfl) .const (fP S.cell S.lt (by simp) (JH 0) (by simp)) ?_
 refine ax (Ev.loc rfl _ _ ?_)
 have j:w.fmod c=w % c:=Ku _ (Jt e)
 have l:w.fdiv c=w / c:=MN _ (Jt e)
 refine f _ _ (w.fdiv c) (by rw [j];exact OS _ g) (by rw [j];exact N6 _ e) ⟨am,S.lt,by rw [l];exact OT S.w0 (Jt e),?_,S.k0,S.k1,S.m0,S.m1⟩ rfl fun x o=>af o
 have p:w / c<=w:=Int.ediv_le_self _ S.w0
 have q:=OT (a:=w) (b:=c) S.w0 (Jt e)
 have:=S.w1
 rw [l];exact IW (Nm.mp (by rw [Lk q,Lk S.w0];exact p)) this
theorem AB (F:bg u) {a K:Nat} {w k m c:Int} (S:fV σ a K w k m) (P:K<50) (B:0<c) (C:c<=1000)
  (g:∀r σ' i H,0<=r->r<c->fV σ' a (K+1) i H m->σ'.n=σ.n->(∀x,x≠a->σ'.cell x=σ.cell x)->Q (.int r) σ'):ae u (d+1) 885 [.ref a,.int c] Q X σ:=by
 revert a K w k m c;delta u d Q X σ;delta a K w k m c;refine F.call 885 _ rfl d _ Q X σ rfl ?_
 have I:aI tab .idx [.ref a,.int 0] σ=Gu (.int w,σ):=bC (aA S.cell) (by simp) rfl
 have J:aI tab .idx [.ref a,.int 1] σ=Gu (.int k,σ):=bC (aA S.cell) (by simp) rfl
 refine aq (t:=w==0) (.of (.op (.cons (.op (.cons (.loc rfl) (.cons .const .nil)) I) (.cons .const .nil)) rfl) rfl rfl) ?_
 by_cases D:w=0
 ·subst D;refine bT (.op (.cons (.op (.cons (.loc rfl) (.cons .const .nil)) J) (.cons .const .nil)) (aF rfl)) (.loc rfl) .const (fP S.cell S.lt (by simp) ((by decide)) (by simp)) ?_
  generalize f:σ.set a (.list ([V.int 0,.int k,.int m].set (1:Int).toNat (.int (k+1))))=b;delta b
  have n:b.cell a=.list [.int 0,.int (k+1),.int m]:=by rw [<-f];exact am
  have o:b.n=σ.n:=by rw [<-f];rfl
  have L:∀x,x≠a->b.cell x=σ.cell x:=fun x j=>by rw [<-f];exact af j
  have M:aI tab .idx [.ref a,.int 1] b=Gu (.int (k+1),b):=bC (aA n) (by simp) rfl
  have N:aI tab .idx [.ref a,.int 2] b=Gu (.int m,b):=bC (aA n) (by simp) rfl
  have l:=S.k0
  have p:=S.k1
  have E:=sC (e:=(5+(k+1)).toNat) (by lia)
  have G:=S.m1
  refine bT (.op (.cons (.op (.cons .const (.cons (.op (.cons .const (.cons (.op (.cons (.loc rfl) (.cons .const .nil)) M) .nil)) (aF rfl)) .nil)) (aF (Ab (MD (by decide) (MO l)) (by lia) (by decide)))) (.cons (.op (.cons (.loc rfl) (.cons .const .nil)) N) .nil)) (aF (jo (.inr ⟨GQ E (Hh (by decide) (by decide)),GQ G (Hh (by decide) (by decide))⟩)))) (.loc rfl) .const (fP n (by rw [o];exact S.lt) (by simp) (JH 0) (by simp)) ?_
  refine ak (kW (K:=K+1) ⟨am,by show a<b.n;rw [o];exact S.lt,?_,?_,(MO l),(Int.add_le_add_right p 1),S.m0,S.m1⟩ B C fun r σ' i q s v y z=>?_)
  ·exact ME (O3 (by decide)) (Jt S.m0)
  ·rw [MP]
   calc _<2^1300 * 2^500:=Nat.mul_lt_mul'' E G
    _<=2^2900:=by rw [<-P9];exact Hh (by decide) (by decide)
  ·exact g r σ' i (k+1) q s v (y.trans o) fun x j=>(z x j).trans ((af j).trans (L x j))
 ·have O:(w==0)=Gz:=beq_false_of_ne D
  rw [O]
  have v:fV σ a (K+1) w k m:=⟨S.cell,S.lt,S.w0,S.w1,S.k0,by have:=S.k1;exact MO this,S.m0,S.m1⟩
  exact ak (kW v B C fun r σ' i q s A y z=>g r σ' i k q s A y z)
end
inductive Tr where
 |a|b|empty|never
 |cat (l r:Tr) |alt (l r:Tr)
 |star (t:Tr) |plus (t:Tr) |opt (t:Tr)
 |rep (t:Tr) (lo:Nat) (hi:Option Nat)
noncomputable def zZ:Option Nat->V
 |none=>.none
 |some n=>.int n
noncomputable def Tr.v:Tr->V
 |.a=>.tup [.str 31]
 |.b=>.tup [.str 32]
 |.empty=>.tup [.str 29]
 |.never=>.tup [.str 30]
 |.cat l r=>.tup [.str 22,l.v,r.v]
 |.alt l r=>.tup [.str 23,l.v,r.v]
 |.star t=>.tup [.str 24,t.v]
 |.plus t=>.tup [.str 25,t.v]
 |.opt t=>.tup [.str 26,t.v]
 |.rep t lo hi=>.tup [.str 27,t.v,.int lo,zZ hi]
noncomputable def Tr.leaf:Tr->Prop
 |.a|.b|.empty|.never=>True
 |_=>False
inductive Fam:Nat->Tr->Prop where
 |leaf {n t}:t.leaf->Fam n t
 |cat {n l r}:Fam n l->r.leaf->Fam (n+1) (.cat l r)
 |alt {n l r}:Fam n l->r.leaf->Fam (n+1) (.alt l r)
 |star {n t}:Fam n t->Fam (n+1) (.star t)
 |plus {n t}:Fam n t->Fam (n+1) (.plus t)
 |opt {n t}:Fam n t->Fam (n+1) (.opt t)
 |repN {n t lo}:lo<=2->Fam n t->Fam (n+1) (.rep t lo Gw)
 |repS {n t lo hi}:lo<=2->lo<=hi->hi<=3->Fam n t->Fam (n+1) (.rep t lo (Gu hi))
theorem Fam.up {n:Nat} {t:Tr} (h:Fam n t):∀ {m},n<=m->Fam m t:=by
 induction h with
 |leaf h=>exact fun Z=>.leaf h
 |cat _ h b=>intro m c;cases m with|zero=>lia|succ m=>exact .cat (b ((l2 7724625140128528) c)) h
 |alt _ h b=>intro m c;cases m with|zero=>lia|succ m=>exact .alt (b ((l2 7724625140128528) c)) h
 |star _ b=>intro m c;cases m with|zero=>lia|succ m=>exact .star (b ((l2 7724625140128528) c))
 |plus _ b=>intro m c;cases m with|zero=>lia|succ m=>exact .plus (b ((l2 7724625140128528) c))
 |opt _ b=>intro m c;cases m with|zero=>lia|succ m=>exact .opt (b ((l2 7724625140128528) c))
 |repN h _ b=>intro m c;cases m with|zero=>lia|succ m=>exact .repN h (b ((l2 7724625140128528) c))
 |repS h d e _ b=>intro m c;cases m with|zero=>lia|succ m=>exact .repS h d e (b ((l2 7724625140128528) c))
section
variable {u:U} {d:Nat} {Q:V->Sg->Prop} {X:Sg->Prop} {σ:Sg}
def cv (a:Nat) (K:Nat) (m:Int) (σ:Sg):Prop:=∃w k,fV σ a K w k m
theorem cv.up {a K b:Nat} {m:Int} (h:cv a K m σ) (c:K<=b):cv a b m σ:=by
 obtain⟨w,k,S⟩:=h;exact⟨w,k,S.cell,S.lt,S.w0,S.w1,S.k0,by have:=S.k1;lia,S.m0,S.m1⟩
theorem gM (F:bg u) {a K:Nat} {m b:Int} (S:cv a K m σ) (e:K<50) (f:0<b) (g:b<=1000)
  (c:∀r σ',0<=r->r<b->cv a (K+1) m σ'->Q (.int r) σ'):ae u (d+1) 885 [.ref a,.int b] Q X σ:=by
 obtain⟨w,k,S⟩:=S;exact AB F S e f g fun r σ' i j l n o Z Z=>c r σ' l n ⟨i,j,o⟩
theorem jR {l:List V} {k:Nat} {v:V} (b:l.length<=1000000) (e:l[k]? =Gu v):aI tab .idx [.tup l,.int k] σ=Gu (v,σ):=bC rfl b (cX e)
theorem qp (F:bg u) {a K:Nat} {m:Int} (S:cv a K m σ) (e:K<50)
  (b:∀(t:Tr) σ',t.leaf->cv a (K+1) m σ'->Q t.v σ'):ae u (d+2) 892 [.ref a] Q X σ:=by
 refine F.call 892 _ rfl (d+1) _ Q X σ rfl ?_;refine ax ?_;refine oy ?_;refine Ev.op (.cons (.op (.cons .const .nil) (aK (by simp))) (.cons (.op (.cons .const .nil) (aK (by simp))) (.cons (.op (.cons .const .nil) (aK (by simp))) (.cons (.op (.cons .const .nil) (aK (by simp))) (.cons (.op (.cons .const .nil) (aK (by simp))) .nil))))) (aK (by simp)) _ _ ?_
 refine ay (.cons (.loc rfl) (.cons .const .nil)) (gM F S e (by decide) (by decide) fun r σ' f g c=>?_)
 have:r=0\/r=1\/r=2\/r=3\/r=4:=by lia
 rcases this with rfl|rfl|rfl|rfl|rfl
 ·exact b .a σ' trivial c
 ·exact b .b σ' trivial c
 ·exact b .a σ' trivial c
 ·exact b .empty σ' trivial c
 ·exact b .never σ' trivial c
end
section
variable {u:U} {d:Nat} {Q:V->Sg->Prop} {X:Sg->Prop} {σ:Sg}
theorem E8 {r:Int} (b:0<=r) (h:r<2):r=0\/r=1:=by lia
theorem dH {n:Int} {i:V} {r:List V} {k:Nat} (h:i::r=(a6 n).drop k):(i=.int k/\(k:Int) <n)/\r=(a6 n).drop (k+1):=by
 have c:(a6 n)[k]? =Gu i:=by
  rw [<-Oo, <-h];rfl
 obtain⟨a,b⟩:=jV c;refine⟨⟨b,by lia⟩,?_⟩
 rw [<-List.tail_drop, <-h];rfl
theorem fZ {n:Int} {k:Nat} (h:[]=(a6 n).drop k):n.toNat<=k:=by
 have:=congrArg Jh h
 unfold a6 at this;simp at this;exact(l3 0x9d2081b71201b10) this (w5 _ _)
theorem AM (F:bg u) {a:Nat} {m:Int} (S:cv a 0 m σ)
  (G:∀(t:Tr) σ',Fam 3 t->Q t.v σ'):ae u (d+3) 899 [.ref a] Q X σ:=by
 revert a m;delta u d Q X σ;delta a m;refine F.call 899 _ rfl (d+2) _ Q X σ rfl ?_;refine w_asg (ay (.cons (.loc rfl) .nil) (qp F S (by decide) fun A D H I=>aB rfl ?_))
 delta A D;refine dJ ?_;refine oy ?_;refine Ev.const _ _ ?_;refine ay (.cons (.loc rfl) (.cons .const .nil)) (gM F I (by decide) (by decide) (by decide) fun n o n0 n1 J=>?_)
 delta n o
 show uD _ _ _ _ _ _ _ (.int (1+n)) o
 refine cM (fun r L σ=>∃(k:Nat) (t:Tr) (M B v:Option V),r=(a6 (1+n)).drop k/\L=[Gu (.ref a),Gu t.v,M,B,v,Gw,Gw,Gw]/\k<=3/\Fam k t/\cv a (2+3 * k) m σ) (MD (by decide) n0) (by lia)
  ⟨0,A,Gw,Gw,Gw,rfl,rfl,by decide,.leaf H,J⟩ (fun i r L σ N O hk Z=>?_) (fun L σ O=>?_)
 ·delta i r L σ N;obtain⟨k,t,M,B,v,hr,rfl,P,y,Sk⟩:=O;delta k t M B v;obtain⟨⟨rfl,b'⟩,R⟩:=dH hr
  have T:k<=2:=by lia
  have p:∀(z:Tr) (B v:Option V) σ',Fam (k+1) z->cv a (2+3 * (k+1)) m σ'->N .next [Gu (.ref a),Gu z.v,Gu (.int k),B,v,Gw,Gw,Gw] σ':=
   fun z B v σ' f S'=>(hk _ σ' ⟨k+1,z,_,B,v,R,rfl,(l1 0x1b2800b3801b387180) T P,f,S'⟩).1
  refine w_asg (ay (.cons (.loc rfl) (.cons .const .nil)) (gM F Sk (by lia) (by decide) (by decide) fun w g w0 w1 l=>aB rfl ?_))
  delta w g;refine aq (t:=GL (w<2)) (.of (.op (.cons (.loc rfl) (.cons .const .nil)) rfl) rfl rfl) ?_
  by_cases U:w<2
  ·rw [decide_eq_true U];refine w_asg ?_;refine oy ?_;rcases E8 w0 U with rfl|rfl
   ·refine Ev.op (.cons (.op (.cons .const (.cons .const .nil)) (aK (by simp))) (.cons (.loc rfl) .nil)) (jR (k:=0) (by simp) rfl) _ _ ?_
    refine Ev.loc rfl _ _ ?_;refine ay (.cons (.loc rfl) .nil) (qp F l (by lia) fun W b H c=>?_)
    refine eV ?_;exact aB rfl (ak (bm (p (.cat t W) _ _ b (.cat y H) (c.up (l1 0x1b7a718038287187187a03828)))))
   ·refine Ev.op (.cons (.op (.cons .const (.cons .const .nil)) (aK (by simp))) (.cons (.loc rfl) .nil)) (jR (k:=1) (by simp) rfl) _ _ ?_
    refine Ev.loc rfl _ _ ?_;refine ay (.cons (.loc rfl) .nil) (qp F l (by lia) fun W b H c=>?_)
    refine eV ?_;exact aB rfl (ak (bm (p (.alt t W) _ _ b (.alt y H) (c.up (l1 0x1b7a718038287187187a03828)))))
  ·rw [decide_eq_false U];refine aq (t:=GL (w<5)) (.of (.op (.cons (.loc rfl) (.cons .const .nil)) rfl) rfl rfl) ?_
   by_cases h5:w<5
   ·rw [decide_eq_true h5]
    have E:∀(j:Nat) (z:Tr) (Y:V),([.str 24,.str 25,.str 26]:List V)[j]? =Gu Y->z.v=.tup [Y,t.v]->Fam (k+1) z->w - 2=(j:Int)->wpSs tab (ae u (d+2)) [.assign (.loc 1) (.op .tup [.op .idx [.op .tup [.const (.str 24),.const (.str 25),.const (.str 26)],.op (.bin .sub) [.loc 3,.const (.int 2)]],.loc 1])] [Gu (.ref a),Gu t.v,Gu (.int k),Gu (.int w),v,Gw,Gw,Gw] (hZ (ae u (d+2)) [] (hZ (ae u (d+2)) [] N X) X) X g:=fun j z Y hj hv hf hw=>by
     refine ar (.op (.cons (.op (.cons (.op (.cons .const (.cons .const (.cons .const .nil))) (aK (by simp))) (.cons (.op (.cons (.loc rfl) (.cons .const .nil)) (aF rfl)) .nil)) (by rw [hw];exact jR (by simp) hj)) (.cons (.loc rfl) .nil)) (aK (by simp))) rfl ?_
     rw [<-hv];exact ak (bm (bm (p z _ _ g hf (l.up (l1 0x1b7a718038287187a03828)))))
    have:w=2\/w=3\/w=4:=by lia
    rcases this with rfl|rfl|rfl
    ·exact E 0 (.star t) _ rfl rfl (.star y) rfl
    ·exact E 1 (.plus t) _ rfl rfl (.plus y) rfl
    ·exact E 2 (.opt t) _ rfl rfl (.opt y) rfl
   ·rw [decide_eq_false h5];refine w_asg (ay (.cons (.loc rfl) (.cons .const .nil)) (gM F l (by lia) (by decide) (by decide) fun lo b l0 l1 c=>aB rfl ?_))
    delta lo b;obtain⟨n,rfl⟩:=IQ l0;delta n;refine w_asg ?_;refine oy ?_;refine Ev.const _ _ ?_;refine Ev.loc rfl _ _ ?_;refine Ev.loc rfl _ _ ?_;refine Ev.op (.cons (.loc rfl) (.cons .const .nil)) rfl _ _ ?_
    by_cases h7:w=7
    ·subst h7;refine Ev.const _ _ ?_;refine eV ?_;exact aB rfl (ak (bm (bm (p (.rep t n Gw) _ _ b (.repN (by lia) y) (c.up (by lia))))))
    ·have hb:A6 .eq w 7=Gz:=beq_false_of_ne h7
     rw [hb];dsimp only [b7];refine oy ?_;refine Ev.loc rfl _ _ ?_;refine ay (.cons (.loc rfl) (.cons (.op (.cons .const (.cons (.loc rfl) .nil)) (aF rfl)) .nil)) (gM F c (by lia) (by lia) (by lia) fun e s e0 e1 K=>?_)
     refine eV ?_;obtain⟨e,rfl⟩:=IQ e0
     have q:=p (.rep t n (Gu (n+e))) (Gu (.int w)) (Gu (.int n)) s (.repS (by lia) (((l2 1798400))) (by lia) y) (K.up (by lia))
     refine vW.nil (C:=ae u (d+2)) _ _ ?_
     show EC _ _ _ _ _ _ (.tup [.str 27,t.v,.int n,.int ((n:Int)+e)]) s
     refine aB rfl (ak (bm (bm ?_)));exact q
 ·obtain⟨k,t,M,B,v,hr,rfl,P,y,Sk⟩:=O;exact ax (Ev.loc rfl _ _ (G t σ (y.up P)))
end
theorem FrzL.all {σ:Sg} {l:List V}:FrzL σ l l σ:=by
 induction l with
 |nil=>exact .nil
 |cons _ _ b=>exact .keep b
theorem ww {σ:Sg} {i:Nat} {c:GW} {b:List (Nat×V)} (h:σ.cell i=.inst c b) (hi:i<σ.n):FrzL σ [.ref i] [.obj c (b.map (·.1)) (b.map (·.2))] (σ.set i .dead):=.inst h hi .all .nil
theorem ju {σ:Sg} {i:Nat} {l:List V} (h:σ.cell i=.list l) (hi:i<σ.n):FrzL σ [.ref i] [.lst l] (σ.set i .dead):=.list h hi .all .nil
theorem aZ.kill {σ σ':Sg} {i:Nat} {c:Cell} (h:aZ σ σ') (hi:σ.n<=i):aZ σ (σ'.set i c):=
 ⟨h.n,fun x b=>(af ((l3 493688003875334) b hi)).trans (h.cell x b)⟩
theorem aZ.set {σ σ':Sg} {i:Nat} {c:Cell} (h:aZ σ σ') (hi:σ.n<=i):aZ σ (σ'.set i c):=h.kill hi
section
variable {u:U} {d:Nat} {Q:V->Sg->Prop} {X:Sg->Prop} {σ σ₁:Sg}
theorem BL {f:GW} {b:List V} (m:ae u d f b (fun v σ'=>∃i c g,v=.ref i/\σ'.cell i=.inst c g/\i<σ'.n/\Q (.obj c (g.map (·.1)) (g.map (·.2))) (σ'.set i .dead)) X σ):ae u d f b Q X σ:=
 by
 refine mcall_frz m fun v σ' h=>?_;obtain⟨i,c,g,e,h,j,q⟩:=h;exact⟨_,_,e▸ww h j,q⟩
theorem rf {f:GW} {b:List V} (m:ae u d f b (fun v σ'=>∃i l,v=.ref i/\σ'.cell i=.list l/\i<σ'.n/\Q (.lst l) (σ'.set i .dead)) X σ):ae u d f b Q X σ:=
 mcall_frz m fun v σ' c=>by obtain⟨i,l,e,h,g,q⟩:=c;exact⟨_,_,e▸ju h g,q⟩
theorem mf (F:bg u) {f:GW} {n:Nat} (e:lookC f fj=Gu ⟨2,[0,1],Gw,[.setAttr (.loc 0) n (.loc 1)]⟩) {i:Nat} {c:GW} {v:V} (h:σ.cell i=.inst c []) (hi:i<σ.n) (g:bX tab c n=Gx)
  (b:Q .none (σ.set i (.inst c [(n,v)]))):ae u (d+1) f [.ref i,v] Q X σ:=by
 refine F.call f _ e d _ Q X σ rfl ?_;exact aG (.loc rfl) (.loc rfl) (aS h hi (by simp) g) (ak b)
theorem Aj (F:bg u) {i:Nat} {c:GW} {v w:V} (h:σ.cell i=.inst c []) (hi:i<σ.n) (e:bX tab c 16=Gx) (f:bX tab c 17=Gx)
  (b:Q .none ((σ.set i (.inst c [(16,v)])).set i (.inst c [(16,v),(17,w)]))):ae u (d+1) 726 [.ref i,v,w] Q X σ:=by
 refine F.call 726 _ rfl d _ Q X σ rfl ?_;exact aG (.loc rfl) (.loc rfl) (aS h hi (by simp) e) (aG (.loc rfl) (.loc rfl) (aS am hi (Gv rfl) f) (ak b))
noncomputable def g9 (c:Int):V:=.obj 494 [11] [.tup [.tup [.int c,.int c]]]
noncomputable def Tr.node:Tr->V
 |.a=>.obj 710 [15] [g9 97]
 |.b=>.obj 710 [15] [g9 98]
 |.empty=>.obj 672 [] []
 |.never=>.obj 684 [] []
 |.cat l r=>.obj 755 [16,17] [l.node,r.node]
 |.alt l r=>.obj 767 [16,17] [l.node,r.node]
 |.star t=>.obj 812 [18] [t.node]
 |.plus t=>.obj 824 [18] [t.node]
 |.opt t=>.obj 836 [18] [t.node]
 |.rep t lo hi=>.obj 862 [18,19,20] [t.node,.int lo,zZ hi]
theorem tP (F:bg u) {C:Nat} {ρ:List (Option V)} {e:E} {f c:GW} {n:Nat} {v:V} (hd:C<=d) (g:lookC c tab.inits=Gu (Gu f)) (i:lookC f fj=Gu ⟨2,[0,1],Gw,[.setAttr (.loc 0) n (.loc 1)]⟩) (j:bX tab c n=Gx)
  (k:Ev (ae u (d+1)) ρ σ e v σ₁) (b:∀σ',σ'.cell σ₁.n=.inst c [(n,v)]->σ'.n=σ₁.n+1->aZ σ₁ σ'->Q (.ref σ₁.n) σ'):wpE tab (ae u (d+1)) ρ (.callC c [e]) Q X σ:=by
 refine w_callC (.cons k .nil) g (mf F i ah (GA _) j ⟨rfl,?_⟩);exact b _ am rfl ((aZ.alloc _ _).set (GP _))
def iK (Q:V->Sg->Prop):V->Sg->Prop:=fun v b=>∃i c e,v=.ref i/\b.cell i=.inst c e/\i<b.n/\Q (.obj c (e.map (·.1)) (e.map (·.2))) (b.set i .dead)
end
section
variable {C:aC} {ρ c:List (Option V)} {σ σ₁:Sg} {e:E} {v x:V} {X:Sg->Prop} {K:cU} {l b:List S} {t:ky}
theorem pt (h:Ev C ρ σ e v σ₁) (i:aV v σ₁=Gu [x]) (st:cq v [x] σ₁) (j:eX ρ t x σ₁=Gu c)
  (f:∀g:cU,(∀d σ',cq v [x] σ'->wpSs tab C l d K X σ'->g .next d σ')->wpSs tab C b c g X σ₁):wpSs tab C (.for t e b::l) ρ K X σ:=by
 refine bK (h _ _ ?_);unfold nH;simp only [i];refine⟨st,?_⟩;simp only [j];refine f _ fun d σ' s q=>?_;exact⟨s,q⟩
end
section
variable {u:U} {d:Nat} {Q:V->Sg->Prop} {X:Sg->Prop} {σ:Sg}
theorem Bj (F:bg u) {p:Nat} {c:Int} (h:σ.cell p=.list [.tup [.int c,.int c]]) (hp:p<σ.n) (O:0<=c) (P:c<=127)
  (s:∀σ' i,aZ σ σ'->σ.n<=i->i<σ'.n->σ'.cell i=.inst 494 [(11,.tup [.tup [.int c,.int c]])]->Q (.ref i) σ'):ae u (d+2) 397 [.ref p] Q X σ:=by
 revert p c;delta u d Q X σ;delta p c;refine F.call 397 _ rfl (d+1) _ Q X σ rfl ?_;refine ar (.op .nil (bP (by simp))) rfl ?_
 generalize j:σ.alloc (.list [])=y;delta y
 have B:aZ σ y:=j▸.alloc _ _
 have J:y.cell σ.n=.list []:=by rw [<-j];exact ah
 have D:y.n=σ.n+1:=by rw [<-j];rfl
 refine pt (v:=.ref p) (x:=.tup [.int c,.int c]) (.loc rfl) (aA ((B.cell p hp).trans h)) ⟨(l3 0x1c109d718121c20) hp D,(B.cell p hp).trans h⟩ rfl fun R S=>?_;delta R;refine ar (v:=.int c) (.op (.cons (.loc rfl) (.cons .const .nil)) (CB O)) rfl ?_;refine ar (v:=.int c) (.op (.cons (.loc rfl) (.cons .const .nil)) (CL P)) rfl ?_;refine aq (t:=GL (c<=c)) (.of (.op (.cons (.loc rfl) (.cons (.loc rfl) .nil)) rfl) rfl rfl) ?_;rw [decide_eq_true (JH c)];refine aD (Ev.app (.loc rfl) (aM J) (.op (.cons (.loc rfl) (.cons (.loc rfl) .nil)) (aK (by simp))) (bI J ((l2 0x9d718101c01) D) (by simp)) _ _ ?_)
 generalize k:y.set σ.n _=b;delta b
 have K:aZ σ b:=k▸B.set (GP _)
 have T:b.cell σ.n=.list [.tup [.int c,.int c]]:=by rw [<-k];exact am
 have l:b.n=σ.n+1:=by rw [<-k];exact D
 refine ak (bm (S _ _ ⟨(l3 0x1c109d718121c20) hp l,(K.cell p hp).trans h⟩ ?_));refine ar (.op .nil (bP (by simp))) rfl ?_
 generalize m:b.alloc (.list [])=e;delta e
 have L:aZ b e:=m▸.alloc _ _
 have U:e.cell b.n=.list []:=by rw [<-m];exact ah
 have A:e.n=σ.n+2:=by rw [<-m];show b.n+1=_;exact(l2 0x1d718101d72817180) l
 have E:=(L.cell σ.n ((l2 0x9d718101c01) l)).trans T
 refine pt (v:=.ref e.n) (x:=.tup [.int c,.int c]) (.op (.cons (.loc rfl) .nil) (sx E)) (aA ah) ⟨GA _,ah⟩ rfl fun V G=>?_;delta V;generalize o:e.alloc (.list [.tup [.int c,.int c]])=r;delta r
 have M:aZ e r:=o▸.alloc _ _
 have W:r.cell e.n=.list [.tup [.int c,.int c]]:=by rw [<-o];exact ah
 have N:r.n=σ.n+3:=by rw [<-o];show e.n+1=_;exact(l2 0x1d728101d73817180) A
 have q:r.cell b.n=.list []:=(M.cell _ ((l3 0x1d718109d728121c20) l A)).trans U
 refine aq (t:=Gz) (.andF (.of (.loc rfl) (jB q (by simp)) rfl)) ?_
 refine aD (Ev.app (.loc rfl) (aM q) (.op (.cons (.loc rfl) (.cons (.loc rfl) .nil)) (aK (by simp))) (bI q ((l3 0x1d718109d738121c20) l N) (by simp)) _ _ ?_)
 generalize g:r.set b.n _=z
 have Y:aZ σ z:=g▸((K.trans L).trans M).set ((l2 0x9d718101b01) l)
 have Z:z.cell b.n=.list [.tup [.int c,.int c]]:=by rw [<-g];exact am
 have H:z.cell e.n=.list [.tup [.int c,.int c]]:=by rw [<-g,af (by exact(l3 0x1d718109d728121d026) l A)];exact W
 have I:z.n=σ.n+3:=by rw [<-g];exact N
 refine ak (bm (G _ _ ⟨(l3 0x1d728109d738121c20) A I,H⟩ ?_));refine ax (tP F (C:=0) (G7 _) rfl (f:=342) (n:=11) rfl rfl (.op (.cons (.loc rfl) .nil) (lC Z (by simp))) fun σ' hc hn hE=>?_)
 exact s σ' z.n (Y.trans hE) ((l2 0x9d738101b01) I) ((l3 0x9d718100d211c01) hn I) hc
theorem Ca (F:bg u) {k:Nat} {c:Int} (n:lQ k=Gu c) (p:0<=c) (q:c<=127) (e:∀σ',aZ σ σ'->Q (g9 c) σ'):ae u (d+3) 377 [.str k] Q X σ:=by
 revert k c;delta u d Q X σ;delta k c;refine BL (F.call 377 _ rfl (d+2) _ _ X σ rfl ?_);refine ax ?_;refine gQ (lV ?_);refine BX (Ev.loc rfl _ _ ?_)
 have s:fx (.str k) σ=Gu [.str k]:=by
  unfold fx;simp only [n,Option.isSome_some,if_true]
 simp only [s]
 have o:aI tab .ord [.str k] σ=Gu (.int c,σ):=by
  show(lQ k).map (V.int ·,σ)=_
  rw [n];rfl
 refine iu (fun r b σ'=>(r=[.str k]/\b=[]/\σ'=σ)\/(r=[]/\b=[.tup [.int c,.int c]]/\σ'=σ)) (fun Z Z Z Z=>trivial) (fun i r b σ' z j t=>?_) (fun b σ' j=>?_) _ _ _ (.inl ⟨rfl,rfl,rfl⟩)
 ·rcases j with ⟨f,rfl,rfl⟩ |⟨f,_⟩
  ·cases f;exact Ev.op (.cons (.op (.cons (.loc rfl) .nil) o) (.cons (.op (.cons (.loc rfl) .nil) o) .nil)) (aK (by simp)) _ _ (t _ _ (.inr ⟨rfl,rfl,rfl⟩))
  ·cases f
 ·delta b σ';rcases j with ⟨f,_⟩ |⟨_,rfl,rfl⟩
  ·cases f
  ·refine eV ?_;refine Bj F ah (GA _) p q fun l i v g m y=>⟨i,_,_,rfl,y,m,e _ ?_⟩
   have:=g
   exact((aZ.alloc _ _).trans v).kill (by have:σ'.n+1<=i:=g;exact(l2 1861625060112) this)
end
section
variable {u:U} {d:Nat} {Q:V->Sg->Prop} {X:Sg->Prop} {σ:Sg}
theorem DD {k:Nat} {ks:List Nat} (h:k<55/\ks.all (· <55)):aI tab .inn [.str k,.tup (ks.map .str)] σ=Gu (.bool (ks.any (· ==k)),σ):=by
 have b:∀ks:List Nat,strs? (ks.map .str)=Gu ks:=fun ks=>by
  induction ks with
  |nil=>rfl
  |cons k ks c=>show(strs? (ks.map .str)).map (k:: ·)=_;rw [c];rfl
 show(match strs? (ks.map V.str) with
  |some ks=>if k<55/\ks.all (· <55) then Gu (V.bool (ks.any (· ==k)),σ) else Gw
  |none=>Gw)=_
 simp only [b,if_pos h]
theorem iG {a b:Nat} (h:a<55/\b<55):aI tab (.rel .eq) [.str a,.str b] σ=Gu (.bool (GL (a=b)),σ):=if_pos h
noncomputable def Tr.nm:Tr->Nat
 |.a=>31|.b=>32|.empty=>29|.never=>30|.cat .. =>22|.alt .. =>23|.star .. =>24|.plus .. =>25|.opt .. =>26|.rep .. =>27
noncomputable def Tr.rest:Tr->List V
 |.cat l r|.alt l r=>[l.v,r.v]
 |.star t|.plus t|.opt t=>[t.v]
 |.rep t lo hi=>[t.v,.int lo,zZ hi]
 |_=>[]
theorem Tr.v_eq (t:Tr):t.v=.tup (.str t.nm::t.rest):=by cases t<;>rfl
theorem Tr.rest_len (t:Tr):(V.str t.nm::t.rest).length<=1000000:=by cases t<;>exact Gv rfl
theorem Tr.nm_lt (t:Tr):t.nm<55:=by cases t<;>exact Gv rfl
theorem ca {C:aC} {ρ:List (Option V)} {t:Tr} (h:ρ[0]? =Gu (Gu t.v)):Ev C ρ σ (.op .idx [.loc 0,.const (.int 0)]) (.str t.nm) σ:=
 .op (.cons (.loc h) (.cons .const .nil)) (by rw [t.v_eq];exact bC rfl t.rest_len rfl)
theorem fY {C:aC} {ρ:List (Option V)} {t:Tr} {k:Nat} {v:V} (h:ρ[0]? =Gu (Gu t.v)) (e:(V.str t.nm::t.rest)[k]? =Gu v):Ev C ρ σ (.op .idx [.loc 0,.const (.int k)]) v σ:=
 .op (.cons (.loc h) (.cons .const .nil)) (by rw [t.v_eq];exact bC rfl t.rest_len (cX e))
theorem gU {C:aC} {ρ:List (Option V)} {t:Tr} {k:Nat} (h:ρ[0]? =Gu (Gu t.v)) (b:k<55):d8 C ρ σ (.op (.rel .eq) [.op .idx [.loc 0,.const (.int 0)],.const (.str k)]) (GL (t.nm=k)) σ:=
 .of (.op (.cons (ca h) (.cons .const .nil)) (iG ⟨t.nm_lt,b⟩)) rfl rfl
theorem dW {C:aC} {ρ:List (Option V)} {t:Tr} {i j:Nat} (h:ρ[0]? =Gu (Gu t.v)) (b:i<55/\j<55):d8 C ρ σ (.op .inn [.op .idx [.loc 0,.const (.int 0)],.op .tup [.const (.str i),.const (.str j)]]) ([i,j].any (· ==t.nm)) σ:=
 .of (.op (.cons (ca h) (.cons (.op (.cons .const (.cons .const .nil)) (aK (Gv rfl))) .nil)) (DD (ks:=[i,j]) ⟨t.nm_lt,by simp [b.1,b.2]⟩)) rfl rfl
theorem made1 (F:bg u) {ρ:List (Option V)} {e:E} {f c:GW} {n:Nat} {v:V} {σ₁:Sg} {K:V->Sg->Prop} (i:∀v σ,iK Q v σ->K v σ) (j:lookC c tab.inits=Gu (Gu f)) (k:lookC f fj=Gu ⟨2,[0,1],Gw,[.setAttr (.loc 0) n (.loc 1)]⟩) (l:bX tab c n=Gx)
  (m:Ev (ae u (d+1)) ρ σ₁ e v σ₁) (g:aZ σ σ₁) (b:∀σ',aZ σ σ'->Q (.obj c [n] [v]) σ'):wpE tab (ae u (d+1)) ρ (.callC c [e]) K X σ₁:=
 tP F (C:=0) (G7 _) j k l m fun σ' o p q=>i _ _ ⟨_,_,_,rfl,o,(l2 0x9d718101c01) p,b _ ((g.trans q).kill g.n)⟩
theorem DN (F:bg u) {c:GW} {v w:V} {σ₁:Sg} {K:V->Sg->Prop} (f:∀v σ,iK Q v σ->K v σ) (j:lookC c tab.inits=Gu (Gu 726)) (g:bX tab c 16=Gx) (i:bX tab c 17=Gx)
  (e:aZ σ σ₁) (b:∀σ',aZ σ σ'->Q (.obj c [16,17] [v,w]) σ'):
  ae u (d+1) 726 [.ref σ₁.n,v,w] (fun r σ'=>r=.none/\K (.ref σ₁.n) σ') X (σ₁.alloc (.inst c [])):=by
 refine Aj F ah (GA _) g i ⟨rfl,f _ _ ⟨_,_,_,rfl,am,GA _,b _ ?_⟩⟩;exact(((e.trans (.alloc _ _)).set e.n).set e.n).kill e.n
theorem uQ (F:bg u) {i:Nat} {v:V} {lo:Nat} {hi:Option Nat} (h:σ.cell i=.inst 862 []) (b:i<σ.n) (z:lo<=40) (m:∀k,hi=Gu k->lo<=k/\k<=40)
  (c:∀σ',σ'.n=σ.n->(∀x,x≠i->σ'.cell x=σ.cell x)->σ'.cell i=.inst 862 [(18,v),(19,.int lo),(20,zZ hi)]->Q .none σ'):ae u (d+2) 852 [.ref i,v,.int lo,zZ hi] Q X σ:=by
 refine F.call 852 _ rfl (d+1) _ Q X σ rfl ?_;refine aD (ay (.cons (.loc rfl) (.cons (.loc rfl) .nil)) (mf F (f:=783) (n:=18) rfl h b rfl ?_));generalize j:σ.set i _=s
 have o:s.cell i=.inst 862 [(18,v)]:=by rw [<-j];exact am
 have l:s.n=σ.n:=by rw [<-j];rfl
 have p:∀x,x≠i->s.cell x=σ.cell x:=fun x e=>by rw [<-j];exact af e
 have q:GL ((lo:Int) <0)=Gz:=decide_eq_false (by lia)
 have r:GL ((lo:Int) >40)=Gz:=decide_eq_false (by lia)
 refine aq (t:=Gz) (.orF (.of (v:=.bool (GL ((lo:Int) <0))) (.op (.cons (.loc rfl) (.cons .const .nil)) rfl) (congrArg Gu q) rfl) (.of (v:=.bool (GL ((lo:Int) >40))) (.op (.cons (.loc rfl) (.cons .const .nil)) rfl) (congrArg Gu r) rfl)) (ak ?_)
 have g:wpSs tab (ae u (d+1)) [.setAttr (.loc 0) 19 (.loc 2),.setAttr (.loc 0) 20 (.loc 3)] (dR 8 [0,1,2,3] [.ref i,v,.int lo,zZ hi]) (d6 Q) X s:=
  aG (.loc rfl) (.loc rfl) (aS o ((l3 30857680264224) b l) (Gv rfl) rfl) (aG (.loc rfl) (.loc rfl) (aS am (by show i<s.n;exact(l3 30857680264224) b l) (Gv rfl) rfl) (ak (c _ l (fun x e=>(af e).trans ((af e).trans (p x e))) am)))
 cases hi with
 |none=>exact aq (t:=Gz) (.andF (.of (.op (.cons (.loc rfl) .nil) rfl) rfl rfl)) (ak g)
 |some k=>
  obtain⟨A,B⟩:=m k rfl
  have y:GL ((k:Int) <lo)=Gz:=decide_eq_false (by lia)
  have l3:GL ((k:Int) >40)=Gz:=decide_eq_false (by lia)
  exact aq (t:=Gz) (.andT (.of (.op (.cons (.loc rfl) .nil) rfl) rfl rfl) (.orF (.of (v:=.bool (GL ((k:Int) <lo))) (.op (.cons (.loc rfl) (.cons (.loc rfl) .nil)) rfl) (congrArg Gu y) rfl) (.of (v:=.bool (GL ((k:Int) >40))) (.op (.cons (.loc rfl) (.cons .const .nil)) rfl) (congrArg Gu l3) rfl))) (ak g)
end
section
variable {u:U} {d:Nat} {Q:V->Sg->Prop} {X:Sg->Prop} {σ:Sg}
theorem wO {C:aC} {ρ:List (Option V)} {c f:GW} {e:E} (g:lookC c tab.inits=Gu (Gu f)) (h:wpE tab C ρ e (fun v σ'=>C f [.ref σ'.n,v] (fun r b=>r=.none/\Q (.ref σ'.n) b) X (σ'.alloc (.inst c []))) X σ):wpE tab C ρ (.callC c [e]) Q X σ:=by
 refine iZ ?_;simp only [g];exact h
theorem ua {C:aC} {ρ:List (Option V)} {c f:GW} {e g:E} (i:lookC c tab.inits=Gu (Gu f)) (h:wpE tab C ρ e (fun v σ₁=>wpE tab C ρ g (fun w σ'=>C f [.ref σ'.n,v,w] (fun r b=>r=.none/\Q (.ref σ'.n) b) X (σ'.alloc (.inst c []))) X σ₁) X σ):wpE tab C ρ (.callC c [e,g]) Q X σ:=by
 refine iZ ?_;simp only [i];exact h
theorem zN {C:aC} {ρ:List (Option V)} {c:GW} {K:V->Sg->Prop} (e:∀v σ,iK Q v σ->K v σ) (f:lookC c tab.inits=Gu Gw) (b:∀σ',aZ σ σ'->Q (.obj c [] []) σ'):wpE tab C ρ (.callC c []) K X σ:=by
 refine iZ ?_;simp only [f];exact e _ _ ⟨_,_,_,rfl,ah,GA _,b _ ((aZ.alloc _ _).kill (GP _))⟩
theorem qS (F:bg u) {n:Nat} {t:Tr} (o:t.leaf) (i:∀σ',aZ σ σ'->Q t.node σ'):ae u (n+5) 906 [t.v] Q X σ:=by
 refine BL (F.call 906 _ rfl (n+4) _ _ X σ rfl ?_)
 have j:∀ {k:Nat} {c:Int},lQ k=Gu c->t.nm=k->(0<=c/\c<=127)->t.node=.obj 710 [15] [g9 c]->[31,32].any (· ==t.nm)=Gx->wpSs tab (ae u (n+4)) xF (dR 13 [0] [t.v]) (d6 (iK Q)) X σ:=fun{k c} p q m e r=>by
  refine aq (t:=Gx) (r▸dW rfl ⟨by decide,by decide⟩) (ax ?_)
  refine wO (f:=700) rfl (ay (.cons (ca rfl) .nil) ?_);rw [q];refine Ca (d:=n+1) F p m.1 m.2 fun g l=>?_;refine mf (d:=n+3) F (f:=700) (n:=15) rfl ah (GA _) rfl ⟨rfl,⟨_,_,_,rfl,am,GA _,?_⟩⟩
  have:=i ((((g.alloc (.inst 710 []))).set g.n (.inst 710 [(15,g9 c)])).set g.n .dead) (((l.trans (.alloc _ _)).set l.n).kill l.n)
  rw [e] at this;exact this
 cases t with
 |a=>exact j (k:=31) rfl rfl ⟨by decide,by decide⟩ rfl rfl
 |b=>exact j (k:=32) rfl rfl ⟨by decide,by decide⟩ rfl rfl
 |empty=>
  exact aq (t:=Gz) (dW (t:=.empty) rfl ⟨by decide,by decide⟩) (ak (aq (t:=Gx) (gU (t:=.empty) rfl (by decide)) (ax (zN (Q:=Q) (fun Z Z h=>h) rfl i))))
 |never=>
  exact aq (t:=Gz) (dW (t:=.never) rfl ⟨by decide,by decide⟩) (ak (aq (t:=Gz) (gU (t:=.never) rfl (by decide)) (ak (aq (t:=Gx) (gU (t:=.never) rfl (by decide)) (ax (zN (Q:=Q) (fun Z Z h=>h) rfl i))))))
 |_=>exact o.elim
theorem iY (F:bg u) {n:Nat} {t l:Tr} (e:[31,32].any (· ==t.nm)=Gz) (f:GL (t.nm=29)=Gz) (g:GL (t.nm=30)=Gz) (i:(V.str t.nm::t.rest)[1]? =Gu l.v)
  (j:∀ {Q:V->Sg->Prop} {X:Sg->Prop} {σ:Sg},(∀σ',aZ σ σ'->Q l.node σ')->ae u (n+5) 906 [l.v] Q X σ)
  (b:∀σ₁,aZ σ σ₁->wpSs tab (ae u (n+5)) (xF.drop 4) (Gu t.v::Gu l.node::IP 11 Gw) (d6 (iK Q)) X σ₁):ae u (n+6) 906 [t.v] Q X σ:=by
 refine BL (F.call 906 _ rfl (n+5) _ _ X σ rfl ?_);refine aq (t:=Gz) (e▸dW rfl ⟨by decide,by decide⟩) (ak (aq (t:=Gz) (f▸gU rfl (by decide)) (ak (aq (t:=Gz) (g▸gU rfl (by decide)) (ak ?_)))))
 exact w_asg (ay (.cons (fY (k:=1) rfl i) .nil) (j fun σ₁ c=>aB rfl (b σ₁ c)))
theorem oV (F:bg u) {n:Nat} {r:Tr} {ρ:List (Option V)} {e:E} {c:GW} {v:V} {σ₁:Sg} (i:lookC c tab.inits=Gu (Gu 726)) (j:bX tab c 16=Gx) (k:bX tab c 17=Gx) (l:r.leaf)
  (m:ρ[1]? =Gu (Gu v)) (o:Ev (ae u (n+5)) ρ σ₁ e r.v σ₁) (p:aZ σ σ₁) (b:∀σ',aZ σ σ'->Q (.obj c [16,17] [v,r.node]) σ'):wpE tab (ae u (n+5)) ρ (.callC c [.loc 1,.callF 906 [e]]) (iK Q) X σ₁:=by
 refine ua i (Ev.loc m _ _ (ay (.cons o .nil) (qS F l fun g f=>?_)));exact DN (d:=n+4) F (fun Z Z h=>h) i j k (p.trans f) b
theorem jb (F:bg u) {n:Nat} {ρ:List (Option V)} {c:GW} {v:V} {σ₁:Sg} (e:lookC c tab.inits=Gu (Gu 783)) (g:bX tab c 18=Gx) (i:ρ[1]? =Gu (Gu v)) (j:aZ σ σ₁) (b:∀σ',aZ σ σ'->Q (.obj c [18] [v]) σ'):
  wpE tab (ae u (n+5)) ρ (.callC c [.loc 1]) (iK Q) X σ₁:=
 made1 (d:=n+4) F (f:=783) (n:=18) (fun Z Z h=>h) e rfl g (.loc i) j b
theorem nS (F:bg u) {n:Nat} {t:Tr} {lo:Nat} {hi:Option Nat} (m:lo<=40) (o:∀k,hi=Gu k->lo<=k/\k<=40) (p:∀ {Q:V->Sg->Prop} {X:Sg->Prop} {σ:Sg},(∀σ',aZ σ σ'->Q t.node σ')->ae u (n+5) 906 [t.v] Q X σ)
  (c:∀σ',aZ σ σ'->Q (Tr.rep t lo hi).node σ'):ae u (n+6) 906 [(Tr.rep t lo hi).v] Q X σ:=by
 have f:∀ {k:Nat} {j:List (Option V)} {σ:Sg} {C:aC},GL ((Tr.rep t lo hi).nm=k)=Gz->k<55->j[0]? =Gu (Gu (Tr.rep t lo hi).v)->d8 C j σ (.op (.rel .eq) [.op .idx [.loc 0,.const (.int 0)],.const (.str k)]) Gz σ:=fun e q h=>e▸gU h q
 refine iY F (t:=.rep t lo hi) rfl rfl rfl rfl p fun g b=>aq (t:=Gz) (f rfl (by decide) rfl) (ak (aq (t:=Gz) (f rfl (by decide) rfl) (ak (aq (t:=Gx) (gU (t:=.rep t lo hi) rfl (by decide)) (ax ?_)))))
 refine w_callC (.cons (.loc rfl) (.cons (fY (t:=.rep t lo hi) (k:=2) rfl rfl) (.cons (fY (t:=.rep t lo hi) (k:=3) rfl rfl) .nil))) (f:=852) rfl ?_;refine uQ (d:=n+3) F ah (GA _) m o fun σ' l r s=>⟨rfl,⟨_,_,_,rfl,s,by rw [l];exact GA _,c _ ?_⟩⟩
 refine aZ.kill ⟨?_,fun x i=>?_⟩ b.n
 ·rw [l];exact LJ b.n
 ·have:=b.n
  rw [r x (by exact(l3 493688003875334) i this),au (by exact(l3 30855500209184) i this)]
  exact b.cell x i
theorem Av (F:bg u) {n:Nat} {t:Tr} (h:Fam n t):∀ {Q:V->Sg->Prop} {X:Sg->Prop} {σ:Sg},(∀σ',aZ σ σ'->Q t.node σ')->ae u (n+5) 906 [t.v] Q X σ:=by
 have f:∀ {t:Tr} {k:Nat} {p:List (Option V)} {σ:Sg} {C:aC},GL (t.nm=k)=Gz->k<55->p[0]? =Gu (Gu t.v)->d8 C p σ (.op (.rel .eq) [.op .idx [.loc 0,.const (.int 0)],.const (.str k)]) Gz σ:=fun e s h=>e▸gU h s
 have g:∀ {t:Tr} {k:Nat} {p:List (Option V)} {σ:Sg} {C:aC},GL (t.nm=k)=Gx->k<55->p[0]? =Gu (Gu t.v)->d8 C p σ (.op (.rel .eq) [.op .idx [.loc 0,.const (.int 0)],.const (.str k)]) Gx σ:=fun e s h=>e▸gU h s
 have m:∀ {n:Nat} {t l:Tr} {Q:V->Sg->Prop} {X:Sg->Prop} {σ:Sg},[31,32].any (· ==t.nm)=Gz->GL (t.nm=29)=Gz->GL (t.nm=30)=Gz->GL (t.nm=22)=Gz->GL (t.nm=23)=Gz->GL (t.nm=27)=Gz->(V.str t.nm::t.rest)[1]? =Gu l.v->
   (∀ {Q:V->Sg->Prop} {X:Sg->Prop} {σ:Sg},(∀σ',aZ σ σ'->Q l.node σ')->ae u (n+5) 906 [l.v] Q X σ)->
   (∀c,aZ σ c->wpSs tab (ae u (n+5)) (xF.drop 7) (Gu t.v::Gu l.node::IP 11 Gw) (d6 (iK Q)) X c)->ae u (n+6) 906 [t.v] Q X σ:=fun{n t l Q X σ} v y B D E G H j b=>
  iY F v y B H j fun c i=>aq (t:=Gz) (f D (by decide) rfl) (ak (aq (t:=Gz) (f E (by decide) rfl) (ak (aq (t:=Gz) (f G (by decide) rfl) (ak (b c i))))))
 induction h with
 |leaf z=>exact fun b=>qS F z b
 |@cat n l r z A j=>
  exact fun b=>iY F (t:=.cat l r) rfl rfl rfl rfl j fun c i=>aq (t:=Gx) (g (t:=.cat l r) rfl (by decide) rfl) (ax (oV F rfl rfl rfl A rfl (fY (t:=.cat l r) (k:=2) rfl rfl) i b))
 |@alt n l r z A j=>
  exact fun b=>iY F (t:=.alt l r) rfl rfl rfl rfl j fun c i=>aq (t:=Gz) (f (t:=.alt l r) rfl (by decide) rfl) (ak (aq (t:=Gx) (g (t:=.alt l r) rfl (by decide) rfl) (ax (oV F rfl rfl rfl A rfl (fY (t:=.alt l r) (k:=2) rfl rfl) i b))))
 |@star n t q j=>
  exact fun b=>m (t:=.star t) rfl rfl rfl rfl rfl rfl rfl j fun c i=>aq (t:=Gx) (g (t:=.star t) rfl (by decide) rfl) (ax (jb F rfl rfl rfl i b))
 |@plus n t q j=>
  intro Q X σ b;refine m (t:=.plus t) rfl rfl rfl rfl rfl rfl rfl j fun c i=>aq (t:=Gz) (f (t:=.plus t) rfl (by decide) rfl) (ak (ax ?_))
  exact Ev.op (.cons (ca (t:=.plus t) rfl) (.cons .const .nil)) (iG ⟨Gv rfl,by decide⟩) _ _ (jb F rfl rfl rfl i b)
 |@opt n t q j=>
  intro Q X σ b;refine m (t:=.opt t) rfl rfl rfl rfl rfl rfl rfl j fun c i=>aq (t:=Gz) (f (t:=.opt t) rfl (by decide) rfl) (ak (ax ?_))
  exact Ev.op (.cons (ca (t:=.opt t) rfl) (.cons .const .nil)) (iG ⟨Gv rfl,by decide⟩) _ _ (jb F rfl rfl rfl i b)
 |@repN n t I o q j=>exact fun b=>nS F (hi:=Gw) ((l1 29858641515136) o) (fun Z h=>nomatch h) j b
 |@repS n t I hi o v y q j=>exact fun b=>nS F (hi:=Gu hi) ((l1 29858641515136) o) (fun k h=>by cases h;exact⟨(l2 454040336) v,(l1 29927360991872) y⟩) j b
end
set_option exponentiation.threshold 4000
section
variable {u:U} {d:Nat} {Q:V->Sg->Prop} {X:Sg->Prop} {σ:Sg}
theorem tY {l:List V} (b:l.length<=1000000):aI tab .upto24 [.lst l] σ=Gu (.ref σ.n,σ.alloc (.list (l.take 24))):=if_pos b
theorem pE {w x:Int} {b:Nat} (e:0<w) (f:121<=b) (g:w.natAbs<2^b) (c:0<=x) (i:x<10^36):0<w * 1553+x/\(w * 1553+x).natAbs<2^(b+11):=by
 refine⟨Int.add_pos_of_pos_of_nonneg (Int.mul_pos e (by decide)) c,?_⟩
 have j:(2:Nat) ^121<=2^b:=Hh (by decide) f
 have k:(10:Int) ^36<((2^121:Nat):Int):=by decide+kernel
 have l:x.natAbs<2^121:=LK.mp (by rw [Lk c];exact Int.lt_trans i k)
 have m:(w * 1553+x).natAbs<=w.natAbs * 1553+x.natAbs:=by rw [<-show(w * 1553).natAbs=w.natAbs * 1553 from MP _ _];exact Oh _ _
 rw [show(2:Nat) ^(b+11)=2^b * 2048 from P9 _ _ _]
 exact IW m (GQ (Nat.add_lt_add_of_le_of_lt (J7 1553 (Ie g)) (GQ l j)) (GC (Km (Nat.mul_succ _ 1553).symm) (NT _ (by decide))))
inductive StoI (is:List Int) (n:Nat) (r:List V):List (Option V)->Sg->Prop
 |mk (k:Nat) (js:List Int) (w:Int) (x:Option V) {σ':Sg} (hr:r=js.map .int) (hk:js.length+k<=24) (w0:0<w) (w1:w.natAbs<2^(121+11 * k)) (s1:n<σ'.n) (s2:σ'.cell n=.list ((is.map V.int).take 24)):StoI is n r [Gu (.lst (is.map .int)),Gu (.int w),x,Gw,Gw] σ'
theorem yV (F:bg u) {is:List Int} (A:is.length<=1000000) (c:∀a m σ',cv a 0 m σ'->Q (.ref a) σ'):ae u (d+1) 878 [.lst (is.map .int)] Q X σ:=by
 revert is;delta u d Q X σ;delta is;refine F.call 878 _ rfl d _ Q X σ rfl ?_;refine ar .const rfl ?_
 have e:(is.map V.int).length<=1000000:=by rw [GJ];exact A
 refine bK (Ev.op (.cons (.loc rfl) .nil) (tY e) _ _ ?_)
 refine bG (StoI is σ.n)
  (aA ah) ⟨0,is.take 24,29,Gw,by rw [List.map_take],by rw [List.length_take];exact(l1 0x1b891801b89187080) (Lc _ _),by decide,by decide+kernel,GA _,ah⟩
  (fun r f σ' h=>by cases h with|mk _ _ _ _ _ _ _ _ B C=>exact⟨B,C⟩) (fun i r f σ' D p E Z=>?_) (fun f σ' p=>?_)
 ·delta i r f σ' D
  cases p with|mk k b w x g q s l t v=>
  delta k b w x
  cases b with
  |nil=>cases g
  |cons j b=>
   delta j b;rw [Hs] at g;cases g;rw [HF] at q;refine⟨_,rfl,?_⟩
   have n:w.natAbs<2^3000:=GQ l (Hh (by decide) (by lia))
   refine ar (.op (.cons (.op (.cons (.loc rfl) (.cons .const .nil)) (aF (jo (.inr ⟨n,by decide+kernel⟩)))) (.cons (.op (.cons (.op (.cons (.op (.cons .const (.cons (.op (.cons (.op (.cons (.loc rfl) .nil) rfl) .nil) rfl) .nil)) (aF (jo (.inl (by decide))))) (.cons (.op (.cons (.op (.cons (.loc rfl) (.cons .const .nil)) rfl) .nil) rfl) .nil)) (aF rfl)) (.cons (.op (.cons .const (.cons .const .nil)) (aF (Ab (by decide) (by decide) (by decide)))) .nil)) (aF (Af (by decide+kernel)))) .nil)) (aF rfl)) rfl ?_
   have o:(0:Int) <10^(36:Int).toNat:=by decide+kernel
   generalize z:Int.fmod _ _=y
   have G:0<=y:=by rw [<-z,Ku _ (Jt o)];exact OS _ (Pr o)
   have H:y<10^36:=by rw [<-z,Ku _ (Jt o)];exact N6 _ o
   obtain⟨I,J⟩:=pE s (l1 30170425104760) l G H;exact ak (E _ _ ⟨k+1,b,_,_,rfl,(l2 0x1b89187171801b8918771810) q,I,J,t,v⟩).1
 ·delta f σ'
  cases p with|mk k b w x g q s l t v=>
  have n:w.natAbs<2^400:=GQ l (Hh (by decide) (by lia))
  refine ax (Ev.op (.cons (.loc rfl) (.cons .const (.cons (.op (.cons (.op (.cons .const (.cons (.loc rfl) .nil)) (aF (jo (.inl (by decide))))) (.cons .const .nil)) (aF rfl)) .nil))) (bP (by simp)) _ _ ?_)
  refine c _ (2 * w+1) _ ⟨w,0,ah,GA _,Jt s,GQ n (Hh (by decide) (by decide)),JH _,JH _,by lia,?_⟩
  have K:(2 * w+1).natAbs<=2 * w.natAbs+1:=by rw [<-show(2 * w).natAbs=2 * w.natAbs from MP _ _];exact Oh _ _
  exact IW K (GQ (GA _) (GC (NT 2 n) (Gv rfl)))
end
noncomputable def spine (k:Nat):Tr->List Tr
 |.cat l r=>if k=22 then spine k l++[r] else [.cat l r]
 |.alt l r=>if k=23 then spine k l++[r] else [.alt l r]
 |t=>[t]
noncomputable def Tr.kd:Tr->Nat
 |.a=>28|.b=>28|.empty=>29|.never=>30|.cat .. =>22|.alt .. =>23|.star .. =>24|.plus .. =>25|.opt .. =>26|.rep .. =>27
noncomputable def Tr.sz:Tr->Nat
 |.cat l r|.alt l r=>l.sz+r.sz+1
 |.star t|.plus t|.opt t|.rep t _ _=>t.sz+1
 |_=>1
theorem Tr.kd_lt (t:Tr):t.kd<55:=by cases t<;>exact Gv rfl
inductive Gn (k:Nat) (t:Tr):Prop where
 |mk (l r:Tr) (c:GW) (e:t.node=.obj c [16,17] [l.node,r.node]) (v:t.v=.tup [.str k,l.v,r.v]) (s:spine k t=spine k l++[r]) (z:l.sz<t.sz) (hc:eF tab c 16 [(16,l.node),(17,r.node)]=Gu l.node) (hc':eF tab c 17 [(16,l.node),(17,r.node)]=Gu r.node)
theorem wm {t:Tr} {k:Nat} (b:k=22\/k=23) (h:t.kd=k):Gn k t:=by
 subst h
 cases t with
 |cat l r=>exact⟨l,r,_,rfl,rfl,if_pos rfl,KJ (HN _ _),rfl,rfl⟩
 |alt l r=>exact⟨l,r,_,rfl,rfl,if_pos rfl,KJ (HN _ _),rfl,rfl⟩
 |_=>rcases b with h|h<;>cases h
theorem hV {t:Tr} {k:Nat} (h:t.kd≠k):spine k t=[t]:=by
 cases t<;>first|rfl|exact if_neg (Hz h)
section
variable {u:U} {d:Nat} {Q:V->Sg->Prop} {X:Sg->Prop} {σ:Sg}
theorem BZ (t:Tr):aI tab (.attr 21) [t.node] σ=Gu (.str t.kd,σ):=by cases t<;>exact bH rfl rfl
theorem bN {C:aC} {ρ:List (Option V)} {e:E} {c:GW} {ks:List Nat} {vs:List V} {n:Nat} {v:V} {σ₁:Sg} (h:Ev C ρ σ e (.obj c ks vs) σ₁) (b:ks.length=vs.length) (f:eF tab c n (ks.zip vs)=Gu v):Ev C ρ σ (.op (.attr n) [e]) v σ₁:=
 .op (.cons h .nil) (bH b f)
inductive ChainI (σ₀:Sg) (t:Tr) (k:Nat):Nat->List (Option V)->Sg->Prop where
 |mk (cur:Tr) (acc:List Tr) (σ:Sg) (hs:spine k t=spine k cur++acc.reverse) (E:aZ σ₀ σ) (hn:σ₀.n<σ.n) (hc:σ.cell σ₀.n=.list (acc.map Tr.node)):ChainI σ₀ t k cur.sz [Gu cur.node,Gu (.str k),Gu (.ref σ₀.n)] σ
theorem lN (F:bg u) {t:Tr} {k:Nat} (y:k=22\/k=23) (B:(spine k t).length<=1000) (g:∀σ',aZ σ σ'->Q (.lst ((spine k t).map Tr.node)) σ'):ae u (d+1) 158 [t.node,.str k] Q X σ:=by
 revert t k;delta u d Q X σ;delta t k
 have C:k<55:=by rcases y with rfl|rfl<;>decide
 refine rf (F.call 158 _ rfl d _ _ X σ rfl ?_);refine ar (.op .nil (bP (G7 _))) rfl ?_;refine eQ (ChainI σ t k) (n:=t.sz) (.mk t [] _ (G1 _).symm (.alloc _ _) (GA _) ah) fun n D σ' h=>?_;delta n D σ'
 cases h with
 |mk b f _ o E i m=>
  delta b f
  have A:(f.map Tr.node).length<=1000:=by
   have:=congrArg Jh o
   simp only [GG,Kd] at this;rw [GJ];exact(l3 0x9d72101b89e93801b89e9382) this B
  have j:=GC A (show 1000<=1000000 by decide)
  refine⟨GL (b.kd=k),σ',.of (.op (.cons (.op (.cons (.loc rfl) .nil) (BZ b)) (.cons (.loc rfl) .nil)) (iG ⟨b.kd_lt,C⟩)) rfl rfl,fun h=>?_,fun h I G Z=>?_⟩
  ·have H:=of_decide_eq_false h
   refine aD (Ev.app (.loc rfl) (aM m) (.loc rfl) (bI m i j) _ _ ?_);refine aD (Ev.op (.cons (.loc rfl) .nil) (Dg am i (by rw [GG];exact Nat.add_le_add A (show 1<=999000 by decide))) _ _ ?_)
   refine ax (Ev.loc rfl _ _ ⟨_,_,rfl,am,i,?_⟩);rw [show(f.map Tr.node++[b.node]).reverse=(spine k t).map Tr.node by rw [o,hV H,Ke,G2,List.map_reverse];rfl]
   exact g _ (((E.set (GP _)).set (GP _)).kill (GP _))
  ·obtain⟨l,r,c,e,v,s,z,p,q⟩:=wm y (of_decide_eq_true h);rw [e];refine aD (Ev.app (.loc rfl) (aM m) (bN (.loc rfl) rfl q) (bI m i j) _ _ ?_);refine ar (bN (.loc rfl) rfl p) rfl (ak (G _ _ _ z (.mk l (f++[r]) _ ?_ (E.set (GP _)) i ?_)).1)
   ·rw [o,s,Ke,GO];rfl
   ·rw [G2];exact am
end
section
variable {C:aC} {ρ:List (Option V)} {σ σ₁:Sg} {e d:E} {v:V} {Q:V->Sg->Prop} {X:Sg->Prop} {c:List (Option Nat)} {t:Nat}
noncomputable def nE (c:List (Option Nat)) (ρ:List (Option V)) (t:Nat) (i:V):List (Option V):=(c.map fun|none=>Gw|some k=>(ρ[k]?).join).set t (Gu i)
def vB (C:aC) (ρ:List (Option V)) (c:List (Option Nat)) (t:Nat) (d:E) (Q:V->Sg->Prop) (X:Sg->Prop):V->Sg->Prop:=fun v f=>match fx v f with
 |some l=>compW (fun i g j b=>wpE tab C (nE c ρ t i) d g j b) (cq v l) X l [] (fun k b=>Q (.ref b.n) (b.alloc (.list k))) f
 |none=>False
theorem j7 (h:wpE tab C ρ e (vB C ρ c t d Q X) X σ):wpE tab C ρ (.comp c t d e) Q X σ:=h
theorem fE {l:List V} (I:List V->List V->Sg->Prop) (hi:fx v σ=Gu l) (g:I l [] σ) (f:∀r acc σ,I r acc σ->cq v l σ)
  (b:∀i r acc σ (Q':V->Sg->Prop),I (i::r) acc σ->(∀v σ',I r (acc++[v]) σ'->Q' v σ')->wpE tab C (nE c ρ t i) d Q' X σ) (done:∀acc σ,I [] acc σ->Q (.ref σ.n) (σ.alloc (.list acc))):vB C ρ c t d Q X v σ:=by
 unfold vB;simp only [hi];exact iu I f b done _ _ _ g
def wF (C:aC) (ρ:List (Option V)) (c:List (Option Nat)) (t:Nat) (d:E) (Q:V->Sg->Prop) (X:Sg->Prop):V->Sg->Prop:=fun v f=>∃n,v=.int n/\0<=n/\n<=1000000/\compW (fun i g j b=>wpE tab C (nE c ρ t i) d g j b) (fun Z=>True) X (a6 n) [] (fun k b=>Q (.ref b.n) (b.alloc (.list k))) f
theorem x5 (h:wpE tab C ρ e (wF C ρ c t d Q X) X σ):wpE tab C ρ (.compR c t d e) Q X σ:=h
theorem rY {n:Int} (I:List V->List V->Sg->Prop) (f:0<=n) (g:n<=1000000) (j:I (a6 n) [] σ)
  (b:∀i r acc σ (Q':V->Sg->Prop),I (i::r) acc σ->(∀v σ',I r (acc++[v]) σ'->Q' v σ')->wpE tab C (nE c ρ t i) d Q' X σ) (done:∀acc σ,I [] acc σ->Q (.ref σ.n) (σ.alloc (.list acc))):wF C ρ c t d Q X (.int n) σ:=by
 exact⟨n,rfl,f,g,iu I (fun Z Z Z Z=>trivial) b done _ _ _ j⟩
theorem kq {l:List V} (h:l.length<=1000000):fx (.lst l) σ=Gu l:=if_pos h
theorem ng {a:Nat} {l:List V} (b:σ.cell a=.list l) (h:l.length<=1000000):fx (.ref a) σ=Gu l:=by
 show(match aV (.ref a) σ with
  |some l=>if l.length<=1000000 then Gu l else Gw
  |none=>Gw)=_
 rw [aA b];exact if_pos h
theorem Dr {a:Nat} {is:List Int} (h:σ.cell a=.list (is.map .int)):aI tab .sum [.ref a] σ=Gu (.int is.sum,σ):=by
 show(match σ.cell a with
  |.list l=>(ints? l).map fun(is:List Int)=>(V.int is.sum,σ)
  |_=>Gw)=_
 simp only [h,mX,ID]
theorem BD {a b:Nat} {l k:List V} (h:σ.cell a=.list l) (h':σ.cell b=.list k) (f:l.length+k.length<=1000000):aI tab (.bin .add) [.ref a,.ref b] σ=Gu (.ref σ.n,σ.alloc (.list (l++k))):=by
 show bU a σ _=_
 unfold bU;simp only [h,h',if_pos f]
end
section
variable {u:U} {d:Nat} {Q:V->Sg->Prop} {X:Sg->Prop} {σ:Sg}
theorem zX {t:Tr} {k:Nat} (b:k=22\/k=23):t.nm=k↔t.kd=k:=by
 rcases b with rfl|rfl<;>cases t<;>exact of_decide_eq_true rfl
inductive PartsI (σ₀:Sg) (t:Tr) (k:Nat):Nat->List (Option V)->Sg->Prop where
 |mk (cur:Tr) (acc:List Tr) (σ:Sg) (hs:spine k t=spine k cur++acc.reverse) (E:aZ σ₀ σ) (hn:σ₀.n<σ.n) (hc:σ.cell σ₀.n=.list (acc.map Tr.v)):PartsI σ₀ t k cur.sz [Gu cur.v,Gu (.str k),Gu (.ref σ₀.n)] σ
theorem yO (F:bg u) {t:Tr} {k:Nat} (i:k=22\/k=23) (q:(spine k t).length<=1000) (g:∀σ',aZ σ σ'->Q (.lst ((spine k t).reverse.map Tr.v)) σ'):ae u (d+1) 913 [t.v,.str k] Q X σ:=by
 revert t k;delta u d Q X σ;delta t k
 have y:k<55:=by rcases i with rfl|rfl<;>decide
 refine rf (F.call 913 _ rfl d _ _ X σ rfl ?_);refine ar (.op .nil (bP (G7 _))) rfl ?_;refine eQ (PartsI σ t k) (n:=t.sz) (.mk t [] _ (G1 _).symm (.alloc _ _) (GA _) ah) fun n A σ' h=>?_;delta n A σ'
 cases h with
 |mk b f _ j E m o=>
  delta b f
  have p:(f.map Tr.v).length<=1000:=by
   have:=congrArg Jh j
   simp only [GG,Kd] at this;rw [GJ];exact(l3 0x9d72101b89e93801b89e9382) this q
  refine⟨GL (b.nm=k),σ',.of (.op (.cons (ca rfl) (.cons (.loc rfl) .nil)) (iG ⟨b.nm_lt,y⟩)) rfl rfl,fun h=>?_,fun h K B Z=>?_⟩
  ·have C:b.kd≠k:=fun e=>of_decide_eq_false h ((zX i).mpr e)
   refine ax (Ev.op (.cons (.loc rfl) (.cons (.op (.cons (.loc rfl) .nil) (bP (Gv rfl))) .nil)) (BD ((au m).trans o) ah (GC (Nat.add_le_add_right p _) (show 1000+1<=1000000 by decide))) _ _ ?_)
   refine⟨_,_,rfl,ah,GA _,?_⟩;rw [show f.map Tr.v++[b.v]=(spine k t).reverse.map Tr.v by rw [j,hV C,Ke,List.reverse_reverse,G2];rfl]
   exact g _ (((E.trans (.alloc _ _)).trans (.alloc _ _)).kill (GC E.n (Hn _)))
  ·have D:=of_decide_eq_true h
   obtain⟨l,r,c,e,v,s,z,G,H⟩:=wm i ((zX i).mp D)
   have I:aI tab .idx [b.v,.int (1:Nat)] (σ'.set σ.n (.list (f.map Tr.v++[r.v])))=Gu (l.v,σ'.set σ.n (.list (f.map Tr.v++[r.v]))):=by rw [v];exact jR (Gv rfl) rfl
   have J:aI tab .idx [b.v,.int (2:Nat)] σ'=Gu (r.v,σ'):=by rw [v];exact jR (Gv rfl) rfl
   refine aD (Ev.app (.loc rfl) (aM o) (.op (.cons (.loc rfl) (.cons .const .nil)) J) (bI o m (GC p (by decide))) _ _ ?_)
   refine ar (.op (.cons (.loc rfl) (.cons .const .nil)) I) rfl (ak (B _ _ _ z (.mk l (f++[r]) _ ?_ (E.set (GP _)) m ?_)).1)
   ·rw [j,s,Ke,GO];rfl
   ·rw [G2];exact am
end
theorem qK {k:Nat} (i:k=22\/k=23) {n:Nat} {t:Tr} (h:Fam n t):(∀p∈spine k t,Fam n p)/\(spine k t).length<=n+1:=by
 have d:∀ {n:Nat} {t:Tr},Fam n t->t.kd≠k->(∀p∈spine k t,Fam n p)/\(spine k t).length<=n+1:=fun{n t} f h=>by
  rw [hV h];exact⟨fun p s=>by rw [GI.mp s];exact f,Hq (G7 _)⟩
 have o:∀ {n:Nat} {l r t:Tr},spine k t=spine k l++[r]->r.leaf->((∀p∈spine k l,Fam n p)/\(spine k l).length<=n+1)->(∀p∈spine k t,Fam (n+1) p)/\(spine k t).length<=n+1+1:=fun{n l r t} e g j=>by
  rw [e];refine⟨fun p s=>?_,by rw [GG];exact Hq j.2⟩
  rcases GH.mp s with h|h
  ·exact(j.1 p h).up (Hn _)
  ·rw [GI.mp h];exact .leaf g
 induction h with
 |@leaf n t m=>exact d (.leaf m) fun e=>by cases t<;>first|exact m.elim|(subst e;rcases i with h|h<;>cases h)
 |@cat n l r m g j=>
  by_cases q:k=22
  ·exact o (if_pos q) g j
  ·exact d (.cat m g) fun e=>q e.symm
 |@alt n l r m g j=>
  by_cases q:k=23
  ·exact o (if_pos q) g j
  ·exact d (.alt m g) fun e=>q e.symm
 |star h=>exact d (.star h) fun e=>by subst e;rcases i with h|h<;>cases h
 |plus h=>exact d (.plus h) fun e=>by subst e;rcases i with h|h<;>cases h
 |opt h=>exact d (.opt h) fun e=>by subst e;rcases i with h|h<;>cases h
 |repN a h=>exact d (.repN a h) fun e=>by subst e;rcases i with h|h<;>cases h
 |repS a b c h=>exact d (.repS a b c h) fun e=>by subst e;rcases i with h|h<;>cases h
theorem cz {k:Nat} (f:k=22\/k=23) {n:Nat} {t:Tr} (h:Fam (n+1) t) (e:t.kd=k):(∀p∈spine k t,Fam n p)/\(spine k t).length<=n+2:=by
 revert n t;delta k;delta n t
 have b:∀ {l r:Tr},Fam n l->r.leaf->(∀p∈spine k l++[r],Fam n p)/\(spine k l++[r]).length<=n+2:=fun{l r} c d=>by
  have g:=qK f c
  refine⟨fun p i=>?_,by rw [GG];exact Hq g.2⟩
  rcases GH.mp i with h|h
  ·exact g.1 p h
  ·rw [GI.mp h];exact .leaf d
 cases h with
 |leaf c=>cases t<;>first|exact c.elim|(subst e;rcases f with h|h<;>cases h)
 |@cat _ l r c d=>rw [show spine k (.cat l r)=spine k l++[r] from if_pos e.symm];exact b c d
 |@alt _ l r c d=>rw [show spine k (.alt l r)=spine k l++[r] from if_pos e.symm];exact b c d
 |_=>subst e;rcases f with h|h<;>cases h
noncomputable def cnt:Nat->Tr->Nat×Nat
 |n+1,.cat l r=>(((spine 22 (.cat l r)).map fun p=>(cnt n p).1).sum,((spine 22 (.cat l r)).map fun p=>(cnt n p).2).sum+1)
 |n+1,.alt l r=>(((spine 23 (.alt l r)).map fun p=>(cnt n p).1).sum+2,((spine 23 (.alt l r)).map fun p=>(cnt n p).2).sum+1)
 |n+1,.star t=>((cnt n t).1+2,(cnt n t).2+1)
 |n+1,.plus t=>((cnt n t).1+2,(cnt n t).2+1)
 |n+1,.opt t=>((cnt n t).1+2,(cnt n t).2+1)
 |n+1,.rep t lo Gw=>(3+(lo+1) * (cnt n t).1,1+(lo+1) * (cnt n t).2)
 |n+1,.rep t lo (Gu hi)=>(2+hi * (cnt n t).1,1+hi * (cnt n t).2)
 |_,_=>(2,1)
noncomputable def d0 (p:Nat×Nat):V:=.tup [.int p.1,.int p.2]
theorem zv {b:Type} (f:b->Nat) (l:List b):(l.reverse.map fun p=>((f p:Nat):Int)).sum=((l.map f).sum:Nat):=by
 induction l with
 |nil=>rfl
 |cons x l c=>
  rw [I6,G2,Mg,c,Hs,Ia];simp [Int.add_comm]
section
variable {u:U} {d:Nat} {Q:V->Sg->Prop} {X:Sg->Prop} {σ:Sg}
inductive MapI (σ₀:Sg) (f g:Tr->V) (ps:List Tr):List V->List V->Sg->Prop where
 |mk (xs ys:List Tr) (σ:Sg) (e:ps=xs++ys) (E:aZ σ₀ σ):MapI σ₀ f g ps (ys.map f) (xs.map g) σ
theorem uh {a b:V}:aI tab .idx [.tup [a,b],.int 0] σ=Gu (a,σ)/\aI tab .idx [.tup [a,b],.int 1] σ=Gu (b,σ):=⟨bC rfl (Gv rfl) rfl,bC rfl (Gv rfl) rfl⟩
inductive SumI (σ₀:Sg) (f:Tr->Int) (ps:List Tr) (g:Tr->V):List V->List V->Sg->Prop where
 |mk (xs ys:List Tr) (e:ps=xs++ys):SumI σ₀ f ps g (ys.map g) (xs.map fun p=>.int (f p)) σ₀
theorem uP {C:aC} {ρ:List (Option V)} {k:Int} {a:Nat} {ps:List Tr} {g:Tr->V} {f:Tr->Int} (h:ρ[1]? =Gu (Gu (.ref a))) (l:σ.cell a=.list (ps.map g)) (n:a<σ.n) (o:ps.length<=1000) (s:∀p σ,aI tab .idx [g p,.int k] σ=Gu (.int (f p),σ)):
  ∃σ',aZ σ σ'/\Ev C ρ σ (.op .sum [.comp [Gw,Gw] 1 (.op .idx [.loc 1,.const (.int k)]) (.loc 1)]) (.int (ps.map f).sum) σ':=by
 revert C ρ k a ps g f;delta σ;delta C ρ k a ps g f;refine⟨σ.alloc (.list (ps.map fun p=>.int (f p))),.alloc _ _,.op (.cons (v:=.ref σ.n) (fun Q X q=>j7 (Ev.loc h _ _ ?_)) .nil) (Dr (is:=ps.map f) (by rw [ah,HJ];rfl))⟩
 refine fE (SumI σ f ps g) (ng l (by rw [GJ];exact GC o (by decide))) (.mk [] ps rfl) (fun r c σ' h=>?_) (fun i r c σ' A h t=>?_) (fun c σ' h=>?_)
 ·cases h;exact⟨n,l⟩
 ·generalize j:i::r=z at h
  cases h with
  |mk m b e=>
   cases b with
   |nil=>cases j
   |cons y b=>
    cases j;refine Ev.op (.cons (.loc rfl) (.cons .const .nil)) (s y σ) _ _ (t _ _ ?_)
    have:=SumI.mk (σ₀:=σ) (f:=f) (g:=g) (ps:=ps) (m++[y]) b (by rw [e,GO];rfl)
    rw [G2] at this;exact this
 ·generalize j:([]:List V)=z at h
  cases h with
  |mk m b e=>
   cases b with
   |cons y b=>cases j
   |nil=>rw [e,G1] at q;exact q
end
section
variable {u:U} {d:Nat} {Q:V->Sg->Prop} {X:Sg->Prop} {σ:Sg}
theorem j8 {l:List V} (h:l.length<=1000000):aI tab .len [.tup l] σ=Gu (.int l.length,σ):=d7 rfl h
theorem jU (F:bg u) {n k:Nat} {t:Tr} (A:k=22\/k=23) (e:t.nm=k) (B:(spine k t).length<=1000) (O:∀p∈spine k t,∀ {Q:V->Sg->Prop} {X:Sg->Prop} {σ:Sg},(∀σ',aZ σ σ'->Q (d0 (cnt n p)) σ')->ae u (n+2) 918 [p.v] Q X σ)
  (m:∀σ',aZ σ σ'->Q (d0 (((spine k t).map fun p=>(cnt n p).1).sum+2 * (if k=23 then 1 else 0),((spine k t).map fun p=>(cnt n p).2).sum+1)) σ'):ae u (n+3) 918 [t.v] Q X σ:=by
 refine F.call 918 _ rfl (n+2) _ Q X σ rfl ?_
 have D:[22,23].any (· ==t.nm)=Gx:=by rw [e];rcases A with rfl|rfl<;>rfl
 refine aq (t:=Gx) (D▸dW rfl ⟨by decide,by decide⟩) ?_
 refine w_asg (j7 (ay (.cons (.loc rfl) (.cons (ca rfl) .nil)) (e▸yO F A B fun G o=>?_)))
 have P:((spine k t).reverse.map Tr.v).length<=1000000:=by rw [GJ,Kd];exact GC B (by decide)
 refine fE (MapI σ Tr.v (fun p=>d0 (cnt n p)) (spine k t).reverse) (kq P) (.mk [] _ _ rfl o) (fun Z Z Z Z=>trivial) (fun i r H σ' T h R=>?_) (fun H σ' h=>?_)
 ·generalize v:i::r=z at h
  cases h with
  |mk J l _ q E=>
   cases l with
   |nil=>cases v
   |cons y l=>
    cases v
    have S:y∈spine k t:=Of.mp (by rw [q];simp)
    refine ay (.cons (.loc rfl) .nil) (O y S fun c b=>R _ _ ?_)
    have:=MapI.mk (σ₀:=σ) (f:=Tr.v) (g:=fun p=>d0 (cnt n p)) (ps:=(spine k t).reverse) (J++[y]) l c (by rw [q,GO];rfl) (E.trans b)
    rw [G2] at this;exact this
 ·generalize v:([]:List V)=z at h
  cases h with
  |mk J l _ q E=>
   cases l with
   |cons y l=>cases v
   |nil=>
    rw [G1] at q;subst q;refine aB rfl ?_
    have K:(σ'.alloc (.list ((spine k t).reverse.map fun p=>d0 (cnt n p)))).cell σ'.n=.list ((spine k t).reverse.map fun p=>d0 (cnt n p)):=ah
    have L:(spine k t).reverse.length<=1000:=by rw [Kd];exact B
    obtain⟨c,b,M⟩:=uP (C:=ae u (n+2)) (ρ:=[Gu t.v,Gu (.ref σ'.n),Gw,Gw,Gw,Gw,Gw,Gw,Gw]) (ps:=(spine k t).reverse) (g:=fun p=>d0 (cnt n p)) (f:=fun p=>((cnt n p).1:Int)) (k:=0) rfl K (GA _) L fun p σ=>uh.1
    have I:=(b.cell σ'.n (GA _)).trans K
    obtain⟨j,s,N⟩:=uP (C:=ae u (n+2)) (ρ:=[Gu t.v,Gu (.ref σ'.n),Gw,Gw,Gw,Gw,Gw,Gw,Gw]) (ps:=(spine k t).reverse) (g:=fun p=>d0 (cnt n p)) (f:=fun p=>((cnt n p).2:Int)) (k:=1) rfl I (GQ (GA _) b.n) L fun p σ=>uh.2;rw [zv] at M N;refine ax (Ev.op (.cons (.op (.cons M (.cons (.op (.cons .const (.cons (.op (.cons (.op (.cons (ca rfl) (.cons .const .nil)) (iG ⟨t.nm_lt,by decide⟩)) .nil) rfl) .nil)) (aF (jo (.inl (by decide))))) .nil)) (aF rfl)) (.cons (.op (.cons N (.cons .const .nil)) (aF rfl)) .nil)) (aK (Gv rfl)) _ _ ?_)
    have:=m j (((E.trans (.alloc _ _)).trans b).trans s)
    rw [e];rcases A with rfl|rfl<;>exact this
theorem iw (F:bg u) {n:Nat} {t l:Tr} (h:[22,23].any (· ==t.nm)=Gz) (f:(V.str t.nm::t.rest)[1]? =Gu l.v) (g:(((V.str t.nm::t.rest).length:Int) ==1)=Gz)
  (i:∀ {Q:V->Sg->Prop} {X:Sg->Prop} {σ:Sg},(∀σ',aZ σ σ'->Q (d0 (cnt n l)) σ')->ae u (n+2) 918 [l.v] Q X σ)
  (c:∀σ',aZ σ σ'->wpSs tab (ae u (n+2)) (Dn.drop 3) [Gu t.v,Gw,Gu (.int (cnt n l).1),Gu (.int (cnt n l).2),Gw,Gw,Gw,Gw,Gw] (d6 Q) X σ'):ae u (n+3) 918 [t.v] Q X σ:=by
 refine F.call 918 _ rfl (n+2) _ Q X σ rfl ?_;refine aq (t:=Gz) (h▸dW rfl ⟨by decide,by decide⟩) (ak ?_)
 have j:Ev (ae u (n+2)) (dR 9 [0] [t.v]) σ (.op .len [.loc 0]) (.int (V.str t.nm::t.rest).length) σ:=.op (.cons (.loc rfl) .nil) (by rw [t.v_eq];exact j8 t.rest_len)
 refine aq (t:=Gz) (.of (v:=.bool (((V.str t.nm::t.rest).length:Int) ==1)) (.op (.cons j (.cons .const .nil)) rfl) (congrArg Gu g) rfl) (ak ?_);exact w_asg (ay (.cons (fY (k:=1) rfl f) .nil) (i fun b e=>aB rfl (c b e)))
theorem wV (F:bg u) (n:Nat) (B:n<=900):∀ {t:Tr},Fam n t->∀ {Q:V->Sg->Prop} {X:Sg->Prop} {σ:Sg},(∀σ',aZ σ σ'->Q (d0 (cnt n t)) σ')->ae u (n+2) 918 [t.v] Q X σ:=by
 have leaf:∀ {n:Nat} {t:Tr} {Q:V->Sg->Prop} {X:Sg->Prop} {σ:Sg},t.leaf->(∀σ',aZ σ σ'->Q (d0 (cnt n t)) σ')->ae u (n+2) 918 [t.v] Q X σ:=fun{n t Q X σ} v c=>by
  refine F.call 918 _ rfl (n+1) _ Q X σ rfl ?_
  have J:cnt n t=(2,1):=by cases t<;>first|exact v.elim|(cases n<;>rfl)
  rw [J] at c
  cases t with
  |a=>exact aq (t:=Gz) (dW (t:=.a) rfl ⟨by decide,by decide⟩) (ak (aq (t:=Gx) (.of (.op (.cons (.op (.cons (.loc rfl) .nil) (j8 (Gv rfl))) (.cons .const .nil)) rfl) rfl rfl) (ax (Ev.op (.cons .const (.cons .const .nil)) (aK (Gv rfl)) _ _ (c _ (.refl _))))))
  |b=>exact aq (t:=Gz) (dW (t:=.b) rfl ⟨by decide,by decide⟩) (ak (aq (t:=Gx) (.of (.op (.cons (.op (.cons (.loc rfl) .nil) (j8 (Gv rfl))) (.cons .const .nil)) rfl) rfl rfl) (ax (Ev.op (.cons .const (.cons .const .nil)) (aK (Gv rfl)) _ _ (c _ (.refl _))))))
  |empty=>exact aq (t:=Gz) (dW (t:=.empty) rfl ⟨by decide,by decide⟩) (ak (aq (t:=Gx) (.of (.op (.cons (.op (.cons (.loc rfl) .nil) (j8 (Gv rfl))) (.cons .const .nil)) rfl) rfl rfl) (ax (Ev.op (.cons .const (.cons .const .nil)) (aK (Gv rfl)) _ _ (c _ (.refl _))))))
  |never=>exact aq (t:=Gz) (dW (t:=.never) rfl ⟨by decide,by decide⟩) (ak (aq (t:=Gx) (.of (.op (.cons (.op (.cons (.loc rfl) .nil) (j8 (Gv rfl))) (.cons .const .nil)) rfl) rfl rfl) (ax (Ev.op (.cons .const (.cons .const .nil)) (aK (Gv rfl)) _ _ (c _ (.refl _))))))
  |_=>exact v.elim
 have i:∀ {n:Nat} {t l:Tr} {Q:V->Sg->Prop} {X:Sg->Prop} {σ:Sg},[22,23].any (· ==t.nm)=Gz->(V.str t.nm::t.rest)[1]? =Gu l.v->(((V.str t.nm::t.rest).length:Int) ==1)=Gz->(!(GL (t.nm=27)))=Gx->cnt (n+1) t=((cnt n l).1+2,(cnt n l).2+1)->
   (∀ {Q:V->Sg->Prop} {X:Sg->Prop} {σ:Sg},(∀σ',aZ σ σ'->Q (d0 (cnt n l)) σ')->ae u (n+2) 918 [l.v] Q X σ)->(∀σ',aZ σ σ'->Q (d0 (cnt (n+1) t)) σ')->ae u (n+3) 918 [t.v] Q X σ:=fun{n t l Q X σ} h H C K L j c=>by
  rw [L] at c;exact iw F h H C j fun o f=>aq (t:=Gx) (K▸.of (.op (.cons (ca rfl) (.cons .const .nil)) (vc ⟨t.nm_lt,by decide⟩)) rfl rfl) (ax (Ev.op (.cons (.op (.cons (.loc rfl) (.cons .const .nil)) (aF rfl)) (.cons (.op (.cons (.loc rfl) (.cons .const .nil)) (aF rfl)) .nil)) (aK (Gv rfl)) _ _ (c _ f)))
 induction n with
 |zero=>
  intro t h Q X σ c
  cases h with
  |leaf v=>exact leaf v c
 |succ n j=>
 replace j:=@j ((l1 0x1b49893871801b4989380) B)
 intro t h Q X σ c
 have I:=fun{k:Nat} (M:k=22\/k=23) (e:t.kd=k)=>cz M h e
 cases h with
 |leaf v=>exact leaf v c
 |@cat _ l r v N=>
  obtain⟨D,E⟩:=I (.inl rfl) rfl;exact jU F (k:=22) (t:=.cat l r) (.inl rfl) rfl (GC E ((l1 0x1b49893871801b89e9387280) B)) (fun p G=>j (D p G)) c
 |@alt _ l r v N=>
  obtain⟨D,E⟩:=I (.inr rfl) rfl;exact jU F (k:=23) (t:=.alt l r) (.inr rfl) rfl (GC E ((l1 0x1b49893871801b89e9387280) B)) (fun p G=>j (D p G)) c
 |@star _ t q=>exact i (t:=.star t) rfl rfl rfl rfl rfl (j q) c
 |@plus _ t q=>exact i (t:=.plus t) rfl rfl rfl rfl rfl (j q) c
 |@opt _ t q=>exact i (t:=.opt t) rfl rfl rfl rfl rfl (j q) c
 |@repN _ t g y q=>
  refine iw F (t:=.rep t g Gw) rfl rfl rfl (j q) fun o f=>aq (t:=Gz) (.of (.op (.cons (ca (t:=.rep t g Gw) rfl) (.cons .const .nil)) (vc ⟨Tr.nm_lt _,by decide⟩)) rfl rfl) (ak (aq (t:=Gx) (.of (.op (.cons (fY (t:=.rep t g Gw) (k:=3) rfl rfl) .nil) rfl) rfl rfl) (ax ?_)))
  have m:∀x:Int,dT .mul ((g:Int)+1) x=Gu (((g:Int)+1) * x):=fun x=>jo (.inl (show g+1<2^60 from IW (Hq y) (by decide)))
  have z:∀ {A:List (Option V)} {σ:Sg},A[0]? =Gu (Gu (Tr.rep t g Gw).v)->Ev (ae u (n+2)) A σ (.op (.bin .add) [.op .idx [.loc 0,.const (.int 2)],.const (.int 1)]) (.int ((g:Int)+1)) σ:=fun h=>.op (.cons (fY (t:=.rep t g Gw) (k:=2) h rfl) (.cons .const .nil)) (aF rfl)
  refine Ev.op (.cons (.op (.cons .const (.cons (.op (.cons (z rfl) (.cons (.loc rfl) .nil)) (aF (m _))) .nil)) (aF rfl)) (.cons (.op (.cons .const (.cons (.op (.cons (z rfl) (.cons (.loc rfl) .nil)) (aF (m _))) .nil)) (aF rfl)) .nil)) (aK (Gv rfl)) _ _ ?_;exact c _ f
 |@repS _ t g s y H C q=>
  refine iw F (t:=.rep t g (Gu s)) rfl rfl rfl (j q) fun o f=>aq (t:=Gz) (.of (.op (.cons (ca (t:=.rep t g (Gu s)) rfl) (.cons .const .nil)) (vc ⟨Tr.nm_lt _,by decide⟩)) rfl rfl) (ak (aq (t:=Gz) (.of (.op (.cons (fY (t:=.rep t g (Gu s)) (k:=3) rfl rfl) .nil) rfl) rfl rfl) (ak (ax ?_))))
  have m:∀x:Int,dT .mul (s:Int) x=Gu ((s:Int) * x):=fun x=>jo (.inl (show s<2^60 from IW C (by decide)))
  have z:∀ {A:List (Option V)} {σ:Sg},A[0]? =Gu (Gu (Tr.rep t g (Gu s)).v)->Ev (ae u (n+2)) A σ (.op .idx [.loc 0,.const (.int 3)]) (.int (s:Int)) σ:=fun h=>fY (t:=.rep t g (Gu s)) (k:=3) h rfl
  refine Ev.op (.cons (.op (.cons .const (.cons (.op (.cons (z rfl) (.cons (.loc rfl) .nil)) (aF (m _))) .nil)) (aF rfl)) (.cons (.op (.cons .const (.cons (.op (.cons (z rfl) (.cons (.loc rfl) .nil)) (aF (m _))) .nil)) (aF rfl)) .nil)) (aK (Gv rfl)) _ _ ?_;exact c _ f
end
section
variable {u:U} {d:Nat} {Q:V->Sg->Prop} {X:Sg->Prop} {σ:Sg} {C:aC} {ρ:List (Option V)} {K:cU} {l:List S}
theorem Ev.getD {a b e:E} {i:Nat} {k:Int} {f:V} {kvs:List (Int×V)} {σ₁ σ₂ c:Sg} (h:Ev C ρ σ a (.ref i) σ₁) (hd:k9 σ₁ (.ref i)=Gx) (g:Ev C ρ σ₁ b (.int k) σ₂) (j:Ev C ρ σ₂ e f c) (m:c.cell i=.dict kvs):Ev C ρ σ (.getD a b e) ((lookI k kvs).getD f) c:=fun Q X q=>by
 refine h _ _ ⟨hd,g _ _ (j _ _ ?_)⟩
 have:aI tab .get [.ref i,.int k,f] c=Gu ((lookI k kvs).getD f,c):=by
  show(match c.cell i with
   |.dict kvs=>Gu ((lookI k kvs).getD f,c)
   |_=>Gw)=_
  simp only [m]
 simp only [this];exact q
theorem BC {k v:E} {i:Int} {y:V} (b:∀σ,Ev C ρ σ k (.int i) σ) (c:∀σ,Ev C ρ σ v y σ):Ev C ρ σ (.dct1 k v) (.ref σ.n) (σ.alloc (.dict [(i,y)])):=fun Q X q=>by
 refine b _ _ _ (c _ _ _ ⟨_,rfl,ah,?_⟩)
 have:(σ.alloc (.dict [])).set σ.n (.dict [(i,y)])=σ.alloc (.dict [(i,y)]):=by
  unfold Sg.set Sg.alloc
  congr 1
  funext x
  simp only
  split<;>rfl
 rw [this];exact q
noncomputable def pB (k:Int) (kvs:List (Int×V)):Int:=match lookI k kvs with
 |some (.int i)=>i
 |_=>0
noncomputable def o7 (p:Nat) (k:Int) (kvs:List (Int×V)):List (Int×V):=putI k (.int (J9 (pB k kvs) (2^p))) kvs
theorem wc {T:Nat} {p:Nat} {k:Int} {kvs:List (Int×V)} {e:E} (c:∀σ,Ev C ρ σ e (.int k) σ) (f:ρ[2]? =Gu (Gu (.ref T))) (i:ρ[3]? =Gu (Gu (.int p))) (b:σ.cell T=.dict kvs) (m:T<σ.n) (hp:p<=1000) (n:kvs.length<=1000) (o:lookI k kvs=Gw\/∃j,lookI k kvs=Gu (.int j))
  (q:wpSs tab C l ρ K X (σ.set T (.dict (o7 p k kvs)))):wpSs tab C (.setIdx (.loc 2) e (.op (.bin .bxor) [.getD (.loc 2) e (.const (.int 0)),.op (.bin .shl) [.const (.int 1),.loc 3]])::l) ρ K X σ:=by
 have r:(lookI k kvs).getD (.int 0)=.int (pB k kvs):=by
  unfold pB;rcases o with h|⟨j,h⟩<;>rw [h]<;>rfl
 have g:aI tab (.bin .shl) [.int 1,.int p] σ=Gu (.int (1 * 2^((p:Int)).toNat),σ):=aF (rV (Hc _) (by lia) (by decide))
 rw [Mc] at g;refine bT (.op (.cons (r▸.getD (.loc f) (vC b) (c _) .const b) (.cons (.op (.cons .const (.cons (.loc i) .nil)) g) .nil)) (aF rfl)) (.loc f) (c _) (cw b m (GC n (by decide))) q
structure De where
 h:Int
 kn:List (Int×V)
 bs:List V
 ns:List V
noncomputable def bL (c:List (Int×V)) (s:De) (b:Int):De:=
 let f:=J9 s.h (pB b c)
 let e:=if(lookI f s.kn).isSome then s.kn else putI f (.int s.kn.length) s.kn
 ⟨f,e,s.bs++[.int b],s.ns++[(lookI f e).getD .none]⟩
theorem og (k:Int) (v:V) (kvs:List (Int×V)):lookI k (putI k v kvs)=Gu v:=by
 induction kvs with
 |nil=>exact if_pos rfl
 |cons b r c=>
  show lookI k (if b.1=k then _ else _)=_
  by_cases q:b.1=k
  ·rw [if_pos q];exact if_pos rfl
  ·rw [if_neg q];exact(if_neg q).trans c
theorem put_len (k:Int) (v:V):∀kvs:List (Int×V),(putI k v kvs).length<=kvs.length+1
 |[]=>GP _
 |b::r=>by
  unfold putI
  by_cases q:b.1=k
  ·rw [if_pos q];exact Hn _
  ·rw [if_neg q];exact Hq (put_len k v r)
end
section
variable {u:U} {d:Nat} {Q:V->Sg->Prop} {X:Sg->Prop} {σ:Sg} {C:aC} {ρ:List (Option V)} {K:cU} {l:List S}
structure q0 (σ₀:Sg) (i:Nat) (turns:List (Int×V)) (L:List V) (s:De) (σ:Sg):Prop where
 n:σ.n=σ₀.n+5
 old:∀x,x<σ₀.n->x≠i->σ.cell x=σ₀.cell x
 ci:σ.cell i=.inst 570 [(12,.ref (σ₀.n+1)),(13,.ref (σ₀.n+2))]
 cT:σ.cell σ₀.n=.dict turns
 cB:σ.cell (σ₀.n+1)=.list s.bs
 cN:σ.cell (σ₀.n+2)=.list s.ns
 cK:σ.cell (σ₀.n+3)=.dict s.kn
 cL:σ.cell (σ₀.n+4)=.list L
 lb:s.bs.length<=1000
 ln:s.ns.length<=1000
 lk:s.kn.length<=1000
 kn:∀k v,lookI k s.kn=Gu v->∃j,v=.int j
theorem A1 {k:Int} {j:Int}:∀ {kvs:List (Int×V)},(∀k v,lookI k kvs=Gu v->∃j,v=.int j)->∀b v,lookI b (putI k (.int j) kvs)=Gu v->∃j,v=.int j:=fun{kvs} h b v e=>by
 by_cases q:b=k
 ·subst q;rw [og] at e;cases e;exact⟨_,rfl⟩
 ·refine h b v ?_;rw [<-e];clear e h
  induction kvs with
  |nil=>unfold putI lookI;rw [if_neg (Hz q)];rfl
  |cons f r g=>
   unfold putI
   by_cases c:f.1=k
   ·rw [if_pos c];unfold lookI;rw [if_neg (fun e=>q (e.symm.trans c)),if_neg (Hz q)]
   ·rw [if_neg c];unfold lookI;rw [g]
theorem tw {σ₀ σ:Sg} {i p:Nat} {b:List (Int×V)} {L:List V} {s:De} {c t:Int} {F r y:Option V} (S:q0 σ₀ i b L s σ) (hi:i<σ₀.n) (P:lookI c b=Gu (.int t)) (hb:s.bs.length<1000) (hn:s.ns.length<1000) (hk:s.kn.length<1000)
  (q:∀σ',q0 σ₀ i b L (bL b s c) σ'->wpSs tab C l [Gu (.ref i),Gu (.ref p),Gu (.ref σ₀.n),F,r,y,Gu (.ref (σ₀.n+3)),Gu (.int (bL b s c).h),Gu (.int c),Gw,Gw,Gw,Gw] K X σ'):
  wpSs tab C (.assign (.loc 7) (.op (.bin .bxor) [.loc 7,.op .idx [.loc 2,.loc 8]])::.ite (.op .notIn [.loc 7,.loc 6]) [.setIdx (.loc 6) (.loc 7) (.op .len [.loc 6])] []::.expr (.app (.op (.attr 12) [.loc 0]) (.loc 8))::.expr (.app (.op (.attr 13) [.loc 0]) (.op .idx [.loc 6,.loc 7]))::l)
   [Gu (.ref i),Gu (.ref p),Gu (.ref σ₀.n),F,r,y,Gu (.ref (σ₀.n+3)),Gu (.int s.h),Gu (.int c),Gw,Gw,Gw,Gw] K X σ:=by
 revert σ₀ σ i p b L s c t F r y;delta X C K l;revert r y;delta σ₀ σ i p b L s c t F;delta r y
 have H:=S.n
 have hg:pB c b=t:=by unfold pB;rw [P]
 refine ar (.op (.cons (.loc rfl) (.cons (.op (.cons (.loc rfl) (.cons (.loc rfl) .nil)) (jP (cy S.cT) (br S.cT) P)) .nil)) (aF rfl)) rfl ?_;generalize hh:J9 s.h t=m;delta m
 have R:J9 s.h (pB c b)=m:=by rw [hg];exact hh
 have G:∀(g:List (Int×V)) (e:Sg),e.n=σ₀.n+5->(∀x,x≠σ₀.n+3->e.cell x=σ.cell x)->e.cell (σ₀.n+3)=.dict g->g=(bL b s c).kn->(∃j,lookI m g=Gu (.int j))->(∀k v,lookI k g=Gu v->∃j,v=.int j)->g.length<=1000->
   wpSs tab C (.expr (.app (.op (.attr 12) [.loc 0]) (.loc 8))::.expr (.app (.op (.attr 13) [.loc 0]) (.op .idx [.loc 6,.loc 7]))::l) [Gu (.ref i),Gu (.ref p),Gu (.ref σ₀.n),F,r,y,Gu (.ref (σ₀.n+3)),Gu (.int m),Gu (.int c),Gw,Gw,Gw,Gw] K X e:=fun g e T A k1 I ⟨j,U⟩ kj kl=>by
  have W:=(A i ((l2 30857686647046) hi)).trans S.ci
  have Y:=(A (σ₀.n+1) (l1 0x9d738071806)).trans S.cB
  refine aD (Ev.app (.op (.cons (.loc rfl) .nil) (a7 W rfl)) (aM Y) (.loc rfl) (bI Y ((l2 0x9d758101c07181) T) (GC S.lb (by decide))) _ _ ?_)
  generalize o:e.set (σ₀.n+1) _=f
  have B:∀x,x≠σ₀.n+1->f.cell x=e.cell x:=fun x n=>by rw [<-o];exact af n
  have b2:f.cell (σ₀.n+1)=.list (s.bs++[.int c]):=by rw [<-o];exact am
  have n2:f.n=σ₀.n+5:=by rw [<-o];exact T
  have c2:=(B i ((l2 30857686515974) hi)).trans W
  have m2:=(B (σ₀.n+2) (l1 2023332718598)).trans ((A (σ₀.n+2) (l1 0x9d738072806)).trans S.cN)
  have J:=(B (σ₀.n+3) (l1 2023332722694)).trans k1
  refine aD (Ev.app (.op (.cons (.loc rfl) .nil) (a7 c2 rfl)) (aM m2) (.op (.cons (.loc rfl) (.cons (.loc rfl) .nil)) (jP (cy J) (br J) U)) (bI m2 ((l2 0x9d758101c07281) n2) (GC S.ln (by decide))) _ _ ?_)
  have es:(bL b s c)=⟨m,g,s.bs++[.int c],s.ns++[.int j]⟩:=by
   have M:(bL b s c).h=m:=R
   have e3:(bL b s c).bs=s.bs++[.int c]:=rfl
   have N:(bL b s c).ns=s.ns++[(lookI m (bL b s c).kn).getD .none]:=by rw [<-M];rfl
   rw [<-I,U] at N;generalize bL b s c=z at *;cases z;simp only at M e3 N I;rw [M, <-I,e3,N];rfl
  have D:∀x,x≠σ₀.n+2->(f.set (σ₀.n+2) (.list (s.ns++[.int j]))).cell x=f.cell x:=fun x n=>af n
  have q':=q (f.set (σ₀.n+2) (.list (s.ns++[.int j])))
  rw [es] at q';refine q' ⟨n2,fun x n O=>?_,(D _ ((l2 30857686581510) hi)).trans c2,?_,(D _ (l1 0x9d728071806)).trans b2,am,(D _ (l1 2023601158150)).trans J,?_,?_,?_,kl,kj⟩
  ·rw [D x ((l2 30857686581510) n),B x ((l2 30857686515974) n),A x ((l2 30857686647046) n)];exact S.old x n O
  ·rw [D _ (by exact(l1 2641526790)),B _ (by exact(l1 2641461254)),A _ (by exact(l1 2641592326))];exact S.cT
  ·rw [D _ (by exact(l1 2023601162246)),B _ (by exact(l1 2023332726790)),A _ (by exact(l1 2023869597702))];exact S.cL
  ·simp only [GG,HF,JB];exact(l1 0x1c89e93801b89e9387718080) hb
  ·simp only [GG,HF,JB];exact(l1 0x1c89e93801b89e9387718080) hn
 have kd:(bL b s c).kn=if(lookI m s.kn).isSome then s.kn else putI m (.int s.kn.length) s.kn:=by rw [<-R];rfl
 cases E:lookI m s.kn with
 |some v=>
  obtain⟨j,rfl⟩:=S.kn _ _ E;refine aq (t:=Gz) (.of (v:=.bool (!(lookI m s.kn).isSome)) (.op (.cons (.loc rfl) (.cons (.loc rfl) .nil)) (fF (br S.cK))) (by rw [E];rfl) rfl) (ak ?_)
  exact G s.kn σ H (fun Z Z=>rfl) S.cK (by rw [kd,E];rfl) ⟨j,E⟩ S.kn S.lk
 |none=>
  refine aq (t:=Gx) (.of (v:=.bool (!(lookI m s.kn).isSome)) (.op (.cons (.loc rfl) (.cons (.loc rfl) .nil)) (fF (br S.cK))) (by rw [E];rfl) rfl) ?_
  refine bT (.op (.cons (.loc rfl) .nil) (uF (cy S.cK) (br S.cK) (GC S.lk (by decide)))) (.loc rfl) (.loc rfl) (cw S.cK ((l2 0x9d758101c07381) H) (GC S.lk (by decide))) (ak ?_)
  exact G _ _ H (fun x n=>af n) am (by rw [kd,E];rfl) ⟨_,og _ _ _⟩ (A1 S.kn) (GC (put_len _ _ _) hk)
end
noncomputable def kvsAt:Nat->List (Int×V)
 |0=>[(0,.int 0)]
 |k+1=>o7 k ((97+k:Nat)+1) (o7 k (97+k:Nat) (kvsAt k))
noncomputable def codes:List Int:=[0,97,98,99]
theorem vL:(kvsAt 2).map (fun(x:Int×V)=>x.1)=codes:=by decide+kernel
theorem vP:iD ((kvsAt 2).map fun(x:Int×V)=>x.1)=codes:=by
 rw [vL];exact(lp (List.Perm.refl codes) (by decide)).symm
theorem sP:codes.foldl (bL (kvsAt 2)) ⟨0,[],[],[]⟩=⟨0,[(0,.int 0),(1,.int 1),(2,.int 2)],[.int 0,.int 97,.int 98,.int 99],[.int 0,.int 1,.int 2,.int 0]⟩:=by rfl
section
variable {u:U} {d:Nat} {Q:V->Sg->Prop} {X:Sg->Prop} {σ:Sg}
inductive TurnI (σ₀:Sg) (i p:Nat):List V->List (Option V)->Sg->Prop where
 |mk (k:Nat) (y3 y4 y5:Option V) (σ:Sg) (hk:k<=2) (E:aZ σ₀ σ) (hn:σ.n=σ₀.n+1) (hc:σ.cell σ₀.n=.dict (kvsAt k)):
  TurnI σ₀ i p ((a6 2).drop k) [Gu (.ref i),Gu (.ref p),Gu (.ref σ₀.n),y3,y4,y5,Gw,Gw,Gw,Gw,Gw,Gw,Gw] σ
inductive CodeI (σ₀:Sg) (i p:Nat):List V->List (Option V)->Sg->Prop where
 |mk (xs ys:List Int) (y3 y4 y5 y8:Option V) (σ:Sg) (e:codes=xs++ys) (S:q0 σ₀ i (kvsAt 2) (codes.map .int) (xs.foldl (bL (kvsAt 2)) ⟨0,[],[],[]⟩) σ):
  CodeI σ₀ i p (ys.map .int) [Gu (.ref i),Gu (.ref p),Gu (.ref σ₀.n),y3,y4,y5,Gu (.ref (σ₀.n+3)),Gu (.int (xs.foldl (bL (kvsAt 2)) ⟨0,[],[],[]⟩).h),y8,Gw,Gw,Gw,Gw] σ
theorem sZ (e:List (Int×V)) (xs:List Int):∀(s:De),(xs.foldl (bL e) s).bs.length=s.bs.length+xs.length/\(xs.foldl (bL e) s).ns.length=s.ns.length+xs.length/\(xs.foldl (bL e) s).kn.length<=s.kn.length+xs.length:=by
 induction xs with
 |nil=>
  intro s;exact⟨rfl,rfl,GP _⟩
 |cons x xs f=>
  intro s;obtain⟨a,b,c⟩:=f (bL e s x)
  have g:(bL e s x).bs.length=s.bs.length+1:=by unfold bL;simp
  have i:(bL e s x).ns.length=s.ns.length+1:=by unfold bL;simp
  have j:(bL e s x).kn.length<=s.kn.length+1:=by
   unfold bL;simp only
   split
   ·exact Hn _
   ·exact put_len _ _ _
  simp only [Jz,HF];exact⟨(l4 0x1d72301d718131d7718210) a g,(l4 0x1d72301d718131d7718210) b i,(l4 0x1b72301b718131b7718210) c j⟩
theorem sY (F:bg u) {i p:Nat} (hi:i<σ.n) (b':σ.cell i=.inst 570 []) (hp:p<σ.n) (d':p≠i) (P:σ.cell p=.list [g9 97,g9 98])
  (R:∀σ',σ.n<=σ'.n->(∀x,x<σ.n->x≠i->σ'.cell x=σ.cell x)->σ.n+2<σ'.n->σ'.cell i=.inst 570 [(12,.ref (σ.n+1)),(13,.ref (σ.n+2)),(7,.int 3)]->σ'.cell (σ.n+1)=.list [.int 0,.int 97,.int 98,.int 99]->σ'.cell (σ.n+2)=.list [.int 0,.int 1,.int 2,.int 0]->Q .none σ'):
  ae u (d+1) 512 [.ref i,.ref p] Q X σ:=by
 revert i p;delta u d Q X σ;delta i p;refine F.call 512 _ rfl d _ Q X σ rfl ?_;refine ar (BC (fun Z=>.const) fun Z=>.const) rfl ?_;refine dJ (Ev.op (.cons (.loc rfl) .nil) (d7 (aA ((au hp).trans P)) (Gv rfl)) _ _ ?_);refine cM (n:=2) (TurnI σ i p) (by decide) (by decide) (.mk 0 Gw Gw Gw _ (by decide) (.alloc _ _) rfl ah) (fun v r I σ' K' h hK Z=>?_) (fun I σ' h=>?_)
 ·delta v r I σ' K';generalize l:v::r=z at h;delta z
  cases h with
  |mk k y3 y4 y5 _ hk E q m=>
   delta k y3 y4 y5;obtain⟨⟨rfl,e'⟩,hr⟩:=dH l
   have cp:=(E.cell p hp).trans P
   have hT:σ.n<σ'.n:=(l2 0x9d718101c01) q
   have o:k=0\/k=1:=by lia
   obtain⟨c,s⟩:∃c:Int,c=(97+k:Nat):=⟨_,rfl⟩;delta c
   have T:([g9 97,g9 98]:List V)[k]? =Gu (g9 c):=by subst s;rcases o with rfl|rfl<;>rfl
   have U:GL (c<127)=Gx:=decide_eq_true (by lia)
   have ek:kvsAt (k+1)=o7 k (c+1) (o7 k c (kvsAt k)):=by subst s;rfl
   have l1:(kvsAt k).length<=1000:=by rcases o with rfl|rfl<;>exact Gv rfl
   have l2:(o7 k c (kvsAt k)).length<=1000:=GC (put_len _ _ _) (by rcases o with rfl|rfl<;>exact Gv rfl)
   have f1:lookI c (kvsAt k)=Gw\/∃j,lookI c (kvsAt k)=Gu (.int j):=by subst s;rcases o with rfl|rfl;exact .inl rfl;exact .inr ⟨_,rfl⟩
   have f2:lookI (c+1) (o7 k c (kvsAt k))=Gw\/∃j,lookI (c+1) (o7 k c (kvsAt k))=Gu (.int j):=by subst s;rcases o with rfl|rfl<;>exact .inl rfl
   refine pt (v:=.tup [.tup [.int c,.int c]]) (x:=.tup [.int c,.int c]) (.op (.cons (.op (.cons (.loc rfl) (.cons (.loc rfl) .nil)) (bC (aA cp) (Gv rfl) (cX T))) .nil) (bH rfl rfl)) rfl trivial rfl fun K2 c'=>?_;refine wc (p:=k) (k:=c) (fun Z=>.loc rfl) rfl rfl m hT (by lia) l1 f1 ?_
   refine aq (t:=Gx) (.of (v:=.bool (GL (c<127))) (.op (.cons (.loc rfl) (.cons .const .nil)) rfl) (congrArg Gu U) rfl) ?_;refine wc (p:=k) (k:=c+1) (fun Z=>.op (.cons (.loc rfl) (.cons .const .nil)) (aF rfl)) rfl rfl am hT (by lia) l2 f2 ?_
   refine ak (bm (c' _ _ trivial (ak ?_)));rw [hr] at hK;exact(hK _ _ (.mk (k+1) _ _ _ _ (by lia) ((E.set (GP _)).set (GP _)) q (by rw [ek];exact am))).1
 ·delta I σ';generalize l:([]:List V)=z at h;delta z
  cases h with
  |mk k y3 y4 y5 _ hk E q m=>
   delta k y3 y4 y5
   have u1:=fZ l
   obtain rfl:k=2:=by have u2:(2:Int).toNat=2:=rfl;lia
   have ci:=(E.cell i hi).trans b'
   refine aG (.op .nil (bP (G7 _))) (.loc rfl) (aS ((au ((l3 0x1c109d718121c20) hi q)).trans ci) (by show i<σ'.n+1;exact(l3 0x1c109d718121c71820) hi q) (Gv rfl) rfl) ?_
   generalize A:(σ'.alloc (.list [])).set i _=B;delta B
   have N:B.n=σ.n+2:=by rw [<-A];show σ'.n+1=_;exact(l2 0x1d718101d72817180) q
   have o1:∀x,x<σ.n+1->x≠i->B.cell x=σ'.cell x:=fun x f g=>by rw [<-A,af g,au (by exact(l3 30857680264224) f q)]
   have i1:B.cell i=.inst 570 [(12,.ref (σ.n+1))]:=by rw [<-A, <-q];exact am
   have b1:B.cell (σ.n+1)=.list []:=by rw [<-A,af (by exact(l2 30855532058646) hi), <-q];exact ah
   refine aG (.op .nil (bP (G7 _))) (.loc rfl) (aS ((au ((l3 0x1c109d728121c20) hi N)).trans i1) (by show i<B.n+1;exact(l3 0x1c109d728121c71820) hi N) (Gv rfl) rfl) ?_
   generalize C:(B.alloc (.list [])).set i _=D;delta D
   have n2:D.n=σ.n+3:=by rw [<-C];show B.n+1=_;exact(l2 0x1d728101d73817180) N
   have o2:∀x,x<σ.n+2->x≠i->D.cell x=B.cell x:=fun x f g=>by rw [<-C,af g,au (by exact(l3 30857680264224) f N)]
   have i2:D.cell i=.inst 570 [(12,.ref (σ.n+1)),(13,.ref (σ.n+2))]:=by rw [<-C, <-N];exact am
   have m2:D.cell (σ.n+2)=.list []:=by rw [<-C,af (by exact(l2 30855532062742) hi), <-N];exact ah
   refine ar (v:=.ref (σ.n+3)) (σ₁:=D.alloc (.dict [])) (by rw [<-n2];exact .op .nil rfl) rfl ?_
   refine ar .const rfl ?_;generalize J:D.alloc (.dict [])=G;delta G
   have n3:G.n=σ.n+4:=by rw [<-J];show D.n+1=_;exact(l2 0x1d738101d74817180) n2
   have W:∀x,x<σ.n+3->G.cell x=D.cell x:=fun x f=>by rw [<-J,au (by exact(l3 30857680264224) f n2)]
   have k3:G.cell (σ.n+3)=.dict []:=by rw [<-J, <-n2];exact ah
   have t3:G.cell σ.n=.dict (kvsAt 2):=(W _ (l1 29833216)).trans ((o2 _ (l1 29829120) ((l2 7533088790) hi)).trans ((o1 _ (l1 29825024) ((l2 7533088790) hi)).trans m))
   have K:(iD ((kvsAt 2).map fun(x:Int×V)=>x.1))=codes:=vP
   refine bK (Ev.op (.cons (.loc rfl) .nil) (r9 t3 (Gv rfl)) _ _ ?_);rw [K,n3];generalize L:G.alloc (.list (codes.map .int))=Y;delta Y
   have n4:Y.n=σ.n+5:=by rw [<-L];show G.n+1=_;exact(l2 0x1d748101d75817180) n3
   have O:∀x,x<σ.n+4->Y.cell x=G.cell x:=fun x f=>by rw [<-L,au (by exact(l3 30857680264224) f n3)]
   have l4:Y.cell (σ.n+4)=.list (codes.map .int):=by rw [<-L, <-n3];exact ah
   have S0:q0 σ i (kvsAt 2) (codes.map .int) ⟨0,[],[],[]⟩ Y:=
    ⟨n4,fun x f g=>by rw [O _ (by exact(l2 1928470153232) f),W _ (by exact(l2 1928470149136) f),o2 _ (by exact(l2 1928470145040) f) g,o1 _ (by exact(l2 1928470140944) f) g];exact E.cell x f,by rw [O _ (by exact(l2 1928470153232) hi),W _ (by exact(l2 1928470149136) hi)];exact i2,(O _ (by exact(l1 29837312))).trans t3,
     by rw [O _ (by exact(l1 122213659008)),W _ (by exact(l1 122196881792)),o2 _ (by exact(l1 122180104576)) (by exact(l2 30855532058646) hi)];exact b1,by rw [O _ (by exact(l1 122213659264)),W _ (by exact(l1 122196882048))];exact m2,(O _ (by exact(l1 122213659520))).trans k3,l4,G7 _,G7 _,G7 _,fun k v h=>by cases h⟩
   refine bG (CodeI σ i p) (aA l4) (.mk [] codes _ _ _ _ _ rfl S0) (fun r I b h=>by cases h with|mk _ _ _ _ _ _ _ _ S=>exact⟨by have u3:=S.n;exact(l2 0x9d758101c07481) u3,S.cL⟩) (fun v r I b K' h hK Z=>?_) (fun I b h=>?_)
   ·delta v r I b K';generalize l:v::r=z at h;injections z;intro l h
    cases h with
    |mk xs H z3 z4 z5 z8 _ e S=>
     injections xs H z3 z4 z5 z8;intro e l S
     cases H with
     |nil=>cases l
     |cons c H=>
      injections c H;intro e l;cases l
      have hl:=sZ (kvsAt 2) xs ⟨0,[],[],[]⟩
      have f:xs.length<=4:=by have u4:=congrArg Jh e;simp only [GG] at u4;have u5:codes.length=4:=rfl;exact(l3 0x1d4819d72011b480) u5 u4
      have m:c∈codes:=by rw [e];simp
      have ht:∃t,lookI c (kvsAt 2)=Gu (.int t):=by
       rcases GK.mp m with rfl|m
       ·exact⟨_,rfl⟩
       ·rcases GK.mp m with rfl|m
        ·exact⟨_,rfl⟩
        ·rcases GK.mp m with rfl|m
         ·exact⟨_,rfl⟩
         ·rw [GI.mp m];exact⟨_,rfl⟩
      obtain⟨t,ht⟩:=ht;simp only [JB] at hl;refine⟨_,rfl,tw (p:=p) S hi ht ((l2 0x1d710801b4811c89e9380) hl.1 f) ((l2 0x1d710801b4811c89e9380) hl.2.1 f) ((l2 0x1b710801b4811c89e9380) hl.2.2 f) fun M S'=>ak (hK _ _ ?_).1⟩
      have u6:=CodeI.mk (σ₀:=σ) (i:=i) (p:=p) (xs++[c]) H z3 z4 z5 (Gu (.int c)) M (by rw [e,GO];rfl) (by rw [HV];exact S')
      rw [HV] at u6;exact u6
   ·generalize l:([]:List V)=z at h
    cases h with
    |mk xs H z3 z4 z5 z8 _ e S=>
     cases H with
     |cons y H=>cases l
     |nil=>
      rw [G1] at e;subst e
      have hN:=S.n
      rw [sP] at S;refine aG (.op (.cons (.loc rfl) .nil) (uF (cy S.cK) (br S.cK) (GC S.lk (by decide)))) (.loc rfl) (aS S.ci ((l3 0x1c109d758121c20) hi hN) (Gv rfl) rfl) (ak (R _ (by show σ.n<=b.n;exact(l2 0x9d758101b01) hN) (fun x f g=>(af g).trans (S.old x f g)) (by show σ.n+2<b.n;exact(l2 0x9d758101c07281) hN) am ((af ((l2 30855532058646) hi)).trans S.cB) ((af ((l2 30855532062742) hi)).trans S.cN)))
end
noncomputable def kA:List V:=[.int 0,.int 97,.int 98,.int 99]
noncomputable def xc:List V:=[.int 0,.int 1,.int 2,.int 0]
noncomputable def bE:V:=.obj 570 [12,13,7] [.lst kA,.lst xc,.int 3]
section
variable {u:U} {d:Nat} {Q:V->Sg->Prop} {X:Sg->Prop} {σ:Sg} {C:aC} {K:cU} {l:List S}
structure F1 (k:Nat) (low high:Int) (n:Nat):Prop where
 low:kA[k]? =Gu (.int low)
 num:xc[k]? =Gu (.int n)
 high:((k:Int)+1<4/\kA[k+1]? =Gu (.int (high+1)))\/(¬((k:Int)+1<4)/\high=127)
 n9:n<=9
noncomputable def gy (c w b pl:Int) (y6 y7 y8:Option V):List (Option V):=[Gu bE,Gu (g9 c),Gu (.int w),Gu (.int b),Gu (.tup [.tup [.int c,.int c]]),Gu (.int pl),y6,y7,y8,Gw,Gw,Gw,Gw]
theorem lI {k:Nat} {c w b pl:Int} {y6 y7 y8:Option V} (a:Nat) (v:V) (e:eF tab 570 a [(12,.lst kA),(13,.lst xc),(7,.int 3)]=Gu v):Ev C (gy c w b pl y6 y7 y8) σ (.op (.attr a) [.loc 0]) v σ:=bN (.loc rfl) rfl e
theorem fI {c w b pl:Int} {y6 y7 y8:Option V} {j:Int} {v:V} (hp:pl=0) (e:Cp [.int c,.int c] j=Gu v):Ev C (gy c w b pl y6 y7 y8) σ (.op .idx [.op .idx [.loc 4,.loc 5],.const (.int j)]) v σ:=by
 subst hp;exact .op (.cons (.op (.cons (.loc rfl) (.cons (.loc rfl) .nil)) (bC rfl (Gv rfl) rfl)) (.cons .const .nil)) (bC rfl (Gv rfl) e)
theorem kh {c w b pl:Int} {y6 y7 y8:Option V} {t:Bool} (h:GL (pl<1)=t):d8 C (gy c w b pl y6 y7 y8) σ (.op (.rel .lt) [.loc 5,.op .len [.loc 4]]) t σ:=
 .of (v:=.bool (GL (pl<1))) (.op (.cons (.loc rfl) (.cons (.op (.cons (.loc rfl) .nil) (d7 rfl (Gv rfl))) .nil)) rfl) (congrArg Gu h) rfl
theorem yY {n:Nat} (h:n<=9):aI tab (.bin .shl) [.int 1,.int n] σ=Gu (.int (2^n),σ):=by
 have:aI tab (.bin .shl) [.int 1,.int n] σ=Gu (.int (1 * 2^((n:Int)).toNat),σ):=aF (rV (Hc _) (by lia) (by decide))
 rw [Mc] at this;exact this
inductive MaskW (c w b low:Int) (y6 y7 y8:Option V) (σ₀:Sg):Nat->List (Option V)->Sg->Prop where
 |zero:MaskW c w b low y6 y7 y8 σ₀ 1 (gy c w b 0 y6 y7 y8) σ₀
 |one:MaskW c w b low y6 y7 y8 σ₀ 0 (gy c w b 1 y6 y7 y8) σ₀
noncomputable def uB:S->List S
 |.forR _ _ b=>b
 |_=>[]
theorem sE {k n:Nat} {c w b pl f e:Int} {y7 y8:Option V} (L:F1 k f e n) (B:pl=0\/pl=1) (g y A:Int) (E:g=if pl=0/\¬(c<f) then 0 else 1)
  (I:(g=0/\c<=e/\c=f/\c=e/\y=JQ w (2^n)/\A=b)\/(¬(g=0/\c<=e)/\y=w/\A=JQ b (2^n)))
  (q:wpSs tab C [] (gy c y A g (Gu (.int k)) (Gu (.int f)) (Gu (.int e))) K X σ):wpSs tab C (uB (zo.getD 4 .cont)) (gy c w b pl (Gu (.int k)) y7 y8) K X σ:=by
 revert k n c w b pl f e y7 y8 g y A;delta X σ C K;revert g y A;delta k n c w b pl f e y7 y8;delta g y A;refine ar (.op (.cons (lI (k:=0) 12 (.lst kA) rfl) (.cons (.loc rfl) .nil)) (bC rfl (Gv rfl) (cX L.low))) rfl (ar .const rfl ?_)
 have p:∀ {y6 y7 y8:Option V},Ev C (gy c w b pl y6 y7 y8) σ (.op .len [.op (.attr 12) [.loc 0]]) (.int 4) σ:=.op (.cons (lI (k:=0) 12 (.lst kA) rfl) .nil) (d7 (l:=kA) rfl (Gv rfl))
 have r:wpSs tab C ((uB (zo.getD 4 .cont)).drop 3) (gy c w b pl (Gu (.int k)) (Gu (.int f)) (Gu (.int e))) K X σ:=by
  have j:wpSs tab C ((uB (zo.getD 4 .cont)).drop 4) (gy c w b g (Gu (.int k)) (Gu (.int f)) (Gu (.int e))) K X σ:=by
   have F:∀ {a:Int} {y6 y7 y8:Option V} {i:Nat} {w b:Int},(gy c w b g (Gu (.int k)) y7 y8)[i]? =Gu (Gu (.int a))->Ev C (gy c w b g (Gu (.int k)) y7 y8) σ (.op (.bin .bor) [.loc i,.op (.bin .shl) [.const (.int 1),.op .idx [.op (.attr 13) [.loc 0],.loc 6]]]) (.int (JQ a (2^n))) σ:=fun h=>
    .op (.cons (.loc h) (.cons (.op (.cons .const (.cons (.op (.cons (lI (k:=0) 13 (.lst xc) rfl) (.cons (.loc rfl) .nil)) (bC rfl (Gv rfl) (cX L.num))) .nil)) (yY L.n9)) .nil)) (aF rfl)
   rcases I with ⟨o,D,M,N,rfl,rfl⟩ |⟨o,rfl,rfl⟩
   ·refine aq (t:=Gx) (.andT (kh (t:=Gx) (decide_eq_true (by lia))) (.of (v:=.bool (GL (c<=e))) (.op (.cons (fI o rfl) (.cons (.loc rfl) .nil)) rfl) (congrArg Gu (decide_eq_true D)) rfl)) ?_
    refine aq (t:=Gz) (.orF (.of (v:=.bool (GL (c>f))) (.op (.cons (fI o rfl) (.cons (.loc rfl) .nil)) rfl) (congrArg Gu (decide_eq_false (by lia))) rfl) (.of (v:=.bool (GL (c<e))) (.op (.cons (fI o rfl) (.cons (.loc rfl) .nil)) rfl) (congrArg Gu (decide_eq_false (by lia))) rfl)) (ak ?_)
    exact ar (F (y6:=Gw) rfl) rfl (ak q)
   ·by_cases z:g=0
    ·refine aq (t:=Gz) (.andT (kh (t:=Gx) (decide_eq_true (by lia))) (.of (v:=.bool (GL (c<=e))) (.op (.cons (fI z rfl) (.cons (.loc rfl) .nil)) rfl) (congrArg Gu (decide_eq_false fun h=>o ⟨z,h⟩)) rfl)) ?_
     exact ar (F (y6:=Gw) rfl) rfl (ak q)
    ·refine aq (t:=Gz) (.andF (kh (t:=Gz) (decide_eq_false (by split at E<;>lia)))) ?_
     exact ar (F (y6:=Gw) rfl) rfl (ak q)
  by_cases z:pl=0/\c<f
  ·obtain⟨rfl,z⟩:=z;rw [if_neg (fun h=>h.2 z)] at E;subst E;refine eQ (MaskW c w b f (Gu (.int k)) (Gu (.int f)) (Gu (.int e)) σ) .zero fun m G s h=>?_
   cases h with
   |zero=>
    refine⟨Gx,_,.andT (kh (t:=Gx) rfl) (.of (v:=.bool (GL (c<f))) (.op (.cons (fI rfl rfl) (.cons (.loc rfl) .nil)) rfl) (congrArg Gu (decide_eq_true z)) rfl),fun h=>(by cases h),fun Z O J Z=>?_⟩
    exact ar (.op (.cons (.loc rfl) (.cons .const .nil)) (aF rfl)) rfl (ak (J _ _ _ (GA 0) .one).1)
   |one=>exact⟨Gz,_,.andF (kh (t:=Gz) rfl),fun Z=>j,fun h=>(by cases h)⟩
  ·have H:g=pl:=by
    rw [E];rcases B with rfl|rfl
    ·rw [if_pos ⟨rfl,fun h=>z ⟨rfl,h⟩⟩]
    ·rw [if_neg (fun h=>by cases h.1)]
   rw [H] at j;refine eQ (fun m G s=>G=gy c w b pl (Gu (.int k)) (Gu (.int f)) (Gu (.int e))/\s=σ) (n:=0) ⟨rfl,rfl⟩ fun m G s h=>?_;obtain⟨rfl,rfl⟩:=h;refine⟨Gz,_,?_,fun Z=>j,fun h=>(by cases h)⟩
   rcases B with rfl|rfl
   ·exact .andT (kh (t:=Gx) rfl) (.of (v:=.bool (GL (c<f))) (.op (.cons (fI rfl rfl) (.cons (.loc rfl) .nil)) rfl) (congrArg Gu (decide_eq_false fun h=>z ⟨rfl,h⟩)) rfl)
   ·exact .andF (kh (t:=Gz) rfl)
 rcases L.high with ⟨o,D⟩ |⟨o,D⟩
 ·refine aq (t:=Gx) (.of (v:=.bool (GL ((k:Int)+1<4))) (.op (.cons (.op (.cons (.loc rfl) (.cons .const .nil)) (aF rfl)) (.cons p .nil)) rfl) (congrArg Gu (decide_eq_true o)) rfl) ?_;refine ar (v:=.int (e+1 - 1)) (.op (.cons (.op (.cons (lI (k:=0) 12 (.lst kA) rfl) (.cons (.op (.cons (.loc rfl) (.cons .const .nil)) (aF rfl)) .nil)) (bC rfl (Gv rfl) (cX (k:=k+1) D))) (.cons .const .nil)) (aF rfl)) rfl (ak ?_);rw [Int.add_sub_cancel];exact r
 ·subst D;refine aq (t:=Gz) (.of (v:=.bool (GL ((k:Int)+1<4))) (.op (.cons (.op (.cons (.loc rfl) (.cons .const .nil)) (aF rfl)) (.cons p .nil)) rfl) (congrArg Gu (decide_eq_false o)) rfl) (ak r)
end
noncomputable def xM:Bool->Int
 |false=>97
 |true=>98
noncomputable def de:Bool->Int
 |false=>2
 |true=>4
structure Gb where
 w:Int
 b:Int
 p:Int
noncomputable def mt:Bool->Nat->Gb
 |_,0=>⟨0,0,0⟩
 |_,1=>⟨0,1,0⟩
 |false,2=>⟨2,1,0⟩
 |false,_=>⟨2,5,1⟩
 |true,2=>⟨0,3,0⟩
 |true,3=>⟨4,3,0⟩
 |true,_=>⟨4,3,1⟩
section
variable {u:U} {d:Nat} {Q:V->Sg->Prop} {X:Sg->Prop} {σ:Sg}
inductive MaskI (x:Bool) (σ₀:Sg):List V->List (Option V)->Sg->Prop where
 |mk (k:Nat) (y6 y7 y8:Option V) (hk:k<=4):MaskI x σ₀ ((a6 4).drop k) (gy (xM x) (mt x k).w (mt x k).b (mt x k).p y6 y7 y8) σ₀
theorem vf (F:bg u) (x:Bool) (f:Q (.int (de x)) σ):ae u (d+1) 536 [bE,g9 (xM x)] Q X σ:=by
 revert x;delta u d Q X σ;delta x;refine F.call 536 _ rfl d _ Q X σ rfl ?_;refine ar .const rfl (ar .const rfl (ar (bN (.loc rfl) rfl rfl) rfl (ar .const rfl ?_)));refine dJ (Ev.op (.cons (bN (v:=.lst kA) (.loc rfl) rfl rfl) .nil) (d7 (l:=kA) rfl (Gv rfl)) _ _ ?_);refine cM (n:=4) (MaskI x σ) (by decide) (by decide) (.mk 0 Gw Gw Gw (by decide)) (fun v r o g p h s Z=>?_) (fun o g h=>?_)
 ·delta v r o g p;generalize j:v::r=z at h;delta z
  cases h with
  |mk k q y7 y8 y=>
   delta k q y7 y8;obtain⟨⟨rfl,A⟩,B⟩:=dH j;subst B
   have e:=fun n m i (L:F1 k m i n) D E G=>sE (C:=ae u d) (K:=p) (X:=X) (σ:=σ) (c:=xM x) (w:=(mt x k).w) (b:=(mt x k).b) (y7:=y7) (y8:=y8) L (pl:=(mt x k).p) D (mt x (k+1)).p (mt x (k+1)).w (mt x (k+1)).b E G (ak (s _ _ (.mk (k+1) _ _ _ (by lia))).1)
   have H:k=0\/k=1\/k=2\/k=3:=by lia
   rcases H with rfl|rfl|rfl|rfl<;>cases x
   ·exact e 0 0 96 ⟨rfl,rfl,.inl ⟨by decide,rfl⟩,by decide⟩ (by decide) (by decide) (by decide)
   ·exact e 0 0 96 ⟨rfl,rfl,.inl ⟨by decide,rfl⟩,by decide⟩ (by decide) (by decide) (by decide)
   ·exact e 1 97 97 ⟨rfl,rfl,.inl ⟨by decide,rfl⟩,by decide⟩ (by decide) (by decide) (by decide)
   ·exact e 1 97 97 ⟨rfl,rfl,.inl ⟨by decide,rfl⟩,by decide⟩ (by decide) (by decide) (by decide)
   ·exact e 2 98 98 ⟨rfl,rfl,.inl ⟨by decide,rfl⟩,by decide⟩ (by decide) (by decide) (by decide)
   ·exact e 2 98 98 ⟨rfl,rfl,.inl ⟨by decide,rfl⟩,by decide⟩ (by decide) (by decide) (by decide)
   ·exact e 0 99 127 ⟨rfl,rfl,.inr ⟨by decide,rfl⟩,by decide⟩ (by decide) (by decide) (by decide)
   ·exact e 0 99 127 ⟨rfl,rfl,.inr ⟨by decide,rfl⟩,by decide⟩ (by decide) (by decide) (by decide)
 ·generalize j:([]:List V)=z at h
  cases h with
  |mk k q y7 y8 y=>
   have J:=fZ j
   obtain rfl:k=4:=by have M:(4:Int).toNat=4:=rfl;lia
   have I:I7 (mt x 4).w (mt x 4).b=0:=by cases x<;>decide
   refine aq (t:=Gz) (.of (v:=.int (I7 (mt x 4).w (mt x 4).b)) (.op (.cons (.loc rfl) (.cons (.loc rfl) .nil)) (aF rfl)) (by rw [I];rfl) rfl) (ak (ax (Ev.loc rfl _ _ ?_)))
   cases x<;>exact f
end
theorem qE (n:Nat):∀(l:List Nat),l.Nodup->(∀x∈l,x<n)->l.length<=n:=by
 induction n with
 |zero=>
  intro l _ h
  cases l with
  |nil=>exact GP _
  |cons x l=>exact absurd (h x (.head _)) (Mr _)
 |succ n d=>
  intro l c h
  by_cases m:n∈l
  ·have f:=d (l.erase n) (c.erase n) fun x b=>by
    have:=(c.mem_erase_iff).mp b
    exact H8 (LL (h x this.2)) this.1
   rw [MZ m] at f;exact(l3 0x1b121b718201b71810) f (w5 _ _)
  ·exact LJ (d l c fun x b=>H8 (LL (h x b)) fun e=>m (e▸b))
structure NF where
 mv:List (List (Int×Int))
 hp:List (List Nat)
noncomputable def NF.n (N:NF):Nat:=N.mv.length
noncomputable def NF.add (N:NF):NF:=⟨N.mv++[[]],N.hp++[[]]⟩
noncomputable def NF.move (N:NF) (s:Nat) (k:Int) (g:Nat):NF:=⟨N.mv.modify s (· ++[(k,(g:Int))]),N.hp⟩
noncomputable def eh (g:Nat) (l:List Nat):List Nat:=if g∈l then l else l++[g]
noncomputable def NF.hop (N:NF) (s g:Nat):NF:=⟨N.mv,N.hp.modify s (eh g)⟩
structure NF.Ok (N:NF):Prop where
 len:N.hp.length=N.n
 nd:∀l∈N.hp,l.Nodup
 hp:∀l∈N.hp,∀g∈l,g<N.n
 mv:∀l∈N.mv,l=[]\/∃k g,l=[(k,((g:Nat):Int))]/\(k=2\/k=4)/\g<N.n
theorem NF.add_n (N:NF):N.add.n=N.n+1:=by unfold NF.add NF.n;simp
theorem NF.move_n (N:NF) (s:Nat) (k:Int) (g:Nat):(N.move s k g).n=N.n:=by unfold NF.move NF.n;simp
theorem NF.hop_n (N:NF) (s g:Nat):(N.hop s g).n=N.n:=rfl
theorem NF.Ok.add {N:NF} (h:N.Ok):N.add.Ok:=by
 delta N
 have c:=N.add_n
 refine⟨by rw [c, <-h.len];unfold NF.add;simp,fun l b=>?_,fun l b g d=>?_,fun l b=>?_⟩
 ·delta l;rcases GH.mp b with b|b
  ·exact h.nd l b
  ·rw [GI.mp b];exact .nil
 ·revert g;delta l;delta g;rcases GH.mp b with b|b
  ·rw [c];exact GF (h.hp l b g d)
  ·rw [GI.mp b] at d;cases d
 ·delta l;rcases GH.mp b with b|b
  ·rcases h.mv l b with h|⟨k,g,e,f,i⟩
   ·exact .inl h
   ·delta k g;exact .inr ⟨k,g,e,f,by rw [c];exact GF i⟩
  ·exact .inl (GI.mp b)
theorem f8 {b:Type} {f:b->b} {x:b}:∀ {s:Nat} {l:List b},x∈l.modify s f->x∈l\/∃y,l[s]? =Gu y/\x=f y:=fun{s l} h=>by
 obtain⟨i,c⟩:=II h;rw [Jj] at c;obtain⟨y,d,e⟩:=GY.mp c
 by_cases q:s=i
 ·subst q;simp only [if_true] at e;exact .inr ⟨y,d,e.symm⟩
 ·simp only [if_neg q] at e;exact .inl (e▸GN d)
theorem tX {g:Nat} {l:List Nat} (h:l.Nodup):(eh g l).Nodup:=by
 unfold eh
 split
 ·exact h
 ·rename_i q;exact Ja.mpr ⟨h,by simp,fun a c b d e=>q (by rw [GI.mp d] at e;exact e▸c)⟩
theorem lm {g x:Nat} {l:List Nat}:x∈eh g l↔x∈l\/x=g:=by
 unfold eh
 split
 ·rename_i q;exact⟨.inl,fun h=>h.elim id fun e=>e▸q⟩
 ·rw [GH,GI]
theorem NF.Ok.hop {N:NF} (h:N.Ok) {s g:Nat} (e:g<N.n):(N.hop s g).Ok:=by
 refine⟨by unfold NF.hop;simp only [NU];exact h.len,fun l b=>?_,fun l b x c=>?_,h.mv⟩
 ·rcases f8 b with b|⟨y,d,rfl⟩
  ·exact h.nd l b
  ·exact tX (h.nd y (GN d))
 ·rcases f8 b with b|⟨y,d,rfl⟩
  ·exact h.hp l b x c
  ·rcases lm.mp c with c|rfl
   ·exact h.hp y (GN d) x c
   ·exact e
theorem NF.Ok.move {N:NF} (h:N.Ok) {s g:Nat} {k:Int} (e:k=2\/k=4) (f:g<N.n) (i:N.mv[s]? =Gu []):(N.move s k g).Ok:=by
 have c:=N.move_n s k g
 refine⟨h.len.trans c.symm,h.nd,fun l b x j=>by rw [c];exact h.hp l b x j,fun l b=>?_⟩
 rcases f8 b with b|⟨y,d,rfl⟩
 ·rw [c];exact h.mv l b
 ·rw [i] at d;cases d;exact .inr ⟨k,g,rfl,e,by rw [c];exact f⟩
theorem NF.Ok.size {N:NF} (h:N.Ok) {l:List Nat} (b:l∈N.hp):l.length<=N.n:=qE _ _ (h.nd l b) (h.hp l b)
theorem NF.Ok.nil:NF.Ok ⟨[],[]⟩:=⟨rfl,fun Z h=>(nomatch h),fun Z h=>(nomatch h),fun Z h=>(nomatch h)⟩
noncomputable def sX (l:List (Int×Int)):List V:=l.map fun p=>.tup [.int p.1,.int p.2]
noncomputable def bw (l:List Nat):List V:=l.map fun(g:Nat)=>V.int g
structure FP where
 b:Nat
 c:Nat
 t:Nat
 bs:List Nat
 cs:List Nat
def FP.ft (p:FP) (a x:Nat):Prop:=x=a\/x=p.b\/x=p.c\/x=p.t\/x∈p.bs\/x∈p.cs
structure be (a:Nat) (m:Nat) (N:NF) (p:FP) (σ:Sg):Prop where
 ok:N.Ok
 nm:N.n<=m
 m1:m<=10000
 inst:σ.cell a=.inst 147 [(0,.int m),(1,.ref p.b),(2,.ref p.c),(3,.ref p.t),(4,.int 0)]
 cb:σ.cell p.b=.list (p.bs.map .ref)
 cc:σ.cell p.c=.list (p.cs.map .ref)
 ct:σ.cell p.t=.dict []
 lb:p.bs.length=N.n
 lc:p.cs.length=N.n
 cm:∀(i:Nat) x l,p.bs[i]? =Gu x->N.mv[i]? =Gu l->σ.cell x=.list (sX l)
 ch:∀(i:Nat) x l,p.cs[i]? =Gu x->N.hp[i]? =Gu l->σ.cell x=.list (bw l)
 nb:p.bs.Nodup
 nc:p.cs.Nodup
 dj:∀x∈p.bs,x∉p.cs
 fb:∀x∈p.bs,x≠a/\x≠p.b/\x≠p.c/\x≠p.t
 fc:∀x∈p.cs,x≠a/\x≠p.b/\x≠p.c/\x≠p.t
 ab:a≠p.b/\a≠p.c/\a≠p.t/\p.b≠p.c/\p.b≠p.t/\p.c≠p.t
 lt:∀x,p.ft a x->x<σ.n
structure aH (P:Nat->Prop) (σ:Sg) (P':Nat->Prop) (σ':Sg):Prop where
 n:σ.n<=σ'.n
 keep:∀x,x<σ.n->¬P x->σ'.cell x=σ.cell x
 foot:∀x,P' x->P x\/σ.n<=x
theorem aH.refl (P:Nat->Prop) (σ:Sg):aH P σ P σ:=⟨GP _,fun Z Z Z=>rfl,fun Z h=>.inl h⟩
theorem aH.trans {P f d:Nat->Prop} {σ σ' c:Sg} (a:aH P σ f σ') (b:aH f σ' d c):aH P σ d c:=
 ⟨GC a.n b.n,fun x e g=>(b.keep x (GQ e a.n) fun h=>(a.foot x h).elim g fun h=>absurd e (HQ.mpr h)).trans (a.keep x e g),fun x h=>(b.foot x h).elim (a.foot x) fun h=>.inr (GC a.n h)⟩
theorem aH.ext {P:Nat->Prop} {σ σ':Sg} (E:aZ σ σ'):aH P σ P σ':=⟨E.n,fun x b Z=>E.cell x b,fun Z h=>.inl h⟩
section
variable {u:U} {d:Nat} {Q:V->Sg->Prop} {X:Sg->Prop} {σ:Sg} {a m:Nat} {N:NF} {p:FP}
theorem be.keep (h:be a m N p σ) {σ':Sg} (c:σ.n<=σ'.n) (k:∀x,p.ft a x->σ'.cell x=σ.cell x):be a m N p σ':=
 ⟨h.ok,h.nm,h.m1,(k _ (.inl rfl)).trans h.inst,(k _ (.inr (.inl rfl))).trans h.cb,(k _ (.inr (.inr (.inl rfl)))).trans h.cc,(k _ (.inr (.inr (.inr (.inl rfl))))).trans h.ct,h.lb,h.lc,
  fun i x l e b=>(k x (.inr (.inr (.inr (.inr (.inl (GN e))))))).trans (h.cm i x l e b),fun i x l e b=>(k x (.inr (.inr (.inr (.inr (.inr (GN e))))))).trans (h.ch i x l e b),h.nb,h.nc,h.dj,h.fb,h.fc,h.ab,fun x f=>GQ (h.lt x f) c⟩
theorem be.ext (h:be a m N p σ) {σ':Sg} (E:aZ σ σ'):be a m N p σ':=h.keep E.n fun x b=>E.cell x (h.lt x b)
theorem be.la (h:be a m N p σ):a<σ.n:=h.lt _ (.inl rfl)
theorem be.lbb (h:be a m N p σ):p.b<σ.n:=h.lt _ (.inr (.inl rfl))
theorem be.lcc (h:be a m N p σ):p.c<σ.n:=h.lt _ (.inr (.inr (.inl rfl)))
theorem jg {x:Nat} {l:List Nat} (h:l.Nodup) (c:x∉l):(l++[x]).Nodup:=
 Ja.mpr ⟨h,by simp,fun a f b g e=>c (by rw [GI.mp g] at e;exact e▸f)⟩
theorem gJ {b:Type} {l:List b} {y x:b} {i:Nat} (h:(l++[y])[i]? =Gu x):(i<l.length/\l[i]? =Gu x)\/(i=l.length/\x=y):=by
 by_cases q:i<l.length
 ·rw [IE q] at h;exact .inl ⟨q,h⟩
 ·rw [Iz (HQ.mp q)] at h
  have:i - l.length=0:=by
   cases c:i - l.length with
   |zero=>rfl
   |succ k=>rw [c] at h;cases h
  rw [this] at h;cases h;exact .inr ⟨(l3 0x1d0829d07121d10) this (Ha (HO q)),rfl⟩
theorem be.grow (h:be a m N p σ) (D:N.n<m) {σ':Sg} (E:σ'.n=σ.n+2) (o:∀x,x<σ.n->x≠p.b->x≠p.c->σ'.cell x=σ.cell x) (F:σ'.cell p.b=.list (p.bs.map .ref++[.ref σ.n])) (G:σ'.cell p.c=.list (p.cs.map .ref++[.ref (σ.n+1)]))
  (H:σ'.cell σ.n=.list []) (I:σ'.cell (σ.n+1)=.list []):be a m N.add ⟨p.b,p.c,p.t,p.bs++[σ.n],p.cs++[σ.n+1]⟩ σ':=by
 revert σ';delta σ a m N p;delta σ'
 have t:=fun x b=>h.lt x (.inr (.inr (.inr (.inr (.inl b)))))
 have v:=fun x b=>h.lt x (.inr (.inr (.inr (.inr (.inr b)))))
 have y:=h.la
 have g:=h.lbb
 have j:=h.lcc
 have c:=h.lt p.t (.inr (.inr (.inr (.inl rfl))))
 have A:=N.add_n
 have s:=h.ok.len
 have B:σ.n∉p.bs:=fun z=>absurd (t _ z) (HD _)
 have C:σ.n+1∉p.cs:=fun z=>absurd (v _ z) (l1 32534912)
 refine⟨h.ok.add,by rw [A];exact D,h.m1,(o a y h.ab.1 h.ab.2.1).trans h.inst,by rw [F,G2];rfl,by rw [G,G2];rfl,(o _ c h.ab.2.2.2.2.1.symm h.ab.2.2.2.2.2.symm).trans h.ct,
  by rw [GG,h.lb,A];rfl,by rw [GG,h.lc,A];rfl,fun i x l e k=>?_,fun i x l e k=>?_,jg h.nb B,jg h.nc C,fun x b f=>?_,fun x b=>?_,fun x b=>?_,h.ab,fun x b=>?_⟩
 ·delta i x l;rcases gJ e with ⟨q,e⟩ |⟨q,rfl⟩<;>rcases gJ k with ⟨n,k⟩ |⟨n,rfl⟩
  ·have r:=GN e
   exact(o x (t x r) (h.fb x r).2.1 (h.fb x r).2.2.1).trans (h.cm i x l e k)
  ·rw [h.lb] at q;exact absurd n (G9 q)
  ·rw [h.lb] at q;exact absurd q (G9 n)
  ·exact H
 ·delta i x l;rcases gJ e with ⟨q,e⟩ |⟨q,rfl⟩<;>rcases gJ k with ⟨n,k⟩ |⟨n,rfl⟩
  ·have r:=GN e
   exact(o x (v x r) (h.fc x r).2.1 (h.fc x r).2.2.1).trans (h.ch i x l e k)
  ·rw [h.lc, <-s] at q;exact absurd n (G9 q)
  ·rw [h.lc, <-s] at q;exact absurd q (G9 n)
  ·exact I
 ·delta x;rcases GH.mp b with b|b<;>rcases GH.mp f with f|f
  ·exact h.dj x b f
  ·have:=t x b;rw [GI.mp f] at this;exact(l1 470226950) this
  ·have:=v x f;rw [GI.mp b] at this;exact(l1 114694) this
  ·rw [GI.mp b] at f;have:=GI.mp f;exact(l1 2641461254) this
 ·rcases GH.mp b with b|b
  ·exact h.fb x b
  ·rw [GI.mp b];exact⟨HK y,HK g,HK j,HK c⟩
 ·rcases GH.mp b with b|b
  ·exact h.fc x b
  ·rw [GI.mp b];exact⟨HK (GF y),HK (GF g),HK (GF j),HK (GF c)⟩
 ·delta x;rw [E];rcases b with b|b|b|b|b|b
  ·exact GF (GF (b▸y))
  ·exact GF (GF (b▸g))
  ·exact GF (GF (b▸j))
  ·exact GF (GF (b▸c))
  ·rcases GH.mp b with b|b
   ·exact GF (GF (t x b))
   ·rw [GI.mp b];exact GF (GA _)
  ·rcases GH.mp b with b|b
   ·exact GF (GF (v x b))
   ·rw [GI.mp b];exact GA _
theorem oW (F:bg u) (h:be a m N p σ) (o:N.n<m->∀B σ',be a m N.add B σ'->aH (p.ft a) σ (B.ft a) σ'->Q (.int N.n) σ') (z:m<=N.n->X σ):ae u (d+1) 102 [.ref a] Q X σ:=by
 delta u d Q X σ a m N p;refine F.call 102 _ rfl d _ Q X σ rfl ?_
 have D:(p.bs.map V.ref).length<=1000000:=by rw [GJ,h.lb];exact GC h.nm (GC h.m1 (by decide))
 have J:(p.cs.map V.ref).length<=1000000:=by rw [GJ,h.lc];exact GC h.nm (GC h.m1 (by decide))
 have A:∀ {C:aC},Ev C (dR 4 [0] [.ref a]) σ (.op (.attr 0) [.loc 0]) (.int m) σ:=.op (.cons (.loc rfl) .nil) (a7 h.inst rfl)
 have E:∀ {C:aC},Ev C (dR 4 [0] [.ref a]) σ (.op .len [.op (.attr 1) [.loc 0]]) (.int N.n) σ:=.op (.cons (.op (.cons (.loc rfl) .nil) (a7 h.inst rfl)) .nil) (by rw [<-h.lb, <-GJ (f:=V.ref)];exact d7 (aA h.cb) D)
 by_cases r:m<=N.n
 ·refine aq (t:=Gx) (.of (v:=.bool (GL ((N.n:Int) >=m))) (.op (.cons E (.cons A .nil)) rfl) (congrArg Gu (decide_eq_true (by lia))) rfl) ?_
  exact me A (Hc _) (by have:=h.m1;lia) (z r)
 ·refine aq (t:=Gz) (.of (v:=.bool (GL ((N.n:Int) >=m))) (.op (.cons E (.cons A .nil)) rfl) (congrArg Gu (decide_eq_false (by lia))) rfl) (ak ?_)
  have K:∀ {x},x<σ.n->(σ.alloc (.list [])).cell x=σ.cell x:=fun b=>au b
  refine aD (Ev.app (.op (.cons (.loc rfl) .nil) (a7 h.inst rfl)) (aM h.cb) (.op .nil (bP (G7 _))) (bI ((K h.lbb).trans h.cb) (GF h.lbb) D) _ _ ?_);generalize c:(σ.alloc (.list [])).set p.b _=g;delta g
  have l:g.n=σ.n+1:=by rw [<-c];rfl
  have s:∀x,x<σ.n->x≠p.b->g.cell x=σ.cell x:=fun x b j=>by rw [<-c,af j];exact au b
  have L:g.cell p.b=.list (p.bs.map .ref++[.ref σ.n]):=by rw [<-c];exact am
  have M:g.cell σ.n=.list []:=by rw [<-c,af (HK h.lbb)];exact ah
  have O:=(s a h.la h.ab.1).trans h.inst
  have G:=(s p.c h.lcc h.ab.2.2.2.1.symm).trans h.cc
  have k:p.c<g.n:=by rw [l];exact GF h.lcc
  refine aD (Ev.app (.op (.cons (.loc rfl) .nil) (a7 O rfl)) (aM G) (.op .nil (bP (G7 _))) (bI ((au k).trans G) (GF k) J) _ _ ?_);generalize i:(g.alloc (.list [])).set p.c _=n;delta n
  have H:n.n=σ.n+2:=by rw [<-i];show g.n+1=_;rw [l]
  have y:∀x,x<σ.n+1->x≠p.c->n.cell x=g.cell x:=fun x b j=>by rw [<-i,af j];exact au (l.symm▸b)
  have P:n.cell p.c=.list (p.cs.map .ref++[.ref (σ.n+1)]):=by rw [<-i, <-l];exact am
  have R:n.cell (σ.n+1)=.list []:=by rw [<-i,af (by rw [<-l];exact HK k), <-l];exact ah
  have q:=h.grow ((l2 504372225) r) H (fun x b S T=>(y x (GF b) T).trans (s x b S)) ((y _ (GF h.lbb) h.ab.2.2.2.1).trans L) P ((y _ (GA _) (HK h.lcc)).trans M) R
  have U:=q.inst
  have W:=q.cb
  refine ax (Ev.op (.cons (.op (.cons (.op (.cons (.loc rfl) .nil) (a7 U rfl)) .nil) (d7 (aA W) (by rw [GJ,q.lb,N.add_n];have:=h.m1;exact(l2 0x1b0919792801e101b09492949f87181) this r))) (.cons .const .nil)) (aF rfl) _ _ ?_)
  rw [GJ,q.lb,N.add_n]
  have:=o ((l2 504372225) r) _ n q ⟨by rw [H];exact HN _ _,fun x b I=>(y x (GF b) fun e=>I (.inr (.inr (.inl e)))).trans (s x b fun e=>I (.inr (.inl e))),fun x b=>?_⟩
  ·rw [show((N.n+1:Nat):Int) - 1=N.n by lia];exact this
  ·delta x;rcases b with b|b|b|b|b|b
   ·exact .inl (.inl b)
   ·exact .inl (.inr (.inl b))
   ·exact .inl (.inr (.inr (.inl b)))
   ·exact .inl (.inr (.inr (.inr (.inl b))))
   ·rcases GH.mp b with b|b
    ·exact .inl (.inr (.inr (.inr (.inr (.inl b)))))
    ·rw [GI.mp b];exact .inr (GP _)
   ·rcases GH.mp b with b|b
    ·exact .inl (.inr (.inr (.inr (.inr (.inr b)))))
    ·rw [GI.mp b];exact .inr (Hn _)
end
section
variable {u:U} {d:Nat} {Q:V->Sg->Prop} {X:Sg->Prop} {σ:Sg} {a m:Nat} {N:NF} {p:FP}
theorem jA {l:List Nat} (h:l.Nodup) {i j x:Nat} (hi:l[i]? =Gu x) (b:l[j]? =Gu x):i=j:=
 (NY (HS.mp hi).1 h).mp (hi.trans b.symm)
theorem aH.one {P:Nat->Prop} {x:Nat} {c:Cell} (b:P x):aH P σ P (σ.set x c):=⟨GP _,fun y Z f=>af fun e=>f (e▸b),fun Z h=>.inl h⟩
theorem be.mvAt (h:be a m N p σ) {s:Nat} (c:s<N.n):∃x l,p.bs[s]? =Gu x/\N.mv[s]? =Gu l/\σ.cell x=.list (sX l)/\x∈p.bs:=by
 have f:s<p.bs.length:=h.lb▸c
 have g:s<N.mv.length:=c
 have b:=Hb f
 have e:=Hb g
 exact⟨_,_,b,e,h.cm s _ _ b e,GN b⟩
theorem be.hpAt (h:be a m N p σ) {s:Nat} (c:s<N.n):∃x l,p.cs[s]? =Gu x/\N.hp[s]? =Gu l/\σ.cell x=.list (bw l)/\x∈p.cs:=by
 have f:s<p.cs.length:=h.lc▸c
 have g:s<N.hp.length:=h.ok.len▸c
 have b:=Hb f
 have e:=Hb g
 exact⟨_,_,b,e,h.ch s _ _ b e,GN b⟩
theorem big {n:Nat} (h:n<=m) (b:m<=10000):n<=1000000:=GC h (GC b (by decide))
theorem rp {b β:Type} {f:b->β} {l:List b} {i:Nat} {x:b} (h:l[i]? =Gu x):(l.map f)[i]? =Gu (f x):=by rw [Hg,h];rfl
theorem qe (F:bg u) (h:be a m N p σ) {s g:Nat} {k:Int} (H:s<N.n) (C:k=2\/k=4) (I:g<N.n) (n:N.mv[s]? =Gu []) (b:∀σ',be a m (N.move s k g) p σ'->aH (p.ft a) σ (p.ft a) σ'->Q .none σ'):ae u (d+1) 109 [.ref a,.int s,.int k,.int g] Q X σ:=by
 revert s g k;delta u d Q X σ a m N p;delta s g k;refine F.call 109 _ rfl d _ Q X σ rfl ?_
 have J:(!(k==0))=Gx:=by rcases C with rfl|rfl<;>rfl
 obtain⟨x,l,r,D,E,c⟩:=h.mvAt H;delta x l;rw [n] at D;cases D
 have K:aI tab .idx [.ref p.b,.int s] σ=Gu (.ref x,σ):=bC (aA h.cb) (by rw [GJ,h.lb];exact big h.nm h.m1) (cX (rp r))
 have L:x<σ.n:=h.lt x (.inr (.inr (.inr (.inr (.inl c)))))
 refine aq (t:=Gx) (.of (v:=.bool (!(k==0))) (.op (.cons (.loc rfl) (.cons .const .nil)) rfl) (congrArg Gu J) rfl) ?_;refine aD (Ev.app (.op (.cons (.op (.cons (.loc rfl) .nil) (a7 h.inst rfl)) (.cons (.loc rfl) .nil)) K) (aM E) (.op (.cons (.loc rfl) (.cons (.loc rfl) .nil)) (aK (Gv rfl))) (bI E L (G7 _)) _ _ ?_);refine ak (bm (b _ ?_ (.one (.inr (.inr (.inr (.inr (.inl c))))))))
 have f:=h.fb x c
 have o:∀y,y≠x->(σ.set x (.list (sX []++[.tup [.int k,.int g]]))).cell y=σ.cell y:=fun y M=>af M
 refine⟨h.ok.move C I n,by rw [NF.move_n];exact h.nm,h.m1,(o _ f.1.symm).trans h.inst,(o _ f.2.1.symm).trans h.cb,(o _ f.2.2.1.symm).trans h.cc,(o _ f.2.2.2.symm).trans h.ct,by rw [NF.move_n];exact h.lb,by rw [NF.move_n];exact h.lc,
  fun i y l e A=>?_,fun i y l e A=>(o _ fun z=>h.dj x c (z▸GN e)).trans (h.ch i y l e A),h.nb,h.nc,h.dj,h.fb,h.fc,h.ab,h.lt⟩
 delta i y l
 have G:(N.mv.modify s (· ++[(k,(g:Int))]))[i]? =Gu l:=A
 rw [Jj] at G;obtain⟨O,B,j⟩:=GY.mp G
 by_cases q:s=i
 ·subst q;rw [r] at e;cases e;rw [n] at B;cases B;simp only [if_true] at j;subst j;exact am
 ·simp only [if_neg q] at j;subst j;exact(o _ fun z=>q (jA h.nb (z▸r) e)).trans (h.cm i y O e B)
theorem xu {g:Nat} {l:List Nat}:(l.map fun(x:Nat)=>(x:Int)).any (· ==(g:Int))=GL (g∈l):=by
 induction l with
 |nil=>
  exact rfl
 |cons x l b=>
  rw [Hs,I3,b]
  by_cases q:g=x
  ·subst q;simp
  ·have:((x:Int) ==(g:Int))=Gz:=beq_false_of_ne fun e=>q (by lia)
   rw [this,MX];simp [q]
theorem tq (F:bg u) (h:be a m N p σ) {s g:Nat} (K:s<N.n) (L:g<N.n) (c:∀σ',be a m (N.hop s g) p σ'->aH (p.ft a) σ (p.ft a) σ'->Q .none σ'):ae u (d+1) 116 [.ref a,.int s,.int g] Q X σ:=by
 revert s g;delta u d Q X σ a m N p;delta s g;refine F.call 116 _ rfl d _ Q X σ rfl ?_;obtain⟨x,l,B,D,k,n⟩:=h.hpAt K;delta x l
 have M:aI tab .idx [.ref p.c,.int s] σ=Gu (.ref x,σ):=bC (aA h.cc) (by rw [GJ,h.lc];exact big h.nm h.m1) (cX (rp B))
 have O:x<σ.n:=h.lt x (.inr (.inr (.inr (.inr (.inr n)))))
 have P:(bw l).length<=1000000:=by rw [GJ];exact big (GC (h.ok.size (GN D)) h.nm) h.m1
 have H:∀ {C:aC},Ev C (dR 3 [0,1,2] [.ref a,.int s,.int g]) σ (.op .idx [.op (.attr 2) [.loc 0],.loc 1]) (.ref x) σ:=.op (.cons (.op (.cons (.loc rfl) .nil) (a7 h.inst rfl)) (.cons (.loc rfl) .nil)) M
 have r:aV (.ref x) σ=Gu ((l.map fun(x:Nat)=>(x:Int)).map .int):=by rw [aA k];rw [HJ];rfl
 have b:d8 (ae u d) (dR 3 [0,1,2] [.ref a,.int s,.int g]) σ (.op .notIn [.loc 2,.op .idx [.op (.attr 2) [.loc 0],.loc 1]]) (!(GL (g∈l))) σ:=
  .of (v:=.bool (!(GL (g∈l)))) (.op (.cons (.loc rfl) (.cons H .nil)) (by rw [<-xu];exact tW (sL k) r)) rfl rfl
 by_cases q:g∈l
 ·rw [decide_eq_true q] at b
  have e:N.hop s g=N:=by
   unfold NF.hop
   have:N.hp.modify s (eh g)=N.hp:=by
    refine List.ext_getElem? fun i=>?_;rw [Jj]
    cases r:N.hp[i]? with
    |none=>rfl
    |some y=>
     by_cases z:s=i
     ·subst z;rw [D] at r;cases r
      show Gu (if s=s then eh g l else l)=_
      rw [if_pos rfl];unfold eh;rw [if_pos q]
     ·show Gu (if s=i then eh g y else y)=_
      rw [if_neg z]
   rw [this]
  have:=c σ (by rw [e];exact h) (.refl _ _)
  exact aq (t:=Gz) b (ak (bm this))
 ·rw [decide_eq_false q] at b;refine aq (t:=Gx) b ?_;refine aD (Ev.app H (aM k) (.loc rfl) (bI k O P) _ _ (ak (bm (c _ ?_ (.one (.inr (.inr (.inr (.inr (.inr n))))))))))
  have f:=h.fc x n
  have o:∀y,y≠x->(σ.set x (.list (bw l++[.int g]))).cell y=σ.cell y:=fun y R=>af R
  refine⟨h.ok.hop L,h.nm,h.m1,(o _ f.1.symm).trans h.inst,(o _ f.2.1.symm).trans h.cb,(o _ f.2.2.1.symm).trans h.cc,(o _ f.2.2.2.symm).trans h.ct,h.lb,h.lc,fun i y l e E=>(o y (fun z=>h.dj y (GN e) (by rw [z];exact n))).trans (h.cm i y l e E),
   fun i y j e E=>?_,h.nb,h.nc,h.dj,h.fb,h.fc,h.ab,h.lt⟩
  delta i y j
  have I:(N.hp.modify s (eh g))[i]? =Gu j:=E
  rw [Jj] at I;obtain⟨J,G,A⟩:=GY.mp I;delta J
  by_cases z:s=i
  ·subst z;rw [B] at e;cases e;rw [D] at G;cases G;simp only [if_true] at A;subst A;rw [show bw (eh g l)=bw l++[.int g] by unfold eh;rw [if_neg q];unfold bw;rw [G2];rfl]
   exact am
  ·simp only [if_neg z] at A;subst A;exact(o _ fun S=>z (jA h.nc (S▸B) e)).trans (h.ch i y J e G)
end
structure BR where
 N:NF
 f:Nat
 l:Nat
noncomputable def rowB (b:Tr->NF->BR):List Tr->BR->BR
 |[],r=>r
 |p::ps,r=>rowB b ps ⟨(b p r.N).N.hop r.l (b p r.N).f,r.f,(b p r.N).l⟩
noncomputable def brsB (b:Tr->NF->BR) (first:Nat):List Tr->NF->List Nat->NF×List Nat
 |[],N,c=>(N,c)
 |p::ps,N,c=>brsB b first ps ((b p N).N.hop first (b p N).f) (c++[(b p N).l])
noncomputable def hopsTo (b:Nat):List Nat->NF->NF
 |[],N=>N
 |t::c,N=>hopsTo b c (N.hop t b)
noncomputable def ck (b:Tr->NF->BR) (ps:List Tr) (N:NF):BR:=
 ⟨hopsTo (brsB b N.n ps N.add []).1.n (brsB b N.n ps N.add []).2 (brsB b N.n ps N.add []).1.add,N.n,(brsB b N.n ps N.add []).1.n⟩
noncomputable def o5 (c b:Bool) (first:Nat) (r:BR):NF:=
 let d:=((r.N.add).hop first r.f).hop r.l r.N.n
 let e:=bif b then d.hop r.l r.f else d
 bif c then e.hop first r.N.n else e
noncomputable def cg (b:NF->BR) (d c:Bool) (N:NF):BR:=⟨o5 d c N.n (b N.add),N.n,(b N.add).N.n⟩
noncomputable def lowB (b:NF->BR):Nat->NF×Nat->NF×Nat
 |0,r=>r
 |k+1,r=>lowB b k ((b r.1).N.hop r.2 (b r.1).f,(b r.1).l)
noncomputable def optB (b:NF->BR) (e:Nat):Nat->NF×Nat->NF×Nat
 |0,r=>r
 |k+1,r=>optB b e k (((b r.1).N.hop r.2 (b r.1).f).hop (b r.1).l e,(b r.1).l)
noncomputable def repN (b:NF->BR) (first:Nat) (r:NF×Nat):BR:=⟨(cg b Gx Gx r.1).N.hop r.2 (cg b Gx Gx r.1).f,first,(cg b Gx Gx r.1).l⟩
noncomputable def repS (b:NF->BR) (k first:Nat) (r:NF×Nat):BR:=⟨(optB b r.1.n k (r.1.add.hop r.2 r.1.n,r.2)).1,first,r.1.n⟩
noncomputable def kM (b:NF->BR) (lo:Nat):Option Nat->NF->BR
 |none,N=>repN b N.n (lowB b lo (N.add,N.n))
 |some hi,N=>repS b (hi - lo) N.n (lowB b lo (N.add,N.n))
noncomputable def b8 (f:NF->Nat->NF) (N:NF):BR:=⟨f N.add.add N.n,N.n,N.n+1⟩
noncomputable def bld:Nat->Tr->NF->BR
 |n+1,.cat l r,N=>match spine 22 (.cat l r) with
  |p::ps=>rowB (bld n) ps (bld n p N)
  |[]=>⟨N,0,0⟩
 |n+1,.alt l r,N=>ck (bld n) (spine 23 (.alt l r)) N
 |n+1,.star t,N=>cg (bld n t) Gx Gx N
 |n+1,.plus t,N=>cg (bld n t) Gz Gx N
 |n+1,.opt t,N=>cg (bld n t) Gx Gz N
 |n+1,.rep t lo hi,N=>kM (bld n t) lo hi N
 |_,.a,N=>b8 (fun N s=>N.move s 2 (s+1)) N
 |_,.b,N=>b8 (fun N s=>N.move s 4 (s+1)) N
 |_,.empty,N=>b8 (fun N s=>N.hop s (s+1)) N
 |_,_,N=>b8 (fun N Z=>N) N
def iN (b:NF->BR) (c:Nat):Prop:=∀N,(b N).N.n=N.n+c/\(b N).f<N.n+c/\(b N).l<N.n+c
section
variable {u:U}
structure mU (u:U) (D:Nat) (t:Tr) (b:NF->BR) (c:Nat):Prop where
 adds:iN b c
 call:∀ {Q:V->Sg->Prop} {X:Sg->Prop} {σ:Sg} {a m:Nat} {N:NF} {p:FP},be a m N p σ->(N.n+c<=m->∀p' σ',be a m (b N).N p' σ'->aH (p.ft a) σ (p'.ft a) σ'->Q (.tup [.int (b N).f,.int (b N).l]) σ')->(m<N.n+c->∀P' σ',aH (p.ft a) σ P' σ'->X σ')->ae u D 165 [.ref a,t.node,bE] Q X σ
variable {d:Nat} {Q:V->Sg->Prop} {X:Sg->Prop} {σ:Sg} {a m:Nat} {N:NF} {p:FP} {ρ:List (Option V)}
theorem fq (F:bg u) (h:be a m N p σ) {k:Nat} (f:ρ[k]? =Gu (Gu (.ref a))) (b:N.n<m->∀e σ',be a m N.add e σ'->aH (p.ft a) σ (e.ft a) σ'->Q (.int N.n) σ') (c:m<=N.n->X σ):wpE tab (ae u (d+1)) ρ (.callM 33 (.loc k) []) Q X σ:=
 w_callM (.loc f) (aw h.inst rfl rfl) .nil (oW F h b c)
theorem cu (F:bg u) (h:be a m N p σ) {k s g:Nat} {e f:E} (i:ρ[k]? =Gu (Gu (.ref a))) (j:Ev (ae u (d+1)) ρ σ e (.int s) σ) (c:Ev (ae u (d+1)) ρ σ f (.int g) σ) (l:s<N.n) (n:g<N.n) (b:∀σ',be a m (N.hop s g) p σ'->aH (p.ft a) σ (p.ft a) σ'->Q .none σ'):
  wpE tab (ae u (d+1)) ρ (.callM 35 (.loc k) [e,f]) Q X σ:=
 w_callM (.loc i) (aw h.inst rfl rfl) (.cons j (.cons c .nil)) (tq F h l n b)
theorem w9 (c b:Bool) (first:Nat) (r:BR):(o5 c b first r).n=r.N.n+1:=by
 cases c<;>cases b<;>exact NF.add_n _
theorem ip {b:NF->BR} {c:Nat} (h:iN b c) (f e:Bool):iN (cg b f e) (c+2):=fun N=>by
 have g:=(h N.add).1
 rw [NF.add_n] at g;refine⟨?_,by show N.n<_;exact(l2 7641137408),by show(b N.add).N.n<_;exact(l3 0x1d72718101c7728210) g⟩
 show(o5 f e N.n (b N.add)).n=_
 rw [w9,g];exact(l2 0x1d772810718717180)
theorem vu (F:bg u) {t:Tr} {b:NF->BR} {c:Nat} (B:mU u (d+1) t b c) (f e:Bool) (h:be a m N p σ)
  (C:N.n+(c+2)<=m->∀p' σ',be a m (cg b f e N).N p' σ'->aH (p.ft a) σ (p'.ft a) σ'->Q (.tup [.int (cg b f e N).f,.int (cg b f e N).l]) σ') (n:m<N.n+(c+2)->∀V σ',aH (p.ft a) σ V σ'->X σ'):
  ae u (d+2) 186 [.ref a,t.node,bE,.bool f,.bool e] Q X σ:=by
 revert t b c f e;delta u d Q X σ a m N p;revert f e;delta t b c;delta f e;refine F.call 186 _ rfl (d+1) _ Q X σ rfl ?_;refine w_asg (fq F h rfl (fun Z D o E j=>aB rfl ?_) fun q=>n ((l3 476096175964688) q) _ _ (.refl _ _));delta D o;obtain⟨r,a2,a3⟩:=B.adds N.add;rw [NF.add_n] at r a2 a3;refine w_asg (ay (.cons (.loc rfl) (.cons (.loc rfl) (.cons (.loc rfl) .nil))) (B.call E (fun Z G s H l=>aB rfl ?_) fun q V σ' S'=>n (by rw [NF.add_n] at q;exact(l3 0x1c72718101c7728210) q) V σ' (j.trans S')))
 delta G s;refine w_asg (fq F H rfl (fun q3 I v J K=>aB rfl ?_) fun q=>n ((l4 0x1d72718101b031c7728213) r q) _ _ (j.trans l));delta I v
 have U:=NF.add_n (b N.add).N
 have W:N.n<(b N.add).N.add.n:=(l4 0x9d72718109d718031c31) r U
 have Y:(b N.add).N.n<(b N.add).N.add.n:=(l3 0x9d718100d211c01) U r
 have hh:(b N.add).f<(b N.add).N.add.n:=(l4 0x1c109d129d718231c30) a2 r U
 have ht:(b N.add).l<(b N.add).N.add.n:=(l4 0x1c109d129d718231c30) a3 r U
 refine aD (cu F J rfl (.loc rfl) (.loc rfl) W hh fun y L M=>?_);delta y;refine aD (cu F L rfl (.loc rfl) (.loc rfl) ht Y fun z k O=>?_);delta z
 have S:=(((j.trans l).trans K).trans M).trans O
 have P:=C ((l4 0x1c109d73718201b1772832) q3 r)
 cases e with
 |false=>
  refine aq (t:=Gz) (.of (.loc rfl) rfl rfl) (ak ?_)
  cases f with
  |false=>
   refine aq (t:=Gz) (.of (.loc rfl) rfl rfl) (ak ?_);exact ax (Ev.op (.cons (.loc rfl) (.cons (.loc rfl) .nil)) (aK (Gv rfl)) _ _ (P _ _ k S))
  |true=>
   refine aq (t:=Gx) (.of (.loc rfl) rfl rfl) (aD (cu F k rfl (.loc rfl) (.loc rfl) W Y fun A g i=>ak ?_));exact ax (Ev.op (.cons (.loc rfl) (.cons (.loc rfl) .nil)) (aK (Gv rfl)) _ _ (P _ _ g (S.trans i)))
 |true=>
  refine aq (t:=Gx) (.of (.loc rfl) rfl rfl) (aD (cu F k rfl (.loc rfl) (.loc rfl) ht hh fun A g i=>ak ?_))
  cases f with
  |false=>
   refine aq (t:=Gz) (.of (.loc rfl) rfl rfl) (ak ?_);exact ax (Ev.op (.cons (.loc rfl) (.cons (.loc rfl) .nil)) (aK (Gv rfl)) _ _ (P _ _ g (S.trans i)))
  |true=>
   refine aq (t:=Gx) (.of (.loc rfl) rfl rfl) (aD (cu F g rfl (.loc rfl) (.loc rfl) W Y fun b' R T=>ak ?_));exact ax (Ev.op (.cons (.loc rfl) (.cons (.loc rfl) .nil)) (aK (Gv rfl)) _ _ (P _ _ R ((S.trans i).trans T)))
end
section
variable {u:U} {d:Nat} {Q:V->Sg->Prop} {X:Sg->Prop} {σ:Sg} {a m:Nat} {N:NF} {p:FP}
theorem aH.other {P c:Nat->Prop} {σ σ':Sg} (S:aH P σ c σ') {x:Nat} (b:x<σ.n) (hp:¬P x):¬c x/\σ'.cell x=σ.cell x/\x<σ'.n:=
 ⟨fun z=>(S.foot x z).elim hp fun h=>absurd b (HQ.mpr h),S.keep x b hp,GQ b S.n⟩
def q7 (u:U) (D:Nat) (b:Tr->NF->BR) (c:Tr->Nat) (ps:List Tr):Prop:=∀t∈ps,mU u D t (b t) (c t)
theorem vt {b:Tr->NF->BR} {c:Tr->Nat} {ps:List Tr}:∀(r:BR),(∀t∈ps,iN (b t) (c t))->r.f<r.N.n->r.l<r.N.n->(rowB b ps r).N.n=r.N.n+(ps.map c).sum/\(rowB b ps r).f<r.N.n+(ps.map c).sum/\(rowB b ps r).l<r.N.n+(ps.map c).sum:=by
 induction ps with
 |nil=>
  intro r _ f i;exact⟨rfl,f,i⟩
 |cons t ps e=>
  intro r h f i;obtain⟨g,l,j⟩:=h t (.head _) r.N
  have e:=e ⟨(b t r.N).N.hop r.l (b t r.N).f,r.f,(b t r.N).l⟩ (fun x k=>h x (.tail _ k)) (by show r.f<(b t r.N).N.n;exact(l4 7899567774374944) f g) (by show(b t r.N).l<(b t r.N).N.n;exact(l3 30857680264224) j g)
  rw [Hs,Ia];rw [show((b t r.N).N.hop r.l (b t r.N).f).n=r.N.n+c t from g,I4] at e
  exact e
inductive RowI (a m:Nat) (b:Tr->NF->BR) (c:Tr->Nat) (ps:List Tr) (R:BR) (σ₀:Sg) (P₀:Nat->Prop) (tl n₀:Nat) (v1:V):List V->List (Option V)->Sg->Prop where
 |mk (xs ys:List Tr) (y5 y6 y7:Option V) (r:BR) (p:FP) (σ:Sg) (e:ps=xs++ys) (eR:rowB b ys r=R) (hf:r.f<r.N.n) (hl:r.l<r.N.n) (en:r.N.n+(ys.map c).sum=n₀) (h:be a m r.N p σ) (S:aH P₀ σ₀ (p.ft a) σ) (ht:tl<σ.n) (hp:¬(p.ft a tl)) (hc:σ.cell tl=.list (ps.map Tr.node)):
  RowI a m b c ps R σ₀ P₀ tl n₀ v1 (ys.map Tr.node) [Gu (.ref a),Gu v1,Gu bE,Gu (.int r.f),Gu (.int r.l),y5,y6,y7,Gw] σ
theorem Dx (F:bg u) {b:Tr->NF->BR} {c:Tr->Nat} {t:Tr} {ps:List Tr} (B:q7 u (d+1) b c (t::ps)) (G:(t::ps).length<=1000) (h:be a m N p σ)
  (n:N.n+((t::ps).map c).sum<=m->∀p' σ',be a m (rowB b ps (b t N)).N p' σ'->aH (p.ft a) σ (p'.ft a) σ'->Q (.tup [.int (rowB b ps (b t N)).f,.int (rowB b ps (b t N)).l]) σ') (A:m<N.n+((t::ps).map c).sum->∀P' σ',aH (p.ft a) σ P' σ'->X σ'):
  ae u (d+2) 172 [.ref a,.lst ((t::ps).map Tr.node),bE] Q X σ:=by
 revert b c t ps;delta u d Q X σ a m N p;delta b c t ps;refine F.call 172 _ rfl (d+1) _ Q X σ rfl ?_
 have E:((t::ps).map Tr.node).length<=1000000:=by rw [GJ];exact GC G (by decide)
 have Bt:=B t (.head _)
 obtain⟨a1,a2,a3⟩:=Bt.adds N;rw [Hs,Ia] at n A;refine w_asg (ay (.cons (.loc rfl) (.cons (.op (.cons (.loc rfl) (.cons .const .nil)) (bC rfl E rfl)) (.cons (.loc rfl) .nil))) (Bt.call h (fun Z k j o H=>aB rfl ?_) fun q=>A ((l4 8006712870515216) q)));delta k j;refine bK (Ev.op (.cons (.loc rfl) .nil) (yw E) _ _ ?_)
 have ne:∀x,k.ft a x->x≠j.n:=fun x hx e=>absurd (o.lt x hx) (by rw [e];exact HD _)
 refine bG (RowI a m b c ps (rowB b ps (b t N)) σ (p.ft a) j.n (N.n+(c t+(ps.map c).sum)) (.lst ((t::ps).map Tr.node))) (aA ah)
  (.mk [] ps _ _ _ (b t N) k _ rfl rfl ((l3 30857680264224) a2 a1) ((l3 30857680264224) a3 a1) ((l4 0x1d72101d77321730) a1) (o.ext (.alloc _ _)) (H.trans (.ext (.alloc _ _))) (GA _) (fun z=>ne _ z rfl) ah)
  (fun r ρ σ' h=>by cases h with|mk _ _ _ _ _ _ _ _ _ _ _ _ _ _ _ U _ W=>exact⟨U,W⟩) (fun v r ρ σ' K' I hK Z=>?_) (fun ρ σ' I=>?_)
 ·delta v r ρ σ' K';generalize J:v::r=z at I;delta z
  cases I with
  |mk xs s y5 y6 y7 f l _ e Y hf E C g i U hp W=>
   injections xs s y5 y6 y7 f l;intro e Y hf E C hp J g i
   cases s with
   |nil=>cases J
   |cons y s=>
    delta y s;cases J;refine⟨_,rfl,?_⟩
    have By:=B y (List.mem_cons_of_mem _ (by rw [e];simp))
    obtain⟨K,b2,b3⟩:=By.adds f.N;rw [Hs,Ia] at C;refine w_asg (ay (.cons (.loc rfl) (.cons (.loc rfl) (.cons (.loc rfl) .nil))) (By.call g (fun Z L b' M O=>aB rfl ?_) fun q P' R S'=>A ((l5 0x1d3772101c71041c34) C q) P' R (i.trans S')));refine aD (cu F M rfl (.loc rfl) (.loc rfl) ((l4 7899567774374944) E K) ((l3 30857680264224) b2 K) fun D S T=>?_)
    have S':=O.trans T
    obtain⟨o1,o2,o3⟩:=S'.other U hp;refine ar (.loc rfl) rfl (ak (hK _ _ (.mk (xs++[y]) s _ _ _ ⟨(b y f.N).N.hop f.l (b y f.N).f,f.f,(b y f.N).l⟩ L D (by rw [e,GO];rfl) Y (by show f.f<(b y f.N).N.n;exact(l4 7899567774374944) hf K) (by show(b y f.N).l<(b y f.N).N.n;exact(l3 30857680264224) b3 K) (by show(b y f.N).N.n+_=_;exact(l5 0x1d3772101d71041d3724) C K) S (i.trans S') o3 o1 (o2.trans W))).1)
 ·generalize J:([]:List V)=z at I
  cases I with
  |mk xs s y5 y6 y7 f l _ e Y hf E C g i U hp W=>
   cases s with
   |cons y s=>cases J
   |nil=>
    have C:f.N.n+0=N.n+(c t+(ps.map c).sum):=C
    have P:=n (by have:=g.nm;lia) l σ'
    rw [<-Y] at P;exact ax (Ev.op (.cons (.loc rfl) (.cons (.loc rfl) .nil)) (aK (Gv rfl)) _ _ (P g i))
end
section
variable {u:U} {d:Nat} {Q:V->Sg->Prop} {X:Sg->Prop} {σ:Sg} {a m:Nat} {N:NF} {p:FP}
theorem oQ {b:Tr->NF->BR} {c:Tr->Nat} {first:Nat} {ps:List Tr}:∀(N:NF) (f:List Nat),(∀t∈ps,iN (b t) (c t))->(∀t∈f,t<N.n)->(brsB b first ps N f).1.n=N.n+(ps.map c).sum/\∀t∈(brsB b first ps N f).2,t<N.n+(ps.map c).sum:=by
 induction ps with
 |nil=>
  intro N f _ h;exact⟨rfl,h⟩
 |cons t ps g=>
  intro N f h j;obtain⟨k,n,l⟩:=h t (.head _) N
  have i:((b t N).N.hop first (b t N).f).n=N.n+c t:=k
  have g:=g ((b t N).N.hop first (b t N).f) (f++[(b t N).l]) (fun x e=>h x (.tail _ e)) fun x e=>by
   rw [i];rcases GH.mp e with e|e
   ·exact GQ (j x e) (HN _ _)
   ·rw [GI.mp e];exact l
  rw [Hs,Ia];rw [i,I4] at g;exact g
theorem tU (b:Nat) (c:List Nat):∀(N:NF),(hopsTo b c N).n=N.n:=by
 induction c with
 |nil=>
  intro N;exact rfl
 |cons t c e=>
  intro N;exact e (N.hop t b)
theorem nN {b:Tr->NF->BR} {c:Tr->Nat} {ps:List Tr} (h:∀t∈ps,iN (b t) (c t)):iN (ck b ps) ((ps.map c).sum+2):=fun N=>by
 obtain⟨e,f⟩:=oQ (first:=N.n) N.add [] h (fun Z h=>nomatch h);rw [NF.add_n] at e;refine⟨?_,by show N.n<_;exact(l2 7641137408),by show(brsB b N.n ps N.add []).1.n<_;exact(l3 0x1d72718101c7728210) e⟩
 show(hopsTo _ _ _).n=_
 rw [tU,NF.add_n,e];exact(l2 0x1d772810718717180)
inductive ChoI (a m:Nat) (b:Tr->NF->BR) (c:Tr->Nat) (first:Nat) (ps:List Tr) (R:NF×List Nat) (σ₀:Sg) (P₀:Nat->Prop) (tl n₀:Nat) (v1:V):List V->List (Option V)->Sg->Prop where
 |mk (xs ys:List Tr) (y5 y6 y7:Option V) (N:NF) (ts:List Nat) (p:FP) (σ:Sg) (e:ps=xs++ys) (eR:brsB b first ys N ts=R) (hf:first<N.n) (ht:∀t∈ts,t<N.n) (el:ts.length+ys.length<=1000) (en:N.n+(ys.map c).sum=n₀) (h:be a m N p σ) (S:aH P₀ σ₀ (p.ft a) σ) (hl:tl<σ.n) (hp:¬(p.ft a tl)) (hc:σ.cell tl=.list (bw ts)):
  ChoI a m b c first ps R σ₀ P₀ tl n₀ v1 (ys.map Tr.node) [Gu (.ref a),Gu v1,Gu bE,Gu (.int first),Gu (.ref tl),y5,y6,y7,Gw,Gw] σ
inductive HopI (a m last first:Nat) (T:List Nat) (R:NF) (σ₀:Sg) (P₀:Nat->Prop) (tl n₀:Nat) (v1:V):List V->List (Option V)->Sg->Prop where
 |mk (xs ys:List Nat) (y5 y6 y7:Option V) (N:NF) (p:FP) (σ:Sg) (e:T=xs++ys) (eR:hopsTo last ys N=R) (hl:last<N.n) (en:N.n=n₀) (h:be a m N p σ) (S:aH P₀ σ₀ (p.ft a) σ) (hl:tl<σ.n) (hp:¬(p.ft a tl)) (hc:σ.cell tl=.list (bw T)):
  HopI a m last first T R σ₀ P₀ tl n₀ v1 (bw ys) [Gu (.ref a),Gu v1,Gu bE,Gu (.int first),Gu (.ref tl),y5,y6,y7,Gu (.int last),Gw] σ
theorem vT (F:bg u) {b:Tr->NF->BR} {c:Tr->Nat} {ps:List Tr} (B:q7 u (d+1) b c ps) (S:ps.length<=1000) (h:be a m N p σ)
  (T:N.n+((ps.map c).sum+2)<=m->∀p' σ',be a m (ck b ps N).N p' σ'->aH (p.ft a) σ (p'.ft a) σ'->Q (.tup [.int (ck b ps N).f,.int (ck b ps N).l]) σ') (b':m<N.n+((ps.map c).sum+2)->∀P' σ',aH (p.ft a) σ P' σ'->X σ'):
  ae u (d+2) 179 [.ref a,.lst (ps.map Tr.node),bE] Q X σ:=by
 revert b c ps;delta u d Q X σ a m N p;delta b c ps;refine F.call 179 _ rfl (d+1) _ Q X σ rfl ?_
 have hl:(ps.map Tr.node).length<=1000000:=by rw [GJ];exact GC S (by decide)
 refine w_asg (fq F h rfl (fun Z E j U W=>aB rfl ?_) fun q=>b' ((l3 476096175964688) q) _ _ (.refl _ _));delta E j;refine ar (.op .nil (bP (G7 _))) rfl ?_
 have ne:∀x,E.ft a x->x≠j.n:=fun x hx e=>absurd (U.lt x hx) (by rw [e];exact HD _)
 have nn:=NF.add_n N
 obtain⟨t1,t2⟩:=oQ (first:=N.n) N.add [] (fun t ht=>(B t ht).adds) (fun Z h=>nomatch h);generalize hR:brsB b N.n ps N.add []=R at t1 t2;delta R
 have eN:(ck b ps N)=⟨hopsTo R.1.n R.2 R.1.add,N.n,R.1.n⟩:=by unfold ck;rw [hR]
 rw [eN] at T;refine bK (Ev.loc rfl _ _ ?_)
 refine bG (ChoI a m b c N.n ps R σ (p.ft a) j.n (N.n+1+(ps.map c).sum) (.lst (ps.map Tr.node))) rfl
  (.mk [] ps Gw Gw Gw N.add [] E _ rfl hR ((l2 0x9d718101c01) nn) (fun Z h=>nomatch h) (by simpa using S) ((l3 31955050698528) nn) (U.ext (.alloc _ _)) (W.trans (.ext (.alloc _ _))) (GA _) (fun z=>ne _ z rfl) ah)
  (fun Z Z Z Z=>trivial) (fun v r ρ σ' K' G hK Z=>?_) (fun ρ σ' G=>?_)
 ·delta v r ρ σ' K';generalize M:v::r=z at G;delta z
  cases G with
  |mk xs o y5 y6 y7 f H k _ e I hf ht el L i g D hp O=>
   delta xs o y5 y6 y7 f H k
   cases o with
   |nil=>cases M
   |cons y o=>
    delta y o;cases M;refine⟨_,rfl,?_⟩
    have By:=B y (by rw [e];simp)
    obtain⟨b1,b2,b3⟩:=By.adds f;rw [Hs,Ia] at L;rw [HF] at el;refine w_asg (ay (.cons (.loc rfl) (.cons (.loc rfl) (.cons (.loc rfl) .nil))) (By.call i (fun Z n l J A=>aB rfl ?_) fun q P' c' S'=>b' ((l6 0x1d747183772101c71051c7728435) L q) P' c' (g.trans S')));delta n l;refine aD (cu F J rfl (.loc rfl) (.loc rfl) ((l4 7899567774374944) hf b1) ((l3 30857680264224) b2 b1) fun s K C=>?_);delta s
    have S':=A.trans C
    obtain⟨o1,o2,o3⟩:=S'.other D hp
    have d':=o2.trans O
    have e':(bw H).length<=1000000:=by rw [GJ];exact(l2 0x1b89e9387101b09492949f80) el
    refine aD (Ev.app (.loc rfl) (aM d') (.loc rfl) (bI d' o3 e') _ _ (ak (hK _ _ (.mk (xs++[y]) o _ _ _ ((b y f).N.hop N.n (b y f).f) (H++[(b y f).l]) n (s.set j.n (.list (bw H++[V.int (((b y f).l:Nat):Int)]))) (by rw [e,GO];rfl) I ?_ ?_ ?_ ?_ (K.keep (GP _) fun x hx=>af (fun e=>o1 (by rw [<-e];exact hx))) ⟨(g.trans S').n,fun x hx f'=>?_,(g.trans S').foot⟩ o3 o1 ?_)).1))
    ·show N.n<(b y f).N.n;exact(l4 7899567774374944) hf b1
    ·intro t g'
     show t<(b y f).N.n
     rcases GH.mp g' with h|h
     ·have u1:=ht t h;exact(l4 7899567774374944) u1 b1
     ·rw [GI.mp h,b1];exact b3
    ·simp only [GG,HF,JB];exact(l2 0x1b89e9387718101b89e938717718080) el
    ·show(b y f).N.n+_=_;exact(l5 0x1d3772101d71041d3724) L b1
    ·rw [af (fun e=>by rw [e] at hx;exact absurd hx (HQ.mpr W.n))]
     exact(g.trans S').keep x hx f'
    ·unfold bw;rw [G2];exact am
 ·delta ρ σ';generalize M:([]:List V)=z at G;delta z
  cases G with
  |mk xs o y5 y6 y7 f H k _ e I hf ht el L i g D hp O=>
   delta xs o y5 y6 y7 f H k
   cases o with
   |cons y o=>cases M
   |nil=>
    have I:(f,H)=R:=I
    have L:f.n+0=N.n+1+(ps.map c).sum:=L
    subst I;refine w_asg (fq F i rfl (fun q3 n l J A=>aB rfl ?_) fun q=>b' (by lia) _ _ g)
    delta n l;obtain⟨o1,o2,o3⟩:=A.other D hp
    have n3:=NF.add_n f
    refine bK (Ev.loc rfl _ _ ?_)
    refine bG (HopI a m f.n N.n H (hopsTo f.n H f.add) σ (p.ft a) j.n (f.n+1) (.lst (ps.map Tr.node))) (aA (o2.trans O)) (.mk [] H _ _ _ f.add n l rfl rfl ((l2 0x9d718101c01) n3) n3 J (g.trans A) o3 o1 (o2.trans O))
     (fun r ρ σ' h=>by cases h with|mk _ _ _ _ _ _ _ _ _ _ _ _ _ _ hl _ O=>exact⟨hl,O⟩) (fun v r ρ σ' K' G hK Z=>?_) (fun ρ σ' G=>?_)
    ·generalize M:v::r=z at G
     cases G with
     |mk xs o y5 y6 y7 Y k _ e I hl L i g D hp O=>
      cases o with
      |nil=>cases M
      |cons y o=>
       cases M;refine⟨_,rfl,?_⟩
       have hy:y<f.n:=ht y (by rw [e];simp)
       refine aD (cu F i rfl (.loc rfl) (.loc rfl) ((l3 0x1c109d718121c20) hy L) hl fun s K C=>ak (hK _ _ ?_).1);obtain⟨o1,o2,o3⟩:=C.other D hp;exact .mk (xs++[y]) o _ _ _ _ _ _ (by rw [e,GO];rfl) I hl L K (g.trans C) o3 o1 (o2.trans O)
    ·generalize M:([]:List V)=z at G
     cases G with
     |mk xs o y5 y6 y7 Y k _ e I hl L i g D hp O=>
      cases o with
      |cons y o=>cases M
      |nil=>
       have I:Y=hopsTo f.n H f.add:=I
       have P:=T (by have u2:=i.nm;lia) k σ'
       rw [<-I] at P;exact ax (Ev.op (.cons (.loc rfl) (.cons (.loc rfl) .nil)) (aK (Gv rfl)) _ _ (P i g))
end
section
variable {u:U} {d:Nat} {Q:V->Sg->Prop} {X:Sg->Prop} {σ:Sg} {a m:Nat} {N:NF} {p:FP}
theorem oz {b:NF->BR} {c:Nat} (h:iN b c) (k:Nat):∀(r:NF×Nat),r.2<r.1.n->(lowB b k r).1.n=r.1.n+k * c/\(lowB b k r).2<(lowB b k r).1.n:=by
 induction k with
 |zero=>
  intro r e;exact⟨by rw [Ju];rfl,e⟩
 |succ k g=>
  intro r e;obtain⟨f,n,i⟩:=h r.1;obtain⟨j,l⟩:=g ((b r.1).N.hop r.2 (b r.1).f,(b r.1).l) (by show(b r.1).l<(b r.1).N.n;exact(l3 30857680264224) i f)
  refine⟨?_,l⟩;rw [H3,Ig (k * c), <-I4, <-f];exact j
theorem wA {b:NF->BR} {c e:Nat} (h:iN b c) (k:Nat):∀(r:NF×Nat),(optB b e k r).1.n=r.1.n+k * c:=by
 induction k with
 |zero=>
  intro r;rw [Ju];rfl
 |succ k f=>
  intro r
  have g:=f (((b r.1).N.hop r.2 (b r.1).f).hop (b r.1).l e,(b r.1).l)
  rw [H3,Ig (k * c), <-I4, <-(h r.1).1];exact g
noncomputable def iL (c lo:Nat):Option Nat->Nat
 |none=>3+(lo+1) * c
 |some hi=>2+hi * c
theorem hG (c lo:Nat):iL c lo Gw=3+(lo+1) * c:=rfl
theorem io (c lo k:Nat):iL c lo (Gu k)=2+k * c:=rfl
theorem pj {b:NF->BR} {c lo:Nat} {hi:Option Nat} (h:iN b c) (i:∀k,hi=Gu k->lo<=k):iN (kM b lo hi) (iL c lo hi):=fun N=>by
 obtain⟨f,n⟩:=oz h lo (N.add,N.n) (by rw [NF.add_n];exact GA _)
 rw [show((N.add,N.n):NF×Nat).1.n=N.n+1 from NF.add_n N] at f
 cases hi with
 |none=>
  obtain⟨j,o,g⟩:=ip h Gx Gx (lowB b lo (N.add,N.n)).1
  have e:iL c lo Gw=lo * c+c+3:=by rw [hG,H3];lia
  refine⟨?_,?_,?_⟩
  ·show(cg b Gx Gx (lowB b lo (N.add,N.n)).1).N.n=_
   rw [j,f,e];exact(l3 0x1d7738721077282717180)
  ·show N.n<_
   rw [e];lia
  ·show(cg b Gx Gx (lowB b lo (N.add,N.n)).1).l<_
   rw [f] at g;rw [e];exact(l4 0x1c7728372718101c773873210) g
 |some k=>
  have l:=i k rfl
  have e:iL c lo (Gu k)=lo * c+(k - lo) * c+2:=by
   rw [io, <-Mh,Jx l];lia
  refine⟨?_,?_,?_⟩
  ·show(optB b _ (k - lo) _).1.n=_
   rw [wA h]
   show((lowB b lo (N.add,N.n)).1.add.n)+_=_
   rw [NF.add_n,f,e];exact(l3 0x1d7728721072718717180)
  ·show N.n<_
   rw [e];lia
  ·show(lowB b lo (N.add,N.n)).1.n<_
   rw [f,e];exact(l3 0x1c77287210717180)
inductive LowI (a m:Nat) (b:NF->BR) (c lo first:Nat) (R:NF×Nat) (σ₀:Sg) (P₀:Nat->Prop) (n₀:Nat) (v1:V):List V->List (Option V)->Sg->Prop where
 |mk (k j:Nat) (y5 y6 y7:Option V) (N:NF) (l:Nat) (p:FP) (σ:Sg) (e:k+j=lo) (eR:lowB b j (N,l)=R) (hl:l<N.n) (en:N.n+j * c=n₀) (h:be a m N p σ) (S:aH P₀ σ₀ (p.ft a) σ):
  LowI a m b c lo first R σ₀ P₀ n₀ v1 ((a6 lo).drop k) [Gu (.ref a),Gu v1,Gu bE,Gu (.int first),Gu (.int l),y5,y6,y7,Gw,Gw,Gw,Gw] σ
inductive OptI (a m:Nat) (b:NF->BR) (c lo first e:Nat) (R:NF) (σ₀:Sg) (P₀:Nat->Prop) (n₀:Nat) (v1:V):List V->List (Option V)->Sg->Prop where
 |mk (k j:Nat) (y5 y6 y7:Option V) (N:NF) (l:Nat) (p:FP) (σ:Sg) (ej:k+j=lo) (eR:(optB b e j (N,l)).1=R) (hl:l<N.n) (he:e<N.n) (en:N.n+j * c=n₀) (h:be a m N p σ) (S:aH P₀ σ₀ (p.ft a) σ):
  OptI a m b c lo first e R σ₀ P₀ n₀ v1 ((a6 lo).drop k) [Gu (.ref a),Gu v1,Gu bE,Gu (.int first),Gu (.int l),y5,y6,y7,Gu (.int e),Gw,Gw,Gw] σ
theorem dz {lo k j:Nat} {v:V} {r:List V} (c:v::r=(a6 lo).drop k) (e:k+j=lo):v=.int k/\r=(a6 lo).drop (k+1)/\∃b,j=b+1/\k+1+b=lo:=by
 obtain⟨⟨f,i⟩,g⟩:=dH c
 cases j with
 |zero=>lia
 |succ j=>exact⟨f,g,j,rfl,(l3 0x1d27718101d2717180) e⟩
theorem dp {lo k j:Nat} (b:([]:List V)=(a6 lo).drop k) (e:k+j=lo):j=0:=by
 have:=fZ b
 simp only [Jb] at this;exact IH ((l3 0x1d17021b211b080) e this) ((l1 110600))
theorem vm (F:bg u) {t:Tr} {b:NF->BR} {c lo:Nat} {hi:Option Nat} (B:mU u (d+2) t b c) (i':lo<=1000) (hh:∀k,hi=Gu k->lo<=k/\k<=1000) (h:be a m N p σ)
  (U:N.n+iL c lo hi<=m->∀p' σ',be a m (kM b lo hi N).N p' σ'->aH (p.ft a) σ (p'.ft a) σ'->Q (.tup [.int (kM b lo hi N).f,.int (kM b lo hi N).l]) σ') (O:m<N.n+iL c lo hi->∀P' σ',aH (p.ft a) σ P' σ'->X σ'):
  ae u (d+4) 193 [.ref a,(Tr.rep t lo hi).node,bE] Q X σ:=by
 revert t b c lo hi;delta u d Q X σ a m N p;delta t b c lo hi
 have B':mU u (d+3) t b c:=⟨B.adds,fun h p e=>(B.call h p e).up (Hn _)⟩
 have RA:=pj (lo:=lo) B.adds (fun k e=>(hh k e).1) N
 obtain⟨l1,l2⟩:=oz B.adds lo (N.add,N.n) (by rw [NF.add_n];exact GA _)
 rw [show((N.add,N.n):NF×Nat).1.n=N.n+1 from NF.add_n N] at l1
 have c':N.n+1+lo * c<N.n+iL c lo hi:=by
  cases hi with
  |none=>rw [hG,H3];exact(l3 0x1c77721380717180)
  |some k=>
   have u1:=J7 c (hh k rfl).1
   rw [io];lia
 refine F.call 193 _ rfl (d+3) _ Q X σ rfl ?_;refine w_asg (fq F h rfl (fun Z W R d' e'=>aB rfl ?_) fun q=>O ((l4 0x1c27171801b031c23) c' q) _ _ (.refl _ _));delta W R;refine ar (.loc rfl) rfl ?_
 have Y:∀ {ρ:List (Option V)} {σ:Sg} {n:Nat} {v:V},ρ[1]? =Gu (Gu (Tr.rep t lo hi).node)->eF tab 862 n [(18,t.node),(19,.int lo),(20,zZ hi)]=Gu v->Ev (ae u (d+3)) ρ σ (.op (.attr n) [.loc 1]) v σ:=fun h e=>bN (.loc h) rfl e
 refine dJ (Y (v:=.int lo) rfl rfl _ _ ?_)
 have nn:=NF.add_n N
 refine cM (LowI a m b c lo N.n (lowB b lo (N.add,N.n)) σ (p.ft a) (N.n+1+lo * c) (Tr.rep t lo hi).node) (Hc _) (by lia) (.mk 0 lo Gw Gw Gw N.add N.n W R (IJ _) rfl (by lia) (((l3 32023770113808) nn)) d' e') (fun v r ρ σ' K' M hK Z=>?_) (fun ρ σ' M=>?_)
 ·generalize T:v::r=z at M
  cases M with
  |mk k j y5 y6 y7 f l H _ e eR hl en o i=>
   obtain⟨rfl,rfl,j,rfl,ej⟩:=dz T e;obtain⟨S,b2,b3⟩:=B.adds f;rw [H3] at en;refine w_asg (ay (.cons (.loc rfl) (.cons (Y rfl rfl) (.cons (.loc rfl) .nil))) (B'.call o (fun Z y G A C=>aB rfl ?_) fun q P' I S'=>O ((l6 0x1d3772101c431c72051c45) en c' q) P' I (i.trans S')));refine aD (cu F A rfl (.loc rfl) (.loc rfl) ((l4 7899567774374944) hl S) ((l3 30857680264224) b2 S) fun s D E=>?_);exact ar (.loc rfl) rfl (ak (hK _ _ (.mk (k+1) j _ _ _ ((b f).N.hop l (b f).f) (b f).l y s ej eR (by show(b f).l<(b f).N.n;exact(l3 30857680264224) b3 S) (by show(b f).N.n+_=_;exact(l5 0x1d3772101d72041d3714) en S) D ((i.trans C).trans E))).1)
 ·delta ρ σ';generalize T:([]:List V)=z at M;delta z
  cases M with
  |mk k j y5 y6 y7 f l H _ e eR hl en o i=>
   delta k j y5 y6 y7 f l H;obtain rfl:=dp T e
   have eR:(f,l)=lowB b lo (N.add,N.n):=eR
   have en:f.n=N.n+1+lo * c:=by rw [Ju] at en;exact en
   cases hi with
   |none=>
    refine aq (t:=Gx) (.of (.op (.cons (Y rfl rfl) .nil) rfl) rfl rfl) ?_
    have eC:iL c lo Gw=lo * c+c+3:=by rw [hG,H3];lia
    obtain⟨q1,q2,q3⟩:=ip B.adds Gx Gx f;refine w_asg (ay (.cons (.loc rfl) (.cons (Y rfl rfl) (.cons (.loc rfl) (.cons .const (.cons .const .nil))))) (vu F (d:=d+1) B Gx Gx o (fun Z y G A C=>aB rfl ?_) fun q P' I S'=>O (by lia) P' I (i.trans S')))
    refine aD (cu F A rfl (.loc rfl) (.loc rfl) (by lia) (by lia) fun s D E=>?_)
    have P:=U (by lia)
    rw [show kM b lo Gw N=repN b N.n (lowB b lo (N.add,N.n)) from rfl, <-eR] at P
    exact ax (Ev.op (.cons (.loc rfl) (.cons (.loc rfl) .nil)) (aK (Gv rfl)) _ _ (P _ _ D ((i.trans C).trans E)))
   |some hi=>
    delta hi;obtain⟨k1,k2⟩:=hh hi rfl
    have eC:iL c lo (Gu hi)=lo * c+(hi - lo) * c+2:=by
     rw [io, <-Mh,Jx k1];lia
    refine aq (t:=Gz) (.of (.op (.cons (Y rfl rfl) .nil) rfl) rfl rfl) (ak ?_);refine w_asg (fq F o rfl (fun Z y G A C=>aB rfl ?_) fun q=>O (by lia) _ _ i)
    delta y G
    have n3:=NF.add_n f
    refine aD (cu F A rfl (.loc rfl) (.loc rfl) (by lia) (by lia) fun s D E=>?_)
    delta s
    have es:(hi:Int) - lo=((hi - lo:Nat):Int):=by lia
    refine dJ (Ev.op (.cons (Y (v:=.int hi) rfl rfl) (.cons (Y (v:=.int lo) rfl rfl) .nil)) (aF (op:=.sub) (r:=((hi - lo:Nat):Int)) (congrArg Gu es)) _ _ ?_)
    refine cM (OptI a m b c (hi - lo) N.n f.n (optB b f.n (hi - lo) (f.add.hop l f.n,l)).1 σ (p.ft a) (N.n+iL c lo (Gu hi)) (Tr.rep t lo (Gu hi)).node) (Hc _) (by lia)
     (.mk 0 (hi - lo) _ _ _ (f.add.hop l f.n) l y s (IJ _) rfl (by show l<f.add.n;lia) (by show f.n<f.add.n;lia) (by show f.add.n+_=_;lia) D ((i.trans C).trans E)) (fun v r ρ σ' K' M hK Z=>?_) (fun ρ σ' M=>?_)
    ·delta v r ρ σ' K';generalize T:v::r=z at M;injections z;intro T M
     cases M with
     |mk k j y5 y6 y7 g L H _ e K hl he J o i=>
      injections k j y5 y6 y7 g L H;intro e K hl he J T o i;obtain⟨rfl,rfl,j,rfl,ej⟩:=dz T e;injections j;intro ej e K J;obtain⟨S,b2,b3⟩:=B.adds g;rw [H3] at J;refine w_asg (ay (.cons (.loc rfl) (.cons (Y rfl rfl) (.cons (.loc rfl) .nil))) (B'.call o (fun Z y G A C=>aB rfl ?_) fun q P' I S'=>O ((l5 0x1d3772101c72041c34) J q) P' I (i.trans S')));refine aD (cu F A rfl (.loc rfl) (.loc rfl) ((l4 7899567774374944) hl S) ((l3 30857680264224) b2 S) fun s D E=>?_)
      have nh:((b g).N.hop L (b g).f).n=(b g).N.n:=rfl
      refine aD (cu F D rfl (.loc rfl) (.loc rfl) ((l4 0x1c109d129d231c30) b3 S nh) (by lia) fun b' f' g'=>?_)
      exact ar (.loc rfl) rfl (ak (hK _ _ (.mk (k+1) j _ _ _ (((b g).N.hop L (b g).f).hop (b g).l f.n) (b g).l y b' ej K (by show(b g).l<(b g).N.n;exact(l3 30857680264224) b3 S) (by show f.n<(b g).N.n;lia) (by show(b g).N.n+_=_;exact(l5 0x1d3772101d72041d3714) J S) f' (((i.trans C).trans E).trans g'))).1)
    ·generalize T:([]:List V)=z at M
     cases M with
     |mk k j y5 y6 y7 g L H _ e K hl he J o i=>
      obtain rfl:=dp T e
      have K:g=(optB b f.n (hi - lo) (f.add.hop l f.n,l)).1:=K
      have P:=U (by have u2:=o.nm;rw [Ju] at J;exact(l3 0x9d170801b201b21) J u2)
      rw [show kM b lo (Gu hi) N=repS b (hi - lo) N.n (lowB b lo (N.add,N.n)) from rfl, <-eR] at P
      rw [K] at o;exact ax (Ev.op (.cons (.loc rfl) (.cons (.loc rfl) .nil)) (aK (Gv rfl)) _ _ (P _ _ o i))
end
section
variable {u:U} {d:Nat} {Q:V->Sg->Prop} {X:Sg->Prop} {σ:Sg} {a m:Nat} {N:NF} {p:FP}
theorem bS {C:aC} {ρ:List (Option V)} {i k:Nat} {t:Tr} (h:ρ[i]? =Gu (Gu (.str t.kd))) (b:k<55) {r:Bool} (e:GL (t.kd=k)=r):d8 C ρ σ (.op (.rel .eq) [.loc i,.const (.str k)]) r σ:=
 e▸.of (.op (.cons (.loc h) (.cons .const .nil)) (iG ⟨t.kd_lt,b⟩)) rfl rfl
noncomputable def iC (a:Nat) (t:Tr):List (Option V):=[Gu (.ref a),Gu t.node,Gu bE,Gu (.str t.kd),Gw,Gw,Gw,Gw,Gw,Gw,Gw]
theorem fp (F:bg u) {t:Tr} (q:wpSs tab (ae u d) (sT.drop 1) (iC a t) (d6 Q) X σ):ae u (d+1) 165 [.ref a,t.node,bE] Q X σ:=by
 refine F.call 165 _ rfl d _ Q X σ rfl ?_;exact ar (.op (.cons (.loc rfl) .nil) (BZ t)) rfl q
theorem f5 {C:aC} {t:Tr} (j:Nat) (b:j<=6) (h:∀i,i<j->t.kd≠22+i) (q:wpSs tab C (sT.drop (1+j)) (iC a t) (d6 Q) X σ):wpSs tab C (sT.drop 1) (iC a t) (d6 Q) X σ:=by
 revert C t j;delta Q X σ a;delta C t j
 induction j with
 |zero=>exact q
 |succ j c=>
  delta j;refine c ((l1 482166316316288) b) (fun i e=>h i ((l2 1928470140944) e)) ?_
  have f:=decide_eq_false (h j (GA j))
  have:j=0\/j=1\/j=2\/j=3\/j=4\/j=5:=by lia
  rcases this with rfl|rfl|rfl|rfl|rfl|rfl<;>exact aq (t:=Gz) (bS rfl (by decide) f) (ak q)
theorem ie {f:NF->Nat->NF} (h:∀N s,(f N s).n=N.n):iN (b8 f) 2:=fun N=>by
 have e:(f N.add.add N.n).n=N.n+2:=by rw [h,NF.add_n,NF.add_n]
 exact⟨e,Nat.lt_add_of_pos_right (by decide),GA _⟩
theorem mO (F:bg u) {t:Tr} (s:∀i,i<6->t.kd≠22+i) (h:be a m N p σ)
  (e:N.n+2<=m->∀o σ',be a m N.add.add o σ'->aH (p.ft a) σ (o.ft a) σ'->wpSs tab (ae u (d+1)) (sT.drop 9) [Gu (.ref a),Gu t.node,Gu bE,Gu (.str t.kd),Gu (.int N.n),Gu (.int (N.n+1:Nat)),Gw,Gw,Gw,Gw,Gw] (d6 Q) X σ') (f:m<N.n+2->∀v σ',aH (p.ft a) σ v σ'->X σ'):ae u (d+2) 165 [.ref a,t.node,bE] Q X σ:=by
 refine fp F (f5 6 (GP _) s ?_);refine w_asg (fq F h rfl (fun q r n g b=>aB rfl ?_) fun q=>f ((l2 1859750668304) q) _ _ (.refl _ _))
 have y:=NF.add_n N
 refine w_asg (fq F g rfl (fun q j c k l=>aB rfl ?_) fun q=>f (by lia) _ _ b)
 rw [y];exact e (by lia) j c k (b.trans l)
theorem k6 (F:bg u) (x:Bool) {t:Tr} (z:t.node=.obj 710 [15] [g9 (xM x)]) (o:t.kd=28):mU u (d+2) t (b8 (fun N s=>N.move s (de x) (s+1))) 2:=by
 revert x t;delta u d;delta x t;refine⟨ie fun N s=>NF.move_n _ _ _ _,fun{Q X σ a m N p} h f l=>mO F (fun i A e=>by rw [o] at e;exact(l1 0x1d706918c9181c6806) e A) h (fun q r b v B=>?_) l⟩
 revert r b;delta Q X σ a m N p;delta r b;refine aq (t:=Gx) (bS rfl (by decide) (decide_eq_true o)) (aD ?_)
 refine yv ?_;refine Ev.loc rfl _ _ ?_;rw [aw v.inst rfl rfl];refine Ev.loc rfl _ _ ?_
 have C:Ev (ae u (d+1)) [Gu (.ref a),Gu t.node,Gu bE,Gu (.str t.kd),Gu (.int N.n),Gu (.int (N.n+1:Nat)),Gw,Gw,Gw,Gw,Gw] b (.op (.attr 15) [.loc 1]) (g9 (xM x)) b:=bN (c:=710) (ks:=[15]) (vs:=[g9 (xM x)]) (.loc (by rw [<-z];rfl)) rfl rfl
 refine w_callM (.loc rfl) (dZ rfl rfl) (.cons C .nil) (vf F x ?_);refine Ev.loc rfl _ _ ?_
 have y:N.add.add.n=N.n+2:=by rw [NF.add_n,NF.add_n]
 refine qe F v (s:=N.n) (g:=N.n+1) ((l2 0x9d728101c01) y) (by cases x;exact .inl rfl;exact .inr rfl) ((l2 0x9d728101c07181) y) ?_ fun n j k=>ak (ax (Ev.op (.cons (.loc rfl) (.cons (.loc rfl) .nil)) (aK (Gv rfl)) _ _ (f q _ _ j (B.trans k))))
 show((N.mv++[[]])++[[]])[N.mv.length]? =Gu []
 rw [GO,Iz (GP _),Ps];rfl
theorem sg (F:bg u):mU u (d+2) .empty (b8 (fun N s=>N.hop s (s+1))) 2:=by
 refine⟨ie fun N s=>rfl,fun{Q X σ a m N p} h b g=>mO F (t:=.empty) (fun i l e=>by have:29=22+i:=e;exact(l1 0x1d706918d9181c6806) this l) h (fun q v n o r=>?_) g⟩
 have k:N.add.add.n=N.n+2:=by rw [NF.add_n,NF.add_n]
 refine aq (t:=Gz) (bS (t:=.empty) rfl (by decide) rfl) (aq (t:=Gx) (bS (t:=.empty) rfl (by decide) rfl) (aD (cu F o rfl (.loc rfl) (.loc rfl) ((l2 0x9d728101c01) k) ((l2 0x9d728101c07181) k) fun j c f=>ak (bm ?_))))
 exact ax (Ev.op (.cons (.loc rfl) (.cons (.loc rfl) .nil)) (aK (Gv rfl)) _ _ (b q _ _ c (r.trans f)))
theorem sj (F:bg u):mU u (d+2) .never (b8 (fun N Z=>N)) 2:=by
 refine⟨ie fun N s=>rfl,fun{Q X σ a m N p} h b c=>mO F (t:=.never) (fun i f e=>by have:30=22+i:=e;exact(l1 0x1d706918e9181c6806) this f) h (fun q l g j k=>?_) c⟩
 refine aq (t:=Gz) (bS (t:=.never) rfl (by decide) rfl) (aq (t:=Gz) (bS (t:=.never) rfl (by decide) rfl) (ak (bm ?_)))
 exact ax (Ev.op (.cons (.loc rfl) (.cons (.loc rfl) .nil)) (aK (Gv rfl)) _ _ (b q _ _ j k))
end
section
variable {u:U} {d:Nat} {Q:V->Sg->Prop} {X:Sg->Prop} {σ:Sg} {a m:Nat} {N:NF} {p:FP}
theorem mU.up {D D':Nat} {t:Tr} {b:NF->BR} {c:Nat} (B:mU u D t b c) (h:D<=D'):mU u D' t b c:=⟨B.adds,fun f p e=>(B.call f p e).up h⟩
theorem za (F:bg u) {t:Tr} {D:Nat} {b:Tr->NF->BR} {c:Tr->Nat} {x:Tr} {ps:List Tr} (i:t.kd=22) (j:spine 22 t=x::ps) (k:(spine 22 t).length<=1000) (B:q7 u (D+1) b c (x::ps)):mU u (D+3) t (fun N=>rowB b ps (b x N)) (((spine 22 t).map c).sum):=by
 rw [j] at k ⊢;refine⟨fun N=>?_,fun{Q X σ a m N p} h g l=>fp F (aq (t:=Gx) (bS rfl (by decide) (decide_eq_true i)) (ax ?_))⟩
 ·obtain⟨n,s,v⟩:=(B x (.head _)).adds N
  have:=vt (c:=c) (ps:=ps) (b x N) (fun t i=>(B t (.tail _ i)).adds) ((l3 30857680264224) s n) ((l3 30857680264224) v n)
  rw [n,I4] at this;rw [Hs,Ia];exact this
 ·refine gQ (lV ?_);refine Ev.loc rfl _ _ ?_;refine ay (.cons (.loc rfl) (.cons .const .nil)) (lN F (t:=t) (.inl rfl) (j▸k) fun o e=>?_);refine Ev.loc rfl _ _ ?_;rw [j];exact Dx F B k (h.ext e) (fun q y f z r=>g q y f z ((aH.ext e).trans r)) fun q A f r=>l q A f ((aH.ext e).trans r)
theorem pN (F:bg u) {t:Tr} {D:Nat} {b:Tr->NF->BR} {c:Tr->Nat} (i:t.kd=23) (n:(spine 23 t).length<=1000) (B:q7 u (D+1) b c (spine 23 t)):mU u (D+3) t (ck b (spine 23 t)) (((spine 23 t).map c).sum+2):=by
 refine⟨nN fun t i=>(B t i).adds,fun{Q X σ a m N p} h g j=>fp F (aq (t:=Gz) (bS rfl (by decide) (by rw [i];rfl)) (ak (aq (t:=Gx) (bS rfl (by decide) (decide_eq_true i)) (ax ?_))))⟩
 refine gQ ?_;refine Ev.loc rfl _ _ ?_;refine ay (.cons (.loc rfl) (.cons .const .nil)) (lN F (t:=t) (.inr rfl) n fun k e=>?_);refine Ev.loc rfl _ _ ?_;exact vT F B n (h.ext e) (fun q o f r l=>g q o f r ((aH.ext e).trans l)) fun q s f l=>j q s f ((aH.ext e).trans l)
theorem jM (F:bg u) {t l:Tr} {D j:Nat} {c:GW} {b:NF->BR} {n:Nat} (g f:Bool) (r:j<=5) (s:t.kd=22+j) (v:t.node=.obj c [18] [l.node]) (y:eF tab c 18 [(18,l.node)]=Gu l.node) (B:mU u (D+1) l b n)
  (k:∀ {C:aC} {Q:V->Sg->Prop} {X:Sg->Prop} {σ:Sg} {a:Nat},wpE tab C (iC a t) (.callF 186 [.loc 0,.op (.attr 18) [.loc 1],.loc 2,.const (.bool g),.const (.bool f)]) Q X σ->wpSs tab C (sT.drop (1+j)) (iC a t) (d6 Q) X σ):mU u (D+3) t (cg b g f) (n+2):=by
 refine⟨ip B.adds g f,fun{Q X σ a m N p} h o q=>fp F (f5 j ((l1 117440624256) r) (fun i z e=>(l3 0x1c101d70691829d71691826) z e s) (k ?_))⟩
 have A:Ev (ae u (D+2)) (iC a t) σ (.op (.attr 18) [.loc 1]) l.node σ:=bN (c:=c) (ks:=[18]) (vs:=[l.node]) (.loc (by rw [<-v];rfl)) rfl y
 exact ay (.cons (.loc rfl) (.cons A (.cons (.loc rfl) (.cons .const (.cons .const .nil))))) (vu F B g f h o q)
theorem rn (F:bg u) {t:Tr} {D:Nat} {b:NF->BR} {c lo:Nat} {hi:Option Nat} (g:lo<=1000) (l:∀k,hi=Gu k->lo<=k/\k<=1000) (B:mU u (D+2) t b c):mU u (D+5) (.rep t lo hi) (kM b lo hi) (iL c lo hi):=by
 refine⟨pj B.adds fun k e=>(l k e).1,fun{Q X σ a m N p} h f j=>fp F (f5 5 (by decide) (fun i hi e=>by have:27=22+i:=e;exact(l1 0x1d706918b9181c5806) this hi) (aq (t:=Gx) (bS rfl (by decide) (decide_eq_true rfl)) (ax ?_)))⟩
 exact ay (.cons (.loc rfl) (.cons (.loc rfl) (.cons (.loc rfl) .nil))) (vm F B g l h f j)
theorem i5 (F:bg u) (n:Nat) (y:n<=900):∀ {t:Tr},Fam n t->mU u (3 * n+2) t (bld n t) (cnt n t).1:=by
 have leaf:∀ {n:Nat} {t:Tr},t.leaf->mU u (3 * n+2) t (bld n t) (cnt n t).1:=fun{n t} g=>by
  have E:(cnt n t).1=2:=by cases t<;>first|exact g.elim|(cases n<;>rfl)
  rw [E]
  cases t with
  |a=>rw [show bld n .a=b8 (fun N s=>N.move s (de Gz) (s+1)) by funext N;cases n<;>rfl];exact k6 F Gz rfl rfl
  |b=>rw [show bld n .b=b8 (fun N s=>N.move s (de Gx) (s+1)) by funext N;cases n<;>rfl];exact k6 F Gx rfl rfl
  |empty=>rw [show bld n .empty=b8 (fun N s=>N.hop s (s+1)) by funext N;cases n<;>rfl];exact sg F
  |never=>rw [show bld n .never=b8 (fun N Z=>N) by funext N;cases n<;>rfl];exact sj F
  |_=>exact g.elim
 induction n with
 |zero=>
  intro t h
  cases h with
  |leaf g=>exact leaf g
 |succ n i=>
  replace i:=@i ((l1 0x1b49893871801b4989380) y)
  intro t h
  cases h with
  |leaf g=>exact leaf g
  |@cat _ l r g z=>
   obtain⟨A,B⟩:=cz (.inl rfl) (.cat g z) rfl
   have G:spine 22 (.cat l r)=spine 22 l++[r]:=rfl
   cases v:spine 22 (.cat l r) with
   |nil=>rw [G] at v;cases H:spine 22 l<;>rw [H] at v<;>cases v
   |cons x C=>
    have:=za F (t:=.cat l r) (D:=3 * n+1) (b:=bld n) (c:=fun t=>(cnt n t).1) rfl v (GC B ((l1 0x1b49893871801b89e9387280) y)) (fun t f=>i (A t (v▸f)))
    have e:bld (n+1) (.cat l r)=fun N=>rowB (bld n) C (bld n x N):=by
     funext N
     show(match spine 22 (.cat l r) with
      |p::C=>rowB (bld n) C (bld n p N)
      |[]=>⟨N,0,0⟩)=_
     rw [v]
    rw [e];exact this.up (l1 0x1b728a718038738718a038)
  |@alt _ l r g z=>
   obtain⟨A,B⟩:=cz (.inr rfl) (.alt g z) rfl;exact(pN F (t:=.alt l r) (D:=3 * n+1) (b:=bld n) (c:=fun t=>(cnt n t).1) rfl (GC B ((l1 0x1b49893871801b89e9387280) y)) (fun t f=>i (A t f))).up (l1 0x1b728a718038738718a038)
  |@star _ t f=>exact(jM F (t:=.star t) (j:=2) (D:=3 * n+1) Gx Gx (by decide) rfl rfl rfl (i f) fun q=>aq (t:=Gx) (bS rfl (by decide) (decide_eq_true rfl)) (ax q)).up (l1 0x1b728a718038738718a038)
  |@plus _ t f=>exact(jM F (t:=.plus t) (j:=3) (D:=3 * n+1) Gz Gx (by decide) rfl rfl rfl (i f) fun q=>aq (t:=Gx) (bS rfl (by decide) (decide_eq_true rfl)) (ax q)).up (l1 0x1b728a718038738718a038)
  |@opt _ t f=>exact(jM F (t:=.opt t) (j:=4) (D:=3 * n+1) Gx Gz (by decide) rfl rfl rfl (i f) fun q=>aq (t:=Gx) (bS rfl (by decide) (decide_eq_true rfl)) (ax q)).up (l1 0x1b728a718038738718a038)
  |@repN _ t I o f=>exact(rn F (D:=3 * n) (hi:=Gw) ((l1 7643812228666240) o) (fun Z h=>nomatch h) (i f)).up (l1 0x1b728a718038758a038)
  |@repS _ t I hi o J K f=>exact(rn F (D:=3 * n) (hi:=Gu hi) (by exact(l1 7643812228666240) o) (fun k h=>by cases h;exact⟨(l2 454040336) J,(l1 7661404414710656) K⟩) (i f)).up (by exact(l1 0x1b728a718038758a038))
end
theorem jD {xs:List Nat}:∀ {ls:List (List V)} {σ:Sg},xs.length=ls.length->xs.Nodup->(∀(i:Nat) x l,xs[i]? =Gu x->ls[i]? =Gu l->σ.cell x=.list l)->(∀x∈xs,x<σ.n)->
  ∃σ',FrzL σ (xs.map .ref) (ls.map .lst) σ'/\σ'.n=σ.n/\∀y,y∉xs->σ'.cell y=σ.cell y:=by
 induction xs with
 |nil=>
  intro ls σ h _ _ _
  cases ls with
  |nil=>exact⟨σ,.nil,rfl,fun Z Z=>rfl⟩
  |cons _ _=>cases h
 |cons x xs m=>
  intro ls σ f c g j
  cases ls with
  |nil=>cases f
  |cons l ls=>
   rw [IZ] at c
   obtain⟨σ',e,n,o⟩:=m (ls:=ls) (σ:=σ.set x .dead) (Mz f) c.2 (fun i y k b p=>by
    have d:y≠x:=fun e=>c.1 (by rw [<-e];exact GN b)
    rw [af d];exact g (i+1) y k b p) (fun y b=>j y (.tail _ b))
   exact⟨σ',.list (g 0 x l rfl rfl) (j x (.head _)) .all e,n,fun y b=>(o y fun h=>b (.tail _ h)).trans (af fun e=>b (e▸.head _))⟩
noncomputable def D7 (N:NF):V:=.lst ((N.mv.map sX).map .lst)
noncomputable def Ew (N:NF):V:=.lst ((N.hp.map bw).map .lst)
noncomputable def bq (m:Nat) (N:NF) (tags:List Nat) (first:Nat):V:=.obj 147 [0,1,2,3,4] [.int m,D7 N,Ew N,.dic (tags.map fun(t:Nat)=>(t:Int)) (tags.map fun Z=>.int 3),.int first]
section
variable {u:U} {d:Nat} {Q:V->Sg->Prop} {X:Sg->Prop} {σ:Sg} {a m:Nat} {N:NF} {p:FP}
structure DA (a m:Nat) (N:NF) (p:FP) (tags:List Nat) (first:Nat) (σ σ':Sg):Prop where
 n:σ'.n=σ.n
 inst:σ'.cell a=.inst 147 [(0,.int m),(1,.ref p.b),(2,.ref p.c),(3,.ref p.t),(4,.int first)]
 ct:σ'.cell p.t=.dict (tags.map fun(t:Nat)=>((t:Int),V.int 3))
 o:∀x,x≠a->x≠p.t->σ'.cell x=σ.cell x
theorem xe (h:be a m N p σ) {tags:List Nat} {first:Nat} {σ':Sg} (e:DA a m N p tags first σ σ'):∃c,FrzL σ' [.ref a] [bq m N tags first] c/\c.n=σ'.n/\∀x,¬p.ft a x->c.cell x=σ'.cell x:=by
 revert tags first σ';delta σ a m N p;delta tags first σ'
 have G:=fun x b=>h.lt x (.inr (.inr (.inr (.inr (.inl b)))))
 have H:=fun x b=>h.lt x (.inr (.inr (.inr (.inr (.inr b)))))
 have A:=h.ab
 obtain⟨j,I,n,o⟩:=jD (xs:=p.bs) (ls:=N.mv.map sX) (σ:=((σ'.set a .dead).set p.b .dead)) (by rw [GJ,h.lb];rfl) h.nb (fun i x l b q=>by
  obtain⟨r,g,rfl⟩:=GY.mp ((Hg).symm.trans q)
  have f:=h.fb x (GN b)
  rw [af f.2.1,af f.1,e.o x f.1 f.2.2.2];exact h.cm i x r b g) (fun x b=>by show x<σ'.n;rw [e.n];exact G x b)
 delta j
 have J:∀x∈p.cs,x∉p.bs:=fun x b s=>h.dj x s b
 obtain⟨k,K,B,C⟩:=jD (xs:=p.cs) (ls:=N.hp.map bw) (σ:=j.set p.c .dead) (by rw [GJ,h.lc,h.ok.len]) h.nc (fun i x l b q=>by
  obtain⟨r,g,rfl⟩:=GY.mp ((Hg).symm.trans q)
  have E:=GN b
  have f:=h.fc x E
  rw [af f.2.2.1,o x (J x E),af f.2.1,af f.1,e.o x f.1 f.2.2.2];exact h.ch i x r b g) (fun x b=>by show x<j.n;rw [n];show x<σ'.n;rw [e.n];exact H x b)
 delta k;refine⟨k.set p.t .dead,?_,B.trans n,fun x b=>?_⟩
 rotate_left
 ·rw [af fun e=>b (.inr (.inr (.inr (.inl e)))),C x fun h=>b (.inr (.inr (.inr (.inr (.inr h))))),af fun e=>b (.inr (.inr (.inl e))),o x fun h=>b (.inr (.inr (.inr (.inr (.inl h))))),af fun e=>b (.inr (.inl e)),af fun e=>b (.inl e)]
 have L:a<σ'.n:=by rw [e.n];exact h.la
 have M:p.b<(σ'.set a .dead).n:=by show p.b<σ'.n;rw [e.n];exact h.lbb
 have O:(σ'.set a .dead).cell p.b=.list (p.bs.map .ref):=by rw [af A.1.symm,e.o _ A.1.symm A.2.2.2.2.1];exact h.cb
 have F:∀y,(y=p.c\/y=p.t)->y∉p.bs:=fun y s z=>by
  have:=h.fb y z
  rcases s with rfl|rfl
  ·exact this.2.2.1 rfl
  ·exact this.2.2.2 rfl
 have P:p.c<j.n:=by rw [n];show p.c<σ'.n;rw [e.n];exact h.lcc
 have R:j.cell p.c=.list (p.cs.map .ref):=by rw [o _ (F _ (.inl rfl)),af A.2.2.2.1.symm,af A.2.1.symm,e.o _ A.2.1.symm A.2.2.2.2.2];exact h.cc
 have S:p.t<k.n:=by rw [B];show p.t<j.n;rw [n];show p.t<σ'.n;rw [e.n];exact h.lt _ (.inr (.inr (.inr (.inl rfl))))
 have T:k.cell p.t=.dict (tags.map fun(t:Nat)=>((t:Int),V.int 3)):=by
  rw [C _ fun z=>(h.fc _ z).2.2.2 rfl,af A.2.2.2.2.2.symm,o _ (F _ (.inr rfl)),af A.2.2.2.2.1.symm,af A.2.2.1.symm];exact e.ct
 have D:FrzL k [.ref p.t,.int first] [.dic (tags.map fun(t:Nat)=>(t:Int)) (tags.map fun Z=>.int 3),.int first] (k.set p.t .dead):=by
  have:=FrzL.dict T S .all (.keep (v:=.int first) .nil)
  rw [HJ,HJ] at this;exact this
 exact .inst e.inst L (.keep (.list O M I (.list R P K D))) .nil
end
section
variable {u:U} {d:Nat} {Q:V->Sg->Prop} {X:Sg->Prop} {σ:Sg} {a m:Nat} {N:NF} {p:FP} {C:aC}
theorem mZ {i:Nat} (hi:i<σ.n) (H:σ.cell i=.inst 147 []) (I:m<=10000) (s:∀σ',σ.n<=σ'.n->(∀x,x<σ.n->x≠i->σ'.cell x=σ.cell x)->be i m ⟨[],[]⟩ ⟨σ.n,σ.n+1,σ.n+2,[],[]⟩ σ'->Q .none σ'):
  wpSs tab C F9 (dR 2 [0,1] [.ref i,.int m]) (d6 Q) X σ:=by
 revert i;delta Q X σ m C;delta i
 have A:i≠σ.n:=G9 hi
 have z:i≠σ.n+1:=G9 (GF hi)
 have B:i≠σ.n+2:=G9 (GF (GF hi))
 refine aG (.loc rfl) (.loc rfl) (aS H hi (G7 _) rfl) ?_;generalize o:σ.set i _=t;delta t
 have q:t.n=σ.n:=by rw [<-o];rfl
 have J:t.cell i=.inst 147 [(0,.int m)]:=by rw [<-o];exact am
 have K:∀x,x≠i->t.cell x=σ.cell x:=fun x c=>by rw [<-o];exact af c
 refine aG (.op .nil (bP (G7 _))) (.loc rfl) (aS ((au (q▸hi)).trans J) (GF (q▸hi)) (Gv rfl) rfl) ?_;generalize g:(t.alloc (.list [])).set i _=k;delta k
 have r:k.n=σ.n+1:=by rw [<-g, <-q];rfl
 have L:k.cell i=.inst 147 [(0,.int m),(1,.ref σ.n)]:=by rw [<-g, <-q];exact am
 have M:k.cell σ.n=.list []:=by rw [<-g,af (HK hi), <-q];exact ah
 have O:∀x,x<σ.n->x≠i->k.cell x=σ.cell x:=fun x c b=>by rw [<-g,af b,au (q▸c)];exact K x b
 have F:i<k.n:=by rw [r];exact GF hi
 refine aG (.op .nil (bP (G7 _))) (.loc rfl) (aS ((au F).trans L) (GF F) (Gv rfl) rfl) ?_;generalize f:(k.alloc (.list [])).set i _=e;delta e
 have y:e.n=σ.n+2:=by rw [<-f];show k.n+1=_;rw [r]
 have P:e.cell i=.inst 147 [(0,.int m),(1,.ref σ.n),(2,.ref (σ.n+1))]:=by rw [<-f, <-r];exact am
 have R:e.cell (σ.n+1)=.list []:=by rw [<-f,af z.symm, <-r];exact ah
 have S:e.cell σ.n=.list []:=by rw [<-f,af (HK hi),au (by rw [r];exact GA _)];exact M
 have T:∀x,x<σ.n->x≠i->e.cell x=σ.cell x:=fun x c b=>by rw [<-f,af b,au (by rw [r];exact GF c)];exact O x c b
 have G:i<e.n:=by rw [y];exact GF (GF hi)
 refine aG (v:=.ref i) (x:=.ref e.n) (σ₁:=e.alloc (.dict [])) (.op .nil rfl) (.loc rfl) (aS ((au G).trans P) (GF G) (Gv rfl) rfl) ?_;generalize j:(e.alloc (.dict [])).set i _=n;delta n
 have D:n.n=σ.n+3:=by rw [<-j];show e.n+1=_;rw [y]
 have U:n.cell i=.inst 147 [(0,.int m),(1,.ref σ.n),(2,.ref (σ.n+1)),(3,.ref (σ.n+2))]:=by rw [<-j, <-y];exact am
 have V:n.cell (σ.n+2)=.dict []:=by rw [<-j,af B.symm, <-y];exact ah
 have E:∀x,x<σ.n+2->x≠i->n.cell x=e.cell x:=fun x c b=>by rw [<-j,af b,au (by rw [y];exact c)]
 have W:i<n.n:=by rw [D];exact GF (GF (GF hi))
 refine aG .const (.loc rfl) (aS U W (Gv rfl) rfl) (ak (s _ (by show σ.n<=n.n;rw [D];exact HN _ _) (fun x c b=>by rw [af b,E x (GF (GF c)) b];exact T x c b) ?_))
 refine⟨.nil,G7 _,I,am,by rw [af A.symm,E _ (by exact(l1 29829120)) A.symm];exact S,by rw [af z.symm,E _ (by exact(l1 122180104576)) z.symm];exact R,by rw [af B.symm];exact V,rfl,rfl,(fun i x l h=>by cases h),(fun i x l h=>by cases h),.nil,.nil,(fun Z h=>(nomatch h)),(fun Z h=>(nomatch h)),(fun Z h=>(nomatch h)),
  ⟨A,z,B,by show σ.n≠σ.n+1;exact(l1 2641461254),by show σ.n≠σ.n+2;exact(l1 2641526790),by show σ.n+1≠σ.n+2;exact(l1 0x9d728071806)⟩,fun x c=>?_⟩
 show x<n.n
 rw [D];rcases c with rfl|rfl|rfl|rfl|c|c
 ·exact(l2 1928470149136) hi
 ·show σ.n<_;exact(l1 29833216)
 ·show σ.n+1<_;exact(l1 122196881792)
 ·show σ.n+2<_;exact(l1 122196882048)
 ·cases c
 ·cases c
theorem uc (F:bg u) {ρ:List (Option V)} {e:E} (g:Ev (ae u (d+1)) ρ σ e (.int m) σ) (i:m<=10000) (c:∀p σ',aZ σ σ'->be σ.n m ⟨[],[]⟩ p σ'->(∀x,p.ft σ.n x->σ.n<=x)->Q (.ref σ.n) σ'):wpE tab (ae u (d+1)) ρ (.callC 147 [e]) Q X σ:=by
 refine w_callC (.cons g .nil) (f:=95) rfl (F.call 95 _ rfl d _ _ X _ rfl (mZ (GA _) ah i fun σ' j k l=>⟨rfl,c _ σ' ⟨GC (Hn _) j,fun x b=>(k x (GF b) (G9 b)).trans (au b)⟩ l ?_⟩));intro x b;rcases b with rfl|rfl|rfl|rfl|b|b
 ·exact GP _
 ·exact Hn _
 ·show σ.n<=σ.n+1+1;exact(l1 117868795904)
 ·show σ.n<=σ.n+1+2;exact(l1 117885573120)
 ·cases b
 ·cases b
theorem sk (F:bg u) {ρ:List (Option V)} (c:∀p σ',aZ σ σ'->be σ.n 10000 ⟨[],[]⟩ p σ'->(∀x,p.ft σ.n x->σ.n<=x)->Q (.ref σ.n) σ'):wpE tab (ae u (d+1)) ρ (.callC 147 []) Q X σ:=by
 refine w_callC .nil (f:=95) rfl (F.callD 95 _ 10000 rfl rfl d _ _ X _ rfl (mZ (m:=10000) (GA _) ah (GP _) fun σ' e g i=>⟨rfl,c _ σ' ⟨GC (Hn _) e,fun x b=>(g x (GF b) (G9 b)).trans (au b)⟩ i ?_⟩));intro x b;rcases b with rfl|rfl|rfl|rfl|b|b
 ·exact GP _
 ·exact Hn _
 ·show σ.n<=σ.n+1+1;exact(l1 117868795904)
 ·show σ.n<=σ.n+1+2;exact(l1 117885573120)
 ·cases b
 ·cases b
theorem aH.toExt {P c:Nat->Prop} {σ₀ σ σ':Sg} (E:aZ σ₀ σ) (S:aH P σ c σ') (h:∀x,P x->σ₀.n<=x):aZ σ₀ σ':=
 ⟨GC E.n S.n,fun x b=>(S.keep x (GQ b E.n) fun z=>absurd b (HQ.mpr (h x z))).trans (E.cell x b)⟩
theorem rK (F:bg u) {n:Nat} {t:Tr} (P:n<=900) (R:Fam n t) (S:m<=10000) (D:(cnt n t).1<=m->(bld n t ⟨[],[]⟩).N.Ok->∀σ',aZ σ σ'->Q (bq m (bld n t ⟨[],[]⟩).N [(bld n t ⟨[],[]⟩).l] (bld n t ⟨[],[]⟩).f) σ') (I:m<(cnt n t).1->∀σ',aZ σ σ'->Q .none σ'):
  ae u (3 * n+3) 925 [t.node,bE,.int m] Q X σ:=by
 revert n t;delta u Q X σ m;delta n t
 have B:=i5 F n P R
 refine mcall_frz (Q':=fun v σ'=>(∃c,FrzL σ' [v] [bq m (bld n t ⟨[],[]⟩).N [(bld n t ⟨[],[]⟩).l] (bld n t ⟨[],[]⟩).f] c/\(cnt n t).1<=m/\(bld n t ⟨[],[]⟩).N.Ok/\aZ σ c)\/(v=.none/\m<(cnt n t).1/\aZ σ σ')) ?_ fun v σ' h=>?_
 ·refine F.call 925 _ rfl (3 * n+2) _ _ X σ rfl ?_;refine w_asg (uc (d:=3 * n+1) F (.loc rfl) S fun p s i G j=>aB rfl ?_);delta p s;refine uX (w_asg (ay (.cons (.loc rfl) (.cons (.loc rfl) (.cons (.loc rfl) .nil))) (B.call G (fun q l f b g=>aB rfl (ak ?_)) fun q Z f g=>?_)))
  ·delta l f
   have o:=g.toExt i j
   have A:=b.ab
   have H:∀x,l.ft σ.n x->σ.n<=x:=fun x y=>(g.foot x y).elim (j x) fun h=>GC i.n h
   refine aD (w_callM (.loc rfl) (aw b.inst rfl rfl) (.cons (.loc rfl) .nil) (F.call 123 _ rfl (3 * n+1) _ _ X _ rfl (aG (.loc rfl) (.loc rfl) (aS b.inst b.la (Gv rfl) rfl) (ak ?_))));generalize z:f.set σ.n _=r;delta r
   have J:r.cell σ.n=.inst 147 [(0,.int m),(1,.ref l.b),(2,.ref l.c),(3,.ref l.t),(4,.int (bld n t ⟨[],[]⟩).f)]:=by rw [<-z];exact am
   have K:∀x,x≠σ.n->r.cell x=f.cell x:=fun x y=>by rw [<-z];exact af y
   have L:r.n=f.n:=by rw [<-z];rfl
   have T:r.cell l.t=.dict []:=(K _ A.2.2.1.symm).trans b.ct
   have M:l.t<r.n:=by rw [L];exact b.lt _ (.inr (.inr (.inr (.inl rfl))))
   refine aD (w_callM (.loc rfl) (aw J rfl rfl) (.cons (.loc rfl) (.cons .const .nil)) (F.call 130 _ rfl (3 * n+1) _ _ X _ rfl (bT (.loc rfl) (.op (.cons (.loc rfl) .nil) (a7 J rfl)) (.loc rfl) (cw T M (G7 _)) (ak ?_))));refine ax (Ev.loc rfl _ _ (.inl ?_));obtain⟨c,e,U,V⟩:=xe b (tags:=[(bld n t ⟨[],[]⟩).l]) (first:=(bld n t ⟨[],[]⟩).f) (σ':=r.set l.t (.dict (putI (bld n t ⟨[],[]⟩).l (.int 3) []))) ⟨L,(af A.2.2.1).trans J,am,fun x W Y=>(af Y).trans (K x W)⟩;refine⟨c,e,by simpa [NF.n] using q,b.ok,?_⟩
   refine⟨by rw [U];show σ.n<=r.n;rw [L];exact o.n,fun x y=>?_⟩
   have O:¬l.ft σ.n x:=fun h=>absurd y (HQ.mpr (H x h))
   rw [V x O,af fun e=>O (.inr (.inr (.inr (.inl e)))),K x (G9 y)];exact o.cell x y
  ·refine ax (Ev.const _ _ (.inr ⟨rfl,by simpa [NF.n] using q,g.toExt i j⟩))
 ·rcases h with ⟨c,e,q,k,E⟩ |⟨rfl,q,E⟩
  ·exact⟨_,c,e,D q k c E⟩
  ·exact⟨_,_,.all,I q _ E⟩
end
theorem xX (x:Int):Kg (Kg x)=x:=by unfold Kg;lia
theorem fu (a b:Nat):JQ (a:Int) (b:Int)=((a||| b:Nat):Int):=by
 unfold JQ I7;rw [decide_eq_false (by unfold Kg;lia:¬(0<=Builtin.bitNot (a:Int))),decide_eq_false (by unfold Kg;lia:¬(0<=Builtin.bitNot (b:Int)))]
 simp only [xX,Jb]
theorem yq (a b:Nat):I7 (a:Int) (b:Int)=((a&&& b:Nat):Int):=by
 unfold I7;rw [decide_eq_true (Hc a),decide_eq_true (Hc b)];simp only [Jb]
theorem qR (a:Nat):I7 (a:Int) 1=((a % 2:Nat):Int):=by
 rw [show(1:Int)=((1:Nat):Int) from rfl,yq,Nat.and_one_is_mod]
theorem qL (a k:Nat):(a:Int).fdiv (2^((k:Int)).toNat)=((a / 2^k:Nat):Int):=by
 rw [MN _ (O3 (by decide)),Jb,Int.natCast_ediv,OU];rfl
theorem rD (k:Nat):(1:Int) * 2^((k:Int)).toNat=((2^k:Nat):Int):=by
 rw [Mc,Jb,OU];rfl
noncomputable def bitsF:Nat->Nat->Nat->List Nat
 |0,_,_=>[]
 |n+1,m,k=>if m=0 then [] else(if m % 2=1 then [k] else [])++bitsF n (m / 2) (k+1)
noncomputable def a8 (m:Nat):List Nat:=bitsF m m 0
theorem je (n k:Nat):bitsF n 0 k=[]:=by cases n<;>rfl
theorem s8 {x:Nat} {n:Nat}:∀ {m k:Nat},m<=n->(x∈bitsF n m k↔k<=x/\m.testBit (x - k)=Gx):=by
 induction n with
 |zero=>
  intro m k h
  have:m=0:=NJ.mp h
  subst this;exact⟨fun h=>(nomatch h),fun h=>by rw [Ht] at h;cases h.2⟩
 |succ n d=>
  intro m k h;unfold bitsF
  by_cases z:m=0
  ·subst z;rw [if_pos rfl,Ht];exact⟨fun h=>(nomatch h),fun h=>by cases h.2⟩
  ·rw [if_neg z,GH,d (by lia)]
   by_cases q:x=k
   ·subst q;rw [Ps,Nat.testBit_zero]
    by_cases o:m % 2=1
    ·rw [if_pos o];simp [o]
    ·rw [if_neg o];simp [o];lia
   ·have e:(x∈if m % 2=1 then [k] else [])↔False:=by
     split
     ·simp [q]
     ·simp
    rw [e,false_or];constructor
    ·rintro⟨b,c⟩
     refine⟨(l2 1861625060112) b,?_⟩;rw [show x - k=(x - (k+1))+1 from(Nd (Oi b)).symm,OD]
     exact c
    ·rintro⟨b,c⟩
     have f:k+1<=x:=((l2 1928468722048) (H8 b (Hz q)))
     rw [show x - k=(x - (k+1))+1 from(Nd (Oi (H8 b (Hz q)))).symm,OD] at c
     exact⟨f,c⟩
theorem du {x m:Nat}:x∈a8 m↔m.testBit x=Gx:=by
 rw [s8 (GP _)];simp
theorem s9 {K:Nat}:∀ {n m k:Nat},m<2^K->(bitsF n m k).length<=K:=by
 induction K with
 |zero=>
  intro n m k h
  have:m=0:=Nat.lt_one_iff.mp h
  subst this;rw [je];exact GP _
 |succ K b=>
  intro n m k h
  cases n with
  |zero=>exact G7 _
  |succ n=>
   show(if m=0 then _ else _:List Nat).length<=_
   split
   ·exact G7 _
   ·rw [GG]
    have c:=b (n:=n) (m:=m / 2) (k:=k+1) (Nat.div_lt_of_lt_mul (by rw [Nat.mul_comm, <-Pt];exact h))
    have d:(if m % 2=1 then [k] else []:List Nat).length<=1:=by split<;>exact Gv rfl
    exact(l3 0x1b1801b211b7182710) d c
theorem oJ {K m:Nat} (h:m<2^K):(a8 m).length<=K:=s9 h
theorem bA (l:List Nat):(bw l).length=l.length:=GJ _
section
variable {u:U} {d:Nat} {Q:V->Sg->Prop} {X:Sg->Prop} {σ:Sg}
inductive BitI (σ₀:Sg) (M:Nat):Nat->List (Option V)->Sg->Prop where
 |mk (m k n:Nat) (acc:List Nat) (σ:Sg) (hm:m<=n) (e:a8 M=acc++bitsF n m k) (E:aZ σ₀ σ) (hn:σ₀.n<σ.n) (hc:σ.cell σ₀.n=.list (bw acc)):BitI σ₀ M m [Gu (.int M),Gu (.ref σ₀.n),Gu (.int k),Gu (.int m)] σ
theorem pG (F:bg u) {M K:Nat} (B:M<2^K) (C:K<=100000) (i:∀σ',aZ σ σ'->Q (.lst (bw (a8 M))) σ'):ae u (d+1) 80 [.int M] Q X σ:=by
 revert M K;delta u d Q X σ;delta M K;refine rf (F.call 80 _ rfl d _ _ X σ rfl ?_);refine ar (.op .nil (bP (G7 _))) rfl (ar .const rfl (ar (.loc rfl) rfl ?_))
 have D:=oJ B
 refine eQ (BitI σ M) (n:=M) (.mk M 0 M [] _ (GP _) rfl (.alloc _ _) (GA _) ah) fun m G σ' h=>?_;delta m G σ'
 cases h with
 |mk k n f _ H e E j l=>
  delta k n f;refine⟨GL ((m:Int) >0),σ',.of (.op (.cons (.loc rfl) (.cons .const .nil)) rfl) rfl rfl,fun h=>?_,fun h y p Z=>?_⟩
  ·have z:m=0:=by have:=of_decide_eq_false h;lia
   subst z;rw [je,G1] at e;refine ax (Ev.loc rfl _ _ ⟨_,_,rfl,l,j,?_⟩);rw [<-e];exact i _ (E.kill (GP _))
  ·delta y
   have z:m≠0:=by have:=of_decide_eq_true h;lia
   cases n with
   |zero=>exact absurd (NJ.mp H) z
   |succ n=>
    delta n;rw [show bitsF (n+1) m k=(if m % 2=1 then [k] else [])++bitsF n (m / 2) (k+1) by rw [bitsF,if_neg z], <-GO] at e
    have q:(bw f).length<=1000000:=by
     have:=congrArg Jh e
     simp only [GG] at this;rw [bA];exact(l5 0x9d7372101b401b09a969891841b09492949f81) this D C
    have g:∀b c,aZ σ b->σ.n<b.n->b.cell σ.n=.list (bw c)->a8 M=c++bitsF n (m / 2) (k+1)->wpSs tab (ae u d) [.assign (.loc 3) (.op (.bin .shr) [.loc 3,.const (.int 1)]),.assign (.loc 2) (.op (.bin .add) [.loc 2,.const (.int 1)])] [Gu (.int M),Gu (.ref σ.n),Gu (.int k),Gu (.int m)] y X b:=fun b c I r s J=>by
     have L:dT .shr (m:Int) 1=Gu ((m / 2:Nat):Int):=by rw [z7 (by decide),show(1:Int)=((1:Nat):Int) from rfl,qL]
     refine ar (.op (.cons (.loc rfl) (.cons .const .nil)) (aF L)) rfl (ar (.op (.cons (.loc rfl) (.cons .const .nil)) (aF rfl)) rfl (ak ?_));exact(p _ _ _ (Nat.div_lt_self (IA z) (by decide)) (.mk (m / 2) (k+1) n c b (by lia) J I r s)).1
    have A:aI tab (.bin .band) [.int m,.int 1] σ'=Gu (.int ((m % 2:Nat):Int),σ'):=aF (congrArg Gu (qR m))
    by_cases o:m % 2=1
    ·refine aq (t:=Gx) (.of (v:=.bool (((m % 2:Nat):Int) ==1)) (.op (.cons (.op (.cons (.loc rfl) (.cons .const .nil)) A) (.cons .const .nil)) rfl) (by rw [o];rfl) rfl) ?_
     refine aD (Ev.app (.loc rfl) (aM l) (.loc rfl) (bI l j q) _ _ (ak ?_));rw [if_pos o] at e;exact g _ (f++[k]) (E.set (GP _)) j (by unfold bw;rw [G2];exact am) e
    ·have N:m % 2=0:=by lia
     refine aq (t:=Gz) (.of (v:=.bool (((m % 2:Nat):Int) ==1)) (.op (.cons (.op (.cons (.loc rfl) (.cons .const .nil)) A) (.cons .const .nil)) rfl) (by rw [N];rfl) rfl) (ak ?_)
     rw [if_neg o,G1] at e;exact g _ f E j l e
end
section
variable {u:U} {d:Nat} {Q:V->Sg->Prop} {X:Sg->Prop} {σ σ':Sg}
theorem jF {f:GW} {v w b:V} (e:FrzL σ [w] [b] σ') (m:ae u d f [v,b] Q X σ'):ae u d f [v,w] Q X σ:=kG (.keep e) m
end
structure PF where
 c:Nat
 ms:List Nat
 fo:List Nat
structure PF.Ok (P:PF):Prop where
 len:P.ms.length=P.fo.length
 sz:P.ms.length<=P.c+1
def F3 (a b c x:Nat):Prop:=x=a\/x=b\/x=c
structure aO (a b c:Nat) (most:Nat) (P:PF) (σ:Sg):Prop where
 ok:P.Ok
 m1:most<=1000
 cm:P.c<=most
 inst:σ.cell a=.inst 324 [(0,.int most),(7,.int P.c),(8,bE),(9,.ref b),(10,.ref c)]
 cb:σ.cell b=.list (bw P.ms)
 cc:σ.cell c=.list (bw P.fo)
 ab:a≠b
 ac:a≠c
 bc:b≠c
 la:a<σ.n
 lb:b<σ.n
 lc:c<σ.n
theorem aO.mkl {a b c most:Nat} {P:PF} {σ:Sg} (h:aO a b c most P σ):P.ms.length<=1001:=GC h.ok.sz (Hq (GC h.cm h.m1))
theorem aO.fol {a b c most:Nat} {P:PF} {σ:Sg} (h:aO a b c most P σ):P.fo.length<=1001:=h.ok.len▸h.mkl
theorem aO.ext {a b c most:Nat} {P:PF} {σ σ':Sg} (h:aO a b c most P σ) (E:aZ σ σ'):aO a b c most P σ':=
 ⟨h.ok,h.m1,h.cm,(E.cell _ h.la).trans h.inst,(E.cell _ h.lb).trans h.cb,(E.cell _ h.lc).trans h.cc,h.ab,h.ac,h.bc,GQ h.la E.n,GQ h.lb E.n,GQ h.lc E.n⟩
noncomputable def mF (f:Nat) (fo:List Nat) (p:Nat):List Nat:=fo.set p (fo.getD p 0||| f)
noncomputable def wp (fo:List Nat) (l f:Nat):List Nat:=(a8 l).foldl (mF f) fo
theorem fw (f:Nat) (ps:List Nat):∀(fo:List Nat),(ps.foldl (mF f) fo).length=fo.length:=by
 induction ps with
 |nil=>
  intro fo;exact rfl
 |cons p ps b=>
  intro fo;rw [Jz,b];exact Md
theorem fN (fo:List Nat) (l f:Nat):(wp fo l f).length=fo.length:=fw f _ fo
noncomputable def PF.join (P:PF) (l f:Nat):PF:=⟨P.c,P.ms,wp P.fo l f⟩
noncomputable def PF.place (P:PF) (k:Nat):PF:=⟨P.c,P.ms++[k],P.fo++[0]⟩
section
variable {u:U} {d:Nat} {Q:V->Sg->Prop} {X:Sg->Prop} {σ:Sg} {a b c most:Nat} {P:PF}
theorem aO.follow (h:aO a b c most P σ) {fo:List Nat} (e:fo.length=P.fo.length):aO a b c most ⟨P.c,P.ms,fo⟩ (σ.set c (.list (bw fo))):=
 ⟨⟨h.ok.len.trans e.symm,h.ok.sz⟩,h.m1,h.cm,(af h.ac).trans h.inst,(af h.bc).trans h.cb,am,h.ab,h.ac,h.bc,h.la,h.lb,h.lc⟩
theorem zL {l:List Nat} {i:Nat} (h:i<l.length):(bw l)[i]? =Gu (.int (l.getD i 0:Nat)):=by
 rw [Hg,Hb h,Hl,Hb h];rfl
theorem yb {l:List Nat} {i x:Nat}:(bw l).set i (.int x)=bw (l.set i x):=by
 unfold bw;rw [List.map_set]
inductive JoinI (a b c most:Nat) (P:PF) (σ₀:Sg) (f:Nat) (ls:List Nat) (v1:V):List V->List (Option V)->Sg->Prop where
 |mk (xs ys:List Nat) (y3:Option V) (σ:Sg) (e:ls=xs++ys) (h:aO a b c most ⟨P.c,P.ms,xs.foldl (mF f) P.fo⟩ σ) (S:aH (F3 a b c) σ₀ (F3 a b c) σ):JoinI a b c most P σ₀ f ls v1 (bw ys) [Gu (.ref a),Gu v1,Gu (.int f),y3,Gw] σ
theorem Ax (F:bg u) (h:aO a b c most P σ) {l f:Nat} (C:l<2^P.fo.length) (o:∀σ',aO a b c most (P.join l f) σ'->aH (F3 a b c) σ (F3 a b c) σ'->Q .none σ'):ae u (d+2) 295 [.ref a,.int l,.int f] Q X σ:=by
 revert l f;delta u d Q X σ a b c most P;delta l f;refine F.call 295 _ rfl (d+1) _ Q X σ rfl ?_
 have D:=h.fol
 refine bK (ay (.cons (.loc rfl) .nil) (pG F C (GC D (by decide)) fun m j=>?_))
 delta m;refine bG (JoinI a b c most P σ f (a8 l) (.int l)) rfl (.mk [] _ _ _ rfl (h.ext j) (.ext j)) (fun Z Z Z Z=>trivial) (fun v r E σ' I p J Z=>?_) (fun E σ' p=>?_)
 ·delta v r E σ' I;generalize A:v::r=z at p;delta z
  cases p with
  |mk i k G _ e n S=>
   delta i k G
   cases k with
   |nil=>cases A
   |cons y k=>
    delta y k;cases A;refine⟨_,rfl,?_⟩
    have g:(i.foldl (mF f) P.fo).length=P.fo.length:=fw f i P.fo
    have H:y<(i.foldl (mF f) P.fo).length:=by
     rw [g]
     have:l.testBit y=Gx:=du.mp (by rw [e];simp)
     refine J4 fun q=>?_;rw [JO (GQ C (Hh (by decide) q))] at this
     cases this
    have s:(bw (i.foldl (mF f) P.fo)).length<=1000000:=by rw [bA,g];exact GC D (by decide)
    have t:jC σ' (.int ((((i.foldl (mF f) P.fo).getD y 0||| f:Nat)):Int)) (.ref c) (.int y)=Gu (σ'.set c (.list (bw ((i++[y]).foldl (mF f) P.fo)))):=by
     rw [fP n.cc n.lc s (Hc _) (by rw [bA];exact LK.mpr H),Jb,yb,HV];rfl
    refine vn (.op (.cons (.loc rfl) .nil) (a7 n.inst rfl)) (.loc rfl) (bC (aA n.cc) s (cX (zL H))) (.loc rfl) (congrArg Gu (fu _ _)) t (ak (J _ _ ?_).1)
    have B:=n.follow (fo:=(i++[y]).foldl (mF f) P.fo) (by rw [fw];exact g.symm)
    exact .mk (i++[y]) k _ _ (by rw [e,GO];rfl) B (S.trans (.one (.inr (.inr rfl))))
 ·generalize A:([]:List V)=z at p
  cases p with
  |mk i k G _ e n S=>
   cases k with
   |cons y k=>cases A
   |nil=>
    rw [G1] at e;refine ak (o _ ?_ S);unfold PF.join wp;rw [e];exact n
theorem ya (F:bg u) (h:aO a b c most P σ) (C:P.ms.length<=P.c) {k:Nat} (J:k≠0) (m:∀σ',aO a b c most (P.place k) σ'->aH (F3 a b c) σ (F3 a b c) σ'->Q (.tup [.bool Gz,.int (2^P.ms.length:Nat),.int (2^P.ms.length:Nat)]) σ'):ae u (d+1) 288 [.ref a,.int k] Q X σ:=by
 revert k;delta u d Q X σ a b c most P;delta k;refine F.call 288 _ rfl d _ Q X σ rfl ?_
 have D:((k:Int) ==0)=Gz:=beq_false_of_ne (by lia)
 refine aq (t:=Gz) (.of (v:=.bool ((k:Int) ==0)) (.op (.cons (.loc rfl) (.cons .const .nil)) rfl) (congrArg Gu D) rfl) (ak ?_)
 have r:=h.mkl
 have E:=h.fol
 refine aD (Ev.app (.op (.cons (.loc rfl) .nil) (a7 h.inst rfl)) (aM h.cb) (.loc rfl) (bI h.cb h.lb (by rw [bA];exact GC r (by decide))) _ _ ?_)
 generalize f:σ.set b _=j;delta j
 have o:∀x,x≠b->j.cell x=σ.cell x:=fun x l=>by rw [<-f];exact af l
 have G:j.cell b=.list (bw (P.ms++[k])):=by rw [<-f];unfold bw;rw [G2];exact am
 have s:j.n=σ.n:=by rw [<-f];rfl
 have y:=(o a h.ab).trans h.inst
 have z:=(o c h.bc.symm).trans h.cc
 refine aD (Ev.app (.op (.cons (.loc rfl) .nil) (a7 y rfl)) (aM z) .const (bI z (s▸h.lc) (by rw [bA];exact GC E (by decide))) _ _ ?_)
 generalize g:j.set c _=i;delta i
 have p:∀x,x≠c->i.cell x=j.cell x:=fun x l=>by rw [<-g];exact af l
 have H:i.cell c=.list (bw (P.fo++[0])):=by rw [<-g];unfold bw;rw [G2];exact am
 have n:i.n=σ.n:=by rw [<-g];exact s
 have A:=(p a h.ac).trans y
 have B:=(p b h.bc).trans G
 have I:((bw (P.ms++[k])).length:Int) - 1=(P.ms.length:Nat):=by rw [bA,GG];show((P.ms.length+1:Nat):Int) - 1=_;lia
 have q:aI tab (.bin .shl) [.int 1,.int (((bw (P.ms++[k])).length:Int) - 1)] i=Gu (.int (2^P.ms.length:Nat),i):=by
  rw [I,aF (rV (Hc _) (by lia) (by decide)),rD]
 refine ar (.op (.cons .const (.cons (.op (.cons (.op (.cons (.op (.cons (.loc rfl) .nil) (a7 A rfl)) .nil) (d7 (aA B) (by rw [bA,GG];exact GC (Hq r) (by decide)))) (.cons .const .nil)) (aF rfl)) .nil)) q) rfl ?_
 refine ax (Ev.op (.cons .const (.cons (.loc rfl) (.cons (.loc rfl) .nil))) (aK (Gv rfl)) _ _ (m i ⟨⟨by unfold PF.place;simp only [GG];rw [h.ok.len];rfl,by unfold PF.place;simp only [GG];exact Hq C⟩,h.m1,h.cm,A,B,H,h.ab,h.ac,h.bc,n▸h.la,n▸h.lb,n▸h.lc⟩ ⟨Km n.symm,fun x Z l=>(p x fun e=>l (.inr (.inr e))).trans (o x fun e=>l (.inr (.inl e))),fun Z h=>.inl h⟩))
end
structure RT where
 e:Bool
 f:Nat
 l:Nat
noncomputable def RT.v (r:RT):V:=.tup [.bool r.e,.int r.f,.int r.l]
noncomputable def gX (s p:RT):RT:=⟨s.e&&p.e,bif s.e then s.f||| p.f else s.f,bif p.e then s.l||| p.l else p.l⟩
noncomputable def wo (s:PF×RT) (p:RT):PF×RT:=(s.1.join s.2.l p.f,gX s.2 p)
noncomputable def dQ (P:PF) (ps:List RT):PF×RT:=ps.foldl wo (P,⟨Gx,0,0⟩)
noncomputable def uH (s p:RT):RT:=⟨s.e||p.e,s.f||| p.f,s.l||| p.l⟩
noncomputable def gA (ps:List RT):RT:=ps.foldl uH ⟨Gz,0,0⟩
def RT.In (r:RT) (n:Nat):Prop:=r.l<2^n
theorem RT.In.up {r:RT} {n m:Nat} (h:r.In n) (q:n<=m):r.In m:=GQ h (Hh (by decide) q)
theorem zf {s p:RT} {n:Nat} (h:s.In n) (h':p.In n):(gX s p).In n:=by
 unfold RT.In gX;cases p.e
 ·exact h'
 ·exact Oj h h'
theorem ye {s p:RT} {n:Nat} (h:s.In n) (h':p.In n):(uH s p).In n:=Oj h h'
theorem mR {e:Bool} {n:Nat}:(⟨e,0,0⟩:RT).In n:=Nat.two_pow_pos n
section
variable {u:U} {d:Nat} {Q:V->Sg->Prop} {X:Sg->Prop} {σ:Sg} {a b c most:Nat} {P:PF}
theorem vM (F:bg u) (h:aO a b c most P σ) {ρ:List (Option V)} {k l f:Nat} {e j:E} (m:ρ[k]? =Gu (Gu (.ref a))) (n:Ev (ae u (d+2)) ρ σ e (.int l) σ) (i:Ev (ae u (d+2)) ρ σ j (.int f) σ) (o:l<2^P.fo.length) (g:∀σ',aO a b c most (P.join l f) σ'->aH (F3 a b c) σ (F3 a b c) σ'->Q .none σ'):
  wpE tab (ae u (d+2)) ρ (.callM 45 (.loc k) [e,j]) Q X σ:=
 w_callM (.loc m) (aw h.inst rfl rfl) (.cons n (.cons i .nil)) (Ax F h o g)
inductive RowP (a b c most:Nat) (P:PF) (σ₀:Sg) (rs:List RT) (v1:V):List V->List (Option V)->Sg->Prop where
 |mk (xs ys:List RT) (y5 y6 y7:Option V) (s:PF×RT) (σ:Sg) (e:rs=xs++ys) (es:s=dQ P xs) (h:aO a b c most s.1 σ) (hl:s.1.fo.length=P.fo.length) (hi:s.2.In P.fo.length) (S:aH (F3 a b c) σ₀ (F3 a b c) σ):
  RowP a b c most P σ₀ rs v1 (ys.map RT.v) [Gu (.ref a),Gu v1,Gu (.bool s.2.e),Gu (.int s.2.f),Gu (.int s.2.l),y5,y6,y7] σ
theorem BJ (F:bg u) (h:aO a b c most P σ) {rs:List RT} (R:∀r∈rs,r.In P.fo.length) (N:rs.length<=1000000) (n:∀σ',aO a b c most (dQ P rs).1 σ'->(dQ P rs).1.fo.length=P.fo.length->(dQ P rs).2.In P.fo.length->aH (F3 a b c) σ (F3 a b c) σ'->Q (dQ P rs).2.v σ'):
  ae u (d+3) 302 [.ref a,.lst (rs.map RT.v)] Q X σ:=by
 revert rs;delta u d Q X σ a b c most P;delta rs;refine F.call 302 _ rfl (d+2) _ Q X σ rfl ?_;refine ar (.op (.cons .const (.cons .const (.cons .const .nil))) (aK (Gv rfl))) rfl ?_;refine bK (Ev.loc rfl _ _ ?_);refine bG (RowP a b c most P σ rs (.lst (rs.map RT.v))) rfl (.mk [] rs Gw Gw Gw (P,⟨Gx,0,0⟩) σ rfl rfl h rfl mR (.refl _ _)) (fun Z Z Z Z=>trivial) (fun v r O σ' C o T Z=>?_) (fun O σ' o=>?_)
 ·delta v r O σ' C;generalize D:v::r=z at o;delta z
  cases o with
  |mk E i k l m s _ e I J G H S=>
   delta E i k l m s
   cases i with
   |nil=>cases D
   |cons y i=>
    delta y i;cases D;refine⟨_,rfl,?_⟩
    have U:=R y (by rw [e];simp)
    have W:wo s y=dQ P (E++[y]):=by unfold dQ;rw [HV,I];rfl
    refine aD (vM F J rfl (.loc rfl) (.loc rfl) (by rw [G];exact H) fun f p q=>?_)
    delta f
    have K:∀k l m:Option V,C .next [Gu (.ref a),Gu (.lst (rs.map RT.v)),Gu (.bool (s.2.e&&y.e)),Gu (.int (gX s.2 y).f),Gu (.int (gX s.2 y).l),k,l,m] f:=fun k l m=>
     (T _ _ (.mk (E++[y]) i k l m (wo s y) f (by rw [e,GO];rfl) W p ((fN _ _ _).trans G) (zf H U) (S.trans q))).1
    have A:∀L:Nat,L=(gX s.2 y).f->wpSs tab (ae u (d+2)) [.ite (.loc 5) [.aug 4 .bor (.loc 7)] [.assign (.loc 4) (.loc 7)],.assign (.loc 2) (.and (.loc 2) (.loc 5))] [Gu (.ref a),Gu (.lst (rs.map RT.v)),Gu (.bool s.2.e),Gu (.int L),Gu (.int s.2.l),Gu (.bool y.e),Gu (.int y.f),Gu (.int y.l)] C X f:=fun L Y=>by
     subst Y
     have j:∀M:Nat,M=(gX s.2 y).l->wpSs tab (ae u (d+2)) [.assign (.loc 2) (.and (.loc 2) (.loc 5))] [Gu (.ref a),Gu (.lst (rs.map RT.v)),Gu (.bool s.2.e),Gu (.int (gX s.2 y).f),Gu (.int M),Gu (.bool y.e),Gu (.int y.f),Gu (.int y.l)] C X f:=fun M el=>by
      subst el
      have ev:Ev (ae u (d+2)) [Gu (.ref a),Gu (.lst (rs.map RT.v)),Gu (.bool s.2.e),Gu (.int (gX s.2 y).f),Gu (.int (gX s.2 y).l),Gu (.bool y.e),Gu (.int y.f),Gu (.int y.l)] f (.and (.loc 2) (.loc 5)) (.bool (s.2.e&&y.e)) f:=by
       cases B:s.2.e with
       |false=>exact .andF (.loc rfl) rfl
       |true=>exact .andT (.loc rfl) rfl (.loc rfl)
      exact ar ev rfl (ak (K _ _ _))
     cases g:y.e with
     |false=>exact aq (t:=Gz) (.of (.loc rfl) rfl rfl) (ar (.loc rfl) rfl (ak (by rw [<-g];exact j y.l (by unfold gX;rw [g];rfl))))
     |true=>exact aq (t:=Gx) (.of (.loc rfl) rfl rfl) (lu rfl (.loc rfl) (congrArg Gu (fu _ _)) (ak (by rw [<-g];exact j (s.2.l||| y.l) (by unfold gX;rw [g];rfl))))
    cases B:s.2.e with
    |false=>exact aq (t:=Gz) (.of (.loc rfl) rfl rfl) (ak (by rw [<-B];exact A s.2.f (by unfold gX;rw [B];rfl)))
    |true=>exact aq (t:=Gx) (.of (.loc rfl) rfl rfl) (lu rfl (.loc rfl) (congrArg Gu (fu _ _)) (ak (by rw [<-B];exact A (s.2.f||| y.f) (by unfold gX;rw [B];rfl))))
 ·generalize D:([]:List V)=z at o
  cases o with
  |mk E i k l m s _ e I J G H S=>
   cases i with
   |cons y i=>cases D
   |nil=>
    rw [G1] at e;subst e;subst I;exact ax (Ev.op (.cons (.loc rfl) (.cons (.loc rfl) (.cons (.loc rfl) .nil))) (aK (Gv rfl)) _ _ (n _ J G H S))
inductive ChoP (σ₀:Sg) (a:Nat) (rs:List RT) (v1:V):List V->List (Option V)->Sg->Prop where
 |mk (xs ys:List RT) (y5 y6 y7:Option V) (e:rs=xs++ys):ChoP σ₀ a rs v1 (ys.map RT.v) [Gu (.ref a),Gu v1,Gu (.bool (gA xs).e),Gu (.int (gA xs).f),Gu (.int (gA xs).l),y5,y6,y7] σ₀
theorem tf (F:bg u) {rs:List RT} (n:rs.length<=1000000) (j:Q (gA rs).v σ):ae u (d+1) 309 [.ref a,.lst (rs.map RT.v)] Q X σ:=by
 revert rs;delta u d Q X σ a;delta rs;refine F.call 309 _ rfl d _ Q X σ rfl ?_;refine ar (.op (.cons .const (.cons .const (.cons .const .nil))) (aK (Gv rfl))) rfl ?_;refine bK (Ev.loc rfl _ _ ?_);refine bG (ChoP σ a rs (.lst (rs.map RT.v))) rfl (.mk [] rs Gw Gw Gw rfl) (fun Z Z Z Z=>trivial) (fun v r m i s k t Z=>?_) (fun m i k=>?_)
 ·delta v r m i s;generalize l:v::r=z at k;delta z
  cases k with
  |mk f g o p q e=>
   delta f g o p q
   cases g with
   |nil=>cases l
   |cons y g=>
    delta y g;cases l;refine⟨_,rfl,?_⟩
    have A:uH (gA f) y=gA (f++[y]):=by unfold gA;rw [HV];rfl
    have B:Ev (ae u d) [Gu (.ref a),Gu (.lst (rs.map RT.v)),Gu (.bool (gA f).e),Gu (.int (gA f).f),Gu (.int (gA f).l),Gu (.bool y.e),Gu (.int y.f),Gu (.int y.l)] σ (.or (.loc 2) (.loc 5)) (.bool ((gA f).e||y.e)) σ:=by
     cases C:(gA f).e with
     |true=>exact .orT (.loc rfl) rfl
     |false=>exact .orF (.loc rfl) rfl (.loc rfl)
    refine ar B rfl (lu rfl (.loc rfl) (congrArg Gu (fu _ _)) (lu rfl (.loc rfl) (congrArg Gu (fu _ _)) (ak (t _ _ ?_).1)))
    have:=ChoP.mk (σ₀:=σ) (a:=a) (rs:=rs) (v1:=.lst (rs.map RT.v)) (f++[y]) g (Gu (.bool y.e)) (Gu (.int y.f)) (Gu (.int y.l)) (by rw [e,GO];rfl)
    rw [<-A] at this;exact this
 ·delta m i;generalize l:([]:List V)=z at k
  cases k with
  |mk f g o p q e=>
   cases g with
   |cons y g=>cases l
   |nil=>
    rw [G1] at e;subst e;exact ax (Ev.op (.cons (.loc rfl) (.cons (.loc rfl) (.cons (.loc rfl) .nil))) (aK (Gv rfl)) _ _ j)
theorem my (F:bg u) (h:aO a b c most P σ) {r:RT} (m:r.In P.fo.length) (g:∀σ',aO a b c most (P.join r.l r.f) σ'->aH (F3 a b c) σ (F3 a b c) σ'->Q r.v σ'):ae u (d+3) 316 [.ref a,r.v] Q X σ:=by
 refine F.call 316 _ rfl (d+2) _ Q X σ rfl ?_
 have l:∀ {k:Int} {v:V},Cp [.bool r.e,.int r.f,.int r.l] k=Gu v->Ev (ae u (d+2)) (dR 2 [0,1] [.ref a,r.v]) σ (.op .idx [.loc 1,.const (.int k)]) v σ:=fun e=>.op (.cons (.loc rfl) (.cons .const .nil)) (bC rfl (Gv rfl) e)
 exact aD (vM F h rfl (l rfl) (l rfl) m fun f i j=>ax (Ev.loc rfl _ _ (g f i j)))
end
noncomputable def rdsF (r:Tr->PF->PF×RT):List Tr->PF->PF×List RT
 |[],P=>(P,[])
 |t::b,P=>((rdsF r b (r t P).1).1,(r t P).2::(rdsF r b (r t P).1).2)
noncomputable def repsF (r:PF->PF×RT):Nat->PF->PF×List RT
 |0,P=>(P,[])
 |k+1,P=>((repsF r k (r P).1).1,(r P).2::(repsF r k (r P).1).2)
noncomputable def RT.opt (r:RT):RT:=⟨Gx,r.f,r.l⟩
noncomputable def Df (r:PF->PF×RT) (s:PF×List RT):PF×RT:=dQ ((r s.1).1.join (r s.1).2.l (r s.1).2.f) (s.2++[(r s.1).2.opt])
noncomputable def Cq (r:PF->PF×RT) (k:Nat) (s:PF×List RT):PF×RT:=dQ (repsF r k s.1).1 (s.2++(repsF r k s.1).2.map RT.opt)
noncomputable def tz (r:PF->PF×RT) (lo:Nat):Option Nat->PF->PF×RT
 |none,P=>Df r (repsF r lo P)
 |some hi,P=>Cq r (hi - lo) (repsF r lo P)
noncomputable def PF.inc (P:PF):PF:=⟨P.c+1,P.ms,P.fo⟩
noncomputable def rd:Nat->Tr->PF->PF×RT
 |n+1,.cat l r,P=>dQ (rdsF (rd n) (spine 22 (.cat l r)) P.inc).1 (rdsF (rd n) (spine 22 (.cat l r)) P.inc).2
 |n+1,.alt l r,P=>((rdsF (rd n) (spine 23 (.alt l r)) P.inc).1,gA (rdsF (rd n) (spine 23 (.alt l r)) P.inc).2)
 |n+1,.star t,P=>((rd n t P.inc).1.join (rd n t P.inc).2.l (rd n t P.inc).2.f,(rd n t P.inc).2.opt)
 |n+1,.plus t,P=>((rd n t P.inc).1.join (rd n t P.inc).2.l (rd n t P.inc).2.f,(rd n t P.inc).2)
 |n+1,.opt t,P=>((rd n t P.inc).1,(rd n t P.inc).2.opt)
 |n+1,.rep t lo hi,P=>tz (rd n t) lo hi P.inc
 |_,.a,P=>(P.inc.place 2,⟨Gz,2^P.ms.length,2^P.ms.length⟩)
 |_,.b,P=>(P.inc.place 4,⟨Gz,2^P.ms.length,2^P.ms.length⟩)
 |_,.empty,P=>(P.inc,⟨Gx,0,0⟩)
 |_,_,P=>(P.inc,⟨Gz,0,0⟩)
theorem Ci (xs:List RT):∀(s:PF×RT),(xs.foldl wo s).1.c=s.1.c:=by
 induction xs with
 |nil=>
  intro _;exact rfl
 |cons x xs b=>
  intro s;exact b (wo s x)
theorem pO (P:PF) (xs:List RT):(dQ P xs).1.c=P.c:=Ci xs _
structure tV (a b c most:Nat) (P:PF) (k:Nat) (s:PF×RT) (σ σ':Sg):Prop where
 at_:aO a b c most s.1 σ'
 st:aH (F3 a b c) σ (F3 a b c) σ'
 cn:s.1.c=P.c+k
 len:P.fo.length<=s.1.fo.length
 in_:s.2.In s.1.fo.length
structure eZ (u:U) (D:Nat) (t:Tr) (r:PF->PF×RT) (k:Nat):Prop where
 call:∀ {Q:V->Sg->Prop} {X:Sg->Prop} {σ:Sg} {a b c most:Nat} {P:PF},aO a b c most P σ->(P.c+k<=most->∀σ',tV a b c most P k (r P) σ σ'->Q (r P).2.v σ')->(most<P.c+k->∀σ',aH (F3 a b c) σ (F3 a b c) σ'->X σ')->ae u D 281 [.ref a,t.node] Q X σ
theorem eZ.up {u:U} {D D':Nat} {t:Tr} {r:PF->PF×RT} {k:Nat} (B:eZ u D t r k) (h:D<=D'):eZ u D' t r k:=⟨fun b p e=>(B.call b p e).up h⟩
section
variable {u:U} {d:Nat} {Q:V->Sg->Prop} {X:Sg->Prop} {σ:Sg} {a b c most:Nat} {P:PF}
theorem d5 {C:aC} {ρ:List (Option V)} {n:Nat} {f:GW} {e g:E} {v:V} {σ₁:Sg} (h:Ev C ρ σ e v σ₁) (i:dY tab n σ₁ v=Gu f) (q:wpE tab C ρ g (fun w σ₂=>C f [v,w] Q X σ₂) X σ₁):wpE tab C ρ (.callM n e [g]) Q X σ:=by
 refine h _ _ ?_;simp only [i];exact q
theorem wu (h:aO a b c most P σ) {x:Nat} (e:σ.n<=x):¬F3 a b c x:=fun z=>by
 rcases z with rfl|rfl|rfl
 ·exact absurd h.la (HQ.mpr e)
 ·exact absurd h.lb (HQ.mpr e)
 ·exact absurd h.lc (HQ.mpr e)
inductive RdsI (a b c most:Nat) (r:Tr->PF->PF×RT) (k:Tr->Nat) (R:PF×List RT) (σ₀:Sg) (P₀:PF) (n₀:Nat) (ps:List Tr):List V->List V->Sg->Prop where
 |mk (xs ys:List Tr) (rs:List RT) (P:PF) (σ:Sg) (e:ps=xs++ys) (eR:((rdsF r ys P).1,rs++(rdsF r ys P).2)=R) (h:aO a b c most P σ) (S:aH (F3 a b c) σ₀ (F3 a b c) σ) (en:P.c+(ys.map k).sum=n₀) (hl:P₀.fo.length<=P.fo.length) (hi:∀r∈rs,r.In P.fo.length) (el:rs.length=xs.length):
  RdsI a b c most r k R σ₀ P₀ n₀ ps (ys.map Tr.node) (rs.map RT.v) σ
theorem yi (F:bg u) {r:Tr->PF->PF×RT} {k:Tr->Nat} {ps:List Tr} {ρ:List (Option V)} {e:E} (B:∀t∈ps,eZ u d t (r t) (k t)) (p:ps.length<=1000) (M:ρ[0]? =Gu (Gu (.ref a))) (h:aO a b c most P σ)
  (Y:∀ {Q:V->Sg->Prop},(∀σ₁,aZ σ σ₁->Q (.lst (ps.map Tr.node)) σ₁)->wpE tab (ae u d) ρ e Q X σ)
  (g:P.c+(ps.map k).sum<=most->∀σ' i,aO a b c most (rdsF r ps P).1 σ'->aH (F3 a b c) σ (F3 a b c) σ'->(rdsF r ps P).1.c=P.c+(ps.map k).sum->P.fo.length<=(rdsF r ps P).1.fo.length->(∀x∈(rdsF r ps P).2,x.In (rdsF r ps P).1.fo.length)->(rdsF r ps P).2.length=ps.length->σ'.cell i=.list ((rdsF r ps P).2.map RT.v)->i<σ'.n->σ.n<=i->¬F3 a b c i->Q (.ref i) σ')
  (N:most<P.c+(ps.map k).sum->∀σ',aH (F3 a b c) σ (F3 a b c) σ'->X σ'):wpE tab (ae u d) ρ (.comp [Gw,Gw,Gu 0] 1 (.callM 43 (.loc 2) [.loc 1]) e) Q X σ:=by
 revert r k ps ρ e;delta u d Q X σ a b c most P;delta r k ps ρ e;refine j7 (Y fun σ₁ j=>?_);delta σ₁;refine fE (RdsI a b c most r k (rdsF r ps P) σ P (P.c+(ps.map k).sum) ps) (kq (by rw [GJ];exact GC p (by decide))) (.mk [] ps [] P σ₁ rfl rfl (h.ext j) (.ext j) rfl (GP _) (fun Z h=>nomatch h) rfl) (fun Z Z Z Z=>trivial) (fun v z s σ' Q' A hQ=>?_) (fun s σ' A=>?_)
 ·delta v z s σ' Q';generalize J:v::z=w at A;delta w
  cases A with
  |mk O l K C _ D m n S o T U W=>
   delta O l K C
   cases l with
   |nil=>cases J
   |cons y l=>
    delta y l;cases J;rw [Hs,Ia] at o
    have G:(nE [Gw,Gw,Gu 0] ρ 1 y.node)[2]? =Gu (Gu (.ref a)):=by unfold nE;simp [M]
    have H:(nE [Gw,Gw,Gu 0] ρ 1 y.node)[1]? =Gu (Gu y.node):=by unfold nE;simp
    refine w_callM (.loc G) (aw n.inst rfl rfl) (.cons (.loc H) .nil) ((B y (by rw [D];simp)).call n (fun q f L=>hQ _ _ ?_) fun q f S'=>N ((l5 0x1d3772101c71041c34) o q) f (S.trans S'))
    have:=RdsI.mk (a:=a) (b:=b) (c:=c) (most:=most) (r:=r) (k:=k) (R:=rdsF r ps P) (σ₀:=σ) (P₀:=P) (n₀:=P.c+(ps.map k).sum) (ps:=ps) (O++[y]) l (K++[(r y C).2]) (r y C).1 f (by rw [D,GO];rfl) (by rw [GO];exact m) L.at_ (S.trans L.st) (by rw [L.cn];exact(l4 0x1d3772101d372710) o) (GC T L.len) (fun x I=>by
     rcases GH.mp I with I|I
     ·exact(U x I).up L.len
     ·rw [GI.mp I];exact L.in_) (by rw [GG,GG,W];rfl)
    rw [G2] at this;exact this
 ·generalize J:([]:List V)=w at A
  cases A with
  |mk O l K C _ D m n S o T U W=>
   cases l with
   |cons y l=>cases J
   |nil=>
    have m:(C,K++[])=rdsF r ps P:=m
    rw [G1] at m D;rw [<-m] at g;subst D;exact g (by have:=n.cm;rw [<-o];exact this) _ _ (n.ext (.alloc _ _)) (S.trans (.ext (.alloc _ _))) o T U W ah (GA _) S.n (wu n (GP _))
end
noncomputable def iP (k lo:Nat):Option Nat->Nat
 |none=>(lo+1) * k
 |some hi=>hi * k
theorem aH.tail {P b:Nat->Prop} {σ₀ σ:Sg} (S:aH P σ₀ b σ) {i:Nat} {v:Cell} (d:σ₀.n<=i):aH P σ₀ b (σ.set i v):=
 ⟨S.n,fun x c e=>(af (G9 (GQ c d))).trans (S.keep x c e),S.foot⟩
section
variable {u:U} {d:Nat} {Q:V->Sg->Prop} {X:Sg->Prop} {σ:Sg} {a b c most:Nat} {P:PF}
theorem aO.kill (h:aO a b c most P σ) {x:Nat} {v:Cell} (f:¬F3 a b c x):aO a b c most P (σ.set x v):=
 ⟨h.ok,h.m1,h.cm,(af fun e=>f (.inl e.symm)).trans h.inst,(af fun e=>f (.inr (.inl e.symm))).trans h.cb,(af fun e=>f (.inr (.inr e.symm))).trans h.cc,h.ab,h.ac,h.bc,h.la,h.lb,h.lc⟩
theorem qA (F:bg u) {σ₀:Sg} (h:aO a b c most P σ) {rs:List RT} {i:Nat} (g:σ.cell i=.list (rs.map RT.v)) (hi:i<σ.n) (j:¬F3 a b c i) (k:∀r∈rs,r.In P.fo.length) (e:rs.length<=1000000) (S:aH (F3 a b c) σ₀ (F3 a b c) σ) (l:σ₀.n<=i)
  (f:∀σ',aO a b c most (dQ P rs).1 σ'->(dQ P rs).1.fo.length=P.fo.length->(dQ P rs).2.In P.fo.length->aH (F3 a b c) σ₀ (F3 a b c) σ'->Q (dQ P rs).2.v σ'):ae u (d+3) 302 [.ref a,.ref i] Q X σ:=by
 exact jF (ju g hi) (BJ F (h.kill j) k e fun σ' m n o p=>f σ' m n o ((S.tail l).trans p))
inductive RepI (a b c most:Nat) (r:PF->PF×RT) (k lo:Nat) (R:PF×List RT) (σ₀:Sg) (P₀:PF) (n₀:Nat):List V->List V->Sg->Prop where
 |mk (x j:Nat) (rs:List RT) (P:PF) (σ:Sg) (e:x+j=lo) (eR:((repsF r j P).1,rs++(repsF r j P).2)=R) (h:aO a b c most P σ) (S:aH (F3 a b c) σ₀ (F3 a b c) σ) (en:P.c+j * k=n₀) (hl:P₀.fo.length<=P.fo.length) (hi:∀r∈rs,r.In P.fo.length) (el:rs.length=x):
  RepI a b c most r k lo R σ₀ P₀ n₀ ((a6 lo).drop x) (rs.map RT.v) σ
inductive Rep2 (a b c most:Nat) (r:PF->PF×RT) (k m:Nat) (R:PF×List RT) (σ₀:Sg) (P₀:PF) (n₀ tl:Nat) (v1:V):List V->List (Option V)->Sg->Prop where
 |mk (x j:Nat) (y2 y4 y5 y6:Option V) (rs:List RT) (P:PF) (σ:Sg) (e:x+j=m) (eR:((repsF r j P).1,rs++(repsF r j P).2.map RT.opt)=R) (h:aO a b c most P σ) (S:aH (F3 a b c) σ₀ (F3 a b c) σ) (en:P.c+j * k=n₀) (hl:P₀.fo.length<=P.fo.length) (hi:∀r∈rs,r.In P.fo.length) (el:rs.length<=1000+x) (ht:tl<σ.n) (hf:¬F3 a b c tl) (hc:σ.cell tl=.list (rs.map RT.v)):
  Rep2 a b c most r k m R σ₀ P₀ n₀ tl v1 ((a6 m).drop x) [Gu (.ref a),Gu v1,y2,Gu (.ref tl),y4,y5,y6,Gw] σ
theorem tv (F:bg u) {t:Tr} {r:PF->PF×RT} {k lo:Nat} {hi:Option Nat} (B:eZ u (d+3) t r k) (M:lo<=1000) (hh:∀k,hi=Gu k->lo<=k/\k<=1000) (h:aO a b c most P σ)
  (J:P.c+iP k lo hi<=most->∀σ',tV a b c most P (iP k lo hi) (tz r lo hi P) σ σ'->Q (tz r lo hi P).2.v σ') (N:most<P.c+iP k lo hi->∀σ',aH (F3 a b c) σ (F3 a b c) σ'->X σ'):ae u (d+4) 321 [.ref a,(Tr.rep t lo hi).node] Q X σ:=by
 revert t r k lo hi;delta u d Q X σ a b c most P;delta t r k lo hi
 have d':lo * k<=iP k lo hi:=by
  cases hi with
  |none=>exact J7 k (Hn lo)
  |some h=>exact J7 k (hh h rfl).1
 refine F.call 321 _ rfl (d+3) _ Q X σ rfl ?_
 have K:∀ {ρ:List (Option V)} {σ:Sg} {n i:Nat} {v:V},ρ[i]? =Gu (Gu (Tr.rep t lo hi).node)->eF tab 862 n [(18,t.node),(19,.int lo),(20,zZ hi)]=Gu v->Ev (ae u (d+3)) ρ σ (.op (.attr n) [.loc i]) v σ:=fun h e=>bN (.loc h) rfl e
 refine w_asg (x5 (K (i:=1) (v:=.int lo) rfl rfl _ _ ?_));refine rY (RepI a b c most r k lo (repsF r lo P) σ P (P.c+lo * k)) (Hc _) (by lia) (.mk 0 lo [] P σ (IJ _) rfl h (.refl _ _) rfl (GP _) (fun Z h=>nomatch h) rfl) (fun v z c' σ' Q' D hQ=>?_) (fun c' σ' D=>?_)
 ·generalize E:v::z=w at D
  cases D with
  |mk x j l f _ e O h' S T hl G el=>
   obtain⟨rfl,rfl,j,rfl,ej⟩:=dz E e;rw [H3] at T;refine w_callM (.loc rfl) (aw h'.inst rfl rfl) (.cons (K (i:=2) rfl rfl) .nil) (B.call h' (fun q g L=>hQ _ _ ?_) fun q g S'=>N (((l7 0x1d7517746631b251c74301c7210) T d' q)) g (S.trans S'))
   have u1:=RepI.mk (a:=a) (b:=b) (c:=c) (most:=most) (r:=r) (k:=k) (lo:=lo) (R:=repsF r lo P) (σ₀:=σ) (P₀:=P) (n₀:=P.c+lo * k) (x+1) j (l++[(r f).2]) (r f).1 g ej (by rw [GO];exact O) L.at_ (S.trans L.st) (by rw [L.cn];exact(l4 0x1d3771201d372710) T) (GC hl L.len) (fun y s=>by
    rcases GH.mp s with s|s
    ·exact(G y s).up L.len
    ·rw [GI.mp s];exact L.in_) (by rw [GG,el];rfl)
   rw [G2] at u1;exact u1
 ·delta c' σ';generalize E:([]:List V)=w at D;delta w
  cases D with
  |mk x j l f _ e O h' S T hl G el=>
   delta x j l f;obtain rfl:=dp E e
   have O:(f,l++[])=repsF r lo P:=O
   have T:f.c=P.c+lo * k:=by rw [Ju] at T;exact T
   rw [G1] at O
   have e':l.length<=1000:=((l3 0x1d270811b89e93821d101b89e9380) e M el)
   refine aB rfl ?_
   have h1:=h'.ext (aZ.alloc σ' (.list (l.map RT.v)))
   have S1:=S.trans (.ext (aZ.alloc σ' (.list (l.map RT.v))))
   have c1:(σ'.alloc (.list (l.map RT.v))).cell σ'.n=.list (l.map RT.v):=ah
   have f1:=wu h' (GP _)
   have l1:σ'.n<(σ'.alloc (.list (l.map RT.v))).n:=GA _
   generalize σ'.alloc (.list (l.map RT.v))=s1 at h1 S1 c1 l1;delta s1
   cases hi with
   |none=>
    refine aq (t:=Gx) (.of (.op (.cons (K (i:=1) rfl rfl) .nil) rfl) rfl rfl) ?_
    have ek:iP k lo Gw=lo * k+k:=H3 lo k
    refine w_asg (d5 (.loc rfl) (aw h1.inst rfl rfl) (w_callM (.loc rfl) (aw h1.inst rfl rfl) (.cons (K (i:=1) rfl rfl) .nil) (B.call h1 (fun q s2 L=>my F L.at_ L.in_ fun s3 h3 S3=>aB rfl ?_) fun q g S'=>N (by lia) g (S1.trans S'))))
    revert s3;delta s2;delta s3
    have U:=L.st.trans S3
    obtain⟨o1,o2,o3⟩:=U.other l1 f1
    have c3:=o2.trans c1
    refine aD (Ev.app (.loc rfl) (aM c3) (.op (.cons .const (.cons (.loc rfl) (.cons (.loc rfl) .nil))) (aK (Gv rfl))) (bI c3 o3 (by rw [GJ];exact(l3 0x1d270811b89e93821d101b09492949f80) e M el)) _ _ ?_)
    have h4:=h3.kill (v:=.list ((l++[(r f).2.opt]).map RT.v)) f1
    have S4:aH (F3 a b c) σ (F3 a b c) (s3.set σ'.n (.list ((l++[(r f).2.opt]).map RT.v))):=(S1.trans U).tail S.n
    rw [show l.map RT.v++[.tup [.bool Gx,.int (r f).2.f,.int (r f).2.l]]=(l++[(r f).2.opt]).map RT.v by rw [G2];rfl]
    have pl:((r f).1.join (r f).2.l (r f).2.f).fo.length=(r f).1.fo.length:=fN _ _ _
    refine ax (w_callM (.loc rfl) (aw h4.inst rfl rfl) (.cons (.loc rfl) .nil) (qA F h4 am o3 f1 (fun y s=>?_) (by rw [GG];show l.length+1<=_;exact(l3 0x1d270811b89e93821d101b09492949f87180) e M el) S4 S.n fun W h5 h6 h7 S5=>?_))
    ·rw [pl];rcases GH.mp s with s|s
     ·exact(G y s).up L.len
     ·rw [GI.mp s];exact L.in_
    ·have C:=J (by have u2:=L.at_.cm;have u3:=L.cn;lia) W
     rw [show tz r lo Gw P=Df r (repsF r lo P) from rfl, <-O] at C
     refine C ⟨h5,S5,?_,?_,?_⟩
     ·show(dQ _ _).1.c=_
      rw [pO]
      show(r f).1.c=_
      rw [L.cn];lia
     ·show P.fo.length<=(dQ _ _).1.fo.length
      rw [h6,pl];exact GC hl L.len
     ·show(dQ _ _).2.In (dQ _ _).1.fo.length
      rw [h6];exact h7
   |some m=>
    delta m;obtain⟨k1,k2⟩:=hh m rfl
    have ek:iP k lo (Gu m)=lo * k+(m - lo) * k:=by
     show m * k=_
     rw [<-Mh,Jx k1]
    refine aq (t:=Gz) (.of (.op (.cons (K (i:=1) rfl rfl) .nil) rfl) rfl rfl) (ak ?_)
    have es:(m:Int) - lo=((m - lo:Nat):Int):=by lia
    refine dJ (Ev.op (.cons (K (i:=1) (v:=.int m) rfl rfl) (.cons (K (i:=1) (v:=.int lo) rfl rfl) .nil)) (aF (op:=.sub) (r:=((m - lo:Nat):Int)) (congrArg Gu es)) _ _ ?_);refine cM (Rep2 a b c most r k (m - lo) ((repsF r (m - lo) f).1,l++(repsF r (m - lo) f).2.map RT.opt) σ P (P.c+iP k lo (Gu m)) σ'.n (Tr.rep t lo (Gu m)).node) (Hc _) (by lia) (.mk 0 (m - lo) _ _ _ _ l f s1 (IJ _) rfl h1 S1 (by lia) hl G e' l1 f1 c1) (fun v z ρ s2 K' D hK Z=>?_) (fun ρ s2 D=>?_)
    ·delta v z ρ s2 K';generalize E:v::z=w at D;injections w;intro E D
     cases D with
     |mk x j y2 y4 y5 y6 A C _ e p Y U o H I b' ht hf hc=>
      injections x j y2 y4 y5 y6 A C;intro e p o H I b' E Y hc;obtain⟨rfl,rfl,j,rfl,ej⟩:=dz E e;injections j;intro ej e p o;rw [H3] at o;refine w_asg (w_callM (.loc rfl) (aw Y.inst rfl rfl) (.cons (K (i:=1) rfl rfl) .nil) (B.call Y (fun q s3 L=>aB rfl ?_) fun q g S'=>N (((l5 0x1d1773421c73201c10) o q)) g (U.trans S')));delta s3;obtain⟨o1,o2,o3⟩:=L.st.other ht hf
      have c3:=o2.trans hc
      refine aD (Ev.app (.loc rfl) (aM c3) (.op (.cons .const (.cons (.loc rfl) (.cons (.loc rfl) .nil))) (aK (Gv rfl))) (bI c3 o3 (by rw [GJ];lia)) _ _ (ak ?_))
      rw [show A.map RT.v++[.tup [.bool Gx,.int (r C).2.f,.int (r C).2.l]]=(A++[(r C).2.opt]).map RT.v by rw [G2];rfl]
      have S4:aH (F3 a b c) σ (F3 a b c) (s3.set σ'.n (.list ((A++[(r C).2.opt]).map RT.v))):=(U.trans L.st).tail S.n
      exact(hK _ _ (.mk (x+1) j _ _ _ _ (A++[(r C).2.opt]) (r C).1 _ ej (by rw [GO];exact p) (L.at_.kill f1) S4 (by rw [L.cn];exact(l4 0x1d3771201d372710) o) (GC H L.len) (fun y s=>by
       rcases GH.mp s with s|s
       ·exact(I y s).up L.len
       ·rw [GI.mp s];exact L.in_) (by rw [GG];show A.length+1<=_;exact(l2 0x1b7189e93801b7718189e9387180) b') o3 f1 am)).1
    ·delta ρ s2;generalize E:([]:List V)=w at D
     cases D with
     |mk x j y2 y4 y5 y6 A C _ e p Y U o H I b' ht hf hc=>
      obtain rfl:=dp E e
      have p:(C,A++[])=((repsF r (m - lo) f).1,l++(repsF r (m - lo) f).2.map RT.opt):=p
      rw [G1] at p
      have o:C.c=P.c+iP k lo (Gu m):=by rw [Ju] at o;exact o
      refine ax (w_callM (.loc rfl) (aw Y.inst rfl rfl) (.cons (.loc rfl) .nil) (qA F Y hc ht hf I (by lia) U S.n fun W h5 h6 h7 S5=>?_))
      have P3:=J (by have u4:=Y.cm;lia) W
      rw [show tz r lo (Gu m) P=Cq r (m - lo) (repsF r lo P) from rfl, <-O] at P3
      rw [show Cq r (m - lo) (f,l)=dQ (repsF r (m - lo) f).1 (l++(repsF r (m - lo) f).2.map RT.opt) from rfl, <-(K3 p).1, <-(K3 p).2] at P3
      refine P3 ⟨h5,S5,?_,by rw [h6];exact H,by rw [h6];exact h7⟩
      rw [pO];exact o
end
section
variable {u:U} {d:Nat} {Q:V->Sg->Prop} {X:Sg->Prop} {σ:Sg} {a b c most:Nat} {P:PF}
noncomputable def gK (a:Nat) (t:Tr):List (Option V):=[Gu (.ref a),Gu t.node,Gu (.str t.kd),Gw,Gw,Gw,Gw,Gw,Gw]
theorem PF.Ok.inc {P:PF} (h:P.Ok):P.inc.Ok:=⟨h.len,LJ h.sz⟩
theorem dK (F:bg u) {t:Tr} (h:aO a b c most P σ) (e:P.c+1<=most->∀σ',aO a b c most P.inc σ'->aH (F3 a b c) σ (F3 a b c) σ'->wpSs tab (ae u d) (xS.drop 3) (gK a t) (d6 Q) X σ') (g:most<P.c+1->∀σ',aH (F3 a b c) σ (F3 a b c) σ'->X σ'):ae u (d+1) 281 [.ref a,t.node] Q X σ:=by
 refine F.call 281 _ rfl d _ Q X σ rfl ?_;refine sw (.loc rfl) (show kC tab 7 σ (.ref a)=Gu (.int P.c) by unfold kC;simp only [h.inst];rfl) .const rfl (aS h.inst h.la (Gv rfl) rfl) ?_
 generalize f:σ.set a _=s
 have i:s.cell a=.inst 324 [(0,.int most),(7,.int (P.c+1:Nat)),(8,bE),(9,.ref b),(10,.ref c)]:=by rw [<-f];exact am
 have l:∀x,x≠a->s.cell x=σ.cell x:=fun x n=>by rw [<-f];exact af n
 have j:s.n=σ.n:=by rw [<-f];rfl
 have S:aH (F3 a b c) σ (F3 a b c) s:=by rw [<-f];exact .one (.inl rfl)
 have m:∀ {C:aC},Ev C (dR 9 [0,1] [.ref a,t.node]) s (.op (.attr 7) [.loc 0]) (.int (P.c+1:Nat)) s:=.op (.cons (.loc rfl) .nil) (a7 i rfl)
 have k:∀ {C:aC},Ev C (dR 9 [0,1] [.ref a,t.node]) s (.op (.attr 0) [.loc 0]) (.int most) s:=.op (.cons (.loc rfl) .nil) (a7 i rfl)
 by_cases q:P.c+1<=most
 ·refine aq (t:=Gz) (.of (v:=.bool (GL (((P.c+1:Nat):Int) >most))) (.op (.cons m (.cons k .nil)) rfl) (congrArg Gu (decide_eq_false (by lia))) rfl) (ak ?_)
  exact ar (.op (.cons (.loc rfl) .nil) (BZ t)) rfl (e q s ⟨h.ok.inc,h.m1,q,i,(l _ h.ab.symm).trans h.cb,(l _ h.ac.symm).trans h.cc,h.ab,h.ac,h.bc,j▸h.la,j▸h.lb,j▸h.lc⟩ S)
 ·refine aq (t:=Gx) (.of (v:=.bool (GL (((P.c+1:Nat):Int) >most))) (.op (.cons m (.cons k .nil)) rfl) (congrArg Gu (decide_eq_true (by lia))) rfl) ?_
  exact me k (Hc _) (by have:=h.m1;lia) (g ((l2 504372225) q) s S)
theorem cG {C:aC} {t:Tr} (j:Nat) (e:j<=7) (h:∀i,i<j->t.kd≠22+i) (q:wpSs tab C (xS.drop (3+j)) (gK a t) (d6 Q) X σ):wpSs tab C (xS.drop 3) (gK a t) (d6 Q) X σ:=by
 revert C t j;delta Q X σ a;delta C t j
 induction j with
 |zero=>exact q
 |succ j f=>
  delta j;refine f ((l1 483265827944320) e) (fun i g=>h i ((l2 1928470140944) g)) ?_
  have k:=decide_eq_false (h j (GA j))
  have:j=0\/j=1\/j=2\/j=3\/j=4\/j=5\/j=6:=by lia
  rcases this with rfl|rfl|rfl|rfl|rfl|rfl|rfl<;>exact aq (t:=Gz) (bS rfl (by decide) k) (ak q)
theorem tV.mk' {k:Nat} {s:PF×RT} {σ σ₁ σ':Sg} (S:aH (F3 a b c) σ (F3 a b c) σ₁) (L:tV a b c most P.inc k s σ₁ σ'):tV a b c most P (k+1) s σ σ':=⟨L.at_,S.trans L.st,by rw [L.cn];show P.c+1+k=_;exact(l2 8293719563399552),L.len,L.in_⟩
theorem lE:P.inc.c=P.c+1:=rfl
theorem rR (F:bg u) {t:Tr} {r:Tr->PF->PF×RT} {k:Tr->Nat} {K:Nat} (j:K=22\/K=23) (g:(spine K t).length<=1000) (B:∀x∈spine K t,eZ u (d+3) x (r x) (k x)) (h:aO a b c most P σ)
  (e:P.c+((spine K t).map k).sum<=most->∀σ' i,aO a b c most (rdsF r (spine K t) P).1 σ'->aH (F3 a b c) σ (F3 a b c) σ'->(rdsF r (spine K t) P).1.c=P.c+((spine K t).map k).sum->P.fo.length<=(rdsF r (spine K t) P).1.fo.length->(∀x∈(rdsF r (spine K t) P).2,x.In (rdsF r (spine K t) P).1.fo.length)->(rdsF r (spine K t) P).2.length=(spine K t).length->σ'.cell i=.list ((rdsF r (spine K t) P).2.map RT.v)->i<σ'.n->σ.n<=i->¬F3 a b c i->Q (.ref i) σ')
  (f:most<P.c+((spine K t).map k).sum->∀σ',aH (F3 a b c) σ (F3 a b c) σ'->X σ'):
  wpE tab (ae u (d+3)) (gK a t) (.comp [Gw,Gw,Gu 0] 1 (.callM 43 (.loc 2) [.loc 1]) (.callF 158 [.loc 1,.const (.str K)])) Q X σ:=
 yi F B g rfl h (fun{Q} l=>ay (.cons (.loc rfl) (.cons .const .nil)) (lN F (t:=t) j g l)) e f
theorem yQ (F:bg u) {t:Tr} {r:Tr->PF->PF×RT} {k:Tr->Nat} (J:t.kd=22) (H:(spine 22 t).length<=1000) (B:∀x∈spine 22 t,eZ u (d+3) x (r x) (k x)):
  eZ u (d+4) t (fun P=>dQ (rdsF r (spine 22 t) P.inc).1 (rdsF r (spine 22 t) P.inc).2) (((spine 22 t).map k).sum+1):=.mk fun{Q X σ a b c most P} h m n=>by
 have I:=lE (P:=P)
 refine dK F h (fun q A e f=>?_) fun q j C=>n ((l3 0x1c718101c7718210) q) j C;refine aq (t:=Gx) (bS rfl (by decide) (decide_eq_true J)) (ax ?_)
 refine d5 (.loc rfl) (aw e.inst rfl rfl) (rR F (.inl rfl) H B e (fun D E i o p K s G L M N O R=>?_) fun D j C=>n ((l4 0x1c72101d718311c7718230) D I) j (f.trans C));refine qA F o M N R G (by rw [L];exact GC H (by decide)) p O fun l v g y z=>m ((l4 0x1b27109d718301b2771813) D I) l (.mk' f ⟨v,z,?_,by rw [g];exact s,by rw [g];exact y⟩)
 rw [pO];exact K
theorem x7 {n:Nat} (xs:List RT):∀(s:RT),s.In n->(∀x∈xs,x.In n)->(xs.foldl uH s).In n:=by
 induction xs with
 |nil=>
  intro s h _;exact h
 |cons x xs e=>
  intro s h q;exact e (uH s x) (ye h (q x (.head _))) fun y f=>q y (.tail _ f)
theorem pn (F:bg u) {t:Tr} {r:Tr->PF->PF×RT} {k:Tr->Nat} (A:t.kd=23) (C:(spine 23 t).length<=1000) (B:∀x∈spine 23 t,eZ u (d+3) x (r x) (k x)):
  eZ u (d+4) t (fun P=>((rdsF r (spine 23 t) P.inc).1,gA (rdsF r (spine 23 t) P.inc).2)) (((spine 23 t).map k).sum+1):=.mk fun{Q X σ a b c most P} h j l=>by
 have D:=lE (P:=P)
 refine dK F h (fun q p e f=>cG 1 (by decide) (fun i E=>by rw [A];exact(l1 0x1c1801d70691879186) E) ?_) fun q g s=>l ((l3 0x1c718101c7718210) q) g s
 refine aq (t:=Gx) (bS rfl (by decide) (decide_eq_true A)) (ax ?_)
 refine d5 (.loc rfl) (aw e.inst rfl rfl) (rR F (.inr rfl) C B e (fun v y i m n G o z H I J K L=>?_) fun v g s=>l ((l4 0x1c72101d718311c7718230) v D) g (f.trans s));exact jF (ju I J) (tf F (by rw [H];exact GC C (by decide)) (j ((l4 0x1b27109d718301b2771813) v D) _ (.mk' f ⟨m.kill L,n.tail K,G,o,x7 _ _ mR z⟩)))
theorem vY (F:bg u) {t l:Tr} {cl:GW} {r:PF->PF×RT} {k:Nat} (A:t.kd=24) (E:t.node=.obj cl [18] [l.node]) (G:eF tab cl 18 [(18,l.node)]=Gu l.node) (B:eZ u (d+3) l r k):eZ u (d+4) t (fun P=>((r P.inc).1.join (r P.inc).2.l (r P.inc).2.f,(r P.inc).2.opt)) (k+1):=.mk fun{Q X σ a b c most P} h n o=>by
 have C:=lE (P:=P)
 refine dK F h (fun q e f g=>cG 2 (by decide) (fun i H=>by rw [A];exact(l1 0x1c2801d70691889186) H) ?_) fun q j v=>o ((l3 0x1c718101c7718210) q) j v
 have I:Ev (ae u (d+3)) (gK a t) e (.op (.attr 18) [.loc 1]) l.node e:=bN (c:=cl) (ks:=[18]) (vs:=[l.node]) (.loc (by rw [<-E];rfl)) rfl G
 refine aq (t:=Gx) (bS rfl (by decide) (decide_eq_true A)) ?_
 refine w_asg (d5 (.loc rfl) (aw f.inst rfl rfl) (w_callM (.loc rfl) (aw f.inst rfl rfl) (.cons I .nil) (B.call f (fun y z L=>my F L.at_ L.in_ fun m p s=>aB rfl ?_) fun y j v=>o ((l4 0x1c72101d718311c7718230) y C) j (g.trans v))))
 have D:((r P.inc).1.join (r P.inc).2.l (r P.inc).2.f).fo.length=(r P.inc).1.fo.length:=fN _ _ _
 refine ax (Ev.op (.cons .const (.cons (.loc rfl) (.cons (.loc rfl) .nil))) (aK (Gv rfl)) _ _ (n ((l4 0x1b27109d718301b2771813) y C) m (.mk' g ⟨p,L.st.trans s,L.cn,by rw [D];exact L.len,by rw [D];exact L.in_⟩)))
theorem u0 (F:bg u) {t l:Tr} {cl:GW} {r:PF->PF×RT} {k:Nat} (A:t.kd=25) (E:t.node=.obj cl [18] [l.node]) (G:eF tab cl 18 [(18,l.node)]=Gu l.node) (B:eZ u (d+3) l r k):eZ u (d+4) t (fun P=>((r P.inc).1.join (r P.inc).2.l (r P.inc).2.f,(r P.inc).2)) (k+1):=.mk fun{Q X σ a b c most P} h n o=>by
 have C:=lE (P:=P)
 refine dK F h (fun q e f g=>cG 3 (by decide) (fun i H=>by rw [A];exact(l1 0x1c3801d70691899186) H) ?_) fun q j v=>o ((l3 0x1c718101c7718210) q) j v
 have I:Ev (ae u (d+3)) (gK a t) e (.op (.attr 18) [.loc 1]) l.node e:=bN (c:=cl) (ks:=[18]) (vs:=[l.node]) (.loc (by rw [<-E];rfl)) rfl G
 refine aq (t:=Gx) (bS rfl (by decide) (decide_eq_true A)) ?_
 have D:((r P.inc).1.join (r P.inc).2.l (r P.inc).2.f).fo.length=(r P.inc).1.fo.length:=fN _ _ _
 exact ax (d5 (.loc rfl) (aw f.inst rfl rfl) (w_callM (.loc rfl) (aw f.inst rfl rfl) (.cons I .nil) (B.call f (fun y z L=>my F L.at_ L.in_ fun m p s=>n ((l4 0x1b27109d718301b2771813) y C) m (.mk' g ⟨p,L.st.trans s,L.cn,by rw [D];exact L.len,by rw [D];exact L.in_⟩)) fun y j v=>o ((l4 0x1c72101d718311c7718230) y C) j (g.trans v))))
theorem yz (F:bg u) {t l:Tr} {cl:GW} {r:PF->PF×RT} {k:Nat} (v:t.kd=26) (z:t.node=.obj cl [18] [l.node]) (A:eF tab cl 18 [(18,l.node)]=Gu l.node) (B:eZ u d l r k):eZ u (d+1) t (fun P=>((r P.inc).1,(r P.inc).2.opt)) (k+1):=.mk fun{Q X σ a b c most P} h n o=>by
 have y:=lE (P:=P)
 refine dK F h (fun q e f g=>cG 4 (by decide) (fun i C=>by rw [v];exact(l1 0x1c4801d706918a9186) C) ?_) fun q j p=>o ((l3 0x1c718101c7718210) q) j p
 have D:Ev (ae u d) (gK a t) e (.op (.attr 18) [.loc 1]) l.node e:=bN (c:=cl) (ks:=[18]) (vs:=[l.node]) (.loc (by rw [<-z];rfl)) rfl A
 refine aq (t:=Gx) (bS rfl (by decide) (decide_eq_true v)) ?_
 refine w_asg (w_callM (.loc rfl) (aw f.inst rfl rfl) (.cons D .nil) (B.call f (fun s m L=>aB rfl ?_) fun s j p=>o ((l4 0x1c72101d718311c7718230) s y) j (g.trans p)));exact ax (Ev.op (.cons .const (.cons (.loc rfl) (.cons (.loc rfl) .nil))) (aK (Gv rfl)) _ _ (n ((l4 0x1b27109d718301b2771813) s y) m (.mk' g ⟨L.at_,L.st,L.cn,L.len,L.in_⟩)))
theorem qZ (F:bg u) {t:Tr} {r:PF->PF×RT} {k lo:Nat} {hi:Option Nat} (o:lo<=1000) (z:∀k,hi=Gu k->lo<=k/\k<=1000) (B:eZ u (d+3) t r k):eZ u (d+5) (.rep t lo hi) (fun P=>tz r lo hi P.inc) (iP k lo hi+1):=.mk fun{Q X σ a b c most P} h m n=>by
 have y:=lE (P:=P)
 refine dK F h (fun q p f g=>cG 5 (by decide) (fun i hi e=>by have:27=22+i:=e;exact(l1 0x1d706918b9181c5806) this hi) ?_) fun q j s=>n ((l3 0x1c718101c7718210) q) j s
 refine aq (t:=Gx) (bS (t:=.rep t lo hi) rfl (by decide) (decide_eq_true rfl)) (ax (w_callM (.loc rfl) (aw f.inst rfl rfl) (.cons (.loc rfl) .nil) ?_))
 exact tv F B o z f (fun v l L=>m ((l4 0x1b27109d718301b2771813) v y) l (.mk' g L)) fun v j s=>n ((l4 0x1c72101d718311c7718230) v y) j (g.trans s)
noncomputable def xA (x:Bool):Nat:=bif x then 4 else 2
theorem k8 (F:bg u) (x:Bool) {t:Tr} (s:t.node=.obj 710 [15] [g9 (xM x)]) (r:t.kd=28):eZ u (d+2) t (fun P=>(P.inc.place (xA x),⟨Gz,2^P.ms.length,2^P.ms.length⟩)) 1:=.mk fun{Q X σ a b c most P} h g n=>by
 refine dK F h (fun q o e j=>cG 6 (by decide) (fun i v=>by rw [r];exact(l1 0x1c6801d706918c9186) v) ?_) fun q p y=>n q p y
 have z:∀σ:Sg,Ev (ae u (d+1)) (gK a t) σ (.op (.attr 15) [.loc 1]) (g9 (xM x)) σ:=fun σ=>bN (c:=710) (ks:=[15]) (vs:=[g9 (xM x)]) (.loc (by rw [<-s];rfl)) rfl rfl
 refine aq (t:=Gx) (bS rfl (by decide) (decide_eq_true r)) (ax (d5 (.loc rfl) (aw e.inst rfl rfl) ?_))
 refine w_callM (.op (.cons (.loc rfl) .nil) (a7 e.inst rfl)) (dZ rfl rfl) (.cons (z _) .nil) (vf F x ?_);rw [show de x=(xA x:Nat) by cases x<;>rfl]
 refine ya F e h.ok.sz (by cases x<;>decide) fun f l m=>g q f (.mk' (k:=0) j ⟨l,m,rfl,?_,?_⟩)
 ·show P.fo.length<=(P.fo++[0]).length
  rw [GG];exact Hn _
 ·show 2^P.ms.length<2^(P.fo++[0]).length
  rw [GG,h.ok.len];exact Nat.pow_lt_pow_right (by decide) (GA _)
theorem oT (F:bg u) {t:Tr} {y:Bool} (n:t.kd=bif y then 29 else 30):eZ u (d+1) t (fun P=>(P.inc,⟨y,0,0⟩)) 1:=.mk fun{Q X σ a b c most P} h f l=>by
 refine dK F h (fun q e g j=>cG 7 (by decide) (fun i r=>by rw [n];cases y<;>simp<;>lia) ?_) fun q m o=>l q m o
 have p:Ev (ae u d) (gK a t) e (.op (.rel .eq) [.loc 2,.const (.str 29)]) (.bool y) e:=by
  have:(y:Bool)=GL (t.kd=29):=by rw [n];cases y<;>rfl
  rw [this];exact .op (.cons (.loc rfl) (.cons .const .nil)) (iG ⟨t.kd_lt,by decide⟩)
 exact ax (Ev.op (.cons p (.cons .const (.cons .const .nil))) (aK (Gv rfl)) _ _ (f q e (.mk' (k:=0) j ⟨g,.refl _ _,rfl,GP _,mR⟩)))
end
theorem uK {u:U} (F:bg u) (n:Nat) (j:n<=900):∀ {t:Tr},Fam n t->eZ u (2 * n+3) t (rd n t) (cnt n t).2:=by
 have leaf:∀ {n:Nat} {t:Tr},t.leaf->eZ u (2 * n+3) t (rd n t) (cnt n t).2:=fun{n t} e=>by
  have q:(cnt n t).2=1:=by cases t<;>first|exact e.elim|(cases n<;>rfl)
  rw [q]
  cases t with
  |a=>rw [show rd n .a=fun P=>(P.inc.place (xA Gz),⟨Gz,2^P.ms.length,2^P.ms.length⟩) by cases n<;>rfl];have:eZ u (2 * n+2) _ _ _:=k8 F (u:=u) (d:=2 * n) (t:=.a) Gz rfl rfl;exact eZ.up (D':=2 * n+3) this (l1 117901914752)
  |b=>rw [show rd n .b=fun P=>(P.inc.place (xA Gx),⟨Gz,2^P.ms.length,2^P.ms.length⟩) by cases n<;>rfl];have:eZ u (2 * n+2) _ _ _:=k8 F (u:=u) (d:=2 * n) (t:=.b) Gx rfl rfl;exact eZ.up (D':=2 * n+3) this (l1 117901914752)
  |empty=>rw [show rd n .empty=fun P=>(P.inc,⟨Gx,0,0⟩) by cases n<;>rfl];have:eZ u (2 * n+1) _ _ _:=oT F (u:=u) (d:=2 * n) (t:=.empty) (y:=Gx) rfl;exact eZ.up (D':=2 * n+3) this (l1 117901914496)
  |never=>rw [show rd n .never=fun P=>(P.inc,⟨Gz,0,0⟩) by cases n<;>rfl];have:eZ u (2 * n+1) _ _ _:=oT F (u:=u) (d:=2 * n) (t:=.never) (y:=Gz) rfl;exact eZ.up (D':=2 * n+3) this (l1 117901914496)
  |_=>exact e.elim
 induction n with
 |zero=>
  intro t h
  cases h with
  |leaf e=>exact leaf e
 |succ n f=>
  replace f:=@f ((l1 0x1b49893871801b4989380) j)
  intro t h
  cases h with
  |leaf e=>exact leaf e
  |@cat _ l r e m=>
   obtain⟨o,p⟩:=cz (.inl rfl) (.cat e m) rfl;exact eZ.up (yQ F (t:=.cat l r) (d:=2 * n) (r:=rd n) (k:=fun t=>(cnt n t).2) rfl (GC p ((l1 0x1b49893871801b89e9387280) j)) (fun t c=>f (o t c))) (l1 0x1b738a718028748a028)
  |@alt _ l r e m=>
   obtain⟨o,p⟩:=cz (.inr rfl) (.alt e m) rfl;exact eZ.up (pn F (t:=.alt l r) (d:=2 * n) (r:=rd n) (k:=fun t=>(cnt n t).2) rfl (GC p ((l1 0x1b49893871801b89e9387280) j)) (fun t c=>f (o t c))) (l1 0x1b738a718028748a028)
  |@star _ t c=>exact eZ.up (vY F (d:=2 * n) (t:=.star t) rfl rfl rfl (f c)) (l1 0x1b738a718028748a028)
  |@plus _ t c=>exact eZ.up (u0 F (d:=2 * n) (t:=.plus t) rfl rfl rfl (f c)) (l1 0x1b738a718028748a028)
  |@opt _ t c=>exact eZ.up (yz F (t:=.opt t) rfl rfl rfl (f c)) (l1 0x1b738a718028718738a028)
  |@repN _ t i g c=>
   rw [show(cnt (n+1) (.rep t i Gw)).2=iP (cnt n t).2 i Gw+1 from Ig _ _]
   exact eZ.up (qZ F (d:=2 * n) (hi:=Gw) ((l1 7643812228666240) g) (fun Z h=>nomatch h) (f c)) (l1 0x1b738a718028758a028)
  |@repS _ t i hi g s v c=>
   rw [show(cnt (n+1) (.rep t i (Gu hi))).2=iP (cnt n t).2 i (Gu hi)+1 from Ig _ _]
   exact eZ.up (qZ F (d:=2 * n) (hi:=Gu hi) ((l1 7643812228666240) g) (fun k h=>by cases h;exact⟨(l2 454040336) s,(l1 7661404414710656) v⟩) (f c)) (l1 0x1b738a718028758a028)
section
variable {u:U} {d:Nat} {Q:V->Sg->Prop} {X:Sg->Prop} {σ:Sg} {m:Nat} {C:aC}
noncomputable def PF.start:PF:=⟨0,[0],[0]⟩
theorem oZ {i:Nat} (hi:i<σ.n) (v:σ.cell i=.inst 324 []) (y:m<=1000) (n:∀σ',σ.n<=σ'.n->(∀x,x<σ.n->x≠i->σ'.cell x=σ.cell x)->aO i σ.n (σ.n+1) m .start σ'->Q .none σ'):
  wpSs tab C DP (dR 3 [0,1,2] [.ref i,bE,.int m]) (d6 Q) X σ:=by
 revert i;delta Q X σ m C;delta i
 have q:i≠σ.n:=G9 hi
 have r:i≠σ.n+1:=G9 (GF hi)
 refine aG (.loc rfl) (.loc rfl) (aS v hi (G7 _) rfl) (aG .const (.loc rfl) (aS am hi (Gv rfl) rfl) (aG (.loc rfl) (.loc rfl) (aS am hi (Gv rfl) rfl) ?_));generalize j:((σ.set i _).set i _).set i _=k;delta k
 have o:k.n=σ.n:=by rw [<-j];rfl
 have z:k.cell i=.inst 324 [(0,.int m),(7,.int 0),(8,bE)]:=by rw [<-j];exact am
 have A:∀x,x≠i->k.cell x=σ.cell x:=fun x f=>by rw [<-j,af f,af f,af f]
 have s:i<k.n:=o▸hi
 refine aG (.op (.cons .const .nil) (bP (Gv rfl))) (.loc rfl) (aS ((au s).trans z) (GF s) (Gv rfl) rfl) ?_;generalize e:(k.alloc (.list [.int 0])).set i _=g;delta g
 have l:g.n=σ.n+1:=by rw [<-e, <-o];rfl
 have B:g.cell i=.inst 324 [(0,.int m),(7,.int 0),(8,bE),(9,.ref σ.n)]:=by rw [<-e, <-o];exact am
 have D:g.cell σ.n=.list [.int 0]:=by rw [<-e,af q.symm, <-o];exact ah
 have E:∀x,x<σ.n->x≠i->g.cell x=σ.cell x:=fun x f b=>by rw [<-e,af b,au (o▸f)];exact A x b
 have t:i<g.n:=by rw [l];exact GF hi
 refine aG (.op (.cons .const .nil) (bP (Gv rfl))) (.loc rfl) (aS ((au t).trans B) (GF t) (Gv rfl) rfl) ?_;generalize c:(g.alloc (.list [.int 0])).set i _=F
 have p:F.n=σ.n+2:=by rw [<-c];show g.n+1=_;rw [l]
 refine ak (n _ (by rw [p];exact HN _ _) (fun x f b=>by rw [<-c,af b,au (by rw [l];exact GF f)];exact E x f b) ?_)
 refine⟨⟨rfl,GP _⟩,y,G7 _,by rw [<-c, <-l];exact am,?_,by rw [<-c,af r.symm, <-l];exact ah,q,r,G9 (GA _),?_,?_,?_⟩
 ·rw [<-c,af q.symm,au (by rw [l];exact GA _)];exact D
 ·rw [p];exact GF (GF hi)
 ·rw [p];exact GF (GA _)
 ·rw [p];exact GA _
theorem vH (F:bg u) {ρ:List (Option V)} {e i:E} (j:Ev (ae u (d+1)) ρ σ e bE σ) (c:Ev (ae u (d+1)) ρ σ i (.int m) σ) (k:m<=1000) (b:∀σ',aZ σ σ'->aO σ.n (σ.n+1) (σ.n+2) m .start σ'->Q (.ref σ.n) σ'):wpE tab (ae u (d+1)) ρ (.callC 324 [e,i]) Q X σ:=
 w_callC (.cons j (.cons c .nil)) (f:=276) rfl (F.call 276 _ rfl d _ _ X _ rfl (oZ (GA _) ah k fun σ' l n o=>⟨rfl,b σ' ⟨GC (Hn _) l,fun x g=>(n x (GF g) (G9 g)).trans (au g)⟩ o⟩))
theorem se (F:bg u) {ρ:List (Option V)} {e:E} (g:Ev (ae u (d+1)) ρ σ e bE σ) (b:∀σ',aZ σ σ'->aO σ.n (σ.n+1) (σ.n+2) 1000 .start σ'->Q (.ref σ.n) σ'):wpE tab (ae u (d+1)) ρ (.callC 324 [e]) Q X σ:=
 w_callC (.cons g .nil) (f:=276) rfl (F.callD 276 _ 1000 rfl rfl d _ _ X _ rfl (oZ (m:=1000) (GA _) ah (GP _) fun σ' i j k=>⟨rfl,b σ' ⟨GC (Hn _) i,fun x c=>(j x (GF c) (G9 c)).trans (au c)⟩ k⟩))
theorem rE (F:bg u) {n:Nat} {t:Tr} (r:n<=900) (s:Fam n t) (v:m<=1000)
  (k:(cnt n t).2<=m->∀b c σ',aZ σ σ'->σ'.cell b=.list (bw (rd n t .start).1.ms)->σ'.cell c=.list (bw (rd n t .start).1.fo)->Q (.tup [(rd n t .start).2.v,.ref b,.ref c]) σ') (o:m<(cnt n t).2->∀σ',aZ σ σ'->Q .none σ'):
  ae u (2 * n+4) 932 [t.node,bE,.int m] Q X σ:=by
 have B:=uK F n r s
 refine F.call 932 _ rfl (2 * n+3) _ _ X σ rfl ?_
 have z:PF.start.c=0:=rfl
 refine w_asg (vH (d:=2 * n+2) F (.loc rfl) (.loc rfl) v fun p f g=>aB rfl ?_)
 have i:∀x,F3 σ.n (σ.n+1) (σ.n+2) x->σ.n<=x:=fun x y=>by
  rcases y with rfl|rfl|rfl
  ·exact GP _
  ·exact Hn _
  ·exact HN _ _
 refine uX (w_asg (w_callM (.loc rfl) (aw g.inst rfl rfl) (.cons (.loc rfl) .nil) (B.call g (fun q j L=>aB rfl (ak ?_)) fun q j l=>?_)))
 ·have e:=L.at_
  exact ax (Ev.op (.cons (.loc rfl) (.cons (.op (.cons (.loc rfl) .nil) (a7 e.inst rfl)) (.cons (.op (.cons (.loc rfl) .nil) (a7 e.inst rfl)) .nil))) (aK (Gv rfl)) _ _ (k ((l3 0x1b27100d0801b21) q z) _ _ _ (L.st.toExt f i) e.cb e.cc))
 ·exact ax (Ev.const _ _ (o ((l3 0x1c72101d0811c20) q z) _ (l.toExt f i)))
end
noncomputable def g8 (f:Nat->V) (ks:List Nat):List (Int×V):=ks.map fun(k:Nat)=>((k:Int),f k)
theorem gE (f:Nat->V) (s:Nat) (ks:List Nat):lookI (s:Int) (g8 f ks)=if s∈ks then Gu (f s) else Gw:=by
 induction ks with
 |nil=>rfl
 |cons k ks b=>
  show(if((k:Nat):Int)=(s:Int) then Gu (f k) else lookI (s:Int) (g8 f ks))=_
  by_cases q:k=s
  ·subst q;rw [if_pos rfl,if_pos (.head _)]
  ·rw [if_neg (fun h=>q (Int.ofNat.inj h)),b]
   have:s∈k::ks↔s∈ks:=by rw [GK];exact⟨fun h=>h.elim (fun e=>absurd e.symm q) id,.inr⟩
   by_cases m:s∈ks
   ·rw [if_pos m,if_pos (this.mpr m)]
   ·rw [if_neg m,if_neg fun h=>m (this.mp h)]
theorem mz (f:Nat->V) {s:Nat} {ks:List Nat}:s∉ks->putI (s:Int) (f s) (g8 f ks)=g8 f (ks++[s]):=by
 induction ks with
 |nil=>
  intro _;exact rfl
 |cons k ks b=>
  intro h
  show(if((k:Nat):Int)=(s:Int) then _ else _)=_
  rw [if_neg fun e=>h (by rw [Int.ofNat_inj.mp e];exact .head _)]
  exact congrArg _ (b fun m=>h (.tail _ m))
theorem gN (f:Nat->V) (s:Nat) (ks:List Nat):(lookI (s:Int) (g8 f ks)).isSome=GL (s∈ks):=by
 rw [gE]
 by_cases m:s∈ks
 ·rw [if_pos m,decide_eq_true m];rfl
 ·rw [if_neg m,decide_eq_false m];rfl
theorem iR (f:Nat->V) (ks:List Nat):(g8 f ks).length=ks.length:=GJ _
theorem si {f g:Nat->V} {ks:List Nat} (h:∀k∈ks,f k=g k):g8 f ks=g8 g ks:=Jv fun k b=>by rw [h k b]
noncomputable def qg (a:Nat) (xs:List Nat):Nat:=xs.foldl (· ||| ·) a
theorem iQ (i:Nat) (xs:List Nat):∀(a:Nat),(qg a xs).testBit i=Gx↔a.testBit i=Gx\/∃x∈xs,x.testBit i=Gx:=by
 induction xs with
 |nil=>
  intro a;exact⟨.inl,fun h=>h.elim id fun h=>nomatch h⟩
 |cons x xs e=>
  intro a
  show(qg (a||| x) xs).testBit i=Gx↔_
  rw [e,Jl,Il,or_assoc];refine or_congr_right ⟨fun h=>h.elim (fun h=>⟨x,.head _,h⟩) fun d=>by obtain⟨y,b,c⟩:=d;exact⟨y,.tail _ b,c⟩,fun d=>?_⟩
  obtain⟨y,b,c⟩:=d;rcases GK.mp b with rfl|b
  ·exact .inl c
  ·exact .inr ⟨y,b,c⟩
theorem dO {x i:Nat}:(2^x).testBit i=Gx↔x=i:=by rw [Nat.testBit_two_pow,decide_eq_true_iff]
theorem eI {a b:Nat} (h:∀i,a.testBit i=Gx↔b.testBit i=Gx):a=b:=Nat.eq_of_testBit_eq fun i=>Bool.eq_iff_iff.mpr (h i)
inductive Reach (hp:List (List Nat)) (s:Nat):Nat->Prop where
 |refl:Reach hp s s
 |step {y x:Nat} {l:List Nat} (h:Reach hp s y) (e:hp[y]? =Gu l) (m:x∈l):Reach hp s x
theorem NF.Ok.reach {N:NF} (h:N.Ok) {s x:Nat} (b:s<N.n) (r:Reach N.hp s x):x<N.n:=by
 induction r with
 |refl=>exact b
 |step _ e m _=>exact h.hp _ (GN e) _ m
noncomputable def live (N:NF) (l x:Nat):Bool:=!(N.mv.getD x []).isEmpty||x==l
open Classical in
noncomputable def clo (N:NF) (l s:Nat):Nat:=qg 0 (((JD N.n).filter fun x=>GL (Reach N.hp s x)&&live N l x).map (2^ ·))
open Classical in
theorem iS {N:NF} (h:N.Ok) {l s:Nat} (hs:s<N.n) {x:Nat}:(clo N l s).testBit x=Gx↔Reach N.hp s x/\live N l x=Gx:=by
 rw [iQ,Ht];constructor
 ·rintro(h|⟨y,h1,h2⟩)
  ·cases h
  ·obtain⟨z,hz,rfl⟩:=Hm.mp h1;obtain rfl:=dO.mp h2
   have:=(H5.mp hz).2
   rw [HM,decide_eq_true_iff] at this;exact this
 ·rintro⟨h1,h2⟩
  refine .inr ⟨2^x,Hm.mpr ⟨x,H5.mpr ⟨JJ.mpr (h.reach hs h1),?_⟩,rfl⟩,dO.mpr rfl⟩;rw [HM,decide_eq_true_iff];exact⟨h1,h2⟩
theorem jt {M n:Nat} (h:∀x,M.testBit x=Gx->x<n):M<2^n:=Nat.lt_pow_two_of_testBit M fun i b=>by
 cases e:M.testBit i with
 |false=>rfl
 |true=>exact absurd (h i e) (HQ.mpr b)
theorem ug {N:NF} (h:N.Ok) {l s:Nat} (b:s<N.n):clo N l s<2^N.n:=jt fun x c=>h.reach b ((iS h b).mp c).1
structure iJ (hp:List (List Nat)) (n s:Nat) (ds ts:List Nat) (ok:Nat->Prop):Prop where
 nd:ds.Nodup
 lt:∀x∈ds,x<n
 tm:∀x∈ts,x∈ds
 s0:s∈ds
 re:∀x∈ds,Reach hp s x
 cl:∀x∈ds,x∉ts->ok x->∀l,hp[x]? =Gu l->∀y∈l,y∈ds
theorem iJ.done {hp:List (List Nat)} {n s:Nat} {ds:List Nat} (h:iJ hp n s ds [] fun Z=>True) (x:Nat):x∈ds↔Reach hp s x:=by
 refine⟨h.re x,fun r=>?_⟩
 induction r with
 |refl=>exact h.s0
 |step _ e m b=>exact h.cl _ b (fun h=>nomatch h) trivial _ e _ m
section
variable {u:U} {d:Nat} {Q:V->Sg->Prop} {X:Sg->Prop} {σ:Sg} {m:Nat} {N:NF} {tags:List Nat} {f:Nat}
noncomputable def uj:Nat->V:=fun Z=>.bool Gx
inductive ClsW (σ₀:Sg) (N:NF) (s:Nat) (v0 v1:V) (D T:Nat):Nat->List (Option V)->Sg->Prop where
 |mk (ds ts:List Nat) (y2 y5 y6 y7:Option V) (σ:Sg) (h:iJ N.hp N.n s ds ts fun Z=>True) (E:aZ σ₀ σ) (hD:σ.cell D=.dict (g8 uj ds)) (hT:σ.cell T=.list (bw ts)) (lD:D<σ.n) (lT:T<σ.n) (gD:σ₀.n<=D) (gT:σ₀.n<=T) (DT:D≠T) (tl:ts.length<=ds.length):
  ClsW σ₀ N s v0 v1 D T (2 * (N.n - ds.length)+ts.length) [Gu v0,Gu v1,y2,Gu (.ref D),Gu (.ref T),y5,y6,y7] σ
inductive ClsF (σ₀:Sg) (N:NF) (s:Nat) (v0 v1:V) (D T x m₀:Nat) (hs:List Nat):List V->List (Option V)->Sg->Prop where
 |mk (xs ys ds ts:List Nat) (y5 y6 y7:Option V) (σ:Sg) (e:hs=xs++ys) (h:iJ N.hp N.n s ds ts (· ≠x)) (hx:x∈ds) (hxs:∀y∈xs,y∈ds) (E:aZ σ₀ σ) (hD:σ.cell D=.dict (g8 uj ds)) (hT:σ.cell T=.list (bw ts)) (lD:D<σ.n) (lT:T<σ.n) (gD:σ₀.n<=D) (gT:σ₀.n<=T) (DT:D≠T) (ms:2 * (N.n - ds.length)+ts.length<=m₀) (tl:ts.length<ds.length):
  ClsF σ₀ N s v0 v1 D T x m₀ hs (bw ys) [Gu v0,Gu v1,Gu (.int x),Gu (.ref D),Gu (.ref T),y5,y6,y7] σ
theorem iJ.push {hp:List (List Nat)} {n s x y:Nat} {ds i l:List Nat} (h:iJ hp n s ds i (· ≠x)) (o:x∈ds) (p:hp[x]? =Gu l) (r:y∈l) (t:y<n) (v:y∉ds):iJ hp n s (ds++[y]) (i++[y]) (· ≠x):=by
 have g:∀ {z:Nat} {k:List Nat},z∈k++[y]↔z∈k\/z=y:=fun{z k}=>by rw [GH,GI]
 refine⟨Ja.mpr ⟨h.nd,by simp,fun a A b B e=>v (by rw [GI.mp B] at e;exact e▸A)⟩,fun z c=>?_,fun z c=>?_,g.mpr (.inl h.s0),fun z c=>?_,fun z c j C k D w E=>?_⟩
 ·rcases g.mp c with c|rfl
  ·exact h.lt z c
  ·exact t
 ·rcases g.mp c with c|rfl
  ·exact g.mpr (.inl (h.tm z c))
  ·exact g.mpr (.inr rfl)
 ·rcases g.mp c with c|rfl
  ·exact h.re z c
  ·exact(h.re x o).step p r
 ·rcases g.mp c with c|rfl
  ·exact g.mpr (.inl (h.cl z c (fun q=>j (g.mpr (.inl q))) C k D w E))
  ·exact absurd (g.mpr (.inr rfl)) j
theorem zw {C:aC} {ρ:List (Option V)} {t:Nat} {e:E} {a:Nat} {i:Int} {σ₁:Sg} (h:Ev C ρ σ e (.ref a) σ₁) (b:σ₁.cell a=.list [.int i]) (q:Q (.ref σ₁.n) (σ₁.alloc (.dict [(i,.bool Gx)]))):wpE tab C ρ (.dtrue t e) Q X σ:=by
 exact h _ _ ⟨_,_,rfl,b,q⟩
theorem kX {C:aC} {ρ:List (Option V)} {e:E} {a:Nat} {ks:List Nat} {g:Nat->V} {σ₁:Sg} (h:Ev C ρ σ e (.ref a) σ₁) (c:σ₁.cell a=.dict (g8 g ks)) (i:ks.length<=200) (q:∀l:List Nat,l.Perm ks->Q (.tup (bw l)) (σ₁.alloc (.list (bw l)))):wpE tab C ρ (.tsorted e) Q X σ:=by
 refine h _ _ ⟨_,_,rfl,c,by rw [iR];exact i,fun l b=>?_⟩
 rw [show(g8 g ks).map (·.1)=ks.map fun(k:Nat)=>(k:Int) by rw [HJ];rfl] at b
 have j:l=(l.map L8).map fun(k:Nat)=>(k:Int):=by
  rw [HJ];refine(NB l).symm.trans (Jv fun x n=>?_);obtain⟨k,_,rfl⟩:=Hm.mp (b.mem_iff.mp n);rfl
 have o:(l.map L8).Perm ks:=by
  have:=b.map L8
  rw [HJ,show(L8∘fun(k:Nat)=>(k:Int))=id from rfl,NB] at this
  exact this
 have p:l.map V.int=bw (l.map L8):=(congrArg (MC V.int) j).trans (HJ ..)
 rw [p];exact q _ o
theorem CH {σ:Sg} {x:Nat} {c:List Nat} {C:aC} {ρ:List (Option V)} {e g:E} (h:N.hp[x]? =Gu c) (i:N.hp.length<=200) (j:Ev C ρ σ e (bq m N tags f) σ) (b:Ev C ρ σ g (.int x) σ):Ev C ρ σ (.op .idx [.op (.attr 2) [e],g]) (.lst (bw c)) σ:=
 .op (.cons (.op (.cons j .nil) (bH rfl rfl)) (.cons b .nil)) (bC (l:=(N.hp.map bw).map .lst) rfl (by rw [GJ,GJ];exact GC i (by decide)) (cX (by rw [Hg,Hg,h];rfl)))
theorem r5 (F:bg u) (hN:N.Ok) (B:N.n<=200) {s b:Nat} (W:s<N.n) (hb:σ.cell b=.list [.int s]) (b':∀(l:List Nat) σ',aZ σ σ'->(∀x,x∈l↔Reach N.hp s x)->l.length<=200->Q (.tup (bw l)) σ'):
  ae u (d+1) 198 [bq m N tags f,.ref b] Q X σ:=by
 revert s b;delta u d Q X σ m N tags f;delta s b;refine F.call 198 _ rfl d _ Q X σ rfl ?_;refine w_asg (zw (.loc rfl) hb (aB rfl ?_));generalize R:σ.alloc (.dict [((s:Int),.bool Gx)])=J;delta J
 have Y:J.cell σ.n=.dict (g8 uj [s]):=by rw [<-R];exact ah
 have E1:aZ σ J:=by rw [<-R];exact .alloc _ _
 have n1:J.n=σ.n+1:=by rw [<-R];rfl
 refine ar (.op (.cons (.loc rfl) .nil) (sK Y (Gv rfl))) rfl ?_
 have pg:∀ {S M:List Nat} {ok:Nat->Prop},iJ N.hp N.n s S M ok->S.length<=N.n:=fun h=>qE _ _ h.nd h.lt
 have hl:=hN.len
 refine eQ (ClsW σ N s (bq m N tags f) (.ref b) σ.n J.n) (n:=2 * (N.n - 1)+1) (.mk [s] [s] Gw Gw Gw Gw _ ⟨by simp,fun x O=>by rw [GI.mp O];exact W,fun Z h=>h,.head _,fun x O=>by rw [GI.mp O];exact .refl,fun x O h=>absurd O h⟩ (E1.trans (.alloc _ _)) ((au (by rw [n1];exact GA _)).trans Y) (ah.trans (by rw [show iD (MC (fun x=>x.fst) (g8 uj [s]))=[(s:Int)] from List.mergeSort_singleton _];rfl)) (by show σ.n<J.n+1;rw [n1];exact GF (GA _)) (GA _) (GP _) E1.n (by rw [n1];exact G9 (GA _)) (GP _)) fun k ρ σ' h=>?_
 delta k ρ σ'
 cases h with
 |mk S M y2 y5 y6 y7 _ h E Y hT lD lT gD gT T U=>
  injections S M y2 y5 y6 y7;intro h U Y hT
  have dn:=pg h
  refine⟨!(bw M).isEmpty,σ',.of (.loc rfl) (jB hT (by rw [bA];exact(l3 0x1b89c821b211b101b09492949f80) B dn U)) rfl,fun e=>?_,fun e K' hK Z=>?_⟩
  ·have:M=[]:=by cases M with|nil=>rfl|cons _ _=>cases e
   subst this;refine ax (kX (.loc rfl) Y (GC dn B) fun l hp=>b' l _ (E.trans (.alloc _ _)) (fun x=>hp.mem_iff.trans (h.done x)) (by rw [hp.length_eq];exact GC dn B))
  ·delta K'
   have nt:M≠ []:=fun q=>by rw [q] at e;cases e
   obtain⟨o,x,rfl⟩:∃o x,M=o++[x]:=⟨_,_,(List.dropLast_concat_getLast nt).symm⟩;delta o x;rw [GG] at U
   have U:o.length+1<=S.length:=U
   have O:=h.tm x (by simp)
   obtain⟨W,K⟩:∃l,N.hp[x]? =Gu l:=⟨_,Hb (by rw [hl];exact h.lt x O)⟩
   delta W
   have g':σ'.cell J.n=.list (bw o++[.int x]):=by rw [hT];unfold bw;rw [G2];rfl
   refine ar (.op (.cons (.loc rfl) .nil) (CZ g' lT (by rw [bA];exact(l3 0x1b271801b121b89c811c09492949f80) U dn B))) rfl ?_
   refine bK (CH K (by rw [hl];exact B) (.loc rfl) (.loc rfl) _ _ ?_)
   refine bG (ClsF σ N s (bq m N tags f) (.ref b) σ.n J.n x (2 * (N.n - S.length)+o.length) W) rfl (.mk [] W S o y5 y6 y7 _ rfl ⟨h.nd,h.lt,fun z c=>h.tm z (by simp [c]),h.s0,h.re,fun z c B hk=>h.cl z c (fun q=>by
    rcases GH.mp q with q|q
    ·exact B q
    ·exact hk (GI.mp q)) trivial⟩ O (fun Z h=>nomatch h) ⟨E.n,fun z c=>(af (G9 (GQ c gT))).trans (E.cell z c)⟩ ((af T).trans Y) am lD lT gD gT T (GP _) U) (fun Z Z Z Z=>trivial) (fun v r ρ j c' hI d' Z=>?_) (fun ρ j hI=>?_)
   ·delta v r ρ j c';generalize c:v::r=z at hI;delta z
    cases hI with
    |mk xs L g i y5 y6 y7 _ e C D G E' t p H I _ _ _ ms A=>
     injections xs L g i y5 y6 y7;intro e C D G ms A c t p
     cases L with
     |nil=>cases c
     |cons y L=>
      injections y L;intro e c;cases c;refine⟨_,rfl,?_⟩
      have P:y∈W:=by rw [e];simp
      have e':=pg C
      have tb:d8 (ae u d) [Gu (bq m N tags f),Gu (.ref b),Gu (.int x),Gu (.ref σ.n),Gu (.ref J.n),Gu (.int y),y6,y7] j (.op .notIn [.loc 5,.loc 3]) (!GL (y∈g)) j:=by
       have:=gN uj y g
       exact .of (v:=.bool (!GL (y∈g))) (.op (.cons (.loc rfl) (.cons (.loc rfl) .nil)) (by rw [<-this];exact fF (br t))) rfl rfl
      by_cases q:y∈g
      ·rw [decide_eq_true q] at tb
       exact aq tb (ak (bm (d' _ _ (.mk (xs++[y]) L g i _ _ _ _ (by rw [e,GO];rfl) C D (fun z c=>by
        rcases GH.mp c with c|c
        ·exact G z c
        ·rw [GI.mp c];exact q) E' t p H I gD gT T ms A)).1))
      ·rw [decide_eq_false q] at tb;refine aq tb (bT .const (.loc rfl) (.loc rfl) (cw t H (by rw [iR];exact(l2 0x1b89c811b101b09492949f80) B e')) ?_)
       rw [show putI (y:Int) (.bool Gx) (g8 uj g)=g8 uj (g++[y]) from mz uj q]
       have f':(j.set σ.n (.dict (g8 uj (g++[y])))).cell J.n=.list (bw i):=(af T.symm).trans p
       refine aD (Ev.app (.loc rfl) (aM f') (.loc rfl) (bI f' I (by rw [bA];exact(l3 0x1c201b121b89c811b09492949f80) A e' B)) _ _ (ak (bm (d' _ _ ?_).1)))
       have h3:=C.push D K P (hN.hp _ (GN K) y P) q
       have d3:=pg h3
       rw [show bw i++[.int y]=bw (i++[y]) by unfold bw;rw [G2];rfl]
       refine .mk (xs++[y]) L (g++[y]) (i++[y]) _ _ _ _ (by rw [e,GO];rfl) h3 (by simp [D]) (fun z c=>?_) ⟨E'.n,fun z c=>?_⟩ ((af T).trans am) am H I gD gT T ?_ ?_
       ·rcases GH.mp c with c|c
        ·exact Li _ (G z c)
        ·exact Ld _ c
       ·exact(af (G9 (GQ c gT))).trans ((af (G9 (GQ c gD))).trans (E'.cell z c))
       ·rw [GG] at d3;rw [GG,GG]
        have d3:g.length+1<=N.n:=d3
        show 2 * (N.n - (g.length+1))+(i.length+1)<=_
        exact(l6 0x1b271a5282b73542d47718301b277181a028) ms (w5 _ _) (Ha d3)
       ·rw [GG,GG];exact Nat.succ_lt_succ A
   ·generalize c:([]:List V)=z at hI
    cases hI with
    |mk xs L g i y5 y6 y7 _ e C D G E' t p H I _ _ _ ms A=>
     cases L with
     |cons y L=>cases c
     |nil=>
      rw [G1] at e;subst e;refine ak (hK _ _ _ ?_ (.mk g i _ _ _ _ _ ⟨C.nd,C.lt,C.tm,C.s0,C.re,fun z c B Z=>?_⟩ E' t p H I gD gT T (Ie A))).1
      ·rw [GG];show _<_+(o.length+1);exact(l3 0x1b72101c7718210) ms
      ·by_cases q:z=x
       ·subst q;intro l el w hw;rw [K] at el;cases el;exact G w hw
       ·exact C.cl z c B q
end
structure bj (a b:Nat) (m:Nat) (N:NF) (l f:Nat) (ks:List Nat) (σ:Sg):Prop where
 ok:N.Ok
 n200:N.n<=200
 inst:σ.cell a=.inst 257 [(5,bq m N [l] f),(6,.ref b)]
 cb:σ.cell b=.dict (g8 (fun s=>.int (clo N l s:Nat)) ks)
 nd:ks.Nodup
 lt:∀s∈ks,s<N.n
 ab:a≠b
 la:a<σ.n
 lb:b<σ.n
section
variable {u:U} {d:Nat} {Q:V->Sg->Prop} {X:Sg->Prop} {σ:Sg} {a b m:Nat} {N:NF} {l f:Nat} {ks:List Nat}
theorem bj.ext {σ':Sg} (h:bj a b m N l f ks σ) (E:aZ σ σ'):bj a b m N l f ks σ':=
 ⟨h.ok,h.n200,(E.cell _ h.la).trans h.inst,(E.cell _ h.lb).trans h.cb,h.nd,h.lt,h.ab,GQ h.la E.n,GQ h.lb E.n⟩
theorem bj.len (h:bj a b m N l f ks σ):ks.length<=200:=GC (qE _ _ h.nd h.lt) h.n200
theorem bj.ev (h:bj a b m N l f ks σ) {C:aC} {ρ:List (Option V)} {i:Nat} (hi:ρ[i]? =Gu (Gu (.ref a))):Ev C ρ σ (.op (.attr 5) [.loc i]) (bq m N [l] f) σ:=.op (.cons (.loc hi) .nil) (a7 h.inst rfl)
theorem wr {σ:Sg} {x:Nat} {g:List (Int×Int)} {tags:List Nat} {C:aC} {ρ:List (Option V)} {e i:E} (h:N.mv[x]? =Gu g) (j:N.n<=200) (k:Ev C ρ σ e (bq m N tags f) σ) (c:Ev C ρ σ i (.int x) σ):Ev C ρ σ (.op .idx [.op (.attr 1) [e],i]) (.lst (sX g)) σ:=
 .op (.cons (.op (.cons k .nil) (bH rfl rfl)) (.cons c .nil)) (bC (l:=(N.mv.map sX).map .lst) rfl (by rw [GJ,GJ];exact GC j (by decide)) (cX (by rw [Hg,Hg,h];rfl)))
theorem NF.Ok.mvl {N:NF} (h:N.Ok) {x:Nat} {c:List (Int×Int)} (e:N.mv[x]? =Gu c):c.length<=1:=by
 rcases h.mv c (GN e) with rfl|⟨_,_,rfl,_⟩<;>exact Gv rfl
theorem vU {σ:Sg} {x:Nat} {C:aC} {ρ:List (Option V)} {e g:E} (i:Ev C ρ σ e (bq m N [l] f) σ) (c:Ev C ρ σ g (.int x) σ):Ev C ρ σ (.op .inn [g,.op (.attr 3) [e]]) (.bool (x==l)) σ:=by
 refine .op (.cons c (.cons (.op (.cons i .nil) (bH rfl rfl)) .nil)) ?_;rw [CY (kvs:=g8 (fun Z=>.int 3) [l]) rfl,gN];refine congrArg (fun b=>Gu (V.bool b,σ)) ?_
 by_cases q:x=l
 ·subst q;simp
 ·simp [q]
inductive CloI (σ₀:Sg) (N:NF) (l:Nat) (v0 v1:V) (ls:List Nat):List V->List (Option V)->Sg->Prop where
 |mk (xs ys:List Nat) (y3 y4:Option V) (σ:Sg) (e:ls=xs++ys) (E:aZ σ₀ σ):CloI σ₀ N l v0 v1 ls (bw ys) [Gu v0,Gu v1,Gu (.int (qg 0 ((xs.filter (live N l)).map (2^ ·)):Nat)),y3,y4] σ
theorem oG (xs:List Nat) (y:Nat):qg 0 (xs++[y])=qg 0 xs||| y:=HV
theorem A5 {xs:List Nat} (g:N.Ok) {s:Nat} (j:s<N.n) (h:∀x,x∈xs↔Reach N.hp s x):qg 0 ((xs.filter (live N l)).map (2^ ·))=clo N l s:=eI fun i=>by
 rw [iS g j,iQ,Ht];constructor
 ·rintro(h|⟨y,c,e⟩)
  ·cases h
  ·obtain⟨z,k,rfl⟩:=Hm.mp c;obtain rfl:=dO.mp e;obtain⟨n,o⟩:=H5.mp k;exact⟨(h z).mp n,o⟩
 ·rintro⟨c,e⟩
  exact .inr ⟨2^i,Hm.mpr ⟨i,H5.mpr ⟨(h i).mpr c,e⟩,rfl⟩,dO.mpr rfl⟩
theorem eP (F:bg u) (h:bj a b m N l f ks σ) {s:Nat} (O:s<N.n) (G:∀j σ',bj a b m N l f j σ'->aH (· =b) σ (· =b) σ'->Q (.int (clo N l s:Nat)) σ'):
  ae u (d+2) 226 [.ref a,.int s] Q X σ:=by
 revert f ks s;delta u d Q X σ a b m N l;revert s;delta f ks;delta s;refine F.call 226 _ rfl (d+1) _ Q X σ rfl ?_
 have P:d8 (ae u (d+1)) (dR 5 [0,1] [.ref a,.int s]) σ (.op .notIn [.loc 1,.op (.attr 6) [.loc 0]]) (!GL (s∈ks)) σ:=by
  have:=gN (fun s=>.int (clo N l s:Nat)) s ks
  exact .of (v:=.bool (!GL (s∈ks))) (.op (.cons (.loc rfl) (.cons (.op (.cons (.loc rfl) .nil) (a7 h.inst rfl)) .nil)) (by rw [<-this];exact fF (br h.cb))) rfl rfl
 have H:∀ {ρ:List (Option V)} {j:List Nat} {σ':Sg},ρ[0]? =Gu (Gu (.ref a))->ρ[1]? =Gu (Gu (.int s))->bj a b m N l f j σ'->s∈j->aH (· =b) σ (· =b) σ'->wpSs tab (ae u (d+1)) [.ret (.op .idx [.op (.attr 6) [.loc 0],.loc 1])] ρ (d6 Q) X σ':=fun h0 h1 c ms S=>
  ax (Ev.op (.cons (.op (.cons (.loc h0) .nil) (a7 c.inst rfl)) (.cons (.loc h1) .nil)) (jP (cy c.cb) (br c.cb) (by rw [gE,if_pos ms])) _ _ (G _ _ c S))
 by_cases q:s∈ks
 ·rw [decide_eq_true q] at P;exact aq P (ak (H rfl rfl h q (.refl _ _)))
 ·rw [decide_eq_false q] at P;refine aq P (ar .const rfl (bK ?_));refine ay (.cons (h.ev rfl) (.cons (.op (.cons (.loc rfl) .nil) (bP (Gv rfl))) .nil)) ?_;refine r5 F h.ok h.n200 O ah fun U g I J ll=>?_;delta U g
  have K:=(aZ.alloc σ (.list [.int s])).trans I
  refine bG (CloI σ N l (.ref a) (.int s) U) rfl (.mk [] U Gw Gw g rfl K) (fun Z Z Z Z=>trivial) (fun v r ρ σ' Y L hK Z=>?_) (fun ρ σ' L=>?_)
  ·delta v r ρ σ' Y;generalize R:v::r=z at L;delta z
   cases L with
   |mk o n y3 A _ e E=>
    delta o n y3 A
    cases n with
    |nil=>cases R
    |cons y n=>
     delta y n;cases R;refine⟨_,rfl,?_⟩
     have c:=h.ext E
     have yn:y<N.n:=h.ok.reach O ((J y).mp (by rw [e];simp))
     obtain⟨B,D⟩:∃k,N.mv[y]? =Gu k:=⟨_,Hb yn⟩;delta B
     have el:live N l y=(!(sX B).isEmpty||y==l):=by
      unfold live;rw [Hl,D];cases B<;>rfl
     have ml:(sX B).length<=1000000:=by rw [GJ];exact GC (h.ok.mvl D) (by decide)
     have W:d8 (ae u (d+1)) [Gu (.ref a),Gu (.int s),Gu (.int (qg 0 ((o.filter (live N l)).map (2^ ·)):Nat)),Gu (.int y),A] σ' (.or (.op .idx [.op (.attr 1) [.op (.attr 5) [.loc 0]],.loc 3]) (.op .inn [.loc 3,.op (.attr 3) [.op (.attr 5) [.loc 0]]])) (live N l y) σ':=by
      have T:=d8.of (t:=!(sX B).isEmpty) (wr (C:=ae u (d+1)) (ρ:=[Gu (.ref a),Gu (.int s),Gu (.int (qg 0 ((o.filter (live N l)).map (2^ ·)):Nat)),Gu (.int y),A]) D h.n200 (c.ev (i:=0) rfl) (.loc (k:=3) rfl)) (sr ml) rfl
      have e2:=d8.of (t:=y==l) (vU (C:=ae u (d+1)) (ρ:=[Gu (.ref a),Gu (.int s),Gu (.int (qg 0 ((o.filter (live N l)).map (2^ ·)):Nat)),Gu (.int y),A]) (x:=y) (c.ev (i:=0) rfl) (.loc (k:=3) rfl)) rfl rfl
      rw [el]
      cases D:(sX B).isEmpty with
      |true=>rw [D] at T;exact .orF T e2
      |false=>rw [D] at T;exact .orT T
     have go:∀M:Nat,M=qg 0 (((o++[y]).filter (live N l)).map (2^ ·))->Y .next [Gu (.ref a),Gu (.int s),Gu (.int M),Gu (.int y),A] σ':=fun M eM=>by
      rw [eM];exact(hK _ _ (.mk (o++[y]) n _ _ σ' (by rw [e,GO];rfl) E)).1
     refine aq W ?_
     cases lv:live N l y with
     |false=>exact ak (bm (go _ (by rw [IU,Jq,lv,JC,if_neg (by decide),G1])))
     |true=>
      refine lu rfl (.op (.cons .const (.cons (.loc rfl) .nil)) (aF (rV (Hc _) (by have:=h.n200;lia) (by decide)))) (by rw [rD];exact congrArg Gu (fu _ _)) (ak (bm (go _ ?_)))
      rw [IU,Jq,lv,JC,if_pos rfl,G2];exact(oG _ _).symm
  ·generalize R:([]:List V)=z at L
   cases L with
   |mk o n y3 A _ e E=>
    cases n with
    |cons y n=>cases R
    |nil=>
     rw [G1] at e;subst e
     have c:=h.ext E
     have kl:=h.len
     refine bT (.loc rfl) (.op (.cons (.loc rfl) .nil) (a7 c.inst rfl)) (.loc rfl) (cw c.cb c.lb (by rw [iR];exact(l1 0x1b89c801b09492949f80) kl)) (ak ?_)
     rw [A5 h.ok O J];refine H rfl rfl ⟨h.ok,h.n200,(af h.ab).trans c.inst,am.trans (congrArg _ (mz (fun s=>.int (clo N l s:Nat)) q)),Ja.mpr ⟨h.nd,by simp,fun x p y hy e=>q (by rw [GI.mp hy] at e;exact e▸p)⟩,fun x p=>?_,h.ab,c.la,c.lb⟩ (by simp) ((aH.ext E).trans (.one rfl))
     rcases GH.mp p with p|p
     ·exact h.lt x p
     ·rw [GI.mp p];exact O
end
noncomputable def w4 (N:NF) (s:Nat):List (Nat×Nat):=(N.mv.getD s []).map fun p=>(p.1.toNat,p.2.toNat)
noncomputable def fA (N:NF) (l s:Nat):List (Nat×Nat):=(w4 N s).map fun p=>(p.1,clo N l p.2)
noncomputable def bJ (N:NF) (l:Nat) (xs:List Nat):List (Nat×Nat):=xs.flatMap (fA N l)
noncomputable def cx (b:List (Nat×Nat)):List V:=b.map fun p=>.tup [.int p.1,.int p.2]
noncomputable def uG (M l:Nat):List Nat:=if M.testBit l then [3] else []
section
variable {u:U} {d:Nat} {Q:V->Sg->Prop} {X:Sg->Prop} {σ:Sg} {a b m:Nat} {N:NF} {l f:Nat} {ks:List Nat}
theorem lq {C:aC} {t:ky} {e c:List S} {ρ:List (Option V)} {K:cU} {v:V} (g:aV v σ=Gu []) (i:∀σ',cq v [] σ') (q:wpSs tab C c ρ K X σ):nH C t e c ρ K X v σ:=by
 unfold nH;simp only [g];exact⟨i _,q⟩
theorem m8 {C:aC} {t:ky} {n o:List S} {ρ e:List (Option V)} {K:cU} {v i:V} (p:aV v σ=Gu [i]) (g:∀σ',cq v [i] σ') (r:eX ρ t i σ=Gu e) (q:∀j:cU,(∀c σ',wpSs tab C o c K X σ'->j .next c σ'/\j .cont c σ')->wpSs tab C n e j X σ):nH C t n o ρ K X v σ:=by
 unfold nH;simp only [p];refine⟨g _,?_⟩;simp only [r];refine q _ fun c σ' k=>?_;exact⟨⟨g _,k⟩,g _,k⟩
theorem nJ (F:bg u) {ρ:List (Option V)} {e:E} (o:N.Ok) (p:N.n<=200) (q:Ev (ae u (d+1)) ρ σ e (bq m N [l] f) σ) (j:∀σ',aZ σ σ'->bj σ.n (σ.n+1) m N l f [] σ'->Q (.ref σ.n) σ'):wpE tab (ae u (d+1)) ρ (.callC 257 [e]) Q X σ:=by
 refine w_callC (.cons q .nil) (f:=219) rfl (F.call 219 _ rfl d _ _ X _ rfl ?_);refine aG (.loc rfl) (.loc rfl) (aS ah (GA _) (G7 _) rfl) ?_;generalize g:(σ.alloc (.inst 257 [])).set σ.n _=c
 have k:c.n=σ.n+1:=by rw [<-g];rfl
 have r:c.cell σ.n=.inst 257 [(5,bq m N [l] f)]:=by rw [<-g];exact am
 have s:∀x,x<σ.n->c.cell x=σ.cell x:=fun x i=>by rw [<-g,af (G9 i)];exact au i
 have n:σ.n<c.n:=by rw [k];exact GA _
 refine aG (v:=.ref σ.n) (x:=.ref c.n) (σ₁:=c.alloc (.dict [])) (.op .nil rfl) (.loc rfl) (aS ((au n).trans r) (GF n) (Gv rfl) rfl) (ak ⟨rfl,?_⟩);refine j _ ⟨by show σ.n<=c.n+1;rw [k];lia,fun x i=>by rw [af (G9 i),au (JN i n)];exact s x i⟩ ⟨o,p,by rw [<-k];exact am,by rw [af (HK (GA _))];show(c.alloc (Cell.dict [])).cell (σ.n+1)=_;rw [<-k];exact ah,.nil,(fun Z h=>nomatch h),G9 (GA _),GF n,by show _<c.n+1;rw [k];exact GA _⟩
theorem rO (F:bg u) (h:bj a b m N l f ks σ) (g:f<N.n) (c:∀e σ',bj a b m N l f e σ'->aH (· =b) σ (· =b) σ'->Q (.int (clo N l f:Nat)) σ'):ae u (d+3) 233 [.ref a] Q X σ:=
 F.call 233 _ rfl (d+2) _ Q X σ rfl (ax (w_callM (.loc rfl) (aw h.inst rfl rfl) (.cons (.op (.cons (h.ev rfl) .nil) (bH rfl rfl)) .nil) (eP F h g c)))
inductive WayI (σ₀:Sg) (a b W m:Nat) (N:NF) (l f:Nat) (v1:V) (ls:List Nat):List V->List (Option V)->Sg->Prop where
 |mk (xs ys ks:List Nat) (y3 y4 y5 y6:Option V) (σ:Sg) (e:ls=xs++ys) (h:bj a b m N l f ks σ) (S:aH (· =b) σ₀ (· =b) σ) (hW:σ.cell W=.list (cx (bJ N l xs))) (lW:W<σ.n) (gW:σ₀.n<=W) (hl:(bJ N l xs).length<=xs.length):WayI σ₀ a b W m N l f v1 ls (bw ys) [Gu (.ref a),Gu v1,Gu (.ref W),y3,y4,y5,y6] σ
theorem d9 (N:NF) (l:Nat) (xs:List Nat) (y:Nat):bJ N l (xs++[y])=bJ N l xs++fA N l y:=by
 unfold bJ;rw [NK,JL,List.flatMap_nil,G1]
theorem wY (F:bg u) (h:bj a b m N l f ks σ) {M:Nat} (W:M<2^N.n) (G:∀s σ',bj a b m N l f s σ'->aH (· =b) σ (· =b) σ'->Q (.lst (cx (bJ N l (a8 M)))) σ'):ae u (d+3) 240 [.ref a,.int M] Q X σ:=by
 revert f ks M;delta u d Q X σ a b m N l;revert M;delta f ks;delta M;refine rf (F.call 240 _ rfl (d+2) _ _ X σ rfl ?_);refine ar (.op .nil (bP (G7 _))) rfl (bK (ay (.cons (.loc rfl) .nil) (pG F W (GC h.n200 (by decide)) fun j t=>?_)))
 delta j
 have E0:=(aZ.alloc σ (.list [])).trans t
 have bl:=oJ W
 have Y:j.cell σ.n=.list []:=(t.cell _ (GA _)).trans ah
 refine bG (WayI σ a b σ.n m N l f (.int M) (a8 M)) rfl (.mk [] _ ks _ _ _ _ j rfl (h.ext E0) (.ext E0) Y (GQ (GA _) t.n) (GP _) (GP _)) (fun Z Z Z Z=>trivial) (fun v r ρ σ' K' H hK Z=>?_) (fun ρ σ' H=>?_)
 ·delta v r ρ σ' K';generalize K:v::r=z at H;delta z
  cases H with
  |mk E A s y3 L O y6 _ e o S I P R hl=>
   delta E A s y3 L O y6
   cases A with
   |nil=>cases K
   |cons y A=>
    delta y A;cases K;refine⟨_,rfl,?_⟩
    have ym:y∈a8 M:=by rw [e];simp
    have yn:y<N.n:=J4 fun q=>by
     have:=du.mp ym
     rw [JO (GQ W (Hh (by decide) q))] at this
     cases this
    have xl:E.length<=200:=by
     rw [e,GG] at bl
     have:=h.n200
     exact(l3 0x1b17201b89c811b89c80) bl this
    obtain⟨mv,T⟩:∃k,N.mv[y]? =Gu k:=⟨_,Hb yn⟩;delta mv
    have eg:N.mv.getD y []=mv:=by rw [Hl,T];rfl
    have B:∀ {L O ks₂ i},bj a b m N l f ks₂ i->aH (· =b) σ (· =b) i->i.cell σ.n=.list (cx (bJ N l (E++[y])))->σ.n<i.n->K' .next [Gu (.ref a),Gu (.int M),Gu (.ref σ.n),Gu (.int y),L,O,y6] i:=fun c p n C=>
     (hK _ _ (.mk (E++[y]) A _ _ _ _ _ _ (by rw [e,GO];rfl) c p n C R (by
      rw [d9,GG,GG]
      have:(fA N l y).length<=1:=by
       rw [GJ,GJ,eg];exact h.ok.mvl T
      show _<=E.length+1
      exact(l3 0x1b1811b201b7182710) this hl))).1
    refine bK (wr T h.n200 (o.ev rfl) (.loc rfl) _ _ ?_);rcases h.ok.mv mv (GN T) with rfl|⟨k,g,rfl,kk,gn⟩
    ·refine lq rfl (fun Z=>trivial) (ak (B o S ?_ P));rw [d9,show fA N l y=[] by unfold fA w4;rw [eg];rfl,G1];exact I
    ·delta k g;refine m8 rfl (fun Z=>trivial) rfl fun J D=>aD ?_;delta J;refine C6 ?_;refine Ev.loc rfl _ _ ⟨aM I,?_⟩;refine oy ?_;refine Ev.loc rfl _ _ ?_;refine w_callM (.loc rfl) (aw o.inst rfl rfl) (.cons (.loc rfl) .nil) (eP F o gn fun ks₂ i c p=>?_);refine eV ?_;simp only [aK (Gv rfl:[V.int k,V.int (clo N l g:Nat)].length<=1000)]
     have U:σ.n≠b:=fun q=>absurd h.lb (by rw [<-q];exact HD _)
     have o2:=p.other P U
     have n:=o2.2.1.trans I
     simp only [bI n o2.2.2 (by rw [GJ];exact(l2 0x1b89c811b101b09492949f80) xl hl)]
     have S3:=S.trans p
     refine ak (D _ _ (ak (B (ks₂:=ks₂) ⟨c.ok,c.n200,(af fun q=>?_).trans c.inst,(af U.symm).trans c.cb,c.nd,c.lt,c.ab,c.la,c.lb⟩ (S3.tail R) (am.trans ?_) o2.2.2))).1
     ·exact absurd h.la (by rw [q];exact HD _)
     ·have kn:k=((k.toNat:Nat):Int):=by rcases kk with rfl|rfl<;>rfl
      rw [d9,show fA N l y=[(k.toNat,clo N l g)] by unfold fA w4;rw [eg];rfl]
      unfold cx;rw [G2,Hs,List.map_nil, <-kn]
 ·generalize K:([]:List V)=z at H
  cases H with
  |mk E A s y3 L O y6 _ e o S I P R hl=>
   cases A with
   |cons y A=>cases K
   |nil=>
    rw [G1] at e;subst e;refine ax (Ev.loc rfl _ _ ⟨_,_,rfl,I,P,G s _ ?_ (S.tail R)⟩)
    have U:σ.n≠b:=fun q=>absurd h.lb (by rw [<-q];exact HD _)
    have na:a≠σ.n:=fun q=>absurd h.la (by rw [q];exact HD _)
    exact⟨o.ok,o.n200,(af na).trans o.inst,(af U.symm).trans o.cb,o.nd,o.lt,o.ab,o.la,o.lb⟩
end
noncomputable def cZ (k c:Nat):Bool:=k / 2^c % 2==1
noncomputable def qn (b:List (Nat×Nat)) (c:Nat):Nat:=qg 0 ((b.filter fun p=>cZ p.1 c).map (·.2))
section
variable {u:U} {d:Nat} {Q:V->Sg->Prop} {X:Sg->Prop} {σ:Sg} {a b m:Nat} {N:NF} {l f:Nat} {ks:List Nat}
theorem mB {C:aC} {ρ:List (Option V)} {i j k c:Nat} (hi:ρ[i]? =Gu (Gu (.int k))) (g:ρ[j]? =Gu (Gu (.int c))):d8 C ρ σ (.op (.bin .band) [.op (.bin .shr) [.loc i,.loc j],.const (.int 1)]) (cZ k c) σ:=by
 refine .of (v:=.int ((k / 2^c % 2:Nat):Int)) (.op (.cons (.op (.cons (.loc hi) (.cons (.loc g) .nil)) (aF (r:=((k / 2^c:Nat):Int)) (by rw [z7 (Hc _),qL]))) (.cons .const .nil)) (aF (op:=.band) (a:=((k / 2^c:Nat):Int)) (b:=1) (congrArg Gu (qR _)))) ?_ rfl
 show Gu (!(((k / 2^c % 2:Nat):Int) ==0))=Gu (k / 2^c % 2==1)
 rcases Nat.mod_two_eq_zero_or_one (k / 2^c) with e|e<;>rw [e]<;>rfl
inductive AftI (σ₀:Sg) (v0 v1:V) (ws:List (Nat×Nat)) (c:Nat):List V->List (Option V)->Sg->Prop where
 |mk (xs ys:List (Nat×Nat)) (y4 y5:Option V) (e:ws=xs++ys):AftI σ₀ v0 v1 ws c (cx ys) [Gu v0,Gu v1,Gu (.int c),Gu (.int (qn xs c:Nat)),y4,y5] σ₀
theorem qW (F:bg u) {v0:V} {g:List (Nat×Nat)} {c:Nat} (k:Q (.int (qn g c:Nat)) σ):ae u (d+1) 247 [v0,.lst (cx g),.int c] Q X σ:=by
 revert v0 g c;delta u d Q X σ;delta v0 g c;refine F.call 247 _ rfl d _ Q X σ rfl ?_;refine aq (t:=Gz) (.of (v:=.bool (GL ((c:Int) <0))) (.op (.cons (.loc rfl) (.cons .const .nil)) rfl) (congrArg Gu (decide_eq_false (by lia))) rfl) (ak (ar .const rfl (bK (Ev.loc rfl _ _ ?_))))
 refine bG (AftI σ v0 (.lst (cx g)) g c) rfl (.mk [] g Gw Gw rfl) (fun Z Z Z Z=>trivial) (fun v r s n A o E Z=>?_) (fun s n o=>?_)
 ·delta v r s n A;generalize p:v::r=z at o;delta z
  cases o with
  |mk q i B C e=>
   delta q i B C
   cases i with
   |nil=>cases p
   |cons y i=>
    delta y i;cases p;refine⟨_,rfl,?_⟩
    have j:∀M:Nat,M=qn (q++[y]) c->A .next [Gu v0,Gu (.lst (cx g)),Gu (.int c),Gu (.int M),Gu (.int y.1),Gu (.int y.2)] σ:=fun M G=>by
     rw [G];exact(E _ _ (.mk (q++[y]) i _ _ (by rw [e,GO];rfl))).1
    refine aq (mB rfl rfl) ?_;unfold qn at j;rw [IU,Jq,JC] at j
    cases D:cZ y.1 c with
    |false=>
     rw [D,if_neg (by decide),G1] at j
     exact ak (bm (j _ rfl))
    |true=>
     rw [D,if_pos rfl,G2] at j;exact lu rfl (.loc rfl) (congrArg Gu (fu _ _)) (ak (bm (j _ (oG _ _).symm)))
 ·generalize p:([]:List V)=z at o
  cases o with
  |mk q i B C e=>
   cases i with
   |cons y i=>cases p
   |nil=>
    rw [G1] at e;subst e;exact ax (Ev.loc rfl _ _ k)
theorem uJ (F:bg u) {v0 v1:V} {c:Int} (g:c<0) (e:Q (.int 0) σ):ae u (d+1) 247 [v0,v1,.int c] Q X σ:=
 F.call 247 _ rfl d _ Q X σ rfl (aq (t:=Gx) (.of (v:=.bool (GL (c<0))) (.op (.cons (.loc rfl) (.cons .const .nil)) rfl) (congrArg Gu (decide_eq_true g)) rfl) (ax (Ev.const _ _ e)))
inductive TagI (σ₀:Sg) (l:Nat) (v0 v1:V) (ls:List Nat):List V->List (Option V)->Sg->Prop where
 |mk (xs ys:List Nat) (y3 y4 y5:Option V) (σ:Sg) (e:ls=xs++ys) (E:aZ σ₀ σ) (hD:σ.cell σ₀.n=.dict (g8 uj (if l∈xs then [3] else []))) (lD:σ₀.n<σ.n):TagI σ₀ l v0 v1 ls (bw ys) [Gu v0,Gu v1,Gu (.ref σ₀.n),y3,y4,y5] σ
theorem tI (F:bg u) {ls:List Nat} (i:∀σ',aZ σ σ'->Q (.tup (bw (if l∈ls then [3] else []))) σ'):ae u (d+1) 205 [bq m N [l] f,.lst (bw ls)] Q X σ:=by
 revert ls;delta u d Q X σ m N l f;delta ls;refine F.call 205 _ rfl d _ Q X σ rfl ?_;refine ar (v:=.ref σ.n) (σ₁:=σ.alloc (.dict [])) (.op .nil rfl) rfl (bK (Ev.loc rfl _ _ ?_));refine bG (TagI σ l (bq m N [l] f) (.lst (bw ls)) ls) rfl (.mk [] ls Gw Gw Gw _ rfl (.alloc _ _) ah (GA _)) (fun Z Z Z Z=>trivial) (fun v r B σ' K j C Z=>?_) (fun B σ' j=>?_)
 ·delta v r B σ' K;generalize n:v::r=z at j;delta z
  cases j with
  |mk c g D G H _ e E o s=>
   delta c g D G H
   cases g with
   |nil=>cases n
   |cons y g=>
    delta y g;cases n;refine⟨_,rfl,?_⟩
    have I:l∈c++[y]↔l∈c\/l=y:=by rw [GH,GI]
    refine aq (t:=y==l) (.of (vU (.loc rfl) (.loc rfl)) rfl rfl) ?_
    by_cases q:y=l
    ·subst q;rw [beq_self_eq_true]
     have L:((g8 uj (if y∈c then [3] else [])).length)<=1000000:=by split<;>exact Gv rfl
     refine bT .const (.loc rfl) (.op (.cons (.op (.cons (.loc rfl) .nil) (bH rfl rfl)) (.cons (.loc rfl) .nil)) (jP (kvs:=g8 (fun Z=>.int 3) [y]) rfl rfl (by rw [gE,if_pos (.head _)]))) (cw o s L) (ak (bm (C _ _ ?_).1))
     refine .mk (c++[y]) g _ _ _ _ (by rw [e,GO];rfl) ⟨E.n,fun x J=>(af (G9 J)).trans (E.cell x J)⟩ (am.trans ?_) s
     rw [if_pos (I.mpr (.inr rfl))]
     split<;>rfl
    ·rw [beq_false_of_ne q];refine ak (bm (C _ _ (.mk (c++[y]) g _ _ _ _ (by rw [e,GO];rfl) E (o.trans ?_) s)).1)
     have:l∈c++[y]↔l∈c:=I.trans ⟨fun h=>h.elim id fun e=>absurd e.symm q,.inl⟩
     by_cases p:l∈c
     ·rw [if_pos p,if_pos (this.mpr p)]
     ·rw [if_neg p,if_neg fun h=>p (this.mp h)]
 ·generalize n:([]:List V)=z at j
  cases j with
  |mk c g D G H _ e E o s=>
   cases g with
   |cons y g=>cases n
   |nil=>
    rw [G1] at e;subst e;refine ax (kX (.loc rfl) o (by split<;>exact Gv rfl) fun k A=>?_)
    have:k=if l∈ls then [3] else []:=by
     by_cases p:l∈ls
     ·rw [if_pos p] at A ⊢;exact List.perm_singleton.mp A
     ·rw [if_neg p] at A ⊢;exact List.perm_nil.mp A
    subst this;exact i _ (E.trans (.alloc _ _))
theorem Bk (F:bg u) (h:bj a b m N l f ks σ) {M:Nat} (n:M<2^N.n) (e:∀σ',aZ σ σ'->Q (.tup (bw (uG M l))) σ'):ae u (d+2) 254 [.ref a,.int M] Q X σ:=by
 refine F.call 254 _ rfl (d+1) _ Q X σ rfl (ax ?_);refine gQ ?_;refine h.ev rfl _ _ ?_;refine ay (.cons (.loc rfl) .nil) (pG F n (GC h.n200 (by decide)) fun j g=>?_)
 refine tI F fun c i=>?_
 have:=e c (g.trans i)
 unfold uG at this
 have k:l∈a8 M↔M.testBit l=Gx:=du
 by_cases p:l∈a8 M
 ·rw [if_pos p];rw [if_pos (k.mp p)] at this;exact this
 ·rw [if_neg p];rw [if_neg fun h=>p (k.mpr h)] at this;exact this
end
noncomputable def dF (b:List Nat) (w:Nat):List Nat:=if w=0\/w∈b then b else b++[w]
noncomputable def CK (b:List Nat) (w:Nat):Int:=if w=0 then -1 else((b.idxOf w:Nat):Int)
noncomputable def fB (nx:Nat->Nat) (s:List Nat×List Int) (c:Nat):List Nat×List Int:=(dF s.1 (nx c),s.2++[CK (dF s.1 (nx c)) (nx c)])
noncomputable def bZ (N:NF) (l M c:Nat):Nat:=qn (bJ N l (a8 M)) c
noncomputable def us (nx:Nat->Nat->Nat) (s0:Nat):Nat->List Nat×List (List Int)
 |0=>([s0],[])
 |k+1=>(([0,1,2].foldl (fB (nx ((us nx s0 k).1.getD k 0))) ((us nx s0 k).1,[])).1,(us nx s0 k).2++[([0,1,2].foldl (fB (nx ((us nx s0 k).1.getD k 0))) ((us nx s0 k).1,[])).2])
structure Fin (nx:Nat->Nat->Nat) (s0 K:Nat):Prop where
 e:(us nx s0 K).1.length=K
 lt:∀k,k<K->k<(us nx s0 k).1.length
theorem uS (b:List Nat) (w:Nat):b.length<=(dF b w).length:=by
 unfold dF;split
 ·exact GP _
 ·rw [GG];exact HN _ _
theorem nK (nx:Nat->Nat) (b:List Nat):∀(s:List Nat×List Int),s.1.length<=(b.foldl (fB nx) s).1.length:=by
 induction b with
 |nil=>
  intro _;exact GP _
 |cons c b d=>
  intro s;exact GC (uS s.1 (nx c)) (d (fB nx s c))
theorem rJ (nx:Nat->Nat->Nat) (s0 k:Nat):(us nx s0 k).1.length<=(us nx s0 (k+1)).1.length:=nK (nx ((us nx s0 k).1.getD k 0)) [0,1,2] ((us nx s0 k).1,[])
theorem mN (nx:Nat->Nat->Nat) (s0:Nat) {k j:Nat} (h:k<=j):(us nx s0 k).1.length<=(us nx s0 j).1.length:=by
 induction j with
 |zero=>rw [NJ.mp h];exact GP _
 |succ j b=>
  rcases LM k (j+1) with q|q
  ·exact GC (b (LL q)) (rJ nx s0 j)
  ·rw [IH h q];exact GP _
theorem us_rows (nx:Nat->Nat->Nat) (s0:Nat):∀k,(us nx s0 k).2.length=k
 |0=>rfl
 |k+1=>by
  show((us nx s0 k).2++[_]).length=_
  rw [GG,us_rows nx s0 k];rfl
theorem B8 {N:NF} (h:N.Ok) {l M c:Nat} (m:M<2^N.n):bZ N l M c<2^N.n:=jt fun x b=>by
 unfold bZ qn at b;rw [iQ,Ht] at b;rcases b with b|⟨y,n,e⟩
 ·cases b
 ·obtain⟨p,o,rfl⟩:=Hm.mp n;obtain⟨s,r,d⟩:=Iw.mp (H5.mp o).1
  have t:s<N.n:=J4 fun q=>by
   have:=du.mp r
   rw [JO (GQ m (Hh (by decide) q))] at this
   cases this
  obtain⟨f,i⟩:∃k,N.mv[s]? =Gu k:=⟨_,Hb t⟩
  have u:N.mv.getD s []=f:=by rw [Hl,i];rfl
  unfold fA w4 at d;rw [u] at d;rcases h.mv f (GN i) with rfl|⟨k,g,rfl,v,j⟩
  ·cases d
  ·rw [GI.mp d] at e;exact h.reach j ((iS h j).mp e).1
structure cV (σ₀:Sg) (a b S D R m:Nat) (N:NF) (l f:Nat) (ks rs:List Nat) (s:List Nat×List (List Int)) (σ:Sg):Prop where
 sub:bj a b m N l f ks σ
 E:aZ σ₀ σ
 cS:σ.cell S=.list (bw s.1)
 cD:σ.cell D=.dict (g8 (fun w=>.int (s.1.idxOf w:Nat)) s.1)
 cR:σ.cell R=.list (rs.map .ref)
 rl:rs.length=s.2.length
 rc:∀(i:Nat) x r,rs[i]? =Gu x->s.2[i]? =Gu r->σ.cell x=.list (r.map .int)
 nd:rs.Nodup
 fr:∀x∈rs,R<x/\x<σ.n
 h1:σ₀.n<=a
 h2:a<b
 h3:b<S
 h4:S<D
 h5:D<R
 h6:R<σ.n
 ms:∀w∈s.1,w<2^N.n
section
variable {σ₀ σ σ':Sg} {a b S D R m:Nat} {N:NF} {l f:Nat} {ks rs:List Nat} {s:List Nat×List (List Int)}
theorem cV.step {d:List Nat} (h:cV σ₀ a b S D R m N l f ks rs s σ) (st:aH (· =b) σ (· =b) σ') (h':bj a b m N l f d σ'):cV σ₀ a b S D R m N l f d rs s σ':=by
 have o:=h.h1;have p:=h.h2;have e:=h.h3;have g:=h.h4;have j:=h.h5;have k:=h.h6
 have n:∀x,b<x->x<σ.n->σ'.cell x=σ.cell x:=fun x q c=>st.keep x c (HK q)
 exact⟨h',⟨GC h.E.n st.n,fun x c=>(st.keep x (GQ c h.E.n) (by show x≠b;exact(l4 0x1c101b211c329d306) c o p)).trans (h.E.cell x c)⟩,(n _ e ((l4 0x1c101c211c321c30) g j k)).trans h.cS,(n _ ((l3 30855516986400) e g) ((l3 30855516986400) j k)).trans h.cD,(n _ ((l4 0x1c101c211c321c30) e g j) k).trans h.cR,h.rl,
  fun i x r c t=>(n x (by have:=h.fr x (GN c);exact(l5 0x1c401c341c231c121c10) e g j this.1) (h.fr x (GN c)).2).trans (h.rc i x r c t),h.nd,fun x c=>⟨(h.fr x c).1,GQ (h.fr x c).2 st.n⟩,o,p,e,g,j,GQ k st.n,h.ms⟩
theorem cV.ext (h:cV σ₀ a b S D R m N l f ks rs s σ) (E:aZ σ σ'):cV σ₀ a b S D R m N l f ks rs s σ':=h.step (.ext E) (h.sub.ext E)
theorem bj.put (h:bj a b m N l f ks σ) {x:Nat} {v:Cell} (c:b<x) (d:a<b):bj a b m N l f ks (σ.set x v):=
 ⟨h.ok,h.n200,(af ((l3 493688272310790) d c)).trans h.inst,(af ((l2 7533613318) c)).trans h.cb,h.nd,h.lt,h.ab,h.la,h.lb⟩
theorem cV.put (h:cV σ₀ a b S D R m N l f ks rs s σ) {x:Nat} {v:Cell} (c:R<x) (p:x∉rs):cV σ₀ a b S D R m N l f ks rs s (σ.set x v):=by
 have o:=h.h1;have k:=h.h2;have n:=h.h3;have j:=h.h4;have d:=h.h5;have q:=h.h6
 exact⟨h.sub.put ((l5 0x1c101c211c321c431c40) n j d c) k,⟨h.E.n,fun y g=>(af (((l8 0x1c141b7621c66761c5661c351c431c209d106) c o k n j d g))).trans (h.E.cell y g)⟩,(af ((l4 0x1c101c211c329d306) j d c)).trans h.cS,(af ((l3 493688272310790) d c)).trans h.cD,(af ((l2 7533613318) c)).trans h.cR,h.rl,
  fun i y r g t=>(af fun e=>p (by rw [<-e];exact GN g)).trans (h.rc i y r g t),h.nd,h.fr,o,k,n,j,d,q,h.ms⟩
theorem cV.add (h:cV σ₀ a b S D R m N l f ks rs s σ) {w:Nat} (p:w∉s.1) (q:w<2^N.n):cV σ₀ a b S D R m N l f ks rs (s.1++[w],s.2) ((σ.set D (.dict (putI (w:Int) (.int (s.1.length:Nat)) (g8 (fun w=>.int (s.1.idxOf w:Nat)) s.1)))).set S (.list (bw s.1++[.int w]))):=by
 have o:=h.h1;have e:=h.h2;have g:=h.h3;have c:=h.h4;have j:=h.h5;have t:=h.h6
 refine⟨(h.sub.put ((l3 30855516986400) g c) e).put ((l2 470817808) g) e,⟨h.E.n,fun y d=>(af ((l5 0x1c101c211c431b049d236) e g d o)).trans ((af ((l6 0x1b101c211c321c431c059d456) o e g c d)).trans (h.E.cell y d))⟩,am.trans (by unfold bw;rw [G2];rfl),(af ((l2 7533088790) c)).trans (am.trans (congrArg _ ?_)),(af ((l3 493688271786022) c j)).trans ((af ((l2 7533088790) j)).trans h.cR),h.rl,
  fun i y r d u=>by
   have:=h.fr y (GN d)
   exact(af ((l4 0x1c311c231c021d106) c j this.1)).trans ((af ((l3 494856470384902) j this.1)).trans (h.rc i y r d u)),h.nd,h.fr,o,e,g,c,j,t,fun x n=>?_⟩
 ·have v:g8 (fun w=>.int (s.1.idxOf w:Nat)) s.1=g8 (fun x=>.int ((s.1++[w]).idxOf x:Nat)) s.1:=si fun k z=>by
   rw [N7,if_pos z]
  have A:(s.1++[w]).idxOf w=s.1.length:=by rw [N7,if_neg p,NC,IJ]
  rw [v]
  have:=mz (fun x=>.int ((s.1++[w]).idxOf x:Nat)) p
  rw [A] at this;exact this
 ·rcases GH.mp n with n|n
  ·exact h.ms x n
  ·rw [GI.mp n];exact q
theorem cV.row (h:cV σ₀ a b S D R m N l f ks rs s σ) {W:Nat} {r:List Int} (u:R<W) (A:W∉rs) (B:W<σ.n) (C:σ.cell W=.list (r.map .int)):cV σ₀ a b S D R m N l f ks (rs++[W]) (s.1,s.2++[r]) (σ.set R (.list (rs.map .ref++[.ref W]))):=by
 have v:=h.h1;have p:=h.h2;have t:=h.h3;have o:=h.h4;have g:=h.h5;have E:=h.h6
 refine⟨h.sub.put ((l4 0x1c101c211c321c30) t o g) p,⟨h.E.n,fun y c=>(af (((l7 0x1b6621c5661c451c341c131c209d106) v p t o g c))).trans (h.E.cell y c)⟩,(af ((l3 493688272310790) o g)).trans h.cS,(af ((l2 7533613318) g)).trans h.cD,am.trans (by rw [G2];rfl),by rw [GG,GG,h.rl];rfl,
  fun i y q c j=>?_,Ja.mpr ⟨h.nd,by simp,fun x d y c e=>A (by rw [GI.mp c] at e;exact e▸d)⟩,fun x d=>?_,v,p,t,o,g,E,h.ms⟩
 ·rcases LM i rs.length with n|n
  ·rw [IE n] at c;rw [IE (h.rl▸n)] at j
   have:=h.fr y (GN c)
   exact(af ((l2 7517360390) this.1)).trans (h.rc i y q c j)
  ·rw [Iz n] at c;rw [Iz (h.rl▸n), <-h.rl] at j
   cases z:i - rs.length with
   |zero=>
    rw [z] at c j;cases c;cases j;exact(af ((l2 7533088790) u)).trans C
   |succ k=>rw [z] at c;cases c
 ·rcases GH.mp d with d|d
  ·exact h.fr x d
  ·rw [GI.mp d];exact⟨u,B⟩
end
section
variable {u:U} {d:Nat} {Q:V->Sg->Prop} {X:Sg->Prop} {σ₀ σ:Sg} {a b S D R m:Nat} {N:NF} {l f:Nat} {ks rs:List Nat} {s:List Nat×List (List Int)} {mx:Nat}
noncomputable def eB (v0:V) (mx a S D R:Nat) (y7 y8 y9 y10:Option V) (tl:List (Option V)):List (Option V):=Gu v0::Gu (.int 3)::Gu (.int mx)::Gu (.ref a)::Gu (.ref S)::Gu (.ref D)::Gu (.ref R)::y7::y8::y9::y10::tl
inductive RowW (σ₀:Sg) (a b S D R m:Nat) (N:NF) (l f:Nat) (mx W:Nat) (rs:List Nat) (s:List Nat×List (List Int)) (M:Nat) (v0:V) (tl:List (Option V)):List V->List (Option V)->Sg->Prop where
 |mk (xs ys ks:List Nat) (y9 y10:Option V) (t:List Nat×List Int) (σ:Sg) (e:[0,1,2]=xs++ys) (et:t=xs.foldl (fB (bZ N l M)) (s.1,[])) (h:cV σ₀ a b S D R m N l f ks rs (t.1,s.2) σ) (hW:R<W) (nW:W∉rs) (lW:W<σ.n) (cW:σ.cell W=.list (t.2.map .int)) (hm:t.1.length<=mx) (hl:t.2.length<=xs.length):
  RowW σ₀ a b S D R m N l f mx W rs s M v0 tl (bw ys) (eB v0 mx a S D R (Gu (.lst (cx (bJ N l (a8 M))))) (Gu (.ref W)) y9 y10 tl) σ
theorem Dh (F:bg u) {v0:V} {tl:List (Option V)} {y9 y10:Option V} {W M:Nat} {rest:List Mine.S} {K:cU} (h:cV σ₀ a b S D R m N l f ks rs s σ) (O:R<W) (P:W∉rs) (G:W<σ.n) (C:σ.cell W=.list []) (T:mx<=10000) (E:s.1.length<=mx) (hM:M<2^N.n)
  (U:∀o y9 y10 σ' (t:List Nat×List Int),t=[0,1,2].foldl (fB (bZ N l M)) (s.1,[])->t.1.length<=mx->cV σ₀ a b S D R m N l f o rs (t.1,s.2) σ'->W<σ'.n->σ'.cell W=.list (t.2.map .int)->wpSs tab (ae u (d+1)) rest (eB v0 mx a S D R (Gu (.lst (cx (bJ N l (a8 M))))) (Gu (.ref W)) y9 y10 tl) K X σ')
  (f':mx<([0,1,2].foldl (fB (bZ N l M)) (s.1,[])).1.length->∀σ',aZ σ₀ σ'->X σ'):
  wpSs tab (ae u (d+1)) (.forR 9 (.loc 1) [.assign (.loc 10) (.callM 42 (.loc 3) [.loc 7,.loc 9]),.ite (.op (.rel .eq) [.loc 10,.const (.int 0)]) [.expr (.app (.loc 8) (.const (.int (-1)))),.cont] [],.ite (.op .notIn [.loc 10,.loc 5]) [.ite (.op (.rel .ge) [.op .len [.loc 4],.loc 2]) [.raise (.loc 2)] [],.setIdx (.loc 5) (.loc 10) (.op .len [.loc 4]),.expr (.app (.loc 4) (.loc 10))] [],.expr (.app (.loc 8) (.op .idx [.loc 5,.loc 10]))]::rest) (eB v0 mx a S D R (Gu (.lst (cx (bJ N l (a8 M))))) (Gu (.ref W)) y9 y10 tl) K X σ:=by
 revert m N l f ks rs s mx v0 tl y9 y10 W M rest K;delta u d X σ₀ σ a b S D R;revert y9 y10 W M rest K;delta m N l f ks rs s mx v0 tl;delta y9 y10 W M rest K;refine dJ (Ev.loc rfl _ _ ?_);refine cM (n:=3) (RowW σ₀ a b S D R m N l f mx W rs s M v0 tl) (by decide) (by decide) (.mk [] [0,1,2] ks y9 y10 (s.1,[]) σ rfl rfl h O P G C E (GP _)) (fun v r ρ σ' K' Y hK Z=>?_) (fun ρ σ' Y=>?_)
 ·delta v r ρ σ' K';generalize hz:v::r=z at Y;delta z
  cases Y with
  |mk J B o y9 y10 t _ e et c O P G C E hl=>
   injections J B o y9 y10 t;intro e et E hl hz c C
   cases B with
   |nil=>cases hz
   |cons y B=>
    delta y B;cases hz
    have ll:J.length<=3:=by
     have:=congrArg Jh e
     rw [GG] at this
     have:3=J.length+(B.length+1):=this
     exact(l2 0x9d710381b380) this
    have b':(t.2.map V.int).length<=1000000:=by rw [GJ];exact(l2 0x1b3801b011b09492949f81) ll hl
    have c':(bw t.1).length<=1000000:=by rw [bA];exact(l2 0x1b0919792801b011b09492949f81) T E
    have nx:fB (bZ N l M) t y=(J++[y]).foldl (fB (bZ N l M)) (s.1,[]):=by rw [HV,et];rfl
    have e':[0,1,2]=(J++[y])++B:=by rw [e,GO];rfl
    refine w_asg (w_callM (.loc rfl) (aw c.sub.inst rfl rfl) (.cons (.loc rfl) (.cons (.loc rfl) .nil)) (qW F (aB rfl ?_)));generalize hw:qn (bJ N l (a8 M)) y=w;delta w
    have L:bZ N l M y=w:=hw
    have wl:w<2^N.n:=L▸B8 h.sub.ok hM
    have H:∀ {ks₂:List Nat} {σ₂:Sg},cV σ₀ a b S D R m N l f ks₂ rs (dF t.1 w,s.2) σ₂->W<σ₂.n->σ₂.cell W=.list ((t.2++[CK (dF t.1 w) w]).map .int)->(dF t.1 w).length<=mx->K' .next (eB v0 mx a S D R (Gu (.lst (cx (bJ N l (a8 M))))) (Gu (.ref W)) (Gu (.int y)) (Gu (.int w)) tl) σ₂/\K' .cont (eB v0 mx a S D R (Gu (.lst (cx (bJ N l (a8 M))))) (Gu (.ref W)) (Gu (.int y)) (Gu (.int w)) tl) σ₂:=fun k i j p=>
     hK _ _ (.mk (J++[y]) B _ _ _ (dF t.1 w,t.2++[CK (dF t.1 w) w]) _ e' (by rw [<-nx, <-L];rfl) k O P i j p (by rw [GG,GG];exact Hq hl))
    by_cases w0:w=0
    ·refine aq (t:=Gx) (.of (v:=.bool ((w:Int) ==0)) (.op (.cons (.loc rfl) (.cons .const .nil)) rfl) (by rw [w0];rfl) rfl) ?_
     refine aD (Ev.app (.loc rfl) (aM C) .const (bI C G b') _ _ (BV ?_))
     have A:dF t.1 w=t.1:=if_pos (.inl w0)
     have ee:CK t.1 w= -1:=if_pos w0
     refine(H (ks₂:=o) (σ₂:=σ'.set W (.list (t.2.map .int++[.int (-1)]))) ?_ G (am.trans ?_) ?_).2
     ·rw [A];exact c.put O P
     ·rw [A,ee,G2];rfl
     ·rw [A];exact E
    ·refine aq (t:=Gz) (.of (v:=.bool ((w:Int) ==0)) (.op (.cons (.loc rfl) (.cons .const .nil)) rfl) (congrArg Gu (beq_false_of_ne (by lia))) rfl) (ak ?_)
     have tb:d8 (ae u (d+1)) (eB v0 mx a S D R (Gu (.lst (cx (bJ N l (a8 M))))) (Gu (.ref W)) (Gu (.int y)) (Gu (.int w)) tl) σ' (.op .notIn [.loc 10,.loc 5]) (!GL (w∈t.1)) σ':=by
      have:=gN (fun w=>.int (t.1.idxOf w:Nat)) w t.1
      exact .of (v:=.bool (!GL (w∈t.1))) (.op (.cons (.loc rfl) (.cons (.loc rfl) .nil)) (by rw [<-this];exact fF (br c.cD))) rfl rfl
     have I:∀ {ks₂:List Nat} {σ₂:Sg},cV σ₀ a b S D R m N l f ks₂ rs (dF t.1 w,s.2) σ₂->W<σ₂.n->σ₂.cell W=.list (t.2.map .int)->(dF t.1 w).length<=mx->w∈dF t.1 w->wpSs tab (ae u (d+1)) [.expr (.app (.loc 8) (.op .idx [.loc 5,.loc 10]))] (eB v0 mx a S D R (Gu (.lst (cx (bJ N l (a8 M))))) (Gu (.ref W)) (Gu (.int y)) (Gu (.int w)) tl) K' X σ₂:=fun k i j p g'=>
      aD (Ev.app (.loc rfl) (aM j) (.op (.cons (.loc rfl) (.cons (.loc rfl) .nil)) (jP (cy k.cD) (br k.cD) (by rw [gE,if_pos g']))) (bI j i b') _ _ (ak (H (k.put O P) i (am.trans (by
       rw [show CK (dF t.1 w) w=(((dF t.1 w).idxOf w:Nat):Int) from if_neg w0,G2];rfl)) p).1))
     by_cases q:w∈t.1
     ·rw [decide_eq_true q] at tb
      have A:dF t.1 w=t.1:=if_pos (.inr q)
      exact aq tb (ak (I (ks₂:=o) (by rw [A];exact c) G C (by rw [A];exact E) (by rw [A];exact q)))
     ·rw [decide_eq_false q] at tb
      have A:dF t.1 w=t.1++[w]:=if_neg fun h=>h.elim w0 q
      refine aq tb ?_
      have el:Ev (ae u (d+1)) (eB v0 mx a S D R (Gu (.lst (cx (bJ N l (a8 M))))) (Gu (.ref W)) (Gu (.int y)) (Gu (.int w)) tl) σ' (.op .len [.loc 4]) (.int (t.1.length:Nat)) σ':=.op (.cons (.loc rfl) .nil) (by
       have:=d7 (aA c.cS) c'
       rw [bA] at this;exact this)
      by_cases g:mx<=t.1.length
      ·refine aq (t:=Gx) (.of (v:=.bool (GL ((t.1.length:Int) >=mx))) (.op (.cons el (.cons (.loc rfl) .nil)) rfl) (congrArg Gu (decide_eq_true (by lia))) rfl) ?_
       refine me (.loc rfl) (Hc _) (by lia) (f' ?_ _ c.E)
       rw [e',HV, <-nx]
       have:=nK (bZ N l M) B (fB (bZ N l M) t y)
       have e3:(fB (bZ N l M) t y).1=t.1++[w]:=by
        show dF t.1 (bZ N l M y)=_
        rw [L,A]
       rw [e3,GG] at this
       have:t.1.length+1<=_:=this
       exact(l3 0x1b171800b201b021c12) this E g
      ·refine aq (t:=Gz) (.of (v:=.bool (GL ((t.1.length:Int) >=mx))) (.op (.cons el (.cons (.loc rfl) .nil)) rfl) (congrArg Gu (decide_eq_false (by lia))) rfl) (ak ?_)
       have lS:S<σ'.n:=JN (JN c.h4 c.h5) c.h6
       refine bT el (.loc rfl) (.loc rfl) (cw c.cD (JN c.h5 c.h6) (by rw [iR];show t.1.length<=_;exact(l2 0x1b0919792801e101b09492949f81) T g)) ?_
       have d':(σ'.set D (.dict (putI (w:Int) (.int (t.1.length:Nat)) (g8 (fun w=>.int (t.1.idxOf w:Nat)) t.1)))).cell S=.list (bw t.1):=(af (G9 c.h4)).trans c.cS
       refine aD (Ev.app (.loc rfl) (aM d') (.loc rfl) (bI d' lS c') _ _ (ak ?_))
       have h3:=c.add q wl
       have gD:W≠D:=by have:=c.h5;lia
       have gS:W≠S:=by have:=c.h5;have:=c.h4;lia
       exact I (ks₂:=o) (by rw [A];exact h3) G ((af gS).trans ((af gD).trans C)) (by rw [A,GG];show t.1.length+1<=_;exact(l2 2061881143680) g) (by rw [A];simp)
 ·generalize hz:([]:List V)=z at Y
  cases Y with
  |mk J B o y9 y10 t _ e et c O P G C E hl=>
   cases B with
   |cons y B=>cases hz
   |nil=>
    rw [G1] at e;subst e;exact U _ _ _ _ t et E c G C
end
noncomputable def jH (s:List Nat×List (List Int)) (l:Nat):V:=.obj 624 [14,3] [.lst ((s.2.map fun r=>r.map V.int).map .lst),.lst (s.1.map fun M=>.tup (bw (uG M l)))]
section
variable {u:U} {d:Nat} {Q:V->Sg->Prop} {X:Sg->Prop} {σ₀ σ:Sg} {a b S D R m:Nat} {N:NF} {l f:Nat} {ks rs:List Nat} {s:List Nat×List (List Int)} {mx:Nat}
theorem AY {C:aC} {ρ:List (Option V)} {e c:E} {i:Int} {v:V} (h:Ev C ρ (σ.alloc (.dict [])) e (.int i) (σ.alloc (.dict []))) (h':Ev C ρ (σ.alloc (.dict [])) c v (σ.alloc (.dict []))) (q:Q (.ref σ.n) ((σ.alloc (.dict [])).set σ.n (.dict [(i,v)]))):wpE tab C ρ (.dct1 e c) Q X σ:=by
 refine h _ _ (h' _ _ ?_);exact⟨i,rfl,ah,q⟩
inductive DfW (σ₀:Sg) (a b S D R m:Nat) (N:NF) (l f mx K:Nat) (v0:V) (tl:List (Option V)):Nat->List (Option V)->Sg->Prop where
 |mk (k:Nat) (ks rs:List Nat) (y7 y8 y9 y10:Option V) (σ:Sg) (hk:k<=K) (h:cV σ₀ a b S D R m N l f ks rs (us (bZ N l) (clo N l f) k) σ) (hm:(us (bZ N l) (clo N l f) k).1.length<=mx):
  DfW σ₀ a b S D R m N l f mx K v0 tl (K - k) (eB v0 mx a S D R y7 y8 y9 y10 tl) σ
theorem Ao (F:bg u) {K:Nat} (T:K<=10000) (j:Fin (bZ N l) (clo N l f) K) (U:mx<=10000) (h1:1<=mx) {v0:V} {tl:List (Option V)} {y7 y8 y9 y10:Option V} {A:List Mine.S} {B:cU} (h:cV σ₀ a b S D R m N l f ks [] ([clo N l f],[]) σ)
  (C:K<=mx->∀ks rs y7 y8 y9 y10 σ',cV σ₀ a b S D R m N l f ks rs (us (bZ N l) (clo N l f) K) σ'->wpSs tab (ae u (d+3)) A (eB v0 mx a S D R y7 y8 y9 y10 tl) B X σ') (W:mx<K->∀σ',aZ σ₀ σ'->X σ'):
  wpSs tab (ae u (d+3)) (.while (.op (.rel .lt) [.op .len [.loc 6],.op .len [.loc 4]]) [.assign (.loc 7) (.callM 41 (.loc 3) [.op .idx [.loc 4,.op .len [.loc 6]]]),.assign (.loc 8) (.op .lst []),.forR 9 (.loc 1) [.assign (.loc 10) (.callM 42 (.loc 3) [.loc 7,.loc 9]),.ite (.op (.rel .eq) [.loc 10,.const (.int 0)]) [.expr (.app (.loc 8) (.const (.int (-1)))),.cont] [],.ite (.op .notIn [.loc 10,.loc 5]) [.ite (.op (.rel .ge) [.op .len [.loc 4],.loc 2]) [.raise (.loc 2)] [],.setIdx (.loc 5) (.loc 10) (.op .len [.loc 4]),.expr (.app (.loc 4) (.loc 10))] [],.expr (.app (.loc 8) (.op .idx [.loc 5,.loc 10]))],.expr (.app (.loc 6) (.loc 8))]::A) (eB v0 mx a S D R y7 y8 y9 y10 tl) B X σ:=by
 revert m N l f ks mx K v0 tl y7 y8 y9 y10 A B;delta u d X σ₀ σ a b S D R;revert v0 tl y7 y8 y9 y10 A B;delta m N l f ks mx K;delta v0 tl y7 y8 y9 y10 A B;refine eQ (DfW σ₀ a b S D R m N l f mx K v0 tl) (n:=K - 0) (.mk 0 ks [] _ _ _ _ σ (G7 _) h h1) fun n ρ σ' hI=>?_;delta n ρ σ'
 cases hI with
 |mk k Y rs y7 y8 y9 y10 _ hk o hm=>
  delta k Y rs y7 y8 y9 y10
  have rk:=us_rows (bZ N l) (clo N l f) k
  have up:=mN (bZ N l) (clo N l f) hk
  rw [j.e] at up
  have rl:rs.length=k:=o.rl.trans rk
  have lr:Ev (ae u (d+3)) (eB v0 mx a S D R y7 y8 y9 y10 tl) σ' (.op .len [.loc 6]) (.int (k:Nat)) σ':=.op (.cons (.loc rfl) .nil) (by
   have:=d7 (aA o.cR) (by rw [GJ];exact(l3 0x1d101b211b0919792821b09492949f80) rl hk T)
   rw [GJ,rl] at this;exact this)
  have G:(bw (us (bZ N l) (clo N l f) k).1).length<=1000000:=by rw [bA];exact(l2 0x1b0919792801b011b09492949f81) T up
  have ls:Ev (ae u (d+3)) (eB v0 mx a S D R y7 y8 y9 y10 tl) σ' (.op .len [.loc 4]) (.int ((us (bZ N l) (clo N l f) k).1.length:Nat)) σ':=.op (.cons (.loc rfl) .nil) (by
   have:=d7 (aA o.cS) G
   rw [bA] at this;exact this)
  refine⟨GL ((k:Int) <((us (bZ N l) (clo N l f) k).1.length:Nat)),σ',.of (.op (.cons lr (.cons ls .nil)) rfl) rfl rfl,fun e=>?_,fun e H p Z=>?_⟩
  ·have:=of_decide_eq_false e
   have I:k=K:=IH hk (HO fun q=>this (LK.mpr (j.lt k q)))
   subst I;exact C (by have:=j.e;exact(l3 0x9d101b201b21) this hm) _ _ _ _ _ _ _ o
  ·delta H
   have kl:k<(us (bZ N l) (clo N l f) k).1.length:=LK.mp (of_decide_eq_true e)
   have I:k<K:=by lia
   have eM:(us (bZ N l) (clo N l f) k).1[k]? =Gu ((us (bZ N l) (clo N l f) k).1.getD k 0):=by
    rw [Hl,Hb kl];rfl
   have hM:=o.ms _ (GN eM)
   generalize b':(us (bZ N l) (clo N l f) k).1.getD k 0=M at eM hM;delta M;refine w_asg (w_callM (.loc rfl) (aw o.sub.inst rfl rfl) (.cons (.op (.cons (.loc rfl) (.cons lr .nil)) (bC (aA o.cS) G (cX (by rw [Hg,eM];rfl)))) .nil) (wY F o.sub hM fun r c v J=>aB rfl ?_))
   delta r c
   have L:=o.step J v
   have h3:=L.ext (.alloc c (.list []))
   have nR:c.n∉rs:=fun q=>absurd (L.fr _ q).2 (HD _)
   refine ar (.op .nil (bP (G7 _))) rfl ?_
   have O:us (bZ N l) (clo N l f) (k+1)=(([0,1,2].foldl (fB (bZ N l M)) ((us (bZ N l) (clo N l f) k).1,[])).1,(us (bZ N l) (clo N l f) k).2++[([0,1,2].foldl (fB (bZ N l M)) ((us (bZ N l) (clo N l f) k).1,[])).2]):=by rw [<-b'];rfl
   have y:=mN (bZ N l) (clo N l f) (k:=k+1) I
   rw [j.e] at y;refine Dh F h3 L.h6 nR (GA _) ah U hm hM (fun z y9 y10 i t et tm P l4 c4=>?_) fun g i E=>W (by rw [O] at y;exact GQ g y) i E
   refine aD (Ev.app (.loc rfl) (aM P.cR) (.loc rfl) (bI P.cR P.h6 (by rw [GJ];exact(l3 0x1c101b0919792811d021b09492949f82) I T rl)) _ _ (ak ?_))
   have h5:=P.row L.h6 nR l4 c4
   refine(p (K - (k+1)) _ _ (by lia) ?_).1
   rw [<-et] at O;exact .mk (k+1) z _ _ _ _ _ _ I (by rw [O];exact h5) (by rw [O];exact tm)
end
section
variable {u:U} {d:Nat} {Q:V->Sg->Prop} {X:Sg->Prop} {σ₀ σ:Sg} {a b S D R m:Nat} {N:NF} {l f:Nat} {ks rs:List Nat} {s:List Nat×List (List Int)} {mx:Nat}
noncomputable def jY (l:Nat) (s:List Nat):List V:=s.map fun M=>.tup (bw (uG M l))
theorem xj (h:cV σ₀ a b S D R m N l f ks rs s σ) {i T:Nat} (hi:R<i) (E:R<T) (F:i≠T) (G:i∉rs) (H:T∉rs) (I:i<σ.n) (J:T<σ.n) (K:σ.cell i=.inst 624 [(14,.ref R),(3,.ref T)]) (L:σ.cell T=.list (jY l s.1)):∃g,FrzL σ [.ref i] [jH s l] g/\aZ σ₀ g:=by
 have o:=h.h1;have p:=h.h2;have t:=h.h3;have v:=h.h4;have y:=h.h5;have M:=h.h6
 obtain⟨n,O,B,C⟩:=jD (xs:=rs) (ls:=s.2.map fun r=>r.map V.int) (σ:=(σ.set i .dead).set R .dead) (by rw [GJ,h.rl]) h.nd (fun j x k c P=>by
  obtain⟨r,U,rfl⟩:=GY.mp ((Hg).symm.trans P)
  have mx:=GN c
  have:=h.fr x mx
  rw [af (by exact(l2 7517360390) this.1),af fun e=>G (by rw [<-e];exact mx)]
  exact h.rc j x r c U) (fun x c=>(h.fr x c).2)
 have Y:R∉rs:=fun q=>absurd (h.fr R q).1 (HD _)
 have z:n.cell T=.list (jY l s.1):=by rw [C T H,af (by exact(l2 7533088790) E),af F.symm];exact L
 have A:T<n.n:=by rw [B];exact J
 have W:(σ.set i .dead).cell R=.list (rs.map .ref):=(af ((l2 7533613318) hi)).trans h.cR
 refine⟨n.set T .dead,?_,⟨by show σ₀.n<=n.n;rw [B];exact h.E.n,fun x c=>?_⟩⟩
 ·exact .inst K I (.list W M O (.list z A .all .nil)) .nil
 ·have:x∉rs:=fun q=>by have:=h.fr x q;exact(l7 0x1b6621c5661c451c341c031c211c106) o p t v y c this.1
  rw [af (by lia),C x this,af (((l7 0x1b6621c5661c451c341c131c209d106) o p t v y c)),af (((l8 0x1c141b7621c66761c5661c351c431c209d106) hi o p t v y c))]
  exact h.E.cell x c
inductive TgsI (σ₀:Sg) (S:Nat) (l:Nat) (s:List Nat):List V->List V->Sg->Prop where
 |mk (xs ys:List Nat) (σ:Sg) (e:s=xs++ys) (E:aZ σ₀ σ) (lS:S<σ.n) (cS:σ.cell S=.list (bw s)):TgsI σ₀ S l s (bw ys) (jY l xs) σ
def Es (N:NF) (l f K mx:Nat) (σ:Sg) (v:V) (σ':Sg):Prop:=K<=mx/\∃c,FrzL σ' [v] [jH (us (bZ N l) (clo N l f) K) l] c/\aZ σ c
theorem z6 (F:bg u) (hN:N.Ok) (hn:N.n<=200) (hf:f<N.n) {K:Nat} (hK:K<=10000) (P:Fin (bZ N l) (clo N l f) K) (c':mx<=10000) (h1:1<=mx) (d':mx<K->∀σ',aZ σ σ'->X σ'):
  wpSs tab (ae u (d+3)) C7 (dR 18 [0,1,2] [bq m N [l] f,.int 3,.int mx]) (d6 (Es N l f K mx σ)) X σ:=by
 revert K;delta u d X σ m N l f mx;delta K;refine w_asg (nJ (d:=d+2) F hN hn (.loc rfl) fun C U p=>aB rfl (w_asg ?_));delta C;refine w_callM (.loc rfl) (aw p.inst rfl rfl) .nil (rO F p hf fun n c t W=>?_);delta n c;refine eV ?_;simp only [bP (Gv rfl:[V.int (clo N l f:Nat)].length<=1000)];refine aB rfl ?_
 have Y:aZ σ c:=W.toExt U fun x O=>by rw [show x=_ from O];exact Hn _
 have lb:=t.lb
 generalize G:c.alloc (.list [.int (clo N l f:Nat)])=k;delta k
 have E3:aZ c k:=by rw [<-G];exact .alloc _ _
 have c3:k.cell c.n=.list (bw [clo N l f]):=by rw [<-G];exact ah
 have n3:k.n=c.n+1:=by rw [<-G];rfl
 have l3:c.n<k.n:=by rw [n3];exact GA _
 refine w_asg (AY (.op (.cons (.loc rfl) (.cons .const .nil)) (bC (aA ((au l3).trans c3)) (Gv rfl) rfl)) .const (aB rfl ?_));generalize H:(k.alloc (.dict [])).set k.n (.dict [((clo N l f:Nat),.int 0)])=o;delta o
 have E4:aZ k o:=by rw [<-H];exact⟨Hn _,fun x O=>(af (G9 O)).trans (au O)⟩
 have c4:o.cell k.n=.dict (g8 (fun w=>.int ([clo N l f].idxOf w:Nat)) [clo N l f]):=by
  rw [<-H];refine am.trans ?_
  show _=Cell.dict [(((clo N l f:Nat):Int),V.int ((([clo N l f].idxOf (clo N l f)):Nat):Int))]
  rw [NC];rfl
 have n4:o.n=k.n+1:=by rw [<-H];rfl
 have l4:k.n<o.n:=by rw [n4];exact GA _
 refine ar (.op .nil (bP (G7 _))) rfl ?_
 have E5:=aZ.alloc o (.list [])
 have I:=E4.trans E5
 have D0:cV σ σ.n (σ.n+1) c.n k.n o.n m N l f n [] ([clo N l f],[]) (o.alloc (.list [])):=
  ⟨t.ext (E3.trans I),Y.trans (E3.trans I),(I.cell _ l3).trans c3,(E5.cell _ l4).trans c4,ah,rfl,(fun i x r h=>by cases i<;>cases h),.nil,(fun Z h=>nomatch h),GP _,GA _,lb,l3,l4,GA _,fun w hw=>by rw [GI.mp hw];exact ug hN hf⟩
 refine Ao F hK P c' h1 (v0:=bq m N [l] f) (y7:=Gw) (y8:=Gw) (y9:=Gw) (y10:=Gw) (tl:=[Gw,Gw,Gw,Gw,Gw,Gw,Gw]) D0 (fun q ks rs y7 y8 y9 y10 j g=>?_) d';delta ks rs y7 y8 y9 y10 j
 have ul:(us (bZ N l) (clo N l f) K).1.length<=10000:=by rw [P.e];exact hK
 have e':c.n<j.n:=JN (JN g.h4 g.h5) g.h6
 refine ax ?_;refine iZ ?_;refine Ev.loc rfl _ _ ?_;refine j7 (Ev.loc rfl _ _ ?_);refine fE (TgsI j c.n l (us (bZ N l) (clo N l f) K).1) (ng g.cS (by rw [bA];exact(l1 0x1b0919792801b09492949f80) ul)) (.mk [] _ j rfl (.refl _) e' g.cS) (fun r J σ' L=>?_) (fun v r J σ' Q' L hQ=>?_) (fun J σ' L=>?_)
 ·cases L with|mk xs A _ e E lS cS=>exact⟨lS,cS⟩
 ·generalize hz:v::r=z at L
  cases L with
  |mk xs A _ e E lS cS=>
   cases A with
   |nil=>cases hz
   |cons y A=>
    cases hz
    have h6:=g.ext E
    refine w_callM (.loc rfl) (aw h6.sub.inst rfl rfl) (.cons (.loc rfl) .nil) (Bk F h6.sub (g.ms y (by rw [e];simp)) fun b' E'=>hQ _ _ ?_)
    have:=TgsI.mk (σ₀:=j) (S:=c.n) (l:=l) (s:=(us (bZ N l) (clo N l f) K).1) (xs++[y]) A b' (by rw [e,GO];rfl) (E.trans E') (GQ lS E'.n) ((E'.cell _ lS).trans cS)
    unfold jY at this ⊢;rw [G2] at this;exact this
 ·delta J σ';generalize hz:([]:List V)=z at L;delta z
  cases L with
  |mk xs A _ e E lS cS=>
   delta xs A
   cases A with
   |cons y A=>cases hz
   |nil=>
    rw [G1] at e;rw [<-e];generalize M:σ'.alloc (.list (jY l (us (bZ N l) (clo N l f) K).1))=B;delta B
    have E7:aZ j B:=by rw [<-M];exact E.trans (.alloc _ _)
    have c7:B.cell σ'.n=.list (jY l (us (bZ N l) (clo N l f) K).1):=by rw [<-M];exact ah
    have n7:B.n=σ'.n+1:=by rw [<-M];rfl
    show ae u (d+3) 588 _ _ _ _
    refine F.call 588 _ rfl (d+2) _ _ X _ rfl ?_;refine aG (.loc rfl) (.loc rfl) (aS ah (GA _) (G7 _) rfl) (aG (.loc rfl) (.loc rfl) (aS am (GA _) (Gv rfl) rfl) (ak ⟨rfl,q,?_⟩))
    have h7:=g.ext (E7.trans (.alloc B (.inst 624 [])))
    have R5:=g.h6
    have En:=E.n
    have nr:∀x,j.n<=x->x∉rs:=fun x O q=>absurd (g.fr x q).2 (HQ.mpr O)
    have h8:=((h7.put (x:=B.n) (v:=.inst 624 [(14,.ref o.n)]) (by lia) (nr _ (by lia))).put (x:=B.n) (v:=.inst 624 [(14,.ref o.n),(3,.ref σ'.n)]) (by lia) (nr _ (by lia)))
    refine xj h8 (T:=σ'.n) (by lia) (by lia) (((l2 0x9d718101d106) n7)) (nr _ (by lia)) (nr _ (((l2 454040336) En))) (GA _) ?_ am ?_
    ·show σ'.n<B.n+1;exact(l2 0x9d718101c71801) n7
    ·rw [af (by exact(l2 0x9d718109d016) n7),af (by exact(l2 0x9d718109d016) n7),au (by exact(l2 0x9d718101c01) n7)];exact c7
theorem C5 (F:bg u) (n:N.Ok) (o:N.n<=200) (p:f<N.n) {K:Nat} (r:K<=10000) (i:Fin (bZ N l) (clo N l f) K) (j:mx<=10000) (t:1<=mx) (g:K<=mx->∀σ',aZ σ σ'->Q (jH (us (bZ N l) (clo N l f) K) l) σ') (k:mx<K->∀σ',aZ σ σ'->X σ'):
  ae u (d+4) 634 [bq m N [l] f,.int 3,.int mx] Q X σ:=
 mcall_frz (F.call 634 _ rfl (d+3) _ _ X σ rfl (z6 F n o p r i j t k)) fun v σ' y=>by obtain⟨q,c,e,E⟩:=y;exact⟨_,c,e,g q c E⟩
theorem AA (F:bg u) (k:N.Ok) (n:N.n<=200) (o:f<N.n) {K:Nat} (j:K<=10000) (i:Fin (bZ N l) (clo N l f) K) (g:∀σ',aZ σ σ'->Q (jH (us (bZ N l) (clo N l f) K) l) σ'):
  ae u (d+4) 634 [bq m N [l] f,.int 3] Q X σ:=
 mcall_frz (F.callD 634 _ 10000 rfl rfl (d+3) _ _ X σ rfl (z6 (mx:=10000) F k n o j i (GP _) (Gv rfl) fun q=>absurd q (HQ.mpr j))) fun v σ' p=>by obtain⟨q,c,e,E⟩:=p;exact⟨_,c,e,g c E⟩
end
noncomputable def iH (s:List Nat×List (List Int)) (l:Nat):V:=.tup [.tup (s.2.map fun r=>.tup (r.map V.int)),.tup (jY l s.1)]
theorem vZ (nx:Nat->Nat) (b:List Nat):∀(s:List Nat×List Int),(b.foldl (fB nx) s).2.length=s.2.length+b.length:=by
 induction b with
 |nil=>
  intro _;exact rfl
 |cons c b d=>
  intro s;rw [Jz,d]
  show(s.2++[_]).length+b.length=s.2.length+(b.length+1)
  rw [GG,I4,Ig b.length 1];rfl
theorem q9 (nx:Nat->Nat->Nat) (s0:Nat) (k):∀r∈(us nx s0 k).2,r.length<=3:=by
 induction k with
 |zero=>exact fun Z h=>nomatch h
 |succ k b=>
  intro r h;rcases GH.mp (show r∈(us nx s0 k).2++[_] from h) with h|h
  ·exact b r h
  ·rw [GI.mp h,vZ];exact GP _
section
variable {u:U} {d:Nat} {Q:V->Sg->Prop} {X:Sg->Prop} {σ:Sg} {m:Nat} {N:NF} {l f:Nat} {s:List Nat×List (List Int)} {mx:Nat}
theorem nX (F:bg u) {ρ:List (Option V)} {i:Nat} (h:ρ[i]? =Gu (Gu (bq m N [l] f))) (b:N.n<=200):Ev (ae u (d+1)) ρ σ (.callM 38 (.loc i) []) (.int N.n) σ:=fun Q X q=>
 w_callM (.loc h) (dZ rfl rfl) .nil (F.call 137 _ rfl d _ Q X σ rfl (ax (Ev.op (.cons (.op (.cons (.loc rfl) .nil) (bH rfl rfl)) .nil) (by
  have:=d7 (σ:=σ) (w:=D7 N) (l:=(N.mv.map sX).map .lst) rfl (by rw [GJ,GJ];exact GC b (by decide))
  rw [GJ,GJ] at this;exact this) _ _ q)))
theorem ta (F:bg u) {ρ:List (Option V)} {i:Nat} (h:ρ[i]? =Gu (Gu (jH s l))) (b:s.2.length<=10000):Ev (ae u (d+1)) ρ σ (.callM 38 (.loc i) []) (.int (s.2.length:Nat)) σ:=fun Q X q=>
 w_callM (.loc h) (dZ rfl rfl) .nil (F.call 602 _ rfl d _ Q X σ rfl (ax (Ev.op (.cons (.op (.cons (.loc rfl) .nil) (bH rfl rfl)) .nil) (by
  have:=d7 (σ:=σ) (w:=.lst ((s.2.map fun r=>r.map V.int).map .lst)) (l:=(s.2.map fun r=>r.map V.int).map .lst) rfl (by rw [GJ,GJ];exact GC b (by decide))
  rw [GJ,GJ] at this;exact this) _ _ q)))
inductive TldI (σ₀:Sg) (rows:List (List Int)):List V->List V->Sg->Prop where
 |mk (xs ys:List (List Int)) (e:rows=xs++ys):TldI σ₀ rows (ys.map fun r=>.lst (r.map V.int)) (xs.map fun r=>.tup (r.map V.int)) σ₀
theorem wv (F:bg u) (o:s.1.length<=10000) (k:s.2.length<=10000) (p:∀r∈s.2,r.length<=3) (c:∀σ',aZ σ σ'->Q (iH s l) σ'):ae u (d+1) 621 [jH s l] Q X σ:=by
 delta u d Q X σ l s;refine F.call 621 _ rfl d _ Q X σ rfl (ax ?_)
 have t:(s.2.map fun r=>r.map V.int).map V.lst=s.2.map fun r=>.lst (r.map V.int):=by rw [HJ];rfl
 have A:Ev (ae u d) (dR 2 [0] [jH s l]) σ (.op .tupleOf [.comp [Gw,Gw,Gw] 1 (.op .tupleOf [.loc 1]) (.op (.attr 14) [.loc 0])]) (.tup (s.2.map fun r=>.tup (r.map V.int))) (σ.alloc (.list (s.2.map fun r=>.tup (r.map V.int)))):=by
  refine .op (.cons (v:=.ref σ.n) (fun Q X q=>j7 (Ev.op (.cons (.loc rfl) .nil) (bH rfl rfl) _ _ ?_)) .nil) (lC ah (by rw [GJ];exact(l1 0x1b0919792801b09492949f80) k))
  refine fE (TldI σ s.2) (kq (by rw [GJ,GJ];exact(l1 0x1b0919792801b09492949f80) k)) (by rw [t];exact .mk [] _ rfl) (fun Z Z Z Z=>trivial) (fun v r j σ' C g B=>?_) (fun j σ' g=>?_)
  ·generalize i:v::r=z at g
   cases g with
   |mk n b e=>
    cases b with
    |nil=>cases i
    |cons y b=>
     cases i;refine Ev.op (.cons (.loc rfl) .nil) (ku (by rw [GJ];have:=p y (by rw [e];simp);exact(l1 0x1b3801b09492949f80) this)) _ _ (B _ _ ?_)
     have:=TldI.mk (σ₀:=σ) (rows:=s.2) (n++[y]) b (by rw [e,GO];rfl)
     rw [G2] at this;exact this
  ·generalize i:([]:List V)=z at g
   cases g with
   |mk n b e=>
    cases b with
    |cons y b=>cases i
    |nil=>rw [e,G1] at q;exact q
 refine A _ _ ?_;refine Ev.op (.cons (.op (.cons (.loc rfl) .nil) (bH rfl rfl)) .nil) (ku (by rw [GJ];exact(l1 0x1b0919792801b09492949f80) o)) _ _ ?_
 exact c _ (.alloc _ _)
theorem yN (F:bg u) (k:N.Ok) (n:N.n<=200) (o:f<N.n) {K:Nat} (e:K<=10000) (b:Fin (bZ N l) (clo N l f) K) (g:mx<=10000) (p:1<=mx) (c:K<=mx->∀σ',aZ σ σ'->Q (iH (us (bZ N l) (clo N l f) K) l) σ') (i:mx<K->∀σ',aZ σ σ'->Q .none σ'):
  ae u (d+5) 939 [bq m N [l] f,.int mx] Q X σ:=by
 refine F.call 939 _ rfl (d+4) _ Q X σ rfl (uX (ax ?_));refine ay (.cons (.loc rfl) (.cons .const (.cons (.loc rfl) .nil))) (C5 F k n o e b g p (fun q σ' E=>?_) fun q σ' E=>ax (Ev.const _ _ (i q _ E)));rw [show dY tab 51 σ' (jH (us (bZ N l) (clo N l f) K) l)=Gu 621 from dZ rfl rfl]
 exact wv F (by rw [b.e];exact e) (by rw [us_rows];exact e) (q9 _ _ _) fun j r=>c q _ (E.trans r)
end
noncomputable def bR (N:NF) (l:Nat) (c:Int) (xs:List Nat):Nat:=if 0<=c/\c<3 then qn (bJ N l xs) c.toNat else 0
theorem fL {b:List (Nat×Nat)} {c i:Nat}:(qn b c).testBit i=Gx↔∃p∈b,cZ p.1 c=Gx/\p.2.testBit i=Gx:=by
 delta b c i;rw [iQ,Ht];constructor
 ·rintro(h|⟨y,d,e⟩)
  ·cases h
  ·obtain⟨p,f,rfl⟩:=Hm.mp d;obtain⟨g,j⟩:=H5.mp f;exact⟨p,g,j,e⟩
 ·rintro⟨p,d,e,k⟩
  exact .inr ⟨p.2,Hm.mpr ⟨p,H5.mpr ⟨d,e⟩,rfl⟩,k⟩
theorem tj {N:NF} {l c:Nat} {xs b:List Nat} (h:∀s,s∈xs↔s∈b):qn (bJ N l xs) c=qn (bJ N l b) c:=eI fun i=>by
 rw [fL,fL];unfold bJ;simp only [Iw,h]
theorem qJ {N:NF} {l:Nat} {c:Int} {xs b:List Nat} (h:∀s,s∈xs↔s∈b):bR N l c xs=bR N l c b:=by
 unfold bR;split
 ·exact tj h
 ·rfl
theorem uW (b vs:List (Nat×Nat)) (c:Nat):qn (b++vs) c=qg (qn b c) ((vs.filter fun p=>cZ p.1 c).map (·.2)):=by
 unfold qn qg;rw [IU,G2,HV]
theorem tM {k c:Nat} (b:k=2\/k=4) (d:3<=c):cZ k c=Gz:=by
 have e:2^3<=2^c:=Hh (by decide) d
 have:k / 2^c=0:=Nat.div_eq_of_lt (by rcases b with rfl|rfl<;>lia)
 unfold cZ;rw [this];rfl
section
variable {u:U} {d:Nat} {Q:V->Sg->Prop} {X:Sg->Prop} {σ₀ σ:Sg} {a b m:Nat} {N:NF} {l f:Nat} {ks:List Nat}
theorem rb (i:N.Ok) {s:Nat} {p:Nat×Nat} (h:p∈fA N l s):p.1=2\/p.1=4:=by
 revert s p;delta N l;delta s p;unfold fA w4 at h;rw [HJ] at h;obtain⟨q,c,rfl⟩:=Hm.mp h;delta q
 have j:N.mv.getD s []=[]\/N.mv.getD s []∈N.mv:=by
  rw [Hl]
  cases e:N.mv[s]? with
  |none=>exact .inl rfl
  |some k=>exact .inr (GN e)
 rcases j with e|e
 ·rw [e] at c;cases c
 ·rcases i.mv _ e with e|⟨k,g,e,n,_⟩
  ·rw [e] at c;cases c
  ·rw [e] at c;rw [GI.mp c];rcases n with rfl|rfl
   ·exact .inl rfl
   ·exact .inr rfl
theorem tR (F:bg u) (A:N.Ok) {ρ:List (Option V)} {i j k:Nat} {c:Int} {xs:List Nat} (h:bj a b m N l f ks σ) (hi:ρ[i]? =Gu (Gu (.ref a))) (n:ρ[j]? =Gu (Gu (.lst (cx (bJ N l xs))))) (o:ρ[k]? =Gu (Gu (.int c))):Ev (ae u (d+1)) ρ σ (.callM 42 (.loc i) [.loc j,.loc k]) (.int (bR N l c xs:Nat)) σ:=fun Q X q=>by
 refine w_callM (.loc hi) (aw h.inst rfl rfl) (.cons (.loc n) (.cons (.loc o) .nil)) ?_;unfold bR at q
 by_cases z:c<0
 ·rw [if_neg (by lia)] at q
  exact uJ F z q
 ·obtain⟨e,rfl⟩:=IQ (Int.not_lt.mp z);refine qW F ?_
  by_cases y:e<3
  ·rw [if_pos (by lia)] at q;exact q
  ·rw [if_neg (by lia)] at q
   have:qn (bJ N l xs) e=0:=eI fun i=>by
    rw [fL,Ht];refine⟨fun r=>?_,fun h=>nomatch h⟩;obtain⟨p,t,g,_⟩:=r;obtain⟨s,_,v⟩:=Iw.mp t;rw [tM (rb h.ok v) (by exact(l1 134083620920) y)] at g
    cases g
   rw [this];exact q
theorem d8.chain {C:aC} {ρ:List (Option V)} {i j k:Int} {e g n:E} {t:Bool} (o:Ev C ρ σ e (.int i) σ) (p:Ev C ρ σ g (.int j) σ) (r:Ev C ρ σ n (.int k) σ) (s:GL (i<=j/\j<k)=t):d8 C ρ σ (.chain e g n) t σ:=fun Q X q=>by
 refine o _ _ (p _ _ ?_)
 show if i<=j then _ else _
 subst s
 by_cases c:i<=j
 ·rw [if_pos c];refine r _ _ ?_
  show Q (GL (j<k)) σ
  rw [show GL (j<k)=GL (i<=j/\j<k) by by_cases v:j<k<;>simp [c,v]]
  exact q
 ·rw [if_neg c];rw [show GL (i<=j/\j<k)=Gz from decide_eq_false fun h=>c h.1] at q
  exact q
noncomputable def iF (M j:Nat):List Nat:=(JD j).filter (M.testBit ·)
theorem jQ (M j:Nat):iF M (j+1)=iF M j++if M.testBit j then [j] else []:=by
 unfold iF;rw [List.range_succ,IU,Jq,JC]
theorem yK {M n:Nat} (c:M<2^n) (s:Nat):s∈iF M n↔s∈a8 M:=by
 rw [H5,JJ,du];refine⟨fun h=>h.2,fun h=>⟨J4 fun q=>?_,h⟩⟩;rw [JO (GQ c (Hh (by decide) q))] at h
 cases h
noncomputable def gq (v0:V) (a M:Nat) (e:V) (c:Int) (g y6 y7 y8:Option V) (tl:List (Option V)):List (Option V):=Gu v0::Gu (.ref a)::Gu (.int M)::Gu e::Gu (.int c)::g::y6::y7::y8::tl
inductive ArI (σ₀:Sg) (a b m:Nat) (N:NF) (l f M:Nat) (c:Int) (tl:List (Option V)):List V->List (Option V)->Sg->Prop where
 |mk (j k:Nat) (ks:List Nat) (y6 y7 y8:Option V) (σ:Sg) (e:j+k=N.n) (h:bj a b m N l f ks σ) (S:aH (· =b) σ₀ (· =b) σ):ArI σ₀ a b m N l f M c tl ((a6 N.n).drop j) (gq (bq m N [l] f) a M (.lst (cx (bJ N l (a8 M)))) c (Gu (.int (bR N l c (iF M j):Nat))) y6 y7 y8 tl) σ
theorem Cf (F:bg u) {M:Nat} {c:Int} {tl:List (Option V)} {y6 y7 y8:Option V} {rest:List Mine.S} {K:cU} (h:bj a b m N l f ks σ) (S:aH (· =b) σ₀ (· =b) σ)
  (C:∀ks y6 y7 y8 σ',bj a b m N l f ks σ'->aH (· =b) σ₀ (· =b) σ'->wpSs tab (ae u (d+2)) rest (gq (bq m N [l] f) a M (.lst (cx (bJ N l (a8 M)))) c (Gu (.int (bR N l c (iF M N.n):Nat))) y6 y7 y8 tl) K X σ'):
  wpSs tab (ae u (d+2)) (.forR 6 (.callM 38 (.loc 0) []) [.for (.locs [7,8]) (.op .idx [.op (.attr 1) [.loc 0],.loc 6]) [.ite (.and (.op (.bin .band) [.op (.bin .shr) [.loc 2,.loc 6],.const (.int 1)]) (.and (.chain (.const (.int 0)) (.loc 4) (.const (.int 3))) (.op (.bin .band) [.op (.bin .shr) [.loc 7,.loc 4],.const (.int 1)]))) [.assign (.loc 5) (.op (.bin .bor) [.loc 5,.callM 39 (.loc 1) [.loc 8]])] []]]::rest) (gq (bq m N [l] f) a M (.lst (cx (bJ N l (a8 M)))) c (Gu (.int 0)) y6 y7 y8 tl) K X σ:=by
 revert f ks M c tl y6 y7 y8 rest K;delta u d X σ₀ σ a b m N l;delta f ks M c tl y6 y7 y8 rest K
 have w0:bR N l c (iF M 0)=0:=by
  unfold bR;split<;>rfl
 have hn:=h.n200
 refine dJ (nX F rfl h.n200 _ _ ?_);refine cM (n:=N.n) (ArI σ₀ a b m N l f M c tl) (Hc _) (by lia) (by rw [show(V.int 0)=.int (bR N l c (iF M 0):Nat) by rw [w0];rfl];exact .mk 0 N.n ks y6 y7 y8 σ (IJ _) h S) (fun v z ρ σ' K' L hK Z=>?_) (fun ρ σ' L=>?_)
 ·delta v z ρ σ' K';generalize hz:v::z=w at L;delta w
  cases L with
  |mk j k O y6 y7 y8 _ e J P=>
   delta j k O y6 y7 y8;obtain⟨rfl,rfl,k,rfl,ej⟩:=dz hz e;delta k
   have jn:j<N.n:=(l3 512859654069280) ej
   obtain⟨mv,em⟩:∃k,N.mv[j]? =Gu k:=⟨_,Hb jn⟩;delta mv
   have eg:N.mv.getD j []=mv:=by rw [Hl,em];rfl
   have R:∀ {r:List Nat} {y7 y8:Option V} {i:Sg} (W:Nat),W=bR N l c (iF M (j+1))->bj a b m N l f r i->aH (· =b) σ₀ (· =b) i->K' .next (gq (bq m N [l] f) a M (.lst (cx (bJ N l (a8 M)))) c (Gu (.int W)) (Gu (.int j)) y7 y8 tl) i:=fun W G s y=>by
    rw [G];exact(hK _ _ (.mk (j+1) k _ _ _ _ _ ej s y)).1
   have wb:M.testBit j=Gz->bR N l c (iF M j)=bR N l c (iF M (j+1)):=fun h=>by rw [jQ,h,if_neg (by decide),G1]
   have wS:fA N l j=[]->bR N l c (iF M j)=bR N l c (iF M (j+1)):=fun h=>by
    rw [jQ]
    by_cases q:M.testBit j=Gx
    ·rw [if_pos q];unfold bR;rw [d9,h,G1]
    ·rw [if_neg q,G1]
   refine bK (wr em h.n200 (.loc rfl) (.loc rfl) _ _ ?_);rcases h.ok.mv mv (GN em) with rfl|⟨o,g,rfl,kk,gn⟩
   ·refine lq rfl (fun Z=>trivial) (ak (R _ (wS ?_) J P));unfold fA w4;rw [eg];rfl
   ·delta o g;refine m8 rfl (fun Z=>trivial) rfl fun D A=>?_;delta D
    have ws:fA N l j=[(o.toNat,clo N l g)]:=by unfold fA w4;rw [eg];rfl
    have kn:o=((o.toNat:Nat):Int):=by rcases kk with rfl|rfl<;>rfl
    have H:d8 (ae u (d+2)) (gq (bq m N [l] f) a M (.lst (cx (bJ N l (a8 M)))) c (Gu (.int (bR N l c (iF M j):Nat))) (Gu (.int j)) (Gu (.int o)) (Gu (.int g)) tl) σ' (.op (.bin .band) [.op (.bin .shr) [.loc 2,.loc 6],.const (.int 1)]) (M.testBit j) σ':=by
     have:cZ M j=M.testBit j:=by
      rw [LN];rfl
     rw [<-this];exact mB rfl rfl
    have I:∀t,GL ((0:Int)<=c/\c<3)=t->d8 (ae u (d+2)) (gq (bq m N [l] f) a M (.lst (cx (bJ N l (a8 M)))) c (Gu (.int (bR N l c (iF M j):Nat))) (Gu (.int j)) (Gu (.int o)) (Gu (.int g)) tl) σ' (.chain (.const (.int 0)) (.loc 4) (.const (.int 3))) t σ':=fun t ht=>.chain .const (.loc rfl) .const ht
    have T:bR N l c (iF M j)=bR N l c (iF M (j+1))->D .next (gq (bq m N [l] f) a M (.lst (cx (bJ N l (a8 M)))) c (Gu (.int (bR N l c (iF M j):Nat))) (Gu (.int j)) (Gu (.int o)) (Gu (.int g)) tl) σ':=fun e=>(A _ _ (ak (R _ e J P))).1
    by_cases U:M.testBit j=Gx
    ·rw [U] at H
     by_cases E:0<=c/\c<3
     ·have I:=I Gx (decide_eq_true E)
      obtain⟨B,rfl⟩:=IQ E.1;injections B;intro C w0 hK R wb wS H I T E I
      have Y:d8 (ae u (d+2)) (gq (bq m N [l] f) a M (.lst (cx (bJ N l (a8 M)))) B (Gu (.int (bR N l B (iF M j):Nat))) (Gu (.int j)) (Gu (.int o)) (Gu (.int g)) tl) σ' (.op (.bin .band) [.op (.bin .shr) [.loc 7,.loc 4],.const (.int 1)]) (cZ o.toNat B) σ':=by
       refine mB (k:=o.toNat) ?_ rfl;rw [<-kn];rfl
      have G:bR N l B (iF M (j+1))=qg (bR N l B (iF M j)) (([(o.toNat,clo N l g)].filter fun p=>cZ p.1 B).map (·.2)):=by
       rw [jQ,if_pos U];unfold bR;rw [if_pos E,if_pos E,d9,ws];exact uW _ _ _
      rw [Jq,JC] at G
      cases q3:cZ o.toNat B with
      |false=>
       rw [q3] at Y;rw [q3,if_neg (by decide)] at G
       exact aq (.andT H (.andT I Y)) (ak (bm (T G.symm)))
      |true=>
       rw [q3] at Y;rw [q3,if_pos rfl] at G;refine aq (.andT H (.andT I Y)) (w_asg ?_);refine oy ?_;refine Ev.loc rfl _ _ ?_;refine w_callM (.loc rfl) (aw J.inst rfl rfl) (.cons (.loc rfl) .nil) (eP F J gn fun r i s y=>?_);refine eV ?_;simp only [aF (σ:=i) (show dT .bor ((bR N l B (iF M j):Nat):Int) ((clo N l g:Nat):Int)=Gu _ from congrArg Gu (fu _ _))]
       refine aB rfl (ak (bm (A _ _ (ak (R _ G.symm s (P.trans y)))).1))
     ·exact aq (.andT H (.andF (I Gz (decide_eq_false E)))) (ak (bm (T (by unfold bR;rw [if_neg E,if_neg E]))))
    ·rw [LF.mpr U] at H;exact aq (.andF H) (ak (bm (T (wb (LF.mpr U)))))
 ·generalize hz:([]:List V)=w at L
  cases L with
  |mk j k O y6 y7 y8 _ e J P=>
   obtain rfl:=dp hz e;rw [LQ] at e;subst e;exact C _ _ _ _ _ J P
end
section
variable {u:U} {d:Nat} {Q:V->Sg->Prop} {X:Sg->Prop} {σ₀ σ:Sg} {a b m:Nat} {N:NF} {l f:Nat} {ks:List Nat}
inductive RgtI (σ₀:Sg) (a b m:Nat) (N:NF) (l f M:Nat) (tl:List (Option V)):List V->List (Option V)->Sg->Prop where
 |mk (ys:List Int) (y4 y5 y6 y7 y8:Option V) (ks:List Nat) (σ:Sg) (h:bj a b m N l f ks σ) (S:aH (· =b) σ₀ (· =b) σ):RgtI σ₀ a b m N l f M tl (ys.map .int) (Gu (bq m N [l] f)::Gu (.ref a)::Gu (.int M)::Gu (.lst (cx (bJ N l (a8 M))))::y4::y5::y6::y7::y8::tl) σ
theorem xr (F:bg u) (K:N.Ok) (hn:N.n<=200) (T:f<N.n) (A:∀σ',aZ σ σ'->Q (.bool Gx) σ'):ae u (d+5) 946 [bq m N [l] f] Q X σ:=by
 delta u d Q X σ m N l f;refine F.call 946 _ rfl (d+4) _ Q X σ rfl ?_;refine w_asg (nJ (d:=d+3) F K hn (.loc rfl) fun e B o=>aB rfl (w_asg ?_));delta e;refine w_callM (.loc rfl) (aw o.inst rfl rfl) .nil ((rO (d:=d+1) F o T fun r y p C=>aB rfl (w_asg ?_)));delta r y
 have U:clo N l f<2^N.n:=ug K T
 refine w_callM (.loc rfl) (aw p.inst rfl rfl) (.cons (.loc rfl) .nil) (wY (d:=d+1) F p U fun g n D E=>aB rfl ?_);delta g n
 have L:=C.trans E
 refine bK (Ev.op (.cons .const (.cons .const (.cons .const (.cons .const (.cons .const (.cons .const (.cons .const .nil))))))) (aK (Gv rfl)) _ _ ?_);refine bG (RgtI e σ.n (σ.n+1) m N l f (clo N l f) [Gw,Gw]) rfl (.mk [-1,0,1,2, -40,3,70] Gw Gw Gw Gw Gw g n D L) (fun Z Z Z Z=>trivial) (fun v z ρ σ' K' G hK Z=>?_) (fun ρ σ' G=>?_)
 ·delta v z ρ σ' K';generalize O:v::z=w at G;delta w
  cases G with
  |mk H W Y y6 y7 y8 I _ h' P=>
   delta H W Y y6 y7 y8 I
   cases H with
   |nil=>cases O
   |cons c H=>
    cases O;refine⟨_,rfl,ar .const rfl ?_⟩;refine Cf (d:=d+2) F (M:=clo N l f) (c:=c) (tl:=[Gw,Gw]) (y6:=y6) (y7:=y7) (y8:=y8) h' P fun R y6 y7 y8 S q J=>?_
    have ew:bR N l c (a8 (clo N l f))=bR N l c (iF (clo N l f) N.n):=qJ fun s=>(yK U s).symm
    have ea:=tR (u:=u) (d:=d+3) (ρ:=gq (bq m N [l] f) σ.n (clo N l f) (.lst (cx (bJ N l (a8 (clo N l f))))) c (Gu (.int (bR N l c (iF (clo N l f) N.n):Nat))) y6 y7 y8 [Gw,Gw]) F K (i:=1) (j:=3) (k:=4) (c:=c) q rfl rfl rfl
    rw [ew] at ea;exact aq (t:=Gz) (.of (v:=.bool (!(((bR N l c (iF (clo N l f) N.n):Nat):Int) ==((bR N l c (iF (clo N l f) N.n):Nat):Int)))) (.op (.cons ea (.cons (.loc rfl) .nil)) rfl) (by rw [beq_self_eq_true];rfl) rfl) (ak (bm (hK _ _ (.mk H _ _ _ _ _ _ _ q J)).1))
 ·generalize O:([]:List V)=w at G
  cases G with
  |mk H W Y y6 y7 y8 I _ h' P=>
   refine ax (Ev.const _ _ (A _ (P.toExt B fun x hx=>by rw [show x=_ from hx];exact Hn _)))
end
section
variable {σ:Sg} {x y:V} {d:MF} {n:Nat} {xs:List V} {ds:List MF}
theorem same_of (h:Vw σ 8 x d) (h':Vw σ 8 y d):kg σ x y=Gx:=@decide_eq_true _ (Ks _) ⟨d,h,h'⟩
theorem yS {b:Bool}:Vw σ n (.bool b) (.bool b):=⟨rfl,G7 _,fun Z r=>gP r▸⟨_,.bool _⟩⟩
theorem hS {i:Int}:Vw σ n (.int i) (.int i):=⟨rfl,G7 _,fun Z r=>let ⟨_,e⟩:=aE r;e▸⟨_,.int _ _⟩⟩
theorem qu.nil:qu σ n [] []:=⟨rfl,G7 _,fun Z r=>by exact r▸⟨_,.nil⟩⟩
theorem qu.cons (h:Vw σ n x d) (t:qu σ n xs ds):qu σ n (x::xs) (d::ds):=⟨G0.mpr ⟨h.lay,t.lay⟩,Nat.max_le.mpr ⟨h.dep,t.dep⟩,fun a r=>by
 obtain⟨y,c,e,b,r⟩:=r;obtain⟨f,q⟩:=h.rd a b;obtain⟨g,p⟩:=t.rd a r;exact e▸⟨_,.cons q p⟩⟩
theorem qu.map {b:Type} {g:b->V} {h:b->MF} {l:List b} (q:∀x∈l,Vw σ n (g x) (h x)):qu σ n (l.map g) (l.map h):=by
 induction l with
 |nil=>exact .nil
 |cons x l c=>exact .cons (q x (.head _)) (c fun y e=>q y (.tail _ e))
theorem qu.two {b β:Type} {g:b->V} {h:β->MF} {l:List b}:∀ {k:List β},l.length=k.length->(∀(i:Nat) x y,l[i]? =Gu x->k[i]? =Gu y->Vw σ n (g x) (h y))->qu σ n (l.map g) (k.map h):=by
 induction l with
 |nil=>exact fun{k} e _=>M2.mp e.symm▸.nil
 |cons x l c=>
  intro k e q;obtain⟨y,k,rfl⟩:=List.exists_cons_of_length_eq_add_one e.symm;exact .cons (q 0 x y rfl rfl) (c (Mz e) fun i x y=>q (i+1) x y)
theorem dw (h:qu σ n xs ds):Vw σ (n+1) (.tup xs) (.tuple ds):=⟨h.lay,Hq h.dep,fun a r=>by
 obtain⟨b,c,k,e,z,f⟩:=fM r;obtain⟨g,q⟩:=h.rd a f;exact e▸⟨_,.tuple (a.inv.froz _ _ z) rfl rfl q⟩⟩
theorem mr (h:qu σ n xs ds):Vw σ (n+1) (.lst xs) (.list ds):=⟨h.lay,Hq h.dep,fun a r=>by
 obtain⟨b,c,k,e,z,f⟩:=eD r;obtain⟨g,q⟩:=h.rd a f;exact e▸⟨_,.list (a.inv.froz _ _ z) rfl rfl q⟩⟩
theorem fm {i:Nat} (c:σ.cell i=.list xs) (h:qu σ n xs ds):Vw σ (n+1) (.ref i) (.list ds):=⟨h.lay,Hq h.dep,fun a r=>by
 obtain⟨f,e⟩:=aU r;obtain⟨l,b,k,g,j⟩:=a.cell f c (fun h=>nomatch h);obtain⟨m,q⟩:=h.rd a j;exact e▸⟨_,.list g rfl rfl q⟩⟩
noncomputable def Gf (l:List (Int×Int)):MF:=.list (l.map fun p=>.tuple [.int p.1,.int p.2])
noncomputable def EM (l:List Nat):MF:=.list (l.map fun(i:Nat)=>.int i)
theorem vp {l:List (Int×Int)}:qu σ (n+1) (sX l) (l.map fun p=>.tuple [.int p.1,.int p.2]):=.map fun p Z=>dw (.cons hS (.cons hS .nil))
theorem gh {l:List Nat}:qu σ n (bw l) (l.map fun(i:Nat)=>.int i):=.map fun p Z=>hS
theorem xD {l:List Int}:qu σ n (l.map .int) (l.map .int):=.map fun p Z=>hS
theorem uq {a m:Nat} {N:NF} {p:FP} (h:be a m N p σ):kg σ (.tup [.ref p.b,.ref p.c]) (.tup [D7 N,Ew N])=Gx:=
 same_of (d:=.tuple [.list (N.mv.map Gf),.list (N.hp.map EM)]) (dw (.cons (fm h.cb (.two h.lb fun i x l b c=>fm (h.cm i x l b c) vp)) (.cons (fm h.cc (.two (by rw [h.lc,h.ok.len]) fun i x l b c=>fm (h.ch i x l b c) gh)) .nil)))
  (dw (.cons (mr (by rw [HJ];exact .map fun l Z=>mr vp)) (.cons (mr (by rw [HJ];exact .map fun l Z=>mr gh)) .nil)))
theorem td {r:RT} {b c i j:Nat} {e fo:List Nat} (l:σ.cell b=.list (bw e)) (m:σ.cell c=.list (bw fo)) (f:σ.cell i=.list (bw e)) (g:σ.cell j=.list (bw fo)):kg σ (.tup [r.v,.ref b,.ref c]) (.tup [r.v,.ref i,.ref j])=Gx:=
 have k:Vw σ 7 r.v (.tuple [.bool r.e,.int r.f,.int r.l]):=dw (.cons yS (.cons hS (.cons hS .nil)))
 same_of (d:=.tuple [.tuple [.bool r.e,.int r.f,.int r.l],EM e,EM fo]) (dw (.cons k (.cons (fm l gh) (.cons (fm m gh) .nil)))) (dw (.cons k (.cons (fm f gh) (.cons (fm g gh) .nil))))
theorem tB {s:List Nat×List (List Int)} {l:Nat}:kg σ (iH s l) (iH s l)=Gx:=
 have h:Vw σ 8 (iH s l) (.tuple [.tuple (s.2.map fun r=>.tuple (r.map .int)),.tuple (s.1.map fun M=>.tuple ((uG M l).map fun(i:Nat)=>.int i))]):=
  dw (.cons (dw (.map fun r Z=>dw xD)) (.cons (dw (.map fun M Z=>dw gh)) .nil))
 same_of h h
end
section
variable {u:U} {d:Nat} {Q:V->Sg->Prop} {X:Sg->Prop} {σ:Sg} {K:cU}
noncomputable def d1 (v0 v1 e f g i j k l m b c:Option V):List (Option V):=[v0,v1,e,f,g,i,j,k,l,m,b,c,Gw,Gw,Gw,Gw,Gw,Gw,Gw,Gw,Gw,Gw,Gw,Gw,Gw,Gw]
theorem B9 (F:bg u) {is:List Int} (E:is.length<=1000000) (o:∀t σ' G,Fam 3 t->wpSs tab (ae u 20) (mq.drop 5) (d1 (Gu (.lst (is.map .int))) G (Gu t.v) (Gu t.node) (Gu bE) (Gu (.int (cnt 3 t).1)) (Gu (.int (cnt 3 t).2)) Gw Gw Gw Gw Gw) K X σ'):
  wpSs tab (ae u 20) mq (dR 26 [0] [.lst (is.map .int)]) K X σ:=by
 revert is;delta u X σ K;delta is;refine w_asg (ay (.cons (.loc rfl) .nil) (yV (d:=19) F E fun a m f q=>aB rfl ?_));delta a m f;refine w_asg (ay (.cons (.loc rfl) .nil) (AM (d:=17) F q fun t g s=>aB rfl ?_));delta t g;refine w_asg ?_;refine ay (.cons (.loc rfl) .nil) ((Av F s fun j v=>?_).up (by decide))
 delta j;refine lV ?_;refine oy ?_;refine lV ?_;refine gQ ?_;refine ay (.cons .const .nil) (Ca (d:=17) F (k:=31) (c:=97) rfl (by decide) (by decide) fun l y=>?_)
 delta l;refine ay (.cons .const .nil) (Ca (d:=17) F (k:=32) (c:=98) rfl (by decide) (by decide) fun b z=>?_)
 delta b;simp only [bP (Gv rfl:[g9 97,g9 98].length<=1000)];refine sY (d:=19) F (i:=b.n+1) (p:=b.n) (GA _) ah (GF (GA _)) (G9 (GA _)) ((au (GA _)).trans ah) fun e H L r A B C=>⟨rfl,?_⟩;delta e;refine eV ?_;simp only [aK (Gv rfl:[t.node,V.ref (b.alloc (.list [g9 97,g9 98])).n].length<=1000)];refine aB rfl ?_
 have I:((b.alloc (.list [g9 97,g9 98])).alloc (.inst 570 [])).n=b.n+2:=rfl
 rw [I] at H r A B C
 have J:FrzL e [.ref (b.alloc (.list [g9 97,g9 98])).n] [bE] (((e.set (b.n+1) .dead).set (b.n+2+1) .dead).set (b.n+2+2) .dead):=
  .inst (show e.cell ((b.alloc (.list [g9 97,g9 98])).n)=.inst 570 [(12,.ref (b.n+2+1)),(13,.ref (b.n+2+2)),(7,.int 3)] from A) (by show b.n+1<_;exact(l2 0x1c172872801c17180) r)
   (.list ((af (l1 8287570799044614)).trans B) (by show _<e.n;exact(l2 7906759943483776) r) .all (.list ((af (l1 2023332718598)).trans ((af (l1 8287570815821830)).trans C)) (by show _<e.n;exact(l2 470817808) r) .all (.keep .nil))) .nil
 refine CM rfl J ?_;exact w_asg (ay (.cons (.loc rfl) .nil) ((wV F 3 (by decide) s fun n D=>aB rfl (o t n _ s)).up (by decide)))
end
section
variable {u:U} {d:Nat} {Q:V->Sg->Prop} {X:Sg->Prop} {σ σ₁:Sg} {K:cU} {C:aC} {ρ:List (Option V)} {e a b:E} {l l₁:List S} {c:Bool->Sg->Prop}
def DH (C:aC) (l₁ f l:List S) (ρ:List (Option V)) (K:cU) (X:Sg->Prop):Bool->Sg->Prop:=fun t g=>match t with
 |true=>wpSs tab C l₁ ρ (hZ C l K X) X g
 |false=>wpSs tab C f ρ (hZ C l K X) X g
theorem mc {f:List S} (h:wpB tab C ρ e (DH C l₁ f l ρ K X) X σ):wpSs tab C (.ite e l₁ f::l) ρ K X σ:=h
theorem iU (q:wpSs tab C l ρ K X σ):DH C l₁ [] l ρ K X Gz σ:=ak (C:=C) (X:=X) (K:=hZ C l K X) (ρ:=ρ) (σ:=σ) q
def Gg (c:Bool->Sg->Prop):V->Sg->Prop:=fun v f=>match b7 f v with
 |some t=>c t f
 |none=>False
theorem mP (hp:jp e=Gx) (h:wpE tab C ρ e (Gg c) X σ):wpB tab C ρ e c X σ:=by
 rw [ir hp];exact h
def F6 (C:aC) (ρ:List (Option V)) (b:E) (c:Bool->Sg->Prop) (X:Sg->Prop):Bool->Sg->Prop:=fun t f=>match t with
 |true=>c Gx f
 |false=>wpB tab C ρ b c X f
theorem Cu (h:wpB tab C ρ a (F6 C ρ b c X) X σ):wpB tab C ρ (.or a b) c X σ:=h
theorem DR (h:d8 C ρ σ a Gx σ₁) (q:wpB tab C ρ b c X σ₁):wpB tab C ρ (.and a b) c X σ:=h _ _ q
theorem pM {f:GW} {g:List E} {vs:List V} (h:vW C ρ σ g vs σ₁) (m:∀Q:V->Sg->Prop,(∀σ',aZ σ₁ σ'->Q .none σ')->C f vs Q X σ₁) (q:∀σ',aZ σ₁ σ'->c Gz σ'):wpB tab C ρ (.op .notNone [.callF f g]) c X σ:=by
 refine mP rfl ?_;refine ay h (m _ fun σ' E=>?_);exact q σ' E
theorem rH {n:Nat} (h:1<=n) {i:Nat} (hi:ρ[i]? =Gu (Gu (.int n))):Ev C ρ σ (.op (.bin .sub) [.loc i,.const (.int 1)]) (.int ((n - 1:Nat):Int)) σ:=
 .op (.cons (.loc hi) (.cons .const .nil)) (aF (congrArg Gu (by lia)))
noncomputable def dc (t:Tr):BR:=bld 3 t ⟨[],[]⟩
theorem BF (F:bg u) {t:Tr} (D:Fam 3 t) (J:1<=(cnt 3 t).1) (G:(cnt 3 t).1<=200) {v0 v1 k o:Option V} (y:(dc t).N.Ok->∀σ' T,wpSs tab (ae u 20) (mq.drop 9) (d1 v0 v1 k (Gu t.node) (Gu bE) (Gu (.int (cnt 3 t).1)) o (Gu (bq (cnt 3 t).1 (dc t).N [(dc t).l] (dc t).f)) T Gw Gw Gw) K X σ'):
  wpSs tab (ae u 20) (mq.drop 5) (d1 v0 v1 k (Gu t.node) (Gu bE) (Gu (.int (cnt 3 t).1)) o Gw Gw Gw Gw Gw) K X σ:=by
 revert t v0 v1 k o;delta u X σ K;revert v0 v1 k o;delta t;delta v0 v1 k o;refine w_asg ?_;refine ay (.cons (.loc rfl) (.cons (.loc rfl) (.cons (.loc rfl) .nil))) ((rK F (by decide) D (m:=(cnt 3 t).1) ((l1 0x1b89c801b091979280) G) (fun Z U σ₁ L=>?_) fun q=>absurd q (HD _)).up (by decide))
 delta σ₁;refine sk (d:=19) F fun p j M z O=>?_;delta p j;refine eV ?_;simp only [aK (Gv rfl:[bq (cnt 3 t).1 (bld 3 t ⟨[],[]⟩).N [(bld 3 t ⟨[],[]⟩).l] (bld 3 t ⟨[],[]⟩).f,V.ref σ₁.n].length<=1000)];refine aB rfl (mc (Cu ?_))
 have W:=(i5 F 3 (by decide) D).adds ⟨[],[]⟩
 have P:(dc t).N.n=(cnt 3 t).1:=W.1.trans (IJ _)
 refine d8.of (t:=Gz) (.op (.cons (.loc rfl) .nil) rfl) rfl rfl _ _ (Cu ?_)
 have R:=nX (u:=u) (d:=19) (σ:=j) (m:=(cnt 3 t).1) (N:=(dc t).N) (l:=(dc t).l) (f:=(dc t).f) (i:=7) (ρ:=d1 v0 v1 k (Gu t.node) (Gu bE) (Gu (.int (cnt 3 t).1)) o (Gu (bq (cnt 3 t).1 (dc t).N [(dc t).l] (dc t).f)) (Gu (.ref σ₁.n)) Gw Gw Gw) F rfl ((l2 0x1d101b89c811b89c80) P G)
 rw [P] at R;refine d8.of (v:=.bool (!(((cnt 3 t).1:Int) ==((cnt 3 t).1:Int)))) (t:=Gz) (.op (.cons R (.cons (.loc rfl) .nil)) rfl) (by rw [beq_self_eq_true];rfl) rfl _ _ ?_
 refine pM (.cons (.loc rfl) (.cons (.loc rfl) (.cons (rH J rfl) .nil))) (fun Q Y=>(rK F (by decide) D (m:=(cnt 3 t).1 - 1) ((l2 0x1b89c811b101b091979280) G (HU _ _)) (fun q=>absurd q ((l2 1994769112592) (Ha J))) fun Z σ' E=>Y σ' E).up (by decide)) fun s A=>iU ?_
 delta s
 have B:=z.ext A
 refine aD (ay (.cons (.loc rfl) (.cons (.loc rfl) (.cons (.loc rfl) .nil))) (((i5 F 3 (by decide) D).call B (fun q H g r S=>?_) fun q=>absurd q (by show¬(10000<0+(cnt 3 t).1);exact(l1 0x1b89c801f700809197928) G)).up (by decide)))
 delta H g
 have I:∀ {n:Nat} {v:V},eF tab 147 n [(0,.int 10000),(1,.ref H.b),(2,.ref H.c),(3,.ref H.t),(4,.int 0)]=Gu v->Ev (ae u 20) (d1 v0 v1 k (Gu t.node) (Gu bE) (Gu (.int (cnt 3 t).1)) o (Gu (bq (cnt 3 t).1 (dc t).N [(dc t).l] (dc t).f)) (Gu (.ref σ₁.n)) Gw Gw Gw) g (.op (.attr n) [.loc 8]) v g:=fun h=>.op (.cons (.loc rfl) .nil) (a7 r.inst h)
 have e9:Ev (ae u 20) (d1 v0 v1 k (Gu t.node) (Gu bE) (Gu (.int (cnt 3 t).1)) o (Gu (bq (cnt 3 t).1 (dc t).N [(dc t).l] (dc t).f)) (Gu (.ref σ₁.n)) Gw Gw Gw) g (.op .tup [.op (.attr 1) [.loc 7],.op (.attr 2) [.loc 7]]) (.tup [D7 (dc t).N,Ew (dc t).N]) g:=.op (.cons (.op (.cons (.loc rfl) .nil) (bH rfl rfl)) (.cons (.op (.cons (.loc rfl) .nil) (bH rfl rfl)) .nil)) (aK (Gv rfl))
 refine aq (t:=Gz) (.orF (.of (v:=.bool Gz) (.op (.cons (.op (.cons (I rfl) (.cons (I rfl) .nil)) (aK (Gv rfl))) (.cons e9 .nil)) (Bn (uq r) (fun Z h=>nomatch h) (fun Z h=>nomatch h))) rfl rfl) (.of (v:=.bool Gz) (.op (.cons (I rfl) (.cons .const .nil)) rfl) rfl rfl)) (ak ?_);exact y U g _
end
section
variable {u:U} {d:Nat} {Q:V->Sg->Prop} {X:Sg->Prop} {σ σ₁:Sg} {K:cU}
theorem Ah (F:bg u) {t:Tr} (G:Fam 3 t) (J:1<=(cnt 3 t).2) (H:(cnt 3 t).2<=1000) {v0 v1 l o p s:Option V} (y:∀σ' O i,wpSs tab (ae u 20) (mq.drop 13) (d1 v0 v1 l (Gu t.node) (Gu bE) o (Gu (.int (cnt 3 t).2)) p s O i Gw) K X σ'):
  wpSs tab (ae u 20) (mq.drop 9) (d1 v0 v1 l (Gu t.node) (Gu bE) o (Gu (.int (cnt 3 t).2)) p s Gw Gw Gw) K X σ:=by
 revert t v0 v1 l o p s;delta u X σ K;revert v0 v1 l o p s;delta t;delta v0 v1 l o p s;refine w_asg (se (d:=19) F (.loc rfl) fun σ₁ M g=>aB rfl ?_);delta σ₁;refine w_asg (w_callM (.loc rfl) (aw g.inst rfl rfl) (.cons (.loc rfl) .nil) (((uK F 3 (by decide) G).call g (fun q j L=>aB rfl ?_) fun q=>absurd q (by show¬(1000<0+(cnt 3 t).2);exact(l1 0x1b89e93801f700889e938) H)).up (by decide)))
 delta j
 have z:=L.at_
 have A:(rd 3 t .start).1.c=(cnt 3 t).2:=L.cn.trans (IJ _)
 refine mc (Cu (mP rfl ?_));refine ay (.cons (.loc rfl) (.cons (.loc rfl) (.cons (.loc rfl) .nil))) ((rE F (by decide) G H (fun Z b c e B P R=>?_) fun q=>absurd q (HD _)).up (by decide))
 delta b c e
 have f:=z.ext B
 have N:∀ {i:Option V} {n:Nat} {v:V},eF tab 324 n [(0,.int 1000),(7,.int (rd 3 t .start).1.c),(8,bE),(9,.ref (σ.n+1)),(10,.ref (σ.n+2))]=Gu v->Ev (ae u 20) (d1 v0 v1 l (Gu t.node) (Gu bE) o (Gu (.int (cnt 3 t).2)) p s (Gu (.ref σ.n)) i Gw) e (.op (.attr n) [.loc 9]) v e:=fun h=>.op (.cons (.loc rfl) .nil) (a7 f.inst h)
 refine Ev.op (.cons (.loc rfl) (.cons (N rfl) (.cons (N rfl) .nil))) (aK (Gv rfl)) _ _ ?_;refine eV ?_;simp only [Bn (td (r:=(rd 3 t .start).2) P R f.cb f.cc) (fun Z h=>nomatch h) (fun Z h=>nomatch h)]
 show F6 _ _ _ _ _ Gz e
 refine pM (.cons (.loc rfl) (.cons (.loc rfl) (.cons (rH J rfl) .nil))) (fun Q S=>(rE F (by decide) G (m:=(cnt 3 t).2 - 1) ((l2 0x1b89e93811b101b89e9380) H (HU _ _)) (fun q=>absurd q ((l2 1994769112592) (Ha J))) fun Z σ' E=>S σ' E).up (by decide)) fun k C=>iU ?_
 have D:=f.ext C
 have I:=D.inst
 rw [A] at I;refine aq (t:=Gz) (.orF (.of (v:=.bool (!(((cnt 3 t).2:Int) ==((cnt 3 t).2:Int)))) (.op (.cons (.op (.cons (.loc rfl) .nil) (a7 I rfl)) (.cons (.loc rfl) .nil)) rfl) (by rw [beq_self_eq_true];rfl) rfl) (.of (v:=.bool Gz) (.op (.cons (.op (.cons (.loc rfl) .nil) (a7 I rfl)) (.cons .const .nil)) rfl) rfl rfl)) (ak ?_)
 exact y k _ _
theorem A2 (F:bg u) {N:NF} {l f m b:Nat} (L:N.Ok) (M:N.n<=200) (O:f<N.n) (n:b<=10000) (j:Fin (bZ N l) (clo N l f) b) {v0 v1 o y z A B C D c:Option V} (H:∀σ' ρ,K (.ret (.bool Gx)) ρ σ'):
  wpSs tab (ae u 20) (mq.drop 13) (d1 v0 v1 o y z A B (Gu (bq m N [l] f)) C D c Gw) K X σ:=by
 revert N l f m b v0 v1 o y z A B C D c;delta u X σ K;revert v0 v1 o y z A B C D c;delta N l f m b;delta v0 v1 o y z A B C D c
 have S:1<=b:=by
  have:=mN (bZ N l) (clo N l f) (G7 b)
  rw [j.e] at this;exact this
 refine w_asg (ay (.cons (.loc rfl) (.cons .const .nil)) (AA (d:=16) F L M O n j fun σ₁ T=>aB rfl (mc (mP rfl ?_))));delta σ₁;generalize I:us (bZ N l) (clo N l f) b=s;delta s
 have P:s.2.length=b:=by rw [<-I];exact us_rows _ _ _
 have s1:s.1.length=b:=by rw [<-I];exact j.e
 have s3:∀r∈s.2,r.length<=3:=by rw [<-I];exact q9 _ _ _
 have J:∀ {σ:Sg},Ev (ae u 20) (d1 v0 v1 o y z A B (Gu (bq m N [l] f)) C D c (Gu (jH s l))) σ (.callM 38 (.loc 11) []) (.int (b:Nat)) σ:=fun{σ}=>by
  have:=ta (u:=u) (d:=19) (σ:=σ) (s:=s) (l:=l) (i:=11) (ρ:=d1 v0 v1 o y z A B (Gu (bq m N [l] f)) C D c (Gu (jH s l))) F rfl ((l2 0x1d101b0919792811b091979280) P n)
  rw [P] at this;exact this
 have U:∀ {mx:Nat} {Q:V->Sg->Prop} {X:Sg->Prop} {σ:Sg},mx<=10000->1<=mx->(b<=mx->∀σ',aZ σ σ'->Q (iH s l) σ')->(mx<b->∀σ',aZ σ σ'->Q .none σ')->ae u 20 939 [bq m N [l] f,.int mx] Q X σ:=fun h1 h2 p e=>(yN (d:=15) F L M O n j h1 h2 (by rw [I];exact p) e)
 refine ay (.cons (.loc rfl) (.cons J .nil)) (U n S (fun Z G W=>?_) fun q=>absurd q (HD _));delta G;refine w_callM (.loc rfl) (dZ rfl rfl) .nil (wv (d:=19) F ((l2 0x1d101b0919792811b091979280) s1 n) ((l2 0x1d101b0919792811b091979280) P n) s3 fun g Y=>?_);delta g;refine eV ?_;simp only [Bn (σ:=g) (v:=iH s l) (x:=iH s l) tB (fun Z h=>nomatch h) (fun Z h=>nomatch h)];refine iU (l₁:=[.ret (.const (.bool Gz))]) ?_
 have k:∀ {σ:Sg},wpSs tab (ae u 20) (mq.drop 16) (d1 v0 v1 o y z A B (Gu (bq m N [l] f)) C D c (Gu (jH s l))) K X σ:=ax (ay (.cons (.loc rfl) .nil) (xr (d:=15) F L M O fun σ' E=>H σ' _))
 by_cases q:1<b
 ·refine mc (DR (.of (v:=.bool (GL ((b:Int) >1))) (.op (.cons J (.cons .const .nil)) rfl) (congrArg Gu (decide_eq_true (by lia))) rfl) ?_)
  refine pM (.cons (.loc rfl) (.cons (.op (.cons J (.cons .const .nil)) (aF (r:=((b - 1:Nat):Int)) (congrArg Gu (by lia)))) .nil)) (fun Q hQ=>U (mx:=b - 1) ((l2 0x1b0919792811b101b091979280) n (HU _ _)) ((l2 0x1c1181b718011b018) q (w5 _ _)) (fun q=>absurd q ((l2 1994769112592) (Ha S))) fun Z σ' E=>hQ σ' E) fun R b'=>iU k
 ·exact aq (t:=Gz) (.andF (.of (v:=.bool (GL ((b:Int) >1))) (.op (.cons J (.cons .const .nil)) rfl) (congrArg Gu (decide_eq_false (by lia))) rfl)) (ak k)
end
structure mJ (t:Tr):Prop where
 s1:1<=(cnt 3 t).1
 s2:(cnt 3 t).1<=200
 n1:1<=(cnt 3 t).2
 n2:(cnt 3 t).2<=1000
 fin:(dc t).N.Ok->(dc t).N.n=(cnt 3 t).1->(dc t).f<(dc t).N.n->∃K,K<=10000/\Fin (bZ (dc t).N (dc t).l) (clo (dc t).N (dc t).l (dc t).f) K
theorem DB {u:U} (F:bg u) (b:∀t,Fam 3 t->mJ t) {X:Sg->Prop} {σ:Sg} {is:List Int} (n:is.length<=1000000):ae u 21 953 [.lst (is.map .int)] (fun v Z=>v=.bool Gx) X σ:=by
 refine F.call 953 _ rfl 20 _ _ X σ rfl ?_;refine B9 F n fun t d r c=>?_
 have P:=b t c
 refine BF F c P.s1 P.s2 fun k e s=>?_
 have l:=(i5 F 3 (by decide) c).adds ⟨[],[]⟩
 have f:(dc t).N.n=(cnt 3 t).1:=l.1.trans (IJ _)
 have m:(dc t).f<(dc t).N.n:=by rw [f, <-IJ (cnt 3 t).1];exact l.2.1
 obtain⟨K,o,g⟩:=P.fin k f m
 have p:=P.s2
 exact Ah F c P.n1 P.n2 fun i y q=>A2 F k (by rw [f];exact p) m o g fun j z=>rfl
theorem zy {b:Type} [DecidableEq b] {l:List b}:∀ {L:List b},l.Nodup->(∀x∈l,x∈L)->l.length<=L.length:=by
 induction l with
 |nil=>
  intro _ _ _;exact G7 _
 |cons x l i=>
  intro L c h;rw [IZ] at c
  have d:=i (L:=L.erase x) c.2 fun y f=>(List.mem_erase_of_ne fun e=>c.1 (by rw [<-e];exact f)).mpr (h y (.tail _ f))
  have g:=h x (.head _)
  rw [MZ g] at d
  have:=List.length_pos_of_mem g
  show l.length+1<=_
  exact(l3 0x1b201d171821b17180) d (Ha this)
theorem xO {b:List Nat} {w:Nat} (h:b.Nodup):(dF b w).Nodup:=by
 unfold dF;split
 ·exact h
 ·rename_i q;exact Ja.mpr ⟨h,by simp,fun x c y d e=>q (.inr (by rw [GI.mp d] at e;exact e▸c))⟩
theorem wG {nx:Nat->Nat} {L:List Nat} (i:∀c∈[0,1,2],nx c=0\/nx c∈L) (d:List Nat):∀(s:List Nat×List Int),(∀c∈d,c∈[0,1,2])->s.1.Nodup->(∀w∈s.1,w∈L)->(d.foldl (fB nx) s).1.Nodup/\∀w∈(d.foldl (fB nx) s).1,w∈L:=by
 induction d with
 |nil=>
  intro s _ f e;exact⟨f,e⟩
 |cons c d j=>
  intro s g f e;refine j (fB nx s c) (fun x k=>g x (.tail _ k)) (xO f) fun w b=>?_
  have b:w∈dF s.1 (nx c):=b
  unfold dF at b
  split at b
  ·exact e w b
  ·rename_i q;rcases GH.mp b with b|b
   ·exact e w b
   ·rw [GI.mp b];exact(i c (g c (.head _))).elim (fun z=>absurd (.inl z) q) id
theorem t6 {nx:Nat->Nat->Nat} {s0:Nat} {L:List Nat} (r:s0∈L) (s:∀M∈L,∀c∈[0,1,2],nx M c=0\/nx M c∈L):∃K,K<=L.length/\Fin nx s0 K:=by
 have g:∀k,(∀j,j<k->j<(us nx s0 j).1.length)->(us nx s0 k).1.Nodup/\∀w∈(us nx s0 k).1,w∈L:=fun k=>by
  induction k with
  |zero=>exact fun Z=>⟨by show [s0].Nodup;simp,fun w t=>by rw [GI.mp t];exact r⟩
  |succ k d=>
   intro h;obtain⟨i,e⟩:=d fun j b=>h j (GF b)
   have o:=h k (GA k)
   refine wG (s _ (e _ ?_)) [0,1,2] ((us nx s0 k).1,[]) (fun c u=>u) i e;rw [Hl,Hb o];exact List.getElem_mem o
 have v:∃k,k<=L.length/\(∀j,j<k->j<(us nx s0 j).1.length)/\(us nx s0 k).1.length<=k:=by
  refine LS fun y=>?_
  have l:∀n,n<=L.length+1->∀j,j<n->j<(us nx s0 j).1.length:=fun n=>by
   induction n with
   |zero=>exact fun Z j b=>absurd b (Mr _)
   |succ n d=>
    intro m j b;rcases LM j n with q|q
    ·exact d ((l2 1861625060112) m) j q
    ·have:j=n:=IH ((l2 1954613828368) b) ((l2 454040336) q)
     subst this;exact J4 fun z=>y ⟨j,(l2 7724625140128528) m,d ((l2 1861625060112) m),z⟩
  have f:=l (L.length+1) (GP _)
  obtain⟨i,e⟩:=g L.length fun j b=>f j (GF b);exact absurd (f L.length (GA _)) (HQ.mpr (zy i e))
 obtain⟨k,f,p,A⟩:=v;refine⟨k,f,IH A ?_,p⟩
 cases k with
 |zero=>exact G7 _
 |succ k=>exact GC (p k (GA k)) (rJ nx s0 k)
noncomputable def tg (N:NF) (k:Int):List Nat:=N.mv.flatMap fun l=>(l.filter fun p=>p.1==k).map fun p=>p.2.toNat
theorem fC (N:NF) (k:Int):tg N.add k=tg N k:=by
 unfold tg NF.add;rw [NK];exact G1 _
theorem o8 {b β:Type} {f:b->List β} {g:b->b} {c:Nat} (d:∀x,(f (g x)).length<=(f x).length+c) (l:List b):∀s:Nat,((l.modify s g).flatMap f).length<=(l.flatMap f).length+c:=by
 induction l with
 |nil=>intro s;cases s<;>exact G7 _
 |cons x l e=>
  intro s
  cases s with
  |zero=>
   show((g x::l).flatMap f).length<=_
   rw [JL,JL,GG,GG]
   have:=d x
   lia
  |succ s=>
   show((x::l.modify s g).flatMap f).length<=_
   rw [JL,JL,GG,GG]
   have:=e s
   lia
theorem rU (N:NF) (k b:Int) (s g:Nat):(tg (N.move s b g) k).length<=(tg N k).length+if b=k then 1 else 0:=by
 refine o8 (fun l=>?_) N.mv s;rw [IU,G2,GG,Jq,JC]
 by_cases q:b=k
 ·subst q;simp
 ·simp [q]
noncomputable def ml (x:Bool):Tr->Nat
 |.a=>if x then 0 else 1
 |.b=>if x then 1 else 0
 |.cat l r|.alt l r=>ml x l+ml x r
 |.star t|.plus t|.opt t=>ml x t
 |.rep t lo Gw=>(lo+1) * ml x t
 |.rep t lo (Gu hi)=>hi * ml x t
 |_=>0
theorem nB (x:Bool) (k:Nat) (t:Tr):((spine k t).map (ml x)).sum=ml x t:=by
 have b:∀ {c:List Tr} {r:Tr},((c++[r]).map (ml x)).sum=(c.map (ml x)).sum+ml x r:=fun{c r}=>by
  rw [G2,Mg];rfl
 induction t with
 |cat l r d _=>
  show((if k=22 then _ else _:List Tr).map (ml x)).sum=_
  split
  ·rw [b,d];rfl
  ·exact LQ _
 |alt l r d _=>
  show((if k=23 then _ else _:List Tr).map (ml x)).sum=_
  split
  ·rw [b,d];rfl
  ·exact LQ _
 |_=>exact LQ _
def eY (x:Bool) (b:NF->BR) (c:Nat):Prop:=∀N,(tg (b N).N (de x)).length<=(tg N (de x)).length+c
section
variable {x:Bool}
theorem Dm {b:Tr->NF->BR} {c:Tr->Nat} {ps:List Tr}:∀(r:BR),(∀t∈ps,eY x (b t) (c t))->(tg (rowB b ps r).N (de x)).length<=(tg r.N (de x)).length+(ps.map c).sum:=by
 induction ps with
 |nil=>
  intro r _;exact GP _
 |cons t ps d=>
  intro r h
  have d:=d ⟨(b t r.N).N.hop r.l (b t r.N).f,r.f,(b t r.N).l⟩ fun y e=>h y (.tail _ e)
  have f:=h t (.head _) r.N
  rw [Hs,Ia]
  have d:(tg (rowB b (t::ps) r).N (de x)).length<=(tg (b t r.N).N (de x)).length+(ps.map c).sum:=d
  exact(l5 0x1b72101b74311b772430) d f
theorem Dv {b:Tr->NF->BR} {c:Tr->Nat} {first:Nat} {ps:List Tr}:∀(N:NF) (d:List Nat),(∀t∈ps,eY x (b t) (c t))->(tg (brsB b first ps N d).1 (de x)).length<=(tg N (de x)).length+(ps.map c).sum:=by
 induction ps with
 |nil=>
  intro N d _;exact GP _
 |cons t ps e=>
  intro N d h
  have e:=e ((b t N).N.hop first (b t N).f) (d++[(b t N).l]) fun y f=>h y (.tail _ f)
  have g:=h t (.head _) N
  rw [Hs,Ia]
  have e:(tg (brsB b first (t::ps) N d).1 (de x)).length<=(tg (b t N).N (de x)).length+(ps.map c).sum:=e
  exact(l5 0x1b72101b74311b772430) e g
theorem sG (k:Int) (b:Nat) (c:List Nat):∀(N:NF),tg (hopsTo b c N) k=tg N k:=by
 induction c with
 |nil=>
  intro _;exact rfl
 |cons t c d=>
  intro N;exact d (N.hop t b)
theorem uw {b:Tr->NF->BR} {c:Tr->Nat} {ps:List Tr} (h:∀t∈ps,eY x (b t) (c t)):eY x (ck b ps) (ps.map c).sum:=fun N=>by
 show(tg (hopsTo _ _ _) _).length<=_
 rw [sG,fC]
 have:=Dv (first:=N.n) N.add [] h
 rw [fC] at this;exact this
theorem uU (k:Int) (c b:Bool) (first:Nat) (r:BR):tg (o5 c b first r) k=tg r.N k:=by
 cases c<;>cases b<;>exact fC _ _
theorem lU {b:NF->BR} {c:Nat} (h:eY x b c) (e d:Bool):eY x (cg b e d) c:=fun N=>by
 rw [uU]
 have:=h N.add
 rw [fC] at this;exact this
theorem CC {b:NF->BR} {c:Nat} (h:eY x b c) (k:Nat):∀(r:NF×Nat),(tg (lowB b k r).1 (de x)).length<=(tg r.1 (de x)).length+k * c:=by
 induction k with
 |zero=>
  intro r;rw [Ju];exact GP _
 |succ k e=>
  intro r
  have d:=e ((b r.1).N.hop r.2 (b r.1).f,(b r.1).l)
  have d:(tg (lowB b (k+1) r).1 (de x)).length<=(tg (b r.1).N (de x)).length+k * c:=d
  have:=h r.1
  rw [H3];exact(l5 0x1b72101b74311b774230) d this
theorem Dz {b:NF->BR} {c e:Nat} (h:eY x b c) (k:Nat):∀(r:NF×Nat),(tg (optB b e k r).1 (de x)).length<=(tg r.1 (de x)).length+k * c:=by
 induction k with
 |zero=>
  intro r;rw [Ju];exact GP _
 |succ k f=>
  intro r
  have d:=f (((b r.1).N.hop r.2 (b r.1).f).hop (b r.1).l e,(b r.1).l)
  have d:(tg (optB b e (k+1) r).1 (de x)).length<=(tg (b r.1).N (de x)).length+k * c:=d
  have:=h r.1
  rw [H3];exact(l5 0x1b72101b74311b774230) d this
theorem zO {b:NF->BR} {c lo:Nat} {hi:Option Nat} (h:eY x b c) (g:∀k,hi=Gu k->lo<=k):eY x (kM b lo hi) (iP c lo hi):=fun N=>by
 have f:=CC h lo (N.add,N.n)
 have f:_<=(tg N.add (de x)).length+lo * c:=f
 rw [fC] at f
 cases hi with
 |none=>
  have d:=lU h Gx Gx (lowB b lo (N.add,N.n)).1
  show(tg (cg b Gx Gx (lowB b lo (N.add,N.n)).1).N (de x)).length<=_+(lo+1) * c
  rw [H3];exact(l5 0x1b72101b74311b772430) d f
 |some k=>
  have i:=g k rfl
  have d:=Dz (e:=(lowB b lo (N.add,N.n)).1.n) h (k - lo) ((lowB b lo (N.add,N.n)).1.add.hop (lowB b lo (N.add,N.n)).2 (lowB b lo (N.add,N.n)).1.n,(lowB b lo (N.add,N.n)).2)
  have d:_<=(tg (lowB b lo (N.add,N.n)).1.add (de x)).length+_:=d
  rw [fC] at d
  have e:k * c=lo * c+(k - lo) * c:=by rw [<-Mh,Jx i]
  show(tg (optB b _ (k - lo) _).1 (de x)).length<=_+k * c
  rw [e];exact(l5 0x1b72101b74311b772430) d f
theorem Ac (n:Nat):∀ {t:Tr},Fam n t->eY x (bld n t) (ml x t):=by
 have leaf:∀ {n:Nat} {t:Tr},t.leaf->eY x (bld n t) (ml x t):=fun{n t} f N=>by
  have m:tg N.add.add (de x)=tg N (de x):=(fC _ _).trans (fC _ _)
  cases t with
  |a=>rw [show bld n .a N=b8 (fun N s=>N.move s 2 (s+1)) N by cases n<;>rfl, <-m];exact GC (rU _ _ _ _ _) (NV (by cases x<;>decide) _)
  |b=>rw [show bld n .b N=b8 (fun N s=>N.move s 4 (s+1)) N by cases n<;>rfl, <-m];exact GC (rU _ _ _ _ _) (NV (by cases x<;>decide) _)
  |empty=>rw [show bld n .empty N=b8 (fun N s=>N.hop s (s+1)) N by cases n<;>rfl, <-m];exact GP _
  |never=>rw [show bld n .never N=b8 (fun N Z=>N) N by cases n<;>rfl, <-m];exact GP _
  |_=>exact f.elim
 induction n with
 |zero=>
  intro t h
  cases h with
  |leaf f=>exact leaf f
 |succ n g=>
  intro t h
  cases h with
  |leaf f=>exact leaf f
  |@cat _ l r f o=>
   obtain⟨i,A⟩:=cz (.inl rfl) (.cat f o) rfl
   have B:spine 22 (.cat l r)=spine 22 l++[r]:=rfl
   intro N
   have v:=nB x 22 (.cat l r)
   cases j:spine 22 (.cat l r) with
   |nil=>rw [B] at j;cases C:spine 22 l<;>rw [C] at j<;>cases j
   |cons y ps=>
    rw [j] at i v
    have q:=g (i y (.head _)) N
    have z:=Dm (x:=x) (b:=bld n) (c:=ml x) (ps:=ps) (bld n y N) fun t d=>g (i t (.tail _ d))
    have e:bld (n+1) (.cat l r) N=rowB (bld n) ps (bld n y N):=by
     show(match spine 22 (.cat l r) with
      |p::ps=>rowB (bld n) ps (bld n p N)
      |[]=>⟨N,0,0⟩)=_
     rw [j]
    rw [e, <-v,Hs,Ia];exact(l5 0x1b72101b74311b772430) z q
  |@alt _ l r f o=>
   obtain⟨i,A⟩:=cz (.inr rfl) (.alt f o) rfl
   have:=uw (x:=x) (b:=bld n) (c:=ml x) (ps:=spine 23 (.alt l r)) fun t d=>g (i t d)
   rw [nB] at this;exact this
  |star d=>exact lU (g d) Gx Gx
  |plus d=>exact lU (g d) Gz Gx
  |opt d=>exact lU (g d) Gx Gz
  |repN u d=>exact zO (g d) (fun Z h=>nomatch h)
  |repS u q z d=>exact zO (g d) (fun k h=>by cases h;exact q)
end
noncomputable def allOr:List Nat->List Nat
 |[]=>[0]
 |x::xs=>allOr xs++(allOr xs).map (x||| ·)
theorem allOr_len:∀xs:List Nat,(allOr xs).length=2^xs.length
 |[]=>rfl
 |x::xs=>by
  show(allOr xs++(allOr xs).map (x||| ·)).length=2^(xs.length+1)
  rw [GG,GJ,allOr_len xs,Pt];lia
theorem Eu (P:Nat->Prop) (xs:List Nat):∃y∈allOr xs,∀i,y.testBit i=Gx↔∃x∈xs,P x/\x.testBit i=Gx:=by
 induction xs with
 |nil=>exact⟨0,.head _,fun i=>by rw [Ht];exact⟨fun h=>(nomatch h),fun h=>by obtain⟨_,h,_⟩:=h;cases h⟩⟩
 |cons x xs g=>
  obtain⟨y,e,f⟩:=g
  by_cases p:P x
  ·refine⟨x||| y,Ld _ (Hm.mpr ⟨y,e,rfl⟩),fun i=>?_⟩
   rw [Jl,Il,f i];refine⟨fun h=>h.elim (fun h=>⟨x,.head _,p,h⟩) fun h=>?_,fun h=>?_⟩
   ·obtain⟨z,b,c⟩:=h;exact⟨z,.tail _ b,c⟩
   ·obtain⟨z,b,c,d⟩:=h;rcases GK.mp b with rfl|b
    ·exact .inl d
    ·exact .inr ⟨z,b,c,d⟩
  ·refine⟨y,Li _ e,fun i=>?_⟩;rw [f i];refine⟨fun h=>?_,fun h=>?_⟩
   ·obtain⟨z,b,c⟩:=h;exact⟨z,.tail _ b,c⟩
   ·obtain⟨z,b,c,d⟩:=h;rcases GK.mp b with rfl|b
    ·exact absurd c p
    ·exact⟨z,b,c,d⟩
section
variable {N:NF} {l f:Nat}
theorem AU (n:N.Ok) {x:Bool} {c:Nat} (m:cZ 2 c= !x/\cZ 4 c=x) {xs:List Nat} {p:Nat×Nat} (h:p∈bJ N l xs) (b:cZ p.1 c=Gx):p.2∈(tg N (de x)).map (clo N l):=by
 revert x c xs p;delta N l;revert xs p;delta x c;delta xs p;obtain⟨s,_,j⟩:=Iw.mp h;delta s;unfold fA w4 at j;rw [HJ] at j;obtain⟨q,d,rfl⟩:=Hm.mp j;delta q;rw [Hl] at d
 cases e:N.mv[s]? with
 |none=>rw [e] at d;cases d
 |some k=>
  delta k;rw [e] at d
  have i:=GN e
  refine Hm.mpr ⟨q.2.toNat,Iw.mpr ⟨k,i,Hm.mpr ⟨q,H5.mpr ⟨d,?_⟩,rfl⟩⟩,rfl⟩;rcases n.mv k i with rfl|⟨r,g,rfl,o,_⟩
  ·cases d
  ·rw [GI.mp d] at b ⊢;rcases o with rfl|rfl
   ·have b:cZ 2 c=Gx:=b
    rw [m.1] at b
    cases x with
    |false=>rfl
    |true=>cases b
   ·have b:cZ 4 c=Gx:=b
    rw [m.2] at b;subst b;rfl
theorem qP (g:N.Ok) {x:Bool} {c M:Nat} (j:cZ 2 c= !x/\cZ 4 c=x):bZ N l M c∈allOr ((tg N (de x)).map (clo N l)):=by
 revert x c M;delta N l;delta x c M;obtain⟨y,k,m⟩:=Eu (fun w=>∃p∈bJ N l (a8 M),cZ p.1 c=Gx/\p.2=w) ((tg N (de x)).map (clo N l))
 have:bZ N l M c=y:=eI fun i=>by
  rw [fL,m i];constructor
  ·rintro⟨p,b,d,e⟩
   exact⟨p.2,AU g j b d,⟨p,b,d,rfl⟩,e⟩
  ·rintro⟨w,_,⟨p,b,d,rfl⟩,e⟩
   exact⟨p,b,d,e⟩
 rw [this];exact k
theorem uR (g:N.Ok) {c M:Nat} (d:cZ 2 c=Gz/\cZ 4 c=Gz):bZ N l M c=0:=eI fun i=>by
 rw [fL,Ht];refine⟨fun j=>?_,fun h=>nomatch h⟩;obtain⟨p,k,b,n⟩:=j;obtain⟨s,_,m⟩:=Iw.mp k;rcases rb g m with e|e<;>rw [e] at b
 ·rw [d.1] at b;cases b
 ·rw [d.2] at b;cases b
theorem yM (d:N.Ok) {A B:Nat} (g:(tg N 2).length<=A) (i:(tg N 4).length<=B) (h:1+2^A+2^B<=10000):∃K,K<=10000/\Fin (bZ N l) (clo N l f) K:=by
 obtain⟨K,j,e⟩:=t6 (nx:=bZ N l) (s0:=clo N l f) (L:=clo N l f::(allOr ((tg N 2).map (clo N l))++allOr ((tg N 4).map (clo N l)))) (.head _) fun M n c b=>by
  rcases GK.mp b with rfl|b
  ·exact .inl (uR d ⟨rfl,rfl⟩)
  ·rcases GK.mp b with rfl|b
   ·exact .inr (.tail _ (Li _ (qP (x:=Gz) d ⟨rfl,rfl⟩)))
   ·rw [GI.mp b];exact .inr (.tail _ (Ld _ (qP (x:=Gx) d ⟨rfl,rfl⟩)))
 refine⟨K,GC j ?_,e⟩;rw [HF,GG,allOr_len,allOr_len,GJ,GJ]
 have k:2^(tg N 2).length<=2^A:=Hh (by decide) g
 have m:2^(tg N 4).length<=2^B:=Hh (by decide) i
 exact(l4 0x1b091979287170181b021b131b09197928718732) h k m
end
structure ou (n B C:Nat) (t:Tr):Prop where
 s:∀m,n<=m->1<=(cnt m t).1/\(cnt m t).1<=B
 c:∀m,n<=m->1<=(cnt m t).2/\(cnt m t).2<=C
 ss:∀k m,n<=m->((spine k t).map fun p=>(cnt m p).1).sum<=B
 cs:∀k m,n<=m->((spine k t).map fun p=>(cnt m p).2).sum<=C
theorem kS {n B C:Nat} {t:Tr} (h:∀k,spine k t=[t]) (s:∀m,n<=m->1<=(cnt m t).1/\(cnt m t).1<=B) (c:∀m,n<=m->1<=(cnt m t).2/\(cnt m t).2<=C):ou n B C t:=
 ⟨s,c,fun k m b=>by rw [h k];exact(s m b).2,fun k m b=>by rw [h k];exact(c m b).2⟩
theorem ly {n:Nat} {t:Tr} (h:t.leaf):ou n 2 1 t:=by
 have e:∀m,cnt m t=(2,1):=fun m=>by cases t<;>first|exact h.elim|(cases m<;>rfl)
 refine kS (fun k=>by cases t<;>first|exact h.elim|rfl) (fun m Z=>by rw [e];decide) fun m Z=>by rw [e];decide
theorem nV (g:Tr->Nat) (xs:List Tr) (r:Tr):((xs++[r]).map g).sum=(xs.map g).sum+g r:=by
 rw [G2,Mg];rfl
noncomputable def Bd:Nat->Nat×Nat
 |0=>(2,1)
 |n+1=>(3+3 * (Bd n).1,1+3 * (Bd n).2)
theorem vR:∀n,2<=(Bd n).1/\1<=(Bd n).2
 |0=>by decide
 |n+1=>by show 2<=3+_/\1<=1+_;exact⟨(l1 460339240),(l1 460331032)⟩
theorem ud:∀(n:Nat) {t:Tr},Fam n t->ou n (Bd n).1 (Bd n).2 t:=fun n=>by
 have G:∀ {n:Nat} {t:Tr},t.leaf->ou n (Bd n).1 (Bd n).2 t:=fun{n t} h=>by
  obtain⟨s,c,T,U⟩:=ly (n:=n) h
  have A:=vR n
  exact⟨fun m b=>⟨(s m b).1,GC (s m b).2 A.1⟩,fun m b=>⟨(c m b).1,GC (c m b).2 A.2⟩,fun k m b=>GC (T k m b) A.1,fun k m b=>GC (U k m b) A.2⟩
 induction n with
 |zero=>
  intro t h
  cases h with
  |leaf g=>exact G g
 |succ n o=>
  have B:(Bd (n+1)).1=3+3 * (Bd n).1:=rfl
  have C:(Bd (n+1)).2=1+3 * (Bd n).2:=rfl
  have H:=vR n
  have u:∀ {t l r:Tr} {k0 d:Nat},ou n (Bd n).1 (Bd n).2 l->r.leaf->d<=2->spine k0 t=spine k0 l++[r]->(∀k,k≠k0->spine k t=[t])->(∀m,cnt (m+1) t=(((spine k0 t).map fun p=>(cnt m p).1).sum+d,((spine k0 t).map fun p=>(cnt m p).2).sum+1))->ou (n+1) (Bd (n+1)).1 (Bd (n+1)).2 t:=fun{t l r k0 d} L v V I f y=>by
   obtain⟨W,X,_,_⟩:=ly (n:=n) v
   have J:∀m,n<=m->((spine k0 t).map fun p=>(cnt m p).1).sum<=(Bd n).1+2/\1<=((spine k0 t).map fun p=>(cnt m p).1).sum:=fun m b=>by
    rw [I,nV]
    have Y:=L.ss k0 m b;have K:=W m b;exact⟨(l3 0x1b2811b201b7282710) K.2 Y,(l2 29762004652056) K.1⟩
   have M:∀m,n<=m->((spine k0 t).map fun p=>(cnt m p).2).sum<=(Bd n).2+1/\1<=((spine k0 t).map fun p=>(cnt m p).2).sum:=fun m b=>by
    rw [I,nV]
    have Z:=L.cs k0 m b;have N:=X m b;exact⟨(l3 0x1b1811b201b7182710) N.2 Z,(l2 29762004652056) N.1⟩
   have O:∀m,n+1<=m->1<=(cnt m t).1/\(cnt m t).1<=(Bd (n+1)).1:=fun m b=>by
    cases m with
    |zero=>lia
    |succ m=>
     rw [y m]
     have P:=J m ((l2 7724625140128528) b)
     show 1<=_+d/\_+d<=_
     exact⟨(l2 29693285175320) P.2,(l4 0x1b3289d7a3383821b2811b728301b2710) H.1 B V P.1⟩
   have Q:∀m,n+1<=m->1<=(cnt m t).2/\(cnt m t).2<=(Bd (n+1)).2:=fun m b=>by
    cases m with
    |zero=>lia
    |succ m=>
     rw [y m]
     have u7:=M m ((l2 7724625140128528) b)
     show 1<=_+1/\_+1<=_
     exact⟨(l1 460423192),(l3 0x1b2189d7a2381811b718201b17180) H.2 C u7.1⟩
   refine⟨O,Q,fun k m b=>?_,fun k m b=>?_⟩
   ·by_cases q:k=k0
    ·subst q;have u8:=J m ((l2 1861625060112) b);exact(l3 0x9d7a2383811b728201b10) B u8.1
    ·rw [f k q];exact(O m b).2
   ·by_cases q:k=k0
    ·subst q;have u9:=M m ((l2 1861625060112) b);exact(l3 0x9d7a2381811b718201b10) C u9.1
    ·rw [f k q];exact(Q m b).2
  have e:∀ {t l:Tr} {i j a:Nat},ou n (Bd n).1 (Bd n).2 l->1<=i->i<=3->j<=1->1<=j->a<=3->(∀k,spine k t=[t])->(∀m,(cnt (m+1) t).1=i+a * (cnt m l).1/\(cnt (m+1) t).2=j+a * (cnt m l).2)->ou (n+1) (Bd (n+1)).1 (Bd (n+1)).2 t:=fun{t l i j a} L R D h3 h4 S f y=>by
   refine kS f (fun m b=>?_) fun m b=>?_
   ·cases m with
    |zero=>lia
    |succ m=>
     rw [(y m).1,B]
     have E:=Kv S (L.s m ((l2 7724625140128528) b)).2
     exact⟨(l2 29693285175320) R,(l3 0x1b3801b211b7238710) D E⟩
   ·cases m with
    |zero=>lia
    |succ m=>
     rw [(y m).2,C]
     have F:=Kv S (L.c m ((l2 7724625140128528) b)).2
     exact⟨(l2 29693285175320) h4,(l3 0x1b1801b211b7218710) h3 F⟩
  intro t h
  cases h with
  |leaf g=>exact G g
  |cat g v=>exact u (k0:=22) (d:=0) (o g) v (by decide) rfl (fun k f=>if_neg f) fun m=>rfl
  |alt g v=>exact u (k0:=23) (d:=2) (o g) v (by decide) rfl (fun k f=>if_neg f) fun m=>rfl
  |star h=>exact e (i:=2) (j:=1) (a:=1) (o h) (by decide) (by decide) (by decide) (by decide) (by decide) (fun k=>rfl) fun m=>by rw [KL,KL,Ig 2,Ig 1];exact⟨rfl,rfl⟩
  |plus h=>exact e (i:=2) (j:=1) (a:=1) (o h) (by decide) (by decide) (by decide) (by decide) (by decide) (fun k=>rfl) fun m=>by rw [KL,KL,Ig 2,Ig 1];exact⟨rfl,rfl⟩
  |opt h=>exact e (i:=2) (j:=1) (a:=1) (o h) (by decide) (by decide) (by decide) (by decide) (by decide) (fun k=>rfl) fun m=>by rw [KL,KL,Ig 2,Ig 1];exact⟨rfl,rfl⟩
  |repN z h=>exact e (i:=3) (j:=1) (o h) (by decide) (by decide) (by decide) (by decide) (Hq z) (fun k=>rfl) fun m=>⟨rfl,rfl⟩
  |repS z R D h=>exact e (i:=2) (j:=1) (o h) (by decide) (by decide) (by decide) (by decide) D (fun k=>rfl) fun m=>⟨rfl,rfl⟩
noncomputable def lf (x:Bool):Tr:=bif x then .b else .a
noncomputable def Rk:Nat->List (Nat×Option Nat)
 |3=>[(2,Gw),(0,Gu 3),(1,Gu 3),(2,Gu 3)]
 |2=>[(1,Gw),(0,Gu 2),(1,Gu 2),(2,Gu 2)]
 |_=>[]
inductive iE (k:Nat) (t u:Tr):Prop where
 |mk (lo:Nat) (hi:Option Nat) (h:(lo,hi)∈Rk k) (e:t=.rep u lo hi)
inductive Bm (x:Bool) (t:Tr):Prop where
 |two (w v:Tr) (h1:iE 3 t w) (h2:iE 3 w v) (h:v=.cat (lf x) (lf x)\/v=.alt (lf x) (lf x))
 |three (w v:Tr) (i j k:Nat) (h1:iE i t w) (h2:iE j w v) (h3:iE k v (lf x)) (h:(i,j,k)∈[(3,3,3),(3,3,2),(3,2,3),(2,3,3)])
inductive Er (x:Bool) (n:Nat) (t:Tr):Prop where
 |leaf (h:t.leaf)
 |two (l r:Tr) (hl:Fam n l) (hr:r.leaf) (e:t=.cat l r\/t=.alt l r) (m:ml x t=ml x l+ml x r)
 |one (u:Tr) (h:Fam n u) (m:ml x t=ml x u)
 |rep (u:Tr) (k:Nat) (h:Fam n u) (m:ml x t=k * ml x u) (hk:k<=3) (hr:2<=k->iE k t u)
theorem A9 (x:Bool) {n:Nat} {t:Tr} (h:Fam (n+1) t):Er x n t:=by
 cases h with
 |leaf h=>exact .leaf h
 |cat f g=>exact .two _ _ f g (.inl rfl) rfl
 |alt f g=>exact .two _ _ f g (.inr rfl) rfl
 |star h=>exact .one _ h rfl
 |plus h=>exact .one _ h rfl
 |opt h=>exact .one _ h rfl
 |@repN _ u c d h=>
  refine .rep u (c+1) h rfl (Hq d) fun q=>⟨c,Gw,?_,rfl⟩
  have:c=1\/c=2:=by lia
  rcases this with rfl|rfl<;>exact .head _
 |@repS _ u c e d j i h=>
  refine .rep u e h rfl i fun q=>⟨c,Gu e,?_,rfl⟩
  have a:e=2\/e=3:=by lia
  have b:c=0\/c=1\/c=2:=by lia
  rcases a with rfl|rfl<;>rcases b with rfl|rfl|rfl<;>simp [Rk]
theorem eU {x:Bool} {t:Tr} (h:t.leaf):ml x t<=1/\(1<=ml x t->t=lf x):=by
 cases t<;>first|exact h.elim|(cases x<;>first|exact⟨G7 _,fun q=>absurd q (by decide)⟩ |exact⟨GP _,fun Z=>rfl⟩)
theorem BO {k m c:Nat} (b:k<=3) (d:m<=c):k * m<=3 * c:=Kv b d
theorem Fj {x:Bool} {t:Tr} (h:Fam 0 t):ml x t<=1/\(1<=ml x t->t=lf x):=by
 cases h with
 |leaf h=>exact eU h
theorem D2 {x:Bool} {t:Tr} (h:Fam 1 t):ml x t<=3/\(2<=ml x t->((t=.cat (lf x) (lf x)\/t=.alt (lf x) (lf x))/\ml x t=2)\/∃k,iE k t (lf x)/\ml x t=k):=by
 delta x t
 cases A9 x h with
 |leaf h=>
  have i:=(eU (x:=x) h).1
  exact⟨(l1 116366881664) i,fun q=>by lia⟩
 |two l r j b e m=>
  delta l r;obtain⟨c,d⟩:=Fj (x:=x) j;obtain⟨f,n⟩:=eU (x:=x) b;refine⟨(l3 0x1d72101b1811b1821b380) m c f,fun q=>.inl ⟨?_,IH ((l3 0x1d71201b1821b1811b280) m c f) ((l1 116006170664) q)⟩⟩
  have o:=d ((l3 0x1b0281d72101b1821b118) q m f)
  have p:=n ((l3 0x1b0281d72101b1811b218) q m c)
  rw [o,p] at e;exact e
 |one u h m=>
  have s:=(Fj (x:=x) h).1
  exact⟨(l2 8180482878583680) m s,fun q=>by lia⟩
 |rep u k h m g b=>
  injections u k;intro h m g b;obtain⟨c,d⟩:=Fj (x:=x) h
  have v:ml x u=0\/ml x u=1:=by lia
  rcases v with z|z
  ·rw [z] at m;exact⟨by lia,fun q=>by lia⟩
  ·rw [z,Nat.mul_one] at m;exact⟨(l2 8180483415454592) m g,fun q=>.inr ⟨k,d ((l1 674712629272) z)▸b ((l2 7602580951773480) q m),m⟩⟩
theorem Et {x:Bool} {t:Tr} (h:Fam 2 t):ml x t<=9/\(5<=ml x t->∃k u,iE k t u/\Fam 1 u/\ml x t=k * ml x u/\k<=3):=by
 cases A9 x h with
 |leaf h=>
  have f:=(eU (x:=x) h).1
  exact⟨(l1 116366883200) f,fun q=>by lia⟩
 |two l r g c e m=>
  have i:=(D2 (x:=x) g).1
  have j:=(eU (x:=x) c).1
  exact⟨((l3 0x1d71201b3821b1811b980) m i j),fun q=>by lia⟩
 |one u h m=>
  have n:=(D2 (x:=x) h).1
  exact⟨(l2 8180483415456128) m n,fun q=>by lia⟩
 |rep u k h m d c=>
  have a:=(D2 (x:=x) h).1
  have b:=BO d a
  refine⟨(l2 0x1d101ba383811b980) m b,fun q=>⟨k,u,c ?_,h,m,d⟩⟩
  have o:k≠0:=fun z=>by rw [z] at m;exact(l2 475367477413894) q m
  have p:k≠1:=fun z=>by rw [z] at m;exact(l2 0x1b0581da11801b3816) q m a
  lia
theorem F2 {x:Bool} {t:Tr} (h:Fam 3 t) (g:13<=ml x t):Bm x t:=by
 delta x t
 cases A9 x h with
 |leaf h=>
  have P:=(eU (x:=x) h).1
  lia
 |two l r B b e m=>
  have Q:=(Et (x:=x) B).1
  have R:=(eU (x:=x) b).1
  lia
 |one u h m=>
  have S:=(Et (x:=x) h).1
  lia
 |rep u k h m y b=>
  injections u k;intro h m y b;obtain⟨C,D⟩:=Et (x:=x) h
  have E:2<=k:=HO fun z=>by
   have F:=Kv (show k<=1 by exact(l1 120930283904) z) C
   exact(l2 0x1b1d81d011ba981806) g m F
  have d:5<=ml x u:=HO fun z=>by
   have G:=BO y (show ml x u<=4 by exact(l1 121735591040) z)
   exact(l2 0x1b1d81d011ba483806) g m G
  obtain⟨j,v,A,H,c,I⟩:=D d;delta j v;obtain⟨J,K⟩:=D2 (x:=x) H
  have L:2<=ml x v:=HO fun z=>by
   have M:=BO I (show ml x v<=1 by exact(l1 120930283904) z)
   exact(l2 0x1b1581d011ba183806) d c M
  have T:2<=j:=HO fun z=>by
   have N:=Kv (show j<=1 by exact(l1 120930283904) z) J
   exact(l2 0x1b1581d011ba381806) d c N
  rcases K L with ⟨e,f⟩ |⟨i,O,f⟩
  ·rw [f] at c
   have n:j=3:=by lia
   subst n;rw [c] at m
   have o:k=3:=by lia
   subst o;exact .two u v (b (by decide)) A e
  ·delta i;rw [c,f] at m;delta i
   have p:i=2\/i=3:=by lia
   have q:j=2\/j=3:=by lia
   have s:k=2\/k=3:=by lia
   refine .three u v k j i (b E) A O ?_;rcases p with rfl|rfl<;>rcases q with rfl|rfl<;>rcases s with rfl|rfl<;>first|(exfalso;lia) |simp
theorem tQ (d:∀t x,Bm x t->Fam 3 t->(dc t).N.Ok->∃K,K<=10000/\Fin (bZ (dc t).N (dc t).l) (clo (dc t).N (dc t).l (dc t).f) K) {t:Tr} (h:Fam 3 t):mJ t:=by
 have C:=ud 3 h
 refine⟨(C.s 3 (GP _)).1,GC (C.s 3 (GP _)).2 (by decide),(C.c 3 (GP _)).1,GC (C.c 3 (GP _)).2 (by decide),fun c Z Z=>?_⟩
 by_cases a:13<=ml Gz t
 ·exact d t Gz (F2 h a) h c
 ·by_cases b:13<=ml Gx t
  ·exact d t Gx (F2 h b) h c
  ·have e:=Ac (x:=Gz) 3 h ⟨[],[]⟩
   have f:=Ac (x:=Gx) 3 h ⟨[],[]⟩
   exact yM c (A:=12) (B:=12) (GC e (by show 0+ml Gz t<=12;exact(l1 528693760389128) a)) (GC f (by show 0+ml Gx t<=12;exact(l1 528693760389128) b)) (by decide)
structure FN where
 n:Nat
 mv:List (Nat×Nat)
 hp:List (Nat×Nat)
structure iV where
 N:FN
 f:Nat
 l:Nat
noncomputable def FN.add (F:FN):FN:=⟨F.n+1,F.mv,F.hp⟩
noncomputable def FN.move (F:FN) (s g:Nat):FN:=⟨F.n,(s,g)::F.mv,F.hp⟩
noncomputable def FN.hop (F:FN) (s g:Nat):FN:=⟨F.n,F.mv,(s,g)::F.hp⟩
noncomputable def bF (F:FN):iV:=⟨F.add.add.move F.n (F.n+1),F.n,F.n+1⟩
noncomputable def uV (F:FN):iV:=⟨(bF (bF F).N).N.hop (bF F).l (bF (bF F).N).f,(bF F).f,(bF (bF F).N).l⟩
noncomputable def wg (F:FN) (c:iV) (b:iV):iV:=⟨(((b.N.hop F.n b.f).add).hop c.l b.N.n).hop b.l b.N.n,F.n,b.N.n⟩
noncomputable def yg (F:FN):iV:=wg F (bF F.add) (bF ((bF F.add).N.hop F.n (bF F.add).f))
noncomputable def ol (first:Nat) (r:iV):iV:=⟨((((r.N.add).hop first r.f).hop r.l r.N.n).hop r.l r.f).hop first r.N.n,first,r.N.n⟩
noncomputable def fLow (b:FN->iV):Nat->FN×Nat->FN×Nat
 |0,r=>r
 |k+1,r=>fLow b k ((b r.1).N.hop r.2 (b r.1).f,(b r.1).l)
noncomputable def fOpt (b:FN->iV) (e:Nat):Nat->FN×Nat->FN×Nat
 |0,r=>r
 |k+1,r=>fOpt b e k (((b r.1).N.hop r.2 (b r.1).f).hop (b r.1).l e,(b r.1).l)
noncomputable def vQ (first b:Nat) (r:iV):iV:=⟨r.N.hop b r.f,first,r.l⟩
noncomputable def eS (b:FN->iV) (lo:Nat):Option Nat->FN->iV
 |none,F=>vQ F.n (fLow b lo (F.add,F.n)).2 (ol (fLow b lo (F.add,F.n)).1.n (b (fLow b lo (F.add,F.n)).1.add))
 |some hi,F=>⟨(fOpt b (fLow b lo (F.add,F.n)).1.n (hi - lo) ((fLow b lo (F.add,F.n)).1.add.hop (fLow b lo (F.add,F.n)).2 (fLow b lo (F.add,F.n)).1.n,(fLow b lo (F.add,F.n)).2)).1,F.n,(fLow b lo (F.add,F.n)).1.n⟩
structure gZ (x:Bool) (N:NF) (F:FN):Prop where
 n:N.n=F.n
 len:N.hp.length=N.n
 hp:∀s t,(∃l,N.hp[s]? =Gu l/\t∈l)↔(s,t)∈F.hp
 mv:∀s p,(∃l,N.mv[s]? =Gu l/\p∈l)↔∃g,p=(de x,((g:Nat):Int))/\(s,g)∈F.mv
theorem ph {d:Type} {l:List (List d)} {s:Nat} {p:d}:(∃k,(l++[[]])[s]? =Gu k/\p∈k)↔∃k,l[s]? =Gu k/\p∈k:=by
 constructor
 ·rintro⟨k,b,c⟩
  rcases LM s l.length with q|q
  ·rw [IE q] at b;exact⟨k,b,c⟩
  ·rw [Iz q] at b
   cases z:s - l.length with
   |zero=>rw [z] at b;cases b;cases c
   |succ j=>rw [z] at b;cases b
 ·rintro⟨k,b,c⟩
  have q:=(HS.mp b).1
  exact⟨k,by rw [IE q];exact b,c⟩
theorem qY {c:Type} {l:List (List c)} {s:Nat} {p q:c} {f:List c->List c} (j:s<l.length) (d:∀k,p∈f k↔p∈k\/p=q) (b:Nat):(∃k,(l.modify s f)[b]? =Gu k/\p∈k)↔(∃k,l[b]? =Gu k/\p∈k)\/(b=s/\p=q):=by
 have m:(l.modify s f)[b]? =if s=b then(l[b]?).map f else l[b]? :=by
  rw [Jj]
  by_cases e:s=b
  ·rw [if_pos e];simp only [if_pos e];rfl
  ·rw [if_neg e];simp only [if_neg e];exact Option.map_id' ..
 rw [m]
 by_cases e:s=b
 ·subst e;obtain⟨k,n⟩:∃k,l[s]? =Gu k:=⟨_,Hb j⟩;rw [if_pos rfl,n];constructor
  ·rintro⟨_,g,i⟩
   cases g;exact((d k).mp i).imp (fun h=>⟨k,rfl,h⟩) fun h=>⟨rfl,h⟩
  ·rintro(⟨_,g,i⟩ |⟨_,h⟩)
   ·cases g;exact⟨_,rfl,(d k).mpr (.inl i)⟩
   ·exact⟨_,rfl,(d k).mpr (.inr h)⟩
 ·rw [if_neg e];exact⟨.inl,fun h=>h.elim id fun h=>absurd h.1.symm e⟩
section
variable {x:Bool} {N:NF} {F:FN}
theorem gZ.add (h:gZ x N F):gZ x N.add F.add:=by
 refine⟨?_,?_,fun s t=>ph.trans (h.hp s t),fun s p=>ph.trans (h.mv s p)⟩
 ·rw [NF.add_n,h.n];rfl
 ·rw [NF.add_n, <-h.len];rw [GG];rfl
theorem gZ.hop (h:gZ x N F) {s g:Nat} (c:s<N.n):gZ x (N.hop s g) (F.hop s g):=by
 refine⟨h.n,?_,fun b t=>?_,h.mv⟩
 ·show(N.hp.modify s _).length=_
  rw [NU];exact h.len
 ·refine(qY (f:=eh g) (q:=g) (by rw [h.len];exact c) (fun k=>lm) b).trans ?_
  rw [h.hp]
  show _↔(b,t)∈(s,g)::F.hp
  rw [GK,Mp];exact or_comm
theorem gZ.move (h:gZ x N F) {s g:Nat} (j:s<N.n):gZ x (N.move s (de x) g) (F.move s g):=by
 have e:(N.move s (de x) g).n=N.n:=NF.move_n _ _ _ _
 refine⟨e.trans h.n,h.len.trans e.symm,h.hp,fun i p=>?_⟩;refine(qY (f:=(· ++[(de x,(g:Int))])) (q:=(de x,(g:Int))) j (fun k=>by rw [GH,GI]) i).trans ?_
 rw [h.mv];constructor
 ·rintro(⟨b,c,d⟩ |⟨rfl,h⟩)
  ·exact⟨b,c,.tail _ d⟩
  ·exact⟨g,h,.head _⟩
 ·rintro⟨b,c,d⟩
  rcases GK.mp (show(i,b)∈(s,g)::F.mv from d) with q|q
  ·cases q;exact .inr ⟨rfl,c⟩
  ·exact .inl ⟨b,c,q⟩
def fe (x:Bool) (b:NF->BR) (c:FN->iV):Prop:=∀N F,gZ x N F->gZ x (b N).N (c F).N/\(b N).f=(c F).f/\(b N).l=(c F).l/\(b N).f<(b N).N.n/\(b N).l<(b N).N.n/\N.n<=(b N).N.n
theorem mV:fe x (b8 (fun N s=>N.move s (de x) (s+1))) bF:=fun N F h=>by
 have e:(N.add.add.move N.n (de x) (N.n+1)).n=N.n+2:=by rw [NF.move_n,NF.add_n,NF.add_n]
 have b:=h.add.add.move (s:=N.n) (g:=N.n+1) (by rw [NF.add_n,NF.add_n];exact(l1 122163763200))
 rw [h.n] at b;refine⟨?_,h.n,congrArg (· +1) h.n,?_,?_,?_⟩
 ·show gZ x (N.add.add.move N.n (de x) (N.n+1)) (F.add.add.move F.n (F.n+1))
  rw [h.n];exact b
 ·show N.n<NF.n _;rw [show(b8 (fun N s=>N.move s (de x) (s+1)) N).N.n=N.n+2 from e];exact(l1 29829120)
 ·show N.n+1<NF.n _;rw [show(b8 (fun N s=>N.move s (de x) (s+1)) N).N.n=N.n+2 from e];exact(l1 122180104576)
 ·rw [show(b8 (fun N s=>N.move s (de x) (s+1)) N).N.n=N.n+2 from e];exact(l1 28780544)
theorem wQ {b:NF->BR} {e:FN->iV} (j:fe x b e):fe x (cg b Gx Gx) (fun F=>ol F.n (e F.add)):=fun N F h=>by
 obtain⟨s,k,l,m,f,d⟩:=j _ _ h.add;rw [NF.add_n] at d
 have i:(b N.add).N.n=(e F.add).N.n:=s.n
 have c:=NF.add_n (b N.add).N
 have r:=(((s.add.hop (s:=N.n) (g:=(b N.add).f) ((l3 0x1b171809d718121c20) d c)).hop (s:=(b N.add).l) (g:=(b N.add).N.n) (by rw [NF.hop_n];exact(l3 0x1c109d718121c20) f c)).hop (s:=(b N.add).l) (g:=(b N.add).f) (by rw [NF.hop_n,NF.hop_n];exact(l3 0x1c109d718121c20) f c)).hop (s:=N.n) (g:=(b N.add).N.n) (by rw [NF.hop_n,NF.hop_n,NF.hop_n];exact(l3 0x1b171809d718121c20) d c)
 refine⟨?_,h.n,i,?_,?_,?_⟩
 ·show gZ x (o5 Gx Gx N.n (b N.add)) (ol F.n (e F.add)).N
  unfold ol;rw [<-k, <-l, <-i, <-h.n];exact r
 ·show N.n<(b N.add).N.add.n;exact(l3 0x1b171809d718121c20) d c
 ·show(b N.add).N.n<(b N.add).N.add.n;exact(l2 0x9d718101c01) c
 ·show N.n<=(b N.add).N.add.n;exact(l3 0x1b171809d718121b20) d c
theorem yC {b:NF->BR} {c:FN->iV} (j:fe x b c) (k:Nat):∀(r:NF×Nat) (q:FN×Nat),gZ x r.1 q.1->r.2=q.2->r.2<r.1.n->gZ x (lowB b k r).1 (fLow c k q).1/\(lowB b k r).2=(fLow c k q).2/\(lowB b k r).2<(lowB b k r).1.n/\r.1.n<=(lowB b k r).1.n:=by
 induction k with
 |zero=>
  intro r q h e l;exact⟨h,e,l,GP _⟩
 |succ k m=>
  intro r q h e l;obtain⟨s,d,n,p,o,f⟩:=j _ _ h
  have i:=s.hop (s:=r.2) (g:=(b r.1).f) ((l3 30855500209184) l f)
  rw [d,e] at i
  have:=m ((b r.1).N.hop r.2 (b r.1).f,(b r.1).l) ((c q.1).N.hop q.2 (c q.1).f,(c q.1).l) (by rw [d,e];exact i) n o
  exact⟨this.1,this.2.1,this.2.2.1,GC f this.2.2.2⟩
theorem yP {b:NF->BR} {c:FN->iV} (j:fe x b c) {e:Nat} (k:Nat):∀(r:NF×Nat) (q:FN×Nat),gZ x r.1 q.1->r.2=q.2->r.2<r.1.n->gZ x (optB b e k r).1 (fOpt c e k q).1/\r.1.n<=(optB b e k r).1.n:=by
 induction k with
 |zero=>exact fun r q h Z l=>⟨h,GP _⟩
 |succ k m=>
  intro r q h n l;obtain⟨s,o,d,t,f,i⟩:=j _ _ h
  have p:=(s.hop (s:=r.2) (g:=(b r.1).f) ((l3 30855500209184) l i)).hop (s:=(b r.1).l) (g:=e) (by rw [NF.hop_n];exact f)
  have:=m (((b r.1).N.hop r.2 (b r.1).f).hop (b r.1).l e,(b r.1).l) (((c q.1).N.hop q.2 (c q.1).f).hop (c q.1).l e,(c q.1).l) (by rw [<-o, <-d, <-n];exact p) d f
  exact⟨this.1,GC i this.2⟩
theorem gV {b:NF->BR} {c:FN->iV} (i:fe x b c) (lo:Nat) (hi:Option Nat):fe x (kM b lo hi) (eS c lo hi):=fun N F h=>by
 have p:=NF.add_n N
 obtain⟨s,e,l,n⟩:=yC i lo (N.add,N.n) (F.add,F.n) h.add h.n (by show N.n<N.add.n;exact(l2 0x9d718101c01) p)
 have n:N.add.n<=(lowB b lo (N.add,N.n)).1.n:=n
 cases hi with
 |none=>
  obtain⟨j,q,r,u,t,m⟩:=wQ i _ _ s
  have f:=j.hop (s:=(lowB b lo (N.add,N.n)).2) (g:=(cg b Gx Gx (lowB b lo (N.add,N.n)).1).f) ((l3 30855500209184) l m)
  refine⟨?_,h.n,r,?_,t,?_⟩
  ·show gZ x (repN b N.n (lowB b lo (N.add,N.n))).N (vQ F.n (fLow c lo (F.add,F.n)).2 (ol (fLow c lo (F.add,F.n)).1.n (c (fLow c lo (F.add,F.n)).1.add))).N
   unfold repN vQ;rw [<-e, <-q];exact f
  ·show N.n<(cg b Gx Gx (lowB b lo (N.add,N.n)).1).N.n;lia
  ·show N.n<=(cg b Gx Gx (lowB b lo (N.add,N.n)).1).N.n;lia
 |some k=>
  have o:=NF.add_n (lowB b lo (N.add,N.n)).1
  have j:=s.add.hop (s:=(lowB b lo (N.add,N.n)).2) (g:=(lowB b lo (N.add,N.n)).1.n) ((l3 0x1c109d718121c20) l o)
  obtain⟨f,d⟩:=yP i (e:=(lowB b lo (N.add,N.n)).1.n) (k - lo) ((lowB b lo (N.add,N.n)).1.add.hop (lowB b lo (N.add,N.n)).2 (lowB b lo (N.add,N.n)).1.n,(lowB b lo (N.add,N.n)).2) ((fLow c lo (F.add,F.n)).1.add.hop (fLow c lo (F.add,F.n)).2 (fLow c lo (F.add,F.n)).1.n,(fLow c lo (F.add,F.n)).2) (by rw [<-e, <-s.n];exact j) e (by show _<(lowB b lo (N.add,N.n)).1.add.n;lia)
  have d:(lowB b lo (N.add,N.n)).1.add.n<=_:=d
  refine⟨?_,h.n,s.n,?_,?_,?_⟩
  ·show gZ x (repS b (k - lo) N.n (lowB b lo (N.add,N.n))).N (iV.N ⟨(fOpt c (fLow c lo (F.add,F.n)).1.n (k - lo) ((fLow c lo (F.add,F.n)).1.add.hop (fLow c lo (F.add,F.n)).2 (fLow c lo (F.add,F.n)).1.n,(fLow c lo (F.add,F.n)).2)).1,F.n,(fLow c lo (F.add,F.n)).1.n⟩)
   rw [<-s.n] at f ⊢;exact f
  ·show N.n<NF.n _;exact GQ (by lia) d
  ·show(lowB b lo (N.add,N.n)).1.n<NF.n _;exact GQ ((l2 0x9d718101c01) o) d
  ·exact GC (by lia) d
theorem xo {b:Tr->NF->BR} {p:Tr} (n:fe x (b p) bF):fe x (fun N=>rowB b [p] (b p N)) uV:=fun N F h=>by
 obtain⟨o,d,e,f,i,j⟩:=n _ _ h;obtain⟨q,k,l,r,m,c⟩:=n _ _ o
 have t:=q.hop (s:=(b p N).l) (g:=(b p (b p N).N).f) ((l3 30855500209184) i c)
 refine⟨?_,d,l,?_,m,GC j c⟩
 ·show gZ x ((b p (b p N).N).N.hop (b p N).l (b p (b p N).N).f) (uV F).N
  unfold uV;rw [<-e, <-k];exact t
 ·show(b p N).f<(b p (b p N).N).N.n;exact(l3 30855500209184) f c
theorem xq {b:Tr->NF->BR} {p:Tr} (C:fe x (b p) bF):fe x (ck b [p,p]) yg:=fun N F h=>by
 have k:=NF.add_n N
 obtain⟨D,l,m,E,n,f⟩:=C _ _ h.add
 have G:=D.hop (s:=N.n) (g:=(b p N.add).f) ((l3 0x9d718101b201c21) k f)
 have o:gZ x ((b p N.add).N.hop N.n (b p N.add).f) ((bF F.add).N.hop F.n (bF F.add).f):=by rw [<-l, <-h.n];exact G
 obtain⟨q,r,t,H,u,d⟩:=C _ _ o;generalize v:b p N.add=j at *;generalize y:bF F.add=z at *;generalize A:b p (j.N.hop N.n j.f)=c at *;generalize B:bF (z.N.hop F.n z.f)=I at *
 have d:j.N.n<=c.N.n:=d
 have J:=q.hop (s:=N.n) (g:=c.f) ((l4 0x9d718101b201b321c31) k f d)
 have i:=NF.add_n (c.N.hop N.n c.f)
 rw [NF.hop_n] at i
 have K:=(J.add.hop (s:=j.l) (g:=c.N.n) ((l4 0x1c101b219d718231c30) n d i)).hop (s:=c.l) (g:=c.N.n) (by rw [NF.hop_n];exact(l3 0x1c109d718121c20) u i)
 have e:ck b [p,p] N=⟨(((c.N.hop N.n c.f).add.hop j.l c.N.n).hop c.l c.N.n),N.n,c.N.n⟩:=by
  subst A;subst v;rfl
 have L:yg F=wg F z I:=by subst B;subst y;rfl
 rw [e,L];unfold wg;refine⟨?_,h.n,q.n,?_,?_,?_⟩
 ·rw [<-m, <-t, <-r, <-q.n, <-h.n];exact K
 ·show N.n<(c.N.hop N.n c.f).add.n;exact(l5 0x9d718101b201b329d718341c41) k f d i
 ·show c.N.n<(c.N.hop N.n c.f).add.n;exact(l2 0x9d718101c01) i
 ·show N.n<=(c.N.hop N.n c.f).add.n;exact(l5 0x9d718101b201b329d718341b41) k f d i
end
noncomputable def rt (a:Nat) (xs:List Nat):Nat:=xs.foldl (fun H i=>Im H (HA 1 i)) a
theorem kR (i:Nat) (xs:List Nat):∀(a:Nat),(rt a xs).testBit i=Gx↔a.testBit i=Gx\/i∈xs:=by
 induction xs with
 |nil=>
  intro a;exact⟨.inl,fun h=>h.elim id fun h=>nomatch h⟩
 |cons x xs b=>
  intro a
  show(rt (a||| 1 <<< x) xs).testBit i=Gx↔_
  rw [b,Jl,Il,or_assoc,KM,dO,GK,eq_comm (a:=x)]
noncomputable def hsOf (H s:Nat):Nat:=Ol (Ll H (Nat.mul 128 s)) 340282366920938463463374607431768211456
noncomputable def sat (H:Nat):Nat->Nat->Nat->Nat
 |0,_,_=>0
 |n+1,todo,done=>cond (Hw todo 0) done (sat H n (Pu (Im (Im todo (hsOf H (MQ todo))) (Im done (HA 1 (MQ todo)))) (Im done (HA 1 (MQ todo)))) (Im done (HA 1 (MQ todo))))
noncomputable def yr (ps:List (Nat×Nat)) (M:Nat):Nat:=ps.foldl (fun b p=>cond (Hw (Ol (Ll M p.1) 2) 1) (Im b p.2) b) 0
noncomputable def memN (x:Nat):List Nat->Bool
 |[]=>Gz
 |y::b=>cond (Hw x y) Gx (memN x b)
noncomputable def runN (ps:List (Nat×Nat)):Nat->Nat->List Nat->Bool
 |0,_,_=>Gz
 |n+1,S,acc=>cond (Hw S 0) Gx (cond (memN S acc) Gx (runN ps n (yr ps S) (S::acc)))
noncomputable def kB (F:FN):Nat:=rt 0 (F.hp.map fun p=>Nat.add (Nat.mul 128 p.1) p.2)
noncomputable def th (F:FN) (l:Nat):Nat:=rt 0 (l::F.mv.map (·.1))
noncomputable def allT {b:Type} (f:b->Bool):List b->Bool
 |[]=>Gx
 |x::xs=>cond (f x) (allT f xs) Gz
theorem fR {c:Type} {f:c->Bool} {xs:List c}:allT f xs=Gx->∀x∈xs,f x=Gx:=by
 induction xs with
 |nil=>
  intro _ _ h;exact nomatch h
 |cons y g d=>
  intro h x b;unfold allT at h
  cases e:f y with
  |false=>rw [e] at h;cases h
  |true=>
   rw [e] at h;rcases GK.mp b with rfl|b
   ·exact e
   ·exact d h x b
noncomputable def Eb (H g:Nat):Bool:=LG 1 (sat H 128 (HA 1 g) 0)
noncomputable def qC (H b g:Nat):Nat:=Nat.land (sat H 128 (HA 1 g) 0) b
noncomputable def Dk (F:FN) (l f H b:Nat):Bool:=cond (allT (fun p=>LG p.2 127) F.hp) (cond (Eb H f) (cond (allT (fun p=>Eb H p.2) F.mv) (cond (LG 1 (qC H b f)) (runN (F.mv.map fun p=>(p.1,qC H b p.2)) 100 (qC H b f) []) Gz) Gz) Gz) Gz
noncomputable def chk (r:iV):Bool:=Dk r.N r.l r.f (kB r.N) (th r.N r.l)
theorem wd (M s:Nat):Hw (Ol (Ll M s) 2) 1=M.testBit s:=by
 show Hw ((M >>> s) % 2) 1=_
 rw [Nat.shiftRight_eq_div_pow,LN]
 cases e:GL (M / 2^s % 2=1) with
 |true=>rw [of_decide_eq_true e];rfl
 |false=>exact LF.mpr fun h=>of_decide_eq_false e (JX h)
theorem uv (M i:Nat) (ps:List (Nat×Nat)):∀(a:Nat),(ps.foldl (fun acc p=>cond (Hw (Ol (Ll M p.1) 2) 1) (Im acc p.2) acc) a).testBit i=Gx↔a.testBit i=Gx\/∃p∈ps,M.testBit p.1=Gx/\p.2.testBit i=Gx:=by
 induction ps with
 |nil=>exact fun a=>⟨.inl,fun h=>h.elim id fun h=>h.elim fun Z h=>nomatch h.1⟩
 |cons p ps f=>
  intro a;rw [Jz,f,wd]
  cases e:M.testBit p.1 with
  |false=>
   refine or_congr_right ⟨fun⟨q,b,c⟩=>⟨q,.tail _ b,c⟩,fun⟨q,b,c,d⟩=>?_⟩;rcases GK.mp b with rfl|b
   ·rw [e] at c;cases c
   ·exact⟨q,b,c,d⟩
  |true=>
   show(a||| p.2).testBit i=Gx\/_↔_
   rw [Jl,Il,or_assoc];refine or_congr_right ⟨fun h=>h.elim (fun h=>⟨p,.head _,e,h⟩) fun⟨q,b,c⟩=>⟨q,.tail _ b,c⟩,fun⟨q,b,c,d⟩=>?_⟩;rcases GK.mp b with rfl|b
   ·exact .inl d
   ·exact .inr ⟨q,b,c,d⟩
theorem zm {x:Nat} {b:List Nat}:memN x b=Gx->x∈b:=by
 induction b with
 |nil=>intro h;cases h
 |cons y b c=>
  intro h;unfold memN at h
  cases e:Hw x y with
  |true=>rw [JX e];exact .head _
  |false=>rw [e] at h;exact .tail _ (c h)
theorem xL {ps:List (Nat×Nat)} {n:Nat}:∀ {S:Nat} {acc:List Nat},runN ps n S acc=Gx->∃L:List Nat,(∀M∈acc,M∈L)/\(S=0\/S∈L)/\L.length<=acc.length+n/\∀M∈L,M∈acc\/yr ps M=0\/yr ps M∈L:=by
 induction n with
 |zero=>exact fun h=>nomatch h
 |succ n g=>
  intro S acc h;unfold runN at h
  cases e:Hw S 0 with
  |true=>exact⟨acc,fun Z h=>h,.inl (JX e),HN _ _,fun Z h=>.inl h⟩
  |false=>
   rw [e] at h
   cases c:memN S acc with
   |true=>exact⟨acc,fun Z h=>h,.inr (zm c),HN _ _,fun Z h=>.inl h⟩
   |false=>
    rw [c] at h;obtain⟨L,d,i,f,j⟩:=g h;refine⟨L,fun M b=>d M (.tail _ b),.inr (d S (.head _)),by rw [HF] at f;exact(l3 0x1b72718101b7718210) f,fun M b=>?_⟩
    rcases j M b with q|q
    ·rcases GK.mp q with rfl|q
     ·exact .inr i
     ·exact .inl q
    ·exact .inr q
section
variable {hp:List (List Nat)} {H:Nat}
theorem Ar (i:∀s t,(hsOf H s).testBit t=Gx↔∃l,hp[s]? =Gu l/\t∈l) {g n:Nat}:∀ {todo done:Nat},(∀x,todo.testBit x=Gx\/done.testBit x=Gx->Reach hp g x)->(todo.testBit g=Gx\/done.testBit g=Gx)->(∀s,done.testBit s=Gx->∀t,(hsOf H s).testBit t=Gx->todo.testBit t=Gx\/done.testBit t=Gx)->1<=sat H n todo done->∀x,(sat H n todo done).testBit x=Gx↔Reach hp g x:=by
 induction n with
 |zero=>exact fun Z Z Z h=>absurd h (by show¬1<=0;decide)
 |succ n d=>
  intro todo done c j k h x;unfold sat at h ⊢
  cases e:Hw todo 0 with
  |true=>
   have z:=JX e
   subst z
   have o:∀x,(0:Nat).testBit x=Gx\/done.testBit x=Gx↔done.testBit x=Gx:=fun x=>by
    rw [Ht];exact⟨fun h=>h.elim (fun h=>nomatch h) id,.inr⟩
   refine⟨fun f=>c x (.inr f),fun r=>?_⟩
   show done.testBit x=Gx
   induction r with
   |refl=>exact(o _).mp j
   |step _ e m d=>exact(o _).mp (k _ d _ ((i _ _).mpr ⟨_,e,m⟩))
  |false=>
   rw [e] at h
   have z:todo≠0:=fun z=>by rw [z] at e;cases e
   have p:=Nat.testBit_log2 z
   generalize D:MQ todo=s at h p ⊢
   have u:∀x,(Im done (HA 1 s)).testBit x=Gx↔done.testBit x=Gx\/s=x:=fun x=>by
    show(done||| 1 <<< s).testBit x=Gx↔_
    rw [Jl,Il,KM,dO]
   have B:∀x,(Pu (Im (Im todo (hsOf H s)) (Im done (HA 1 s))) (Im done (HA 1 s))).testBit x=Gx↔(todo.testBit x=Gx\/(hsOf H s).testBit x=Gx)/\¬(Im done (HA 1 s)).testBit x=Gx:=fun x=>by
    show((todo||| hsOf H s||| Nat.lor done (HA 1 s)) ^^^ Im done (HA 1 s)).testBit x=Gx↔_
    rw [Nat.testBit_xor,Jl,Jl];cases todo.testBit x<;>cases(hsOf H s).testBit x<;>cases(Im done (HA 1 s)).testBit x<;>decide
   have b:∀x,(Pu (Im (Im todo (hsOf H s)) (Im done (HA 1 s))) (Im done (HA 1 s))).testBit x=Gx\/(Im done (HA 1 s)).testBit x=Gx↔(todo.testBit x=Gx\/(hsOf H s).testBit x=Gx)\/(done.testBit x=Gx\/s=x):=fun x=>by
    rw [B,u]
    by_cases q:done.testBit x=Gx\/s=x<;>simp [q]
   have v:Reach hp g s:=c s (.inl p)
   refine d (fun x f=>?_) ?_ (fun y C t A=>?_) h x
   ·rcases(b x).mp f with (q|q) |q|q
    ·exact c x (.inl q)
    ·obtain⟨l,e,m⟩:=(i s x).mp q;exact v.step e m
    ·exact c x (.inr q)
    ·exact q▸v
   ·exact(b g).mpr (j.elim (fun q=>.inl (.inl q)) fun q=>.inr (.inl q))
   ·rcases(u y).mp C with q|q
    ·exact(b t).mpr ((k y q t A).elim (fun q=>.inl (.inl q)) fun q=>.inr (.inl q))
    ·subst q;exact(b t).mpr (.inl (.inr A))
end
section
variable {x:Bool} {N:NF} {F:FN} {l f:Nat}
theorem xJ (h:gZ x N F) (c:∀p∈F.hp,LG p.2 127=Gx) (s t:Nat):(hsOf (kB F) s).testBit t=Gx↔∃k,N.hp[s]? =Gu k/\t∈k:=by
 rw [h.hp]
 show((kB F >>> (128 * s)) % 2^128).testBit t=Gx↔_
 rw [Nat.testBit_mod_two_pow,HM,decide_eq_true_iff,Nat.testBit_shiftRight];rw [kR,Ht];constructor
 ·rintro⟨j,g|g⟩
  ·cases g
  ·obtain⟨p,d,e⟩:=Hm.mp g
   have e:128 * p.1+p.2=128 * s+t:=e
   have m:=Gv (c p d)
   have a:p.1=s:=by lia
   have b:p.2=t:=by lia
   rw [<-a, <-b];exact d
 ·intro d
  have i:=Gv (c _ d)
  exact⟨KJ i,.inr (Hm.mpr ⟨_,d,rfl⟩)⟩
theorem jN (h:gZ x N F) (s:Nat) (q:Int×Int):q∈N.mv.getD s []↔∃g,q=(de x,((g:Nat):Int))/\(s,g)∈F.mv:=by
 rw [<-h.mv,Hl]
 cases e:N.mv[s]? with
 |none=>exact⟨fun h=>(nomatch h),fun b=>by obtain⟨_,h,_⟩:=b;exact(nomatch h)⟩
 |some k=>exact⟨fun h=>⟨k,rfl,h⟩,fun b=>by obtain⟨_,h,m⟩:=b;cases h;exact m⟩
theorem zs (h:gZ x N F) (s:Nat):(th F l).testBit s=Gx↔live N l s=Gx:=by
 rw [kR,Ht,Il,beq_iff_eq,GK]
 have c:(!(N.mv.getD s []).isEmpty)=Gx↔s∈F.mv.map (·.1):=by
  constructor
  ·intro e
   cases z:N.mv.getD s [] with
   |nil=>rw [z] at e;cases e
   |cons q k=>
    obtain⟨g,_,m⟩:=(jN h s q).mp (by rw [z];exact .head _)
    exact Hm.mpr ⟨_,m,rfl⟩
  ·intro m;obtain⟨p,d,rfl⟩:=Hm.mp m
   have b:=(jN h p.1 (de x,((p.2:Nat):Int))).mpr ⟨p.2,rfl,d⟩
   cases z:N.mv.getD p.1 [] with
   |nil=>rw [z] at b;cases b
   |cons q k=>rfl
 rw [c];exact⟨fun h=>h.elim (fun h=>nomatch h) fun h=>h.symm,fun h=>.inr h.symm⟩
theorem lO (e:N.Ok) (h:gZ x N F) (c:∀p∈F.hp,LG p.2 127=Gx) {g:Nat} (j:g<N.n) (k:Eb (kB F) g=Gx):qC (kB F) (th F l) g=clo N l g:=eI fun i=>by
 have m:=Ar (hp:=N.hp) (H:=kB F) (xJ h c) (g:=g) (n:=128) (todo:=HA 1 g) (done:=0) (fun y b=>by
  rw [Ht] at b;rcases b with b|b
  ·have:(1 <<< g).testBit y=Gx:=b
   rw [KM,dO] at this;rw [<-this];exact .refl
  ·cases b) (.inl (by show(1 <<< g).testBit g=Gx;rw [KM,dO])) (fun s d=>by rw [Ht] at d;cases d) (Gv k) i
 show(sat (kB F) 128 (HA 1 g) 0&&& th F l).testBit i=Gx↔_
 rw [Nat.testBit_and,HM,m,zs h,iS e j]
theorem zx (r:N.Ok) (h:gZ x N F) (c:∀p∈F.hp,LG p.2 127=Gx) (k:∀p∈F.mv,Eb (kB F) p.2=Gx) (M n:Nat):bZ N l M n=if cZ (xA x) n then yr (F.mv.map fun p=>(p.1,qC (kB F) (th F l) p.2)) M else 0:=by
 revert M n;delta x N F l;delta M n
 have t:∀i,(bZ N l M n).testBit i=Gx↔cZ (xA x) n=Gx/\∃p∈F.mv,M.testBit p.1=Gx/\(clo N l p.2).testBit i=Gx:=fun i=>by
  rw [fL];constructor
  ·rintro⟨p,j,b,d⟩
   obtain⟨s,A,u⟩:=Iw.mp j;unfold fA w4 at u;rw [HJ] at u;obtain⟨q,v,rfl⟩:=Hm.mp u;obtain⟨g,rfl,m⟩:=(jN h s q).mp v;refine⟨?_,_,m,du.mp A,d⟩
   have b:cZ (de x).toNat n=Gx:=b
   rw [show(de x).toNat=xA x by cases x<;>rfl] at b
   exact b
  ·rintro⟨B,p,j,b,d⟩
   refine⟨(xA x,clo N l p.2),Iw.mpr ⟨p.1,du.mpr b,?_⟩,B,d⟩;unfold fA w4;rw [HJ];exact Hm.mpr ⟨(de x,((p.2:Nat):Int)),(jN h _ _).mpr ⟨p.2,rfl,j⟩,by cases x<;>rfl⟩
 refine eI fun i=>(t i).trans ?_;delta i
 cases e:cZ (xA x) n with
 |false=>rw [if_neg (by decide),Ht];exact⟨fun h=>(nomatch h.1),fun h=>(nomatch h)⟩
 |true=>
  rw [if_pos rfl];rw [uv,Ht]
  have y:∀p∈F.mv,p.2<N.n:=fun p o=>by
   have m:=(jN h p.1 (de x,((p.2:Nat):Int))).mpr ⟨p.2,rfl,o⟩
   rw [Hl] at m
   cases z:N.mv[p.1]? with
   |none=>rw [z] at m;cases m
   |some k=>
    rw [z] at m;rcases r.mv k (GN z) with rfl|⟨D,g,rfl,_,C⟩
    ·cases m
    ·have:=GI.mp m
     cases this;exact C
  constructor
  ·rintro⟨_,p,j,b,d⟩
   exact .inr ⟨_,Hm.mpr ⟨p,j,rfl⟩,b,by show(qC _ _ p.2).testBit i=Gx;rw [lO r h c (y p j) (k p j)];exact d⟩
  ·rintro(h|⟨q,j,b,d⟩)
   ·cases h
   ·obtain⟨p,o,rfl⟩:=Hm.mp j
    have d:(qC _ _ p.2).testBit i=Gx:=d
    rw [lO r h c (y p o) (k p o)] at d;exact⟨rfl,p,o,b,d⟩
theorem cond_true {b c:Bool} (h:cond b c Gz=Gx):b=Gx/\c=Gx:=by
 cases b
 ·cases h
 ·exact⟨rfl,h⟩
theorem zE (g:N.Ok) (h:gZ x N F) (k:f<N.n) (c:Dk F l f (kB F) (th F l)=Gx):∃K,K<=10000/\Fin (bZ N l) (clo N l f) K:=by
 delta x N F l f;obtain⟨b,c⟩:=cond_true c;obtain⟨m,c⟩:=cond_true c;obtain⟨d,c⟩:=cond_true c;obtain⟨i,c⟩:=cond_true c
 have b:=fR b
 have d:=fR d
 have n:=lO (l:=l) g h b k m
 obtain⟨L,_,j,o,p⟩:=xL c;delta L;rw [n] at j i;delta L
 have z:=Gv i
 obtain⟨K,q,e⟩:=t6 (nx:=bZ N l) (s0:=clo N l f) (L:=L) (j.elim (fun h=>by lia) id) fun M r s t=>by
  rw [zx g h b d]
  split
  ·exact(p M r).elim (fun h=>nomatch h) id
  ·exact .inl rfl
 exact⟨K,GC q (GC o (by decide)),e⟩
end
noncomputable def F0:FN:=⟨0,[],[]⟩
theorem Fk (x:Bool):gZ x ⟨[],[]⟩ F0:=⟨rfl,rfl,fun s t=>⟨fun b=>by obtain⟨_,h,_⟩:=b;exact(nomatch h),fun h=>(nomatch h)⟩,fun s p=>⟨fun⟨_,h,_⟩=>(nomatch h),fun b=>by obtain⟨_,_,h⟩:=b;exact(nomatch h)⟩⟩
theorem rF {x:Bool} {b:NF->BR} {d:FN->iV} (e:fe x b d) (f:(b ⟨[],[]⟩).N.Ok) (c:chk (d F0)=Gx):∃K,K<=10000/\Fin (bZ (b ⟨[],[]⟩).N (b ⟨[],[]⟩).l) (clo (b ⟨[],[]⟩).N (b ⟨[],[]⟩).l (b ⟨[],[]⟩).f) K:=by
 obtain⟨s,g,i,j,_,_⟩:=e _ _ (Fk x);refine zE f s j ?_;rw [g,i];exact c
noncomputable def D4 (b:FN->iV) (c:Nat×Option Nat):Bool:=allT (fun d=>chk (eS (eS b d.1 d.2) c.1 c.2 F0)) (Rk 3)
noncomputable def kF (j k:Nat) (b:Nat×Option Nat):Bool:=allT (fun c=>allT (fun d=>chk (eS (eS (eS bF d.1 d.2) c.1 c.2) b.1 b.2 F0)) (Rk k)) (Rk j)
theorem Eg:allT (D4 uV) (Rk 3)=Gx:=by decide+kernel
theorem FK:allT (D4 yg) (Rk 3)=Gx:=by decide+kernel
theorem An:kF 3 3 (2,Gw)=Gx:=by decide+kernel
theorem Bg:kF 3 3 (0,Gu 3)=Gx:=by decide+kernel
theorem AJ:kF 3 3 (1,Gu 3)=Gx:=by decide+kernel
theorem Aq:kF 3 3 (2,Gu 3)=Gx:=by decide+kernel
theorem As:kF 3 2 (2,Gw)=Gx:=by decide+kernel
theorem AG:kF 3 2 (0,Gu 3)=Gx:=by decide+kernel
theorem B6:kF 3 2 (1,Gu 3)=Gx:=by decide+kernel
theorem AS:kF 3 2 (2,Gu 3)=Gx:=by decide+kernel
theorem AO:kF 2 3 (2,Gw)=Gx:=by decide+kernel
theorem BP:kF 2 3 (0,Gu 3)=Gx:=by decide+kernel
theorem A8:kF 2 3 (1,Gu 3)=Gx:=by decide+kernel
theorem Bw:kF 2 3 (2,Gu 3)=Gx:=by decide+kernel
theorem C4:kF 3 3 (1,Gw)=Gx:=by decide+kernel
theorem Dt:kF 3 3 (0,Gu 2)=Gx:=by decide+kernel
theorem DW:kF 3 3 (1,Gu 2)=Gx:=by decide+kernel
theorem Dj:kF 3 3 (2,Gu 2)=Gx:=by decide+kernel
theorem yj {P:Nat×Option Nat->Prop} {a b c d:Nat×Option Nat} (e:P a) (f:P b) (g:P c) (hd:P d):∀r∈[a,b,c,d],P r:=fun r h=>by
 rcases GK.mp h with rfl|h
 ·exact e
 ·rcases GK.mp h with rfl|h
  ·exact f
  ·rcases GK.mp h with rfl|h
   ·exact g
   ·rw [GI.mp h];exact hd
theorem zp:∀r∈Rk 3,kF 3 3 r=Gx:=yj An Bg AJ Aq
theorem xz:∀r∈Rk 3,kF 3 2 r=Gx:=yj As AG B6 AS
theorem yp:∀r∈Rk 3,kF 2 3 r=Gx:=yj AO BP A8 Bw
theorem xn:∀r∈Rk 2,kF 3 3 r=Gx:=yj C4 Dt DW Dj
theorem qI (x:Bool):fe x (bld 0 (lf x)) bF:=by
 cases x
 ·exact mV
 ·exact mV
theorem zc (x:Bool) {v:Tr} (h:v=.cat (lf x) (lf x)\/v=.alt (lf x) (lf x)):(fe x (bld 1 v) uV)\/fe x (bld 1 v) yg:=by
 rcases h with rfl|rfl
 ·refine .inl ?_
  have:=xo (b:=bld 0) (p:=lf x) (qI x)
  cases x<;>exact this
 ·refine .inr ?_
  have:=xq (b:=bld 0) (p:=lf x) (qI x)
  cases x<;>exact this
theorem zW {g:FN->iV} {v:Tr} {x:Bool} {b d:Nat} {c e:Option Nat} (j:allT (D4 g) (Rk 3)=Gx) (k:(b,c)∈Rk 3) (l:(d,e)∈Rk 3) (m:fe x (bld 1 v) g) (n:(dc (.rep (.rep v d e) b c)).N.Ok):∃K,K<=10000/\Fin (bZ (dc (.rep (.rep v d e) b c)).N (dc (.rep (.rep v d e) b c)).l) (clo (dc (.rep (.rep v d e) b c)).N (dc (.rep (.rep v d e) b c)).l (dc (.rep (.rep v d e) b c)).f) K:=by
 have o:D4 g (b,c)=Gx:=fR j _ k
 have p:=fR (f:=fun i:Nat×Option Nat=>chk (eS (eS g i.1 i.2) b c F0)) (xs:=Rk 3) o _ l
 have q:fe x (bld 3 (.rep (.rep v d e) b c)) (eS (eS g d e) b c):=gV (gV m d e) b c
 exact rF q n p
theorem vr {t:Tr} {x:Bool} (s:Bm x t) (r:(dc t).N.Ok):∃K,K<=10000/\Fin (bZ (dc t).N (dc t).l) (clo (dc t).N (dc t).l (dc t).f) K:=by
 delta t x
 cases s with
 |two w v u y h=>
  obtain⟨b,c,l,rfl⟩:=u;obtain⟨d,g,q,rfl⟩:=y;rcases zc x h with o|o
  ·exact zW Eg l q o r
  ·exact zW FK l q o r
 |three w v i j k u y A h=>
  delta w v i j k;obtain⟨b,c,l,rfl⟩:=u;obtain⟨d,g,q,rfl⟩:=y;obtain⟨m,n,B,rfl⟩:=A
  have e:kF j k (b,c)=Gx:=by
   rcases GK.mp h with h|h
   ·cases h;exact zp _ l
   ·rcases GK.mp h with h|h
    ·cases h;exact xz _ l
    ·rcases GK.mp h with h|h
     ·cases h;exact yp _ l
     ·cases GI.mp h;exact xn _ l
  have C:=fR (f:=fun z:Nat×Option Nat=>allT (fun p:Nat×Option Nat=>chk (eS (eS (eS bF p.1 p.2) z.1 z.2) b c F0)) (Rk k)) (xs:=Rk j) e _ q
  have D:=fR (f:=fun p:Nat×Option Nat=>chk (eS (eS (eS bF p.1 p.2) d g) b c F0)) (xs:=Rk k) C _ B
  have o:fe x (bld 3 (.rep (.rep (.rep (lf x) m n) d g) b c)) (eS (eS (eS bF m n) d g) b c):=gV (gV (gV (qI x) m n) d g) b c
  exact rF o r D
theorem sV {t:Tr} (h:Fam 3 t):mJ t:=tQ (fun t x s Z b=>vr s b) h
theorem sB {vs:List GB} {c:List Int} (d:KV vs c) {xs:Array G8} (hp:xs.Perm (pairsOf vs)):∃b,KV (xs.map (·.2)).toList b/\b.Perm c:=by
 have e:(xs.map (·.2)).toList.Perm vs:=by
  rw [Array.toList_map]
  have:=(Hy.mp hp).map Prod.snd
  rw [pairsOf_toList,List.map_snd_zip (GP _)] at this;exact this
 refine⟨_,intsAre_map _ fun v f=>d.all v (e.mem_iff.mp f),?_⟩;rw [<-d.nums];exact e.map numOf
theorem zA {u:U}:gb u:=fun w A s D f G n P E j p g k l=>by
 refine Lh Np ⟨_,j,rfl⟩ M3 ?_ (Nq _);rw [P4]
 have t:D<s.heap.objs.size:=HB j
 refine Gy (listItems_at j rfl ?_);refine Gy (LW j rfl ?_);obtain⟨q,m⟩:∃q,(s.heap.update D (Hv fun Z=> #[])).get? D=Gu (I8 "list" #[] q):=⟨_,P5 j (fun Z=> #[])⟩;refine Gy (MW m rfl (Gy (wpAny_newTuple (Gy (NG (Hd ?_))))))
 have o:(((s.heap.update D (Hv fun Z=> #[])).push (I8 "tuple" f.toArray 0)).push (I8 "list" #[] 0)).get? D=Gu (I8 "list" #[] q):=by
  rw [KG _ _ _ (by rw [OZ,JV];exact G9 (GF t)),KG _ _ _ (by rw [JV];exact G9 t)]
  exact m
 show G3 (GR u.prog w) _ _ _ E {s with heap:=((s.heap.update D (Hv fun Z=> #[])).push (I8 "tuple" f.toArray 0)).push (I8 "list" #[] 0)}
 dsimp only
 have v:¬f.toArray.size<2:=by rw [KF];exact(l1 29689305494144) g
 rw [if_neg v,if_neg v]
 obtain⟨b,c,d,rfl⟩:∃b c d,f=b::c::d:=by
  cases f with
  |nil=>cases g
  |cons b f=>
   cases f with
   |nil=>exact absurd g (show¬64<=1 by decide)
   |cons c d=>exact⟨_,_,_,rfl⟩
 rw [keyKind_ints p];refine Gy (GV (Gy (G4 (oH (a₀:=pairsOf (b::c::d)) (st:=O7 Ic ((b::c::d).toArray.zip (b::c::d).toArray) #[] 7 Gw) (Q:=fun Z i=>SW (pairsOf (b::c::d)) i) p.intKeys ⟨⟨Array.Perm.refl _,rfl,rfl⟩,rfl⟩ fun i h=>h) ?_ fun Z Z e=>e)))
 rintro⟨⟨⟩,i⟩ H ⟨rfl,y⟩
 have B:=y.failed
 have z:=y.perm
 dsimp only;refine Gy (MW o rfl ?_);refine Gy (LW o rfl ?_ (hsz2:=by refine GC (Km ((Array.size_map ..).trans (z.size_eq.trans (pairsOf_size _)))) ?_;rw [JS];exact(l1 0x1b89c801b718090909090909180) k))
 rw [B];simp only [bne_self_eq_false,HC,if_false];obtain⟨r,C,F⟩:=sB p z;exact GV ⟨.none,rfl,l _ r C F⟩
end
section
section
open Builtin Builtin.ObjectAttr
noncomputable def fK:List (He×G6):=[("self",.local),("what",.local),("at",.local),("Exception",.globalImplicit)]
structure kD (K:I5) (te f:GW):Prop where
 cls:∃tb nm q N bs sn sub ab col dd k0 k1 k2 k3 k5,K.lookup te=Gu (excClassObj nm q te N bs [.ref tb,.type "Exception",.type "BaseException",.type "object"] Gx sn sub ab col dd k0 k1 k2 k3 k5 "Exception.__new__")
 init:Ka K (.ref te) "__init__"=Gu (Gu (.ref f))
 fn:typeIn K (.ref f)=Gu (.type "function")
 set:Ka K (.ref te) "__setattr__"=Gu (Gu (.builtin "object.__setattr__"))
 wh:Ka K (.ref te) "what"=Gu Gw
 at_:Ka K (.ref te) "at"=Gu Gw
 ei:findCls K (.type "Exception") (.type "type") "__init__"=Gu (.val (.builtin "Exception.__init__"))
 kp:K6 K (.ref te)=Gx
section
variable {prog:Ip} {w:Hk} {A:Hi} {K:I5} {c m f e:GW} {R:MH->GD->Prop} {E:GB->GD->Prop} {h:HY} {g:Array GenState} {d:Drawn} {t:Nat} {l:NX} {s:GD}
variable {D q:He} {N:GW} {G:List GB} {H:List He} {i:List GB} {I:Bool} {j:Option Bool} {n:Option GW} {k0 u y B C:Option GB}
theorem xE {rest:List GB} (b:h.get? c=Gu (excClassObj D q c N G [.ref m,.type "Exception",.type "BaseException",.type "object"] Gx H i I j n k0 u y B C "Exception.__new__"))
  (J:R (.ok (.ret (.ref (h.objs.size+1)))) ⟨(h.push {cls:=.type "tuple",data:=.seq rest.toArray}).push {cls:=.ref c,data:=.fields #[.ref h.objs.size,.none,.none,.none,.bool Gz,.none]},g,d,t,l⟩) (o:rest.length<=J1):
  IT (GR prog w) A (.call (.builtin "Exception.__new__") ⟨.ref c::rest,[]⟩) R ⟨h,g,d,t,l⟩:=by
 revert l D q N G H i I j n k0 u y B C rest;delta prog w A c m R h g d t;revert k0 u y B C rest;delta l D q N G H i I j n;delta k0 u y B C rest
 have F:=Kq
 have r:=F.noStar
 have v:=F.ends
 have k:([.ref c,.ref m,.type "Exception",.type "BaseException",.type "object"]:List GB).contains (.type "Exception")=Gx:=by simp
 have hcA:([.ref c,.ref m,.type "Exception",.type "BaseException",.type "object"]:List GB).contains (.type "AttributeError")=Gz:=by simp
 have hcN:([.ref c,.ref m,.type "Exception",.type "BaseException",.type "object"]:List GB).contains (.type "NameError")=Gz:=by simp
 refine codeAny_call_builtin_code (NW _ F.quiet) ?_;simp only [Pw,F.newKind,F.newSplit,F.newRow]
 repeat (first|refine Iu b ?_|(refine Ky b ?_;rw [k]) |refine wpAny_staticBase_exc b ?_|refine Px b ?_|simp only [bne_self_eq_false,HC,if_false] |wp_step)
 refine codeAny_builtinAt F.entry ?_;unfold Builtin.«BaseException.__new__»;refine Om ?_
 show PySem.wpAt _ _ _ (stack >>= _) _ _ _
 refine Om (PySem.wpAt_stack fun p z=>ND ?_)
 wp_walk
 refine ND ?_;rw [F.owner]
 repeat (first|with_reducible refine wpAny_madeHere_exc F.canon b ?_|with_reducible refine Iu b ?_|(with_reducible refine Ky b ?_;first|rw [k] |rw [hcA] |rw [hcN]) |wp_step)
 show R _ _
 rw [JK];exact J
noncomputable abbrev b5 (c t:GW) (n:Option GW):JE:={cls:=.ref c,dict:=n,data:=.fields #[.ref t,.none,.none,.none,.bool Gz,.none]}
theorem ui {rest:List GB} (X:K.In h) (k:kD K c f) (p:rest.length<=J1)
  (S:IT (GR prog w) (A.under (.builtin "type.__call__" ⟨.ref c::rest,[]⟩)) (.call (.ref f) ⟨.ref (h.objs.size+1)::rest,[]⟩) (InitBack (h.objs.size+1) R)
   ⟨(h.push {cls:=.type "tuple",data:=.seq rest.toArray}).push (b5 c h.objs.size Gw),g,d,t,l⟩):IT (GR prog w) A (.call (.ref c) ⟨rest,[]⟩) R ⟨h,g,d,t,l⟩:=by
 revert t l rest;delta prog w A K c f R h g d;delta t l rest;obtain⟨m,D,q,N,G,H,i,I,j,n,k0,u,y,B,C,P⟩:=k.cls;revert k0 u y B C;delta m D q N G H i I j n;delta k0 u y B C
 have F:=X c _ P
 have Y:=tc_lookup
 have Z:=tc_bind (.ref c)
 have hT:(⟨h,g,d,t,l⟩:GD).TypeIs (.ref c) "type":=⟨_,F,rfl⟩
 refine codeAny_of_tree ?_
 show G3 _ _ (callAny (.ref c) _) _ _ _
 repeat (any_goals (first|assumption|with_reducible refine Iu F ?_|wp_step))
 refine⟨rfl,?_⟩;refine codeAny_call_builtin_at (NW _ (by decide+kernel)) entry_typeCall (wpAny_check_type_call_sub F ?_)
 unfold Builtin.«type.__call__»
 repeat (first|with_reducible refine Iu F ?_|with_reducible refine Px F ?_|wp_step)
 refine xE F ?_ p
 have L:∀b o,h.get? b=Gu o->((h.push {cls:=.type "tuple",data:=.seq rest.toArray}).push (b5 c h.objs.size Gw)).get? b=Gu o:=fun b o e=>GU _ (GU _ e)
 have O:=L _ _ F
 have J:((h.push {cls:=.type "tuple",data:=.seq rest.toArray}).push (b5 c h.objs.size Gw)).get? (h.objs.size+1)=Gu (b5 c h.objs.size Gw):=by heap_get
 have T:(Jk c::[.ref m,.type "Exception",.type "BaseException",.type "object"]).contains (.ref c)=Gx:=by simp
 have Q:Lx (GR prog w) ((h.push {cls:=.type "tuple",data:=.seq rest.toArray}).push (b5 c h.objs.size Gw)) (O1 (.ref (h.objs.size+1))) (.ref c):=(Mo J).andThen .now
 have U:=KH (M:=GR prog w) (X.keeps L) k.init
 have V:=bind_fn (M:=GR prog w) (X.keeps L) (.ref (h.objs.size+1)) k.fn
 have W:Lx (GR prog w) ((h.push {cls:=.type "tuple",data:=.seq rest.toArray}).push (b5 c h.objs.size Gw)) (O2 (.ref (h.objs.size+1)) (.ref c)) Gx:=
  Q.andThen (looks_mroIn (X.keeps L) (by unfold mroIn clsIn;rw [P];simp))
 refine Gy (W.at ?_);refine Gy (Hd (Gy (Gy (Q.at (U.at ?_)))));refine Hd (Gy (V.at ?_));refine Gy (Kb ?_);refine IM S fun r s' z=>?_;rcases r with e|(v|_|_|_)<;>first|exact z|exact z.elim|skip
 obtain⟨rfl,z⟩:=z;exact GV (GV z)
end
end
section
open Builtin Builtin.ObjectAttr
section
variable {prog:Ip} {w:Hk} {A:Hi} {K:I5} {c f e:GW} {E:GB->GD->Prop} {s:GD} {name:He} {v:GB}
theorem xb {i:JE} (X:K.In s.heap) (k:kD K c f) (J:s.heap.get? e=Gu i) (hc:i.cls=.ref c) (W:∃vs,i.data=.fields vs) (hn:Ka K (.ref c) name=Gu Gw) {Q:Unit->GD->Prop}
  (hd:i.dict=Gw\/∃j L M,i.dict=Gu j/\j≠e/\s.heap.Ns1 j L/\Within L M/\M.length<=1)
  (h:∀h' tk j L M,h'.get? e=Gu {i with dict:=Gu j}->j≠e->(s.heap.get? j=Gw\/i.dict=Gu j)->h'.Ns1 j L->Within L M->(i.dict=Gw->M.length<=1)->(∀b o,b≠e->b≠j->s.heap.get? b=Gu o->h'.get? b=Gu o)->Q () {s with heap:=h',toks:=tk}):
  G3 (GR prog w) A (setAttr (.ref e) name v) Q E s:=by
 revert v i Q;delta prog w A K c f e E s name;revert Q;delta v i;delta Q;obtain⟨d,g,dr,l,os⟩:=s;delta d g dr l os;dsimp only at X J hd h;obtain⟨tb,nm,q,N,bs,sn,u,ab,Y,dd,k0,k1,k2,k3,k5,hl⟩:=k.cls;revert k0 k1 k2 k3 k5;delta tb nm q N bs sn u ab Y dd;delta k0 k1 k2 k3 k5;obtain⟨vs,P⟩:=W;delta vs
 have y:=PySem.F.store_Exception
 have V:Lx (GR prog w) d (O1 (.ref e)) (.ref c):=(Mo J).andThen (by rw [hc];exact .now)
 have b':∃O,clsIn K c=Gu O/\O.mro=[.ref c,.ref tb,.type "Exception",.type "BaseException",.type "object"]/\O.hasDict=Gx:=⟨_,by unfold clsIn;rw [hl],rfl,rfl⟩
 obtain⟨O,B,t,C⟩:=b';delta O;refine Gy (wpAny_mkText (Gy (Gy (Gy (V _ _ _ _ (fun Z Z e=>e) (KH X k.set _ _ _ _ (fun Z Z e=>e) (Hd ?_)))))));rw [y.slot.bind];refine Gy (GV (Gy (Kb (IM (R:=fun r s'=>match r with|.ok (.ret _)=>Q () s'|.ok _=>False|.error e=>E e s') ?_ fun r s' z=>by rcases r with e|(v|_|_|_)<;>first|exact z|exact GV (GV z)))))
 have u:Lx (GR prog w) d (O2 (.ref e) (.type "object")) Gx:=V.andThen (looks_mroIn X (by unfold mroIn;rw [B,NS,t];simp))
 show IT _ _ (.call (.builtin "object.__setattr__") ⟨[.ref e,.str name l,v],[]⟩) _ _
 refine LA y.slot.plain y.entry (@check_slot (GR prog w) _ _ _ "object.__setattr__" "object" "__setattr__" (.ref e) [.str name l,v] [] _ y.kind y.split u (y.args (.ref e) (.str name l) v) ?_)
 have hm:Lx (GR prog w) d (mroOf (.ref c)) O.mro:=(Oy X B).andThen .now
 rw [osa_eq,refuse_eq];refine Gy (Gy (V.at (Gy (hm.at ?_))));rw [t,refuseLoop_ref,refuseLoop_ref,y.passes];refine GV (Gy (V.at (Gy ((KH X hn).at (Gy (GV ?_))))));refine Gy (GV (Gy (Gy (Nl J ?_))));rw [hc];refine Gy ((Oy X B).at ?_);rw [C];rcases hd with c'|⟨j,L,M,p,S,d',hw,e'⟩
 ·simp only [c',P]
  have m:(d.push {cls:=.type "dict",data:=.dict #[]}).get? e=Gu i:=GU _ J
  have D:e≠d.objs.size:=G9 (HB J)
  refine Gy (wpAny_alloc' ?_);refine Gy (wpAny_update' m ?_);refine GV ?_
  have f':((d.push {cls:=.type "dict",data:=.dict #[]}).update e fun o=>{cls:=o.cls,dict:=Gu d.objs.size,data:=o.data,slots:=o.slots}).get? d.objs.size=Gu {cls:=.type "dict",data:=.dict #[]}:=
   (NL _ _ _ _ D.symm).trans (Heap.get?_push_at rfl rfl)
  have g':((d.push {cls:=.type "dict",data:=.dict #[]}).update e fun o=>{cls:=o.cls,dict:=Gu d.objs.size,data:=o.data,slots:=o.slots}).Ns d.objs.size (fun Z=>Gw):=
   ⟨_, #[],_,f',rfl,fun e he=>absurd he (by simp),fun Z=>rfl⟩
  show G3 _ _ (storeInDict d.objs.size (.str name l) name v) _ _ _
  refine Gy (GV (Gy (wpAny_nsSet1 (Heap.Ns1.of_empty g') fun h' n T=>?_)));obtain⟨oD,i',j',F,G,H⟩:=n.count (LR name v Pe);refine Gy (MI F (by rw [G];exact MJ (GC H (by rw [HF,JB,JS];exact(l0 0x1b7180909090909091871808)))) ?_)
  refine GV (h h' _ d.objs.size _ _ ?_ D.symm (.inl (aN _)) n (LR name v Pe) (fun Z=>by simp) fun b ob U I hb=>?_)
  ·refine(T.2 e D).trans (H7 _ m ?_);obtain⟨oc,od,k',l'⟩:=i;cases P;rfl
  ·exact(T.2 b I).trans ((NL _ _ _ _ U).trans (GU _ hb))
 ·simp only [p];refine GV ?_
  show G3 _ _ (storeInDict j (.str name l) name v) _ _ _
  refine Gy (GV (Gy (wpAny_nsSet1 d' fun h' n T=>?_)));obtain⟨oD,i',j',F,G,H⟩:=n.count (LR name v hw);refine Gy (MI F (by rw [G];exact MJ (GC H (by rw [HF,JS];exact(l1 0x1b1801b718090909090909187180) e'))) ?_)
  refine GV (h h' _ j _ _ ?_ S (.inr p) n (LR name v hw) (fun e=>by rw [p] at e;cases e) fun b ob U I hb=>(T.2 b I).trans hb)
  rw [(T.2 e S.symm).trans J];obtain⟨oc,od,k',l'⟩:=i;cases p;rfl
end
end
section
open Builtin Builtin.ObjectAttr
noncomputable def B3 (b c d e f g i j k l m n o p:HR):List IB:=
 [.Expr (.Call (.Attribute (.Name "Exception" b) "__init__" c) [.Name "self" d,.Name "what" e] [] f) g,
  .Assign [.Attribute (.Name "self" i) "what" j] (.Name "what" k) l,
  .Assign [.Attribute (.Name "self" m) "at" n] (.Name "at" o) p]
inductive Am (K:I5) (f:GW):Prop where
 |mk (p1 p2 p3 p4 p5 p6 a1 a2 a3 a4 b1 b2 b3 b4:HR) (fo:JE) (fd:Kp) (hp:(p2.endLine==p5.line)=Gx) (hf:K.lookup f=Gu fo) (hfd:fo.data=.func fd) (FN:DK K fd (B3 p1 p2 p3 p4 p5 p6 a1 a2 a3 a4 b1 b2 b3 b4)) (nm:fd.scope.names=fK) (bd:iI K fd ["self","what","at"] 2 [.none])
section
variable {u:U} {w:Hk} {A:Hi} {K:I5} {i f e:GW} {E:GB->GD->Prop} {s:GD} {v:GB} {c base:HY} {env:J5}
theorem pL (X:K.In s.heap) (k:kD K i f) {pl:Kz Bool} {Q:GB×List GB->GD->Prop} (h:Q (.builtin "Exception.__init__",[]) {s with toks:=s.toks+1}):
  G3 (GR u.prog w) A (NR (.type "Exception") "__init__" pl) Q E s:=by
 have j:Manifest.isStub "Exception"=Gz:=by decide+kernel
 have b:MR (.type "Exception")=HH Gw:=by unfold MR;dsimp only;rw [j];rfl
 have d:Lx (GR u.prog w) s.heap (O1 (.type "Exception")) (.type "type"):=ML rfl
 have g:Ka K (.type "type") "__getattribute__"=Gu (Gu (.builtin "type.__getattribute__")):=type_tga
 refine Gy (Gy (d.here ((KH X g).here ?_)));dsimp only;rw [if_pos canon_tga];refine Gy (G4 (Q:=fun v=>Q (v,[])) (E:=E) ?_ (fun Z Z z=>GV z) fun Z Z z=>z)
 have l:Lx (GR u.prog w) s.heap (MR (.type "Exception")) Gw:=ML b
 exact cls_open X l d g (looks_hook X (r:=Gw) (by rfl)) (by show subIn K _ _=_;rfl) k.ei
  (GV (by show G3 _ _ (handedOut _) _ _ _;rw [handedOut_of (by rfl)];exact GV h))
structure lM (c:HY) (env:J5) (x at_:GB) (i e:GW) (s₀:GD) (s:GD) (dd:Option GW):Prop where
 ns:∃m,s.heap.Ns env.locals m/\m "self"=Gu (.ref e)/\m "what"=Gu x/\m "at"=Gu at_
 keep:∀b o,c.get? b=Gu o->s.heap.get? b=Gu o
 obj:∃t,s.heap.get? e=Gu (b5 i t dd)
 dn:∀dx,dd=Gu dx->c.get? dx=Gw/\dx≠env.locals
 gens:s.gens=s₀.gens
 os:s.os=s₀.os
def tD (e:GW) (s:GD) (d:Option GW):Prop:=d=Gw\/∃b g j,d=Gu b/\b≠e/\s.heap.Ns1 b g/\Within g j/\j.length<=1
theorem lM.name {x b:GB} {d:GD} {j:Option GW} (k:env.scope.kind=.function) (I:lM c env x b i e d s j) {n:He} {y:GB} {p:HR} {Q:GB->GD->Prop} (l:env.kindOf n=Gu .local)
  (g:(n="self"/\y=.ref e)\/(n="what"/\y=x)\/(n="at"/\y=b)) (h:Q y s):G3 (GR u.prog w) A (J6 (.Name n p) env) Q E s:=by
 obtain⟨m,o,r,t,z⟩:=I.ns
 have q:(n==("__debug__":He))=Gz:=by rcases g with ⟨rfl,_⟩ |⟨rfl,_⟩ |⟨rfl,_⟩<;>decide+kernel
 refine wpAny_Name (Lu k l o ?_ h) q;rcases g with ⟨rfl,rfl⟩ |⟨rfl,rfl⟩ |⟨rfl,rfl⟩<;>assumption
theorem jT {x p:GB} {j:GD} {F:Option GW} (J:env.scope.kind=.function) (P:env.scope.names=fK) (X:K.In c) (k:kD K i f) (R:c.get? e=Gw) (S:env.locals≠e) (I:lM c env x p i e j s F) (D:tD e s F) (n:He) (y:GB) {G H T U:HR} (V:Ka K (.ref i) n=Gu Gw)
  (L:(n="what"/\y=x)\/(n="at"/\y=p)) {Q:Nf->GD->Prop} (h:∀s' g,lM c env x p i e j s' (Gu g)->(F=Gw->tD e s' (Gu g))->Q .next s'):
  G3 (GR u.prog w) A (exec (.Assign [.Attribute (.Name "self" G) n H] (.Name n T) U) env) Q E s:=by
 have M:∀z:He,z="self"\/z="what"\/z="at"->env.kindOf z=Gu .local:=fun z W=>by
  unfold Io;rw [P];rcases W with rfl|rfl|rfl<;>decide+kernel
 refine OR (I.name J (M n (.inr (L.imp (·.1) (·.1)))) (.inr L) ?_) rfl (by rfl)
 show G3 _ _ (JU y [Jy (.Attribute (.Name "self" G) n H) env]) _ _ _
 have r:G3 (GR u.prog w) A (Jy (.Attribute (.Name "self" G) n H) env y) (fun Z=>Q .next) E s:=by
  rw [Pn];refine Gy (Hd (I.name J (M _ (.inl rfl)) (.inl ⟨rfl,rfl⟩) (Gy (HT (Gy (Hd ?_))))));obtain⟨t,Y⟩:=I.obj;refine xb (X.keeps I.keep) k Y rfl ⟨_,rfl⟩ V D fun h' tk g mA ns g1 g2 d g4 g5 g6 N=>wpAny_release (h _ g ?_ fun q=>.inr ⟨g,mA,ns,rfl,g2,g4,g5,g6 q⟩)
  have O:∀b o,s.heap.get? b=Gu o->(c.get? b≠Gw\/b=env.locals)->b≠g:=fun b o l B q=>by
   rcases d with d|d
   ·rw [q,d] at l;cases l
   ·have:=I.dn g d
    rcases B with B|B
    ·exact B (q▸this.1)
    ·exact this.2 (q▸B)
  obtain⟨m,⟨oL,es,ep,C,rL⟩,hm⟩:=I.ns;refine⟨⟨m,⟨oL,es,ep,N _ _ S (O _ _ C (.inr rfl)) C,rL⟩,hm⟩,fun b o l=>N b o (fun q=>by rw [q,R] at l;cases l) (O b o (I.keep b o l) (.inl fun q=>by rw [l] at q;cases q)) (I.keep b o l),⟨t,g1⟩,fun b' e'=>?_,I.gens,I.os⟩
  cases e';rcases d with d|d
  ·refine⟨?_,fun q=>by rw [<-q,d] at C;cases C⟩
   cases q:c.get? g with
   |none=>rfl
   |some o=>have:=I.keep _ _ q;rw [d] at this;cases this
  ·exact I.dn g d
 first
  |exact Gy (Hd (G4 r (fun Z s' k=>wpAny_pure k) fun Z Z x=>x))
  |exact Gy (G4 r (fun Z s' k=>wpAny_pure k) fun Z Z x=>x)
  |exact r
theorem kE {rest:List GB} {h:HY} {g:Array GenState} {d:Drawn} {tk:Nat} {j:NX} {t₀:GW} {R:MH->GD->Prop} (X:K.In h) (k:kD K i f) (y:h.get? e=Gu (b5 i t₀ Gw)) (m:rest.length<=J1)
  (J:∀h' L,(∀b o,b≠e->h.get? b=Gu o->h'.get? b=Gu o)->h'.get? e=Gu (b5 i L Gw)->R (.ok (.ret .none)) ⟨h',g,d,tk,j⟩):IT (GR u.prog w) A (.call (.builtin "Exception.__init__") ⟨.ref e::rest,[]⟩) R ⟨h,g,d,tk,j⟩:=by
 revert rest h g d tk j t₀ R;delta u w A K i f e;delta rest h g d tk j t₀ R;obtain⟨z,M,q,N,O,P,p,Q,r,S,B,C,D,G,H,T⟩:=k.cls;revert B C D G H;delta z M q N O P p Q r S;delta B C D G H
 have I:=X i _ T
 have F:=Kq
 have l:=F.noStar
 have t:([.ref i,.ref z,.type "Exception",.type "BaseException",.type "object"]:List GB).contains (.type "Exception")=Gx:=by simp
 refine LA F.init.plain F.initEntry ?_;simp only [Pw,F.initKind,F.initSplit,F.initRow]
 repeat (first|with_reducible refine Iu y ?_|with_reducible refine Iu I ?_|(with_reducible refine Ky I ?_;rw [t]) |wp_step)
 refine wpAny_onRaise ?_
 rw [show∀(a b:String) (n:Nat),Bind.check ⟨.positional,"*","Exception",.self,[⟨"args",.varPos,Gz⟩]⟩ a b n (MC (fun x=>x.fst) ({pos:=Jk e::rest}:Args).kw)=HH () from
  fun a b n=>check_star_args _ _ _ _ _ _]
 refine GV ?_
 wp_walk
 refine J _ h.objs.size (fun b o U V=>?_) ?_
 ·rw [Ho _ _ (Hz U)];exact GU _ V
 ·rw [H7 _ (GU _ y) rfl];rfl
theorem r4 {x l:GB} {j:GD} (y:env.scope.kind=.function) (O:env.scope.names=fK) (B:∃C,s.heap.Ns env.globals C/\C "Exception"=Gw) (D:∃G,s.heap.Ns env.builtins G/\G "Exception"=Gu (.type "Exception")) (X:K.In c) (k:kD K i f) (he:c.get? e=Gw) (hL:env.locals≠e) (I:lM c env x l i e j s Gw) {R H S T n p6:HR} (hp:(H.endLine==n.line)=Gx)
  {Q:Nf->GD->Prop} (h:∀U,lM c env x l i e j U Gw->Q .next U):
  G3 (GR u.prog w) A (exec (.Expr (.Call (.Attribute (.Name "Exception" R) "__init__" H) [.Name "self" S,.Name "what" T] [] n) p6) env) Q E s:=by
 have V:∀z:He,z="self"\/z="what"\/z="at"->env.kindOf z=Gu .local:=fun z hz=>by
  unfold Io;rw [O];rcases hz with rfl|rfl|rfl<;>decide+kernel
 obtain⟨C,B,J⟩:=B;obtain⟨G,D,L⟩:=D
 have F:=Kq
 refine wpAny_Expr_any ?_ (by unfold interactive;simp [y]) rfl
 rw [NH,show∀p env (t:Kz GB),LV _ p env t=t from fun Z Z Z=>rfl]
 refine Gy (HZ y (by unfold Io;rw [O];decide+kernel) (OX B J D L ?_) (by decide+kernel))
 refine Gy (HT ?_)
 have M:Nr 2 (K7 n (IL [LZ "self" S,LZ "what" T] env)) (Mn n (K0 [] env))=Gx:=rfl
 have r:Kj Gx (.Name "Exception" R) env H n=HH n:=by unfold Kj;simp [hp]
 refine Gy (Hd (pL (X.keeps I.keep) k ?_));refine Gy (MY r ?_);obtain⟨t,hx⟩:=I.obj
 have W:lM c env x l i e j {s with toks:=s.toks+1} Gw:=⟨I.ns,I.keep,I.obj,I.dn,I.gens,I.os⟩
 refine KZ (P:=fun Z=>True) rfl (cH _) (J2 (JA (W.name y (V _ (.inl rfl)) (.inl ⟨rfl,rfl⟩) (JA (W.name y (V _ (.inr (.inl rfl))) (.inr (.inl ⟨rfl,rfl⟩)) (KW ⟨trivial,?_⟩))))));refine Kb ?_;obtain⟨hp,g,d,tk,os⟩:=s;refine kE (X.keeps I.keep) k hx (by simp [JS]) fun h' t' Y k2=>h _ ⟨?_,fun b o N=>Y b o (fun q=>by rw [q,he] at N;cases N) (I.keep b o N),⟨t',k2⟩,fun dx e'=>(by cases e'),I.gens,I.os⟩
 obtain⟨m,⟨oL,es,ep,eL,rL⟩,hm⟩:=I.ns;exact⟨m,⟨oL,es,ep,Y _ _ hL eL,rL⟩,hm⟩
end
end
section
open Builtin Builtin.ObjectAttr
section
variable {u:U} {w:Hk} {A:Hi} {d f e:GW} {E:GB->GD->Prop} {s:GD} {c base:HY} {R:MH->GD->Prop}
theorem zl {x:GB} {t₀:GW} (g:Gd u w base) (st:base.StaysIn c) (k:kD (u.Kf w.params) d f) (FX:Am (u.Kf w.params) f) (he:c.get? e=Gw) (hk:∀b o,c.get? b=Gu o->s.heap.get? b=Gu o) (hx:s.heap.get? e=Gu (b5 d t₀ Gw)) (hA:A.depth<KS)
  (hR:∀G t' H,(∀b o,c.get? b=Gu o->G.heap.get? b=Gu o)->G.heap.get? e=Gu (b5 d t' (Gu H))->G.gens=s.gens->G.os=s.os->R (.ok (.ret .none)) G):
  IT (GR u.prog w) A (.call (.ref f) ⟨[.ref e,x],[]⟩) R s:=by
 obtain⟨p1,p2,p3,p4,p5,p6,a1,a2,a3,a4,b1,b2,b3,b4,fo,fd,hp,hf,b',r,nm,bd⟩:=FX
 have m:(u.Kf w.params).In c:=g.inK.keeps st
 have X:=m.keeps hk
 have xd:(["self","what","at"]:List He).Nodup:=by decide+kernel
 have nd:(fK.map (·.1)).Nodup:=by decide+kernel
 refine Oe hA (X f fo hf) b' r.co r.gen r.body (codeRec_of X r.code) (pe X bd _ _ _ _ ?_);rw [r.clo]
 have zz:(["self","what","at"]:List He).zip ([.ref e,x]++[.none])=([("self",.ref e),("what",x),("at",.none)]:List (He×GB)):=rfl
 have kl:∀z:He,z="self"\/z="what"\/z="at"->fK.lookup z=Gu .local:=fun z J=>by rcases J with rfl|rfl|rfl<;>decide+kernel
 refine Nt r.kind (fun b K=>.inl ?_) fun j t G B=>?_
 ·rw [zz] at K;rw [nm];refine kl _ ?_;simp only [GK,List.not_mem_nil,or_false] at K;rcases K with rfl|rfl|rfl
  ·exact .inl rfl
  ·exact .inr (.inl rfl)
  ·exact .inr (.inr rfl)
 have L:j.locals=s.heap.objs.size:=by rw [t];rfl
 have M:j.scope=fd.scope:=by rw [t];rfl
 have c':j.globals=IC:=by rw [t];exact r.glob
 have d':j.builtins=KP:=by rw [t];exact r.bi
 have C:j.scope.kind=.function:=by rw [M];exact r.kind
 have y:j.scope.names=fK:=by rw [M];exact nm
 obtain⟨h',tk,rfl⟩:=B.toInCall.same
 have n:=B.toInCall.keep
 have hL:j.locals≠e:=fun q=>by rw [<-q,L,aN] at hx;cases hx
 have kd:∀z:He,z="self"\/z="what"\/z="at"->j.kindOf z=Gu .local:=fun z J=>by unfold Io;rw [y];exact kl z J
 have D:∀(i:Nat) (z:He) v,(["self","what","at"]:List He)[i]? =Gu z->([.ref e,x]++[.none]:List GB)[i]? =Gu v->(z="self"\/z="what"\/z="at")->bindL j.kindOf ((["self","what","at"]:List He).zip ([.ref e,x]++[.none])) (fun Z=>Gw) z=Gu v:=fun i z v e1 e2 J=>oq xd e1 e2 (kd z J)
 have I:lM c j x .none d e s {s with heap:=h',toks:=tk} Gw:=⟨⟨_,B.toInCall.ns,D 0 _ _ rfl rfl (.inl rfl),D 1 _ _ rfl rfl (.inr (.inl rfl)),D 2 _ _ rfl rfl (.inr (.inr rfl))⟩,fun b o N=>n b o (hk b o N),⟨t₀,n _ _ hx⟩,fun H e'=>(by cases e'),rfl,rfl⟩
 obtain⟨mg,hg,_,F⟩:=g.globals;obtain⟨mb,K,O⟩:=g.builtins
 have P:(Hr "Exception")∈dg:=by decide
 have S:s.heap.NoLimit:=g.lim.keeps fun b o N=>hk b o (st b o N)
 refine⟨S.keeps n,codeAny_func (G4 (Q:=fun fl p=>fl=.next/\∃H,lM c j x .none d e s p (Gu H)) (E:=fun Z Z=>False) ?_ (fun fl p ⟨q,H,I'⟩=>?_) fun Z Z x=>x.elim)⟩
 ·have l:∀b o,base.get? b=Gu o->h'.get? b=Gu o:=fun b o N=>n b o (hk b o (st b o N))
  refine IX (r4 C y ⟨mg,by rw [c'];exact hg.keeps l,F _ P⟩ ⟨mb,by rw [d'];exact K.keeps l,(O _ P).trans (by decide+kernel)⟩ m k he hL I hp fun g' T=>?_)
  refine IX (jT C y m k he hL T (.inl rfl) "what" x k.wh (.inl ⟨rfl,rfl⟩) fun p i' U V=>?_);refine IX (jT C y m k he hL U (V rfl) "at" .none k.at_ (.inr ⟨rfl,rfl⟩) fun j' W Y k'=>?_);exact Kt ⟨rfl,W,Y⟩
 ·subst q;obtain⟨t',f'⟩:=I'.obj;exact hR p t' H I'.keep f' I'.gens I'.os
end
end
section
open Builtin Builtin.ObjectAttr
theorem vV {M:Model} {A:Hi} {K:I5} {i f:GW} {env:J5} {E:GB->GD->Prop} {s:GD} {x:Kz GB} {Q:Nf->GD->Prop} (k:kD K i f) (o:A.handled=Gw)
  (h:G3 M A x (fun v b=>∃e t l,v=.ref e/\K.In b.heap/\b.heap.get? e=Gu (b5 i t l)/\E (.ref e) b) E s):G3 M A (raiseStmt env (Gu x) Gw) Q E s:=by
 obtain⟨p,C,q,N,D,F,r,G,u,l,H,I,J,L,O,y⟩:=k.cls
 have j:([.ref i,.ref p,.type "Exception",.type "BaseException",.type "object"]:List GB).contains (.type "BaseException")=Gx:=by simp
 refine Gy (G4 h (fun v b c=>?_) fun Z Z x=>x);obtain⟨e,t,m,rfl,X,z,B⟩:=c
 have n:=X i _ y
 obtain⟨P,g,d,R,S⟩:=b
 repeat (first|with_reducible refine Iu z ?_|with_reducible refine Iu n ?_|(with_reducible refine Ky n ?_;rw [j]) |wp_step)
 exact wpAny_raiseNew_none o B
section
variable {u:U}
set_option tactic.hygienic true in
theorem wa {f:GW} (kx:∀w:Hk,kD (u.Kf w.params) u.te f) (FX:∀w:Hk,Am (u.Kf w.params) f):rT u:=by
 revert f;delta u;delta f;intro d I x y H J k1 k2 p1 p2 p3 p4 p5 p6 p7 p8 p9 e e' hx hd b' hy c' S ns K w A c W hn g rm cf L G Y s Q X a h;revert p3 p4 p5 p6 p7 p8 p9 e e' w A c L G Y s Q X;delta d I x y H J k1 k2 p1 p2;revert w A c L G Y s Q X;delta p3 p4 p5 p6 p7 p8 p9 e e';revert L G Y s Q X;delta w A c;delta L G Y s Q X;subst c'
 have k:=kx w
 obtain⟨mg,hg,hv,_⟩:=g.globals;delta mg
 have h1:s.heap.Ns c.env.globals mg:=by rw [W.glob];exact hg.keeps a.inv.stays
 rw [arm_exec_Raise];refine Gy (HT (vV k rm.handled (Gy (G4 (Jp (HZ W.kind (by unfold Io;rw [hn];exact hx) (Jo h1 (hv x _ b') ?_) hd)) (fun v i' M=>Gy (HT (GV M))) fun Z Z x=>x))))
 refine KZ (P:=(u.Kf w.params).In) rfl (nY k.kp) (J2 (JA ?_));refine Ow (Ow (L5 (cJ hy (by decide) (by decide+kernel) (by decide+kernel) ns (.inr ⟨"str",rfl⟩) W hn g (a.tok _) (az S W hn g rm (a.tok _) h fun v B C p z l j' N O=>?_))))
 delta v B C p z;obtain⟨i,rfl,i0,i1,hX⟩:=O;delta i;obtain⟨t,rfl⟩:=aE N;delta t
 have R:(Hr (Lq i)).length<=10:=toString_length_le i0 (by decide) (by omega)
 have sz:J1=J1:=rfl
 refine P.str_of_int ?_ (Mi (fun t' tk=>L5 (Mi (fun F d'=>KW ?_) ?_)) ?_)
 ·by_cases q:i.natAbs=0
  ·rw [q];decide
  ·have:=(NE q).mpr (show i.natAbs<2^30 by omega)
   exact(l1 0x1ce91801c0989780) this
 ·delta tk F d'
  have D:(u.Kf w.params).In B.heap:=g.inK.keeps l.inv.stays
  refine⟨D,?_⟩;obtain⟨r,gs,dr,f',os⟩:=B;delta r gs dr f' os
  have st:=l.inv.stays
  have E:r.get? (r.objs.size+1)=Gw:=by
   cases e:r.get? (r.objs.size+1) with
   |none=>rfl
   |some o=>exact absurd (HB e) (HQ.mpr (Hn _))
  have kp:∀b o,r.get? b=Gu o->((r.push {cls:=.type "tuple",data:=.seq [Qa (H++Str.ofString (Lq i)++J) F].toArray}).push (b5 u.te r.objs.size Gw)).get? b=Gu o:=fun b o e=>GU _ (GU _ e)
  have T:((r.push {cls:=.type "tuple",data:=.seq [Qa (H++Str.ofString (Lq i)++J) F].toArray}).push (b5 u.te r.objs.size Gw)).get? (r.objs.size+1)=Gu (b5 u.te r.objs.size Gw):=by heap_get
  have g':(A.under (.builtin "type.__call__" ⟨[.ref u.te,.str (H++Str.ofString (Lq i)++J) F],[]⟩)).depth<KS:=by
   have h1:=rm.depth
   have h2:KS=1000:=rfl
   show A.depth+1<KS
   exact(l3 0x1b498938749187209d89e93811c17180) h1 h2
  refine Kb (ui D k (by simp [JS]) (zl (t₀:=r.objs.size) g st k (FX w) E kp T g' fun s' t' dx kk gx gg oo=>⟨rfl,?_⟩))
  have n:At c L C p s':=by
   have:=l.grow (h':=s'.heap) (t:=s'.toks) kk
   exact⟨this.inv,this.envr,this.adv,gg.trans l.gens,oo.trans l.os,this.pins⟩
  have U:=l.free E
  have V:=n.toOwn ⟨_,gx⟩ ⟨U.1.1,U.1.2.1⟩ fun j hj b hb=>by
   rcases hb with rfl|rfl
   ·exact(U.2.1 j hj).1
   ·exact(U.2.1 j hj).2
  obtain⟨m,hm,_⟩:=n.envr;refine⟨_,_,_,rfl,D.keeps kk,gx,C,p,[r.objs.size+1],V.inv,n.adv,n.gens,n.os,⟨_,_,_,rfl,gx,rfl,rfl,.inl ⟨rfl,rfl⟩⟩,fun b hb=>?_,⟨m,hm⟩,hX⟩;rw [GI.mp hb];exact U.2.2
 ·rw [Str.length_append]
  have e1:(H.cps.size:Nat)=H.length:=rfl
  have e2:(J.cps.size:Nat)=J.length:=rfl
  rw [JS];exact(l5 0x1b89e9387349d049d231ba811b0909090909091872710) K e1 e2 R
 ·have e1:(H.cps.size:Nat)=H.length:=rfl
  rw [JS];exact(l4 0x1b89e9387329d021ba811b09090909090918710) K e1 R
end
end
noncomputable def vN (K:I5) (b:Kp) (F:Fn) (xs:List He):Bool:=(b.scope.kind==.function)&&(!b.scope.isCoroutine&&(!b.scope.isGenerator&&(b.globals==IC&&(b.builtins==KP&&(b.closure.isEmpty&&(codeIn K b.code b.qualname&&
 (GL (b.scope.names.map (·.1)).Nodup&&(GL xs.Nodup&&(slots b.scope.names xs F.ks&&GL (b.scope.names.length=F.n))))))))))
noncomputable def CP (K:I5):GB->M1
 |.ref T=>match K.lookup T with
  |some ⟨_,_,.seq ⟨[.int _ t]⟩ _,_⟩=>t
  |_=>0
 |_=>0
noncomputable def BK (K:I5) (b:Kp) (xs:List He) (n:Nat):Option Int->Prop
 |none=>True
 |some i=>iI K b xs n [.int i (CP K b.defaults)]
inductive DX (u:U) (K:I5) (f:GW) (F:Fn):Prop where
 |mk (fo:JE) (fd:Kp) (b:List IB) (e1:K.lookup f=Gu fo) (e2:fo.data=.func fd) (e3:fd.body=.stmts b) (c:vN K fd F (fd.params.args.map (·.arg))=Gx) (b0:iI K fd (fd.params.args.map (·.arg)) F.ks.length []) (b1:BK K fd (fd.params.args.map (·.arg)) (F.ks.length - 1) F.d) (S:∀d,f6 u d fd.scope.names b F.body)
theorem lF {u:U} {K:I5} {f:GW} {F:Fn} (h:DX u K f F) (d:Nat) {k:Nat} {ds:List V} (z:∀ {g xs},iI K g xs F.ks.length []->BK K g xs (F.ks.length - 1) F.d->∃e,iI K g xs k e/\∀G,VReps G ds e):tG u d K f k F.n F.ks F.body ds:=by
 revert d k ds;delta u K f F;delta d k ds;obtain⟨i,g,b,A,B,C,c,D,E,S⟩:=h;delta i g b;obtain⟨e,q,r⟩:=z D E;delta e
 have j:=aa c
 have l:=aa j.2
 have m:=aa l.2
 have n:=aa m.2
 have o:=aa n.2
 have p:=aa o.2
 have s:=aa p.2
 have t:=aa s.2
 have v:=aa t.2
 have y:=aa v.2
 exact⟨_,b,i,g,e,A,B,⟨beq_iff_eq.mp j.1,kL l.1,kL m.1,beq_iff_eq.mp n.1,beq_iff_eq.mp o.1,List.isEmpty_iff.mp p.1,C,s.1⟩,of_decide_eq_true t.1,of_decide_eq_true v.1,pc y.1,S d,of_decide_eq_true y.2,q,r⟩
theorem AZ {u:U} (g:u.T=tab) (b:∀w:Hk,∀e∈fj,DX u (u.Kf w.params) e.1 e.2):bg u where
 T:=g
 call:=fun f F j d c Q X m k h=>oF (ds:=[]) (fun w=>lF (b w _ (b6 j)) d fun n Z=>⟨[],k▸n,fun Z=>.nil⟩) (by rw [g,G1];exact h)
 callD:=fun f F i j o d c Q X m k h=>oF (ds:=[.int i]) (fun w=>lF (b w _ (b6 j)) d fun{p q} _ l=>by
  rw [o, <-k] at l;exact⟨_,l,fun G=>.cons (bz i _) .nil⟩) (by rw [g];exact h)
set_option tactic.hygienic true in
theorem jh {K:I5} {h:HY} {N:GW} {b:He->Option GB} {n:He} {v:GB} (X:K.In h) (G:h.Ns N b) (e:nsIn K N n=Gu (Gu v)):b n=Gu v:=by
 delta K h N b n v;obtain⟨o,k,l,c,d,_,f⟩:=G;unfold nsIn at e
 split at e
 ·rename_i g m p i
  have:=X _ _ i
  rw [c] at this;cases this;cases d;rw [<-f];unfold nsFind findBy;rw [<-Array.find?_toList]
  split at e
  ·rename_i q j;rw [j];exact JM e
  ·split at e<;>cases e
 ·cases e
noncomputable def CF (K:I5):Bool:=zU.all fun e=>match e.2 with
 |.ref f=>(lookC f tab.inits).isSome||keepIn K (.ref f)
 |_=>Gx
theorem lH {x:He} {v:GB} {l:List (He×GB)}:lookS x l=Gu v->(x,v)∈l:=by
 induction l with
 |nil=>
  intro h;cases h
 |cons e r b=>
  intro h;change ite _ _ _=_ at h
  split at h
  ·rename_i q;cases h;cases q;exact .head _
  ·exact .tail _ (b h)
structure tH (K:I5):Prop where
 inits:tab.inits.all (fun e=>jK K e.1 e.2)=Gx
 fields:tab.fields.all (fun e=>i7 K e.1&&e.2.all fun n=>q8 K e.1 n)=Gx
 consts:tab.consts.all (fun e=>mD K e.1.1 e.1.2 e.2)=Gx
 meths:tab.meths.all (fun e=>wE K e.1.1 e.1.2 e.2)=Gx
 kp:CF K=Gx
 sf:∀e∈D6,ClsG K e.1.1 e.1.2 e.2
 exc:ExcOK K 71
 gl:zU.all (fun e=>nsIn K IC e.1==Gu (Gu e.2))=Gx
 bi:dg.all (fun x=>nsIn K IC x==Gu Gw)=Gx
 law:nsIn K IC "law"=Gu (Gu (.ref 953))
 ex:kD K 71 36
 exF:Am K 36
noncomputable def Bo (p:Ip) (b:Params->I5):U:=⟨p,tab,b,zU,71⟩
section
variable {p:Ip} {c:Params->I5}
theorem xR (H:∀P,tH (c P)):UO (Bo p c) where
 gl:=rfl
 T:=rfl
 te:=rfl
 tab:=fun w=>⟨(H _).inits,(H _).fields,(H _).consts,(H _).meths⟩
 so:=zA
 kp:=fun w x f d b=>by
  have:=Hj.mp (H w.params).kp _ (lH d)
  have b:lookC f Mine.tab.inits=Gw:=b
  simp only [b,Option.isSome_none,MX] at this;exact this
 sf:=fun w e g=>(H w.params).sf e g
 exc:=fun w=>(H _).exc
 rs:=wa (fun w=>(H w.params).ex) fun w=>(H w.params).exF
theorem t9 (H:∀P,tH (c P)) (Q:∀ {u},UO u->∀P,∀e∈fj,DX u (c P) e.1 e.2) {w:Hk} {s:GD} {y z:He->Option GB} {A:Hi} (S:D1 A 21 []) (X:(c w.params).In s.heap) (m:s.heap.Ns IC y) (T:s.heap.Ns KP z) (B:∀x:He,x≠"__name__"->z x=KC x) (U:s.heap.NoLimit)
  (V:∃N,s.heap.Ns KO N) {L C:GW} {items:Array GB} {is:List Int} {n:Nat} (W:y "law"=Gu (.ref C)) (D:s.heap.get? L=Gu (HP items n)) (hi:KV items.toList is) (Y:is.length<=63)
  {R:MH->GD->Prop} (hR:∀d,(∀b o,s.heap.get? b=Gu o->d.heap.get? b=Gu o)->d.gens=s.gens->d.os=s.os->R (.ok (.ret (.bool Gx))) d):IT (GR p w) A (.call (.ref C) ⟨[.ref L],[]⟩) R s:=by
 have F:bg (Bo p c):=AZ rfl fun w=>Q (xR H) w.params
 have E:C=953:=by
  have:=jh X m (H _).law
  rw [W] at this;cases this<;>rfl
 subst E
 have M:=DB F (fun t h=>sV h) (X:=fun Z=>False) (σ:=⟨0,fun Z=>.dead⟩) (is:=is) ((l1 0x1bf93801b09492949f80) Y)
 have l:∀i,¬aT (⟨0,fun Z=>.dead⟩:Sg) i:=fun i h=>absurd h.1 (Mr _)
 have g:Gd (Bo p c) w s.heap:=by
  refine⟨X,⟨y,m,fun x v h=>?_,fun x G=>?_⟩,⟨z,T,fun x G=>B x ?_⟩,U⟩
  ·have:=Hj.mp (H w.params).gl _ (lH h)
   exact jh X m (beq_iff_eq.mp this)
  ·have:=Hj.mp (H w.params).bi _ G
   exact ns_none_of X m (beq_iff_eq.mp this)
  ·have h:dg.all (fun x=>GL (x≠"__name__"))=Gx:=by decide+kernel
   exact of_decide_eq_true (Hj.mp h x G)
 obtain⟨N,om,es,ep,O,I,_⟩:=V
 have ne:L≠KO:=fun q=>by
  rw [q,O] at D;cases D;cases I
 have iv:ff s.heap [] [] ⟨0,fun Z=>0,fun Z=>0,fun a=>if a=L then Gu (HP items n) else Gw⟩ ⟨0,fun Z=>.dead⟩ s.heap:=by
  refine⟨rfl,fun Z Z e=>e,trivial,fun i h=>absurd h (l i),fun i h=>absurd h (l i),fun i h=>absurd h (l i),fun i j h=>absurd h (l i),fun a o e=>?_,fun b h=>(nomatch h),fun e h=>(nomatch h),⟨om,O⟩,if_neg (Hz ne)⟩;simp only at e
  split at e
  ·rename_i q;cases e;rw [q];exact D
  ·cases e
 have rv:VReps ⟨0,fun Z=>0,fun Z=>0,fun a=>if a=L then Gu (HP items n) else Gw⟩ [.lst (is.map .int)] [.ref L]:=
  .cons (by exact⟨L,items,n,rfl,if_pos rfl,jI hi⟩) .nil
 refine IM (M w A s.heap [] [] _ s _ g S iv (GP _) rv) fun r d k=>?_;unfold eK at k
 split at k
 ·obtain⟨G',b',x,c',av,J,K,rx,rfl⟩:=k;cases gP rx;refine hR d (fun b o e=>?_) J K;obtain⟨o',e',h⟩:=av.keep b o e fun i h=>absurd h (l i);rcases h with rfl|⟨h,_⟩
  ·exact e'
  ·cases h
 ·exact k.elim
 ·obtain⟨_,_,_,_,_,_,_,_,_,f⟩:=k;exact f.elim
end
noncomputable section
universe v1
variable {i β:Type}
theorem bD {p:Prop} [Decidable p] {f:p->Bool} (h:(if x:p then f x else Gz)=Gx):p:=by
 by_cases q:p
 ·exact q
 ·rw [dif_neg q] at h;cases h
noncomputable def o0 (l:List i) (b:Bool):Bool:=Ib l b fun Z Z=>Gz
noncomputable def oC (l:List i) (f:i->List i->Bool):Bool:=Ib l Gz f
noncomputable def o1 (l:List i) (f:i->Bool):Bool:=oC l fun a r=>o0 r (f a)
noncomputable def o2 (l:List i) (f:i->i->Bool):Bool:=oC l fun a r=>o1 r (f a)
noncomputable def oS (o:Option i) (f:i->Bool):Bool:=Kk o Gz f
noncomputable def oN (o:Option i) (b:Bool):Bool:=Kk o b fun Z=>Gz
@[elab_as_elim] theorem db {l:List i} {b:Bool} {P:List i->Prop} (h:o0 l b=Gx) (k:b=Gx->P []):P l:=Ib (motive:=fun l=>o0 l b=Gx->P l) l k (fun Z Z h=>nomatch h) h
@[elab_as_elim] theorem kP {l:List i} {f:i->List i->Bool} {P:List i->Prop} (h:oC l f=Gx) (k:∀a r,f a r=Gx->P (a::r)):P l:=Ib (motive:=fun l=>oC l f=Gx->P l) l (fun h=>nomatch h) k h
@[elab_as_elim] theorem aW {l:List i} {f:i->Bool} {P:List i->Prop} (h:o1 l f=Gx) (k:∀a,f a=Gx->P [a]):P l:=kP h fun a Z h=>db (P:=fun r=>P (a::r)) h (k a)
@[elab_as_elim] theorem dI {l:List i} {f:i->i->Bool} {P:List i->Prop} (h:o2 l f=Gx) (k:∀a b,f a b=Gx->P [a,b]):P l:=kP h fun a Z h=>aW (P:=fun r=>P (a::r)) h (k a)
@[elab_as_elim] theorem lh {o:Option i} {f:i->Bool} {P:Option i->Prop} (h:oS o f=Gx) (k:∀a,f a=Gx->P (Gu a)):P o:=Kk (motive:=fun l=>oS l f=Gx->P l) o (fun h=>nomatch h) k h
@[elab_as_elim] theorem kT {o:Option i} {b:Bool} {P:Option i->Prop} (h:oN o b=Gx) (k:b=Gx->P Gw):P o:=Kk (motive:=fun l=>oN l b=Gx->P l) o k (fun Z h=>nomatch h) h
noncomputable def oY (e:GZ) (f:BoolOp->List GZ->HR->Bool):Bool:=if h:e.ctorIdx=0 then M6 (motive_1:=fun Z=>Bool) e h f else Gz
noncomputable def sN (e:GZ) (f:GZ->Ls->GZ->HR->Bool):Bool:=if h:e.ctorIdx=2 then Nu (motive_1:=fun Z=>Bool) e h f else Gz
noncomputable def Fu (e:GZ) (f:UnaryOp->GZ->HR->Bool):Bool:=if h:e.ctorIdx=3 then MS (motive_1:=fun Z=>Bool) e h f else Gz
noncomputable def FD (e:GZ) (f:GZ->GZ->GZ->HR->Bool):Bool:=if h:e.ctorIdx=5 then Nv (motive_1:=fun Z=>Bool) e h f else Gz
noncomputable def qM (e:GZ) (f:List (Option GZ)->List GZ->HR->Bool):Bool:=if h:e.ctorIdx=6 then NM (motive_1:=fun Z=>Bool) e h f else Gz
noncomputable def Cy (e:GZ) (f:GZ->List JI->IS->HR->Bool):Bool:=if h:e.ctorIdx=8 then Ms (motive_1:=fun Z=>Bool) e h f else Gz
noncomputable def FV (e:GZ) (f:GZ->GZ->List JI->IS->HR->Bool):Bool:=if h:e.ctorIdx=10 then Mt (motive_1:=fun Z=>Bool) e h f else Gz
noncomputable def lL (e:GZ) (f:GZ->List CmpOp->List GZ->HR->Bool):Bool:=if h:e.ctorIdx=15 then MT (motive_1:=fun Z=>Bool) e h f else Gz
noncomputable def rW (e:GZ) (f:GZ->List GZ->List J3->HR->Bool):Bool:=if h:e.ctorIdx=16 then NN (motive_1:=fun Z=>Bool) e h f else Gz
noncomputable def fW (e:GZ) (f:OE->Nat->HR->Bool):Bool:=if h:e.ctorIdx=19 then Mu (motive_1:=fun Z=>Bool) e h f else Gz
noncomputable def z9 (e:GZ) (f:GZ->He->HR->Bool):Bool:=if h:e.ctorIdx=20 then L9 (motive_1:=fun Z=>Bool) e h f else Gz
noncomputable def nQ (e:GZ) (f:GZ->GZ->HR->Bool):Bool:=if h:e.ctorIdx=21 then Ma (motive_1:=fun Z=>Bool) e h f else Gz
noncomputable def fg (e:GZ) (f:He->HR->Bool):Bool:=if h:e.ctorIdx=23 then NO (motive_1:=fun Z=>Bool) e h f else Gz
noncomputable def Fo (e:GZ) (f:List GZ->HR->Bool):Bool:=if h:e.ctorIdx=24 then NP (motive_1:=fun Z=>Bool) e h f else Gz
noncomputable def CA (e:GZ) (f:List GZ->Nat->HR->Bool):Bool:=if h:e.ctorIdx=25 then Nw (motive_1:=fun Z=>Bool) e h f else Gz
noncomputable def D9 (e:GZ) (f:Option GZ->Option GZ->Option GZ->HR->Bool):Bool:=if h:e.ctorIdx=26 then Nx (motive_1:=fun Z=>Bool) e h f else Gz
@[elab_as_elim] theorem dk {a b:i} [Decidable (a=b)] {P:i->Prop} (h:GL (a=b)=Gx) (k:P b):P a:=of_decide_eq_true h▸k
variable {e:GZ} {P:GZ->Prop}
@[elab_as_elim] theorem jv {f} (h:oY e f=Gx) (k:∀a b c,f a b c=Gx->P (.BoolOp a b c)):P e:=M6 (motive_1:=fun e=>oY e f=Gx->P e) e (bD h) k h
@[elab_as_elim] theorem iX {f} (h:sN e f=Gx) (k:∀a b c d,f a b c d=Gx->P (.BinOp a b c d)):P e:=Nu (motive_1:=fun e=>sN e f=Gx->P e) e (bD h) k h
@[elab_as_elim] theorem Ay {f} (h:Fu e f=Gx) (k:∀a b c,f a b c=Gx->P (.UnaryOp a b c)):P e:=MS (motive_1:=fun e=>Fu e f=Gx->P e) e (bD h) k h
@[elab_as_elim] theorem AH {f} (h:FD e f=Gx) (k:∀a b c d,f a b c d=Gx->P (.IfExp a b c d)):P e:=Nv (motive_1:=fun e=>FD e f=Gx->P e) e (bD h) k h
@[elab_as_elim] theorem oX {f} (h:qM e f=Gx) (k:∀a b c,f a b c=Gx->P (.Dict a b c)):P e:=NM (motive_1:=fun e=>qM e f=Gx->P e) e (bD h) k h
@[elab_as_elim] theorem lJ {f} (h:Cy e f=Gx) (k:∀a b c d,f a b c d=Gx->P (.ListComp a b c d)):P e:=Ms (motive_1:=fun e=>Cy e f=Gx->P e) e (bD h) k h
@[elab_as_elim] theorem Be {f} (h:FV e f=Gx) (k:∀a b c d g,f a b c d g=Gx->P (.DictComp a b c d g)):P e:=Mt (motive_1:=fun e=>FV e f=Gx->P e) e (bD h) k h
@[elab_as_elim] theorem eE {f} (h:lL e f=Gx) (k:∀a b c d,f a b c d=Gx->P (.Compare a b c d)):P e:=MT (motive_1:=fun e=>lL e f=Gx->P e) e (bD h) k h
@[elab_as_elim] theorem wW {f} (h:rW e f=Gx) (k:∀a b c d,f a b c d=Gx->P (.Call a b c d)):P e:=NN (motive_1:=fun e=>rW e f=Gx->P e) e (bD h) k h
@[elab_as_elim] theorem bM {f} (h:fW e f=Gx) (k:∀a b c,f a b c=Gx->P (.Constant a b c)):P e:=Mu (motive_1:=fun e=>fW e f=Gx->P e) e (bD h) k h
@[elab_as_elim] theorem iz {f} (h:z9 e f=Gx) (k:∀a b c,f a b c=Gx->P (.Attribute a b c)):P e:=L9 (motive_1:=fun e=>z9 e f=Gx->P e) e (bD h) k h
@[elab_as_elim] theorem fS {f} (h:nQ e f=Gx) (k:∀a b c,f a b c=Gx->P (.Subscript a b c)):P e:=Ma (motive_1:=fun e=>nQ e f=Gx->P e) e (bD h) k h
@[elab_as_elim] theorem aQ {f} (h:fg e f=Gx) (k:∀a b,f a b=Gx->P (.Name a b)):P e:=NO (motive_1:=fun e=>fg e f=Gx->P e) e (bD h) k h
@[elab_as_elim] theorem BS {f} (h:Fo e f=Gx) (k:∀a b,f a b=Gx->P (.List a b)):P e:=NP (motive_1:=fun e=>Fo e f=Gx->P e) e (bD h) k h
@[elab_as_elim] theorem lP {f} (h:CA e f=Gx) (k:∀a b c,f a b c=Gx->P (.Tuple a b c)):P e:=Nw (motive_1:=fun e=>CA e f=Gx->P e) e (bD h) k h
@[elab_as_elim] theorem vS {f} (h:D9 e f=Gx) (k:∀a b c d,f a b c d=Gx->P (.Slice a b c d)):P e:=Nx (motive_1:=fun e=>D9 e f=Gx->P e) e (bD h) k h
end
noncomputable section
noncomputable def qq (l:List GZ):Bool:=l.all fun e=>!Hw e.ctorIdx 22
theorem dP {l:List GZ} (h:qq l=Gx):noStar l:=by
 induction l with
 |nil=>trivial
 |cons e r b=>
  refine⟨?_,b (aa h).2⟩
  have h:=(aa h).1
  cases e<;>first|exact fun Z Z=>rfl|cases h
theorem mQ {e:GZ} (h:(!Hw e.ctorIdx 7)=Gx):hY e:=by cases e<;>first|exact fun Z=>rfl|cases h
theorem i8 {e:GZ} (h:(!Hw e.ctorIdx 7)=Gx):fy e:=by cases e<;>first|exact fun Z Z=>rfl|cases h
noncomputable def D3 (e:GZ):Bool:=bif Hw e.ctorIdx 16 then rW e fun g b Z Z=>fg g fun Z Z=>oC b fun Z Z=>Gx else Gx
theorem Gi {a ks p} {b:List GZ} (h:fg a (fun Z Z=>oC b fun Z Z=>Gx)=Gx):da (.Call a b ks p):=aQ h fun Z Z h=>kP h fun Z Z Z Z Z Z=>rfl
theorem mG {e:GZ} (h:D3 e=Gx):da e:=by cases e<;>first|exact fun Z Z Z=>rfl|exact Gi h
theorem wP {e:GZ} (h:(!Hw e.ctorIdx 26)=Gx):mW e:=by cases e<;>first|exact fun Z Z=>rfl|cases h
noncomputable def Cw (e:GZ):Bool:=!Hw e.ctorIdx 8&&(!Hw e.ctorIdx 9&& !Hw e.ctorIdx 10)
theorem oh {e:GZ} (h:Cw e=Gx):b9 e:=by cases e<;>first|exact fun Z Z Z=>rfl|cases h
noncomputable def FA (e:GZ):Bool:=bif Hw e.ctorIdx 15 then lL e fun Z b c Z=>o1 b fun Z=>o1 c fun Z=>Gx else bif Hw e.ctorIdx 23 then fg e fun Z Z=>Gx else bif Hw e.ctorIdx 21 then nQ e fun Z Z Z=>Gx else sN e fun Z Z Z Z=>Gx
theorem bf {c a b:Bool} {G:Prop} (h:(bif c then a else b)=Gx) (k:a=Gx->G) (d:c=Gz->b=Gx->G):G:=match c with
 |true=>k h
 |false=>d rfl h
theorem Aa {e:GZ} (h:FA e=Gx):eo e:=bf h (fun h=>eE h fun a b c p h=>aW h fun o h=>aW h fun r Z=>.inr ⟨_,_,_,_,rfl⟩) fun Z h=>bf h (fun h=>aQ h fun Z Z Z=>.inl fun Z Z=>rfl) fun Z h=>bf h (fun h=>fS h fun Z Z Z Z=>.inl fun Z Z=>rfl) fun Z h=>iX h fun Z Z Z Z Z=>.inl fun Z Z=>rfl
variable {u:U} {d:Nat} {N:Ns}
noncomputable def Cz (r:GZ->E->Bool) (l:List GZ):List E->Bool:=Jg (fun b=>Ib b Gx fun Z Z=>Gz) (fun e Z t b=>Ib b Gz fun c q=>r e c&&t q) l
theorem jq {r:GZ->E->Bool} (f:∀e c,r e c=Gx->ao u d N e c) {l:List GZ}:∀b,Cz r l b=Gx->SndEs u d N l b:=by
 induction l with
 |nil=>exact fun b=>Ib b (fun Z=>trivial) fun Z Z h=>nomatch h
 |cons e t g=>exact fun b=>Ib b (fun h=>nomatch h) fun c q h=>⟨f _ _ (aa h).1,g q (aa h).2⟩
noncomputable def sW (l:List JI) (f:He->HR->GZ->Bool):Bool:=o1 l fun g=>fg g.target fun x p=>o0 g.ifs (GL (g.is_async=0)&&f x p g.iter)
@[elab_as_elim] theorem gG {l:List JI} {f} {P:List JI->Prop} (h:sW l f=Gx) (k:∀x p i,f x p i=Gx->P [⟨.Name x p,i,[],0⟩]):P l:=aW h fun⟨t,i,b,a⟩ h=>aQ (show fg t (fun x p=>o0 b (GL (a=0)&&f x p i))=Gx from h) fun x p h=>db h fun h=>dk (aa h).1 (k _ _ _ (aa h).2)
noncomputable def pK (e:GZ) (f:GZ->List GZ->HR->Bool):Bool:=rW e fun g b c p=>o0 c (f g b p)
@[elab_as_elim] theorem cj {e:GZ} {f} {P:GZ->Prop} (h:pK e f=Gx) (k:∀a b p,f a b p=Gx->P (.Call a b [] p)):P e:=wW h fun a b c p h=>db h (k a b p)
noncomputable def zS (r:Ns->GZ->E->Bool) (N:Ns) (s:He) (e:GZ) (b:List E):Bool:=o1 b fun c=>pK e fun g f p=>fg g fun x Z=>o1 f fun a=>rQ N x s&&(qq [a]&&r N a c)
noncomputable def FT (r:Ns->GZ->E->Bool) (N:Ns) (s:He) (e:GZ) (c:List E):Bool:=o2 c fun f i=>pK e fun g j p=>fg g fun x Z=>o2 j fun a b=>rQ N x s&&(qq [a,b]&&(r N a f&&r N b i))
noncomputable def Cv (e:GZ) (s:He) (f:GZ->List GZ->Bool):Bool:=pK e fun g b p=>z9 g fun o x c=>D3 o&&(GL (x=s)&&((c.endLine==p.line)&&f o b))
noncomputable def CN (r:Ns->GZ->E->Bool) (N:Ns) (e:GZ) (f:List E):mj->Bool
 |.tup=>CA e fun l Z Z=>qq l&&Cz (r N) l f
 |.lst=>Fo e fun l Z=>qq l&&Cz (r N) l f
 |.dct0=>o0 f (qM e fun ks vs Z=>o0 ks (o0 vs Gx))
 |.attr n=>o1 f fun a=>z9 e fun o x Z=>D3 o&&(GL (nm n=x)&&r N o a)
 |.idx=>o2 f fun a b=>nQ e fun x y Z=>!Hw y.ctorIdx 26&&(r N x a&&r N y b)
 |.from1=>o1 f fun a=>nQ e fun l s Z=>fg l fun n q=>D9 s fun x y z Z=>oS x fun x=>fW x fun c Z Z=>oN y (oN z (GL (c=.int 1)&&r N (.Name n q) a))
 |.upto24=>o1 f fun a=>nQ e fun l s Z=>fg l fun n q=>D9 s fun x y z Z=>oS y fun y=>fW y fun c Z Z=>oN x (oN z (GL (c=.int 24)&&r N (.Name n q) a))
 |.bin op=>o2 f fun a b=>sN e fun x o y Z=>GL (o=op.m)&&(r N x a&&r N y b)
 |.rel op=>o2 f fun a b=>lL e fun x i j Z=>o1 i fun o=>o1 j fun y=>GL (o=op.m)&&(!Hw y.ctorIdx 7&&(r N x a&&r N y b))
 |.isNone=>o1 f fun a=>lL e fun x i j Z=>o1 i fun o=>o1 j fun y=>fW y fun c Z Z=>GL (c=.none)&&(GL (o=.Is)&&r N x a)
 |.notNone=>o1 f fun a=>lL e fun x i j Z=>o1 i fun o=>o1 j fun y=>fW y fun c Z Z=>GL (c=.none)&&(GL (o=.IsNot)&&r N x a)
 |.inn=>o2 f fun a b=>lL e fun x i j Z=>o1 i fun o=>o1 j fun y=>GL (o=.In)&&(!Hw y.ctorIdx 7&&(r N x a&&r N y b))
 |.notIn=>o2 f fun a b=>lL e fun x i j Z=>o1 i fun o=>o1 j fun y=>GL (o=.NotIn)&&(!Hw y.ctorIdx 7&&(r N x a&&r N y b))
 |.not=>Gz
 |.app=>Gz
 |.pop=>o1 f fun a=>Cv e "pop" fun o k=>o0 k (r N o a)
 |.rev=>o1 f fun a=>Cv e "reverse" fun o k=>o0 k (r N o a)
 |.sortedKeys=>o1 f fun a=>pK e fun g k p=>fg g fun x Z=>o1 k fun b=>rQ N x "sorted"&&Cv b "keys" fun o m=>o0 m (r N o a)
 |.get=>Gz
 |.len=>zS r N "len" e f
 |.sorted=>zS r N "sorted" e f
 |.tupleOf=>zS r N "tuple" e f
 |.intOf=>zS r N "int" e f
 |.abs=>zS r N "abs" e f
 |.sum=>zS r N "sum" e f
 |.ord=>zS r N "ord" e f
 |.max=>FT r N "max" e f
 |.min=>FT r N "min" e f
section
variable {r:Ns->GZ->E->Bool} (ih:∀N e e',r N e e'=Gx->ao u d N e e') {e:GZ} {i:List E}
include ih
theorem f4 {s:He} {q:List E->E} (h:zS r N s e i=Gx) (k:∀ {x c pos a b},N.lookup x=Gu .globalImplicit->x=s->ao u d N a b->noStar [a]->ao u d N (.Call (.Name x c) [a] [] pos) (q [b])):ao u d N e (q i):=
 aW h fun b h=>cj h fun g f p h=>aQ h fun x c h=>aW h fun a h=>k (cY (aa h).1).1 (cY (aa h).1).2 (ih _ _ _ (aa (aa h).2).2) (dP (aa (aa h).2).1)
theorem uM {s:He} {q:List E->E} (h:FT r N s e i=Gx) (k:∀ {x j pos a c b f},N.lookup x=Gu .globalImplicit->x=s->ao u d N a c->ao u d N b f->noStar [a,b]->ao u d N (.Call (.Name x j) [a,b] [] pos) (q [c,f])):ao u d N e (q i):=
 dI h fun c f h=>cj h fun g l p h=>aQ h fun x j h=>dI h fun a b h=>
  k (cY (aa h).1).1 (cY (aa h).1).2 (ih _ _ _ (aa (aa (aa h).2).2).1) (ih _ _ _ (aa (aa (aa h).2).2).2) (dP (aa (aa h).2).1)
omit ih in
@[elab_as_elim] theorem jE {s:He} {f:GZ->List GZ->Bool} {P:GZ->Prop} (h:Cv e s f=Gx) (k:∀ {o x ap p as},da o->x=s->(ap.endLine==p.line)=Gx->f o as=Gx->P (.Call (.Attribute o x ap) as [] p)):P e:=
 cj h fun g as p h=>iz h fun o x ap h=>k (mG (aa h).1) (of_decide_eq_true (aa (aa h).2).1) (aa (aa (aa h).2).2).1 (aa (aa (aa h).2).2).2
theorem xP (m:UO u) (p:mj) (h:CN r N e i p=Gx):ao u d N e (.op p i):=by
 cases p with
 |tup=>exact lP h fun l k p h=>yx (jq (ih N) _ (aa h).2) (dP (aa h).1)
 |lst=>exact BS h fun l p h=>xT (jq (ih N) _ (aa h).2) (dP (aa h).1)
 |dct0=>exact db h fun h=>oX h fun D E p h=>db h fun h=>db h fun Z=>vA
 |attr n=>exact aW h fun a h=>iz h fun o x p h=>Ap m (ih _ _ _ (aa (aa h).2).2) (mG (aa h).1) (aa (aa h).2).1
 |idx=>exact dI h fun a b h=>fS h fun x y p h=>zj (ih _ _ _ (aa (aa h).2).1) (ih _ _ _ (aa (aa h).2).2) (wP (aa h).1)
 |from1=>exact aW h fun a h=>fS h fun l s p h=>aQ h fun x q h=>vS h fun y z w q h=>lh h fun y h=>bM h fun c k p h=>kT h fun h=>kT h fun h=>dk (aa h).1 (sy (ih _ _ _ (aa h).2))
 |upto24=>exact aW h fun a h=>fS h fun l s p h=>aQ h fun x q h=>vS h fun y z w q h=>lh h fun y h=>bM h fun c k p h=>kT h fun h=>kT h fun h=>dk (aa h).1 (qF (ih _ _ _ (aa h).2))
 |bin v=>exact dI h fun a b h=>iX h fun x o y p h=>DO (ih _ _ _ (aa (aa h).2).1) (ih _ _ _ (aa (aa h).2).2) (of_decide_eq_true (aa h).1)
 |rel v=>exact dI h fun a b h=>eE h fun x f j p h=>aW h fun o h=>aW h fun y h=>CO (ih _ _ _ (aa (aa (aa h).2).2).1) (ih _ _ _ (aa (aa (aa h).2).2).2) (mQ (aa (aa h).2).1) (of_decide_eq_true (aa h).1)
 |isNone=>exact aW h fun a h=>eE h fun x f j p h=>aW h fun o h=>aW h fun y h=>bM h fun c k p h=>dk (aa h).1 (dk (aa (aa h).2).1 (pS (ih _ _ _ (aa (aa h).2).2)))
 |notNone=>exact aW h fun a h=>eE h fun x f j p h=>aW h fun o h=>aW h fun y h=>bM h fun c k p h=>dk (aa h).1 (dk (aa (aa h).2).1 (oO (ih _ _ _ (aa (aa h).2).2)))
 |inn=>exact dI h fun a b h=>eE h fun x f j p h=>aW h fun o h=>aW h fun y h=>dk (aa h).1 (Bu (ih _ _ _ (aa (aa (aa h).2).2).1) (ih _ _ _ (aa (aa (aa h).2).2).2) (mQ (aa (aa h).2).1))
 |notIn=>exact dI h fun a b h=>eE h fun x f j p h=>aW h fun o h=>aW h fun y h=>dk (aa h).1 (sF (ih _ _ _ (aa (aa (aa h).2).2).1) (ih _ _ _ (aa (aa (aa h).2).2).2) (mQ (aa (aa h).2).1))
 |not=>exact nomatch (h:Gz=Gx)
 |app=>exact nomatch (h:Gz=Gx)
 |pop=>exact aW h fun a h=>jE h fun b x l h=>db h fun h=>yF (ih _ _ _ h) b x l
 |rev=>exact aW h fun a h=>jE h fun b x l h=>db h fun h=>zI (ih _ _ _ h) b x l
 |sortedKeys=>exact aW h fun a h=>cj h fun g F p h=>aQ h fun x G h=>aW h fun b h=>jE (aa h).2 fun A B C t=>db t fun t=>jz m.so (cY (aa h).1).1 (cY (aa h).1).2 (ih _ _ _ t) A B C
 |get=>exact nomatch (h:Gz=Gx)
 |len=>exact f4 ih (q:=.op .len) h w8
 |sorted=>exact f4 ih (q:=.op .sorted) h (pU m.so)
 |tupleOf=>exact f4 ih (q:=.op .tupleOf) h nG
 |intOf=>exact f4 ih (q:=.op .intOf) h tu
 |abs=>exact f4 ih (q:=.op .abs) h yX
 |sum=>exact f4 ih (q:=.op .sum) h yH
 |ord=>exact f4 ih (q:=.op .ord) h zD
 |max=>exact uM ih (q:=.op .max) h xC
 |min=>exact uM ih (q:=.op .min) h yu
end
end
noncomputable section
variable {u:U} {d:Nat} {N:Ns}
noncomputable def Di (c:OE) (f:Int->Bool):Bool:=OV c Gz (fun Z=>Gz) f (fun Z=>Gz) (fun Z Z=>Gz) (fun Z=>Gz) (fun Z=>Gz) Gz
@[elab_as_elim] theorem xZ {c:OE} {f} {P:OE->Prop} (h:Di c f=Gx) (k:∀i,f i=Gx->P (.int i)):P c:=by
 cases c with
 |int i=>exact k i h
 |_=>exact nomatch (h:Gz=Gx)
noncomputable def FZ (N:Ns) (e:GZ):V->Bool
 |.none=>fW e fun c Z Z=>GL (c=.none)
 |.bool b=>fW e fun c Z Z=>GL (c=.bool b)
 |.int i=>bif Hw e.ctorIdx 19 then fW e fun c Z Z=>GL (c=.int i) else bif Hw e.ctorIdx 23 then fg e fun x Z=>DZ N x&&Au (lookS x zU) i else Fu e fun o a Z=>fW a fun c Z Z=>GL (o=.USub)&&Di c fun j=>GL (i= -j)
 |.str k=>fW e fun c Z Z=>GL (c=.str (nm k))
 |.tup _=>Gz
 |.lst _=>Gz
 |.obj _ _ _=>Gz
 |.dic _ _=>Gz
 |.ref _=>Gz
theorem Ak (f:UO u) {e:GZ} (v:V) (h:FZ N e v=Gx):ao u d N e (.const v):=by
 cases v with
 |none=>exact bM h fun c k p h=>dk h wD
 |bool b=>exact bM h fun c k p h=>dk h nu
 |int i=>exact bf h (fun h=>bM h fun c k p h=>dk h xI) fun Z h=>bf h (fun h=>aQ h fun x p h=>BG f h) fun Z h=>Ay h fun o a p h=>bM h fun c k q h=>dk (aa h).1 (xZ (aa h).2 fun j h=>dk h uz)
 |str k=>exact bM h fun c k p h=>dk h (x8 rfl)
 |_=>exact nomatch (h:Gz=Gx)
noncomputable def DY (r:Ns->GZ->E->Bool) (N:Ns) (e:IS) (b:List (Option Nat)) (t:Nat) (f:GZ) (c:E) (x:He):Bool:=fk N e b t x&&r (dC e) f c
noncomputable def DQ (r:Ns->GZ->E->Bool) (N:Ns) (e:GZ):E->Bool
 |.const v=>FZ N e v
 |.loc k=>fg e fun x Z=>Ds N x k
 |.op p m=>CN r N e m p
 |.and a b=>oY e fun o vs Z=>o2 vs fun x y=>GL (o=.And)&&(r N x a&&r N y b)
 |.or a b=>oY e fun o vs Z=>o2 vs fun x y=>GL (o=.Or)&&(r N x a&&r N y b)
 |.ite c a b=>FD e fun x y z Z=>FA x&&(r N x c&&(r N y a&&r N z b))
 |.chain _ _ _=>Gz
 |.tsorted a=>pK e fun g j Z=>fg g fun y Z=>o1 j fun b=>pK b fun g j Z=>fg g fun x Z=>o1 j fun b=>rQ N x "sorted"&&(rQ N y "tuple"&&(qq [b]&&r N b a))
 |.app o b=>Cv e "append" fun x j=>o1 j fun y=>qq [y]&&(r N x o&&r N y b)
 |.getD o a b=>Cv e "get" fun x j=>o2 j fun y z=>qq [y,z]&&(r N x o&&(r N y a&&r N z b))
 |.dct1 k v=>qM e fun ks vs Z=>o1 ks fun x=>oS x fun x=>o1 vs fun y=>r N x k&&r N y v
 |.dtrue _ _=>Gz
 |.callF f m=>pK e fun g j p=>qq j&&(Cz (r N) j m&&bif Hw g.ctorIdx 23 then fg g fun x Z=>vK N x f&&(lookC f tab.inits).isNone else z9 g fun o x A=>fg o fun y Z=>vK N y (yT y)&&(GL (lookSt (yT y) x D6=Gu f)&&(GL (j.length<20)&&A.endLine==p.line)))
 |.callM n o m=>pK e fun g j p=>z9 g fun x s A=>D3 x&&(qq j&&((GL (nm n=s)&&(GL (j.length<20)&&A.endLine==p.line))&&(r N x o&&Cz (r N) j m)))
 |.callC C m=>pK e fun g j Z=>fg g fun x Z=>qq j&&(Cz (r N) j m&&(vK N x C&&(lookC C tab.inits).isSome))
 |.comp l t q B=>Cy e fun D F G Z=>sW F fun x Z i=>DY r N G l t D q x&&(!Hw i.ctorIdx 7&&r N i B)
 |.compR l t q B=>Cy e fun D F G Z=>sW F fun x Z i=>pK i fun g j Z=>fg g fun y Z=>o1 j fun b=>DY r N G l t D q x&&(qq [b]&&(rQ N y "range"&&r N b B))
theorem zi {r:Ns->GZ->E->Bool} (j:∀N e m,r N e m=Gx->ao u d N e m) (l:UO u) {e:GZ} (m:E) (h:DQ r N e m=Gx):ao u d N e m:=by
 cases m with
 |const v=>exact Ak l v h
 |loc k=>exact aQ h fun x p h=>Dp h
 |op p F=>exact xP j l p h
 |and a b=>exact jv h fun o J p h=>dI h fun x y h=>dk (aa h).1 (xW (j _ _ _ (aa (aa h).2).1) (j _ _ _ (aa (aa h).2).2))
 |or a b=>exact jv h fun o J p h=>dI h fun x y h=>dk (aa h).1 (B0 (j _ _ _ (aa (aa h).2).1) (j _ _ _ (aa (aa h).2).2))
 |ite c a b=>exact AH h fun x y z p h=>have k:=aa (aa h).2;xg (j _ _ _ k.1) (Aa (aa h).1) (j _ _ _ (aa k.2).1) (j _ _ _ (aa k.2).2)
 |tsorted a=>exact cj h fun g B p h=>aQ h fun y q h=>aW h fun b h=>cj h fun g B p h=>aQ h fun x q h=>aW h fun b h=>have k:=aa (aa h).2;have A:=cY (aa h).1;have K:=cY k.1;nO l.so A.1 K.1 A.2 K.2 (j _ _ _ (aa k.2).2) (dP (aa k.2).1)
 |app o b=>exact jE h fun G A H h=>aW h fun y h=>xQ (j _ _ _ (aa (aa h).2).1) (j _ _ _ (aa (aa h).2).2) (dP (aa h).1) G A H
 |getD o a b=>exact jE h fun G A H h=>dI h fun y z h=>have k:=aa (aa h).2;zb (j _ _ _ k.1) (j _ _ _ (aa k.2).1) (j _ _ _ (aa k.2).2) (dP (aa h).1) G A H
 |dct1 k v=>exact oX h fun R J p h=>aW h fun x h=>lh h fun x h=>aW h fun y h=>t7 (j _ _ _ (aa h).1) (j _ _ _ (aa h).2)
 |callF f F=>exact cj h fun g B p h=>have k:=aa (aa h).2;have n:=dP (aa h).1;have S:=jq (j N) _ k.1;bf k.2 (fun h=>aQ h fun x q h=>zK l S n h) fun Z h=>iz h fun o x L h=>aQ h fun y q h=>zd l S n h
 |callM n o F=>exact cj h fun g B p h=>iz h fun x s L h=>have k:=aa (aa (aa h).2).2;yd l (j _ _ _ (aa k.2).1) (jq (j N) _ (aa k.2).2) (mG (aa h).1) (dP (aa (aa h).2).1) k.1
 |callC C F=>exact cj h fun g B p h=>aQ h fun x q h=>have k:=aa (aa h).2;xN l (jq (j N) _ k.1) (dP (aa h).1) k.2
 |comp D t I M=>exact lJ h fun O P Q p h=>gG h fun x q i h=>A4 (j _ _ _ (aa (aa h).1).2) (j _ _ _ (aa (aa h).2).2) (i8 (aa (aa h).2).1) (aa (aa h).1).1
 |compR D t I M=>exact lJ h fun O P Q p h=>gG h fun x q i h=>cj h fun g B p h=>aQ h fun y q h=>aW h fun b h=>have k:=aa (aa (aa h).2).2;zu (j _ _ _ (aa (aa h).1).2) (j _ _ _ k.2) (dP (aa (aa h).2).1) (G0.mpr ⟨(aa (aa h).1).1,k.1⟩)
 |_=>exact nomatch (h:Gz=Gx)
noncomputable def gk (n:Nat):Ns->GZ->E->Bool:=Mx (fun Z Z Z=>Gz) (fun Z r=>DQ r) n
theorem md (c:UO u) (n:Nat):∀N e b,gk n N e b=Gx->ao u d N e b:=by
 induction n with
 |zero=>exact fun Z Z Z h=>nomatch h
 |succ n f=>exact fun N e b h=>zi f c b h
end
noncomputable section
variable {u:U} {d:Nat} {N:Ns}
noncomputable def Ea {b:Type} (m:Kz b) (f:b->Bool):Bool:=if h:m.ctorIdx=0 then N8 (motive:=fun Z=>Bool) m h f else Gz
theorem wM {b:Type} {m m':Kz b} {f:b->Bool} {G:Prop} (e:m'=m) (h:Ea m f=Gx) (k:∀a,m'=HH a->f a=Gx->G):G:=
 N8 (motive:=fun m=>Ea m f=Gx->(∀a,m=HH a->f a=Gx->G)->G) m (bD h) (fun a h k=>k a rfl h) h (e▸k)
noncomputable def F8 (N:Ns) (s:IS) (env:J5):J5:={env with scope:={s with kind:=.function,names:=N}}
noncomputable def eN (N:Ns):J5:=F8 N O5 O5
noncomputable def E6 (e:E) (f:E->E->Bool):Bool:=if h:e.ctorIdx=3 then E.and.elim (motive_1:=fun Z=>Bool) e h f else Gz
noncomputable def FU (e:E) (f:E->E->Bool):Bool:=if h:e.ctorIdx=4 then E.or.elim (motive_1:=fun Z=>Bool) e h f else Gz
noncomputable def Ef (e:E) (f:E->E->E->Bool):Bool:=if h:e.ctorIdx=6 then E.chain.elim (motive_1:=fun Z=>Bool) e h f else Gz
noncomputable def Ex (e:E) (f:Nat->E->Bool):Bool:=if h:e.ctorIdx=11 then E.dtrue.elim (motive_1:=fun Z=>Bool) e h f else Gz
noncomputable def Fy (e:E) (f:List (Option Nat)->Nat->E->E->Bool):Bool:=if h:e.ctorIdx=15 then E.comp.elim (motive_1:=fun Z=>Bool) e h f else Gz
noncomputable def EV (e:E) (f:List (Option Nat)->Nat->E->E->Bool):Bool:=if h:e.ctorIdx=16 then E.compR.elim (motive_1:=fun Z=>Bool) e h f else Gz
section
variable {e:E} {P:E->Prop}
@[elab_as_elim] theorem Co {f} (h:E6 e f=Gx) (k:∀a b,f a b=Gx->P (.and a b)):P e:=E.and.elim (motive_1:=fun e=>E6 e f=Gx->P e) e (bD h) k h
@[elab_as_elim] theorem Bi {f} (h:FU e f=Gx) (k:∀a b,f a b=Gx->P (.or a b)):P e:=E.or.elim (motive_1:=fun e=>FU e f=Gx->P e) e (bD h) k h
@[elab_as_elim] theorem Bl {f} (h:Ef e f=Gx) (k:∀a b c,f a b c=Gx->P (.chain a b c)):P e:=E.chain.elim (motive_1:=fun e=>Ef e f=Gx->P e) e (bD h) k h
@[elab_as_elim] theorem Ba {f} (h:Ex e f=Gx) (k:∀a b,f a b=Gx->P (.dtrue a b)):P e:=E.dtrue.elim (motive_1:=fun e=>Ex e f=Gx->P e) e (bD h) k h
@[elab_as_elim] theorem BQ {f} (h:Fy e f=Gx) (k:∀a b c d,f a b c d=Gx->P (.comp a b c d)):P e:=E.comp.elim (motive_1:=fun e=>Fy e f=Gx->P e) e (bD h) k h
@[elab_as_elim] theorem AN {f} (h:EV e f=Gx) (k:∀a b c d,f a b c d=Gx->P (.compR a b c d)):P e:=E.compR.elim (motive_1:=fun e=>EV e f=Gx->P e) e (bD h) k h
end
noncomputable def wL (s:IB) (f:GZ->GZ->HR->Bool):Bool:=if h:s.ctorIdx=5 then M7 (motive_2:=fun Z=>Bool) s h fun b e p=>o1 b fun t=>f t e p else Gz
noncomputable def um (s:IB) (f:GZ->Ls->GZ->HR->Bool):Bool:=if h:s.ctorIdx=7 then Mb (motive_2:=fun Z=>Bool) s h f else Gz
noncomputable def vF (s:IB) (f:GZ->HR->Bool):Bool:=if h:s.ctorIdx=3 then M8 (motive_2:=fun Z=>Bool) s h fun v p=>oS v fun e=>f e p else Gz
noncomputable def yU (s:IB) (f:GZ->GZ->List IB->HR->Bool):Bool:=if h:s.ctorIdx=9 then N9 (motive_2:=fun Z=>Bool) s h fun t e b o p=>o0 o (f t e b p) else Gz
noncomputable def EL (s:IB) (f:GZ->List IB->HR->Bool):Bool:=if h:s.ctorIdx=11 then Ny (motive_2:=fun Z=>Bool) s h fun e b o p=>o0 o (f e b p) else Gz
noncomputable def Bb (s:IB) (f:GZ->List IB->List IB->HR->Bool):Bool:=if h:s.ctorIdx=12 then OF (motive_2:=fun Z=>Bool) s h f else Gz
noncomputable def EQ (s:IB) (f:GZ->HR->Bool):Bool:=if h:s.ctorIdx=16 then Nz (motive_2:=fun Z=>Bool) s h fun v c p=>oN c (oS v fun e=>f e p) else Gz
noncomputable def Cm (s:IB) (f:List IB->List L3->HR->Bool):Bool:=if h:s.ctorIdx=17 then Oa (motive_2:=fun Z=>Bool) s h fun b c o e p=>o0 o (o0 e (f b c p)) else Gz
noncomputable def FM (s:IB) (f:GZ->HR->Bool):Bool:=if h:s.ctorIdx=24 then NQ (motive_2:=fun Z=>Bool) s h f else Gz
noncomputable def Ft (s:IB):Bool:=if h:s.ctorIdx=27 then Mv (motive_2:=fun Z=>Bool) s h fun Z=>Gx else Gz
section
variable {s:IB} {P:IB->Prop}
@[elab_as_elim] theorem lK {f} (h:wL s f=Gx) (k:∀a b c,f a b c=Gx->P (.Assign [a] b c)):P s:=M7 (motive_2:=fun s=>wL s f=Gx->P s) s (bD h) (fun a b c h=>aW (show o1 a (fun t=>f t b c)=Gx from h) fun a h=>k a b c h) h
@[elab_as_elim] theorem lR {f} (h:um s f=Gx) (k:∀a b c d,f a b c d=Gx->P (.AugAssign a b c d)):P s:=Mb (motive_2:=fun s=>um s f=Gx->P s) s (bD h) k h
@[elab_as_elim] theorem qX {f} (h:vF s f=Gx) (k:∀a b,f a b=Gx->P (.Return (Gu a) b)):P s:=M8 (motive_2:=fun s=>vF s f=Gx->P s) s (bD h) (fun a b h=>lh (show oS a (fun t=>f t b)=Gx from h) fun a h=>k a b h) h
@[elab_as_elim] theorem qV {f} (h:yU s f=Gx) (k:∀a b c d,f a b c d=Gx->P (.For a b c [] d)):P s:=N9 (motive_2:=fun s=>yU s f=Gx->P s) s (bD h) (fun a b c o d h=>db (show o0 o (f a b c d)=Gx from h) fun h=>k a b c d h) h
@[elab_as_elim] theorem Br {f} (h:EL s f=Gx) (k:∀a b c,f a b c=Gx->P (.While a b [] c)):P s:=Ny (motive_2:=fun s=>EL s f=Gx->P s) s (bD h) (fun a b o d h=>db (show o0 o (f a b d)=Gx from h) fun h=>k a b d h) h
@[elab_as_elim] theorem xK {f} (h:Bb s f=Gx) (k:∀a b c d,f a b c d=Gx->P (.If a b c d)):P s:=OF (motive_2:=fun s=>Bb s f=Gx->P s) s (bD h) k h
@[elab_as_elim] theorem BI {f} (h:EQ s f=Gx) (k:∀a b,f a b=Gx->P (.Raise (Gu a) Gw b)):P s:=Nz (motive_2:=fun s=>EQ s f=Gx->P s) s (bD h) (fun v c p h=>kT (show oN c (oS v fun e=>f e p)=Gx from h) fun h=>lh h fun e h=>k e p h) h
@[elab_as_elim] theorem xx {f} (h:Cm s f=Gx) (k:∀a b c,f a b c=Gx->P (.Try a b [] [] c)):P s:=Oa (motive_2:=fun s=>Cm s f=Gx->P s) s (bD h) (fun b e o g p h=>db (show o0 o (o0 g (f b e p))=Gx from h) fun h=>db h fun h=>k b e p h) h
@[elab_as_elim] theorem Ag {f} (h:FM s f=Gx) (k:∀a b,f a b=Gx->P (.Expr a b)):P s:=NQ (motive_2:=fun s=>FM s f=Gx->P s) s (bD h) k h
@[elab_as_elim] theorem AR (h:Ft s=Gx) (k:∀a,P (.Continue a)):P s:=Mv (motive_2:=fun s=>Ft s=Gx->P s) s (bD h) (fun a Z=>k a) h
end
noncomputable def C3 (n:Nat) (N:Ns) (r:GZ->E->Bool) (e:GZ) (f:E):Bool:=bif Hw e.ctorIdx 0 then oY e fun o g p=>oC g fun x l=>bif l.isEmpty then o0 l (r x f) else bif Hw f.ctorIdx 3 then E6 f fun a b=>GL (o=.And)&&(r x a&&r (.BoolOp .And l p) b) else FU f fun a b=>GL (o=.Or)&&(r x a&&r (.BoolOp .Or l p) b) else
 bif Hw f.ctorIdx 6 then Ef f fun a b c=>lL e fun x i j Z=>o2 i fun o q=>o2 j fun y z=>GL (o=.LtE)&&(GL (q=.Lt)&&(!Hw z.ctorIdx 7&&(gk n N x a&&(gk n N y b&&gk n N z c)))) else jp f&&(FA e&&gk n N e f)
theorem uf {o:BoolOp} {x:GZ} {b:E} {p:HR} (h:dU u d N x b):dU u d N (.BoolOp o [x] p) b:=by cases o with
 |And=>exact su h
 |Or=>exact uy h
theorem xU {n:Nat} {r:GZ->E->Bool} (g:∀e f,r e f=Gx->dU u d N e f) {e:GZ} {f:E} (E:∀e f,gk n N e f=Gx->ao u d N e f) (h:C3 n N r e f=Gx):dU u d N e f:=bf h (fun h=>jv h fun o i p h=>kP h fun x l h=>bf h (fun h=>db h fun h=>uf (g _ _ h)) fun Z h=>bf h (fun h=>Co h fun a b h=>dk (aa h).1 (wX (g _ _ (aa (aa h).2).1) (g _ _ (aa (aa h).2).2))) fun Z h=>Bi h fun a b h=>dk (aa h).1 (yL (g _ _ (aa (aa h).2).1) (g _ _ (aa (aa h).2).2))) fun Z h=>bf h (fun h=>Bl h fun a b c h=>eE h fun x j m p h=>dI h fun o q h=>dI h fun y z h=>have k:=aa (aa (aa h).2).2;dk (aa h).1 (dk (aa (aa h).2).1 (pJ (E _ _ (aa k.2).1) (E _ _ (aa (aa k.2).2).1) (E _ _ (aa (aa k.2).2).2) (mQ k.1)))) fun Z h=>Ec (E _ _ (aa (aa h).2).2) (Aa (aa (aa h).2).1) (aa h).1
noncomputable def EO (n:Nat) (N:Ns) (m:Nat):GZ->E->Bool:=Mx (fun Z Z=>Gz) (fun Z r=>C3 n N r) m
theorem Bz (c:UO u) (n m:Nat):∀e b,EO n N m e b=Gx->dU u d N e b:=by
 induction m with
 |zero=>exact fun Z Z h=>nomatch h
 |succ m f=>exact fun e b h=>xU f (md c n N) h
end
noncomputable section
variable {u:U} {d:Nat} {N:Ns}
noncomputable def Fp (N:Ns) (l:List GZ):List Nat->Bool:=Jg (fun b=>o0 b Gx) (fun e Z r b=>oC b fun k b=>fg e fun x Z=>slot N x k&&r b) l
theorem vD {l:List GZ}:∀ {ks:List Nat},Fp N l ks=Gx->TgtAt N l ks:=by
 induction l with
 |nil=>exact fun h=>db h fun Z=>rfl
 |cons e l b=>exact fun h=>kP h fun k ks h=>aQ h fun x p h=>⟨k,ks,rfl,⟨x,p,rfl,df (aa h).1⟩,b (aa h).2⟩
noncomputable def CX (N:Ns) (e:GZ):ky->Bool
 |.loc k=>fg e fun x Z=>slot N x k
 |.locs ks=>CA e fun l Z Z=>Fp N l ks
theorem zt {e:GZ} {t:ky} (h:CX N e t=Gx):TgtOK N e t:=by
 cases t with
 |loc k=>exact aQ h fun x p h=>.name (df h)
 |locs b=>exact lP h fun l k p h=>.tup (vD h)
noncomputable def DU (r:IB->S->Bool) (l:List IB):List S->Bool:=Jg (fun b=>Ib b Gx fun Z Z=>Gz) (fun e Z t b=>Ib b Gz fun c q=>r e c&&t q) l
theorem yJ {r:IB->S->Bool} (f:∀e c,r e c=Gx->bB u d N e c) {l:List IB}:∀b,DU r l b=Gx->cP u d N l b:=by
 induction l with
 |nil=>exact fun b=>Ib b (fun Z=>uY) fun Z Z h=>nomatch h
 |cons e t g=>exact fun b=>Ib b (fun h=>nomatch h) fun c q h=>yD (f _ _ (aa h).1) (g q (aa h).2)
noncomputable def Bf (c:OE) (f:He->Bool):Bool:=OV c Gz (fun Z=>Gz) (fun Z=>Gz) (fun Z=>Gz) (fun Z Z=>Gz) f (fun Z=>Gz) Gz
@[elab_as_elim] theorem rN {c:OE} {f} {P:OE->Prop} (h:Bf c f=Gx) (k:∀i,f i=Gx->P (.str i)):P c:=by
 cases c with
 |str i=>exact k i h
 |_=>exact nomatch (h:Gz=Gx)
noncomputable def C9 (N:Ns) (n:Nat) (tg e:GZ) (k:Nat) (m:E):Bool:=fg tg fun y q=>slot N y k&&bif Hw m.ctorIdx 11 then Ex m fun t f=>FV e fun B v o p r=>fg B fun x D=>fW v fun c F G=>sW o fun z A j=>GL (c=.bool Gx)&&(GL (z=x)&&(fk N p [Gw,Gw] t x&&((!(x==("__debug__":He))&& !(x==("__classdict__":He)))&&(!Hw j.ctorIdx 7&&gk n N j f))))
 else bif Hw m.ctorIdx 15 then Fy m fun i t l f=>Cy e fun s o p r=>sW o fun x A j=>DY (gk n) N p i t s l x&&(!Hw j.ctorIdx 7&&gk n N j f)
 else EV m fun i t l f=>Cy e fun s o p r=>sW o fun x A j=>pK j fun g C Z=>fg g fun y Z=>o1 C fun b=>DY (gk n) N p i t s l x&&(qq [b]&&(rQ N y "range"&&gk n N b f))
theorem yR (H:UO u) {n:Nat} {tg e:GZ} {p:HR} {k:Nat} {B:E} (h:C9 N n tg e k B=Gx):(∀s env,IY e (Gu tg) p.line (F8 N s env)=HH Gx)->bB u d N (.Assign [tg] e p) (.assign (.loc k) B):=
 have E:=md (d:=d) H n
 aQ h fun y q h=>have r:=(aa h).1;bf (aa h).2 (fun h=>Ba h fun t i h=>Be h fun J v C D j h=>aQ h fun x K h=>bM h fun c L M h=>gG h fun z F G h=>
  have l:=aa (aa h).2;have m:=aa l.2;have f:=aa m.2;dk (aa h).1 (dk l.1 (xi (E _ _ _ (aa f.2).2) (i8 (aa f.2).1) (G0.mpr ⟨m.1,G0.mpr ⟨r,f.1⟩⟩)))) fun Z h=>bf h (fun h=>BQ h fun o t A i h=>lJ h fun I C D j h=>gG h fun x F G h=>
  have c:=aa (aa h).1;have l:=aa (aa h).2;xf (E _ _ _ c.2) (E _ _ _ l.2) (i8 l.1) (G0.mpr ⟨c.1,r⟩)) fun Z h=>AN h fun o t A i h=>lJ h fun I C D j h=>gG h fun x F G h=>cj h fun g O p h=>aQ h fun y q h=>aW h fun b h=>
  have c:=aa (aa h).1;have m:=aa (aa h).2;have f:=aa m.2;tF (E _ _ _ c.2) (E _ _ _ f.2) (dP m.1) (G0.mpr ⟨c.1,G0.mpr ⟨f.1,r⟩⟩)
noncomputable def F4 (N:Ns) (n:Nat) (tg e:GZ) (p:HR) (f:E):ky->Bool
 |.loc k=>bif Cw e then fg tg fun y Z=>slot N y k&&gk n N e f else Ea (IY e (Gu tg) p.line (eN N)) id&&C9 N n tg e k f
 |.locs ks=>CA tg fun c m q=>Ea (Ji [.Tuple c m q] e (eN N)) fun o=>gk n N e f&&Kk o (Fp N c ks&&Cw e) fun l=>o2 c fun a b=>fg a fun x Z=>fg b fun y Z=>CA e fun vs Z Z=>o2 vs fun Z Z=>GL (l=[x,y])&&(slots N [x,y] ks&&GL ks.Nodup)
theorem Gj {c a b:Bool} {G:Prop} (h:(bif c then a else b)=Gx) (k:c=Gx->a=Gx->G) (e:b=Gx->G):G:=match c with
 |true=>k rfl h
 |false=>e h
theorem Cr (z:UO u) {n:Nat} {tg e:GZ} {p:HR} {j:E} {t:ky} (h:F4 N n tg e p j t=Gx):bB u d N (.Assign [tg] e p) (.assign t j):=by
 revert n tg e p j t;delta u d N;delta n tg e p j t
 have E:=md (d:=d) z n
 cases t with
 |loc k=>exact Gj h (fun c h=>aQ h fun y q h=>B5 (E _ _ _ (aa h).2) (oh c) (aa h).1) fun h=>wM (m':=IY e (Gu tg) p.line (eN N)) rfl (aa h).1 fun a q w=>yR z (aa h).2 fun s i=>q.trans (congrArg _ w)
 |locs A=>
  delta A;refine lP h fun f m q h=>wM (m':=Ji [.Tuple f m q] e (eN N)) rfl h fun o g h=>?_;revert o;injections f m q;intro h o g h;injections o;intro g h
  have S:=E _ _ _ (aa h).1
  have h:=(aa h).2
  cases o with
  |none=>exact CR S (vD (aa h).1) (oh (aa h).2) fun s i=>g
  |some l=>
   revert g S;exact dI h fun a b h=>aQ h fun x p h=>aQ h fun y q h=>lP h fun B c r h=>dI h fun v w h=>dk (aa h).1 fun S g=>Cs S (aa h).2 fun s i=>g
noncomputable def B4 (n:Nat) (N:Ns) (r:List IB->List S->Bool) (s:IB):S->Bool
 |.expr j=>FM s fun e Z=>Cw e&&gk n N e j
 |.assign t j=>wL s fun tg e p=>F4 N n tg e p j t
 |.setAttr l k j=>wL s fun tg e Z=>z9 tg fun o x Z=>GL (nm k=x)&&(Cw e&&(gk n N o l&&gk n N e j))
 |.setIdx l m j=>wL s fun tg e Z=>nQ tg fun o i Z=>Cw e&&(gk n N o l&&(gk n N i m&&gk n N e j))
 |.aug k op j=>um s fun tg o e Z=>fg tg fun x Z=>GL (o=op.m)&&((slot N x k&&(AE op&& !(x==("__classdict__":He))))&&gk n N e j)
 |.augAttr l k op j=>um s fun tg q e Z=>z9 tg fun o x Z=>GL (q=op.m)&&((AE op&&GL (nm k=x))&&(gk n N o l&&gk n N e j))
 |.augIdx l m op j=>um s fun tg q e Z=>nQ tg fun o i Z=>fg i fun x B=>GL (q=op.m)&&(AE op&&(gk n N o l&&(gk n N (.Name x B) m&&gk n N e j)))
 |.ret j=>vF s fun e Z=>gk n N e j
 |.ite c a b=>Bb s fun t x y Z=>EO n N n t c&&(r x a&&r y b)
 |.while c a=>EL s fun t x Z=>EO n N n t c&&r x a
 |.for t j v=>yU s fun tg e b Z=>CX N tg t&&(!Hw e.ctorIdx 7&&(gk n N e j&&r b v))
 |.forR k j v=>yU s fun tg e b Z=>fg tg fun x Z=>pK e fun g A Z=>fg g fun y Z=>o1 A fun a=>(slot N x k&&rQ N y "range")&&(qq [a]&&(gk n N a j&&r b v))
 |.cont=>Ft s
 |.raise j=>EQ s fun e Z=>pK e fun g A Z=>fg g fun x Z=>o1 A fun a=>sN a fun a C z Z=>sN a fun w D c Z=>fW w fun w Z Z=>fW z fun z Z Z=>Bf w fun E=>Bf z fun F=>pK c fun f G Z=>fg f fun y Z=>o1 G fun b=>GL (C=.Add)&&(GL (D=.Add)&&((vK N x 71&&(rQ N y "str"&&GL (E.cps.size+F.cps.size<=1000)))&&(qq [b]&&gk n N b j)))
 |.stuck=>Gx
 |.try _ _=>Gz
 |.frz _=>Gz
theorem qQ (v:UO u) {n:Nat} {r:List IB->List S->Bool} (C:∀l F,r l F=Gx->cP u d N l F) {s:IB} (A:S) (h:B4 n N r s A=Gx):bB u d N s A:=by
 revert n r s A;delta u d N;revert s A;delta n r;delta s A
 have E:=md (d:=d) v n N
 have B:=Bz (d:=d) (N:=N) v n n
 cases A with
 |expr j=>exact Ag h fun e p h=>xB (E _ _ (aa h).2) (oh (aa h).1)
 |assign t j=>exact lK h fun m e p h=>Cr v h
 |setAttr D k j=>exact lK h fun m e p h=>iz h fun o x q h=>have k:=aa (aa h).2;BN v (E _ _ (aa k.2).1) (E _ _ (aa k.2).2) (oh k.1) (aa h).1
 |setIdx D H j=>exact lK h fun m e p h=>fS h fun o i q h=>have k:=aa (aa h).2;sR (E _ _ k.1) (E _ _ (aa k.2).1) (E _ _ (aa k.2).2) (oh (aa h).1)
 |aug k G j=>exact lR h fun m o e p h=>aQ h fun x q h=>DF (E _ _ (aa (aa h).2).2) (aa (aa h).2).1 (of_decide_eq_true (aa h).1)
 |augAttr D k G j=>exact lR h fun m o e p h=>iz h fun o x q h=>have k:=aa (aa h).2;Al v (E _ _ (aa k.2).1) (E _ _ (aa k.2).2) k.1 (of_decide_eq_true (aa h).1)
 |augIdx D H G j=>exact lR h fun m o e p h=>fS h fun o i q h=>aQ h fun x K h=>have k:=aa (aa (aa h).2).2;AW (E _ _ k.1) (E _ _ (aa k.2).1) (E _ _ (aa k.2).2) (aa (aa h).2).1 (of_decide_eq_true (aa h).1)
 |ret j=>exact qX h fun e p h=>BY (E _ _ h)
 |ite c a b=>exact xK h fun t x y p h=>Dy (B _ _ (aa h).1) (C _ _ (aa (aa h).2).1) (C _ _ (aa (aa h).2).2)
 | «while» c a=>exact Br h fun t x p h=>we (B _ _ (aa h).1) (C _ _ (aa h).2)
 | «for» t j I=>exact qV h fun m e b p h=>have k:=aa (aa h).2;Az (zt (aa h).1) (E _ _ (aa k.2).1) (i8 k.1) (C _ _ (aa k.2).2)
 |forR k j I=>exact qV h fun m e b p h=>aQ h fun x q h=>cj h fun g J p h=>aQ h fun y q h=>aW h fun a h=>have k:=aa (aa h).2;AF (E _ _ (aa k.2).1) (C _ _ (aa k.2).2) (dP k.1) (aa h).1
 |cont=>exact AR h fun p=>yE
 |raise j=>exact BI h fun e p h=>cj h fun g J q h=>aQ h fun x q h=>aW h fun a h=>iX h fun a L z p h=>iX h fun w M c p h=>bM h fun w k p h=>bM h fun z k p h=>rN h fun O h=>rN h fun P h=>cj h fun f Q p h=>aQ h fun y q h=>aW h fun b h=>have k:=aa (aa (aa h).2).2;dk (aa h).1 (dk (aa (aa h).2).1 (xm v (E _ _ (aa k.2).2) (dP (aa k.2).1) k.1))
 |stuck=>exact ur
 | «try» _ _=>exact nomatch (h:Gz=Gx)
 |frz _=>exact nomatch (h:Gz=Gx)
noncomputable def Ek (n:Nat) (N:Ns) (m:Nat):List IB->List S->Bool:=Mx (fun Z Z=>Gz) (fun Z r=>DU fun s b=>B4 n N r s b) m
theorem Cg (c:UO u) (n m:Nat):∀l b,Ek n N m l b=Gx->cP u d N l b:=by
 induction m with
 |zero=>exact fun Z Z h=>nomatch h
 |succ m e=>exact fun l b h=>yJ (fun s f h=>qQ c e f h) b h
end
noncomputable section
variable {u:U} {d:Nat} {N:Ns}
noncomputable def FY (l:List L3) (f:He->Bool):Bool:=o1 l fun h=>Py (motive_4:=fun Z=>Bool) h fun t n b Z=>oS t fun t=>oN n (fg t fun x Z=>o1 b fun s=>vF s fun e Z=>fW e fun c Z Z=>GL (c=.none)&&f x)
@[elab_as_elim] theorem Ai {l:List L3} {f} {P:List L3->Prop} (h:FY l f=Gx) (k:∀x p k q r s,f x=Gx->P [.ExceptHandler (Gu (.Name x p)) Gw [.Return (Gu (.Constant .none k q)) r] s]):P l:=
 aW h fun⟨t,n,b,s⟩ h=>lh (show oS t (fun t=>oN n (fg t fun x Z=>o1 b fun s=>vF s fun e Z=>fW e fun c Z Z=>GL (c=.none)&&f x))=Gx from h) fun t h=>kT h fun h=>aQ h fun x p h=>aW h fun g h=>qX h fun e r h=>bM h fun c i q h=>dk (aa h).1 (k _ _ _ _ _ _ (aa h).2)
noncomputable def FE (s:S) (f:List S->List S->Bool):Bool:=if h:s.ctorIdx=15 then S.try.elim (motive_1:=fun Z=>Bool) s h f else Gz
noncomputable def Ey (s:S) (f:Nat->Bool):Bool:=if h:s.ctorIdx=16 then S.frz.elim (motive_1:=fun Z=>Bool) s h f else Gz
noncomputable def EP (s:S):Bool:=if h:s.ctorIdx=7 then S.ret.elim (motive_1:=fun Z=>Bool) s h fun e=>if h:e.ctorIdx=0 then E.const.elim (motive_1:=fun Z=>Bool) e h V.isN else Gz else Gz
section
variable {s:S} {P:S->Prop}
@[elab_as_elim] theorem AD {f} (h:FE s f=Gx) (k:∀a b,f a b=Gx->P (.try a b)):P s:=S.try.elim (motive_1:=fun e=>FE e f=Gx->P e) s (bD h) k h
@[elab_as_elim] theorem BM {f} (h:Ey s f=Gx) (k:∀a,f a=Gx->P (.frz a)):P s:=S.frz.elim (motive_1:=fun e=>Ey e f=Gx->P e) s (bD h) k h
theorem BU {P:V->Prop} (v:V) (h:v.isN=Gx) (k:P .none):P v:=by
 cases v with
 |none=>exact k
 |_=>exact nomatch (h:Gz=Gx)
@[elab_as_elim] theorem AV (h:EP s=Gx) (k:P (.ret (.const .none))):P s:=S.ret.elim (motive_1:=fun e=>EP e=Gx->P e) s (bD h) (fun e h=>E.const.elim (motive_1:=fun e=>(if h:e.ctorIdx=0 then E.const.elim (motive_1:=fun Z=>Bool) e h V.isN else Gz)=Gx->P (.ret e)) e (bD h) (fun v h=>BU (P:=fun v=>P (.ret (.const v))) v h k) h) h
end
noncomputable def EY (n:Nat) (N:Ns) (e:List S):List IB->Bool:=Jg (fun l=>o0 l Gx) (fun c Z r l=>bif Hw c.ctorIdx 16 then Ey c fun k=>(N[k]?).isSome&&r l else oC l fun s t=>(bif Hw c.ctorIdx 15 then FE c fun f g=>Cm s fun b i Z=>FY i fun y=>(vK N y 71&&N.all fun x=>!(GL (x.2=.cell)))&&(Ek n N n b f&&o1 g EP) else B4 n N (Ek n N n) s c)&&r t) e
theorem Cb (g:UO u) (n:Nat):∀f l,EY n N f l=Gx->f6 u d N l f:=by
 have B:=Cg (d:=d) (N:=N) g n n
 intro f
 induction f with
 |nil=>exact fun l h=>db h fun Z=>Cc
 |cons j v i=>exact fun l h=>bf h (fun h=>BM h fun k h=>CJ (i _ (aa h).2) (aa h).1) fun Z h=>kP h fun s t h=>bf (aa h).1 (fun c=>AD c fun A m c=>xx c fun b C p c=>Ai c fun y p k q r z c=>aW (aa (aa c).2).2 fun e o=>AV o (DJ g (B _ _ (aa (aa c).2).1) (i _ (aa h).2) (aa c).1)) fun Z c=>xV (qQ g B j c) (i _ (aa h).2)
noncomputable def uA (K:I5) (f:GW):Kp:=match K.lookup f with
 |some ⟨_,_,.func b,_⟩=>b
 |_=>O5
noncomputable def D8 (K:I5) (f:GW) (F:Fn):Bool:=match K.lookup f with
 |some ⟨_,_,.func c,_⟩=>match c.body with
  |.stmts b=>vN K c F (c.params.args.map (·.arg))&&EY 60 c.scope.names F.body b
  |_=>Gz
 |_=>Gz
def uZ (K:I5) (f:GW) (F:Fn):Prop:=iI K (uA K f) ((uA K f).params.args.map (·.arg)) F.ks.length []/\BK K (uA K f) ((uA K f).params.args.map (·.arg)) (F.ks.length - 1) F.d
def zh {b:Type} (p:b->Prop) (l:List b):Prop:=Jg True (fun e Z r=>p e/\r) l
theorem sU {b:Type} {p:b->Prop} {l:List b} {e:b} (h:p e) (t:zh p l):zh p (e::l):=⟨h,t⟩
theorem uo {c:Type} {p:c->Prop} {l:List c} (h:zh p l) {e:c} (b:e∈l):p e:=by
 induction l with
 |nil=>cases b
 |cons a l f=>
  cases b with
  |head=>exact h.1
  |tail _ b=>exact f h.2 b
inductive FnD (K:I5) (f:GW) (F:Fn):Prop
 |mk {c:GB} {d:Option GW} {fd:Kp} {sl:Array (Option GB)} {bb:List IB} (h1:K.lookup f=Gu ⟨c,d,.func fd,sl⟩) (h2:fd.body=.stmts bb) (h3:vN K fd F (fd.params.args.map (·.arg))=Gx) (h4:EY 60 fd.scope.names F.body bb=Gx):FnD K f F
theorem B2 {K:I5} {f:GW} {F:Fn} (h:D8 K f F=Gx):FnD K f F:=by
 unfold D8 at h
 cases b:K.lookup f with
 |none=>rw [b] at h;cases h
 |some o=>
  obtain⟨c,d,g,j⟩:=o;rw [b] at h
  cases g with
  |func i=>
   dsimp only at h
   cases e:i.body with
   |stmts k=>
    rw [e] at h;exact .mk b e (aa h).1 (aa h).2
   |_=>rw [e] at h;cases h
  |_=>cases h
theorem AI (e:UO u) {K:I5} {f:GW} {F:Fn} (h:D8 K f F=Gx) (b:uZ K f F):DX u K f F:=by
 cases B2 h with|mk c g i j=>
 unfold uZ uA at b;rw [c] at b;exact .mk _ _ _ c rfl g i b.1 b.2 fun d=>Cb e _ _ _ j
end
end
end Mine
namespace Mine.T
open Mine
set_option tactic.hygienic true
set_option maxHeartbeats 8000000 in
theorem top:PySem.Challenge.rw_qd0071_01.Holds:=by
  w_on
  o_law
  refine holds_open left (YP:=InK K) (InK.of Gk) InK.keeps (XP:=fun _ _=>True) (fun _ _=>trivial) (fun _ _ _ _ _=>trivial) (by rfl) (by rfl) (by rfl) (fun s e=>recFacts_of e) (by rfl) (by first | assumption | decide +kernel) (by decide +kernel) ⟨rfl,rfl,rfl,rfl,rfl,by decide +kernel⟩ ?hw ?hc
  case hw => w_witness2
  have B : ∀ P, tH (K P) := fun P => ⟨by as_aux_lemma => kernel_rfl, by as_aux_lemma => kernel_rfl, by as_aux_lemma => kernel_rfl, by as_aux_lemma => kernel_rfl, by as_aux_lemma => kernel_rfl, IG.mpr ⟨.get (by as_aux_lemma => kernel_rfl) (by as_aux_lemma => kernel_rfl) (by as_aux_lemma => kernel_rfl) 379 (r := [.bool Gz]) (by as_aux_lemma => kernel_rfl) (by as_aux_lemma => kernel_rfl), IG.mpr ⟨.get (by as_aux_lemma => kernel_rfl) (by as_aux_lemma => kernel_rfl) (by as_aux_lemma => kernel_rfl) 399 (r := [.bool Gz]) (by as_aux_lemma => kernel_rfl) (by as_aux_lemma => kernel_rfl), IG.mpr ⟨.val (by as_aux_lemma => kernel_rfl) (by as_aux_lemma => kernel_rfl) (by as_aux_lemma => kernel_rfl) (by as_aux_lemma => kernel_rfl), fun _ h => nomatch h⟩⟩⟩, .mk (by as_aux_lemma => kernel_rfl) (by rfl) (by as_aux_lemma => kernel_rfl) (by as_aux_lemma => kernel_rfl), by as_aux_lemma => kernel_rfl, by as_aux_lemma => kernel_rfl, by as_aux_lemma => kernel_rfl, ⟨⟨46, _, _, _, _, _, _, _, _, _, _, _, _, _, _, by rfl⟩, by as_aux_lemma => kernel_rfl, by as_aux_lemma => kernel_rfl, by as_aux_lemma => kernel_rfl, by as_aux_lemma => kernel_rfl, by as_aux_lemma => kernel_rfl, by as_aux_lemma => kernel_rfl, by as_aux_lemma => kernel_rfl⟩, by
    refine .mk _ _ _ _ _ _ _ _ _ _ _ _ _ _ _ _ ?h rfl rfl ⟨by as_aux_lemma => kernel_rfl, by as_aux_lemma => kernel_rfl, by as_aux_lemma => kernel_rfl, by as_aux_lemma => kernel_rfl, by as_aux_lemma => kernel_rfl, by as_aux_lemma => kernel_rfl, rfl, by as_aux_lemma => kernel_rfl⟩ (by as_aux_lemma => kernel_rfl) ?bd
    · as_aux_lemma => kernel_rfl
    · (repeat intro _); kernel_rfl⟩
  have C : ∀ P, fj.all (fun e => D8 (K P) e.1 e.2) = Gx := fun P => by as_aux_lemma => kernel_rfl
  have D : ∀ P, zh (fun e => uZ (K P) e.1 e.2) fj := fun P => by
    unfold fj
    repeat refine sU ⟨by (repeat intro _); kernel_rfl, by first | exact trivial | ((repeat intro _); kernel_rfl)⟩ ?_
    exact trivial
  have E : ∀ {u}, UO u -> ∀ P, ∀ e ∈ fj, DX u (K P) e.1 e.2 := fun F P e p => AI F (Hj.mp (C P) e p) (uo (D P) p)
  intro w q b mg mb G Y fa o pm cd H dV kV I J i M j O t v as c f k l m
  have Q := Y
  have T := G.T
  clear I J i M
  wrow_args c f k l m
  rename_i y _ _ _ _ _ _ _ L R _ S ra U r0 V hr hc _;obtain ⟨oL, z, cL, nL, W⟩ := S;refine enter_call ?_
  have n : b.heap.get? L = Gu (PySem.W.listOf R.toArray 0) := by
    cases U with
    | list A h2 =>
      rw [z] at A;cases A;cases W;rw [z]
  refine t9 B E ⟨rfl, by decide, by decide, rfl⟩ Q T.g T.b T.builtins T.nolimit (let ⟨X, h, _⟩ := (T.seer (by kernel_rfl)).mods; ⟨X, h⟩) j n V (by omega) fun s' Z k2 k3 => ?_
  have g : PySem.Challenge.rw_qd0071_01.row.claim.post [ofPy (O4 (MC Pf y))] (WData.bool Gx) [ofPy (O4 (MC Pf y))] = Gx := by
    kernel_rfl
  exact ⟨.inl ⟨.bool Gx, .bool Gx, [], rfl, fun b' => rfl, .bool Gx, g, fun _ => ⟨OP, fun a ha => nomatch ha⟩⟩, .of_keep Z, k3, .of_eq (k2.trans O)⟩
end Mine.T
theorem PySem.Challenge.cw_qd0071_01_holds : PySem.Challenge.rw_qd0071_01.Holds :=
  Mine.T.top
