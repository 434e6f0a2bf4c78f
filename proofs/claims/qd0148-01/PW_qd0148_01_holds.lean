import PyProof.Rows.All
import Wide.All
import OpenK.AllK
import Wide.FinOn
import PySem.Challenge.RW_qd0148_01
set_option autoImplicit false
set_option maxHeartbeats 0
set_option maxRecDepth 100000
set_option linter.all false
set_option Elab.async false
set_option tactic.hygienic false
set_option compiler.extract_closed false
set_option backward.match.sparseCases false
namespace Mine.Internal
def mQ (c:Array Lean.Syntax):List String->List Lean.Syntax
 | []=>[]
 |w::r=>
  let s:=mQ c r
  match w.toNat? with
  |none=>Lean.mkIdent w.toName::s
  |some k=>if k<10 then c.getD k default::s else Lean.mkNode `Lean.Parser.Term.app #[s.headD default,Lean.mkNullNode ((s.drop 1).take (k-10)).toArray]::s.drop (k-9)
set_option hygiene false in
local macro_rules
 | `(tactic| walk_at "r") => `(tactic| repeat walk_at "s")
 | `(tactic| walk_at $s:str) => do
  let some u:=("o|0|12 o_ 0 1|12 EH 0 1|12 Gs 0 1|5/a|12 Gr 0 1|12 o_ 11 DX 0 12 o_ 0 1|8|11 EY 0|12 Eo 2 2|12 o_ 0 12 o_ 0 1|12 o_ 12 Fv 0 0 1|11 Nat.lt_succ_of_le 0|12 Jf 0 11 H4 0|12 o_ 0 0|12 Jg 11 Nat.le_of_lt_succ 0 0|11 Jw 0|11 FX 0|12 Iv 0 11 EY 0|12 Nat.le_add_left 2 2|11 Eb 0|12 Hi 0 2|12 Ee 0 1|11 DX 0|12 Ji 2 2|11 DX 11 H4 0|12 o_ 12 Nat.le_add_left 2 2 12 o_ 0 1|11 Fq 0|11 H4 13 Nat.add_assoc 2 2 2|12 Jf 0 0|12 Nat.lt_trans 0 0|12 o_ 12 DT 0 2 1|11 GU.mp 0|11 FZ 0|11 Fo 0|11 Hu 0|12 EH 0 12 EH 0 1|11 Int.ne_of_lt 0|11 F_ 0|12 o_ 12 DI 0 2 1|12 JK 2 2/s|12 aa 4 3|11 aK 3|11 bI 3|11 lA 3|11 eU 3|11 j2 3|11 cC 3|11 qa 3|12 cW 6 3|11 qb 3|13 qc 0 4 3|11 a9 3|11 ay 3|11 av 3|13 az 6 4 3/t|0|13 ad 2 2 2|12 ao 0 6/n|inferInstance|CO|nO|CM|nW|nA|nS|CP|C5|C4|C7|Ax|C8|C2|CN|12 nP 7 7/b|12 Cr 11 HP 2 1/c|4/d|12 Iff.mpr 11 Int.toNat_lt 0 0/e|12 o_ 11 DX 0 12 o_ 0 1/f|12 Eu 11 EK.mpr 12 o_ 11 DX 0 0 1/g|12 Gr 11 GU.mpr 12 Gs 0 0 1/h|12 o_ 12 DT 11 Gl 0 2 1/i|11 Cv 0/j|11 I'.mp 0/k|12 Nat.sub_lt_sub_left 11 Fq 0 11 EE 2/l|11 CK 0/m|12 o_ 11 Fo 0 1/p|11 IO 2/q|12 o_ 12 JK 2 2 0/u|12 o_ 12 DI 12 DT 11 Gl 0 2 2 1/v|11 Cw 0/w|12 CF 0 0/x|11 H4 11 ES 0/y|12 o_ 0 12 o_ 0 12 o_ 0 1/z|12 EH 12 DI 12 o_ 12 Eo 2 2 0 2 1/A|12 Cr 11 FX 0 1/B|12 Cr 0 1/C|12 Ee 11 EK.mpr 0 1/D|11 Hj 11 HP 2/E|12 Ct 0 1/F|11 ES 0/G|12 o_ 12 DI 12 DT 0 2 2 1/H|12 o_ 11 DX 0 11 EY 0/I|12 congrArg Nat.cast 12 Ji 2 2/J|12 mt 11 congrArg 2 11 DM 0/K|11 Eb 11 EE 2/L|12 Eb 0 0/M|11 FY 12 Hu 0 0/N|11 FY 13 CA 11 H4 0 0 0/O|11 FY 12 Int.ne_of_lt 0 0/P|12 Iff.mpr 11 Int.toNat_lt 0 11 Ig 0/Q|12 Int.add_lt_add_right 11 GU.mpr 0 2/R|12 o_ 12 DT 12 I6 2 0 2 0/S|12 EH 12 Eo 2 2 12 EH 0 1/T|13 CI 0 12 o_ 0 1 11 EV 2/U|11 Int.lt_succ 2/V|12 Ee 0 0/W|12 Gr 11 GU.mpr 0 1/X|11 FX 11 FX 0/Y|11 Cu 0/Z|12 Eu 11 EK.mpr 12 CG 0 0 1/ba|12 o_ 12 CG 0 0 1/bb|12 Eu 11 F_ 0 1/bc|12 Ee 12 Hi 11 EK.mpr 12 CG 0 0 2 1/bd|12 Ee 12 Int.add_le_add_left 12 Int.mul_le_mul_of_nonneg_left 11 EK.mpr 12 CG 0 0 1 2 1/be|12 o_ 12 Fv 12 DI 12 DT 11 Gl 0 2 2 11 Gl 0 1/bf|11 Jw 11 EY 0/bg|CC/bh|12 o_ 12 Nat.min_le_left 2 2 1/bi|12 o_ 12 DI 12 Fv 12 DI 12 DT 0 2 2 0 2 1/bj|12 CE 0 0/bk|12 CE 0 12 o_ 0 1/bl|12 o_ 0 11 Nat.succ_le_succ 0/bm|11 GU.mp 11 Ig 0/bn|12 Hi 11 EK.mpr 11 Fo 0 2/bo|11 FY 13 CB 0 0 0/bp|11 FY 13 CB 11 H4 0 0 0/bq|12 o_ 12 Eo 2 2 0/br|12 Eu 11 Int.add_one_le_of_lt 0 1/bs|12 o_ 11 DX 0 12 o_ 12 o_ 12 Eo 2 2 0 1/bt|12 o_ 12 DT 12 I6 2 11 EV 2 2 0/bu|13 CI 0 12 o_ 0 1 11 DW 2/bv|13 Int.add_assoc 2 2 2/bw|12 And.intro 11 Gl 0 12 Eu 11 Ig 0 12 Eu 11 F_ 0 0/bx|12 CJ 0 0/by|12 DH 2 0/bz|12 o_ 11 DX 11 H4 0 11 EY 0/ca|12 Cr 11 Gl 0 1/cb|12 Ee 11 Ig 0 1/cc|11 JL 12 Cr 11 Gl 0 1/cd|11 Int.not_le_of_gt 12 Int.lt_trans 11 Gl 11 Ig 0 1/ce|12 Ee 11 EK.mpr 12 CG 0 0 1/cf|12 o_ 11 DX 0 12 CG 0 0/cg|12 Eq.trans 0 11 H4 0/ch|12 o_ 11 DX 11 Nat.zero_add 2 0/ci|11 FY 12 DH 2 0/cj|11 FY 12 Nat.lt_asymm 0 0/ck|12 Jg 11 EY 0 11 Ex 0/cl|12 Ee 11 EK.mpr 12 o_ 11 DX 0 0 1/cm|11 F_ 11 Int.lt_of_not_ge 0/cn|11 IC 11 Fo 0/co|11 IC 0/cp|11 Nat.succ_sub 11 EY 0/cq|11 FX 11 FX 11 Ig 0/cr|12 And.intro 11 HP 2 11 GU.mpr 0/cs|11 Nat.eq_zero_of_add_eq_zero_right 11 I'.mp 11 Jx 0/ct|11 Nat.eq_zero_of_add_eq_zero_left 11 I'.mp 11 Jx 0/cu|11 JL 0/cv|12 o_ 12 DT 12 o_ 12 Eo 2 2 0 2 1/cw|12 o_ 12 Fv 12 DI 0 2 11 Gl 0 1/cx|12 o_ 12 DI 12 Fv 12 DI 0 2 11 Gl 0 2 1/cy|12 o_ 12 Fv 12 DI 12 DT 0 2 2 0 1/cz|12 Cx 0 0/da|12 o_ 0 12 o_ 11 Fo 0 12 o_ 0 1/db|12 Ee 11 EK.mpr 12 Eo 2 2 0/dc|11 FY 12 Cx 0 0/dd|11 FY 12 Cx 0 11 H4 0/de|12 Cy 0 0/df|12 Cz 0 0/dg|11 Hj 12 Eu 0 0/dh|11 Hj 12 Eu 11 EK.mpr 12 Eo 2 2 0/di|12 o_ 11 DX 0 12 o_ 11 Gl 0 1".splitOn "/").find? λu=>u.startsWith (s.getString++"|") |Lean.Macro.throwUnsupported
  let c ← `(x (by assumption) (by decide) _ ?_ rfl (by first | lia | omega) (by walk_at "t") (by walk_at "n") (by with_reducible first | exact rfl | exact Int.natCast_nonneg _))
  `(tactic| first $[| refine $(((u.splitOn "|").drop 1).toArray.map fun v => ⟨(mQ c.raw[1].getArgs (v.splitOn " ")).headD default⟩)]*)
def mP:Nat->Lean.Term->List Lean.Term
 |0,p=>[p]
 |n+1,p=>Lean.Syntax.mkApp (Lean.mkIdent `Prod.fst) #[p]::mP n (Lean.Syntax.mkApp (Lean.mkIdent `Prod.snd) #[p])
set_option hygiene false in
local macro_rules
 | `(tactic| injections $xs:ident*) => do
  if xs.size > 12 then `(tactic| (injections $(xs.extract 0 12)*; injections $(xs.extract 12 xs.size)*))
  else
   let f (s:String):Lean.Term:=Lean.mkIdent (.str `Mine.Internal (s++toString xs.size))
   `(tactic| (refine no_implicit_lambda% ($(f "e") (by walk_at "n") ?_); generalize $[$((mP (xs.size - 1) (f "ep")).toArray) = $xs],*))
 | `(tactic| intros $x:ident $xs:ident*) => `(tactic| (revert $x $xs*; injections $x $xs*; intros))
set_option hygiene false in
local macro_rules
 | `(tactic| rewrite [$rs,*]) => do
  let a:=rs.getElems
  let x:=a[0]!.raw
  let t ← `(($(⟨x[1]⟩) ..))
  if a.size = 1 then `(tactic| first | refine Eq.substr $(if x[0].isNone then t else Lean.Syntax.mkApp (Lean.mkIdent `Eq.symm) #[t]) ?_ | fail)
  else `(tactic| ($[rewrite [$a]];*))
open Option renaming some->a_,none->h_,map_eq_some_iff->j_,bind_eq_some_iff->t_,isSome_iff_exists->Ds,map_some->Go,bind->GA,isSome_map->GI,isNone_iff_eq_none->HR,filter_eq_some_iff->HU,bind_some->Ib
open List renaming length_map->b',mem_cons->f_,mem_singleton->g_,mem_map->i_,getElem?_map->k_,all_eq_true->l_,map_cons->n_,length_append->q_,map_append->r_,mem_append->s_,lookup_cons->v_,getElem?_eq_getElem->w_,mem_append_left->y',range->A',mem_of_getElem?->B_,map_map->C_,length_cons->Df,getElem?_eq_some_iff->Dg,nodup_append->Dk,mem_map_of_mem->Do,map_congr_left->Dp,mem_range->Dq,pairwise_cons->Du,take_of_length_le->Dv,append_assoc->Dw,mem_flatMap->Dx,take_length->Dy,append_nil->Dz,mem_filter->DA,lookup_eq_none_iff->DC,flatMap_cons->DD,length_filter_le->DE,filter_eq_self->DG,nodup_cons->DK,pairwise_map->DL,filter_cons_of_pos->DO,filter_cons_of_neg->DP,getElem?_eq_none->DS,drop_eq_getElem?_toList_append->DV,contains_cons->DY,all_cons->D5,filterMap_cons->D8,getElem?_range->D9,mem_append_right->D_,pairwise_append->Ec,nodup_iff_pairwise_ne->Ed,all_map->Ef,cons_ne_nil->Eh,length_range->Ej,filter_append->Em,mem_of_mem_take->Ep,lookup->EA,length_take->EI,count_eq_zero->EJ,contains_iff_mem->Fd,count_cons->Fe,take_add_one->Fr,length_nil->FG,nil_append->FH,length_singleton->FL,mem_iff_getElem->FU,perm_ext_iff_of_nodup->FW,cons_append->F',map_nil->Ga,drop_length->Gb,count_singleton_self->Ge,length_erase_of_mem->Gi,foldl_cons->Gp,length->GB,count_append->GQ,ext_getElem?->GR,isEmpty_iff->G5,nodup_range->G',getElem_mem->G_,any_cons->Ha,sum_cons->Hb,forall_mem_cons->Hc,map_eq_cons_iff->He,count_cons_self->Hh,filter_map->Hl,flatMap_append->Ho,nodup_nil->HL,count_pos_iff->HM,getElem?_append_right->HN,map_eq_singleton_iff->HV,getElem?_append_left->HW,map_inj_left->HZ,map->Id,append_eq_nil_iff->Io,pairwise_lt_range->Ip,forIn_cons->Ir,range_succ->Iw,lookup_cons_self->Ix,take_append_drop->Iz,concat_eq_append->IA,count_cons_of_ne->IB,mem_cons_of_mem->IL,getElem?_append->IM,drop_zero->IN,map_eq_nil_iff->I5,cons_beq_cons->Jb,size_toArray->Jl,map_id'->Jm,foldl_append->Jt,filter_congr->Ju,not_mem_nil->Jy,mem_reverse->JC,filter_cons->JF,map_flatMap->JG,flatMap_def->JH
open _root_ renaming List->b_,Option->m_,if_neg->p_,beq_eq_false_iff_ne->r',if_pos->z_,beq_iff_eq->C9,beq_self_eq_true->C',Bool->Dm,Nonempty->Dr,of_decide_eq_false->DM,decide_eq_false->DQ,decide_eq_true_eq->Ei,or_false->Ez,String->EB,decide_eq_true->E_,if_false->Fj,bne_iff_ne->FA,Array->Gc,if_true->Gn,not_or->GH,Fin->HO,Unit->IG,of_decide_eq_true->Jx
open PySem renaming Value->c_,Addr->d_,Shared->i',model->A_,sizeLine_eq->DB,Params->DF,Around->DJ,Scope->DR,wpAny_execs_cons->Eg,wpAny_holding->Es,World->Ew,wpAny_Name->Ey,wpAny_mono->EQ,compareOp->EX,builtinsNs->E7,Program->Fc,wpAny_execs_nil->Fh,Heap->Fu,treeTable->Fy,wpAny_call->FB,cellsFrom->FJ,wpAny_newObj_type->FM,wpAny_truthy_bool->FO,codeAny_call_builtin->FQ,Stmt->Gf,bindArgs->Gh,importedModules->Gm,sysModules->Gu,wpAny_Constant_int->Gv,DictEntry->Gx,OsState->GD,call_meetsIn->GJ,slot_list_getitem->GL,wpAny_assign_Name->GO,wpAny_Return_some->GP,codeAny_call_function->GV,builtinLookup_eq_fast->GW,getMethod->G0,wpAny_getItem_of->G1,wpAny_call_entry->G2,checkBuiltinCall->G4,starEach->Hf,pairTrees_cons_walk->Hn,intKind->Hq,codeAny->Hr,Tok->Hw,recursionLimit->Hy,wpAny_loadPart->Hz,sizeLine->HD,wpAny_Constant_str->HI,assignEach->HJ,slot_dict_getitem->HX,excClassObj->HY,getMethod_builtin->H0,wpAny_Assign_Name->H2,behindInMarks->H5,wpAny_getItem_list_slice->H7,assignInOrder->H9,FuncData->H_,Flow->Ih,typeLookup->Ii,meets_dict_get_default->Ij,meets_dict_pop_default->Ik,wpAny_pyNext_dict_item->Im,typeLookup_type->Iq,pushCells_keeps->It,wpAny_pyNext_dict_end->Iy,Operator->IE,cLine->IF,wpAny_setField->II,keeperOf->IJ,wpAny_field->IQ,wpAny_setFlight_none->IR,wpAny_newFunctionEnv->IS,getAttr->IV,getItem->IW,relabel->IY,wpAny_loadName_cell->IZ,wpAny_setItem_pairs->I2,kt_meets_setdefault->I3,wpAt_of_wpAny->I4,Comprehension->I7,wpAny_standAt->I8,ExceptHandler->I9,isInstance->I_,Result->Ja,pairTrees_nil_walk->Jc,closureFor->Je,GenState->Jj,slot_list_setitem->Jn,codeAny_func->Jo,wpAny_pyIter_dict->Jq,Setting->Js,stored->JB,backTo->JD,noteFrame->JJ
open Bool renaming true->e_,false->g',and_eq_true->u_,false_eq_true->Dt,false_ne_true->El,not_eq_true'->Fi,or_eq_true->FD,and_eq_true_iff->IT,or_true->Jp
open PySem.Heap renaming get?_push_of_some->j',get?_push_size->y_,lt_size->Dn,get?_update_self->DN,size_push->Ek,get?_update_other->GG,get?_none_of_le->IP
open Nat renaming le_trans->o_,lt_irrefl->DH,add_le_add_right->DI,add_le_add_left->DT,le_refl->DW,le_of_eq->DX,ne_of_lt->Eb,le_add_right->Eo,lt_succ_self->EE,lt_of_le_of_lt->EH,le_succ->EV,le_of_not_lt->EY,not_lt->E8,le_of_lt->Fo,lt_succ_of_lt->Fq,add_le_add->Fv,ne_of_gt->FZ,lt_of_lt_of_le->Gs,zero_le->Hg,not_lt_zero->Iu,le_antisymm->Iv,sub_eq_zero_of_le->IC,mul_le_mul_left->I6,lt_of_lt_of_eq->Jf,lt_of_le_of_ne->Jg,add_comm->Ji,le_succ_of_le->Jw,min_le_right->JK
open PySem.Str renaming length_append->x_,ofString->Ev,append_assoc->GT
open Option.some renaming inj->De
open Int renaming toNat_natCast->Dh,lt_of_le_of_lt->Ee,le_trans->Eu,ofNat_le->EK,toNat_of_nonneg->ES,eq_ofNat_of_zero_le->Fz,le_add_one->FX,le_of_lt->F_,lt_irrefl->Gk,emod_nonneg->Gq,lt_of_lt_of_le->Gr,ofNat_lt->GU,add_le_add_right->Hi,lt_add_one_of_le->Hj,ne_of_gt->Hu,fdiv_eq_ediv_of_nonneg->HG,emod_lt_of_pos->HK,natCast_nonneg->HP,le_refl->IO,ofNat_inj->I',ofNat->JE,toNat->JI,not_lt_of_ge->JL
open PySem.Value renaming ref->Di,int->Dl,none->DU,str->En,bool->E',type->HH,builtin->H6,isStr->IH
open PySem.PyData renaming keyHash->DZ,strOk->Ea,bool->EP,str->Fs,depth->FC,depthAll->FE,canLayAll0->FN,canLay0->GK
open PySem.Heap.SameBut renaming update->D7
open PySem.W.Fast renaming tw14364793385576792824->Er,tw10110043849684766642->EU,te14364793385576792824->Hp
open PySem.Obj renaming mapFields->Et,data_mapFields->Gw,putName->Gy,isFreed_of_fields->GX,mapSeq->HA
open Ne renaming symm->Ex
open Classical renaming byContradiction->EC,epsilon->Jh
open PySem.F renaming excBase_Exception->ED,slot_list_getattribute->EG,type_list_append->Ft,args_list_getattribute_2->GN,slot_list_append->H8,plainAttrs_dict->Ie
open List.Pairwise renaming imp_of_mem->EL,nil->H1
open ForInStep renaming yield->ER
open PySem.W renaming emptyDict->EW,findIn->EZ,behindTheImports->Fw,Frag->GC,looks_findIn->GF,hasDictIn->GZ,Looks->Hm,kia_one->Ht,boot_heap->Hv,dictOf->Hx,topFrame->H',specialIn->Ia,keepIn->Il,callWith_of->IK,instObj->IU,any_some->Jk,keeps_K->Jr,ghostOf->Jv,kitOne->JA,looks_mroIn->JM
open Array renaming getElem?_eq_some_iff->E9,getElem?_toList->FK,getElem?_setIfInBounds_self_of_lt->FP,getElem?_eq_getElem->Gd,any_toList->Jz
open PySem.Spec renaming sameAll->Fa,same->FF
open List.Perm renaming refl->Fb,eq_of_pairwise->Gj
open PySem.Keeper renaming boundFrame->Fp,machine->FR,frame->GM
open PySem.FuncBody renaming stmts->FT
open False renaming elim->FY
open Pure renaming pure->F9
open PySem.Builtin.List renaming listTooLong->Gg
open And renaming left->Gl,right->Ig
open PySem.Builtin.Range renaming rangeSize->Gz
open PySem.Txt renaming charAt->GY,item->ID
open PyProof.Rows renaming IntsAre->Hs,seqObj->HF,tail_any->Ic,args_cons->IX,BoolOp_and->Jd
open Eq renaming symm->H4
open PySem PySem.W PyProof.Rows PySem.Calls
noncomputable def ep1 {α:Type}{n:Dr α}{P:α->Prop}:α:=@Jh α n λv=>¬P v
theorem e1 {α:Type}{P:α->Prop}(n:Dr α)(h:P (@ep1 α n P)):∀x,P x:=λv=>EC λk=>(@Classical.epsilon_spec_aux α n (λv=>¬P v) ⟨v,k⟩:¬P (@Jh α n λv=>¬P v)) h
noncomputable def ep2 {A B:Type}{n:Dr (A×B)}{P:A->B->Prop}:A×B:=@ep1 _ n λp=>P p.1 p.2
theorem e2 {A B:Type}{P:A->B->Prop}(n:Dr (A×B))(h:P (@ep2 _ _ n P).1 (@ep2 _ _ n P).2):∀x y,P x y:=λx y=>@e1 _ (λp:A×B=>P p.1 p.2) n h (x,y)
noncomputable def ep3 {A B C:Type}{n:Dr (A×B×C)}{P:A->B->C->Prop}:A×B×C:=@ep1 _ n λp=>P p.1 p.2.1 p.2.2
theorem e3 {A B C:Type}{P:A->B->C->Prop}(n:Dr (A×B×C))(h:P (@ep3 _ _ _ n P).1 (@ep3 _ _ _ n P).2.1 (@ep3 _ _ _ n P).2.2):∀x y z,P x y z:=λx y z=>@e1 _ (λp:A×B×C=>P p.1 p.2.1 p.2.2) n h (x,y,z)
noncomputable def ep4 {A B C D:Type}{n:Dr (A×B×C×D)}{P:A->B->C->D->Prop}:A×B×C×D:=@ep1 _ n λp=>P p.1 p.2.1 p.2.2.1 p.2.2.2
theorem e4 {A B C D:Type}{P:A->B->C->D->Prop}(n:Dr (A×B×C×D))(h:P (@ep4 _ _ _ _ n P).1 (@ep4 _ _ _ _ n P).2.1 (@ep4 _ _ _ _ n P).2.2.1 (@ep4 _ _ _ _ n P).2.2.2):∀x y z u,P x y z u:=λx y z u=>@e1 _ (λp:A×B×C×D=>P p.1 p.2.1 p.2.2.1 p.2.2.2) n h (x,y,z,u)
noncomputable def ep5 {A B C D E:Type}{n:Dr (A×B×C×D×E)}{P:A->B->C->D->E->Prop}:A×B×C×D×E:=@ep1 _ n λp=>P p.1 p.2.1 p.2.2.1 p.2.2.2.1 p.2.2.2.2
theorem e5 {A B C D E:Type}{P:A->B->C->D->E->Prop}(n:Dr (A×B×C×D×E))(h:P (@ep5 _ _ _ _ _ n P).1 (@ep5 _ _ _ _ _ n P).2.1 (@ep5 _ _ _ _ _ n P).2.2.1 (@ep5 _ _ _ _ _ n P).2.2.2.1 (@ep5 _ _ _ _ _ n P).2.2.2.2):∀x y z u v,P x y z u v:=λx y z u v=>@e1 _ (λp:A×B×C×D×E=>P p.1 p.2.1 p.2.2.1 p.2.2.2.1 p.2.2.2.2) n h (x,y,z,u,v)
noncomputable def ep6 {A B C D E F:Type}{n:Dr (A×B×C×D×E×F)}{P:A->B->C->D->E->F->Prop}:A×B×C×D×E×F:=@ep1 _ n λp=>P p.1 p.2.1 p.2.2.1 p.2.2.2.1 p.2.2.2.2.1 p.2.2.2.2.2
theorem e6 {A B C D E F:Type}{P:A->B->C->D->E->F->Prop}(n:Dr (A×B×C×D×E×F))(h:P (@ep6 _ _ _ _ _ _ n P).1 (@ep6 _ _ _ _ _ _ n P).2.1 (@ep6 _ _ _ _ _ _ n P).2.2.1 (@ep6 _ _ _ _ _ _ n P).2.2.2.1 (@ep6 _ _ _ _ _ _ n P).2.2.2.2.1 (@ep6 _ _ _ _ _ _ n P).2.2.2.2.2):∀x y z u v w,P x y z u v w:=λx y z u v w=>@e1 _ (λp:A×B×C×D×E×F=>P p.1 p.2.1 p.2.2.1 p.2.2.2.1 p.2.2.2.2.1 p.2.2.2.2.2) n h (x,y,z,u,v,w)
noncomputable def ep7 {A B C D E F G:Type}{n:Dr (A×B×C×D×E×F×G)}{P:A->B->C->D->E->F->G->Prop}:A×B×C×D×E×F×G:=@ep1 _ n λp=>P p.1 p.2.1 p.2.2.1 p.2.2.2.1 p.2.2.2.2.1 p.2.2.2.2.2.1 p.2.2.2.2.2.2
theorem e7 {A B C D E F G:Type}{P:A->B->C->D->E->F->G->Prop}(n:Dr (A×B×C×D×E×F×G))(h:P (@ep7 _ _ _ _ _ _ _ n P).1 (@ep7 _ _ _ _ _ _ _ n P).2.1 (@ep7 _ _ _ _ _ _ _ n P).2.2.1 (@ep7 _ _ _ _ _ _ _ n P).2.2.2.1 (@ep7 _ _ _ _ _ _ _ n P).2.2.2.2.1 (@ep7 _ _ _ _ _ _ _ n P).2.2.2.2.2.1 (@ep7 _ _ _ _ _ _ _ n P).2.2.2.2.2.2):∀x y z u v w a,P x y z u v w a:=λx y z u v w a=>@e1 _ (λp:A×B×C×D×E×F×G=>P p.1 p.2.1 p.2.2.1 p.2.2.2.1 p.2.2.2.2.1 p.2.2.2.2.2.1 p.2.2.2.2.2.2) n h (x,y,z,u,v,w,a)
noncomputable def ep8 {A B C D E F G H:Type}{n:Dr (A×B×C×D×E×F×G×H)}{P:A->B->C->D->E->F->G->H->Prop}:A×B×C×D×E×F×G×H:=@ep1 _ n λp=>P p.1 p.2.1 p.2.2.1 p.2.2.2.1 p.2.2.2.2.1 p.2.2.2.2.2.1 p.2.2.2.2.2.2.1 p.2.2.2.2.2.2.2
theorem e8 {A B C D E F G H:Type}{P:A->B->C->D->E->F->G->H->Prop}(n:Dr (A×B×C×D×E×F×G×H))(h:P (@ep8 _ _ _ _ _ _ _ _ n P).1 (@ep8 _ _ _ _ _ _ _ _ n P).2.1 (@ep8 _ _ _ _ _ _ _ _ n P).2.2.1 (@ep8 _ _ _ _ _ _ _ _ n P).2.2.2.1 (@ep8 _ _ _ _ _ _ _ _ n P).2.2.2.2.1 (@ep8 _ _ _ _ _ _ _ _ n P).2.2.2.2.2.1 (@ep8 _ _ _ _ _ _ _ _ n P).2.2.2.2.2.2.1 (@ep8 _ _ _ _ _ _ _ _ n P).2.2.2.2.2.2.2):∀x y z u v w a b,P x y z u v w a b:=λx y z u v w a b=>@e1 _ (λp:A×B×C×D×E×F×G×H=>P p.1 p.2.1 p.2.2.1 p.2.2.2.1 p.2.2.2.2.1 p.2.2.2.2.2.1 p.2.2.2.2.2.2.1 p.2.2.2.2.2.2.2) n h (x,y,z,u,v,w,a,b)
noncomputable def ep9 {A B C D E F G H I:Type}{n:Dr (A×B×C×D×E×F×G×H×I)}{P:A->B->C->D->E->F->G->H->I->Prop}:A×B×C×D×E×F×G×H×I:=@ep1 _ n λp=>P p.1 p.2.1 p.2.2.1 p.2.2.2.1 p.2.2.2.2.1 p.2.2.2.2.2.1 p.2.2.2.2.2.2.1 p.2.2.2.2.2.2.2.1 p.2.2.2.2.2.2.2.2
theorem e9 {A B C D E F G H I:Type}{P:A->B->C->D->E->F->G->H->I->Prop}(n:Dr (A×B×C×D×E×F×G×H×I))(h:P (@ep9 _ _ _ _ _ _ _ _ _ n P).1 (@ep9 _ _ _ _ _ _ _ _ _ n P).2.1 (@ep9 _ _ _ _ _ _ _ _ _ n P).2.2.1 (@ep9 _ _ _ _ _ _ _ _ _ n P).2.2.2.1 (@ep9 _ _ _ _ _ _ _ _ _ n P).2.2.2.2.1 (@ep9 _ _ _ _ _ _ _ _ _ n P).2.2.2.2.2.1 (@ep9 _ _ _ _ _ _ _ _ _ n P).2.2.2.2.2.2.1 (@ep9 _ _ _ _ _ _ _ _ _ n P).2.2.2.2.2.2.2.1 (@ep9 _ _ _ _ _ _ _ _ _ n P).2.2.2.2.2.2.2.2):∀x y z u v w a b c,P x y z u v w a b c:=λx y z u v w a b c=>@e1 _ (λp:A×B×C×D×E×F×G×H×I=>P p.1 p.2.1 p.2.2.1 p.2.2.2.1 p.2.2.2.2.1 p.2.2.2.2.2.1 p.2.2.2.2.2.2.1 p.2.2.2.2.2.2.2.1 p.2.2.2.2.2.2.2.2) n h (x,y,z,u,v,w,a,b,c)
noncomputable def ep10 {A B C D E F G H I J:Type}{n:Dr (A×B×C×D×E×F×G×H×I×J)}{P:A->B->C->D->E->F->G->H->I->J->Prop}:A×B×C×D×E×F×G×H×I×J:=@ep1 _ n λp=>P p.1 p.2.1 p.2.2.1 p.2.2.2.1 p.2.2.2.2.1 p.2.2.2.2.2.1 p.2.2.2.2.2.2.1 p.2.2.2.2.2.2.2.1 p.2.2.2.2.2.2.2.2.1 p.2.2.2.2.2.2.2.2.2
theorem e10 {A B C D E F G H I J:Type}{P:A->B->C->D->E->F->G->H->I->J->Prop}(n:Dr (A×B×C×D×E×F×G×H×I×J))(h:P (@ep10 _ _ _ _ _ _ _ _ _ _ n P).1 (@ep10 _ _ _ _ _ _ _ _ _ _ n P).2.1 (@ep10 _ _ _ _ _ _ _ _ _ _ n P).2.2.1 (@ep10 _ _ _ _ _ _ _ _ _ _ n P).2.2.2.1 (@ep10 _ _ _ _ _ _ _ _ _ _ n P).2.2.2.2.1 (@ep10 _ _ _ _ _ _ _ _ _ _ n P).2.2.2.2.2.1 (@ep10 _ _ _ _ _ _ _ _ _ _ n P).2.2.2.2.2.2.1 (@ep10 _ _ _ _ _ _ _ _ _ _ n P).2.2.2.2.2.2.2.1 (@ep10 _ _ _ _ _ _ _ _ _ _ n P).2.2.2.2.2.2.2.2.1 (@ep10 _ _ _ _ _ _ _ _ _ _ n P).2.2.2.2.2.2.2.2.2):∀x y z u v w a b c d,P x y z u v w a b c d:=λx y z u v w a b c d=>@e1 _ (λp:A×B×C×D×E×F×G×H×I×J=>P p.1 p.2.1 p.2.2.1 p.2.2.2.1 p.2.2.2.2.1 p.2.2.2.2.2.1 p.2.2.2.2.2.2.1 p.2.2.2.2.2.2.2.1 p.2.2.2.2.2.2.2.2.1 p.2.2.2.2.2.2.2.2.2) n h (x,y,z,u,v,w,a,b,c,d)
noncomputable def ep11 {A B C D E F G H I J K:Type}{n:Dr (A×B×C×D×E×F×G×H×I×J×K)}{P:A->B->C->D->E->F->G->H->I->J->K->Prop}:A×B×C×D×E×F×G×H×I×J×K:=@ep1 _ n λp=>P p.1 p.2.1 p.2.2.1 p.2.2.2.1 p.2.2.2.2.1 p.2.2.2.2.2.1 p.2.2.2.2.2.2.1 p.2.2.2.2.2.2.2.1 p.2.2.2.2.2.2.2.2.1 p.2.2.2.2.2.2.2.2.2.1 p.2.2.2.2.2.2.2.2.2.2
theorem e11 {A B C D E F G H I J K:Type}{P:A->B->C->D->E->F->G->H->I->J->K->Prop}(n:Dr (A×B×C×D×E×F×G×H×I×J×K))(h:P (@ep11 _ _ _ _ _ _ _ _ _ _ _ n P).1 (@ep11 _ _ _ _ _ _ _ _ _ _ _ n P).2.1 (@ep11 _ _ _ _ _ _ _ _ _ _ _ n P).2.2.1 (@ep11 _ _ _ _ _ _ _ _ _ _ _ n P).2.2.2.1 (@ep11 _ _ _ _ _ _ _ _ _ _ _ n P).2.2.2.2.1 (@ep11 _ _ _ _ _ _ _ _ _ _ _ n P).2.2.2.2.2.1 (@ep11 _ _ _ _ _ _ _ _ _ _ _ n P).2.2.2.2.2.2.1 (@ep11 _ _ _ _ _ _ _ _ _ _ _ n P).2.2.2.2.2.2.2.1 (@ep11 _ _ _ _ _ _ _ _ _ _ _ n P).2.2.2.2.2.2.2.2.1 (@ep11 _ _ _ _ _ _ _ _ _ _ _ n P).2.2.2.2.2.2.2.2.2.1 (@ep11 _ _ _ _ _ _ _ _ _ _ _ n P).2.2.2.2.2.2.2.2.2.2):∀x y z u v w a b c d i,P x y z u v w a b c d i:=λx y z u v w a b c d i=>@e1 _ (λp:A×B×C×D×E×F×G×H×I×J×K=>P p.1 p.2.1 p.2.2.1 p.2.2.2.1 p.2.2.2.2.1 p.2.2.2.2.2.1 p.2.2.2.2.2.2.1 p.2.2.2.2.2.2.2.1 p.2.2.2.2.2.2.2.2.1 p.2.2.2.2.2.2.2.2.2.1 p.2.2.2.2.2.2.2.2.2.2) n h (x,y,z,u,v,w,a,b,c,d,i)
noncomputable def ep12 {A B C D E F G H I J K L:Type}{n:Dr (A×B×C×D×E×F×G×H×I×J×K×L)}{P:A->B->C->D->E->F->G->H->I->J->K->L->Prop}:A×B×C×D×E×F×G×H×I×J×K×L:=@ep1 _ n λp=>P p.1 p.2.1 p.2.2.1 p.2.2.2.1 p.2.2.2.2.1 p.2.2.2.2.2.1 p.2.2.2.2.2.2.1 p.2.2.2.2.2.2.2.1 p.2.2.2.2.2.2.2.2.1 p.2.2.2.2.2.2.2.2.2.1 p.2.2.2.2.2.2.2.2.2.2.1 p.2.2.2.2.2.2.2.2.2.2.2
theorem e12 {A B C D E F G H I J K L:Type}{P:A->B->C->D->E->F->G->H->I->J->K->L->Prop}(n:Dr (A×B×C×D×E×F×G×H×I×J×K×L))(h:P (@ep12 _ _ _ _ _ _ _ _ _ _ _ _ n P).1 (@ep12 _ _ _ _ _ _ _ _ _ _ _ _ n P).2.1 (@ep12 _ _ _ _ _ _ _ _ _ _ _ _ n P).2.2.1 (@ep12 _ _ _ _ _ _ _ _ _ _ _ _ n P).2.2.2.1 (@ep12 _ _ _ _ _ _ _ _ _ _ _ _ n P).2.2.2.2.1 (@ep12 _ _ _ _ _ _ _ _ _ _ _ _ n P).2.2.2.2.2.1 (@ep12 _ _ _ _ _ _ _ _ _ _ _ _ n P).2.2.2.2.2.2.1 (@ep12 _ _ _ _ _ _ _ _ _ _ _ _ n P).2.2.2.2.2.2.2.1 (@ep12 _ _ _ _ _ _ _ _ _ _ _ _ n P).2.2.2.2.2.2.2.2.1 (@ep12 _ _ _ _ _ _ _ _ _ _ _ _ n P).2.2.2.2.2.2.2.2.2.1 (@ep12 _ _ _ _ _ _ _ _ _ _ _ _ n P).2.2.2.2.2.2.2.2.2.2.1 (@ep12 _ _ _ _ _ _ _ _ _ _ _ _ n P).2.2.2.2.2.2.2.2.2.2.2):∀x y z u v w a b c d i j,P x y z u v w a b c d i j:=λx y z u v w a b c d i j=>@e1 _ (λp:A×B×C×D×E×F×G×H×I×J×K×L=>P p.1 p.2.1 p.2.2.1 p.2.2.2.1 p.2.2.2.2.1 p.2.2.2.2.2.1 p.2.2.2.2.2.2.1 p.2.2.2.2.2.2.2.1 p.2.2.2.2.2.2.2.2.1 p.2.2.2.2.2.2.2.2.2.1 p.2.2.2.2.2.2.2.2.2.2.1 p.2.2.2.2.2.2.2.2.2.2.2) n h (x,y,z,u,v,w,a,b,c,d,i,j)
theorem nP {α β:Type}(a:Dr α)(b:Dr β):Dr (α×β):=a.elim λx=>b.elim λy=>⟨(x,y)⟩
theorem xA {p1 p2:Prop}{g:Prop}(h:p1/\p2)(k:p1->p2->g):g:=k h.1 h.2
theorem xE {α:Type}{p1:α->Prop}{g:Prop}(h:∃x:α,p1 x)(k:∀x,p1 x->g):g:=h.elim λx h1=>k x h1
theorem bP {p1 p2 p3:Prop}{g:Prop}(h:p1/\p2/\p3)(k:p1->p2->p3->g):g:=k h.1 h.2.1 h.2.2
theorem gx {α:Type}{p1:Prop}{p2:α->Prop}{g:Prop}(h:p1/\∃x:α,p2 x)(k:p1->∀x,p2 x->g):g:=(h.2).elim λx h1=>k h.1 x h1
theorem ac {α:Type}{p1 p2:α->Prop}{g:Prop}(h:∃x:α,p1 x/\p2 x)(k:∀x,p1 x->p2 x->g):g:=h.elim λx h1=>k x h1.1 h1.2
theorem cS {α β:Type}{p1:α->β->Prop}{g:Prop}(h:∃x:α,∃y:β,p1 x y)(k:∀x,∀y,p1 x y->g):g:=h.elim λx h1=>(h1).elim λy h2=>k x y h2
theorem dG {p1 p2 p3 p4:Prop}{g:Prop}(h:p1/\p2/\p3/\p4)(k:p1->p2->p3->p4->g):g:=k h.1 h.2.1 h.2.2.1 h.2.2.2
theorem jH {α:Type}{p1 p2:Prop}{p3:α->Prop}{g:Prop}(h:p1/\p2/\∃x:α,p3 x)(k:p1->p2->∀x,p3 x->g):g:=(h.2.2).elim λx h1=>k h.1 h.2.1 x h1
theorem gy {α:Type}{p1:Prop}{p2 p3:α->Prop}{g:Prop}(h:p1/\∃x:α,p2 x/\p3 x)(k:p1->∀x,p2 x->p3 x->g):g:=(h.2).elim λx h1=>k h.1 x h1.1 h1.2
theorem dm {α:Type}{p1 p2 p3:α->Prop}{g:Prop}(h:∃x:α,p1 x/\p2 x/\p3 x)(k:∀x,p1 x->p2 x->p3 x->g):g:=h.elim λx h1=>k x h1.1 h1.2.1 h1.2.2
theorem aY {α β:Type}{p1 p2:α->β->Prop}{g:Prop}(h:∃x:α,∃y:β,p1 x y/\p2 x y)(k:∀x,∀y,p1 x y->p2 x y->g):g:=h.elim λx h1=>(h1).elim λy h2=>k x y h2.1 h2.2
theorem jI {α β γ:Type}{p1:α->β->γ->Prop}{g:Prop}(h:∃x:α,∃y:β,∃z:γ,p1 x y z)(k:∀x,∀y,∀z,p1 x y z->g):g:=h.elim λx h1=>(h1).elim λy h2=>(h2).elim λz h3=>k x y z h3
theorem im {p1 p2 p3 p4 p5:Prop}{g:Prop}(h:p1/\p2/\p3/\p4/\p5)(k:p1->p2->p3->p4->p5->g):g:=k h.1 h.2.1 h.2.2.1 h.2.2.2.1 h.2.2.2.2
theorem jJ {α:Type}{p1 p2:Prop}{p3 p4:α->Prop}{g:Prop}(h:p1/\p2/\∃x:α,p3 x/\p4 x)(k:p1->p2->∀x,p3 x->p4 x->g):g:=(h.2.2).elim λx h1=>k h.1 h.2.1 x h1.1 h1.2
theorem oI {α β:Type}{p1:Prop}{p2 p3:α->β->Prop}{g:Prop}(h:p1/\∃x:α,∃y:β,p2 x y/\p3 x y)(k:p1->∀x,∀y,p2 x y->p3 x y->g):g:=(h.2).elim λx h1=>(h1).elim λy h2=>k h.1 x y h2.1 h2.2
theorem jK {α β γ:Type}{p1:Prop}{p2:α->β->γ->Prop}{g:Prop}(h:p1/\∃x:α,∃y:β,∃z:γ,p2 x y z)(k:p1->∀x,∀y,∀z,p2 x y z->g):g:=(h.2).elim λx h1=>(h1).elim λy h2=>(h2).elim λz h3=>k h.1 x y z h3
theorem dZ {α:Type}{p1 p2 p3 p4:α->Prop}{g:Prop}(h:∃x:α,p1 x/\p2 x/\p3 x/\p4 x)(k:∀x,p1 x->p2 x->p3 x->p4 x->g):g:=h.elim λx h1=>k x h1.1 h1.2.1 h1.2.2.1 h1.2.2.2
theorem mv {α β:Type}{p1:α->Prop}{p2 p3:α->β->Prop}{g:Prop}(h:∃x:α,p1 x/\∃y:β,p2 x y/\p3 x y)(k:∀x,p1 x->∀y,p2 x y->p3 x y->g):g:=h.elim λx h1=>(h1.2).elim λy h2=>k x h1.1 y h2.1 h2.2
theorem bW {α β:Type}{p1 p2 p3:α->β->Prop}{g:Prop}(h:∃x:α,∃y:β,p1 x y/\p2 x y/\p3 x y)(k:∀x,∀y,p1 x y->p2 x y->p3 x y->g):g:=h.elim λx h1=>(h1).elim λy h2=>k x y h2.1 h2.2.1 h2.2.2
theorem eJ {α β γ:Type}{p1 p2:α->β->γ->Prop}{g:Prop}(h:∃x:α,∃y:β,∃z:γ,p1 x y z/\p2 x y z)(k:∀x,∀y,∀z,p1 x y z->p2 x y z->g):g:=h.elim λx h1=>(h1).elim λy h2=>(h2).elim λz h3=>k x y z h3.1 h3.2
theorem eK {α β γ δ:Type}{p1:α->β->γ->δ->Prop}{g:Prop}(h:∃x:α,∃y:β,∃z:γ,∃u:δ,p1 x y z u)(k:∀x,∀y,∀z,∀u,p1 x y z u->g):g:=h.elim λx h1=>(h1).elim λy h2=>(h2).elim λz h3=>(h3).elim λu h4=>k x y z u h4
theorem gz {p1 p2 p3 p4 p5 p6:Prop}{g:Prop}(h:p1/\p2/\p3/\p4/\p5/\p6)(k:p1->p2->p3->p4->p5->p6->g):g:=k h.1 h.2.1 h.2.2.1 h.2.2.2.1 h.2.2.2.2.1 h.2.2.2.2.2
theorem jL {α:Type}{p1 p2:Prop}{p3 p4 p5:α->Prop}{g:Prop}(h:p1/\p2/\∃x:α,p3 x/\p4 x/\p5 x)(k:p1->p2->∀x,p3 x->p4 x->p5 x->g):g:=(h.2.2).elim λx h1=>k h.1 h.2.1 x h1.1 h1.2.1 h1.2.2
theorem eM {α β:Type}{p1:Prop}{p2 p3 p4:α->β->Prop}{g:Prop}(h:p1/\∃x:α,∃y:β,p2 x y/\p3 x y/\p4 x y)(k:p1->∀x,∀y,p2 x y->p3 x y->p4 x y->g):g:=(h.2).elim λx h1=>(h1).elim λy h2=>k h.1 x y h2.1 h2.2.1 h2.2.2
theorem eY {α β:Type}{p1 p2 p3 p4:α->β->Prop}{g:Prop}(h:∃x:α,∃y:β,p1 x y/\p2 x y/\p3 x y/\p4 x y)(k:∀x,∀y,p1 x y->p2 x y->p3 x y->p4 x y->g):g:=h.elim λx h1=>(h1).elim λy h2=>k x y h2.1 h2.2.1 h2.2.2.1 h2.2.2.2
theorem dX {α β γ δ:Type}{p1 p2:α->β->γ->δ->Prop}{g:Prop}(h:∃x:α,∃y:β,∃z:γ,∃u:δ,p1 x y z u/\p2 x y z u)(k:∀x,∀y,∀z,∀u,p1 x y z u->p2 x y z u->g):g:=h.elim λx h1=>(h1).elim λy h2=>(h2).elim λz h3=>(h3).elim λu h4=>k x y z u h4.1 h4.2
theorem dH {α β γ δ ε:Type}{p1:α->β->γ->δ->ε->Prop}{g:Prop}(h:∃x:α,∃y:β,∃z:γ,∃u:δ,∃v:ε,p1 x y z u v)(k:∀x,∀y,∀z,∀u,∀v,p1 x y z u v->g):g:=h.elim λx h1=>(h1).elim λy h2=>(h2).elim λz h3=>(h3).elim λu h4=>(h4).elim λv h5=>k x y z u v h5
theorem kL {α β:Type}{p1 p2:Prop}{p3 p4 p5:α->β->Prop}{g:Prop}(h:p1/\p2/\∃x:α,∃y:β,p3 x y/\p4 x y/\p5 x y)(k:p1->p2->∀x,∀y,p3 x y->p4 x y->p5 x y->g):g:=(h.2.2).elim λx h1=>(h1).elim λy h2=>k h.1 h.2.1 x y h2.1 h2.2.1 h2.2.2
theorem io {α β:Type}{p1 p2 p3 p4 p5:α->β->Prop}{g:Prop}(h:∃x:α,∃y:β,p1 x y/\p2 x y/\p3 x y/\p4 x y/\p5 x y)(k:∀x,∀y,p1 x y->p2 x y->p3 x y->p4 x y->p5 x y->g):g:=h.elim λx h1=>(h1).elim λy h2=>k x y h2.1 h2.2.1 h2.2.2.1 h2.2.2.2.1 h2.2.2.2.2
theorem kM {α β γ:Type}{p1 p2 p3 p4:α->β->γ->Prop}{g:Prop}(h:∃x:α,∃y:β,∃z:γ,p1 x y z/\p2 x y z/\p3 x y z/\p4 x y z)(k:∀x,∀y,∀z,p1 x y z->p2 x y z->p3 x y z->p4 x y z->g):g:=h.elim λx h1=>(h1).elim λy h2=>(h2).elim λz h3=>k x y z h3.1 h3.2.1 h3.2.2.1 h3.2.2.2
theorem jM {α β γ δ ε:Type}{p1 p2:α->β->γ->δ->ε->Prop}{g:Prop}(h:∃x:α,∃y:β,∃z:γ,∃u:δ,∃v:ε,p1 x y z u v/\p2 x y z u v)(k:∀x,∀y,∀z,∀u,∀v,p1 x y z u v->p2 x y z u v->g):g:=h.elim λx h1=>(h1).elim λy h2=>(h2).elim λz h3=>(h3).elim λu h4=>(h4).elim λv h5=>k x y z u v h5.1 h5.2
theorem jN {α β γ:Type}{p1 p2 p3 p4:Prop}{p5:α->β->γ->Prop}{g:Prop}(h:p1/\p2/\p3/\p4/\∃x:α,∃y:β,∃z:γ,p5 x y z)(k:p1->p2->p3->p4->∀x,∀y,∀z,p5 x y z->g):g:=(h.2.2.2.2).elim λx h1=>(h1).elim λy h2=>(h2).elim λz h3=>k h.1 h.2.1 h.2.2.1 h.2.2.2.1 x y z h3
theorem oJ {α β:Type}{p1:Prop}{p2 p3 p4 p5 p6:α->β->Prop}{g:Prop}(h:p1/\∃x:α,∃y:β,p2 x y/\p3 x y/\p4 x y/\p5 x y/\p6 x y)(k:p1->∀x,∀y,p2 x y->p3 x y->p4 x y->p5 x y->p6 x y->g):g:=(h.2).elim λx h1=>(h1).elim λy h2=>k h.1 x y h2.1 h2.2.1 h2.2.2.1 h2.2.2.2.1 h2.2.2.2.2
theorem fL {α β γ:Type}{p1 p2 p3 p4 p5:α->β->γ->Prop}{g:Prop}(h:∃x:α,∃y:β,∃z:γ,p1 x y z/\p2 x y z/\p3 x y z/\p4 x y z/\p5 x y z)(k:∀x,∀y,∀z,p1 x y z->p2 x y z->p3 x y z->p4 x y z->p5 x y z->g):g:=h.elim λx h1=>(h1).elim λy h2=>(h2).elim λz h3=>k x y z h3.1 h3.2.1 h3.2.2.1 h3.2.2.2.1 h3.2.2.2.2
theorem fW {α β γ δ ε:Type}{p1 p2 p3:α->β->γ->δ->ε->Prop}{g:Prop}(h:∃x:α,∃y:β,∃z:γ,∃u:δ,∃v:ε,p1 x y z u v/\p2 x y z u v/\p3 x y z u v)(k:∀x,∀y,∀z,∀u,∀v,p1 x y z u v->p2 x y z u v->p3 x y z u v->g):g:=h.elim λx h1=>(h1).elim λy h2=>(h2).elim λz h3=>(h3).elim λu h4=>(h4).elim λv h5=>k x y z u v h5.1 h5.2.1 h5.2.2
theorem oK {α β γ δ:Type}{p1:α->Prop}{p2 p3 p4:α->β->γ->Prop}{p5 p6:α->β->γ->δ->Prop}{g:Prop}(h:∃x:α,p1 x/\∃y:β,∃z:γ,p2 x y z/\p3 x y z/\p4 x y z/\∃u:δ,p5 x y z u/\p6 x y z u)(k:∀x,p1 x->∀y,∀z,p2 x y z->p3 x y z->p4 x y z->∀u,p5 x y z u->p6 x y z u->g):g:=h.elim λx h1=>(h1.2).elim λy h2=>(h2).elim λz h3=>(h3.2.2.2).elim λu h4=>k x h1.1 y z h3.1 h3.2.1 h3.2.2.1 u h4.1 h4.2
theorem aE {α:Type}{a x:α}(h:a≠x):a∉[x]:=λq=>h (g_.mp q)
theorem jO {α:Type}{a x:α}{l:b_ α}(h:a≠x)(k:a∉l):a∉x::l:=List.not_mem_cons_of_ne_of_not_mem h k
theorem cJ {α:Type}{a x y:α}(h:a≠x)(h2:a≠y):a∉[x,y]:=jO h (aE h2)
theorem eZ {α:Type}{a x y z:α}(h:a≠x)(h2:a≠y)(h3:a≠z):a∉[x,y,z]:=jO h (cJ h2 h3)
theorem ji {α:Type}{a x y z w:α}(h:a≠x)(h2:a≠y)(h3:a≠z)(h4:a≠w):a∉[x,y,z,w]:=jO h (eZ h2 h3 h4)
theorem Cp {α:Type}{a x y z w v:α}(h:a≠x)(h2:a≠y)(h3:a≠z)(h4:a≠w)(h5:a≠v):a∉[x,y,z,w,v]:=jO h (ji h2 h3 h4 h5)
theorem aW {α:Type}{P:α->Prop}:∀a∈([]:b_ α),P a:=λU h=>absurd h Jy
theorem mw {α:Type}{P:α->Prop}{x:α}{l:b_ α}(h:P x)(k:∀a∈l,P a):∀a∈x::l,P a:=Hc.mpr ⟨h,k⟩
theorem bT {α:Type}{P:α->Prop}{x:α}(h:P x):∀a∈[x],P a:=mw h aW
theorem iO {α:Type}{P:α->Prop}{x y:α}(h:P x)(h2:P y):∀a∈[x,y],P a:=mw h (bT h2)
theorem rc {α:Type}{P:α->Prop}{x y z:α}(h:P x)(h2:P y)(h3:P z):∀a∈[x,y,z],P a:=mw h (iO h2 h3)
theorem Cq {α:Type}{P:α->Prop}{x y z w:α}(h:P x)(h2:P y)(h3:P z)(h4:P w):∀a∈[x,y,z,w],P a:=mw h (rc h2 h3 h4)
theorem ns {α:Type}{x:α}(h:h_=a_ x):False:=nomatch h
theorem sn {α:Type}{x:α}(h:a_ x=h_):False:=nomatch h
theorem ft (h:g'=e_):False:=nomatch h
theorem nc {α:Type}{x:α}{l:b_ α}(h:[]=x::l):False:=nomatch h
theorem cn {α:Type}{x:α}{l:b_ α}(h:x::l=[]):False:=nomatch h
theorem aj {α:Type}{a:α}:a∉([]:b_ α):=Jy
theorem Cr {a b c:Int}(h:b<=c)(k:a<=b):a<=c:=Eu k h
theorem Cs {a b c:Int}(h:b<=c)(k:a<b):a<c:=Gr k h
theorem Ct {a b n:Nat}(h:b<=n)(k:a<b):¬n=a:=FZ (Gs k h)
theorem Cu {p:Nat}{x:Int}(h:¬p=x.toNat):¬ (p:Int)=x:=λq=>h (q▸rfl)
theorem Cv {k a b c n:Nat}(h:k=a\/k=b\/k=c)(g:(a==n||b==n||c==n)=g':=by rfl):¬k=n:=λq=>by
 rw[q]at h;rcases h with rfl|rfl|rfl<;>simp at g
theorem Cw {k a b c d e n:Nat}(h:k=a\/k=b\/k=c\/k=d\/k=e)(g:(a==n||b==n||c==n||d==n||e==n)=g':=by rfl):¬k=n:=λq=>by
 rw[q]at h;rcases h with rfl|rfl|rfl|rfl|rfl<;>simp at g
theorem Cx {x y:Int}(h:x+1<y)(g:x=y):False:=by omega
theorem Cy {x y:Int}(h:x+1<y)(g:x=y+1):False:=by omega
theorem Cz {x y:Int}(h:x+1<y)(g:y=x+1):False:=by omega
theorem CA {q m:Nat}{g:Int}(h:g=q+1)(k:q<m)(l:m<g):False:=by omega
theorem CB {q m:Nat}{g:Int}(h:g+1=q+1)(k:q<m)(l:m<g):False:=by omega
theorem CC {n m:Nat}(h:m=n+1:=by rfl):(m:Int)-1=n:=by subst h;exact Int.add_sub_cancel (n:Int) 1
theorem CE {a b c n k:Nat}(h:a+(b+c)<=n)(g:n<=k):b<=k:=by omega
theorem CF {a b r k:Nat}(h:a<=k)(g:b<=k*r):a+b<=k*(r+1):=o_ (Fv h g) (DX (Ji _ _))
theorem CG {d:Int}{M:Nat}(h:d<8)(g:1+d=M):M<=8:=by omega
theorem CH {d:Int}{M:Nat}(h:0<=d)(g:1+d=M):0<(M:Int):=by omega
theorem CI {A j X Y k:Nat}(h:j=A+Y)(g:j<=k)(l:X<=Y):X<=k:=by omega
theorem CJ {a b:Nat}{x:Int}(h:x=a)(g:(b:Int)=x):a=b:=by omega
theorem CK {n:Nat}(h:n<20):n+1+1+1+1+1+1<40:=Gs (Nat.add_lt_add_right h 6) (by decide)
section
set_option backward.match.sparseCases true
abbrev Lw:OpenLaw:=PySem.Challenge.rw_qd0148_01
abbrev Rw:OpenRow:=Lw.row
abbrev Pg:Fc:=Rw.toRowW.prog
noncomputable abbrev p0:Pos:=⟨0,0,0,0⟩
noncomputable def S (x:Str)(t:Nat):c_:=.str x t
noncomputable def e (P:DF)(x:Str)(t:Nat)(v:c_):Gx:={hash:=DZ P x,key:=.str x t,val:=v}
noncomputable def oM:b_ Gf->Nat->Gf
 | [],_=>.Pass p0
 |s::_,0=>s
 |_::l,n+1=>oM l n
noncomputable def cK (i:Nat):Gf:=oM Pg.main.body i
noncomputable def bQ (i j:Nat):Gf:=match cK i with
 |.ClassDef _ _ _ b _ _ _ _ _ _ _=>oM b j
 |s=>s
noncomputable def fO (s:Gf)(q:Str)(d m:c_)(c:d_):Obj:=match s with
 |.FunctionDef n a b _ _ _ sc _ _ _=>{cls:=.type "function",data:=.func {name:=n,qualname:=q,params:=a,body:=.stmts b,scope:=sc,globals:=3,closure:=[],defaults:=d,kwdefaults:=.none,pyModule:=m,code:=.ref c}}
 |_=>{cls:=.none,data:=.plain}
noncomputable def cO (n q:Str)(t:Nat)(line XI fl:Int)(A:d_)(x y z:c_)(u:Nat):Obj:={cls:=.type "code",data:=.fields #[.str n t,.str q (t+1),.str "/claim/cut.py" (t+2),.int line 0,.int XI 0,.int 0 0,.int 0 0,.int fl 0,.ref A,.bool e_,.int 181 0,.ref (A+1),.none,x,y,z,.int u 0,.int line 0,.str "/claim/cut.py" (u+1)]}
noncomputable def kO (n:Str)(b m:b_ c_)(ns:d_)(sub:b_ c_)(s0:m_ c_)(t1 t2:Nat)(new:c_):Obj:={cls:=.type "type",data:=.cls {name:=n,bases:=b,mro:=m,ns:=ns,qualname:=n,subclasses:=sub},slots:= #[s0,h_,a_ (.str n t1),a_ (.str n t2),a_ new,a_ (.bool e_)]}
noncomputable def m0:c_:=.str "perlcore.numbers" 194
noncomputable def m1:c_:=.str "perlcore.values" 206
noncomputable def m2:c_:=.str "perlcore.convert" 515
noncomputable def m3:c_:=.str "perlcore.counts" 531
noncomputable def m4:c_:=.str "perlcore.dynamic" 768
noncomputable def m5:c_:=.str "perlcore.errors" 925
noncomputable def m6:c_:=.str "perlcore.runstmt" 1058
noncomputable def m7:c_:=.str "perlcore.whole" 1068
noncomputable def m8:c_:=.str "perlcore.frames" 1109
noncomputable def m9:c_:=.str "perlcore.limits" 1200
noncomputable def m10:c_:=.str "perlcore.stash" 1250
noncomputable def gA:c_:=.str "law_qd0148_01" 1332
noncomputable def KC:GC:=[
 (27,cO "number_text" "number_text" 198 6 1 3 22 (.ref 24) (.ref 25) (.ref 26) 203),
 (28,fO (cK 3) "number_text" (.none) m0 27),
 (41,cO "__init__" "Thing.__init__" 222 18 2 3 36 (.ref 38) (.ref 39) (.ref 40) 227),
 (42,fO (bQ 6 0) "Thing.__init__" (.none) m1 41),
 (45,kO "Thing" [.type "object"] [.ref 45,.type "object"] 44 [.ref 66,.ref 85,.ref 104,.ref 123,.ref 142] h_ 210 218 (.builtin "object.__new__")),
 (46,{cls:=.type "getset_descriptor",data:=.fields #[S "__dict__" 237,.ref 45,.builtin "function.__dict__",.builtin "function.__dict__#set"]}),
 (47,{cls:=.type "getset_descriptor",data:=.fields #[S "__weakref__" 239,.ref 45,.builtin "ExceptionGroup.__weakref__",.none]}),
 (62,cO "__init__" "Scalar.__init__" 256 27 3 3 57 (.ref 59) (.ref 60) (.ref 61) 262),
 (63,fO (bQ 7 0) "Scalar.__init__" (.none) m1 62),
 (66,kO "Scalar" [.ref 45] [.ref 66,.ref 45,.type "object"] 65 [] (a_ (.ref 50)) 244 252 (.builtin "object.__new__")),
 (81,cO "__init__" "Array.__init__" 283 33 2 3 76 (.ref 78) (.ref 79) (.ref 80) 288),
 (82,fO (bQ 8 0) "Array.__init__" (.none) m1 81),
 (85,kO "Array" [.ref 45] [.ref 85,.ref 45,.type "object"] 84 [] (a_ (.ref 69)) 271 279 (.builtin "object.__new__")),
 (101,fO (bQ 9 0) "Hash.__init__" (.none) m1 100),
 (104,kO "Hash" [.ref 45] [.ref 104,.ref 45,.type "object"] 103 [] (a_ (.ref 88)) 297 305 (.builtin "object.__new__")),
 (120,fO (bQ 10 0) "Code.__init__" (.none) m1 119),
 (123,kO "Code" [.ref 45] [.ref 123,.ref 45,.type "object"] 122 [] (a_ (.ref 107)) 324 332 (.builtin "object.__new__")),
 (138,cO "__init__" "Glob.__init__" 366 54 3 3 133 (.ref 135) (.ref 136) (.ref 137) 372),
 (139,fO (bQ 11 0) "Glob.__init__" (.none) m1 138),
 (142,kO "Glob" [.ref 45] [.ref 142,.ref 45,.type "object"] 141 [] (a_ (.ref 126)) 354 362 (.builtin "object.__new__")),
 (152,{cls:=.type "tuple",data:=.seq #[.bool g']}),
 (158,cO "__init__" "Ref.__init__" 396 63 3 3 153 (.ref 155) (.ref 156) (.ref 157) 402),
 (159,fO (bQ 12 0) "Ref.__init__" (.ref 152) m1 158),
 (162,kO "Ref" [.type "object"] [.ref 162,.type "object"] 161 [] h_ 384 392 (.builtin "object.__new__")),
 (163,{cls:=.type "getset_descriptor",data:=.fields #[S "__dict__" 408,.ref 162,.builtin "function.__dict__",.builtin "function.__dict__#set"]}),
 (164,{cls:=.type "getset_descriptor",data:=.fields #[S "__weakref__" 410,.ref 162,.builtin "ExceptionGroup.__weakref__",.none]}),
 (179,cO "__init__" "Heap.__init__" 427 68 2 3 174 (.ref 176) (.ref 177) (.ref 178) 432),
 (180,fO (bQ 13 0) "Heap.__init__" (.none) m1 179),
 (186,cO "next_number" "Heap.next_number" 435 73 1 3 181 (.ref 183) (.ref 184) (.ref 185) 439),
 (187,fO (bQ 13 1) "Heap.next_number" (.none) m1 186),
 (193,cO "new_scalar" "Heap.new_scalar" 442 77 2 3 188 (.ref 190) (.ref 191) (.ref 192) 447),
 (194,fO (bQ 13 2) "Heap.new_scalar" (.none) m1 193),
 (200,cO "new_array" "Heap.new_array" 450 80 1 3 195 (.ref 197) (.ref 198) (.ref 199) 454),
 (201,fO (bQ 13 3) "Heap.new_array" (.none) m1 200),
 (208,fO (bQ 13 4) "Heap.new_hash" (.none) m1 207),
 (215,fO (bQ 13 5) "Heap.new_code" (.none) m1 214),
 (221,cO "new_glob" "Heap.new_glob" 473 89 2 3 216 (.ref 218) (.ref 219) (.ref 220) 478),
 (222,fO (bQ 13 6) "Heap.new_glob" (.none) m1 221),
 (225,kO "Heap" [.type "object"] [.ref 225,.type "object"] 224 [] h_ 415 423 (.builtin "object.__new__")),
 (226,{cls:=.type "getset_descriptor",data:=.fields #[S "__dict__" 485,.ref 225,.builtin "function.__dict__",.builtin "function.__dict__#set"]}),
 (227,{cls:=.type "getset_descriptor",data:=.fields #[S "__weakref__" 487,.ref 225,.builtin "ExceptionGroup.__weakref__",.none]}),
 (235,cO "thing_word" "thing_word" 492 91 1 3 230 (.ref 232) (.ref 233) (.ref 234) 496),
 (236,fO (cK 14) "thing_word" (.none) m1 235),
 (242,cO "hex_of" "hex_of" 499 103 1 3 237 (.ref 239) (.ref 240) (.ref 241) 504),
 (243,fO (cK 15) "hex_of" (.none) m1 242),
 (249,cO "ref_text" "ref_text" 507 109 1 3 244 (.ref 246) (.ref 247) (.ref 248) 512),
 (250,fO (cK 16) "ref_text" (.none) m1 249),
 (256,cO "value_of" "value_of" 517 115 1 3 251 (.ref 253) (.ref 254) (.ref 255) 521),
 (257,fO (cK 18) "value_of" (.none) m2 256),
 (263,cO "to_text" "to_text" 524 121 1 3 258 (.ref 260) (.ref 261) (.ref 262) 528),
 (264,fO (cK 19) "to_text" (.none) m2 263),
 (278,fO (bQ 21 0) "Tie.__init__" (.none) m3 277),
 (281,kO "Tie" [.type "object"] [.ref 281,.type "object"] 280 [] h_ 533 541 (.builtin "object.__new__")),
 (282,{cls:=.type "getset_descriptor",data:=.fields #[S "__dict__" 555,.ref 281,.builtin "function.__dict__",.builtin "function.__dict__#set"]}),
 (283,{cls:=.type "getset_descriptor",data:=.fields #[S "__weakref__" 557,.ref 281,.builtin "ExceptionGroup.__weakref__",.none]}),
 (291,cO "kept_behind" "kept_behind" 562 134 1 3 286 (.ref 288) (.ref 289) (.ref 290) 567),
 (292,fO (cK 22) "kept_behind" (.none) m3 291),
 (296,cO "held_by" "held_by" 570 141 1 3 293 (.none) (.none) (.ref 295) 573),
 (297,fO (cK 23) "held_by" (.none) m3 296),
 (303,cO "empty_out" "empty_out" 576 153 1 3 298 (.ref 300) (.ref 301) (.ref 302) 580),
 (304,fO (cK 24) "empty_out" (.none) m3 303),
 (308,cO "in_order" "in_order" 583 170 1 3 305 (.none) (.none) (.ref 307) 586),
 (309,fO (cK 25) "in_order" (.none) m3 308),
 (322,cO "__init__" "Counter.__init__" 601 178 3 3 317 (.ref 319) (.ref 320) (.ref 321) 607),
 (323,fO (bQ 26 0) "Counter.__init__" (.none) m3 322),
 (329,cO "hold" "Counter.hold" 610 184 2 3 324 (.ref 326) (.ref 327) (.ref 328) 615),
 (330,fO (bQ 26 1) "Counter.hold" (.none) m3 329),
 (336,cO "let_go" "Counter.let_go" 618 187 2 3 331 (.ref 333) (.ref 334) (.ref 335) 623),
 (337,fO (bQ 26 2) "Counter.let_go" (.none) m3 336),
 (343,cO "note" "Counter.note" 626 192 2 3 338 (.ref 340) (.ref 341) (.ref 342) 631),
 (344,fO (bQ 26 3) "Counter.note" (.none) m3 343),
 (350,cO "take" "Counter.take" 634 196 2 3 345 (.ref 347) (.ref 348) (.ref 349) 639),
 (351,fO (bQ 26 4) "Counter.take" (.none) m3 350),
 (355,cO "put_off" "Counter.put_off" 642 204 3 3 352 (.none) (.none) (.ref 354) 645),
 (356,fO (bQ 26 5) "Counter.put_off" (.none) m3 355),
 (362,cO "store" "Counter.store" 648 212 3 3 357 (.ref 359) (.ref 360) (.ref 361) 655),
 (363,fO (bQ 26 6) "Counter.store" (.none) m3 362),
 (369,cO "fresh" "Counter.fresh" 658 222 2 3 364 (.ref 366) (.ref 367) (.ref 368) 664),
 (370,fO (bQ 26 7) "Counter.fresh" (.none) m3 369),
 (376,cO "drop" "Counter.drop" 667 227 2 3 371 (.ref 373) (.ref 374) (.ref 375) 672),
 (377,fO (bQ 26 8) "Counter.drop" (.none) m3 376),
 (383,cO "settle" "Counter.settle" 675 230 2 3 378 (.ref 380) (.ref 381) (.ref 382) 682),
 (384,fO (bQ 26 9) "Counter.settle" (.none) m3 383),
 (390,cO "finish" "Counter.finish" 685 240 2 3 385 (.ref 387) (.ref 388) (.ref 389) 690),
 (391,fO (bQ 26 10) "Counter.finish" (.none) m3 390),
 (397,cO "free" "Counter.free" 693 248 2 3 392 (.ref 394) (.ref 395) (.ref 396) 702),
 (398,fO (bQ 26 11) "Counter.free" (.none) m3 397),
 (401,kO "Counter" [.type "object"] [.ref 401,.type "object"] 400 [] h_ 589 597 (.builtin "object.__new__")),
 (402,{cls:=.type "getset_descriptor",data:=.fields #[S "__dict__" 710,.ref 401,.builtin "function.__dict__",.builtin "function.__dict__#set"]}),
 (403,{cls:=.type "getset_descriptor",data:=.fields #[S "__weakref__" 712,.ref 401,.builtin "ExceptionGroup.__weakref__",.none]}),
 (411,cO "bless_thing" "bless_thing" 717 263 2 3 406 (.ref 408) (.ref 409) (.ref 410) 722),
 (412,fO (cK 27) "bless_thing" (.none) m3 411),
 (418,cO "destroy_all" "destroy_all" 725 265 2 3 413 (.ref 415) (.ref 416) (.ref 417) 733),
 (419,fO (cK 28) "destroy_all" (.none) m3 418),
 (447,cO "local_scalar" "local_scalar" 773 300 2 3 442 (.ref 444) (.ref 445) (.ref 446) 779),
 (448,fO (cK 36) "local_scalar" (.none) m4 447),
 (454,cO "let_go_of" "let_go_of" 782 305 2 3 449 (.ref 451) (.ref 452) (.ref 453) 787),
 (455,fO (cK 37) "let_go_of" (.none) m4 454),
 (461,cO "undo_scalar" "undo_scalar" 790 308 2 3 456 (.ref 458) (.ref 459) (.ref 460) 795),
 (462,fO (cK 38) "undo_scalar" (.none) m4 461),
 (539,cO "leave" "leave" 916 368 2 3 534 (.ref 536) (.ref 537) (.ref 538) 922),
 (540,fO (cK 50) "leave" (.none) m4 539),
 (553,cO "__init__" "PerlError.__init__" 939 375 2 3 548 (.ref 550) (.ref 551) (.ref 552) 944),
 (554,fO (bQ 52 0) "PerlError.__init__" (.none) m5 553),
 (557,kO "PerlError" [.type "Exception"] [.ref 557,.type "Exception",.type "BaseException",.type "object"] 556 [.ref 577,.ref 596,.ref 615,.ref 634] (a_ (.ref 541)) 927 935 (.builtin "Exception.__new__")),
 (558,{cls:=.type "getset_descriptor",data:=.fields #[S "__weakref__" 949,.ref 557,.builtin "ExceptionGroup.__weakref__",.none]}),
 (573,cO "__init__" "Die.__init__" 968 380 2 3 568 (.ref 570) (.ref 571) (.ref 572) 973),
 (574,fO (bQ 53 0) "Die.__init__" (.none) m5 573),
 (577,kO "Die" [.ref 557] [.ref 577,.ref 557,.type "Exception",.type "BaseException",.type "object"] 576 [] (a_ (.ref 561)) 956 964 (.builtin "Exception.__new__")),
 (592,cO "__init__" "LoopLeave.__init__" 993 385 3 3 587 (.ref 589) (.ref 590) (.ref 591) 999),
 (593,fO (bQ 54 0) "LoopLeave.__init__" (.none) m5 592),
 (596,kO "LoopLeave" [.ref 557] [.ref 596,.ref 557,.type "Exception",.type "BaseException",.type "object"] 595 [] (a_ (.ref 580)) 981 989 (.builtin "Exception.__new__")),
 (611,cO "__init__" "SubReturn.__init__" 1020 391 2 3 606 (.ref 608) (.ref 609) (.ref 610) 1025),
 (612,fO (bQ 55 0) "SubReturn.__init__" (.none) m5 611),
 (615,kO "SubReturn" [.ref 557] [.ref 615,.ref 557,.type "Exception",.type "BaseException",.type "object"] 614 [] (a_ (.ref 599)) 1008 1016 (.builtin "Exception.__new__")),
 (630,cO "__init__" "ExitRun.__init__" 1045 396 2 3 625 (.ref 627) (.ref 628) (.ref 629) 1050),
 (631,fO (bQ 56 0) "ExitRun.__init__" (.none) m5 630),
 (634,kO "ExitRun" [.ref 557] [.ref 634,.ref 557,.type "Exception",.type "BaseException",.type "object"] 633 [] (a_ (.ref 618)) 1033 1041 (.builtin "Exception.__new__")),
 (642,cO "with_line" "with_line" 1060 400 2 3 637 (.ref 639) (.ref 640) (.ref 641) 1065),
 (643,fO (cK 58) "with_line" (.none) m6 642),
 (647,cO "blessed_things" "blessed_things" 1070 405 1 3 644 (.none) (.none) (.ref 646) 1073),
 (648,fO (cK 60) "blessed_things" (.none) m7 647),
 (654,cO "things_near" "things_near" 1076 415 1 3 649 (.ref 651) (.ref 652) (.ref 653) 1081),
 (655,fO (cK 61) "things_near" (.none) m7 654),
 (661,cO "lost_leave" "lost_leave" 1084 420 1 3 656 (.ref 658) (.ref 659) (.ref 660) 1088),
 (662,fO (cK 62) "lost_leave" (.none) m7 661),
 (668,cO "guarded_program" "guarded_program" 1091 424 2 3 663 (.ref 665) (.ref 666) (.ref 667) 1099),
 (669,fO (cK 63) "guarded_program" (.none) m7 668),
 (675,cO "finish_program" "finish_program" 1102 439 1 3 670 (.ref 672) (.ref 673) (.ref 674) 1106),
 (676,fO (cK 64) "finish_program" (.none) m7 675),
 (689,cO "__init__" "Frame.__init__" 1123 446 7 3 684 (.ref 686) (.ref 687) (.ref 688) 1133),
 (690,fO (bQ 66 0) "Frame.__init__" (.none) m8 689),
 (693,kO "Frame" [.type "object"] [.ref 693,.type "object"] 692 [] h_ 1111 1119 (.builtin "object.__new__")),
 (694,{cls:=.type "getset_descriptor",data:=.fields #[S "__dict__" 1143,.ref 693,.builtin "function.__dict__",.builtin "function.__dict__#set"]}),
 (695,{cls:=.type "getset_descriptor",data:=.fields #[S "__weakref__" 1145,.ref 693,.builtin "ExceptionGroup.__weakref__",.none]}),
 (710,cO "__init__" "Run.__init__" 1162 455 5 3 705 (.ref 707) (.ref 708) (.ref 709) 1170),
 (711,fO (bQ 67 0) "Run.__init__" (.none) m8 710),
 (714,kO "Run" [.type "object"] [.ref 714,.type "object"] 713 [] h_ 1150 1158 (.builtin "object.__new__")),
 (715,{cls:=.type "getset_descriptor",data:=.fields #[S "__dict__" 1193,.ref 714,.builtin "function.__dict__",.builtin "function.__dict__#set"]}),
 (716,{cls:=.type "getset_descriptor",data:=.fields #[S "__weakref__" 1195,.ref 714,.builtin "ExceptionGroup.__weakref__",.none]}),
 (726,{cls:=.type "tuple",data:=.seq #[.int 64 1214,.int 50 1215,.int 1000000 1218,.int 100000 1221,.int 10000 1224]}),
 (732,cO "__init__" "Limits.__init__" 1225 478 6 3 727 (.ref 729) (.ref 730) (.ref 731) 1234),
 (733,fO (bQ 69 0) "Limits.__init__" (.ref 726) m9 732),
 (736,kO "Limits" [.type "object"] [.ref 736,.type "object"] 735 [] h_ 1202 1210 (.builtin "object.__new__")),
 (737,{cls:=.type "getset_descriptor",data:=.fields #[S "__dict__" 1243,.ref 736,.builtin "function.__dict__",.builtin "function.__dict__#set"]}),
 (738,{cls:=.type "getset_descriptor",data:=.fields #[S "__weakref__" 1245,.ref 736,.builtin "ExceptionGroup.__weakref__",.none]}),
 (753,cO "__init__" "Stash.__init__" 1264 487 2 3 748 (.ref 750) (.ref 751) (.ref 752) 1269),
 (754,fO (bQ 71 0) "Stash.__init__" (.none) m10 753),
 (760,cO "glob_of" "Stash.glob_of" 1272 492 2 3 755 (.ref 757) (.ref 758) (.ref 759) 1277),
 (761,fO (bQ 71 1) "Stash.glob_of" (.none) m10 760),
 (767,cO "scalar_of" "Stash.scalar_of" 1280 497 2 3 762 (.ref 764) (.ref 765) (.ref 766) 1286),
 (768,fO (bQ 71 2) "Stash.scalar_of" (.none) m10 767),
 (775,fO (bQ 71 3) "Stash.array_of" (.none) m10 774),
 (782,fO (bQ 71 4) "Stash.hash_of" (.none) m10 781),
 (789,fO (bQ 71 5) "Stash.code_of" (.none) m10 788),
 (796,fO (bQ 71 6) "Stash.find_array" (.none) m10 795),
 (799,kO "Stash" [.type "object"] [.ref 799,.type "object"] 798 [] h_ 1252 1260 (.builtin "object.__new__")),
 (800,{cls:=.type "getset_descriptor",data:=.fields #[S "__dict__" 1325,.ref 799,.builtin "function.__dict__",.builtin "function.__dict__#set"]}),
 (801,{cls:=.type "getset_descriptor",data:=.fields #[S "__weakref__" 1327,.ref 799,.builtin "ExceptionGroup.__weakref__",.none]}),
 (809,cO "_law_dig" "_law_dig" 1334 516 2 3 804 (.ref 806) (.ref 807) (.ref 808) 1339),
 (810,fO (cK 73) "_law_dig" (.none) gA 809),
 (816,cO "_law_leaving" "_law_leaving" 1342 521 3 3 811 (.ref 813) (.ref 814) (.ref 815) 1353),
 (817,fO (cK 74) "_law_leaving" (.none) gA 816),
 (823,cO "_law_program_right" "_law_program_right" 1356 546 1 3 818 (.ref 820) (.ref 821) (.ref 822) 1368),
 (824,fO (cK 75) "_law_program_right" (.none) gA 823),
 (828,cO "_law_drawn" "_law_drawn" 1371 559 1 3 825 (.none) (.none) (.ref 827) 1374),
 (829,fO (cK 76) "_law_drawn" (.none) gA 828),
 (833,cO "_law_met" "_law_met" 1377 565 2 3 830 (.none) (.none) (.ref 832) 1380),
 (834,fO (cK 77) "_law_met" (.none) gA 833),
 (838,cO "_law_rounds" "_law_rounds" 1383 573 3 3 835 (.none) (.none) (.ref 837) 1386),
 (839,fO (cK 78) "_law_rounds" (.none) gA 838),
 (843,cO "_law_end_right" "_law_end_right" 1389 587 1 3 840 (.none) (.none) (.ref 842) 1392),
 (844,fO (cK 79) "_law_end_right" (.none) gA 843),
 (849,fO (cK 80) "law" (.none) gA 848)]
noncomputable def KD (P:DF):GC:=[
 (2,{cls:=.none,data:=.dict #[e P "type.__subclasses__.Exception.0" 952 (.int 557 0),e P "type.__subclasses__.Exception.n" 953 (.int 1 0)] 2}),
 (3,{cls:=.type "dict",data:=.dict #[e P "__name__" 165 (S "law_qd0148_01" 1332),e P "__doc__" 166 (.none),e P "__package__" 167 (.none),e P "__loader__" 168 (.builtin "__main__.__loader__#opaque"),e P "__spec__" 169 (.none),e P "__annotations__" 170 (.ref 6),e P "__builtins__" 171 (.ref 4),e P "__file__" 173 (S "/claim/cut.py" 172),e P "__cached__" 174 (.none),e P "_wall" 193 (.ref 21),e P "FIGURES" 197 (S "0123456789" 196),e P "number_text" 205 (.ref 28),e P "HEX_FIGURES" 209 (S "0123456789abcdef" 208),e P "Thing" 243 (.ref 45),e P "Scalar" 270 (.ref 66),e P "Array" 296 (.ref 85),e P "Hash" 323 (.ref 104),e P "Code" 353 (.ref 123),e P "Glob" 383 (.ref 142),e P "Ref" 414 (.ref 162),e P "Heap" 491 (.ref 225),e P "thing_word" 498 (.ref 236),e P "hex_of" 506 (.ref 243),e P "ref_text" 514 (.ref 250),e P "value_of" 523 (.ref 257),e P "to_text" 530 (.ref 264),e P "Tie" 561 (.ref 281),e P "kept_behind" 569 (.ref 292),e P "held_by" 575 (.ref 297),e P "empty_out" 582 (.ref 304),e P "in_order" 588 (.ref 309),e P "Counter" 716 (.ref 401),e P "bless_thing" 724 (.ref 412),e P "destroy_all" 735 (.ref 419),e P "drop_member" 746 (.ref 426),e P "key_place" 758 (.ref 433),e P "delete_key" 767 (.ref 440),e P "LAST_PATTERN" 772 (.ref 441),e P "local_scalar" 781 (.ref 448),e P "let_go_of" 789 (.ref 455),e P "undo_scalar" 797 (.ref 462),e P "undo_array" 805 (.ref 469),e P "undo_hash" 813 (.ref 476),e P "undo_code" 821 (.ref 483),e P "undo_elem" 834 (.ref 490),e P "undo_helem" 846 (.ref 497),e P "undo_tied" 858 (.ref 504),e P "undo_pad" 866 (.ref 511),e P "undo_slot" 874 (.ref 518),e P "undo_match" 882 (.ref 525),e P "undo_package" 890 (.ref 532),e P "UNDOERS" 915 (.ref 533),e P "leave" 924 (.ref 540),e P "PerlError" 955 (.ref 557),e P "Die" 980 (.ref 577),e P "LoopLeave" 1007 (.ref 596),e P "SubReturn" 1032 (.ref 615),e P "ExitRun" 1057 (.ref 634),e P "with_line" 1067 (.ref 643),e P "blessed_things" 1075 (.ref 648),e P "things_near" 1083 (.ref 655),e P "lost_leave" 1090 (.ref 662),e P "guarded_program" 1101 (.ref 669),e P "finish_program" 1108 (.ref 676),e P "Frame" 1149 (.ref 693),e P "Run" 1199 (.ref 714),e P "Limits" 1249 (.ref 736),e P "Stash" 1331 (.ref 799),e P "_law_dig" 1341 (.ref 810),e P "_law_leaving" 1355 (.ref 817),e P "_law_program_right" 1370 (.ref 824),e P "_law_drawn" 1376 (.ref 829),e P "_law_met" 1382 (.ref 834),e P "_law_rounds" 1388 (.ref 839),e P "_law_end_right" 1394 (.ref 844),e P "law" 1400 (.ref 849)] 76}),
 (44,{cls:=.type "dict",data:=.dict #[e P "__module__" 217 (S "perlcore.values" 206),e P "__firstlineno__" 221 (.int 16 220),e P "__init__" 229 (.ref 42),e P "__static_attributes__" 236 (.ref 43),e P "__dict__" 238 (.ref 46),e P "__weakref__" 240 (.ref 47),e P "__doc__" 241 (.none)] 4}),
 (65,{cls:=.type "dict",data:=.dict #[e P "__module__" 251 (S "perlcore.values" 206),e P "__firstlineno__" 255 (.int 25 254),e P "__init__" 264 (.ref 63),e P "__static_attributes__" 267 (.ref 64),e P "__doc__" 268 (.none)] 2}),
 (84,{cls:=.type "dict",data:=.dict #[e P "__module__" 278 (S "perlcore.values" 206),e P "__firstlineno__" 282 (.int 31 281),e P "__init__" 290 (.ref 82),e P "__static_attributes__" 293 (.ref 83),e P "__doc__" 294 (.none)] 2}),
 (103,{cls:=.type "dict",data:=.dict #[e P "__module__" 304 (S "perlcore.values" 206),e P "__firstlineno__" 308 (.int 37 307),e P "__init__" 316 (.ref 101),e P "__static_attributes__" 320 (.ref 102),e P "__doc__" 321 (.none)] 2}),
 (122,{cls:=.type "dict",data:=.dict #[e P "__module__" 331 (S "perlcore.values" 206),e P "__firstlineno__" 335 (.int 44 334),e P "__init__" 345 (.ref 120),e P "__static_attributes__" 350 (.ref 121),e P "__doc__" 351 (.none)] 2}),
 (141,{cls:=.type "dict",data:=.dict #[e P "__module__" 361 (S "perlcore.values" 206),e P "__firstlineno__" 365 (.int 52 364),e P "__init__" 374 (.ref 139),e P "__static_attributes__" 380 (.ref 140),e P "__doc__" 381 (.none)] 2}),
 (161,{cls:=.type "dict",data:=.dict #[e P "__module__" 391 (S "perlcore.values" 206),e P "__firstlineno__" 395 (.int 61 394),e P "__init__" 404 (.ref 159),e P "__static_attributes__" 407 (.ref 160),e P "__dict__" 409 (.ref 163),e P "__weakref__" 411 (.ref 164),e P "__doc__" 412 (.none)] 4}),
 (224,{cls:=.type "dict",data:=.dict #[e P "__module__" 422 (S "perlcore.values" 206),e P "__firstlineno__" 426 (.int 66 425),e P "__init__" 434 (.ref 180),e P "next_number" 441 (.ref 187),e P "new_scalar" 449 (.ref 194),e P "new_array" 456 (.ref 201),e P "new_hash" 463 (.ref 208),e P "new_code" 472 (.ref 215),e P "new_glob" 480 (.ref 222),e P "__static_attributes__" 484 (.ref 223),e P "__dict__" 486 (.ref 226),e P "__weakref__" 488 (.ref 227),e P "__doc__" 489 (.none)] 4}),
 (280,{cls:=.type "dict",data:=.dict #[e P "__module__" 540 (S "perlcore.counts" 531),e P "__firstlineno__" 544 (.int 130 543),e P "__init__" 552 (.ref 278),e P "__static_attributes__" 554 (.ref 279),e P "__dict__" 556 (.ref 282),e P "__weakref__" 558 (.ref 283),e P "__doc__" 559 (.none)] 4}),
 (400,{cls:=.type "dict",data:=.dict #[e P "__module__" 596 (S "perlcore.counts" 531),e P "__firstlineno__" 600 (.int 176 599),e P "__init__" 609 (.ref 323),e P "hold" 617 (.ref 330),e P "let_go" 625 (.ref 337),e P "note" 633 (.ref 344),e P "take" 641 (.ref 351),e P "put_off" 647 (.ref 356),e P "store" 657 (.ref 363),e P "fresh" 666 (.ref 370),e P "drop" 674 (.ref 377),e P "settle" 684 (.ref 384),e P "finish" 692 (.ref 391),e P "free" 704 (.ref 398),e P "__static_attributes__" 709 (.ref 399),e P "__dict__" 711 (.ref 402),e P "__weakref__" 713 (.ref 403),e P "__doc__" 714 (.none)] 4}),
 (533,{cls:=.type "dict",data:=.dict #[e P "scalar" 891 (.ref 462),e P "array" 892 (.ref 469),e P "hash" 893 (.ref 476),e P "code" 894 (.ref 483),e P "elem" 895 (.ref 490),e P "helem" 896 (.ref 497),e P "pad" 897 (.ref 511),e P "slot" 898 (.ref 518),e P "match" 899 (.ref 525),e P "package" 900 (.ref 532),e P "tiedelem" 901 (.ref 504),e P "tiedkey" 902 (.ref 504)] 12}),
 (556,{cls:=.type "dict",data:=.dict #[e P "__module__" 934 (S "perlcore.errors" 925),e P "__firstlineno__" 938 (.int 373 937),e P "__init__" 946 (.ref 554),e P "__static_attributes__" 948 (.ref 555),e P "__weakref__" 950 (.ref 558),e P "__doc__" 951 (.none)] 3}),
 (576,{cls:=.type "dict",data:=.dict #[e P "__module__" 963 (S "perlcore.errors" 925),e P "__firstlineno__" 967 (.int 378 966),e P "__init__" 975 (.ref 574),e P "__static_attributes__" 977 (.ref 575),e P "__doc__" 978 (.none)] 2}),
 (595,{cls:=.type "dict",data:=.dict #[e P "__module__" 988 (S "perlcore.errors" 925),e P "__firstlineno__" 992 (.int 383 991),e P "__init__" 1001 (.ref 593),e P "__static_attributes__" 1004 (.ref 594),e P "__doc__" 1005 (.none)] 2}),
 (614,{cls:=.type "dict",data:=.dict #[e P "__module__" 1015 (S "perlcore.errors" 925),e P "__firstlineno__" 1019 (.int 389 1018),e P "__init__" 1027 (.ref 612),e P "__static_attributes__" 1029 (.ref 613),e P "__doc__" 1030 (.none)] 2}),
 (633,{cls:=.type "dict",data:=.dict #[e P "__module__" 1040 (S "perlcore.errors" 925),e P "__firstlineno__" 1044 (.int 394 1043),e P "__init__" 1052 (.ref 631),e P "__static_attributes__" 1054 (.ref 632),e P "__doc__" 1055 (.none)] 2}),
 (692,{cls:=.type "dict",data:=.dict #[e P "__module__" 1118 (S "perlcore.frames" 1109),e P "__firstlineno__" 1122 (.int 444 1121),e P "__init__" 1135 (.ref 690),e P "__static_attributes__" 1142 (.ref 691),e P "__dict__" 1144 (.ref 694),e P "__weakref__" 1146 (.ref 695),e P "__doc__" 1147 (.none)] 4}),
 (713,{cls:=.type "dict",data:=.dict #[e P "__module__" 1157 (S "perlcore.frames" 1109),e P "__firstlineno__" 1161 (.int 453 1160),e P "__init__" 1172 (.ref 711),e P "__static_attributes__" 1192 (.ref 712),e P "__dict__" 1194 (.ref 715),e P "__weakref__" 1196 (.ref 716),e P "__doc__" 1197 (.none)] 4}),
 (735,{cls:=.type "dict",data:=.dict #[e P "__module__" 1209 (S "perlcore.limits" 1200),e P "__firstlineno__" 1213 (.int 476 1212),e P "__init__" 1236 (.ref 733),e P "__static_attributes__" 1242 (.ref 734),e P "__dict__" 1244 (.ref 737),e P "__weakref__" 1246 (.ref 738),e P "__doc__" 1247 (.none)] 4}),
 (798,{cls:=.type "dict",data:=.dict #[e P "__module__" 1259 (S "perlcore.stash" 1250),e P "__firstlineno__" 1263 (.int 485 1262),e P "__init__" 1271 (.ref 754),e P "glob_of" 1279 (.ref 761),e P "scalar_of" 1288 (.ref 768),e P "array_of" 1296 (.ref 775),e P "hash_of" 1304 (.ref 782),e P "code_of" 1312 (.ref 789),e P "find_array" 1320 (.ref 796),e P "__static_attributes__" 1324 (.ref 797),e P "__dict__" 1326 (.ref 800),e P "__weakref__" 1328 (.ref 801),e P "__doc__" 1329 (.none)] 4})]
noncomputable def KF (P:DF):GC:=KC++KD P
theorem re (P:DF):∃o,(KF P).lookup 849=a_ o:=Ds.mp (show((KF P).lookup 849).isSome=e_ by kernel_rfl)
end
section
section
set_option backward.match.sparseCases true
set_option maxHeartbeats 0
noncomputable abbrev vw:Fc:=view Pg [80]
noncomputable abbrev kN:b_ Str:=Pg.boundNames.filter (· !="law")
noncomputable def rh:b_ d_:=KC.map (λp=>p.1)++[2,3,44,65,84,103,122,141,161,224,280,400,533,556,576,595,614,633,692,713,735,798]
theorem vC (P:DF):rh=(KF P).map (λp=>p.1):=by kernel_rfl
noncomputable abbrev Hk:Hook:=kmHook KF rh vC [819]
noncomputable abbrev XT (s:i'):Dm:=xlAt vw [] s&&recOk Rw.records s
noncomputable def vD:b_ Obj:=[
 {cls:=.type "tuple",data:=.seq #[]},
 {cls:=.none,data:=.fields #[]},
 {cls:=.type "code",data:=.fields #[.str (Ev "<module>") 182,.str (Ev "<module>") 183,.str (Ev "/claim/cut.py") 184,.int 1 0,.int 0 0,.int 0 0,.int 0 0,.int 0 0,.ref 11,.bool g',.int 181 0,.ref 12,.none,.none,.none,.none,.int 185 0,.int 1 0,.str (Ev "/claim/cut.py") 186]},
 {cls:=.type "frame",slots:= #[a_ (.ref 13),a_ (.ref 3),a_ (.ref 3),h_,a_ (.str (Ev "__main__") 164),h_,a_ (.ref 0)]}]
noncomputable def ri (P:DF):b_ Obj:=[boot_o_0 P,boot_o_1 P,boot_o_2 P,boot_o_3 P,boot_o_4 P,boot_o_5 P,boot_o_6 P,boot_o_7 P,boot_o_8 P,boot_o_9 P,boot_o_10 P]++vD
noncomputable def rj:Nat->b_ Obj->BT->BT
 |_,[],t=>t
 |n,o::l,t=>rj (n+1) l (t.ins n o)
noncomputable def jP:Env:={scope:=Pg.main.scope,locals:=3,globals:=3,cells:=[],code:=.ref 13,frame:=a_ 14}
noncomputable abbrev cE:Code:=.body (Fw Pg) jP
noncomputable abbrev pK:Pos:=⟨617,0,619,89⟩
noncomputable def s0 (w:Ew)(os:GD):SharedT:=⟨rj 0 (ri w.params) .nil,15,{}, #[],{},187,os⟩
noncomputable abbrev ro (w:Ew)(os:GD):i':=⟨Hv w.params, #[],boot_drawn,boot_toks,os⟩
noncomputable abbrev SA (w:Ew)(os:GD):i':=⟨⟨(ri w.params).toArray,{}⟩, #[],{},187,os⟩
theorem vE (w:Ew)(os:GD):(s0 w os).abs=SA w os:=by kernel_rfl
noncomputable abbrev oN (go:(EB->m_ Builtin)->Fc->Ew->Nat->m_ c_->Nat->i'->Thread->m_ (Shared×Thread))(dn:(EB->m_ Builtin)->Code->Sem Fin)(tb:EB->m_ Builtin)(w:Ew)(os:GD):Prop:=
 go tb Pg w 11 (a_ (.ref 6)) 12 (ro w os) (topStub Pg)=a_ (SA w os,⟨dn tb cE,cE,p0,[H' p0]⟩)
theorem vF (w:Ew)(os:GD):oN Fast.tw15667345088766844465 Fast.tw11892475500146522536 Er w os:=by unfold oN;kernel_rfl
theorem vG (w:Ew)(os:GD):oN topGo denote Fy w os:=by
 rw[Fast.te15667345088766844465,Fast.te11892475500146522536,Hp];exact vF w os
theorem vH (w:Ew)(s:i')(c:Code)(p q:Pos):topRun Fy Pg w 11 (a_ (.ref 6)) 2 s ⟨doneF .next,c,p,[H' q]⟩=a_ s:=by cases s;rfl
theorem CL (w:Ew)(s:i'):∃s',segRun Fy Pg w 11 (a_ (.ref 6)) 1 1 (SA w s.os) (blockOf (Fw Pg) jP cE p0 [H' p0])=a_ (.next,s',cE,p0)/\s'=SA w s.os:=⟨_,by rfl,rfl⟩
noncomputable def rq (w:Ew)(s:i'):=((staticsOk (Gm Pg.main.body) (Hv w.params) s.heap&&namesBound Pg s.heap&&gensDone s&&laidKept (Hv w.params) s.heap),openSeen vw kN (Gm Pg.main.body) XT e_ s,Hk.obs s)
noncomputable abbrev jQ (go:(EB->m_ Builtin)->Fc->Ew->Nat->m_ c_->Nat->Nat->SharedT->Thread->m_ (Flow×SharedT×Code×Pos))(tb:EB->m_ Builtin)(n:Nat)(w:Ew):Prop:=
 (λos=>(go tb Pg w 11 (a_ (.ref 6)) 1 n (s0 w os) (piecesOf (Fw Pg) jP cE p0 [H' p0])).map λr=>(r.1,r.2.2,rq w r.2.1.abs))=λU=>a_ (.next,(cE,pK),e_,openGood vw kN,Hk.val w)
end
end
section
section
set_option backward.match.sparseCases true
set_option maxHeartbeats 0
theorem vJ (w:Ew):jQ EU Er 7000 (w.withFollow "special-get-raises" g'):=by unfold jQ;kernel_rfl
end
end
section
section
set_option backward.match.sparseCases true
set_option maxHeartbeats 0
theorem vK (w:Ew):jQ EU Er 7000 (w.withFollow "special-get-raises" e_):=by unfold jQ;kernel_rfl
theorem vL:PySem.W.Fast.tw9446332074065402090 Lw=e_:=by kernel_rfl
theorem rt:Lw.wellSaid=e_:=by rw[PySem.W.Fast.te9446332074065402090];exact vL
end
end
section
section
set_option backward.match.sparseCases true
set_option maxHeartbeats 0
theorem vM {p q:Fc}{loose:b_ Str}{Xt:i'->Dm}{α:Type}{Yf:i'->α}{Ya:Ew->α}{N:Nat}{g0:Dm}{Zb4:DF->Fu}{Mw:Gc Jj}{Zb5:Drawn}{Zb7:Nat}{Zb8:Nat}{YN:m_ c_}{M:Nat}
 (Tw:∀w:Ew,(fencedOpening Fy p w N).map (λs=>(s.heap,s.gens,s.drawn,s.toks))=a_ (Zb4 w.params,Mw,Zb5,Zb7))
 (size:∀w:Ew,((Zb4 w.params).isNs mainGlobals&&Mw.size==0,(Zb4 w.params).objs.size,(Zb4 w.params).nsMap mainGlobals "__annotations__")=(e_,Zb8,YN))
 (run:∀ (w:Ew) (os:GD),∃s',topRun Fy p w Zb8 YN M ⟨Zb4 w.params,Mw,Zb5,Zb7,os⟩ (topStub p)=a_ s'/\
  ((staticsOk (Gm p.main.body) (Zb4 w.params) s'.heap&&namesBound p s'.heap&&gensDone s'&&laidKept (Zb4 w.params) s'.heap),openSeen q loose (Gm p.main.body) Xt g0 s',Yf s')=(e_,openGood q loose,Ya w)) (le:Nat.ble M N=e_):
 LeftO p q loose Xt Yf Ya N g0:=λw=>by
 refine ac (j_.mp (Tw w)) ?_;rintro⟨h,gs,d,k,os⟩ e e';refine dG (by simpa using e':h=Zb4 w.params/\gs=Mw/\d=Zb5/\k=Zb7) ?_;rintro rfl rfl rfl rfl;refine bP (by simpa only [Prod.mk.injEq]using size w:_/\_/\_) λz1 z2 z3=>?_;refine ac (run w os) λs' r h2=>?_;refine bP (by simpa only [Prod.mk.injEq]using h2:_/\_/\_) λl1 l2 l3=>?_;have r:=topRun_mono (N-M) _ _ _ _ r;rw[show M+(N-M)=N by have:=Nat.le_of_ble_eq_true le;omega]at r;have t:topFrom Fy p w N ⟨Zb4 w.params,gs,d,k,os⟩=a_ s':=by
  unfold topFrom;dsimp only;rw[z1,z2,z3,r];show(match staticsOk (Gm p.main.body) (Zb4 w.params) s'.heap&&namesBound p s'.heap&&gensDone s'&&laidKept (Zb4 w.params) s'.heap with |true=>_|false=>_)=_;exact l1▸rfl
 unfold openEnds;rw[e];show(topFrom Fy p w N _).map _=_;rw[t];exact congrArg a_ (Prod.ext l2 l3)
theorem vO (w:Ew)(os:GD):segRun Fy Pg w 11 (a_ (.ref 6)) 1 1 (SA w os) (blockOf (Fw Pg) jP cE p0 [H' p0])=a_ (.next,SA w os,cE,p0):=by rfl
theorem vP (w:Ew)(os:GD):∃s':SharedT,segRunT Fy Pg w 11 (a_ (.ref 6)) 1 7000 (s0 w os) (piecesOf (Fw Pg) jP cE p0 [H' p0])=a_ (.next,s',cE,pK)/\
 rq w s'.abs=(e_,openGood vw kN,Hk.val w):=by
 have h:jQ EU Er 7000 w:=byRow2 "special-get-raises" (P:=jQ EU Er 7000) vJ vK w;rw[<-Fast.te10110043849684766642, <-Hp]at h;refine ac (j_.mp (congrFun h os)) ?_;rintro⟨f,s',c,p⟩ e1 e2
 injection e2 with a b
 injection b with b c'
 injection b with b d
 subst a b d;exact⟨s',e1,c'⟩
theorem vQ {w:Ew}{os:GD}{s':SharedT}(h:segRunT Fy Pg w 11 (a_ (.ref 6)) 1 7000 (s0 w os) (piecesOf (Fw Pg) jP cE p0 [H' p0])=a_ (.next,s',cE,pK)):
 topRun Fy Pg w 11 (a_ (.ref 6)) (12+(1+(7000+2))) (ro w os) (topStub Pg)=a_ s'.abs:=by
 refine go_top (vG w os) (piece_block (vO w os) ?_);have k:=piece_app (rest:=[]) (segRun_of h) (piece_nil (vH w s'.abs cE pK p0));rw[Dz,vE]at k;exact k
theorem vR:opening Pg=plainProg Pg.main.scope.names:=by rfl
theorem vS (s:i'):fenceModules? Pg s=a_ s:=by rfl
theorem vT:Nat.ble 600 20000=e_:=by rfl
theorem vU:∀w:Ew,(fencedOpening Fy Pg w 20000).map (λs=>(s.heap,s.gens,s.drawn,s.toks))=a_ (Hv w.params,Array.mk [],boot_drawn,boot_toks):=boot_open vR vT vS
theorem vV (w:Ew):((Hv w.params).isNs mainGlobals&&(Array.mk []:Gc Jj).size==0,(Hv w.params).objs.size,(Hv w.params).nsMap mainGlobals "__annotations__")=(e_,11,a_ (.ref 6)):=by kernel_rfl
theorem du:LeftO Pg vw kN XT (Hook.obs Hk) (Hook.val Hk) 20000:=
 vM (M:=12+(1+(7000+2))) vU vV (λw os=>(vP w os).elim λs' h=>⟨s'.abs,vQ h.1,h.2⟩) (by rfl)
end
end
set_option genInjectivity false
set_option genSizeOf false
noncomputable def er:c_->c_
 |.int i _=>.int i 0
 |.float b _=>.float b 0
 |.str s _=>.str s 0
 |.bytes b _=>.bytes b 0
 |v=>v
inductive O where
 |inst (C d:d_) (fl:b_ (Str×Value))
 |lst (xs:b_ c_)
 |tup (xs:b_ c_)
 |dic (es:b_ (Value×Value)) (n:Nat)
 |cel (v:m_ c_)
 |rng (n:Int)
 |bm (id:EB) (self:d_)
 |exc (C:d_) (d:m_ d_) (fresh:Dm) (fl:b_ (Str×Value))
 |clo (sc:DR) (b:b_ Gf) (cl:b_ (Str×Addr)) (q:Str) (c:d_)
 |tab (e:m_ (Pos×Str×Addr))
noncomputable abbrev ak:=d_->m_ O
noncomputable def ak.set (Z:ak)(a:d_)(o:O):ak:=λb=>if b=a then a_ o else Z b
noncomputable def isNew (Z:ak)(a:d_):Prop:=Z a=h_/\850<=a
structure Fm where
 loc:b_ (Str×Value)
 cel:b_ (Str×Addr)
noncomputable def ru:DF:={strHash:=λU=>0,shareClass:=λU=>0,mergeTok:=id,idOf:=λU=>0,idOfShared:=λU U=>0,followText:=λU=>g',idOfImm:=λU=>0}
noncomputable def dW:Ew:=⟨λU U=>0,ru⟩
noncomputable def dA:DJ:={}
noncomputable def dS:i':={}
theorem CM:Dr DF:=⟨ru⟩
theorem nW:Dr Ew:=⟨dW⟩
theorem nA:Dr DJ:=⟨dA⟩
theorem CN:Dr PySem.Drawn:=⟨{}⟩
theorem nS:Dr i':=⟨dS⟩
theorem nO:Dr O:=⟨.cel h_⟩
theorem CO:Dr Fm:=⟨⟨[],[]⟩⟩
theorem CP:Dr Model:=⟨default,default,dW⟩
noncomputable abbrev bC:=c_->ak->Prop
noncomputable abbrev gB:=Dm->ak->Prop
noncomputable abbrev cT:=Ih->Fm->ak->Prop
noncomputable abbrev Wf:=b_ c_->ak->bC->Prop
noncomputable abbrev a6:=d_->m_ Wf
noncomputable def ob {α:Type}(o:m_ α)(k:α->Prop):Prop:=∃x,o=a_ x/\k x
noncomputable def aL {α:Type}(x:Str)(v:α):b_ (Str×α)->b_ (Str×α)
 | []=>[(x,v)]
 |(y,u)::r=>if x==y then(x,v)::r else(y,u)::aL x v r
noncomputable def cM (k v:c_):b_ (Value×Value)->b_ (Value×Value)
 | []=>[(k,v)]
 |(y,u)::r=>if k==y then(y,v)::r else(y,u)::cM k v r
noncomputable def vW:b_ (Str×Value):=[
 ("abs",.builtin "abs"),("isinstance",.builtin "isinstance"),("len",.builtin "len"),("sorted",.builtin "sorted"),("sum",.builtin "sum"),
 ("range",.type "range"),("str",.type "str"),("int",.type "int"),("Exception",.type "Exception"),
 ("number_text",.ref 28),("Thing",.ref 45),("Scalar",.ref 66),("Array",.ref 85),("Hash",.ref 104),("Code",.ref 123),("Glob",.ref 142),
 ("Ref",.ref 162),("Heap",.ref 225),("thing_word",.ref 236),("hex_of",.ref 243),("ref_text",.ref 250),("to_text",.ref 264)]
noncomputable def vX:b_ (Str×Value):=[
 ("Tie",.ref 281),("kept_behind",.ref 292),("held_by",.ref 297),("empty_out",.ref 304),("in_order",.ref 309),("Counter",.ref 401),
 ("bless_thing",.ref 412),("destroy_all",.ref 419),("local_scalar",.ref 448),("let_go_of",.ref 455),("leave",.ref 540),
 ("PerlError",.ref 557),("Die",.ref 577),("LoopLeave",.ref 596),("SubReturn",.ref 615),("ExitRun",.ref 634),("with_line",.ref 643)]
noncomputable def vY:b_ (Str×Value):=[
 ("blessed_things",.ref 648),("things_near",.ref 655),("lost_leave",.ref 662),("guarded_program",.ref 669),("finish_program",.ref 676),
 ("Frame",.ref 693),("Run",.ref 714),("Limits",.ref 736),("Stash",.ref 799),("_law_dig",.ref 810),("_law_leaving",.ref 817),
 ("_law_program_right",.ref 824),("_law_drawn",.ref 829),("_law_met",.ref 834),("_law_rounds",.ref 839),("_law_end_right",.ref 844),
 ("FIGURES",.str "0123456789" 0),("HEX_FIGURES",.str "0123456789abcdef" 0),("UNDOERS",.ref 533)]
noncomputable def oO:b_ (Str×Value):=vW++(vX++vY)
noncomputable def G (x:Str):m_ c_:=oO.lookup x
noncomputable def cN:b_ (Addr×List (Str×Addr)):=[
 (45,[("__init__",42)]),
 (66,[("__init__",63)]),
 (85,[("__init__",82)]),
 (104,[("__init__",101)]),
 (123,[("__init__",120)]),
 (142,[("__init__",139)]),
 (162,[("__init__",159)]),
 (225,[("__init__",180),("next_number",187),("new_scalar",194),("new_array",201),("new_hash",208),("new_code",215),("new_glob",222)]),
 (281,[("__init__",278)]),
 (401,[("__init__",323),("hold",330),("let_go",337),("note",344),("take",351),("put_off",356),("store",363),("fresh",370),("drop",377),("settle",384),("finish",391),("free",398)]),
 (693,[("__init__",690)]),
 (714,[("__init__",711)]),
 (736,[("__init__",733)]),
 (799,[("__init__",754),("glob_of",761),("scalar_of",768),("array_of",775),("hash_of",782),("code_of",789),("find_array",796)])]
noncomputable def cP:b_ (Addr×Addr):=[(557,554),(577,574),(596,593),(615,612),(634,631)]
noncomputable def mx (C:d_)(a:Str):m_ d_:=match cN.lookup C with
 |some ms=>ms.lookup a
 |none=>if a==("__init__":Str)then cP.lookup C else h_
noncomputable def my (C D:d_):Dm:=C==D||(D==45&&(C==66||C==85||C==104||C==123||C==142))
noncomputable def vZ:b_ Str:=["number","count","blessed","weak","is_destroyed","is_freed","value","magic","items","tied","name","scalar","array","hash","code",
 "target","is_weak","limits","last","zero","heap","destroy","places","empties"]
noncomputable def v7:b_ Str:=["pad","args","want","package","line","counter","stash","nodes","lvs","statements",
 "funcs","operators","out","err","saves","frames","match","patterns","steps","methods","call_code","compile_text"]
noncomputable def v8:b_ Str:=["width","depth","text","globs","generation","table","captures","sub","builtin","at","holder"]
noncomputable def AN:b_ Str:=vZ++(v7++v8)
noncomputable def bS (C:d_)(a:Str):Dm:=match cN.lookup C with
 |some ms=>AN.contains a&&(ms.lookup a).isNone
 |none=>g'
noncomputable def EN:b_ Str:=["text","value","kind","label","code"]
noncomputable def gO (C:d_)(a:Str):Dm:=(cP.lookup C).isSome&&EN.contains a
noncomputable def ej:c_->Dm
 |.builtin _=>g'
 |_=>e_
noncomputable def fM (Z:ak)(v:c_)(a:Str):m_ c_:=match v with
 |.ref x=>(match Z x with
  |some (.inst C _ fl)=>if bS C a then(fl.lookup a).filter ej else h_
  |some (.exc C _ _ fl)=>if gO C a then(fl.lookup a).filter ej else h_
  |_=>h_)
 |_=>h_
noncomputable def rv (Z:ak)(x C:d_)(d:m_ d_)(fr:Dm)(fl:b_ (Str×Value))(k:ak->Prop):Prop:=match d with
 |some d=>k (Z.set x (.exc C (a_ d) fr fl))
 |none=>∀d,isNew Z d->k (Z.set x (.exc C (a_ d) fr fl))
noncomputable def v9 (Z:ak)(v:c_)(a:Str)(w:c_)(k:ak->Prop):Prop:=∃x C d fr fl,v=.ref x/\Z x=a_ (.exc C d fr fl)/\gO C a=e_/\fl.length<40/\rv Z x C d fr (aL a w fl) k
noncomputable def jR (Z:ak)(v:c_)(a:Str)(w:c_):m_ ak:=match v with
 |.ref x=>(match Z x with
  |some (.inst C d fl)=>if bS C a&&decide (fl.length<40)then a_ (Z.set x (.inst C d (aL a w fl)))else h_
  |_=>h_)
 |_=>h_
noncomputable def ir (Z:ak)(v:c_)(a:Str)(w:c_)(k:ak->Prop):Prop:=ob (jR Z v a w) k\/v9 Z v a w k
noncomputable def iP (Z:ak)(c:d_):m_ c_:=match Z c with
 |some (.cel v)=>v
 |_=>h_
noncomputable def fN:c_->m_ Int
 |.int i _=>a_ i
 |_=>h_
noncomputable def fX:c_->m_ Str
 |.str x _=>a_ x
 |_=>h_
noncomputable def fP:c_->m_ d_
 |.ref x=>a_ x
 |_=>h_
noncomputable def iu:O->m_ (b_ c_)
 |.lst xs=>a_ xs
 |_=>h_
theorem oP {Z:ak}{x:d_}{xs:b_ c_}(h:(Z x).bind iu=a_ xs):Z x=a_ (.lst xs):=by
 intros Z x xs;refine ac (t_.mp h) λo ho h=>?_;cases o<;>first |exact(ns h).elim|exact De h▸ho
theorem mz {α:Type}{o:m_ α}{k:α->Prop}(h:o.elim False k):∃x,o=a_ x/\k x:=by
 cases o with
 |none=>exact h.elim
 |some x=>exact⟨x,rfl,h⟩
noncomputable def CQ:c_->Dm
 |.none|.bool _|.int ..|.str ..=>e_
 |_=>g'
noncomputable def bO:c_->Dm
 |.int ..=>e_
 |_=>g'
noncomputable def gP:c_->Dm
 |.bool _=>e_
 |_=>g'
noncomputable def isStr:c_->Dm
 |.str ..=>e_
 |_=>g'
noncomputable def gQ:c_->Dm
 |.str s _=>Ea s
 |_=>g'
noncomputable def b9 (es:b_ (Value×Value))(k:c_):Dm:=match k with
 |.int ..=>es.all λp=>bO p.1
 |.str ..=>es.all λp=>isStr p.1
 |_=>g'
noncomputable def ry:c_->Dm
 |.ref _=>g'
 |_=>e_
noncomputable def iQ (Z:ak)(v i:c_):m_ c_:=match v with
 |.ref x=>(match Z x with
  |some (.lst xs)=>(match i with |.int k _=>if 0<=k/\k<2^62 then xs[k.toNat]? else h_|_=>h_)
  |some (.tup xs)=>(match i with |.int k _=>if 0<=k/\k<2^62 then xs[k.toNat]? else h_|_=>h_)
  |some (.dic es _)=>if b9 es i then es.lookup (er i)else h_
  |none=>if x==533&&er i== .str "scalar" 0 then a_ (.ref 462)else h_
  |_=>h_)
 |.str x _=>(match i with |.int k _=>if 0<=k/\k<2^62/\(GY x k).isSome=e_ then a_ (.str (ID x k) 0)else h_|_=>h_)
 |_=>h_
noncomputable def kP {α:Type}(R:α->Prop)(k:α->Prop):Prop:=∃x,R x/\k x
noncomputable def d5 (Z:ak)(v w u:c_):Prop:=iQ Z v w=a_ u\/(v=.ref 533/\er w=.str "scalar" 0/\u=.ref 462)
noncomputable def jS (Z:ak)(v i w:c_)(k:ak->Prop):Prop:=
 (∃x es n,v=.ref x/\Z x=a_ (.dic es n)/\b9 es i=e_/\es.length<1000/\∀n,k (Z.set x (.dic (cM (er i) w es) n)))\/
 (∃x xs j,v=.ref x/\i=.int j 0/\Z x=a_ (.lst xs)/\0<=j/\j<xs.length/\j<2^62/\k (Z.set x (.lst (xs.set j.toNat w))))
noncomputable def kQ (k:Int):Dm:=decide (-(2^60)<=k/\k<=2^60)
noncomputable def wa (op:CmpOp)(i j:Int):m_ Dm:=match op with
 |.Eq=>a_ (decide (i=j)) |.NotEq=>a_ (!decide (i=j))
 |.Lt=>a_ (decide (i<j)) |.LtE=>a_ (decide (i<=j)) |.Gt=>a_ (decide (j<i)) |.GtE=>a_ (decide (j<=i))
 |_=>h_
noncomputable def mA (a b:c_):m_ Dm:=match b with
 |.none=>a_ (a== .none)
 |_=>h_
noncomputable def iR (Z:ak)(a b:c_):m_ Dm:=match b with
 |.ref x=>(match Z x with
  |some (.dic es _)=>if b9 es a then a_ (es.lookup (er a)).isSome else h_
  |some (.lst xs)=>if bO a&&xs.all bO then a_ (xs.contains (er a))else h_
  |_=>h_)
 |_=>h_
noncomputable def oQ (op:CmpOp)(x:Dm):m_ Dm:=match op with
 |.Eq=>a_ x
 |.NotEq=>a_ (!x)
 |_=>h_
noncomputable def jk (Z:ak)(op:CmpOp)(a b:c_):m_ Dm:=(fN a).elim ((fX a).elim ((fP a).bind λx=>(fP b).bind λy=>((Z x).bind iu).bind λxs=>((Z y).bind iu).bind λys=>
 if(xs.all bO&&ys.all bO)||(xs.all gP&&ys.all gP)||(xs.all gQ&&ys.all gQ)then oQ op (xs==ys)else h_)
 λi=>(fX b).bind λj=>oQ op (i==j)) λi=>(fN b).bind λj=>wa op i j
noncomputable def dI (Z:ak)(op:CmpOp)(a b:c_):m_ Dm:=match op with
 |.Is=>mA a b
 |.IsNot=>(mA a b).map (!·)
 |.In=>iR Z a b
 |.NotIn=>(iR Z a b).map (!·)
 |op=>jk Z op a b
noncomputable def fA (Z:ak)(v:c_)(k:Dm->Prop):Prop:=match v with
 |.bool b=>k b
 |.none=>k g'
 |.ref x=>(match Z x with |some (.lst xs)=>xs.length<=100000/\k (!xs.isEmpty) |_=>False)
 |_=>False
noncomputable def wb (Z:ak)(op:IE)(i j:Int)(Q:bC):Prop:=match op with
 |.Add=>Q (.int (i+j) 0) Z
 |.Sub=>Q (.int (i-j) 0) Z
 |.Mult=>kQ i=e_/\kQ j=e_/\Q (.int (i*j) 0) Z
 |.FloorDiv=>0<j/\j<1000000/\Q (.int (i/j) 0) Z
 |.Mod=>0<j/\Q (.int (i % j) 0) Z
 |.Pow=>i=10/\j=9/\Q (.int 1000000000 0) Z
 |_=>False
noncomputable def gC (Z:ak)(op:IE)(a b:c_)(Q:bC):Prop:=(fN a).elim ((fX a).elim (∃x y xs ys,a=.ref x/\b=.ref y/\Z x=a_ (.lst xs)/\Z y=a_ (.lst ys)/\op=.Add/\xs.length+ys.length<=100000/\∀l,isNew Z l->Q (.ref l) (Z.set l (.lst (xs++ys))))
 λx=>(fX b).elim False λy=>op=.Add/\x.length+y.length<=1000/\Q (.str (x++y) 0) Z) λi=>(fN b).elim False λj=>wb Z op i j Q
noncomputable def iS (Z:ak)(v:c_)(D:d_):m_ Dm:=if(cN.lookup D).isSome then(match v with
 |.none|.int ..|.str ..|.bool _=>a_ g'
 |.ref x=>(match Z x with
  |some (.inst C _ _)=>if(cN.lookup C).isSome then a_ (my C D)else h_
  |some (.lst _)=>a_ g'
  |_=>h_)
 |_=>h_)else h_
noncomputable def jl (Z:ak)(v:c_)(D:EB):m_ Dm:=if D=="int"||D=="str"then(match v with
 |.none=>a_ g'
 |.int ..=>a_ (D=="int")
 |.str ..=>a_ (D=="str")
 |.ref x=>(match Z x with
  |some (.inst C _ _)=>if(cN.lookup C).isSome then a_ g' else h_
  |_=>h_)
 |_=>h_)else h_
noncomputable def ins (k:c_):b_ c_->b_ c_
 | []=>[k]
 |y::r=>(match k,y with
  |.int i _,.int j _=>if i<=j then k::y::r else y::ins k r
  |_,_=>k::y::r)
noncomputable def dy (l:b_ c_):b_ c_:=l.foldr ins []
noncomputable def iT (l:b_ c_):Int:=(l.map λ|.int i U=>i|_=>0).sum
noncomputable def oR:O->m_ (b_ (Value×Value))
 |.dic es _=>a_ es
 |_=>h_
theorem wc {Z:ak}{x:d_}{es:b_ (Value×Value)}(h:(Z x).bind oR=a_ es):∃n,Z x=a_ (.dic es n):=by
 intros Z x es;refine ac (t_.mp h) λo ho h=>?_;cases o<;>first |(exact(ns h).elim;done) |exact⟨_,De h▸ho⟩
noncomputable def gD (Z:ak)(v:c_):m_ (Addr×List c_):=(fP v).bind λa=>((Z a).bind iu).map λxs=>(a,xs)
noncomputable def jm (Z:ak)(v:c_):m_ (Addr×List (Value×Value)):=(fP v).bind λa=>((Z a).bind oR).map λes=>(a,es)
noncomputable def oS (vs:b_ c_)(Z:ak)(Q:bC):Prop:=match vs with
 | [v]=>(ob (gD Z v) λp=>p.2.length<=100000/\Q (.int p.2.length 0) Z)\/ob (jm Z v) λp=>p.2.length<=1000/\Q (.int p.2.length 0) Z
 |_=>False
noncomputable def kU (vs:b_ c_)(Z:ak)(Q:bC):Prop:=match vs with
 | [v,u]=>(∃D,u=.ref D/\ob (iS Z v D) λb=>Q (.bool b) Z)\/∃D,u=.type D/\ob (jl Z v D) λb=>Q (.bool b) Z
 |_=>False
noncomputable def rz (xs:b_ c_)(Z:ak)(Q:bC):Prop:=xs.all bO=e_/\xs.length<=60/\∀l,isNew Z l->Q (.ref l) (Z.set l (.lst (dy xs)))
noncomputable def mB (vs:b_ c_)(Z:ak)(Q:bC):Prop:=match vs with
 | [v]=>(ob (gD Z v) λp=>rz p.2 Z Q)\/ob (jm Z v) λp=>rz (p.2.map (λp=>p.1)) Z Q
 |_=>False
noncomputable def oT (vs:b_ c_)(Z:ak)(Q:bC):Prop:=match vs with
 | [v]=>ob (gD Z v) λp=>p.2.all bO=e_/\Q (.int (iT p.2) 0) Z
 |_=>False
noncomputable def mC (vs:b_ c_)(Z:ak)(Q:bC):Prop:=match vs with
 | [u,v]=>ob (gD Z u) λp=>p.2.length<=100000/\Q .none (Z.set p.1 (.lst (p.2++[v])))
 |_=>False
noncomputable def mD (vs:b_ c_)(Z:ak)(Q:bC):Prop:=match vs with
 | [u]=>ob (gD Z u) λp=>∃ys v,p.2=ys++[v]/\ys.length<=100000/\Q v (Z.set p.1 (.lst ys))
 | [u,z]=>er z=.int 0 0/\ob (gD Z u) λp=>∃v ys,p.2=v::ys/\ys.length<=100000/\Q v (Z.set p.1 (.lst ys))
 |_=>False
noncomputable def oU (vs:b_ c_)(Z:ak)(Q:bC):Prop:=match vs with
 | [u,v]=>ob (gD Z u) λp=>ob (gD Z v) λq=>p.1≠q.1/\p.2.length+q.2.length<=100000/\Q .none (Z.set p.1 (.lst (p.2++q.2)))
 |_=>False
noncomputable def oV (vs:b_ c_)(Z:ak)(Q:bC):Prop:=match vs with
 | [u,k]=>bO k=e_/\ob (gD Z u) λp=>p.2.all bO=e_/\p.2.length<=1000/\Q (.int (p.2.count (er k)) 0) Z
 |_=>False
noncomputable def oW (vs:b_ c_)(Z:ak)(Q:bC):Prop:=match vs with
 | [u,k,d]=>ob (jm Z u) λp=>p.2=[]/\b9 [] k=e_/\Q d Z
 |_=>False
noncomputable def oX (vs:b_ c_)(Z:ak)(Q:bC):Prop:=match vs with
 | [u,k,d]=>ob (jm Z u) λp=>b9 p.2 k=e_/\Q ((p.2.lookup (er k)).getD d) Z
 |_=>False
noncomputable def mG (vs:b_ c_)(Z:ak)(Q:bC):Prop:=match vs with
 | [u,k,d]=>ob (jm Z u) λp=>b9 p.2 k=e_/\p.2.length<1000/\(match p.2.lookup (er k)with
  |some v=>Q v Z
  |none=>∀n,Q d (Z.set p.1 (.dic (p.2++[(er k,d)]) n)))
 |_=>False
noncomputable def oY (vs:b_ c_)(Z:ak)(Q:bC):Prop:=∃x v C d fr fl,vs=[.ref x,v]/\Z x=a_ (.exc C d fr fl)/\(cP.lookup C).isSome=e_/\Q .none Z
noncomputable def oZ (vs:b_ c_)(Z:ak)(Q:bC):Prop:=∃i,vs=[.int i 0]/\Q (.int (if i<0 then -i else i) 0) Z
noncomputable def kW:b_ (String× (b_ c_->ak->bC->Prop)):=[("len",oS),("isinstance",kU),("sorted",mB),("sum",oT),("list.append",mC),("list.pop",mD),
 ("list.extend",oU),("list.count",oV),("dict.pop",oW),("dict.get",oX),("dict.setdefault",mG),("Exception.__init__",oY),("abs",oZ)]
noncomputable def ek (id:EB)(vs:b_ c_)(Z:ak)(Q:bC):Prop:=∃W,kW.lookup id=a_ W/\W vs Z Q
noncomputable def rA (id:EB)(vs:b_ c_)(Z:ak)(Q:bC):Prop:=∃n,vs=[.int n 0]/\((id="str"/\0<=n/\n<2^60/\Q (.str (Ev (toString n)) 0) Z)\/
 (id="range"/\ -(2^60)<=n/\n<=2^60/\∀l,isNew Z l->Q (.ref l) (Z.set l (.rng n))))
noncomputable def jT (C:d_):m_ d_:=(cN.lookup C).bind λms=>ms.lookup (Ev "__init__")
noncomputable def mH (id:EB):Dm:= !(id=="sorted"||id=="sum")
noncomputable def c9 (T:a6)(f:c_)(vs:b_ c_)(Z:ak)(Q:bC):Prop:=match f with
 |.ref a=>(match T a with
  |some W=>W vs Z Q
  |none=>(match jT a with
   |some i=>ob (T i) λW=>∀x d,isNew Z x->W (.ref x::vs) (Z.set x (.inst a d [])) λv Z'=>v=.none/\Q (.ref x) Z'
   |none=>(match cP.lookup a with
    |some i=>ob (T i) λW=>vs.length<=10/\∀x,isNew Z x->W (.ref x::vs) (Z.set x (.exc a h_ e_ [])) λv Z'=>v=.none/\Q (.ref x) Z'
    |none=>∃self v,Z a=a_ (.bm "list.append" self)/\vs=[v]/\ek "list.append" [.ref self,v] Z Q)))
 |.builtin id=>(T 28=h_\/mH id=e_)/\ek id vs Z Q
 |.type n=>rA n vs Z Q
 |_=>False
noncomputable def CR:b_ Str:=["append","pop","extend","count"]
noncomputable def CS:b_ Str:=["pop","get","setdefault"]
noncomputable def o0 (a:Str):m_ EB:=if a=="append"then a_ "list.append"else if a=="pop"then a_ "list.pop"else if a=="extend"then a_ "list.extend"else if a=="count"then a_ "list.count"else h_
noncomputable def o7 (a:Str):m_ EB:=if a=="pop"then a_ "dict.pop"else if a=="get"then a_ "dict.get"else if a=="setdefault"then a_ "dict.setdefault"else h_
noncomputable def fY (Z:ak)(v:c_)(a:Str):m_ (Value×List c_):=match v with
 |.ref x=>(match Z x with
  |some (.inst C _ fl)=>(match (cN.lookup C).bind (·.lookup a)with
   |some f=>if(fl.lookup a).isNone then a_ (.ref f,[v])else h_
   |none=>(fM Z v a).map λw=>(w,[]))
  |some (.lst _)=>(o0 a).map λid=>(.builtin id,[v])
  |some (.dic _ _)=>(o7 a).map λid=>(.builtin id,[v])
  |_=>h_)
 |_=>h_
noncomputable def kindOf (sc:DR)(x:Str):m_ NameKind:=sc.names.lookup x
noncomputable def bM (sc:DR)(x:Str)(fm:Fm)(Z:ak):m_ c_:=match kindOf sc x with
 |some .local=>fm.loc.lookup x
 |some .cell=>(fm.cel.lookup x).bind (iP Z)
 |some .free=>(fm.cel.lookup x).bind (iP Z)
 |some .globalImplicit=>G x
 |_=>h_
noncomputable def dv (sc:DR)(x:Str)(v:c_)(fm:Fm)(Z:ak)(k:Fm->ak->Prop):Prop:=match kindOf sc x with
 |some .local=>k {fm with loc:=aL x v fm.loc} Z
 |some .cell=>ob (fm.cel.lookup x) λc=>∃u,Z c=a_ (.cel u)/\k fm (Z.set c (.cel (a_ v)))
 |_=>False
noncomputable def kX:Expr->m_ Str
 |.Name x _=>a_ x
 |_=>h_
theorem kY {e:Expr}{x:Str}(h:kX e=a_ x):∃p,e=.Name x p:=by
 cases e<;>first |(exact(ns h).elim;done) |exact⟨_,congrArg (Expr.Name · _) (De h)⟩
noncomputable def iU (sc:DR)(e:Expr):m_ c_:=(kX e).bind λx=>if kindOf sc x==a_ .globalImplicit then G x else h_
noncomputable def iV:Expr->Dm
 |.Call (.Name ..) _ _ _=>g'
 |_=>e_
noncomputable def cF (x:Str):Dm:= !(x==("__debug__":Str))&& !(x==("super":Str))&& !(x==("__classdict__":Str))
noncomputable def jU:O->m_ (b_ c_)
 |.lst xs=>a_ xs
 |.rng n=>a_ ((A' n.toNat).map λ(i:Nat)=>Dl (i:Int) 0)
 |.dic es _=>a_ (es.map (λp=>p.1))
 |_=>h_
noncomputable def fj (Z:ak)(v:c_):m_ (b_ c_):=match v with
 |.ref x=>(Z x).bind jU
 |_=>h_
noncomputable def gE (Z:ak):c_->m_ O
 |.ref x=>Z x
 |_=>h_
noncomputable def iW (cs:DR)(fm:Fm):m_ (b_ (Str×Addr)):=(cs.names.filter λx=>x.2== .free).mapM λx=>(fm.cel.lookup x.1).map λc=>(x.1,c)
noncomputable abbrev ET:=Expr->DR->Fm->ak->bC->Prop
noncomputable abbrev TT:=Expr->DR->Fm->ak->gB->Prop
noncomputable def dL:Expr->Dm
 |.Starred ..=>g'
 |.Set ..=>g'
 |_=>e_
noncomputable def eP (E:ET):b_ Expr->DR->Fm->ak->(b_ c_->ak->Prop)->Prop
 | [],_,_,Z,Q=>Q [] Z
 |e::r,sc,fm,Z,Q=>E e sc fm Z λv Z=>eP E r sc fm Z λvs Z=>Q (v::vs) Z
noncomputable def jV (E:ET)(es:b_ Expr)(sc:DR)(fm:Fm)(Z:ak)(Q:b_ c_->ak->Prop):Prop:=es.all dL=e_/\eP E es sc fm Z Q
noncomputable def fQ (B:TT):b_ Expr->DR->Fm->ak->gB->Prop
 | [],_,_,Z,Q=>Q e_ Z
 |e::r,sc,fm,Z,Q=>B e sc fm Z λb Z=>if b=e_ then fQ B r sc fm Z Q else Q g' Z
noncomputable def jn (B:TT):b_ Expr->DR->Fm->ak->gB->Prop
 | [],_,_,Z,Q=>Q g' Z
 |e::r,sc,fm,Z,Q=>B e sc fm Z λb Z=>if b=e_ then Q e_ Z else jn B r sc fm Z Q
noncomputable def o8 (c:Const)(Z:ak)(Q:bC):Prop:=match c with
 |.none=>Q .none Z
 |.bool b=>Q (.bool b) Z
 |.int i=>Q (.int i 0) Z
 |.str s=>Q (.str s 0) Z
 |_=>False
noncomputable def gF (Z:ak)(v:c_)(a:Str)(Q:bC):Prop:=match v with
 |.ref x=>(match Z x with
  |some (.lst _)=>a="append"/\∀m,isNew Z m->Q (.ref m) (Z.set m (.bm "list.append" x))
  |_=>ob (fM Z v a) λw=>Q w Z)
 |_=>False
noncomputable def o9 (Z:ak)(v w:c_)(Q:bC):Prop:=∃x xs k,v=.ref x/\w=.int k 0/\Z x=a_ (.lst xs)/\0<=k/\k<2^60/\xs.length<=100000/\∀l,isNew Z l->Q (.ref l) (Z.set l (.lst (xs.take k.toNat)))
noncomputable def mI (Z:ak)(v w:c_)(Q:bC):Prop:=
 (∃x xs k,v=.ref x/\w=.int k 0/\Z x=a_ (.lst xs)/\0<=k/\k<2^60/\xs.length<=100000/\∀l,isNew Z l->Q (.ref l) (Z.set l (.lst (xs.drop k.toNat))))\/
 (∃x k,v=.str x 0/\w=.int k 0/\x.length<=1000/\Q (.str (PySem.Txt.slice x (a_ k) h_) 0) Z)
noncomputable def kZ (E:ET):b_ Expr->DR->Fm->ak->bC->Prop
 | [],_,_,_,_=>False
 |e::r,sc,fm,Z,Q=>match r with
  | []=>E e sc fm Z Q
  |_=>E e sc fm Z λv Z=>fA Z v λb=>if b=e_ then kZ E r sc fm Z Q else Q v Z
noncomputable def k6 (bs:b_ (Str×Value)):b_ Str->ak->(b_ (Str×Addr)->ak->Prop)->Prop
 | [],Z,k=>k [] Z
 |x::r,Z,k=>∀c,isNew Z c->k6 bs r (Z.set c (.cel (bs.lookup x))) λcl Z=>k ((x,c)::cl) Z
noncomputable def eN (names:b_ (Str×NameKind)):b_ Str:=((names.filter λx=>x.2== .cell).map (λp=>p.1)).reverse
noncomputable def jW (cs:DR):Dm:=cs.kind== .function&& !(kindOf cs "told"==a_ .local)&&cs.names.all λx=> !(x.2== .local)||cs.names.lookup x.1==a_ .local
noncomputable def iv (E:ET)(B:TT)(elt:Expr)(x:Str)(KU:b_ Expr)(cs:DR)(cl:b_ (Str×Addr))(v:c_)(Zb2:ak)(Q:bC):Prop:=
 ob (fj Zb2 v) λxs=>xs.length<=100000/\k6 [] (eN cs.names) Zb2 λcx Zb3=>
  ∃I:Nat->b_ c_->ak->Prop,I 0 [] Zb3/\(∀i JP Z,I i JP Z->gE Z v=gE Zb2 v/\JP.length<=i)/\
   (∀i y JP Z,xs[i]? =a_ y->I i JP Z->dv cs x y ⟨[],cx++cl⟩ Z λfm Z=>fQ B KU cs fm Z λb Z=>if b=e_ then E elt cs fm Z λu Z=>I (i+1) (JP++[u]) Z else I (i+1) JP Z)/\
   (∀JP Z,I xs.length JP Z->∀l,isNew Z l->Q (.ref l) (Z.set l (.lst JP)))
noncomputable def rB:Expr->Dm
 |.Slice ..=>g'
 |_=>e_
noncomputable def we:Expr->Dm
 |.Attribute ..=>g'
 |_=>e_
noncomputable def pa:Expr->Dm
 |.Call ..=>e_
 |.Name ..=>e_
 |.Attribute ..=>e_
 |.Constant ..=>e_
 |.Subscript ..=>e_
 |_=>g'
noncomputable def rC (E:ET)(e i:Expr)(sc:DR)(fm:Fm)(Z:ak)(Q:bC):Prop:=
 (rB i=e_/\E e sc fm Z λv Z=>E i sc fm Z λw Z=>kP (d5 Z v w) λu=>Q u Z)\/
 (∃u p,i=.Slice h_ (a_ u) h_ p/\E e sc fm Z λv Z=>E u sc fm Z λw Z=>o9 Z v w Q)\/
 (∃u p,i=.Slice (a_ u) h_ h_ p/\E e sc fm Z λv Z=>E u sc fm Z λw Z=>mI Z v w Q)
noncomputable def wf (E:ET)(ks:b_ (m_ Expr))(vs:b_ Expr)(sc:DR)(fm:Fm)(Z:ak)(Q:bC):Prop:=
 (ks=[]/\vs=[]/\∀l n,isNew Z l->Q (.ref l) (Z.set l (.dic [] n)))\/
 (∃i k p v,ks=[a_ (.Constant (.int i) k p)]/\vs=[v]/\E v sc fm Z λvv Z=>∀l n,isNew Z l->Q (.ref l) (Z.set l (.dic [(.int i 0,vv)] n)))\/
 (∃x y k k' p p' v u,ks=[a_ (.Constant (.str x) k p),a_ (.Constant (.str y) k' p')]/\vs=[v,u]/\x≠y/\E v sc fm Z λvv Z=>E u sc fm Z λuu Z=>∀l n,isNew Z l->Q (.ref l) (Z.set l (.dic [(.str x 0,vv),(.str y 0,uu)] n)))
noncomputable def wh (T:a6)(E:ET)(B:TT)(elt:Expr)(gs:b_ I7)(cs sc:DR)(fm:Fm)(Z:ak)(Q:bC):Prop:=
 ∃x p it KU,gs=[⟨.Name x p,it,KU,0⟩]/\T 28=h_/\dL it=e_/\jW cs=e_/\ob (iW cs fm) λcl=>E it sc fm Z λv Z=>iv E B elt x KU cs cl v Z Q
noncomputable def wi (T:a6)(E:ET)(v:c_)(a:Str)(args:b_ Expr)(sc:DR)(fm:Fm)(Z:ak)(Q:bC):Prop:=
 (∃C f,v=.ref C/\mx C a=a_ f/\jV E args sc fm Z λvs Z=>c9 T (.ref f) vs Z Q)\/
 (v=.type "Exception"/\a="__init__"/\jV E args sc fm Z λvs Z=>c9 T (.builtin "Exception.__init__") vs Z Q)
noncomputable def rD (T:a6)(E:ET)(f:Expr)(args:b_ Expr)(pos:Pos)(sc:DR)(fm:Fm)(Z:ak)(Q:bC):Prop:=
 (pa f=e_/\we f=e_/\E f sc fm Z λg Z=>jV E args sc fm Z λvs Z=>c9 T g vs Z Q)\/
 (∃o a Kc,f=.Attribute o a Kc/\(Kc.endLine==pos.line)=e_/\args.length<30/\
  (
   (∃v,iU sc o=a_ v/\wi T E v a args sc fm Z Q)\/
   (iU sc o=h_/\iV o=e_/\args.all dL=e_/\E o sc fm Z λv Z=>ob (fY Z v a) λg=>eP E args sc fm Z λvs Z=>c9 T g.1 (g.2++vs) Z Q)))
noncomputable def mJ (T:a6)(E:ET)(B:TT):ET:=λe sc fm Z Q=>match e with
 |.Constant c _ _=>o8 c Z Q
 |.Name x _=>cF x=e_/\ob (bM sc x fm Z) λv=>Q v Z
 |.Attribute e a _=>iV e=e_/\E e sc fm Z λv Z=>gF Z v a Q
 |.Subscript e i _=>rC E e i sc fm Z Q
 |.Compare l ops rs _=>∃op r,ops=[op]/\rs=[r]/\H5 op r=g'/\E l sc fm Z λa Z=>E r sc fm Z λb Z=>ob (dI Z op a b) λc=>Q (.bool c) Z
 |.BinOp l op r _=>E l sc fm Z λa Z=>E r sc fm Z λb Z=>gC Z op a b Q
 |.UnaryOp op e _=>op=.USub/\E e sc fm Z λv Z=>∃i,v=.int i 0/\Q (.int (-i) 0) Z
 |.BoolOp op es _=>op=.And/\kZ E es sc fm Z Q
 |.IfExp t a b _=>B t sc fm Z λc Z=>if c=e_ then E a sc fm Z Q else E b sc fm Z Q
 |.List es _=>jV E es sc fm Z λvs Z=>vs.length<=1000/\∀l,isNew Z l->Q (.ref l) (Z.set l (.lst vs))
 |.Tuple es _ _=>jV E es sc fm Z λvs Z=>vs.length<=1000/\∀l,isNew Z l->Q (.ref l) (Z.set l (.tup vs))
 |.Dict ks vs _=>wf E ks vs sc fm Z Q
 |.ListComp elt gs cs _=>wh T E B elt gs cs sc fm Z Q
 |.Call f args kw pos=>kw=[]/\rD T E f args pos sc fm Z Q
 |_=>False
noncomputable def rG (E:ET)(B:TT):TT:=λe sc fm Z Q=>match e with
 |.UnaryOp op e _=>op=.Not/\B e sc fm Z λb Z=>Q (!b) Z
 |.BoolOp op es _=>(match op with |.And=>fQ B es sc fm Z Q|.Or=>jn B es sc fm Z Q)
 |.IfExp ..=>False
 |.Compare l ops rs _=>∃op r,ops=[op]/\rs=[r]/\H5 op r=g'/\E l sc fm Z λa Z=>E r sc fm Z λb Z=>ob (dI Z op a b) λc=>Q c Z
 |e=>pa e=e_/\E e sc fm Z λv Z=>fA Z v λb=>Q b Z
noncomputable abbrev ST:=Gf->DR->Fm->ak->cT->Prop
noncomputable def au (S:ST):b_ Gf->DR->Fm->ak->cT->Prop
 | [],_,fm,Z,Q=>Q .next fm Z
 |s::r,sc,fm,Z,Q=>S s sc fm Z λfl fm Z=>(match fl with
  |.next=>au S r sc fm Z Q
  |f=>Q f fm Z)
noncomputable def iX:b_ Expr->m_ (b_ Str)
 | []=>a_ []
 |e::r=>(kX e).bind λx=>(iX r).map (x:: ·)
noncomputable def gR (sc:DR):b_ Str->b_ c_->Fm->ak->(Fm->ak->Prop)->Prop
 | [],[],fm,Z,k=>k fm Z
 |x::xs,v::vs,fm,Z,k=>dv sc x v fm Z λfm Z=>gR sc xs vs fm Z k
 |_,_,_,_,_=>False
noncomputable def mK (sc:DR)(ts:b_ Expr):Dm:=ts.all λe=>(kX e).any λx=>kindOf sc x==a_ .local||kindOf sc x==a_ .cell
noncomputable def iY (sc:DR)(line:Nat)(e:Expr):m_ Str:=(kX e).bind λx=>if kindOf sc x==a_ .local&&e.pos.line==line then a_ x else h_
set_option backward.match.sparseCases true in
noncomputable def rH:Expr->Dm
 |.Starred ..=>e_
 |_=>g'
noncomputable def k7 (sc:DR)(ts:b_ Expr)(e:Expr):m_ Dm:=match e with
 |.Tuple vs _ _=>
  if !(ts.length==2||ts.length==3)||vs.length !=ts.length then a_ g' else
  if vs.any rH then a_ g' else
  let names:=ts.filterMap (iY sc ((ts.head?.map (·.pos.line)).getD 0))
  if names.length !=ts.length||names.eraseDups.length !=names.length then a_ g' else
  if vs.all (foldedForSure 8)then a_ g' else
  if vs.all (constantsAlone 8)then h_ else a_ e_
 |_=>a_ g'
noncomputable def wj:b_ Str->Dm
 | []=>e_
 |x::r=> !r.contains x&&wj r
noncomputable def wm (op:IE)(i j:Int)(k:c_->Prop):Prop:=match op with
 |.Add=>k (.int (i+j) 0)
 |.Sub=>k (.int (i-j) 0)
 |.FloorDiv=>0<j/\j<1000000/\k (.int (i/j) 0)
 |_=>False
noncomputable def jo (op:IE)(MV v:c_)(k:c_->Prop):Prop:=(fN MV).elim False λi=>(fN v).elim False λj=>wm op i j k
noncomputable def la (Q:cT)(N:Fm->ak->Prop)(fl:Ih)(fm:Fm)(Z:ak):Prop:=match fl with
 |.next=>N fm Z
 |.cont=>N fm Z
 |.brk=>Q .next fm Z
 |.ret v=>Q (.ret v) fm Z
noncomputable def mL (B:TT)(S:ST)(t:Expr)(body:b_ Gf)(sc:DR)(fm:Fm)(Z:ak)(Q:cT):Prop:=
 ∃ (I:Nat->Fm->ak->Prop) (n:Nat),I n fm Z/\∀n fm Z,I n fm Z->B t sc fm Z λc Z=>
  if c=e_ then au S body sc fm Z (la Q λfm Z=>∃m,m<n/\I m fm Z)else Q .next fm Z
noncomputable def iw (S:ST)(x:Str)(v:c_)(body:b_ Gf)(sc:DR)(fm:Fm)(Zb2:ak)(Q:cT):Prop:=
 ob (fj Zb2 v) λxs=>xs.length<=100000/\∃I:Nat->Fm->ak->Prop,I 0 fm Zb2/\(∀i fm Z,I i fm Z->gE Z v=gE Zb2 v)/\
  (∀i y fm Z,xs[i]? =a_ y->I i fm Z->dv sc x y fm Z λfm Z=>au S body sc fm Z (la Q (I (i+1))))/\
  (∀fm Z,I xs.length fm Z->Q .next fm Z)
noncomputable def fk:Expr->Dm
 |.ListComp ..=>e_
 |.SetComp ..=>e_
 |.DictComp ..=>e_
 |_=>g'
noncomputable def lc (sc:DR)(xs:b_ Str)(sw:Dm)(v:c_)(fm:Fm)(Z:ak)(kk:Fm->ak->Prop):Prop:=∃a vs,v=.ref a/\Z a=a_ (.tup vs)/\xs.length=vs.length/\(if sw=e_ then gR sc xs.reverse vs.reverse fm Z kk else gR sc xs vs fm Z kk)
noncomputable def rI (T:a6)(E:ET)(ts:b_ Expr)(e:Expr)(sc:DR)(fm:Fm)(Z:ak)(Q:cT):Prop:=
 (∃x p,ts=[.Name x p]/\E e sc fm Z λv Z=>dv sc x v fm Z λfm Z=>Q .next fm Z)\/
 (∃o a p,ts=[.Attribute o a p]/\iV o=e_/\E e sc fm Z λv Z=>E o sc fm Z λw Z=>ir Z w a v λZ=>Q .next fm Z)\/
 (∃o i p,ts=[.Subscript o i p]/\fk e=g'/\rB i=e_/\E e sc fm Z λv Z=>E o sc fm Z λw Z=>E i sc fm Z λu Z=>jS Z w u v λZ=>Q .next fm Z)\/
 (∃us c p,ts=[.Tuple us c p]/\T 28=h_/\fk e=g'/\mK sc us=e_/\ob (iX us) λxs=>ob (k7 sc us e) λsw=>E e sc fm Z λv Z=>lc sc xs sw v fm Z λfm Z=>Q .next fm Z)
noncomputable def rJ (E:ET)(t:Expr)(op:IE)(e:Expr)(sc:DR)(fm:Fm)(Z:ak)(Q:cT):Prop:=
 (∃x p,t=.Name x p/\cF x=e_/\ob (bM sc x fm Z) λMV=>E e sc fm Z λv Z=>jo op MV v λr=>dv sc x r fm Z λfm Z=>Q .next fm Z)\/
 (∃o a p,t=.Attribute o a p/\E o sc fm Z λw Z=>ob (fM Z w a) λMV=>E e sc fm Z λv Z=>jo op MV v λr=>ir Z w a r λZ=>Q .next fm Z)
noncomputable def qn (name:Str):Str:="_law_program_right.<locals>."++name
noncomputable def wn (name:Str)(body:b_ Gf)(scope:DR)(pos:Pos)(sc:DR)(fm:Fm)(Z:ak)(k:Fm->ak->Prop):Prop:=∃cl t,iW scope fm=a_ cl/\Z 819=a_ (.tab t)/\(match t with
 |none=>∀f c,isNew Z f->isNew Z c->f≠c->dv sc name (.ref f) fm ((Z.set 819 (.tab (a_ (pos,qn name,c)))).set f (.clo scope body cl.reverse (qn name) c)) k
 |some (p,q,c)=>p.line=pos.line/\p.col=pos.col/\q=qn name/\∀f,isNew Z f->dv sc name (.ref f) fm (Z.set f (.clo scope body cl.reverse q c)) k)
noncomputable def rK (name:Str)(args:Arguments)(body:b_ Gf)(ds:b_ Expr)(ret:m_ Expr)(Pd:b_ TypeParam)(scope:DR)(Kl:m_ DR)(bind:Str)(pos:Pos)(sc:DR)(fm:Fm)(Z:ak)(Q:cT):Prop:=
 args=⟨[],[],h_,[],[],h_,[]⟩/\ds=[]/\ret=h_/\Pd=[]/\Kl=h_/\bind=name/\kindOf sc "told"=a_ .local/\kindOf sc name=a_ .local/\wn name body scope pos sc fm Z λfm Z=>Q .next fm Z
noncomputable def rM (T:a6)(E:ET)(B:TT)(S:ST):ST:=λs sc fm Z Q=>match s with
 |.Expr e _=>fk e=g'/\E e sc fm Z λv Z=>ry v=e_/\Q .next fm Z
 |.Pass _=>Q .next fm Z
 |.Continue _=>Q .cont fm Z
 |.Break _=>Q .brk fm Z
 |.Return e _=>(match e with
  |some e=>E e sc fm Z λv Z=>Q (.ret v) fm Z
  |none=>Q (.ret .none) fm Z)
 |.Assign ts e _=>rI T E ts e sc fm Z Q
 |.AugAssign t op e _=>rJ E t op e sc fm Z Q
 |.If t a b _=>B t sc fm Z λc Z=>if c=e_ then au S a sc fm Z Q else au S b sc fm Z Q
 |.While t b RE _=>RE=[]/\mL B S t b sc fm Z Q
 |.FunctionDef name args body ds ret Pd scope Kl bind pos=>rK name args body ds ret Pd scope Kl bind pos sc fm Z Q
 |.For t it b RE _=>∃x p,t=.Name x p/\RE=[]/\T 28=h_/\dL it=e_/\E it sc fm Z λv Z=>iw S x v b sc fm Z Q
 |_=>False
noncomputable def aw (T:a6):Nat->ET×TT
 |0=>(λU U U U U=>False,λU U U U U=>False)
 |n+1=>(mJ T (aw T n).1 (aw T n).2,rG (aw T n).1 (aw T n).2)
noncomputable def aT (T:a6)(k:Nat):Nat->ST
 |0=>λU U U U U=>False
 |n+1=>rM T (aw T k).1 (aw T k).2 (aT T k n)
theorem cA {Z:ak}{a b:d_}{o o':O}(h1:Z a=a_ o)(h2:Z b=a_ o')(h:o≠o'):a≠b:=by
 rintro rfl;rw[h1]at h2;cases h2;exact h rfl
noncomputable def kd:O->Nat
 |.inst C _ _=>C+10
 |.lst _=>1
 |.tup _=>2
 |.dic _ _=>3
 |.cel _=>4
 |.rng _=>5
 |.bm _ _=>6
 |.exc _ _ _ _=>7
 |.clo _ _ _ _ _=>7
 |.tab _=>7
theorem ag {Z:ak}{a b:d_}{o o':O}(h1:Z a=a_ o)(h2:Z b=a_ o')(h:(kd o==kd o')=g':=by rfl):a≠b:=cA h1 h2 λq=>by rw[q,C']at h;exact absurd h (by decide)
theorem ae {o:O}{n:Nat}(h:(kd o==n)=g':=by rfl):kd o≠n:=λq=>by rw[q,C']at h;exact ft h.symm
theorem kx {o o':O}(h:a_ o=a_ o')(k:(kd o==kd o')=g':=by rfl):False:=by
 rw[De h,C']at k;exact ft k.symm
theorem gS {o o':O}(h:(kd o==kd o')=g':=by rfl):o≠o':=λq=>kx (congrArg a_ q) h
theorem vx {v w:c_}(h:v=w)(k:(v.ctorIdx==w.ctorIdx)=g':=by rfl):False:=by
 rw[h,C']at k;exact ft k.symm
theorem vy {v w:c_}(h:a_ v=a_ w)(k:(v.ctorIdx==w.ctorIdx)=g':=by rfl):False:=vx (De h) k
variable{a C z d wk c hp t dt dh f dsA pl em dc rd gl l mn rn st sd its rf c3 NV dp dg dl c1 c4 al KJ tl sv saves c6 ba c2 nl J5 pd:d_}{i num last line j JV fresh Lo gk last':Int}{pos p p1 p2 p3 p4 p5 Kc:Pos}{n m k kk q np ne:Nat}{fr qt ds Lj Og MS:Dm}{Z Z' JO Z1 Z0:ak}{xs vs ys cells rest:b_ c_}{zs ss ts ts' ls:b_ d_}{v bl Of dflt:c_}{fl loc rl:b_ (Str×Value)}{Zb6 h h':Fu}{Zb9 s s':i'}{nm y vn:Str}{firm fs J8:b_ Int}{elt u it:Expr}{Sq St' Ss:ST}{fm JN:Fm}{sc cs:DR}{o o':O}{mg mb:Str->m_ c_}{env JR:Env}{r body:b_ Gf}{cl ms:b_ (Str×Addr)}{args KU:b_ Expr}{Q:bC}{es:b_ (Value×Value)}{prog:Fc}{w:Ew}{Qs:cT}{Bt:TT}{Qb:gB}{kin:b_ (b_ Nat)}{Err:c_->i'->Prop}{Mb:Nat->b_ d_}{tg:m_ Nat}{Mt:Nat->b_ (Addr×Option Nat)}{op:IE}{v3:m_ c_}{fd:H_}{cnt:Nat->Int}{bs:b_ Dm}{told:b_ Str}{dd:m_ d_}{near:d_->b_ d_}{outer:b_ Env}{os:GD}
noncomputable def pb (K:GC)(C:d_)(ms:b_ (Str×Addr)):Dm:=
 EZ K (.ref C) "__getattribute__"==a_ (a_ (.builtin "object.__getattribute__"))&&
 EZ K (.ref C) "__getattr__"==a_ h_&&
 EZ K (.ref C) "__setattr__"==a_ (a_ (.builtin "object.__setattr__"))&&
 plainOver K C&&GZ K C&&makesIn K C&&
 ms.all (λm=>EZ K (.ref C) m.1==a_ (a_ (.ref m.2))&&isFn K (.ref m.2)&&fnIn K m.2&&Ia K (.ref m.2) "__get__" !=h_)&&
 AN.all (λa=>(ms.lookup a).isSome||EZ K (.ref C) a==a_ h_)&&
 Ia K (.ref C) "__getattribute__"==a_ (a_ (.builtin "type.__getattribute__"))&&
 readsIn K C (.type "type")
noncomputable def rN (K:GC)(x:Str)(v:c_):Dm:=match nsIn K mainGlobals x with
 |some (a_ u)=>er u==v
 |some h_=>bootBuiltins x==a_ v
 |none=>g'
theorem wo (P:DF):(cN.all λp=>pb (KF P) p.1 p.2)=e_:=by kernel_rfl
theorem wp (P:DF):(oO.all λp=>rN (KF P) p.1 p.2)=e_:=by kernel_rfl
theorem CT (P:DF):(cN.all λp=>cN.all λq=>subIn (KF P) (.ref p.1) (.ref q.1)==a_ (my p.1 q.1))=e_:=by kernel_rfl
inductive EM:b_ Gx->b_ (Str×Value)->Prop
 |nil:EM [] []
 |cons {x:Str} {t:Tok} {hs:Int} {v:c_} {es:b_ Gx} {fl:b_ (Str×Value)}:EM es fl->EM (⟨hs,.str x t,v⟩::es) ((x,er v)::fl)
section
variable(prog:Fc)(w:Ew)
noncomputable def OM (h:Fu)(a:d_):O->Prop
 |.inst C d fl=>h.get? a=a_ (IU C d)/\∃es n,h.get? d=a_ (Hx es n)/\EM es fl
 |.lst xs=>∃vs n,h.get? a=a_ (listOf vs n)/\vs.toList.map er=xs
 |.tup xs=>∃vs n,h.get? a=a_ {cls:=.type "tuple",data:=.seq vs n}/\vs.toList.map er=xs
 |.dic es n=>a≠Gu/\((∃kvs:b_ (Int×Value),h.DictAt (Hq prog w) a kvs n/\es=kvs.map λp=>(.int p.1 0,er p.2))\/
  (∃kvs:b_ (Str×Value),h.DictAt (strKind prog w) a kvs n/\es=kvs.map λp=>(.str p.1 0,er p.2)))
 |.cel v=>∃u,h.IsCell a u/\u.map er=v
 |.rng n=> -(2^60)<=n/\∃t u v,IsRange h a 0 n 1 t u v
 |.bm id self=>∃vs,h.get? a=a_ {cls:=.type "builtin_function_or_method",data:=.fields vs}/\vs[0]? =a_ (.builtin id)/\vs[1]? =a_ (.ref self)
 |.exc C d fr fl=>(∃vs,h.get? a=a_ {cls:=.ref C,dict:=d,data:=.fields vs}/\vs.size=6/\(fr=e_->vs[1]? =a_ .none))/\
  (d=h_->fl=[])/\∀x,d=a_ x->∃es n,h.get? x=a_ (Hx es n)/\EM es fl
 |.clo sc b cl q c=>∃fd,h.get? a=a_ {cls:=.type "function",data:=.func fd}/\fd.qualname=q/\fd.params=⟨[],[],h_,[],[],h_,[]⟩/\fd.defaults=.none/\fd.kwdefaults=.none/\fd.body=.stmts b/\fd.scope=sc/\fd.globals=mainGlobals/\fd.closure=cl/\fd.code=.ref c/\fd.builtins=E7
 |.tab h_=>h.get? a=a_ (tabObj #[])
 |.tab (a_ (p,q,c))=>h.get? a=a_ (tabObj #[rawInt p.line,rawInt p.col,.ref c])/\∃o vs t,h.get? c=a_ o/\o.data=.fields vs/\vs[1]? =a_ (.str q t)
noncomputable def bD:O->m_ d_
 |.inst _ d _=>a_ d
 |.exc _ d _ _=>d
 |.tab (a_ (_,_,c))=>a_ c
 |_=>h_
noncomputable def own (Z:ak)(b:d_):Prop:=∃a o,Z a=a_ o/\(b=a\/bD o=a_ b)
noncomputable abbrev aS:=d_->m_ Obj
structure aN (Zb6:Fu)(Z:ak)(B:aS)(h:Fu):Prop where
 om:∀a o,Z a=a_ o->OM prog w h a o
 keep:∀b o,B b=a_ o->h.get? b=a_ o
 apart:∀b o,B b=a_ o->¬own Z b
 base:∀b o,Zb6.get? b=a_ o->B b=a_ o
 sep:∀a o d,Z a=a_ o->bD o=a_ d->Z d=h_
 inj:∀a o a' o' d,Z a=a_ o->bD o=a_ d->Z a'=a_ o'->bD o'=a_ d->a=a'
structure aQ (Zb6:Fu)(mg mb:Str->m_ c_):Prop where
 X:(KF w.params).In Zb6
 g:Zb6.Ns mainGlobals mg
 b:Zb6.Ns E7 mb
 lim:Zb6.NoLimit
 bi:∀x:Str,x≠"__name__"->mb x=bootBuiltins x
 bt:Zb6.BuiltinsAt mg 819
end
section
variable{B:aS}
theorem OM.keep (x:OM prog w h a o)(k:∀b o',(b=a\/bD o=a_ b)->h.get? b=a_ o'->h'.get? b=a_ o'):OM prog w h' a o:=by
 intros a h h' o prog w;have k0:∀ {o'},h.get? a=a_ o'->h'.get? a=a_ o':=λe=>k _ _ (.inl rfl) e;cases o with
 |inst C d fl=>exact⟨k0 x.1,x.2.imp λes x=>x.imp λn x=>⟨k _ _ (.inr rfl) x.1,x.2⟩⟩
 |lst xs=>exact x.imp λvs x=>x.imp λn x=>⟨k0 x.1,x.2⟩
 |tup xs=>exact x.imp λvs x=>x.imp λn x=>⟨k0 x.1,x.2⟩
 |dic es n=>
  intros es n;refine⟨x.1,x.2.imp ?_ ?_⟩
  ·rintro⟨kvs,⟨o,KQ,e,r⟩,m⟩;exact⟨kvs,⟨o,KQ,k0 e,r⟩,m⟩
  ·rintro⟨kvs,⟨o,KQ,e,r⟩,m⟩;exact⟨kvs,⟨o,KQ,k0 e,r⟩,m⟩
 |cel v=>refine ac x ?_;clear x;rintro u ⟨o,e,r⟩ m;exact⟨u,⟨o,k0 e,r⟩,m⟩
 |rng n=>refine jK x ?_;clear x;rintro z t u v x;exact⟨z,t,u,v,k0 x⟩
 |bm id self=>exact x.imp λvs x=>⟨k0 x.1,x.2⟩
 |exc C d fr fl=>exact⟨x.1.imp λvs x=>⟨k0 x.1,x.2⟩,x.2.1,λy hy=>(x.2.2 y hy).imp λes z=>z.imp λn z=>⟨k _ _ (.inr hy) z.1,z.2⟩⟩
 |clo sc b cl q c=>exact x.imp λfd x=>⟨k0 x.1,x.2⟩
 |tab t=>
  cases t with
  |none=>exact k0 x
  |some t=>exact⟨k0 x.1,x.2.imp λo z=>z.imp λvs z=>z.imp λt z=>⟨k _ _ (.inr rfl) z.1,z.2⟩⟩
theorem OM.there {b:d_}(x:OM prog w h a o)(hb:b=a\/bD o=a_ b):∃x,h.get? b=a_ x:=by
 intros a h o prog w b;rcases hb with rfl|hb
 ·cases o with
  |inst C d fl=>exact⟨_,x.1⟩
  |lst xs=>exact x.elim λvs x=>x.elim λn x=>⟨_,x.1⟩
  |tup xs=>exact x.elim λvs x=>x.elim λn x=>⟨_,x.1⟩
  |dic es n=>rcases x.2 with ⟨kvs,⟨o,KQ,e,r⟩,m⟩ |⟨kvs,⟨o,KQ,e,r⟩,m⟩ <;>exact⟨_,e⟩
  |cel v=>refine ac x ?_;clear x;rintro u ⟨o,e,r⟩ m;exact⟨_,e⟩
  |rng n=>refine jK x ?_;clear x;rintro z t u v x;exact⟨_,x⟩
  |bm id self=>exact x.elim λvs x=>⟨_,x.1⟩
  |exc C d fr fl=>exact x.1.elim λvs x=>⟨_,x.1⟩
  |clo sc b cl q c=>exact x.elim λfd x=>⟨_,x.1⟩
  |tab t=>
   cases t with
   |none=>exact⟨_,x⟩
   |some t=>exact⟨_,x.1⟩
 ·cases o with
  |inst C d fl=>cases hb;exact x.2.elim λes x=>x.elim λn x=>⟨_,x.1⟩
  |exc C d fr fl=>exact(x.2.2 b hb).elim λes x=>x.elim λn x=>⟨_,x.1⟩
  |tab t=>
   cases t with
   |none=>exact(ns hb).elim
   |some t=>intros t;cases hb;exact x.2.elim λo x=>⟨_,x.elim λvs x=>x.elim λt x=>x.1⟩
  |_=>exact(ns hb).elim
theorem dw (e:Z a=a_ o):own Z a:=⟨a,o,e,.inl rfl⟩
theorem gT (e:Z a=a_ o)(hd:bD o=a_ d):own Z d:=⟨a,o,e,.inr hd⟩
theorem ad (Z:ak)(a:d_)(o:O):(Z.set a o) a=a_ o:=z_ rfl
theorem bA (Z:ak){b:d_}(o:O)(n:b≠a):(Z.set a o) b=Z b:=p_ n
theorem aN.get (R:aN prog w Zb6 Z B h){b:d_}{o:Obj}(e:Zb6.get? b=a_ o):h.get? b=a_ o:=R.keep _ _ (R.base _ _ e)
theorem aN.chg (R:aN prog w Zb6 Z B h)(W:d_->Prop)(k:∀b o,¬W b->h.get? b=a_ o->h'.get? b=a_ o)(n1:∀b,W b->¬own Z b)(n2:∀b,W b->B b=h_):aN prog w Zb6 Z B h' where
 om a o e:=(R.om a o e).keep λb o' hb e'=>k _ _ (λq=>n1 _ q ⟨a,o,e,hb⟩) e'
 keep b o e:=k _ _ (λq=>by exact(ns ((n2 _ q).symm.trans e))) (R.keep _ _ e)
 apart:=R.apart
 base:=R.base
 sep:=R.sep
 inj:=R.inj
theorem aN.ext (R:aN prog w Zb6 Z B h)(k:∀b o,h.get? b=a_ o->h'.get? b=a_ o):aN prog w Zb6 Z B h':=R.chg (λU=>False) (λb o U e=>k b o e) (λU q=>q.elim) λU q=>q.elim
theorem aN.push (R:aN prog w Zb6 Z B h)(o:Obj):aN prog w Zb6 Z B (h.push o):=R.ext λU U e=>j' o e
theorem aN.there (R:aN prog w Zb6 Z B h){b:d_}(hb:own Z b):∃x,h.get? b=a_ x:=by
 refine aY hb ?_;clear hb;rintro c o e hb;exact(R.om _ _ e).there hb
theorem aN.notSize (R:aN prog w Zb6 Z B h):¬own Z h.objs.size:=λhb=>
 (R.there hb).elim λx hx=>absurd (Dn hx) (DH _)
theorem aN.noneSize (R:aN prog w Zb6 Z B h):B h.objs.size=h_:=by
 cases e:B h.objs.size with
 |none=>rfl
 |some o=>exact absurd (Dn (R.keep _ _ e)) (DH _)
theorem aN.adopt (R:aN prog w Zb6 Z B h)(n1:¬own Z a)(n2:B a=h_)(hd:∀d,bD o=a_ d->¬own Z d/\B d=h_/\d≠a)(m:OM prog w h a o):aN prog w Zb6 (Z.set a o) B h where
 om b o' e:=by
  by_cases q:b=a
  ·subst q;rw[ad]at e;cases e;exact m
  ·rw[bA _ _ q]at e;exact R.om b o' e
 keep:=R.keep
 apart b ob e:=by
  rintro⟨c,oc,ec,hb⟩;by_cases q:c=a
  ·subst q
   rw[ad]at ec;cases ec;rcases hb with rfl|hb
   ·exact(ns (n2.symm.trans e))
   ·exact(ns (((hd _ hb).2.1).symm.trans e))
  ·rw[bA _ _ q]at ec;exact R.apart b ob e ⟨c,oc,ec,hb⟩
 base:=R.base
 sep c oc d ec hc:=by
  by_cases q:c=a
  ·subst q
   rw[ad]at ec;cases ec;have:=hd _ hc;rw[bA _ _ this.2.2];cases e:Z d with
   |none=>rfl
   |some x=>exact absurd (dw e) this.1
  ·rw[bA _ _ q]at ec
   have z:=R.sep c oc d ec hc;by_cases qd:d=a
   ·subst qd;exact absurd (gT ec hc) n1
   ·exact(bA _ _ qd).trans z
 inj c oc c' QR d ec hc Ml Ku:=by
  by_cases q:c=a
  ·subst q
   rw[ad]at ec;cases ec;by_cases q':c'=c
   ·exact q'.symm
   ·rw[bA _ _ q']at Ml;exact absurd (gT Ml Ku) (hd _ hc).1
  ·rw[bA _ _ q]at ec
   by_cases q':c'=a
   ·subst q'
    rw[ad]at Ml;cases Ml;exact absurd (gT ec hc) (hd _ Ku).1
   ·rw[bA _ _ q']at Ml;exact R.inj _ _ _ _ _ ec hc Ml Ku
theorem aN.hid1 (R:aN prog w Zb6 Z B h)(e:Z a=a_ o)(ho:bD o=h_)(Pf:bD o'=a_ d)(n1:¬own Z d)(n2:B d=h_)(k:∀b x,b≠a->h.get? b=a_ x->h'.get? b=a_ x)(m:OM prog w h' a o'):aN prog w Zb6 (Z.set a o') B h':=by
 intros a d Z Zb6 h h' o o' prog w B;have da:d≠a:=λq=>n1 (q▸dw e);have dn:Z d=h_:=by
  cases q:Z d with
  |none=>rfl
  |some x=>exact absurd (dw q) n1
 refine⟨λb ob eb=>?_,λb x eb=>k b x (λq=>R.apart _ _ eb (q▸dw e)) (R.keep _ _ eb),λb x eb=>?_,R.base,λc oc d' ec hc=>?_,λc oc c' QR d' ec hc Ml Ku=>?_⟩
 ·intros b ob
  by_cases q:b=a
  ·subst q;rw[ad]at eb;cases eb;exact m
  ·rw[bA _ _ q]at eb
   refine(R.om b ob eb).keep λc x hc ec=>k c x ?_ ec;rintro rfl;rcases hc with hc|hc
   ·exact q hc.symm
   ·have:=R.sep _ _ _ eb hc;rw[e]at this;exact(sn this).elim
 ·intros b x
  rintro⟨c,oc,ec,hb⟩;intros c oc;by_cases q:c=a
  ·subst q
   rw[ad]at ec;cases ec;rcases hb with rfl|hb
   ·exact R.apart _ x eb (dw e)
   ·rw[Pf]at hb;cases hb;rw[n2]at eb;exact(ns eb).elim
  ·rw[bA _ _ q]at ec;exact R.apart b x eb ⟨c,oc,ec,hb⟩
 ·intros c oc d'
  by_cases q:c=a
  ·subst q
   rw[ad]at ec;cases ec;rw[Pf]at hc;cases hc;rw[bA _ _ da];exact dn
  ·rw[bA _ _ q]at ec
   have z:=R.sep _ _ _ ec hc;rw[bA _ _ (λy=>by exact(sn (e.symm.trans (y▸z))))];exact z
 ·intros c oc c' QR d'
  by_cases q:c=a
  ·by_cases q':c'=a
   ·exact q.trans q'.symm
   ·subst q
    rw[ad]at ec;cases ec;rw[bA _ _ q']at Ml;rw[Pf]at hc;cases hc;exact absurd (gT Ml Ku) n1
  ·rw[bA _ _ q]at ec
   by_cases q':c'=a
   ·subst q'
    rw[ad]at Ml;cases Ml;rw[Pf]at Ku;cases Ku;exact absurd (gT ec hc) n1
   ·rw[bA _ _ q']at Ml;exact R.inj _ _ _ _ _ ec hc Ml Ku
theorem iZ {o':O}(e:Z a=a_ o)(hh:bD o'=bD o)(b:d_):own (Z.set a o') b↔own Z b:=by
 revert e hh;intros a Z o o' b;constructor
 ·rintro⟨c,oc,ec,hb⟩
  intros c oc;by_cases q:c=a
  ·subst q;rw[ad]at ec;cases ec;exact⟨c,o,e,by exact hh▸hb⟩
  ·rw[bA _ _ q]at ec;exact⟨c,oc,ec,hb⟩
 ·rintro⟨c,oc,ec,hb⟩
  intros c oc;by_cases q:c=a
  ·subst q;rw[e]at ec;cases ec;exact⟨c,o',ad _ _ _,by exact hh▸hb⟩
  ·exact⟨c,oc,by exact(bA _ _ q).trans ec,hb⟩
theorem aN.upd (R:aN prog w Zb6 Z B h){o':O}(e:Z a=a_ o)(hh:bD o'=bD o)(k:∀b x,b≠a->bD o≠a_ b->h.get? b=a_ x->h'.get? b=a_ x)(m:OM prog w h' a o'):aN prog w Zb6 (Z.set a o') B h' where
 om b ob eb:=by
  by_cases q:b=a
  ·subst q;rw[ad]at eb;cases eb;exact m
  ·rw[bA _ _ q]at eb
   refine(R.om b ob eb).keep λc x hc ec=>k c x ?_ ?_ ec
   ·rintro rfl
    rcases hc with hc|hc
    ·exact q hc.symm
    ·have:=R.sep _ _ _ eb hc;rw[e]at this;exact(sn this).elim
   ·intro Ku
    rcases hc with rfl|hc
    ·have:=R.sep _ _ _ e Ku;rw[eb]at this;exact(sn this).elim
    ·exact q (R.inj _ _ _ _ _ eb hc e Ku)
 keep b x eb:=k b x (λq=>R.apart _ _ eb (q▸dw e)) (λq=>R.apart _ _ eb (gT e q)) (R.keep _ _ eb)
 apart b x eb q:=R.apart b x eb ((iZ e hh b).mp q)
 base:=R.base
 sep c oc d ec hc:=by
  have hn:Z d=h_:=by
   by_cases q:c=a
   ·subst q;rw[ad]at ec;cases ec;exact R.sep _ _ _ e (hh▸hc)
   ·rw[bA _ _ q]at ec;exact R.sep _ _ _ ec hc
  by_cases q:d=a
  ·subst q;rw[e]at hn;exact(sn hn).elim
  ·exact(bA _ _ q).trans hn
 inj c oc c' QR d ec hc Ml Ku:=by
  have f:∀ {c oc},(Z.set a o') c=a_ oc->bD oc=a_ d->∃QR,Z c=a_ QR/\bD QR=a_ d:=by
   intro c oc ec hc;by_cases q:c=a
   ·subst q;rw[ad]at ec;cases ec;exact⟨o,e,hh▸hc⟩
   ·rw[bA _ _ q]at ec;exact⟨oc,ec,hc⟩
  refine ac (f ec hc) λx ex hx=>?_;refine ac (f Ml Ku) λy ey hy=>?_;exact R.inj _ _ _ _ _ ex hx ey hy
noncomputable def aS.add (B:aS)(a:d_)(o:Obj):aS:=λb=>if b=a then a_ o else B b
theorem aN.hide (R:aN prog w Zb6 Z B h){o:Obj}(n1:¬own Z a)(n0:Zb6.get? a=h_)(e:h.get? a=a_ o):aN prog w Zb6 Z (B.add a o) h where
 om:=R.om
 keep b x eb:=by
  unfold aS.add at eb;split at eb
  ·rename b=_=>q;subst q;cases eb;exact e
  ·exact R.keep _ _ eb
 apart b x eb:=by
  unfold aS.add at eb;split at eb
  ·rename b=_=>q;subst q;exact n1
  ·exact R.apart _ _ eb
 base b x eb:=by
  unfold aS.add;split
  ·rename _=>q;subst q;rw[n0]at eb;exact(ns eb).elim
  ·exact R.base _ _ eb
 sep:=R.sep
 inj:=R.inj
theorem aN.less (R:aN prog w Zb6 Z B h){B':aS}(k:∀b o,B' b=a_ o->B b=a_ o)(k0:∀b o,Zb6.get? b=a_ o->B' b=a_ o):aN prog w Zb6 Z B' h:=
 ⟨R.om,λb o e=>R.keep _ _ (k _ _ e),λb o e=>R.apart _ _ (k _ _ e),k0,R.sep,R.inj⟩
theorem aN.in (R:aN prog w Zb6 Z B h)(D:aQ w Zb6 mg mb):(KF w.params).In h:=λa o e=>R.get (D.X a o e)
theorem aN.big (R:aN prog w Zb6 Z B h)(D:aQ w Zb6 mg mb):850<=h.objs.size:=by
 have:=re w.params;refine xE this λo ho=>?_;clear this;exact Dn (R.in D _ _ ho)
theorem aN.isNew (R:aN prog w Zb6 Z B h)(D:aQ w Zb6 mg mb):isNew Z h.objs.size:=by
 refine⟨?_,R.big D⟩;cases e:Z h.objs.size with
 |none=>rfl
 |some o=>exact absurd (dw e) R.notSize
theorem aN.new (R:aN prog w Zb6 Z B h){o:O}{ho:Obj}(hd:bD o=h_)(m:OM prog w (h.push ho) h.objs.size o):aN prog w Zb6 (Z.set h.objs.size o) B (h.push ho):=
 (R.push ho).adopt R.notSize R.noneSize (λd q=>by exact(ns (hd.symm.trans q)).elim) m
end
theorem dP {α β:Type}[BEq α][LawfulBEq α]{x:α}{v:β}:∀ {l:b_ (α×β)},l.lookup x=a_ v->(x,v)∈l
 |(y,u)::r,e=>by
  rw[v_]at e;split at e
  ·rename _=e_=>q;cases e;rw[C9.mp q];exact .head _
  ·exact .tail _ (dP e)
theorem dj {α:Type}(x:Str)(v:α)(y:Str):∀l:b_ (Str×α),(aL x v l).lookup y=if y=x then a_ v else l.lookup y
 | []=>by
  by_cases h:y=x
  ·subst h;simp[aL]
  ·simp[aL,h,v_,r'.mpr h]
 |(z,u)::r=>by
  have ih:=dj x v y r;unfold aL;by_cases hz:x=z
  ·subst hz
   by_cases h:y=x
   ·subst h;simp
   ·simp[h,v_,r'.mpr h]
  ·rw[p_ (by simpa using hz)]
   rw[v_,v_,ih];by_cases h:y=z
   ·subst h
    have:¬y=x:=λe=>hz e.symm;simp[this]
   ·simp[r'.mpr h]
theorem d6 {α:Type}{x:Str}{v:α}{l:b_ (Str×α)}:(aL x v l).lookup x=a_ v:=by rw[dj,z_ rfl]
theorem et {α:Type}{x:Str}{v:α}{l:b_ (Str×α)}{r:m_ α}(e:l.lookup y=r)(h:y≠x:=by decide):(aL x v l).lookup y=r:=by rw[dj,p_ h];exact e
theorem jp (h:fN (er v)=a_ i):∃u,v=.int i u:=by
 cases v<;>first |exact(ns h).elim|exact⟨_,congrArg (Dl · _) (De h)⟩
theorem lf {x:Str}(h:fX (er v)=a_ x):∃u,v=.str x u:=by
 cases v<;>first |exact(ns h).elim|exact⟨_,congrArg (En · _) (De h)⟩
theorem jX (h:fP (er v)=a_ a):v=.ref a:=by
 cases v<;>first |exact(ns h).elim|exact congrArg Di (De h)
theorem fZ {t:Tok}(e:er v=.int i t):∃u,v=.int i u:=jp (congrArg fN e)
theorem pc {x:Str}{t:Tok}(e:er v=.str x t):∃u,v=.str x u:=lf (congrArg fX e)
theorem cU (e:er v=.ref a):v=.ref a:=jX (congrArg fP e)
theorem wr {b:Dm}(e:er v=.bool b):v=.bool b:=by cases v<;>first |exact(vx e).elim|exact e
theorem pe (e:er v=.none):v=.none:=by cases v<;>first |exact(vx e).elim|exact e
theorem CU {b:EB}(e:er v=.builtin b):v=.builtin b:=by cases v<;>first |exact(vx e).elim|exact e
theorem rO {b:EB}(e:er v=.type b):v=.type b:=by cases v<;>first |exact(vx e).elim|exact e
theorem ix (v:c_):er (er v)=er v:=by cases v<;>rfl
structure a0 (qt:Dm)(d:Nat)(A:DJ):Prop where
 hd:qt=g'->A.handled=h_
 dp:A.depth+2*d<=900
 un:A.units+8*d<=9000
theorem a0.in1 {d:Nat}{A:DJ}(x:a0 qt (d+1) A):a0 qt d A.in1:=⟨x.hd,by have:=x.dp;show A.depth+2*d<=900;walk_at "bt",by have:=x.un;show A.units+1+8*d<=9000;walk_at "o"⟩
theorem a0.deeper {d:Nat}{A:DJ}(x:a0 qt (d+1) A)(env:Env):a0 qt d (A.deeper env):=⟨x.hd,by have:=x.dp;show A.depth+1+2*d<=900;walk_at "o",by have:=x.un;show A.units+3+8*d<=9000;walk_at "o"⟩
theorem a0.le {d e:Nat}{A:DJ}(x:a0 qt d A)(h:e<=d):a0 qt e A:=⟨x.hd,by have:=x.dp;walk_at "R",by have:=x.un;walk_at "R"⟩
theorem a0.room {d:Nat}{A:DJ}(x:a0 qt d A):A.depth<Hy:=by have:=x.dp;show A.depth<1000;walk_at "S"
theorem a0.unit {d:Nat}{A:DJ}(x:a0 qt d A):A.units<IF:=by have:=x.un;show A.units<9900;walk_at "S"
structure bL (env:Env)(sc:DR):Prop where
 kind:env.scope.kind=.function
 glob:env.globals=mainGlobals
 bltn:env.builtins=E7
 kl:∀x,kindOf sc x=a_ .local->env.kindOf x=a_ .local
 kc:∀x,kindOf sc x=a_ .cell->env.kindOf x=a_ .cell
 kf:∀x,kindOf sc x=a_ .free->env.kindOf x=a_ .free\/env.kindOf x=a_ .cell
 kg:∀x,kindOf sc x=a_ .globalImplicit->env.kindOf x=a_ .globalImplicit
 cd:kindOf sc "told"=a_ .local->env.code=.ref 823/\env.qual="_law_program_right.<locals>."
section
variable(prog:Fc)(w:Ew)(Zb6:Fu)(Zb9:i')
noncomputable def mM (s:i'):Prop:=s.gens=Zb9.gens/\s.drawn=Zb9.drawn/\s.os=Zb9.os
structure St (env:Env)(fm:Fm)(Z:ak)(B:aS)(s:i'):Prop where
 rep:aN prog w Zb6 Z B s.heap
 ns:∃m,s.heap.Ns env.locals m/\∀x v,fm.loc.lookup x=a_ v->∃u,m x=a_ u/\er u=v
 free:¬own Z env.locals
 priv:B env.locals=h_
 cel:∀x c,fm.cel.lookup x=a_ c->env.cells.lookup x=a_ c
 same:mM Zb9 s
end
section
variable{B:aS}{M:Model}{A:DJ}{E:c_->i'->Prop}
theorem aN.g (R:aN prog w Zb6 Z B s.heap)(D:aQ w Zb6 mg mb):s.heap.Ns mainGlobals mg:=D.g.keeps λb o e=>R.get e
theorem aN.b (R:aN prog w Zb6 Z B s.heap)(D:aQ w Zb6 mg mb):s.heap.Ns E7 mb:=D.b.keeps λb o e=>R.get e
theorem aN.lim (R:aN prog w Zb6 Z B s.heap)(D:aQ w Zb6 mg mb):s.heap.NoLimit:=D.lim.keeps λb o e=>R.get e
theorem jq {x:Str}{Q:c_->i'->Prop}(D:aQ w Zb6 mg mb)(R:aN prog w Zb6 Z B s.heap)(N:bL env sc)(hk:kindOf sc x=a_ .globalImplicit)(e:G x=a_ v)(h:∀u,er u=v->Q u s):
 wpAny M A (loadName env x) Q E s:=by
 intros Z v Zb6 s sc mg mb env prog w B M A E x Q;have gk:=l_.mp (wp w.params) (x,v) (dP e);dsimp only at gk;have ld:loadName env x=loadGlobal env x:=by
  unfold loadName;simp -iota only [Env.blockKind,N.kind,N.kg _ hk]
  rfl
 rw[ld];unfold loadGlobal;have X:=R.in D;refine wpAny_bind (wpAny_nsGet (by exact N.glob▸(R.g D)) ?_);unfold rN at gk;split at gk
 ·rename nsIn (KF w.params) mainGlobals x=_=>q
  have g:s.heap.Ns mainGlobals mg:=R.g D;rw[mg_of X g q];exact wpAny_pure (h _ (C9.mp gk))
 ·rename nsIn (KF w.params) mainGlobals x=_=>q
  have g:s.heap.Ns mainGlobals mg:=R.g D;rw[mg_none_of X g q];refine wpAny_bind (wpAny_nsGet (by exact N.bltn▸(R.b D)) ?_);have hn:x≠"__name__":=by
   rintro rfl;have:G "__name__"=h_:=by decide+kernel
   rw[this]at e;exact(ns e).elim
  rw[D.bi _ hn,C9.mp gk];refine wpAny_pure (h _ ?_);have:(oO.all λp=>er p.2==p.2)=e_:=by decide+kernel
  exact C9.mp (l_.mp this _ (dP e))
 ·exact(ft gk).elim
theorem fF {x:Str}(h:cF x=e_):(x==("__debug__":Str))=g'/\(x==("super":Str))=g'/\(x==("__classdict__":Str))=g':=by
 unfold cF at h;simp only [u_,Fi]at h;exact⟨h.1.1,h.1.2,h.2⟩
theorem gU {x:Str}{Q:c_->i'->Prop}(D:aQ w Zb6 mg mb)(S:St prog w Zb6 Zb9 env fm Z B s)(N:bL env sc)(hx:cF x=e_)(e:bM sc x fm Z=a_ v)(h:∀u,er u=v->Q u s):
 wpAny M A (loadName env x) Q E s:=by
 intros Z v Zb6 Zb9 s fm sc mg mb env prog w B M A E x Q;unfold bM at e;have cell:(fm.cel.lookup x).bind (iP Z)=a_ v->∃c u,env.cells.lookup x=a_ c/\s.heap.IsCell c (a_ u)/\er u=v:=by
  intro e;refine ac (t_.mp e) λc hc e=>?_;unfold iP at e;split at e
  ·rename Z c=_=>q
   refine ac (S.rep.om _ _ q) λu hu m=>?_;subst e;cases u with
   |none=>exact(ns m).elim
   |some u=>exact⟨c,u,S.cel _ _ hc,hu,De m⟩
  ·exact(ns e).elim
 split at e
 ·rename kindOf sc x=_=>q
  refine ac S.ns λm hm hl=>?_;refine ac (hl _ _ e) λu hu e'=>?_;exact wpAny_loadName_local N.kind (N.kl _ q) hm hu (h _ e')
 ·rename kindOf sc x=_=>q
  refine bW (cell e) λc u hc hu e'=>?_;exact IZ N.kind (N.kc _ q) hc hu (h _ e')
 ·rename kindOf sc x=_=>q
  refine bW (cell e) λc u hc hu e'=>?_;rcases N.kf _ q with k|k
  ·exact wpAny_loadName_free N.kind k hc hu (h _ e') (fF hx).2.2
  ·exact IZ N.kind k hc hu (h _ e')
 ·rename kindOf sc x=_=>q
  exact jq D S.rep N q e h
 ·exact(ns e).elim
theorem gi {x:Str}{k:Fm->ak->Prop}{Q:IG->i'->Prop}(S:St prog w Zb6 Zb9 env fm Z B s)(N:bL env sc)(e:dv sc x (er v) fm Z k)
 (h:∀JN Z' s',k JN Z'->St prog w Zb6 Zb9 env JN Z' B s'->Q () s'):wpAny M A (storeName env x v) Q E s:=by
 intros Z v Zb6 Zb9 s fm sc env prog w B M A E x k Q;unfold dv at e;split at e
 ·rename _=_=>q
  refine ac S.ns λm hm hl=>?_;refine wpAny_storeName_local (N.kl _ q) hm (λh' hn hs=>h _ _ _ e ⟨?_,⟨_,hn,?_⟩,S.free,S.priv,S.cel,S.same⟩) (by exact N.kind▸rfl)
  ·refine S.rep.chg (λb=>b=env.locals) (λb o nb eb=>(hs.2 b nb).trans eb) (λb hb=>hb▸S.free) (λb hb=>hb▸S.priv)
  ·intro y u hy
   revert hm hl hn hs;intros m h' y u;simp only [dj]at hy;split at hy
   ·rename y=_=>q;subst q;cases hy;exact⟨v,by simp,rfl⟩
   ·rename Not _=>q;refine ac (hl _ _ hy) λz hz ez=>?_;exact⟨z,by simp[q,hz],ez⟩
 ·rename _=_=>q
  refine mv e ?_;clear e;rintro c hc u hu e;refine ac (S.rep.om _ _ hu) λz hz U=>?_;refine wpAny_storeName_cell N.kind (N.kc _ q) (S.cel _ _ hc) hz (λh' Ku hs=>h _ _ _ e ⟨?_,?_,?_,S.priv,S.cel,S.same⟩)
  ·exact S.rep.upd hu rfl (λb o nb U eb=>(hs.2 b nb).trans eb) ⟨_,Ku,rfl⟩
  ·refine ac S.ns λm hm hl=>?_
   exact⟨m,hm.sameBut hs (λq=>S.free (q▸dw hu)),hl⟩
  ·intro q;exact S.free ((iZ (o':=.cel (a_ (er v))) hu rfl _).mp q)
 ·exact e.elim
end
theorem wt (e:cN.lookup C=a_ ms)(P:DF):pb (KF P) C ms=e_:=by
 have h:=l_.mp (wo P) (C,ms) (dP e);dsimp only at h;exact h
structure vB (K:GC)(C:d_)(ms:b_ (Str×Addr)):Prop where
 ga:EZ K (.ref C) "__getattribute__"=a_ (a_ (.builtin "object.__getattribute__"))
 gt:EZ K (.ref C) "__getattr__"=a_ h_
 sa:EZ K (.ref C) "__setattr__"=a_ (a_ (.builtin "object.__setattr__"))
 po:plainOver K C=e_
 hd:GZ K C=e_
 mks:makesIn K C=e_
 mth:∀m∈ms,EZ K (.ref C) m.1=a_ (a_ (.ref m.2))/\isFn K (.ref m.2)=e_/\fnIn K m.2=e_
 an:∀a∈AN,(ms.lookup a).isSome=e_\/EZ K (.ref C) a=a_ h_
 tg:Ia K (.ref C) "__getattribute__"=a_ (a_ (.builtin "type.__getattribute__"))
 rd:readsIn K C (.type "type")=e_
theorem jr (e:cN.lookup C=a_ ms)(P:DF):vB (KF P) C ms:=by
 revert e;intros C ms P;have:=wt e P;unfold pb at this;simp only [u_,C9,l_,FD,FA]at this;refine xA this ?_;clear this;rintro⟨⟨⟨⟨⟨⟨⟨⟨a,b⟩,c⟩,d⟩,e⟩,f⟩,g⟩,h⟩,i⟩ j;exact⟨a,b,c,d,e,f,λm hm=>⟨(g m hm).1.1.1,(g m hm).1.1.2,(g m hm).1.2⟩,h,i,j⟩
theorem pf {a:Str}(e:bS C a=e_)(P:DF):∃ms,cN.lookup C=a_ ms/\vB (KF P) C ms/\EZ (KF P) (.ref C) a=a_ h_:=by
 unfold bS at e;split at e
 ·rename EA C cN=_=>q
  rw[u_]at e;have F:=jr q P;refine⟨ms,q,F,?_⟩;rcases F.an a (by have:=e.1;exact Fd.mp this)with z|z
  ·have h2:=e.2
   rw[HR]at h2;rw[h2]at z;exact(ft z).elim
  ·exact z
 ·exact(ft e).elim
theorem EM.find {es:b_ Gx}(m:EM es fl)(a:Str):(∀w,fl.lookup a=a_ w->∃v,getL a es=a_ (a_ v)/\er v=w)/\(fl.lookup a=h_->getL a es=a_ h_):=by
 induction m with
 |nil=>exact⟨λw e=>(by exact(ns e).elim),λU=>rfl⟩
 | @cons x t hs v es fl m ih=>
  intros a x t hs v es fl;by_cases q:a=x
  ·subst q
   refine⟨λw e=>?_,λe=>?_⟩
   ·rw[Ix]at e;cases e
    refine⟨v,?_,rfl⟩;unfold getL;rw[List.find?_cons_of_pos (by simp[IH])]
   ·exact(sn (Ix.symm.trans e)).elim
  ·have q1:(a==x)=g':=r'.mpr q
   have q2:(En x t).isStr a=g':=by simp only [IH];exact r'.mpr (Ex q)
   have e1:EA a ((x,er v)::fl)=fl.lookup a:=by rw[v_,q1]
   have e2:getL a (⟨hs,.str x t,v⟩::es)=getL a es:=by
    unfold getL;rw[List.find?_cons_of_neg (by rw[q2];decide)];have:(DictEntry.refKey ⟨hs,.str x t,v⟩)=g':=rfl;exact Ha▸rfl
   rw[e1,e2];exact ih
theorem EM.put {es:b_ Gx}(m:EM es fl)(a:Str)(hs:Int)(t:Tok)(v:c_):EM (putL a hs (.str a t) v es) (aL a (er v) fl):=by
 induction m with
 |nil=>exact .cons .nil
 | @cons x t' QE u es fl m ih=>
  by_cases q:a=x
  ·subst q
   have:(En a t').isStr a=e_:=by simp[IH]
   simp only [putL,this,Gn,aL,C'];exact .cons m
  ·have q1:(a==x)=g':=r'.mpr q
   have q2:(En x t').isStr a=g':=by simp only [IH];exact r'.mpr (Ex q)
   simp only [putL,q2,aL,q1,Dt,Fj];exact .cons ih
theorem EM.length {es:b_ Gx}(m:EM es fl):es.length=fl.length:=by
 induction m with
 |nil=>rfl
 |cons _ ih=>exact congrArg _ ih
theorem EM.noRef {es:b_ Gx}(m:EM es fl):es.any (·.refKey)=g':=by
 induction m with
 |nil=>rfl
 |cons _ ih=>exact(Ha.trans ih)
theorem rP (a:Str)(hs:Int)(k v:c_):∀es:b_ Gx,(putL a hs k v es).length<=es.length+1
 | []=>DW _
 |e::r=>by
  unfold putL;split
  ·simp
  ·have:=rP a hs k v r;simp only [Df];walk_at "a"
noncomputable def lg:b_ c_->Dm
 | []=>g'
 |v::r=>if(fP v).isSome=e_ then lg r else v== .type "Exception"&&r==[.type "BaseException",.type "object"]
theorem wu (h:(fP v).isSome=e_):∃c,v=.ref c:=by
 cases v<;>first |exact(ft h).elim|exact⟨_,rfl⟩
theorem rQ (self:c_):∀ {l:b_ c_},lg l=e_->refuseLoop self "__setattr__" l=F9 ()
 | [],e=>(ft e).elim
 |v::r,e=>by
  unfold lg at e;by_cases h:(fP v).isSome=e_
  ·rw[z_ h]at e
   refine xE (wu h) ?_;rintro c rfl;rw[refuseLoop_ref];exact rQ self e
  ·rw[p_ h,u_,C9,C9]at e
   rw[e.1,e.2]
   kernel_rfl
noncomputable def rR (K:GC)(C:d_):Dm:=
 EZ K (.ref C) "__getattribute__"==a_ (a_ (.builtin "BaseException.__getattribute__"))&&
 EZ K (.ref C) "__getattr__"==a_ h_&&
 EZ K (.ref C) "__setattr__"==a_ (a_ (.builtin "object.__setattr__"))&&
 GZ K C&&(clsIn K C).any (λcd=>lg cd.mro)&&mroIn K C (.type "BaseException")==a_ e_&&mroIn K C (.type "object")==a_ e_&&mroIn K C (.type "Exception")==a_ e_&&
 EN.all (λa=>EZ K (.ref C) a==a_ h_)
theorem wv (P:DF):(cP.all λp=>rR (KF P) p.1)=e_:=by kernel_rfl
structure qZ (K:GC)(C:d_):Prop where
 ga:EZ K (.ref C) "__getattribute__"=a_ (a_ (.builtin "BaseException.__getattribute__"))
 gt:EZ K (.ref C) "__getattr__"=a_ h_
 sa:EZ K (.ref C) "__setattr__"=a_ (a_ (.builtin "object.__setattr__"))
 hd:GZ K C=e_
 on:(clsIn K C).any (λcd=>lg cd.mro)=e_
 be:mroIn K C (.type "BaseException")=a_ e_
 ob:mroIn K C (.type "object")=a_ e_
 ex:mroIn K C (.type "Exception")=a_ e_
 an:∀a∈EN,EZ K (.ref C) a=a_ h_
theorem rS {i:d_}(e:cP.lookup C=a_ i)(P:DF):qZ (KF P) C:=by
 revert e;intros C i P;have:=l_.mp (wv P) (C,i) (dP e);unfold rR at this;simp only [u_,C9,l_]at this;refine xA this ?_;clear this;rintro⟨⟨⟨⟨⟨⟨⟨a,b⟩,c⟩,d⟩,e⟩,f⟩,g⟩,h⟩ i;exact⟨a,b,c,d,e,f,g,h,i⟩
theorem rT {a:Str}(e:gO C a=e_)(P:DF):qZ (KF P) C/\EZ (KF P) (.ref C) a=a_ h_:=by
 unfold gO at e;rw[u_]at e;refine xE (Ds.mp e.1) λi hi=>?_;have F:=rS hi P;exact⟨F,F.an a (Fd.mp e.2)⟩
theorem ww (self:c_):bindSpecial (.builtin "BaseException.__getattribute__") self=F9 (.builtin "BaseException.__getattribute__",[self]):=by kernel_rfl
section
variable{B:aS}{A:DJ}{E:c_->i'->Prop}
theorem aN.inst (R:aN prog w Zb6 Z B s.heap){x:d_}(e:Z x=a_ (.inst C d fl)):∃es n,InstAt s.heap x (IU C d) C (a_ (Hx es n))/\s.heap.get? d=a_ (Hx es n)/\EM es fl:=by
 refine oI (R.om _ _ e) λa es n b m=>?_;exact⟨es,n,⟨a,rfl,rfl,b⟩,b,m⟩
theorem St.tok (S:St prog w Zb6 Zb9 env fm Z B s)(t:Nat):St prog w Zb6 Zb9 env fm Z B {s with toks:=t}:=⟨S.rep,S.ns,S.free,S.priv,S.cel,S.same⟩
theorem rU (h:ej (er v)=e_):handedIn v=e_:=by cases v<;>first |rfl|exact(ft h).elim
theorem aN.exc (R:aN prog w Zb6 Z B s.heap){x:d_}{d:m_ d_}(e:Z x=a_ (.exc C d fr fl)):
 ∃ox od,InstAt s.heap x ox C od/\ox.dict=d/\(∀cd:ClassData,cd.hasDict=e_->∀a,(∀w,fl.lookup a=a_ w->∃v,W.ownOf cd od a=a_ (a_ v)/\er v=w)):=by
 revert R;intros C fr Z fl Zb6 s prog w B x d;refine bP (R.om _ _ e) ?_;rintro⟨vs,hx,hz,hf⟩ h1 h2;cases d with
 |none=>
  refine⟨_,h_,⟨hx,rfl,rfl,trivial⟩,rfl,λcd hh a w hw=>?_⟩;rw[h1 rfl]at hw;exact(ns hw).elim
 |some d=>
  refine aY (h2 d rfl) λes n hd m=>?_;refine⟨_,a_ (Hx es n),⟨hx,rfl,rfl,hd⟩,rfl,λcd hh a w hw=>?_⟩;refine ac ((m.find a).1 _ hw) λu hu eu=>?_;refine⟨u,?_,eu⟩;unfold W.ownOf;rw[hh,z_ rfl];exact hu
theorem wx {x:d_}{d:m_ d_}{a:Str}{Q:c_->i'->Prop}(D:aQ w Zb6 mg mb)(R:aN prog w Zb6 Z B s.heap)(q:Z x=a_ (.exc C d fr fl))(ok:gO C a=e_)(e:(fl.lookup a).filter ej=a_ v)
 (h:∀u,er u=v->Q u {s with toks:=s.toks+1}):wpAny (A_ prog w) A (IV (.ref x) a Lj) Q E s:=by
 intros C fr Lj Z v fl Zb6 s mg mb prog w B A E x d a Q;refine xA (HU.mp e) λe hv=>?_;refine xA (rT ok w.params) λF hn=>?_;refine bW (R.exc q) λox od I U hl=>?_;intros ox od;have X:=R.in D;have Nu:=F.hd;unfold GZ at Nu;refine ac (Jk Nu) λcd LH hh=>?_;intros cd;refine ac (hl cd hh a v e) λu hu eu=>?_;intros u;have L0:=I.type (M:=A_ prog w);have L1:=GF (M:=A_ prog w) X F.ga;have L2:=GF (M:=A_ prog w) X F.gt;have L3:Hm (A_ prog w) s.heap (I_ (.ref x) (.type "BaseException")) e_:=I.type.andThen (JM X F.be);have L4:Hm (A_ prog w) s.heap (Builtin.ObjectAttr.find (.ref x) (.ref C) a) (.value u):=looks_find X I (by
  unfold findObj;rw[LH,hn];simp -iota only [Ib];rw[hu];rfl)
 obtain⟨Ww,g,dr,t,os⟩:=s;intros Ww g dr t os;unfold IV getAttrBy;refine wpAny_bind (wpAny_mkText (Es (wpAny_bind (L0.at (wpAny_bind (L1.at ?_))))));show wpAny _ _ (getAttrByItsOwn _ _ _ _ _ _) _ _ _;unfold getAttrByItsOwn;refine wpAny_bind (show wpAny _ _ (Ii (.ref C) "__getattr__") _ _ _ from L2.at ?_);refine wpAny_bind (wpAny_attempt (Es ?_));have c0:(Lj&&onTheHeap (H6 "BaseException.__getattribute__"))=g':=by cases Lj<;>rfl
 unfold callGetattribute;rw[c0,p_ (by decide)];unfold boundAndCalled;rw[ww];refine wpAny_bind (wpAny_pure (FB ?_));have hk:builtinKind "BaseException.__getattribute__"=a_ .slot:=by decide+kernel
 have hsp:splitId "BaseException.__getattribute__"=a_ ("BaseException","__getattribute__"):=by decide+kernel
 refine FQ (by decide+kernel) PySem.F.entry_bexc_ga (@check_slot (A_ prog w) _ _ _ "BaseException.__getattribute__" "BaseException" "__getattribute__" (.ref x) [.str a t] [] _ hk hsp L3 (PySem.F.args_bexc_ga (.ref x) (.str a t)) ?_);refine wpAny_bind (wpAny_pure (wpAny_bind (wpAny_pure (wpAny_bind (L0.at (wpAny_bind (L4.at ?_)))))));refine wpAny_pure ?_;show wpAny _ _ (handedOut u) _ _ _;rw[handedOut_of (rU (by rw[eu];exact hv))];exact wpAny_pure (h u eu)
theorem pg {x:d_}{a:Str}{Q:c_->i'->Prop}(D:aQ w Zb6 mg mb)(R:aN prog w Zb6 Z B s.heap)(e:fM Z (.ref x) a=a_ v)
 (h:∀u,er u=v->Q u {s with toks:=s.toks+1}):wpAny (A_ prog w) A (IV (.ref x) a Lj) Q E s:=by
 intros Lj Z v Zb6 s mg mb prog w B A E x a Q;unfold fM at e;dsimp only at e;cases q:Z x with
 |none=>rw[q]at e;exact(ns e).elim
 |some o=>
 intros o;rw[q]at e;cases o with
 |inst C dd fl=>
  dsimp only at e;split at e
  ·rename _=e_=>ok
   refine xA (HU.mp e) λe hv=>?_;refine dm (pf ok w.params) λms hms F hn=>?_;refine bW (R.inst q) λes n I hd m=>?_;refine ac ((m.find a).1 _ e) λu hu eu=>?_;refine get_value (R.in D) I F.ga ?_ (rU (by rw[eu];exact hv)) (h u eu);unfold findObj;have Nu:=F.hd;unfold GZ at Nu;refine ac (Jk Nu) λcd LH hh=>?_;rw[LH,hn];simp -iota only [Ib];unfold W.ownOf;rw[hh,z_ rfl];show(getL a es).bind _=_;rw[hu];rfl
  ·exact(ns e).elim
 |exc C dd fr fl=>
  dsimp only at e;split at e
  ·rename _=e_=>ok;exact wx D R q ok e h
  ·exact(ns e).elim
 |_=>exact(ns e).elim
theorem wy {x:d_}{a:Str}{pl:Sem Dm}{Q:Value×List c_->i'->Prop}(D:aQ w Zb6 mg mb)(R:aN prog w Zb6 Z B s.heap)(e:Z x=a_ (.inst C d fl))
 (hc:cN.lookup C=a_ ms) (hm:ms.lookup a=a_ f) (hs:fl.lookup a=h_) (h:Q (.ref f,[.ref x]) s):wpAny (A_ prog w) A (G0 (.ref x) a pl) Q E s:=by
 have F:=jr hc w.params;refine bW (R.inst e) λes n I hd m=>?_;have hf:=F.mth _ (dP hm);refine method_fn (R.in D) I F.ga F.gt hf.1 (C9.mp hf.2.1) ?_ h;unfold shadowIn;dsimp only;rw[lookIn_dict,(m.find a).2 hs];rfl
theorem wz {x:d_}{a:Str}{pl:Sem Dm}{Q:Value×List c_->i'->Prop}(D:aQ w Zb6 mg mb)(R:aN prog w Zb6 Z B s.heap)(q:Z x=a_ (.inst C d fl))(e:fM Z (.ref x) a=a_ v)
 (h:∀u,er u=v->Q (u,[]) {s with toks:=s.toks+1}):wpAny (A_ prog w) A (G0 (.ref x) a pl) Q E s:=by
 have e':=e;unfold fM at e;dsimp only at e;rw[q]at e;dsimp only at e;split at e
 ·rename _=e_=>ok
  refine dm (pf ok w.params) λms hms F hn=>?_;refine bW (R.inst q) λes n I hd m=>?_;exact method_usual (R.in D) I F.ga F.gt hn rfl (pg D R e' h)
 ·exact(ns e).elim
theorem rV {a:Str}{es:b_ Gx}{Q:Fin->i'->Prop}(hd:s.heap.get? d=a_ (Hx es n))(m:EM es fl)(hl:fl.length<40)
 (h:∀KQ n',(s.heap.update d (Gy a (DZ w.params a) (.str a (s.toks+1)) v)).get? d=a_ (Hx KQ n')->EM KQ (aL a (er v) fl)->wpAny (A_ prog w) A (ret .none) Q E {s with heap:=s.heap.update d (Gy a (DZ w.params a) (.str a (s.toks+1)) v),toks:=s.toks+2}):
 wpAny (A_ prog w) A (nsSet d a v>>=λU=>lookBehind d (a_ (.str a 0))>>=λU=>ret .none) Q E {s with toks:=s.toks+1}:=by
 intros d n v fl s prog w A E a es Q;refine wpAny_bind ?_;unfold nsSet;refine wpAny_bind (wpAny_bind (wpAny_askSetting (wpAny_pure (wpAny_bind (wpAny_mkText (wpAny_bind (Hz hd ?_)))))));dsimp only;have c:aRefKeyMayBeTheName a es.toArray=g':=by
  rw[aRefKeyMayBeTheName_at, <-Jz, <-Jz];show(!es.any (·.key.isStr a)&&es.any (·.refKey))=g';rw[m.noRef,Bool.and_false]
 rw[c];simp -iota only [Dt,Fj];refine wpAny_updatePart hd ?_;have hz:(putL a (DZ w.params a) (.str a (s.toks+1)) v es).length<=1000:=by
  have h1:=rP a (DZ w.params a) (.str a (s.toks+1)) v es;have h2:=m.length;walk_at "o"
 have e2:Gy a (DZ w.params a) (.str a (s.toks+1)) v (Hx es n)=Hx (putL a (DZ w.params a) (.str a (s.toks+1)) v es) (putN a es n):=putName_dict _ _ _ _ _ _;have D':(s.heap.update d (Gy a (DZ w.params a) (.str a (s.toks+1)) v)).get? d=a_ (Hx (putL a (DZ w.params a) (.str a (s.toks+1)) v es) (putN a es n)):=by
  have:=DN (Gy a (DZ w.params a) (.str a (s.toks+1)) v) hd (by exact congrArg _ e2);rw[this,e2]
 refine wpAny_bind (wpAny_lookBehind (o:=Hx (putL a (DZ w.params a) (.str a (s.toks+1)) v es) (putN a es n)) D' (pastItsLine_dict (by rw[Jl,DB];walk_at "o")) ?_);exact h _ _ D' (m.put _ _ _ _)
theorem wA {x:d_}{a:Str}{Q:IG->i'->Prop}(D:aQ w Zb6 mg mb)(S:St prog w Zb6 Zb9 env fm Z B s)(e:jR Z (.ref x) a (er v)=a_ Z')
 (h:∀s',St prog w Zb6 Zb9 env fm Z' B s'->Q () s'):wpAny (A_ prog w) A (setAttr (.ref x) a v) Q E s:=by
 intros Z Z' v Zb6 Zb9 s fm mg mb env prog w B A E x a Q;unfold jR at e;dsimp only at e;cases q:Z x with
 |none=>rw[q]at e;exact(ns e).elim
 |some o=>
 intros o;rw[q]at e;cases o with
 |inst C d fl=>
  intros C d fl;dsimp only at e;split at e
  ·rename _=e_=>ok
   cases e;rw[u_,Ei]at ok;refine dm (pf ok.1 w.params) λms hms F hn=>?_;intros ms;refine bW (S.rep.inst q) λes n I hd m=>?_;intros es n;have X:=S.rep.in D;refine set_plain X I F.sa ?_;refine osa_open (s:={s with toks:=s.toks+1}) X I F.po (r:=h_) (by unfold takerIn;rw[hn];rfl) λb=>?_;intros b;have Nu:=F.hd;unfold GZ at Nu;refine ac (Jk Nu) λcd LH hh=>?_;intros cd;have hx:=I.at_;refine wpAny_bind (wpAny_pure (wpAny_bind (wpAny_bind (Hz hx (wpAny_bind (Looks.here (s:={s with toks:=s.toks+1}) (looks_clsIn (h:=s.heap) X LH) ?_))))));rw[hh];refine wpAny_pure (a:=a_ d) (wpAny_bind (wpAny_pure ?_));refine rV hd m ok.2 λKQ n' D' m'=>?_;refine wpAny_pure (h _ ?_);have sb:=D7 s.heap d (Gy a (DZ w.params a) (.str a (s.toks+1)) v);have dx:d≠x:=λz=>by
    have:=S.rep.sep _ _ _ q rfl;rw[z,q]at this;exact(sn this).elim
   refine⟨S.rep.upd q rfl (λb x nb nh eb=>(sb.2 b λz=>nh (by rw[z];rfl)).trans eb) ⟨(sb.2 x (Ex dx)).trans hx,_,_,D',m'⟩,?_,?_,S.priv,S.cel,S.same⟩
   ·refine ac S.ns λmm hm hl=>?_
    exact⟨mm,hm.sameBut sb (λz=>S.free (z▸gT q rfl)),hl⟩
   ·intro z;exact S.free ((iZ (o':=.inst C d (aL a (er v) fl)) q rfl _).mp z)
  ·exact(ns e).elim
 |_=>exact(ns e).elim
theorem wB {x:d_}{ox:Obj}{od:m_ Obj}{name:Str}{tk:Tok}{r:m_ c_}{R:Ja->i'->Prop}(X:(KF w.params).In s.heap)(I:InstAt s.heap x ox C od)(F:qZ (KF w.params) C)(ht:takerIn (KF w.params) C name=a_ r)
 (h:∀b,wpAny (A_ prog w) A.in1 (match r with |some a=>Builtin.ObjectAttr.setByDescriptor a (.ref x) v|none=>Builtin.ObjectAttr.storeInOwnDict (.ref x) (.ref C) (.str name tk) name v b)
  (λKw s'=>match Kw with |.done f=>R (.ok f) s'|.again c'=>c'.quiet=e_/\Hr (A_ prog w) A c' R s') (λe s'=>R (.error e) s') s):
 Hr (A_ prog w) A (.call (.builtin "object.__setattr__") ⟨[.ref x,.str name tk,v],[]⟩) R s:=by
 intros C v s prog w A x ox od name tk r R;have SF:=PySem.F.store_object;refine ac (Jk F.on) λcd hc ho=>?_;intros cd;have sub:Hm (A_ prog w) s.heap (I_ (.ref x) (.type "object")) e_:=I.type.andThen (JM X F.ob);refine FQ SF.slot.plain SF.entry (@check_slot (A_ prog w) _ _ s "object.__setattr__" "object" "__setattr__" (.ref x) [.str name tk,v] [] _ SF.kind SF.split sub (SF.args (.ref x) (.str name tk) v) ?_);refine ac (t_.mp ht) λSb ha hr=>?_;have hm:Hm (A_ prog w) s.heap (mroOf (.ref C)) cd.mro:=(looks_clsIn X hc).andThen .now;have L3:Hm (A_ prog w) s.heap (Builtin.ObjectAttr.storeTaker? Sb) r:=by
  cases Sb with
  |none=>cases hr;exact .now
  |some a=>
   refine ac (j_.mp hr) ?_;rintro b hb rfl;refine(looks_takesIn X hb).andThen ?_;cases b<;>exact .now
 rw[osa_eq,refuse_eq];refine wpAny_bind (wpAny_bind (I.type.here (wpAny_bind (hm.here ?_))));rw[rQ _ ho];refine wpAny_pure (wpAny_bind (I.type.here (wpAny_bind ((GF X ha).here (wpAny_bind (L3.here ?_))))));exact h _
theorem wC (Z:ak)(a:d_)(o o':O):(Z.set a o).set a o'=Z.set a o':=by
 funext b
 unfold ak.set;split<;>rfl
theorem rW {x:d_}{a:Str}{Q:Fin->i'->Prop}(S:St prog w Zb6 Zb9 env fm Z B s)(e:Z x=a_ (.exc C (a_ d) fr fl))(hl:fl.length<40)
 (h:∀s',St prog w Zb6 Zb9 env fm (Z.set x (.exc C (a_ d) fr (aL a (er v) fl))) B s'->Q (.done (.ret .none)) s'):
 wpAny (A_ prog w) A (nsSet d a v>>=λU=>lookBehind d (a_ (.str a 0))>>=λU=>ret .none) Q E {s with toks:=s.toks+1}:=by
 intros C d fr Z v fl Zb6 Zb9 s fm env prog w B A E x a Q;refine bP (S.rep.om _ _ e) ?_;rintro⟨vs,hx,hz,hf⟩ h1 h2;refine aY (h2 d rfl) λes n hd m=>?_;refine rV hd m hl λKQ n' D' m'=>?_;refine wpAny_pure (h _ ?_);have sb:=D7 s.heap d (Gy a (DZ w.params a) (.str a (s.toks+1)) v);have dx:d≠x:=λz=>by
  have:=S.rep.sep _ _ _ e rfl;rw[z,e]at this;exact(sn this).elim
 refine⟨S.rep.upd e rfl (λb x nb nh eb=>(sb.2 b λz=>nh (by rw[z];rfl)).trans eb) ⟨⟨vs,(sb.2 x (Ex dx)).trans hx,hz,hf⟩,λq=>(nomatch q),λy hy=>by cases hy;exact⟨_,_,D',m'⟩⟩,?_,?_,S.priv,S.cel,S.same⟩
 ·refine ac S.ns λmm hm hl=>?_
  exact⟨mm,hm.sameBut sb (λz=>S.free (z▸gT e rfl)),hl⟩
 ·intro z;exact S.free ((iZ (o':=.exc C (a_ d) fr (aL a (er v) fl)) e rfl _).mp z)
theorem wD {x:d_}{d:m_ d_}{a:Str}{K:ak->Prop}{Q:IG->i'->Prop}(D:aQ w Zb6 mg mb)(S:St prog w Zb6 Zb9 env fm Z B s)(e:Z x=a_ (.exc C d fr fl))(ok:gO C a=e_)(hl:fl.length<40)
 (hk:rv Z x C d fr (aL a (er v) fl) K)
 (h:∀Z' s',K Z'->St prog w Zb6 Zb9 env fm Z' B s'->Q () s'):wpAny (A_ prog w) A (setAttr (.ref x) a v) Q E s:=by
 intros C fr Z v fl Zb6 Zb9 s fm mg mb env prog w B A E x d a K Q;refine xA (rT ok w.params) λF hn=>?_;refine bP (S.rep.om _ _ e) ?_;rintro⟨vs,hx,hz,hf⟩ h1 h2;intros vs;refine bW (S.rep.exc e) λox od I hod U=>?_;intros ox od;have X:=S.rep.in D;have Nu:=F.hd;unfold GZ at Nu;refine ac (Jk Nu) λcd LH hh=>?_;intros cd;refine set_plain X I F.sa ?_;refine wB (s:={s with toks:=s.toks+1}) X I F (by unfold takerIn;rw[hn];rfl) λb=>?_;intros b;refine wpAny_bind (wpAny_pure (wpAny_bind (wpAny_bind (Hz hx (wpAny_bind (Looks.here (s:={s with toks:=s.toks+1}) (looks_clsIn (h:=s.heap) X LH) ?_))))));rw[hh];cases d with
 |some d=>exact wpAny_pure (a:=a_ d) (wpAny_bind (wpAny_pure (rW S e hl λs' S'=>h _ s' hk S')))
 |none=>
  have hfl:=h1 rfl;subst hfl;have nu:∀ {c},s.heap.objs.size<=c->s.heap.get? c=h_:=λhc=>by
   cases q:s.heap.get? _ with
   |none=>rfl
   |some x=>exact absurd (Dn q) (E8.mpr hc)
  have n1:=S.rep.notSize;have n2:=S.rep.noneSize;have xn:x≠s.heap.objs.size:=Eb (Dn hx);have S1:St prog w Zb6 Zb9 env fm (Z.set x (.exc C (a_ s.heap.objs.size) fr [])) B {s with heap:=(s.heap.push EW).update x (λo=>{o with dict:=a_ s.heap.objs.size})}:=by
   have sb:=D7 (s.heap.push EW) x (λo=>{o with dict:=a_ s.heap.objs.size});have k:∀b y,b≠x->s.heap.get? b=a_ y->((s.heap.push EW).update x (λo=>{o with dict:=a_ s.heap.objs.size})).get? b=a_ y:=λb y nb eb=>(sb.2 b nb).trans (j' _ eb);refine⟨S.rep.hid1 e rfl rfl n1 n2 k ⟨⟨vs,?_,hz,hf⟩,λq=>(nomatch q),λy hy=>?_⟩,?_,?_,S.priv,S.cel,S.same⟩
   ·exact(DN _ (j' _ hx) rfl)
   ·cases hy
    exact⟨[],0,(sb.2 _ (Ex xn)).trans (y_ _ rfl),.nil⟩
   ·refine ac S.ns λmm hm hl=>?_
    exact⟨mm,(hm.push _).sameBut sb (λz=>S.free (z▸dw e)),hl⟩
   ·rintro⟨c,oc,ec,hb⟩
    by_cases q:c=x
    ·subst q
     rw[ad]at ec;cases ec;rcases hb with hb|hb
     ·exact S.free (hb▸dw e)
     ·refine ac S.ns λmm hm hl=>?_
      exact absurd (De hb▸hm.lt) (DH _)
    ·rw[bA _ _ q]at ec;exact S.free ⟨c,oc,ec,hb⟩
  refine wpAny_bind (wpAny_alloc (wpAny_bind (wpAny_update (j' _ hx) (wpAny_pure (a:=a_ s.heap.objs.size) (wpAny_bind (wpAny_pure ?_))))));have nd:isNew Z s.heap.objs.size:=by
   refine⟨?_,S.rep.big D⟩;cases q:Z s.heap.objs.size with
   |none=>rfl
   |some y=>exact absurd (dw q) n1
  have UT:=hk _ nd;refine rW S1 (ad _ _ _) (by decide) λs' S'=>h _ s' UT ?_;rw[wC]at S';exact S'
end
section
variable{B:aS}{A:DJ}{E:c_->i'->Prop}
theorem St.isL (S:St prog w Zb6 Zb9 env fm Z B s)(e:Z a=a_ (.lst xs)):∃vs n,IsL s.heap a vs n/\vs.toList.map er=xs:=S.rep.om _ _ e
theorem St.turn (S:St prog w Zb6 Zb9 env fm Z B s)(t:Nat)(e:Z a=a_ o)(h1:bD o=h_)(h2:bD o'=h_)(hs:Heap.SameBut a s.heap h')(m:OM prog w h' a o'):
 St prog w Zb6 Zb9 env fm (Z.set a o') B {s with heap:=h',toks:=t}:=by
 refine⟨S.rep.upd e (by rw[h1,h2]) (λb x nb U eb=>(hs.2 b nb).trans eb) m,?_,?_,S.priv,S.cel,S.same⟩
 ·refine ac S.ns λmm hm hl=>?_
  exact⟨mm,hm.sameBut hs (λz=>S.free (z▸dw e)),hl⟩
 ·intro z;exact S.free ((iZ e (by rw[h1,h2]) _).mp z)
theorem St.turnL (S:St prog w Zb6 Zb9 env fm Z B s){vs:Gc c_}(f:Gc c_->Gc c_)(t:Nat)(e:Z a=a_ (.lst xs))(hl:IsL s.heap a vs n)(hf:(f vs).toList.map er=ys):
 St prog w Zb6 Zb9 env fm (Z.set a (.lst ys)) B {s with heap:=s.heap.update a (HA f),toks:=t}:=
 S.turn t e rfl rfl (D7 ..) ⟨_,_,hl.update f,hf⟩
theorem St.grow (S:St prog w Zb6 Zb9 env fm Z B s){h':Fu}(t:Nat)(k:∀b o,s.heap.get? b=a_ o->h'.get? b=a_ o):St prog w Zb6 Zb9 env fm Z B {s with heap:=h',toks:=t}:=by
 refine⟨S.rep.ext k,?_,S.free,S.priv,S.cel,S.same⟩;refine ac S.ns λmm hm hl=>?_;exact⟨mm,hm.keeps k,hl⟩
theorem St.new (S:St prog w Zb6 Zb9 env fm Z B s){o:O}{ho:Obj}(t:Nat)(hd:bD o=h_)(m:OM prog w (s.heap.push ho) s.heap.objs.size o):St prog w Zb6 Zb9 env fm (Z.set s.heap.objs.size o) B {s with heap:=s.heap.push ho,toks:=t}:=by
 refine⟨S.rep.new hd m,?_,?_,S.priv,S.cel,S.same⟩
 ·refine ac S.ns λmm hm hl=>?_
  exact⟨mm,hm.push _,hl⟩
 ·rintro⟨a,x,e,hb⟩
  refine ac S.ns λmm hm U=>?_;by_cases q:a=s.heap.objs.size
  ·subst q
   rw[ad]at e;cases e;rcases hb with hb|hb
   ·exact absurd hm.lt (hb▸DH _)
   ·rw[hd]at hb;cases hb
  ·rw[bA _ _ q]at e;exact S.free ⟨a,x,e,hb⟩
theorem wE {Q:c_->i'->Prop}(S:St prog w Zb6 Zb9 env fm Z B s)(e:Z a=a_ (.lst xs))(hz:xs.length<=100000)
 (h:∀s',St prog w Zb6 Zb9 env fm (Z.set a (.lst (xs++[er v]))) B s'->Q .none s'):wpAny (A_ prog w) A (call (.builtin "list.append") [.ref a,v]) Q E s:=by
 refine aY (S.isL e) λvs n hl m=>?_;have sz:vs.size<=HD:=by
  rw[DB];have:vs.size=xs.length:=by rw[<-m];exact(b' _).symm
  walk_at "a"
 refine append_at (hsz:=sz) hl λh' hs ho=>h _ ?_;exact S.turn s.toks e rfl rfl hs ⟨_,_,ho,by simp[m]⟩
theorem wF {Q:c_->i'->Prop}(S:St prog w Zb6 Zb9 env fm Z B s)(e:Z a=a_ (.lst (ys++[v])))(hz:ys.length<=100000)
 (h:∀u s',er u=v->St prog w Zb6 Zb9 env fm (Z.set a (.lst ys)) B s'->Q u s'):wpAny (A_ prog w) A (call (.builtin "list.pop") [.ref a]) Q E s:=by
 refine aY (S.isL e) λvs n hl m=>?_;obtain⟨l⟩:=vs;dsimp only at m;refine bW (List.map_eq_append_iff.mp m) ?_;rintro l1 l2 rfl m1 m2;refine ac (HV.mp m2) ?_;rintro u rfl hu;have sz:(l1++[u]).toArray.size<=HD:=by
  rw[DB];have:l1.length=ys.length:=by rw[<-m1];exact(b' _).symm
  simp;walk_at "a"
 refine call_meets F.slot_list_pop ⟨_,hl,rfl⟩ F.entry_list_pop (F.args_list_pop_1 _) (MeetsSeq.list_pop_last a (l1++[u]).toArray n u (by simp) sz) ⟨hl,?_⟩;refine h _ _ hu ?_;exact S.turnL _ s.toks e hl (by simp[List.eraseIdx_append_of_length_le,m1])
theorem wG {t:Tok}{Q:c_->i'->Prop}(S:St prog w Zb6 Zb9 env fm Z B s)(e:Z a=a_ (.lst (v::ys)))(hz:ys.length<=100000)
 (h:∀u s',er u=v->St prog w Zb6 Zb9 env fm (Z.set a (.lst ys)) B s'->Q u s'):wpAny (A_ prog w) A (call (.builtin "list.pop") [.ref a,.int 0 t]) Q E s:=by
 refine aY (S.isL e) λvs n hl m=>?_;obtain⟨l⟩:=vs;dsimp only at m;refine bW (He.mp m) ?_;rintro u l2 rfl hu m2;have len:l2.length=ys.length:=by rw[<-m2];exact(b' _).symm
 have sz:(u::l2).toArray.size<=HD:=by rw[DB];simp;walk_at "a"
 refine call_meets F.slot_list_pop ⟨_,hl,rfl⟩ F.entry_list_pop (F.args_list_pop_2 _ _) (MeetsSeq.list_pop_at a (u::l2).toArray n 0 t 0 u (by decide) (by simp[seqIndex?]) (by exact rfl) sz) ⟨hl,?_⟩;refine h _ _ hu ?_;exact S.turnL _ s.toks e hl (by simp[m2,Array.eraseIdxIfInBounds])
theorem wH {b:d_}{Q:c_->i'->Prop}(S:St prog w Zb6 Zb9 env fm Z B s)(e:Z a=a_ (.lst xs))(e2:Z b=a_ (.lst ys))(hz:xs.length+ys.length<=100000)
 (h:∀s',St prog w Zb6 Zb9 env fm (Z.set a (.lst (xs++ys))) B s'->Q .none s'):wpAny (A_ prog w) A (call (.builtin "list.extend") [.ref a,.ref b]) Q E s:=by
 refine aY (S.isL e) λvs n hl m=>?_;refine aY (S.isL e2) λus k JX m2=>?_;have z1:vs.size=xs.length:=by rw[<-m];exact(b' _).symm
 have z2:us.size=ys.length:=by rw[<-m2];exact(b' _).symm
 have XQ:¬(!vs.isEmpty&&Gg (vs.size+us.size))=e_:=by
  have:Gg (vs.size+us.size)=g':=by
   unfold Gg;simp[DB];walk_at "o"
  rw[this,Bool.and_false];decide
 refine call_meets F.slot_list_extend ⟨_,hl,rfl⟩ F.entry_list_extend (F.args_list_extend_2 _ _) (AutoSeq1.list_extend_list_list_0 a vs n b us k XQ (by rw[DB];walk_at "bs") (by rw[DB];walk_at "o")) ⟨hl,JX,?_⟩;exact h _ (S.turnL _ s.toks e hl (by simp[m,m2]))
theorem wI {b:d_}{Q:c_->i'->Prop}(D:aQ w Zb6 mg mb)(S:St prog w Zb6 Zb9 env fm Z B s)(e:Z a=a_ (.lst xs))(e2:Z b=a_ (.lst ys))(hz:xs.length+ys.length<=100000)
 (h:∀l s',isNew Z l->St prog w Zb6 Zb9 env fm (Z.set l (.lst (xs++ys))) B s'->Q (.ref l) s'):wpAny (A_ prog w) A (binaryOp .Add (.ref a) (.ref b)) Q E s:=by
 refine aY (S.isL e) λvs n hl m=>?_;refine aY (S.isL e2) λus k JX m2=>?_;have z1:vs.size=xs.length:=by rw[<-m];exact(b' _).symm
 have z2:us.size=ys.length:=by rw[<-m2];exact(b' _).symm
 refine P.add_list hl JX (h _ _ (S.rep.isNew D) (S.new s.toks rfl ⟨_,_,y_ _ rfl,by simp[m,m2]⟩)) (by rw[DB];walk_at "o")
theorem CV {Q:c_->i'->Prop}(D:aQ w Zb6 mg mb)(S:St prog w Zb6 Zb9 env fm Z B s)(hz:vs.length<=100000)
 (h:∀l s',isNew Z l->St prog w Zb6 Zb9 env fm (Z.set l (.lst (vs.map er))) B s'->Q (.ref l) s'):wpAny (A_ prog w) A (newList vs) Q E s:=by
 refine FM (h _ _ (S.rep.isNew D) (S.new s.toks rfl ⟨_,_,y_ _ rfl,by simp⟩)) (by show vs.toArray.size<=HD;rw[DB];simp;walk_at "o")
theorem wJ {k:Int}{t:Tok}{Q:c_->i'->Prop}(S:St prog w Zb6 Zb9 env fm Z B s)(e:Z a=a_ (.lst xs))(h0:0<=k)(h1:k<2^62)(hv:xs[k.toNat]? =a_ v)
 (h:∀u,er u=v->Q u s):wpAny (A_ prog w) A (IW (.ref a) (.int k t)) Q E s:=by
 refine aY (S.isL e) λvs n hl m=>?_;have:∃u,vs[k.toNat]? =a_ u/\er u=v:=by
  rw[<-m,k_]at hv;refine ac (j_.mp hv) λu hu e=>?_;exact⟨u,by exact(FK).symm.trans hu,e⟩
 refine ac this λu hu eu=>?_;clear this;exact wpAny_getItem_list hl.isList h0 (by walk_at "a") hu (h u eu)
theorem wK {k:Int}{t:Tok}{Q:c_->i'->Prop}(S:St prog w Zb6 Zb9 env fm Z B s)(e:Z a=a_ (.tup xs))(h0:0<=k)(h1:k<2^62)(hv:xs[k.toNat]? =a_ v)
 (h:∀u,er u=v->Q u s):wpAny (A_ prog w) A (IW (.ref a) (.int k t)) Q E s:=by
 refine aY (S.rep.om _ _ e) λvs n hl m=>?_;have:∃u,vs[k.toNat]? =a_ u/\er u=v:=by
  rw[<-m,k_]at hv;refine ac (j_.mp hv) λu hu e=>?_;exact⟨u,by exact(FK).symm.trans hu,e⟩
 refine ac this λu hu eu=>?_;clear this;have lt:k.toNat<vs.size:=(E9.mp hu).1;refine getItem_tuple (j:=k.toNat) ⟨_,hl,rfl,n,rfl⟩ (by walk_at "B") (by walk_at "a") ?_ hu (h u eu);unfold seqIndex?;simp only [h0,Gn]
 first |rfl|(simp;walk_at "o")
end
noncomputable def ph (K:GC)(C:d_):Dm:=
 plainGet K C "__class__"&&EZ K (.ref C) "__class__"==a_ (a_ (.builtin "object.__class__"))&&mroIn K C (.type "object")==a_ e_
theorem rX (P:DF):(cN.all λp=>ph (KF P) p.1)=e_:=by kernel_rfl
theorem rY (P:DF):(Ia (KF P) (.builtin "object.__class__") "__get__"==a_ (a_ (.builtin "getset_descriptor.__get__"))&&takesIn (KF P) (.builtin "object.__class__")==a_ e_)=e_:=by kernel_rfl
theorem wL (P:DF):(cN.all λp=>cN.all λq=>JA (KF P) (.ref p.1) (.ref q.1)==a_ (my p.1 q.1))=e_:=by kernel_rfl
theorem wM (P:DF):(["int","str","bool","NoneType","list"].all λn=>cN.all λq=>JA (KF P) (.type n) (.ref q.1)==a_ g')=e_:=by kernel_rfl
theorem pi {α β:Type}[BEq α][LawfulBEq α]{x:α}{l:b_ (α×β)}(e:(l.lookup x).isSome=e_):∃v,l.lookup x=a_ v/\(x,v)∈l:=by
 refine xE (Ds.mp e) λv hv=>?_;exact⟨v,hv,dP hv⟩
theorem gV {vs:b_ c_}(h:(vs.map er).all bO=e_):∃ns:b_ Int,Hs vs ns/\vs.map er=ns.map λi=>.int i 0:=by
 induction vs with
 |nil=>exact⟨[],.nil,rfl⟩
 |cons v r ih=>
  intros v r;rw[n_,D5,u_]at h;refine ac (ih h.2) λns a b=>?_;have h1:=h.1;cases v<;>first |exact(ft h1).elim|skip
  rename Hw=>t
  exact⟨i::ns,.cons i t a,by rw[n_,b];rfl⟩
theorem rZ:∀ {ns ms:b_ Int},(ns.map λi=>Dl i 0)=(ms.map λi=>Dl i 0)->ns=ms
 | [],[],_=>rfl
 |_::_,_::_,h=>by
  simp only [n_,List.cons.injEq,Value.int.injEq,and_true]at h;rw[h.1,rZ h.2]
theorem mN (h:(vs.map er).all gP=e_):∃bs:b_ Dm,vs=bs.map .bool:=by
 induction vs with
 |nil=>exact⟨[],rfl⟩
 |cons v r ih=>
  rw[n_,D5,u_]at h;refine xE (ih h.2) ?_;rintro bs rfl;have h1:=h.1;cases v<;>first |exact(ft h1).elim|skip
  skip
  exact⟨b::bs,rfl⟩
section
variable{B:aS}{A:DJ}{E:c_->i'->Prop}
theorem wN {Q:c_->i'->Prop}(S:St prog w Zb6 Zb9 env fm Z B s)(e:Z a=a_ (.lst xs))(hz:xs.length<=100000)
 (h:∀t s',St prog w Zb6 Zb9 env fm Z B s'->Q (.int xs.length t) s'):wpAny (A_ prog w) A (call (.builtin "len") [.ref a]) Q E s:=by
 refine aY (S.isL e) λvs n hl m=>?_;have z1:vs.size=xs.length:=by rw[<-m];exact(b' _).symm
 refine Calls.call_len_list hl.isList (by walk_at "cl") ?_;rw[z1];exact h _ _ (S.tok _)
theorem wO {D:d_}{b:Dm}{Q:c_->i'->Prop}(Dd:aQ w Zb6 mg mb)(S:St prog w Zb6 Zb9 env fm Z B s)(e:iS Z (er v) D=a_ b)
 (h:∀s',St prog w Zb6 Zb9 env fm Z B s'->Q (.bool b) s'):wpAny (A_ prog w) A (call (.builtin "isinstance") [v,.ref D]) Q E s:=by
 intros Z v Zb6 Zb9 s fm mg mb env prog w B A E D b Q;have X:=S.rep.in Dd;unfold iS at e;split at e
 ·rename _=e_=>hD
  refine ac (pi hD) λms U hD=>?_;revert hD;revert U;revert ms;injections ms;intro U hD;have bi:∀n,n∈["int","str","bool","NoneType","list"]->JA (KF w.params) (.type n) (.ref D)=a_ g':=λn hn=>by
   have h1:=l_.mp (wM w.params) n hn;have h2:=l_.mp h1 (D,ms) hD;exact C9.mp h2
  cases v with
  |none=>cases e;exact Ht kitx_none X trivial (bi _ (by simp)) (by simp) λtk=>h _ (S.tok _)
  |int i t=>intros i t;cases e;exact Ht kitx_int X trivial (bi _ (by simp)) (by simp) λtk=>h _ (S.tok _)
  |str x t=>intros x t;cases e;exact Ht kitx_str X trivial (bi _ (by simp)) (by simp) λtk=>h _ (S.tok _)
  |bool x=>intros x;cases e;exact Ht kitx_bool X trivial (bi _ (by simp)) (by simp) λtk=>h _ (S.tok _)
  |ref x=>
   intros x;unfold er at e;dsimp only at e;cases q:Z x with
   |none=>rw[q]at e;exact(ns e).elim
   |some o=>
   intros o;rw[q]at e;cases o with
   |inst C dd fl=>
    intros C dd fl;dsimp only at e;split at e
    ·rename _=e_=>hC
     cases e;refine ac (pi hC) λSR Yz hC=>?_;refine bW (S.rep.inst q) λes n I hd m=>?_;have k1:=l_.mp (rX w.params) (C,SR) hC;unfold ph at k1;simp only [u_,C9]at k1;have k2:=rY w.params;simp only [u_,C9]at k2;have k3:=l_.mp (l_.mp (wL w.params) (C,SR) hC) (D,ms) hD;exact Ht (kitx_own k1.1.1 (jr Yz w.params).hd k1.1.2 k2.1 k2.2 k1.2) X I (C9.mp k3) (by simp) λtk=>h _ (S.tok _)
    ·exact(ns e).elim
   |lst xs=>
    cases e;refine aY (S.isL q) λvs n hl m=>?_;exact Ht kitx_list X ⟨_,hl,rfl⟩ (bi _ (by simp)) (by simp) λtk=>h _ (S.tok _)
   |_=>exact(ns e).elim
  |_=>exact(ns e).elim
 ·exact(ns e).elim
theorem Hs.er {ns:b_ Int}(h:Hs vs ns):vs.map er=ns.map λi=>.int i 0:=by
 induction h with
 |nil=>rfl
 |cons n t _ ih=>rw[n_,ih];rfl
theorem wP (ns:b_ Int):iT (ns.map λi=>Dl i 0)=ns.sum:=by
 unfold iT;rw[C_];have:ns.map ((λ|Value.int i U=>i|_=>0) ∘λi=>Dl i 0)=ns:=Jm ns;exact congrArg List.sum this
theorem r4 (k:Int):∀ns:b_ Int,(ns.map λi=>Dl i 0).count (.int k 0)=ns.count k
 | []=>rfl
 |n::r=>by
  rw[n_,Fe,Fe,r4 k r];by_cases h:n=k
  ·subst h;simp
  ·simp[h]
theorem pj (k:Int):∀ns:b_ Int,(ns.map λi=>Dl i 0).contains (.int k 0)=ns.any (· ==k)
 | []=>rfl
 |n::r=>by
  rw[n_,DY,Ha,pj k r];congr 1;by_cases h:n=k
  ·subst h;simp
  ·have h':¬k=n:=λe=>h e.symm
   rw[r'.mpr h,r'.mpr (by simp[h'])]
noncomputable def gW (k:Int):b_ Int->b_ Int
 | []=>[k]
 |y::r=>if k<=y then k::y::r else y::gW k r
theorem r5 (k:Int):∀ns:b_ Int,ins (.int k 0) (ns.map λi=>Dl i 0)=(gW k ns).map λi=>Dl i 0
 | []=>rfl
 |n::r=>by
  simp only [n_,ins,gW];split
  ·rfl
  ·rw[n_,r5 k r]
theorem pk (k:Int):∀ns:b_ Int,(gW k ns).Perm (k::ns)
 | []=>.refl _
 |n::r=>by
  unfold gW;split
  ·exact .refl _
  ·exact((pk k r).cons n).trans (.swap _ _ _)
theorem r7 (k:Int):∀ {ns:b_ Int},ns.Pairwise (λa b=>a<=b)->(gW k ns).Pairwise (λa b=>a<=b)
 | [],_=>by simp[gW]
 |n::r,h=>by
  unfold gW;rw[Du]at h;split
  ·rename _=>q
   rw[Du];refine⟨λx hx=>?_,Du.mpr h⟩;rcases f_.mp hx with rfl|hx
   ·exact q
   ·exact Eu q (h.1 x hx)
  ·rename _=>q
   rw[Du];refine⟨λx hx=>?_,r7 k h.2⟩;rcases f_.mp ((pk k r).mem_iff.mp hx)with rfl|hx
   ·walk_at "cm"
   ·exact h.1 x hx
noncomputable def lh (ns:b_ Int):b_ Int:=ns.foldr gW []
theorem mO (ns:b_ Int):dy (ns.map λi=>Dl i 0)=(lh ns).map λi=>Dl i 0:=by
 induction ns with
 |nil=>rfl
 |cons n r ih=>
  show ins (.int n 0) (dy (r.map _))=(gW n (lh r)).map _;rw[ih,r5]
theorem pq (ns:b_ Int):(lh ns).Perm ns:=by
 induction ns with
 |nil=>exact .refl _
 |cons n r ih=>exact(pk n _).trans (ih.cons n)
theorem r8 (ns:b_ Int):(lh ns).Pairwise (λa b=>a<=b):=by
 induction ns with
 |nil=>exact .nil
 |cons n r ih=>exact r7 n ih
theorem se {ns ms:b_ Int}(h:ms.Perm ns)(o:ms.Pairwise (λa b=>a<=b)):ms=lh ns:=
 (h.trans (pq ns).symm).eq_of_pairwise (λa b U U h1 h2=>Int.le_antisymm h1 h2) o (r8 ns)
theorem St.newAt0 (D:aQ w Zb6 mg mb)(S:St prog w Zb6 Zb9 env fm Z B s)(t:Nat)(hd:bD o=h_)(k:∀b x,s.heap.get? b=a_ x->h'.get? b=a_ x)(no:s.heap.get? a=h_)(h850:850<=a)(m:OM prog w h' a o):
 isNew Z a/\St prog w Zb6 Zb9 env fm (Z.set a o) B {s with heap:=h',toks:=t}:=by
 have n2:B a=h_:=by
  cases e:B a with
  |none=>rfl
  |some x=>have:=S.rep.keep _ _ e;rw[no]at this;cases this
 have n1:¬own Z a:=λq=>by refine xE (S.rep.there q) λx hx=>?_;rw[no]at hx;cases hx
 refine⟨⟨?_,h850⟩,⟨(S.rep.ext k).adopt n1 n2 (λd q=>by rw[hd]at q;cases q) m,?_,?_,S.priv,S.cel,S.same⟩⟩
 ·cases e:Z a with
  |none=>rfl
  |some o=>exact absurd (dw e) n1
 ·refine ac S.ns λmm hm hl=>?_
  exact⟨mm,hm.keeps k,hl⟩
 ·rintro⟨c,x,e,hb⟩
  refine ac S.ns λmm hm U=>?_;by_cases q:c=a
  ·subst q
   rw[ad]at e;cases e;rcases hb with hb|hb
   ·refine eJ hm λoo U U ho U=>?_;clear hm;rw[hb,no]at ho;cases ho
   ·rw[hd]at hb;cases hb
  ·rw[bA _ _ q]at e;exact S.free ⟨c,x,e,hb⟩
theorem St.newAt (D:aQ w Zb6 mg mb)(S:St prog w Zb6 Zb9 env fm Z B s)(t:Nat)(hd:bD o=h_)(k:∀b x,s.heap.get? b=a_ x->h'.get? b=a_ x)(ha:s.heap.objs.size<=a)(m:OM prog w h' a o):
 isNew Z a/\St prog w Zb6 Zb9 env fm (Z.set a o) B {s with heap:=h',toks:=t}:=by
 refine S.newAt0 D t hd k ?_ (o_ (S.rep.big D) ha) m;cases e:s.heap.get? a with
 |none=>rfl
 |some x=>exact absurd (Dn e) (E8.mpr ha)
theorem sf (f:Gc c_->Gc c_)(xs:Gc c_)(n:Nat):∃k,HA f (HF "list" xs n)=HF "list" (f xs) k:=⟨_,rfl⟩
theorem wQ (h:Fu)(vs:b_ c_)(out:Gc c_):(∀b o,h.get? b=a_ o->(sortedAll h vs out).get? b=a_ o)/\∃n,IsL (sortedAll h vs out) (h.objs.size+1) out n:=by
 intros h vs out;unfold sortedAll sortedHeap;constructor
 ·intro b o e
  have lt:=Dn e;have ne:∀k,h.objs.size+k≠b:=λk q=>absurd lt (E8.mpr (q▸Eo _ _));rw[GG _ _ (ne 1)];refine j' _ (j' _ ?_);rw[GG _ _ (ne 1)];refine j' _ ?_;rw[GG _ _ (show h.objs.size≠b from ne 0)];exact j' _ e
 ·have sz:((h.push (HF "list" #[] 0)).update h.objs.size (HA (· ++vs.toArray))).objs.size=h.objs.size+1:=by simp
  have e1:(((h.push (HF "list" #[] 0)).update h.objs.size (HA (· ++vs.toArray))).push (HF "list" vs.toArray 0)).get? (h.objs.size+1)=a_ (HF "list" vs.toArray 0):=by
   rw[<-sz];exact y_ _ rfl
  refine xE (sf (λU=> #[]) vs.toArray 0) λk hk=>?_;have e2:=DN (HA λU=> #[]) e1 (by exact congrArg _ hk);rw[hk]at e2;have e3:=j' (HF "list" #[] 0) (j' (HF "tuple" vs.toArray 0) e2);refine xE (sf (λU=>out) #[] k) λk' UT=>?_;have e4:=DN (HA λU=>out) e3 (by exact congrArg _ UT);rw[UT]at e4;exact⟨k',e4⟩
theorem wR {Q:c_->i'->Prop}(D:aQ w Zb6 mg mb)(S:St prog w Zb6 Zb9 env fm Z B s)(e:Z a=a_ (.lst xs))(hi:xs.all bO=e_)(hz:xs.length<=60)
 (h:∀l s',isNew Z l->St prog w Zb6 Zb9 env fm (Z.set l (.lst (dy xs))) B s'->Q (.ref l) s'):wpAny (A_ prog w) A (call (.builtin "sorted") [.ref a]) Q E s:=by
 refine aY (S.isL e) ?_;rintro⟨l⟩ n hl m;dsimp only at m;subst m;refine ac (gV hi) λns hI en=>?_;refine sorted_ints (vs:=l) hl.isList hI (by rw[b']at hz;walk_at "o") λout ns' a1 a2 a3=>?_;refine gx (wQ s.heap l out) λk n' x=>?_;have z:=St.newAt D S s.toks (o:=.lst (dy (l.map er))) rfl k (EV _) ⟨_,_,x,by rw[Hs.er a1,en,mO,se a2 a3]⟩;exact h _ _ z.1 z.2
theorem wS {Q:c_->i'->Prop}(hh:A.handled=h_)(S:St prog w Zb6 Zb9 env fm Z B s)(e:Z a=a_ (.lst xs))(hi:xs.all bO=e_)
 (h:∀t s',St prog w Zb6 Zb9 env fm Z B s'->Q (.int (iT xs) t) s'):wpAny (A_ prog w) A (call (.builtin "sum") [.ref a]) Q E s:=by
 refine aY (S.isL e) ?_;rintro⟨l⟩ n hl m;dsimp only at m;subst m;refine ac (gV hi) λns hI en=>?_;refine xE hI.allInts.items λxs hx=>?_;have KA:s.heap.IsList a l.toArray:=hl.isList;rw[hx]at KA;refine sum_intListG hh KA λh' tk t' hk=>?_;have q:=nums_intItems xs;rw[<-hx,show l.toArray.toList=l from rfl,hI.numsOf]at q;have:preSum (numAt xs) xs.size=iT (l.map er):=by
  rw[preSum_eq,Dv (by simp), <-q,en,wP]
 rw[this];exact h _ _ (S.grow tk hk)
theorem wT {k:Int}{t:Tok}{Q:c_->i'->Prop}(S:St prog w Zb6 Zb9 env fm Z B s)(e:Z a=a_ (.lst xs))(hi:xs.all bO=e_)
 (h:∀t s',St prog w Zb6 Zb9 env fm Z B s'->Q (.int (xs.count (.int k 0)) t) s'):wpAny (A_ prog w) A (call (.builtin "list.count") [.ref a,.int k t]) Q E s:=by
 refine aY (S.isL e) ?_;rintro⟨l⟩ n hl m;dsimp only at m;subst m;refine ac (gV hi) λns hI en=>?_;refine count_list_ints (vs:=l) hl.isList hI ?_;have:=h s.toks {s with toks:=s.toks+1} (S.tok _);rw[en,r4]at this;exact this
theorem wU {k:Int}{t:Tok}{Q:c_->i'->Prop}(S:St prog w Zb6 Zb9 env fm Z B s)(e:Z a=a_ (.lst xs))(hi:xs.all bO=e_)
 (h:Q (.bool (xs.contains (.int k 0))) s):wpAny (A_ prog w) A (EX .In (.int k t) (.ref a)) Q E s:=by
 refine aY (S.isL e) ?_;rintro⟨l⟩ n hl m;dsimp only at m;subst m;refine ac (gV hi) λns hI en=>?_;refine in_list_ints (vs:=l) hl.isList hI ?_;rw[en,pj]at h;exact h
theorem wV {k:Int}{t:Tok}{Q:c_->i'->Prop}(S:St prog w Zb6 Zb9 env fm Z B s)(e:Z a=a_ (.lst xs))(hi:xs.all bO=e_)
 (h:Q (.bool (!xs.contains (.int k 0))) s):wpAny (A_ prog w) A (EX .NotIn (.int k t) (.ref a)) Q E s:=by
 refine aY (S.isL e) ?_;rintro⟨l⟩ n hl m;dsimp only at m;subst m;refine ac (gV hi) λns hI en=>?_;refine notin_list_ints (vs:=l) hl.isList hI ?_;rw[en,pj]at h;exact h
theorem sg (ns ms:b_ Int):((ns.map λi=>Dl i 0)==(ms.map λi=>Dl i 0))=decide (ns=ms):=by
 by_cases h:ns=ms
 ·subst h;simp
 ·rw[DQ h]
  exact r'.mpr λe=>h (rZ e)
theorem wW {b:d_}{Q:c_->i'->Prop}(hu:A.units+64<IF)(S:St prog w Zb6 Zb9 env fm Z B s)(e:Z a=a_ (.lst xs))(e2:Z b=a_ (.lst ys))(hi:xs.all bO=e_)(hj:ys.all bO=e_)
 (h:Q (.bool (xs==ys)) s):wpAny (A_ prog w) A (EX .Eq (.ref a) (.ref b)) Q E s:=by
 refine aY (S.isL e) ?_;rintro⟨l⟩ n hl m;refine aY (S.isL e2) ?_;rintro⟨l2⟩ n2 JX m2;dsimp only at m m2;subst m m2;refine ac (gV hi) λns hI en=>?_;refine ac (gV hj) λms hJ em=>?_;refine eq_intsK (vs:=l) (us:=l2) hl.isList hI JX.isList hJ hu ?_;rw[en,em,sg]at h;exact h
theorem wX {b:d_}{Q:c_->i'->Prop}(hu:A.units+64<IF)(S:St prog w Zb6 Zb9 env fm Z B s)(e:Z a=a_ (.lst xs))(e2:Z b=a_ (.lst ys))(hi:xs.all bO=e_)(hj:ys.all bO=e_)
 (h:Q (.bool (!(xs==ys))) s):wpAny (A_ prog w) A (EX .NotEq (.ref a) (.ref b)) Q E s:=by
 refine aY (S.isL e) ?_;rintro⟨l⟩ n hl m;refine aY (S.isL e2) ?_;rintro⟨l2⟩ n2 JX m2;dsimp only at m m2;subst m m2;refine ac (gV hi) λns hI en=>?_;refine ac (gV hj) λms hJ em=>?_;refine ne_intsK (vs:=l) (us:=l2) hl.isList hI JX.isList hJ hu ?_;rw[en,em,sg]at h;exact h
theorem wY {Q:Dm->i'->Prop}(S:St prog w Zb6 Zb9 env fm Z B s)(e:Z a=a_ (.lst xs))(hz:xs.length<=100000)
 (h:∀s',St prog w Zb6 Zb9 env fm Z B s'->Q (!xs.isEmpty) s'):wpAny (A_ prog w) A (truthy (.ref a)) Q E s:=by
 refine aY (S.isL e) ?_;rintro⟨l⟩ n hl m;dsimp only at m;subst m;refine wpAny_truthy_list hl.isList (by simp only [Jl,b']at *;walk_at "C") ?_;have:=h {s with toks:=s.toks+1+1} (S.tok _);have e:(!(l.map er).isEmpty)= !(l.toArray.isEmpty):=by simp
 rw[e]at this;exact this
end
theorem wZ (P:DF):(["int","str"].all λD=>JA (KF P) (.type "NoneType") (.type D)==a_ g'&&JA (KF P) (.type "int") (.type D)==a_ (D=="int")&&JA (KF P) (.type "str") (.type D)==a_ (D=="str")&&cN.all λp=>JA (KF P) (.ref p.1) (.type D)==a_ g')=e_:=by kernel_rfl
section
variable{B:aS}{A:DJ}{E:c_->i'->Prop}
theorem w5 {D:EB}{b:Dm}{Q:c_->i'->Prop}(Dd:aQ w Zb6 mg mb)(S:St prog w Zb6 Zb9 env fm Z B s)(e:jl Z (er v) D=a_ b)
 (h:∀s',St prog w Zb6 Zb9 env fm Z B s'->Q (.bool b) s'):wpAny (A_ prog w) A (call (.builtin "isinstance") [v,.type D]) Q E s:=by
 intros Z v Zb6 Zb9 s fm mg mb env prog w B A E D b Q;have X:=S.rep.in Dd;unfold jl at e;split at e
 ·rename _=e_=>hD
  have hD:D∈["int","str"]:=by simpa using hD
  have k:=l_.mp (wZ w.params) D hD;simp only [u_,C9,l_]at k;refine xA k ?_;clear k;rintro⟨⟨k1,k2⟩,k3⟩ k4;cases v with
  |none=>cases e;exact Ht kitx_none X trivial k1 (by simp) λtk=>h _ (S.tok _)
  |int i t=>cases e;exact Ht kitx_int X trivial k2 (by simp) λtk=>h _ (S.tok _)
  |str x t=>cases e;exact Ht kitx_str X trivial k3 (by simp) λtk=>h _ (S.tok _)
  |ref x=>
   intros x;unfold er at e;dsimp only at e;cases q:Z x with
   |none=>rw[q]at e;exact(ns e).elim
   |some o=>
   intros o;rw[q]at e;cases o with
   |inst C dd fl=>
    intros C dd fl;dsimp only at e;split at e
    ·rename _=e_=>hC
     cases e;refine ac (pi hC) λSR Yz hC=>?_;refine bW (S.rep.inst q) λes n I hd m=>?_;have k1:=l_.mp (rX w.params) (C,SR) hC;unfold ph at k1;simp only [u_,C9]at k1;have k2:=rY w.params;simp only [u_,C9]at k2;exact Ht (kitx_own k1.1.1 (jr Yz w.params).hd k1.1.2 k2.1 k2.2 k1.2) X I (k4 (C,SR) hC) (by simp) λtk=>h _ (S.tok _)
    ·exact(ns e).elim
   |_=>exact(ns e).elim
  |_=>exact(ns e).elim
 ·exact(ns e).elim
end
section
variable{K:Type}[DecidableEq K](KL:K->c_)
noncomputable def dz (kvs:b_ (K×Value)):b_ (Value×Value):=kvs.map λp=>(KL p.1,er p.2)
variable{KL}
theorem gG (inj:∀a b,KL a=KL b->a=b)(k:K):∀kvs:b_ (K×Value),(dz KL kvs).lookup (KL k)=(valueAt kvs k).map er
 | []=>rfl
 |p::r=>by
  have ih:=gG inj k r;unfold dz valueAt at *;rw[n_,v_,List.find?_cons];by_cases h:p.1=k
  ·subst h;simp
  ·have h1:(KL k==KL p.1)=g':=r'.mpr λe=>h (inj _ _ e).symm
   rw[h1,DQ h];exact ih
theorem si (inj:∀a b,KL a=KL b->a=b)(k:K)(v:c_):∀ {kvs:b_ (K×Value)},k∉kvs.map (λp=>p.1)->(kvs.map λkv=>if kv.1=k then(kv.1,v)else kv)=kvs
 | [],_=>rfl
 |p::r,h=>by
  rw[n_,f_,GH]at h;rw[n_,p_ (λe=>h.1 e.symm),si inj k v h.2]
theorem li (inj:∀a b,KL a=KL b->a=b)(k:K)(v:c_):∀ {kvs:b_ (K×Value)},(kvs.map (λp=>p.1)).Nodup->dz KL (JB kvs k v)=cM (KL k) (er v) (dz KL kvs)
 | [],_=>rfl
 |p::r,nd=>by
  rw[n_,DK]at nd;have ih:=li inj k v nd.2;by_cases h:p.1=k
  ·subst h
   unfold JB dz;simp only [Ha,decide_true,Bool.true_or,Gn,n_,cM,C'];rw[si inj p.1 v nd.1]
  ·have h1:(KL k==KL p.1)=g':=r'.mpr λe=>h (inj _ _ e).symm
   have:JB (p::r) k v=p::JB r k v:=by
    unfold JB;simp only [Ha,DQ h,Bool.false_or,n_,p_ h];split<;>rfl
   rw[this];show(KL p.1,er p.2)::dz KL (JB r k v)=cM (KL k) (er v) ((KL p.1,er p.2)::dz KL r);rw[ih];simp only [cM,h1,Dt,Fj]
end
theorem js (a b:Int)(h:Dl a 0=Dl b 0):a=b:=by cases h;rfl
theorem jt (a b:Str)(h:En a 0=En b 0):a=b:=by cases h;rfl
noncomputable abbrev eI:Int->c_:=λk=>.int k 0
noncomputable abbrev eS:Str->c_:=λk=>.str k 0
section
variable{B:aS}{A:DJ}{E:c_->i'->Prop}
theorem sj {K K':Type}[DecidableEq K][DecidableEq K']{knd:KeyKind prog w K}(We:KeyKind prog w K')(x:h.DictAt knd a [] n):h.DictAt We a [] n:=by
 refine io x λo es e ex d U zz=>?_;clear x;refine xA zz λp U=>?_;clear zz;have:es.toList=[]:=by
  cases q:es.toList with
  |nil=>rfl
  |cons _ _=>rw[q]at p;cases p
 have e':es= #[]:=by apply Array.ext';rw[this]
 subst e';exact⟨o, #[],e,ex,d,λU he=>by simp at he,.nil,by simp⟩
theorem sk (x:OM prog w h a (.dic es n))(hk:(es.all λp=>bO p.1)=e_):a≠Gu/\∃kvs:b_ (Int×Value),h.DictAt (Hq prog w) a kvs n/\es=dz eI kvs:=by
 intros a n h es prog w;refine xA x ?_;clear x;rintro hs x;refine⟨hs,?_⟩;rcases x with ⟨kvs,d,e⟩ |⟨kvs,d,e⟩
 ·exact⟨kvs,d,e⟩
 ·cases kvs with
  |nil=>exact⟨[],sj _ d,e⟩
  |cons p r=>subst e;simp[bO]at hk
theorem w7 (x:OM prog w h a (.dic es n))(hk:(es.all λp=>isStr p.1)=e_):a≠Gu/\∃kvs:b_ (Str×Value),h.DictAt (strKind prog w) a kvs n/\es=dz eS kvs:=by
 intros a n h es prog w;refine xA x ?_;clear x;rintro hs x;refine⟨hs,?_⟩;rcases x with ⟨kvs,d,e⟩ |⟨kvs,d,e⟩
 ·cases kvs with
  |nil=>exact⟨[],sj _ d,e⟩
  |cons p r=>subst e;simp[isStr]at hk
 ·exact⟨kvs,d,e⟩
theorem fn (h:a≠Gu):(a==Gu)=g':=r'.mpr h
theorem ju {k:c_}(x:OM prog w h a (.dic es n))(hk:b9 es k=e_):
 a≠Gu/\((∃ (i:Int) (t:Tok) (kvs:b_ (Int×Value)),k=.int i t/\h.DictAt (Hq prog w) a kvs n/\es=dz eI kvs)\/
  (∃ (i:Str) (t:Tok) (kvs:b_ (Str×Value)),k=.str i t/\h.DictAt (strKind prog w) a kvs n/\es=dz eS kvs)):=by
 intros a n h es prog w k;unfold b9 at hk;split at hk
 ·refine gy (sk x hk) λp kvs d e=>?_;exact⟨p,.inl ⟨_,_,kvs,rfl,d,e⟩⟩
 ·refine gy (w7 x hk) λp kvs d e=>?_;exact⟨p,.inr ⟨_,_,kvs,rfl,d,e⟩⟩
 ·exact(ft hk).elim
theorem jY (es:b_ (Value×Value))(k:c_):b9 es (er k)=b9 es k:=by cases k<;>rfl
theorem i3 (i:Int)(t:Tok):(Hq prog w).is i (.int i t)=e_:=intKind_is prog w i t
theorem iy (i:Str)(t:Tok):(strKind prog w).is i (.str i t)=e_:=strKind_is prog w i t
theorem w8 {k:c_}{Q:c_->i'->Prop}(S:St prog w Zb6 Zb9 env fm Z B s)(e:Z a=a_ (.dic es n))(hk:b9 es k=e_)(hv:es.lookup (er k)=a_ v)
 (h:∀u s',er u=v->St prog w Zb6 Zb9 env fm Z B s'->Q u s'):wpAny (A_ prog w) A (IW (.ref a) k) Q E s:=by
 refine xA (ju (S.rep.om _ _ e) hk) λhs x=>?_;rcases x with ⟨i,t,kvs,rfl,d,rfl⟩ |⟨i,t,kvs,rfl,d,rfl⟩
 ·have:(dz eI kvs).lookup (eI i)=a_ v:=hv
  rw[gG js]at this;refine ac (j_.mp this) λu hu eu=>?_;exact G1 (i3 i t) d.dictOf.mapOf hu (h _ _ eu (S.tok _))
 ·have:(dz eS kvs).lookup (eS i)=a_ v:=hv
  rw[gG jt]at this;refine ac (j_.mp this) λu hu eu=>?_;exact G1 (iy i t) d.dictOf.mapOf hu (h _ _ eu (S.tok _))
theorem w9 {k:c_}{Q:c_->i'->Prop}(S:St prog w Zb6 Zb9 env fm Z B s)(e:Z a=a_ (.dic es n))(hk:b9 es k=e_)
 (h:∀s',St prog w Zb6 Zb9 env fm Z B s'->Q (.bool (es.lookup (er k)).isSome) s'):wpAny (A_ prog w) A (EX .In k (.ref a)) Q E s:=by
 intros a n Z Zb6 Zb9 s fm env es prog w B A E k Q;refine xA (ju (S.rep.om _ _ e) hk) λhs x=>?_;rcases x with ⟨i,t,kvs,rfl,d,rfl⟩ |⟨i,t,kvs,rfl,d,rfl⟩
 ·refine wpAny_in_of (i3 i t) (fn hs) d.dictOf.mapOf ?_
  have:=h {s with toks:=s.toks+1} (S.tok _);rw[show er (Dl i t)=eI i from rfl,gG js,GI]at this;exact this
 ·refine wpAny_in_of (iy i t) (fn hs) d.dictOf.mapOf ?_
  have:=h {s with toks:=s.toks+1} (S.tok _);rw[show er (En i t)=eS i from rfl,gG jt,GI]at this;exact this
theorem xa {k:c_}{Q:c_->i'->Prop}(S:St prog w Zb6 Zb9 env fm Z B s)(e:Z a=a_ (.dic es n))(hk:b9 es k=e_)
 (h:∀s',St prog w Zb6 Zb9 env fm Z B s'->Q (.bool (!(es.lookup (er k)).isSome)) s'):wpAny (A_ prog w) A (EX .NotIn k (.ref a)) Q E s:=by
 intros a n Z Zb6 Zb9 s fm env es prog w B A E k Q;refine xA (ju (S.rep.om _ _ e) hk) λhs x=>?_;rcases x with ⟨i,t,kvs,rfl,d,rfl⟩ |⟨i,t,kvs,rfl,d,rfl⟩
 ·refine wpAny_notIn_of (i3 i t) (fn hs) d.dictOf.mapOf ?_
  have:=h {s with toks:=s.toks+1} (S.tok _);rw[show er (Dl i t)=eI i from rfl,gG js,GI]at this;exact this
 ·refine wpAny_notIn_of (iy i t) (fn hs) d.dictOf.mapOf ?_
  have:=h {s with toks:=s.toks+1} (S.tok _);rw[show er (En i t)=eS i from rfl,gG jt,GI]at this;exact this
theorem sm {kvs:b_ (Int×Value)}(hs:a≠Gu)(d:h.DictAt (Hq prog w) a kvs n):OM prog w h a (.dic (dz eI kvs) n):=⟨hs,.inl ⟨kvs,d,rfl⟩⟩
theorem so {kvs:b_ (Str×Value)}(hs:a≠Gu)(d:h.DictAt (strKind prog w) a kvs n):OM prog w h a (.dic (dz eS kvs) n):=⟨hs,.inr ⟨kvs,d,rfl⟩⟩
theorem lj {K:Type}{KL:K->c_}(kvs:b_ (K×Value)):(dz KL kvs).length=kvs.length:=b' _
theorem xb {k:c_}{Q:IG->i'->Prop}(S:St prog w Zb6 Zb9 env fm Z B s)(e:Z a=a_ (.dic es n))(hk:b9 es k=e_)(hz:es.length<1000)
 (h:∀n' s',St prog w Zb6 Zb9 env fm (Z.set a (.dic (cM (er k) (er v) es) n')) B s'->Q () s'):wpAny (A_ prog w) A (setItem (.ref a) k v) Q E s:=by
 intros a n Z v Zb6 Zb9 s fm env es prog w B A E k Q;refine xA (ju (S.rep.om _ _ e) hk) λhs x=>?_;rcases x with ⟨i,t,kvs,rfl,d,rfl⟩ |⟨i,t,kvs,rfl,d,rfl⟩
 ·rw[lj]at hz
  refine I2 (hsz:=by rw[DB];walk_at "m") (i3 i t) d.dictOf λh' hd hb=>?_;refine xE hd.dictAt λn' d'=>?_;refine h n' _ ?_;rw[show er (Dl i t)=eI i from rfl, <-li js _ _ d.nodup];exact S.turn (s.toks+1) e rfl rfl hb (sm hs d')
 ·rw[lj]at hz
  refine I2 (hsz:=by rw[DB];walk_at "m") (iy i t) d.dictOf λh' hd hb=>?_;refine xE hd.dictAt λn' d'=>?_;refine h n' _ ?_;rw[show er (En i t)=eS i from rfl, <-li jt _ _ d.nodup];exact S.turn (s.toks+1) e rfl rfl hb (so hs d')
theorem xc {k:c_}{Q:c_->i'->Prop}(S:St prog w Zb6 Zb9 env fm Z B s)(e:Z a=a_ (.dic es n))(hk:b9 es k=e_)
 (h:∀u s',er u=(es.lookup (er k)).getD (er dflt)->St prog w Zb6 Zb9 env fm Z B s'->Q u s'):wpAny (A_ prog w) A (call (.builtin "dict.get") [.ref a,k,dflt]) Q E s:=by
 intros a n Z dflt Zb6 Zb9 s fm env es prog w B A E k Q;refine xA (ju (S.rep.om _ _ e) hk) λhs x=>?_;have Kw:∀ (o:m_ c_),er (o.getD dflt)=(o.map er).getD (er dflt):=λo=>by cases o<;>rfl
 rcases x with ⟨i,t,kvs,rfl,d,rfl⟩ |⟨i,t,kvs,rfl,d,rfl⟩
 ·refine GJ F.slot_dict_get d.dictOf.typeIs F.entry_dict_get (F.args_dict_get_3 _ _ _) (Ij _ a (i3 i t) (fn hs) dflt) ⟨_,d.dictOf.mapOf,?_⟩
  refine h _ _ ?_ (S.tok _);rw[show er (Dl i t)=eI i from rfl,gG js,Kw]
 ·refine GJ F.slot_dict_get d.dictOf.typeIs F.entry_dict_get (F.args_dict_get_3 _ _ _) (Ij _ a (iy i t) (fn hs) dflt) ⟨_,d.dictOf.mapOf,?_⟩
  refine h _ _ ?_ (S.tok _);rw[show er (En i t)=eS i from rfl,gG jt,Kw]
theorem pr {k v:c_}:∀ {es:b_ (Value×Value)},es.lookup k=h_->cM k v es=es++[(k,v)]
 | [],_=>rfl
 |p::r,h=>by
  rw[v_]at h;unfold cM;split at h
  ·exact(sn h).elim
  ·rename _=g'=>q;rw[q];simp only [Dt,Fj,F',pr h]
theorem xd {k:c_}{Q:c_->i'->Prop}(S:St prog w Zb6 Zb9 env fm Z B s)(e:Z a=a_ (.dic es n))(hk:b9 es k=e_)(hz:es.length<1000)
 (h1:∀v u s',es.lookup (er k)=a_ v->er u=v->St prog w Zb6 Zb9 env fm Z B s'->Q u s')
 (h2:∀n' s',es.lookup (er k)=h_->St prog w Zb6 Zb9 env fm (Z.set a (.dic (es++[(er k,er dflt)]) n')) B s'->Q dflt s'):wpAny (A_ prog w) A (call (.builtin "dict.setdefault") [.ref a,k,dflt]) Q E s:=by
 intros a n Z dflt Zb6 Zb9 s fm env es prog w B A E k Q;refine xA (ju (S.rep.om _ _ e) hk) λhs x=>?_;rcases x with ⟨i,t,kvs,rfl,d,rfl⟩ |⟨i,t,kvs,rfl,d,rfl⟩
 ·rw[lj]at hz
  have lk:(dz eI kvs).lookup (eI i)=(valueAt kvs i).map er:=gG js i kvs;refine GJ F.slot_dict_setdefault d.dictOf.typeIs F.entry_dict_setdefault (F.args_dict_setdefault_3 _ _ _) (I3 (Hq prog w) a (i3 i t) (fn hs) dflt) ⟨kvs,d.dictOf,by rw[DB];walk_at "m",λv hv=>h1 (er v) v _ (by show(dz eI kvs).lookup (eI i)=_;rw[lk,hv];rfl) rfl (S.tok _),λhn h' hd hb=>?_⟩;have no:(dz eI kvs).lookup (eI i)=h_:=by rw[lk,hn];rfl
  refine xE hd.dictAt λn' d'=>?_;refine h2 n' _ no ?_;rw[show er (Dl i t)=eI i from rfl, <-pr no, <-li js _ _ d.nodup];exact S.turn (s.toks+1) e rfl rfl hb (sm hs d')
 ·rw[lj]at hz
  have lk:(dz eS kvs).lookup (eS i)=(valueAt kvs i).map er:=gG jt i kvs;refine GJ F.slot_dict_setdefault d.dictOf.typeIs F.entry_dict_setdefault (F.args_dict_setdefault_3 _ _ _) (I3 (strKind prog w) a (iy i t) (fn hs) dflt) ⟨kvs,d.dictOf,by rw[DB];walk_at "m",λv hv=>h1 (er v) v _ (by show(dz eS kvs).lookup (eS i)=_;rw[lk,hv];rfl) rfl (S.tok _),λhn h' hd hb=>?_⟩;have no:(dz eS kvs).lookup (eS i)=h_:=by rw[lk,hn];rfl
  refine xE hd.dictAt λn' d'=>?_;refine h2 n' _ no ?_;rw[show er (En i t)=eS i from rfl, <-pr no, <-li jt _ _ d.nodup];exact S.turn (s.toks+1) e rfl rfl hb (so hs d')
end
section
variable{B:aS}{A:DJ}{E:c_->i'->Prop}
theorem xe {k:Int}{t:Tok}{Q:IG->i'->Prop}(S:St prog w Zb6 Zb9 env fm Z B s)(e:Z a=a_ (.lst xs))(h0:0<=k)(hn:k<xs.length)(h1:k<2^62)
 (h:∀s',St prog w Zb6 Zb9 env fm (Z.set a (.lst (xs.set k.toNat (er v)))) B s'->Q () s'):wpAny (A_ prog w) A (setItem (.ref a) (.int k t) v) Q E s:=by
 intros a Z xs v Zb6 Zb9 s fm env prog w B A E k t Q;refine aY (S.isL e) λvs n hl m=>?_;intros vs n;have hz:vs.size=xs.length:=by rw[<-m];exact(b' _).symm
 have hL:s.heap.IsList a vs:=hl.isList;unfold setItem
 try with_reducible refine Es ?_
 first |refine wpAny_bind (wpAny_pure ?_) |skip
 refine wpAny_bind (wpAny_sequenceKey hL.typeIs (by decide) ?_);refine wpAny_bind (wpAny_callSpecial?_slot (name:=Ev "__setitem__") hL.typeIs Jn
  (G2 Jn hL.typeIs entry_list_setitem ?_ (args_list_setitem _ _ _)))
 show wpAny _ _ (Builtin.List.listSubscript? (.int k t)>>=_) _ _ s;refine wpAny_bind (wpAny_listSubscript_int (fitsIndex_of h0 (by walk_at "a")) ?_);refine xE (Fz h0) ?_;rintro j rfl;intros j;have hj:j<vs.size:=by walk_at "o"
 have Nf:vs[j]? =a_ vs[j]:=Gd hj;show wpAny _ _ ((seqItemAt a j>>=λr=>F9 (r.map (j, ·)))>>=_) _ _ s;refine wpAny_bind (wpAny_bind (wpAny_seqItemAt hl rfl (wpAny_pure ?_)));rw[Nf];show wpAny _ _ (setSeqItemAt a j v>>=_) _ _ s;refine wpAny_bind (wpAny_setSeqItemAt hl rfl ?_);have Kw:=h _ (S.turnL (·.setIfInBounds j v) s.toks e hl (ys:=xs.set j (er v)) (by rw[Array.toList_setIfInBounds, <-m,List.map_set]))
 first
  |exact wpAny_bind (wpAny_pure (wpAny_pure ⟨.none,rfl,wpAny_pure Kw⟩))
  |exact wpAny_pure ⟨.none,rfl,wpAny_pure Kw⟩
theorem xf {k:c_}{Q:c_->i'->Prop}(S:St prog w Zb6 Zb9 env fm Z B s)(e:Z a=a_ (.dic [] n))(hk:b9 [] k=e_)
 (h:∀s',St prog w Zb6 Zb9 env fm Z B s'->Q dflt s'):wpAny (A_ prog w) A (call (.builtin "dict.pop") [.ref a,k,dflt]) Q E s:=by
 intros a n Z dflt Zb6 Zb9 s fm env prog w B A E k Q;refine xA (ju (S.rep.om _ _ e) hk) λhs x=>?_;rcases x with ⟨i,t,kvs,rfl,d,hx⟩ |⟨i,t,kvs,rfl,d,hx⟩
 ·have:kvs=[]:=by cases kvs with |nil=>rfl|cons _ _=>exact(nc hx).elim
  subst this;exact GJ F.slot_dict_pop d.dictOf.typeIs F.entry_dict_pop (F.args_dict_pop_3 _ _ _) (Ik _ a (i3 i t) (fn hs) rfl dflt) ⟨[],d.dictOf,rfl,h _ (S.tok _)⟩
 ·have:kvs=[]:=by cases kvs with |nil=>rfl|cons _ _=>exact(nc hx).elim
  subst this;exact GJ F.slot_dict_pop d.dictOf.typeIs F.entry_dict_pop (F.args_dict_pop_3 _ _ _) (Ik _ a (iy i t) (fn hs) rfl dflt) ⟨[],d.dictOf,rfl,h _ (S.tok _)⟩
theorem xg {Q:c_->i'->Prop}(S:St prog w Zb6 Zb9 env fm Z B s)(e:Z a=a_ (.dic es n))(hz:es.length<=1000)
 (h:∀t s',St prog w Zb6 Zb9 env fm Z B s'->Q (.int es.length t) s'):wpAny (A_ prog w) A (call (.builtin "len") [.ref a]) Q E s:=by
 refine xA (S.rep.om _ _ e) λhs x=>?_;rcases x with ⟨kvs,d,rfl⟩ |⟨kvs,d,rfl⟩
 ·refine call_len_dict (fn hs) d.dictOf (by simp only [b']at hz;walk_at "C") ?_
  rw[<-b'];exact h _ _ (S.tok _)
 ·refine call_len_dict (fn hs) d.dictOf (by simp only [b']at hz;walk_at "C") ?_
  rw[<-b'];exact h _ _ (S.tok _)
theorem sp {sl:d_}{vl vu:c_}{lo hi:m_ Int}{Q:c_->i'->Prop}(D:aQ w Zb6 mg mb)(S:St prog w Zb6 Zb9 env fm Z B s)(e:Z a=a_ (.lst xs))(hz:xs.length<=100000)
 (hs:s.heap.IsSliceOf sl vl vu .none) (pl:IsPart vl lo) (pu:IsPart vu hi) (hy:∀vs:Gc c_,vs.toList.map er=xs->(slicePick vs lo hi h_).toList.map er=ys)
 (h:∀l s',isNew Z l->St prog w Zb6 Zb9 env fm (Z.set l (.lst ys)) B s'->Q (.ref l) s'):wpAny (A_ prog w) A (IW (.ref a) (.ref sl)) Q E s:=by
 refine aY (S.isL e) λvs n hl m=>?_;have hn:vs.size=xs.length:=by rw[<-m];exact(b' _).symm
 refine H7 (st:=h_) hl.isList hs pl pu .none (by simp) ?_ (by rw[DB];walk_at "a");exact h _ _ (S.rep.isNew D) (S.new s.toks rfl ⟨_,_,y_ _ rfl,hy vs m⟩)
theorem xh {n:Int}{t:Tok}{Q:c_->i'->Prop}(D:aQ w Zb6 mg mb)(S:St prog w Zb6 Zb9 env fm Z B s)(hn: -(2^60)<=n)
 (h:∀l s',isNew Z l->St prog w Zb6 Zb9 env fm (Z.set l (.rng n)) B s'->Q (.ref l) s'):wpAny (A_ prog w) A (call (.type "range") [.int n t]) Q E s:=
 call_range_1 (h _ _ (S.rep.isNew D) (S.new _ rfl ⟨hn,_,_,_,y_ _ rfl⟩))
theorem CW {kvs:b_ (Int×Value)}(h:es=kvs.map λp=>(Dl p.1 0,er p.2)):es.map (λp=>p.1)=(kvs.map (λp=>p.1)).map λi=>Dl i 0:=by
 subst h;simp
theorem xi {Q:c_->i'->Prop}(hh:A.handled=h_)(D:aQ w Zb6 mg mb)(S:St prog w Zb6 Zb9 env fm Z B s)(e:Z a=a_ (.dic es n))(hi:(es.map (λp=>p.1)).all bO=e_)(hz:es.length<=60)
 (h:∀l s',isNew Z l->St prog w Zb6 Zb9 env fm (Z.set l (.lst (dy (es.map (λp=>p.1))))) B s'->Q (.ref l) s'):wpAny (A_ prog w) A (call (.builtin "sorted") [.ref a]) Q E s:=by
 intros a n Z Zb6 Zb9 s fm mg mb env es prog w B A E Q;refine gy (sk (S.rep.om _ _ e) (by rw[Ef]at hi;exact hi)) ?_;rintro hs kvs d rfl;intros kvs;refine call_function_entry kind_sorted plain_sorted entry_sorted (args_sorted1 _) ?_;unfold Builtin.«sorted»;refine wpAny_bind (m:=checkCount "sorted" 1 1 _) (wpAny_pure ?_);rw[lj]at hz;refine wpAny_bind (kdu_collect (A:=A.in1) (kdl_dict (knd:=Hq prog w) (kvs:=kvs) (ep:=n) (fn hs)) hh d (by rw[DB];walk_at "o") λh' tk JP hk Sa=>?_);intros h' tk JP;have hl:JP.toList.length=kvs.length:=by rw[Array.length_toList];exact Sa.1
 refine wpAny_bind (wpAny_newList ?_ (by rw[hl,DB];walk_at "o"));have ia:Hs JP.toList (kvs.map (λp=>p.1)):=by
  have g:∀ (l:b_ c_) (ks:b_ (Int×Value)),l.length=ks.length->(∀ (j:Nat) (v:c_),l[j]? =a_ v->∃k x,ks[j]? =a_ (k,x)/\(Hq prog w).is k v=e_)->Hs l (ks.map (λp=>p.1)):=by
   intro l;induction l with
   |nil=>intro ks hl _;cases ks with |nil=>exact .nil|cons _ _=>cases hl
   |cons v r ih=>
    intro ks hl hv;cases ks with
    |nil=>cases hl
    |cons p ks=>
     refine aY (hv 0 v rfl) λk x hx hk=>?_;cases hx;have:∃t,v=.int k t:=by
      have:=hk;cases v<;>first |exact(ft this).elim|skip
      rename Hw=>t
      refine⟨t,?_⟩;have e:(i==k)=e_:=this;exact(C9.mp e)▸rfl
     refine xE this ?_;clear this;rintro t rfl;exact .cons k t (ih ks (by simpa using hl) λj u hu=>by
      refine aY (hv (j+1) u (by simpa using hu)) λk' x' h1 h2=>?_;exact⟨k',x',by simpa using h1,h2⟩)
  exact g _ _ hl λj v hj=>Sa.2 j v (by exact(FK).symm.trans hj)
 have hL:(h'.push (HF "list" JP.toList.toArray 0)).get? h'.objs.size=a_ (HF "list" JP.toList.toArray 0):=y_ _ rfl;have no:s.heap.get? h'.objs.size=h_:=by
  cases e:s.heap.get? h'.objs.size with
  |none=>rfl
  |some x=>exact absurd (Dn (hk _ _ e)) (DH _)
 have big:850<=h'.objs.size:=by
  have:=re w.params;refine xE this λo ho=>?_;clear this;exact Dn (hk _ _ (S.rep.in D _ _ ho))
 refine wpAny_bind (Es (G2 slot_list_sort ⟨_,hL,rfl⟩ entry_list_sort (list_sort_tree (s:={s with heap:=h'.push (HF "list" JP.toList.toArray 0),toks:=tk}) hL ia (by rw[hl];walk_at "o") λout ns' a1 a2 a3=>⟨_,rfl,?_⟩) (args_list_sort _)));refine wpAny_pure ⟨_,rfl,?_⟩;refine xE (sortedHeap_at (out:=out) hL) λe' he=>?_;have z:=St.newAt0 D S tk (o:=.lst (dy ((dz eI kvs).map (λp=>p.1)))) rfl (λb x eb=>by
  have e1:=hk b x eb;have e2:(h'.push (HF "list" JP.toList.toArray 0)).get? b=a_ x:=j' _ e1;rw[sortedHeap_old (Eb (Dn e1)) (Dn e2)];exact e2) no big ⟨_,_,he,by
   rw[Hs.er a1,show(dz eI kvs).map (λp=>p.1)=(kvs.map (λp=>p.1)).map λi=>Dl i 0 by simp[dz],mO,se a2 a3]⟩
 exact h _ _ z.1 z.2
end
open PySem PySem.W PyProof.Rows PySem.Calls PyProof.V PySem.Spec PySem.SeqAt
theorem xj (v:c_):(er v== .none)=(v== .none):=by cases v<;>rfl
theorem sq (P:DF):nsIn (KF P) 533 "scalar"=a_ (a_ (.ref 462)):=by kernel_rfl
theorem sr (P:DF):∃es n,(KF P).lookup 533=a_ ⟨.type "dict",h_,.dict es n, #[]⟩/\KeysLit P es.toList:=⟨_,_,rfl,by
 intros P;refine⟨⟨_,_,rfl,rfl⟩,⟨_,_,rfl,rfl⟩,⟨_,_,rfl,rfl⟩,⟨_,_,rfl,rfl⟩,⟨_,_,rfl,rfl⟩,⟨_,_,rfl,rfl⟩,⟨_,_,rfl,rfl⟩,⟨_,_,rfl,rfl⟩,⟨_,_,rfl,rfl⟩,⟨_,_,rfl,rfl⟩,⟨_,_,rfl,rfl⟩,⟨_,_,rfl,rfl⟩,trivial⟩⟩
section
variable{B:aS}{A:DJ}{E:c_->i'->Prop}
theorem su {h:Fu}:∀bs:b_ Dm,ReadsAll h (bs.map E') (bs.map EP) []
 | []=>.nil
 |b::r=>by
  have:=ReadsAll.cons (Reads.bool (h:=h) b) (su (h:=h) r)
  assumption
theorem mR (x:IsL h a (bs.map E').toArray n):Reads h (.ref a) (.list (bs.map EP)) [a]:=
 Reads.list x rfl rfl (by simpa using su bs)
theorem sy:∀ns:b_ Dm,FN (ns.map EP)=e_
 | []=>by simp[FN]
 |n::r=>by exact(sy r)
theorem sA:∀ns:b_ Dm,FE (ns.map EP)<=1
 | []=>by simp[FE]
 |n::r=>by
  have:=sA r;simp only [n_,FE,FC];walk_at "o"
theorem mS (ns:b_ Dm):shaped (.list (ns.map EP))=e_:=by
 have h1:=sA ns;have h2:FC (.list (ns.map EP))<=64:=by simp only [FC];walk_at "o"
 show(GK (.list (ns.map EP))&&decide (FC (.list (ns.map EP))<=64))=e_;rw[u_];exact⟨by simp only [GK];exact sy ns,E_ h2⟩
theorem pz:∀ns ms:b_ Dm,noMixAll (ns.map EP) (ms.map EP)=e_
 | [],[]=>by simp[noMixAll]
 | [],_::_=>by exact rfl
 |_::_,[]=>by exact rfl
 |_::r,_::q=>by exact(pz r q)
theorem pA:∀ns ms:b_ Dm,Fa (ns.map EP) (ms.map EP)=(ns.map E'==ms.map E')
 | [],[]=>by simp[Fa]
 | [],_::_=>by exact rfl
 |_::_,[]=>by exact rfl
 |n::r,k::q=>by
  simp only [n_,Fa,FF,pA r q,Jb];congr 1;cases n<;>cases k<;>rfl
theorem mT (bs:b_ Dm):(bs.map E').map er=bs.map E':=by exact C_
theorem xk {b:d_}{Q:c_->i'->Prop}(hu:A.units+64<IF)(S:St prog w Zb6 Zb9 env fm Z B s)(e:Z a=a_ (.lst xs))(e2:Z b=a_ (.lst ys))(hi:xs.all gP=e_)(hj:ys.all gP=e_)
 (h:Q (.bool (xs==ys)) s):wpAny (A_ prog w) A (EX .Eq (.ref a) (.ref b)) Q E s:=by
 refine aY (S.isL e) ?_;rintro⟨l⟩ n hl m;refine aY (S.isL e2) ?_;rintro⟨l2⟩ n2 JX m2;dsimp only at m m2;subst m m2;refine xE (mN hi) ?_;rintro bs rfl;refine xE (mN hj) ?_;rintro cs rfl;refine eq_dataH_same (mR hl) (mR JX) (mS bs) (mS cs) hu (by simp only [noMix];exact pz bs cs) ?_;simp only [FF];rw[pA];rw[mT,mT]at h;exact h
theorem xl {b:d_}{Q:c_->i'->Prop}(hu:A.units+64<IF)(S:St prog w Zb6 Zb9 env fm Z B s)(e:Z a=a_ (.lst xs))(e2:Z b=a_ (.lst ys))(hi:xs.all gP=e_)(hj:ys.all gP=e_)
 (h:Q (.bool (!(xs==ys))) s):wpAny (A_ prog w) A (EX .NotEq (.ref a) (.ref b)) Q E s:=by
 refine aY (S.isL e) ?_;rintro⟨l⟩ n hl m;refine aY (S.isL e2) ?_;rintro⟨l2⟩ n2 JX m2;dsimp only at m m2;subst m m2;refine xE (mN hi) ?_;rintro bs rfl;refine xE (mN hj) ?_;rintro cs rfl;refine ne_dataH_same (mR hl) (mR JX) (mS bs) (mS cs) hu (by simp only [noMix];exact pz bs cs) ?_;simp only [FF];rw[pA];rw[mT,mT]at h;exact h
theorem mU (h:(vs.map er).all gQ=e_):∃l:b_ (Str×Tok),vs=l.map (λp=>En p.1 p.2)/\l.all (λp=>Ea p.1)=e_:=by
 induction vs with
 |nil=>exact⟨[],rfl,rfl⟩
 |cons v r ih=>
  rw[n_,D5,u_]at h;refine ac (ih h.2) ?_;rintro l rfl hl;cases v with
  |str s t=>exact⟨(s,t)::l,rfl,by rw[D5,hl,Bool.and_true];exact h.1⟩
  |_=>exact absurd h.1 El
theorem lp {h:Fu}:∀l:b_ (Str×Tok),ReadsAll h (l.map λp=>En p.1 p.2) (l.map λp=>Fs p.1) []
 | []=>.nil
 |b::r=>by
  have:=ReadsAll.cons (Reads.str (h:=h) b.1 b.2) (lp (h:=h) r)
  assumption
theorem sB:∀l:b_ (Str×Tok),l.all (λp=>Ea p.1)=e_->FN (l.map λp=>Fs p.1)=e_
 | [],_=>by simp[FN]
 |n::r,h=>by
  rw[D5,u_]at h;simp[FN,GK,sB r h.2,h.1]
theorem sC:∀l:b_ (Str×Tok),FE (l.map λp=>Fs p.1)<=1
 | []=>by simp[FE]
 |n::r=>by
  have:=sC r;simp only [n_,FE,FC];walk_at "o"
theorem mV (l:b_ (Str×Tok))(hl:l.all (λp=>Ea p.1)=e_):shaped (.list (l.map λp=>Fs p.1))=e_:=by
 have h1:=sC l;have h2:FC (.list (l.map λp=>Fs p.1))<=64:=by simp only [FC];walk_at "o"
 show(GK (.list (l.map λp=>Fs p.1))&&decide (FC (.list (l.map λp=>Fs p.1))<=64))=e_;rw[u_];exact⟨by simp only [GK];exact sB l hl,E_ h2⟩
theorem pB:∀l k:b_ (Str×Tok),noMixAll (l.map λp=>Fs p.1) (k.map λp=>Fs p.1)=e_
 | [],[]=>by simp[noMixAll]
 | [],_::_=>by exact rfl
 |_::_,[]=>by exact rfl
 |_::r,_::q=>by exact(pB r q)
theorem pC:∀l k:b_ (Str×Tok),Fa (l.map λp=>Fs p.1) (k.map λp=>Fs p.1)=((l.map λp=>En p.1 p.2).map er==(k.map λp=>En p.1 p.2).map er)
 | [],[]=>by simp[Fa]
 | [],_::_=>by exact rfl
 |_::_,[]=>by exact rfl
 |n::r,k::q=>by
  simp only [n_,Fa,FF,pC r q,Jb];congr 1;by_cases e:n.1=k.1
  ·rw[e,C']
   exact(C' _).symm
  ·rw[r'.mpr e]
   exact(r'.mpr λh=>e (De (congrArg fX (show En n.1 0=En k.1 0 from h)))).symm
theorem xm {b:d_}{Q:c_->i'->Prop}(hu:A.units+64<IF)(S:St prog w Zb6 Zb9 env fm Z B s)(e:Z a=a_ (.lst xs))(e2:Z b=a_ (.lst ys))(hi:xs.all gQ=e_)(hj:ys.all gQ=e_)
 (h:Q (.bool (xs==ys)) s):wpAny (A_ prog w) A (EX .Eq (.ref a) (.ref b)) Q E s:=by
 refine aY (S.isL e) ?_;rintro⟨l⟩ n hl m;refine aY (S.isL e2) ?_;rintro⟨l2⟩ n2 JX m2;dsimp only at m m2;subst m m2;refine ac (mU hi) ?_;rintro bs rfl hb;refine ac (mU hj) ?_;rintro cs rfl hc;refine eq_dataH_same (Reads.list hl rfl rfl (by simpa using lp bs)) (Reads.list JX rfl rfl (by simpa using lp cs)) (mV bs hb) (mV cs hc) hu (by simp only [noMix];exact pB bs cs) ?_;simp only [FF];rw[pC];exact h
theorem xo {b:d_}{Q:c_->i'->Prop}(hu:A.units+64<IF)(S:St prog w Zb6 Zb9 env fm Z B s)(e:Z a=a_ (.lst xs))(e2:Z b=a_ (.lst ys))(hi:xs.all gQ=e_)(hj:ys.all gQ=e_)
 (h:Q (.bool (!(xs==ys))) s):wpAny (A_ prog w) A (EX .NotEq (.ref a) (.ref b)) Q E s:=by
 refine aY (S.isL e) ?_;rintro⟨l⟩ n hl m;refine aY (S.isL e2) ?_;rintro⟨l2⟩ n2 JX m2;dsimp only at m m2;subst m m2;refine ac (mU hi) ?_;rintro bs rfl hb;refine ac (mU hj) ?_;rintro cs rfl hc;refine ne_dataH_same (Reads.list hl rfl rfl (by simpa using lp bs)) (Reads.list JX rfl rfl (by simpa using lp cs)) (mV bs hb) (mV cs hc) hu (by simp only [noMix];exact pB bs cs) ?_;simp only [FF];rw[pC];exact h
theorem xq {op:CmpOp}{a b:c_}{c:Dm}{Q:c_->i'->Prop}(S:St prog w Zb6 Zb9 env fm Z B s)(hu:A.units+64<IF)(e:jk Z op (er a) (er b)=a_ c)
 (h:∀s',St prog w Zb6 Zb9 env fm Z B s'->Q (.bool c) s'):wpAny (A_ prog w) A (EX op a b) Q E s:=by
 intros Z Zb6 Zb9 s fm env prog w B A E op a b c Q;unfold jk at e;cases ia:fN (er a)with
 |some i=>
  intros i;rw[ia]at e;refine ac (t_.mp e) ?_;clear e;intro j ja e;intros j;refine xE (jp ia) ?_;rintro t rfl;intros t;refine xE (jp ja) ?_;rintro u rfl;cases op<;>first |(exact(ns e).elim;done) |(cases e;skip)
  ·exact P.eq_int (by have:=h s S;rw[show decide (i=j)=(i==j)from by rw[Bool.eq_iff_iff];simp]at this;exact this)
  ·exact P.ne_int (by have:=h s S;rw[show(!decide (i=j))=(i !=j)from by rw[Bool.eq_iff_iff];simp]at this;exact this)
  ·exact P.lt_int (h s S)
  ·exact P.le_int (h s S)
  ·exact P.gt_int (h s S)
  ·exact P.ge_int (h s S)
 |none=>
  rw[ia]at e;cases sa:fX (er a)with
  |some i=>
   rw[sa]at e;refine ac (t_.mp e) ?_;clear e;intro j ja e;refine xE (lf sa) ?_;rintro t rfl;refine xE (lf ja) ?_;rintro u rfl;cases op<;>first |(exact(ns e).elim;done) |(cases e;skip)
   ·exact PyProof.Rows.eq_str (h s S)
   ·exact PyProof.Rows.ne_str (h s S)
  |none=>
   rw[sa]at e;refine ac (t_.mp e) ?_;clear e;intro x hx e;intros x;refine ac (t_.mp e) ?_;clear e;intro y hy e;intros y;refine ac (t_.mp e) ?_;clear e;intro xs q1 e;intros xs;refine ac (t_.mp e) ?_;clear e;intro ys q2 e;intros ys;have:=jX hx;subst this;have:=jX hy;subst this;have q1:=oP q1;have q2:=oP q2;split at e
   ·rename _=e_=>q3
    rw[FD,FD,u_,u_,u_]at q3;cases op<;>first |(exact(ns e).elim;done) |(cases e;skip)
    ·rcases q3 with (⟨i1,i2⟩ |⟨i1,i2⟩) |⟨i1,i2⟩
     ·exact wW hu S q1 q2 i1 i2 (h s S)
     ·exact xk hu S q1 q2 i1 i2 (h s S)
     ·exact xm hu S q1 q2 i1 i2 (h s S)
    ·rcases q3 with (⟨i1,i2⟩ |⟨i1,i2⟩) |⟨i1,i2⟩
     ·exact wX hu S q1 q2 i1 i2 (h s S)
     ·exact xl hu S q1 q2 i1 i2 (h s S)
     ·exact xo hu S q1 q2 i1 i2 (h s S)
   ·cases e
theorem sD {a b:c_}{c:Dm}(e:mA (er a) (er b)=a_ c):b=.none/\c=(a== .none):=by
 intros a b c;unfold mA at e;split at e
 ·rename _=PySem.Value.none=>q;cases e;exact⟨pe q,xj a⟩
 ·exact(ns e).elim
theorem sE {a b:c_}{c:Dm}{Q:c_->i'->Prop}(S:St prog w Zb6 Zb9 env fm Z B s)(e:iR Z (er a) (er b)=a_ c):
 ((∀s',St prog w Zb6 Zb9 env fm Z B s'->Q (.bool c) s')->wpAny (A_ prog w) A (EX .In a b) Q E s)/\((∀s',St prog w Zb6 Zb9 env fm Z B s'->Q (.bool (!c)) s')->wpAny (A_ prog w) A (EX .NotIn a b) Q E s):=by
 cases b<;>first |(exact(ns e).elim;done) |skip
 ·revert S;intros Z Zb6 Zb9 s fm env prog w B A E a c Q a_1
  rename d_=>x
  rw[show er (.ref x)=.ref x from rfl]at e;unfold iR at e;dsimp only at e;cases q:Z x with
  |none=>rw[q]at e;exact(ns e).elim
  |some o=>
  intros o;rw[q]at e;cases o with
  |dic es n=>
   intros es n;dsimp only at e;split at e
   ·rename _=e_=>hk
    cases e;rw[jY]at hk;rw[ix];exact⟨λh=>w9 S q hk h,λh=>xa S q hk h⟩
   ·exact(ns e).elim
  |lst xs=>
   intros xs;dsimp only at e;split at e
   ·rename _=e_=>hk
    cases e;rw[u_]at hk;refine xE (by cases a<;>first |exact⟨_,rfl⟩ |cases hk.1:∃k,er a=.int k 0) λk Sf=>?_;refine xE (fZ Sf) ?_;rintro t rfl;exact⟨λh=>wU S q hk.2 (h s S),λh=>wV S q hk.2 (h s S)⟩
   ·exact(ns e).elim
  |_=>exact(ns e).elim
theorem pD {op:CmpOp}{a b:c_}{c:Dm}{Q:c_->i'->Prop}(S:St prog w Zb6 Zb9 env fm Z B s)(hu:A.units+64<IF)(e:dI Z op (er a) (er b)=a_ c)
 (h:∀s',St prog w Zb6 Zb9 env fm Z B s'->Q (.bool c) s'):wpAny (A_ prog w) A (EX op a b) Q E s:=by
 cases op<;>first |(exact xq S hu e h;done) |skip
 ·refine xA (sD e) ?_;rintro rfl rfl
  exact is_none (h s S)
 ·refine ac (j_.mp e) ?_;rintro c' e' rfl
  refine xA (sD e') ?_;rintro rfl rfl;exact isNot_none (h s S)
 ·exact(sE S e).1 h
 ·refine ac (j_.mp e) ?_;rintro c' e' rfl
  exact(sE S e').2 h
theorem sF {k:Dm->Prop}{Q:Dm->i'->Prop}(S:St prog w Zb6 Zb9 env fm Z B s)(e:fA Z (er v) k)
 (h:∀b s',k b->St prog w Zb6 Zb9 env fm Z B s'->Q b s'):wpAny (A_ prog w) A (truthy v) Q E s:=by
 cases v<;>first |(exact e.elim;done) |skip
 ·exactλU U U=>h _ s e S
 ·exact FO (h _ s e S)
 ·rename d_=>x
  unfold fA er at e;dsimp only at e;cases q2:Z x with
  |none=>rw[q2]at e;exact e.elim
  |some o=>
  rw[q2]at e;cases o with
  |lst xs=>exact wY S q2 e.1 λs' S'=>h _ s' e.2 S'
  |_=>exact e.elim
theorem xt {a b:Int}(ha:kQ a=e_)(hb:kQ b=e_):IntMulOk a b:=by
 unfold kQ at ha hb;rw[Ei]at ha hb;exact IntMulOk.of_left (intBits_le_64 (by walk_at "ca") (by walk_at "cb"))
theorem sG (h:0<j)(g:j<1000000):j.natAbs<1073741824:=by omega
theorem xu {a b:c_}{R:bC}{Q:c_->i'->Prop}(D:aQ w Zb6 mg mb)(S:St prog w Zb6 Zb9 env fm Z B s)(e:gC Z op (er a) (er b) R)
 (h:∀u Z' s',R (er u) Z'->St prog w Zb6 Zb9 env fm Z' B s'->Q u s'):wpAny (A_ prog w) A (binaryOp op a b) Q E s:=by
 intros Z Zb6 Zb9 s fm mg mb env prog w op B A E a b R Q;unfold gC at e;cases ia:fN (er a)with
 |some i=>
  intros i;rw[ia]at e;refine ac (mz e) ?_;clear e;intro j ja e;refine xE (jp ia) ?_;rintro t rfl;refine xE (jp ja) ?_;rintro u rfl;cases op<;>first |(exact e.elim;done) |skip
  ·exact P.add_int (h _ _ _ e (S.tok _))
  ·exact P.sub_int (h _ _ _ e (S.tok _))
  ·exact P.mul_int (h _ _ _ e.2.2 (S.tok _)) (xt e.1 e.2.1)
  ·exact PyProof.Rows.mod_int (Hu e.1) (h _ _ _ (by show R (.int (i.fmod j) 0) Z;rw[Int.fmod_eq_emod_of_nonneg _ (F_ e.1)];exact e.2) (S.tok _))
  ·refine bP e ?_;clear e;rintro rfl rfl e
   exact PyProof.Rows.pow_int (by decide) (by decide+kernel) (h _ _ _ e (S.tok _))
  ·exact PyProof.Rows.floordiv_int (Hu e.1) (h _ _ _ (by show R (.int (i.fdiv j) 0) Z;rw[HG _ (F_ e.1)];exact e.2.2) (S.tok _)) (.inl (PyProof.noPylong_small (sG e.1 e.2.1)))
 |none=>
  rw[ia]at e;cases sa:fX (er a)with
  |some i=>
   rw[sa]at e;refine ac (mz e) ?_;clear e;intro j ja e;refine xE (lf sa) ?_;rintro t rfl;refine xE (lf ja) ?_;rintro u rfl;obtain⟨rfl,hz,e⟩:=e;exact PyProof.Rows.add_str (λt' tk=>h _ _ _ e (S.tok _)) (by rw[DB];walk_at "o")
  |none=>
   rw[sa]at e;obtain⟨x,y,xs,ys,ea,eb,q1,q2,rfl,hz,e⟩:=e;have:=cU ea;subst this;have:=cU eb;subst this;exact wI D S q1 q2 hz λl s' hl S'=>h _ _ _ (e l hl) S'
theorem sH {a b:c_}{k:c_->Prop}{Q:c_->i'->Prop}(S:St prog w Zb6 Zb9 env fm Z B s)(e:jo op (er a) (er b) k)
 (h:∀u s',k (er u)->St prog w Zb6 Zb9 env fm Z B s'->Q u s'):wpAny (A_ prog w) A (inplaceOp op a b) Q E s:=by
 refine ac (mz e) ?_;clear e;intro i ia e;refine ac (mz e) ?_;clear e;intro j ja e;refine xE (jp ia) ?_;rintro t rfl;refine xE (jp ja) ?_;rintro u rfl;cases op<;>first |(exact e.elim;done) |skip
 ·exact P.iadd_int (h _ _ e (S.tok _))
 ·exact P.isub_int (h _ _ e (S.tok _))
 ·exact PyProof.Rows.ifloordiv_int (Hu e.1) (h _ _ (by show k (.int (i.fdiv j) 0);rw[HG _ (F_ e.1)];exact e.2.2) (S.tok _)) (.inl (PyProof.noPylong_small (sG e.1 e.2.1)))
theorem xv {value slice:Expr}{i w':c_}{Q:c_->i'->Prop}(D:aQ w Zb6 mg mb)(S:St prog w Zb6 Zb9 env fm Z B s)(e:iQ Z (er v) (er i)=a_ w')(hs:subscripted slice g' v i=operate [v,i] (IW v i))
 (h:∀u s',er u=w'->St prog w Zb6 Zb9 env fm Z B s'->Q u s'):wpAny (A_ prog w) A (subscriptTail value slice v i) Q E s:=by
 cases v<;>first |(exact(ns e).elim;done) |skip
 revert D S h;intros Z Zb6 Zb9 s fm mg mb env prog w B A E value slice i w' Q s_1 tok
 rotate_left 1
 ·intros a
  rename d_=>x
  rw[show er (.ref x)=.ref x from rfl]at e;unfold iQ at e;dsimp only at e;cases q:Z x with
  |some o=>
   intros o;rw[q]at e;cases o with
   |lst xs=>
    dsimp only at e;split at e
    · (rename _=Dl _ _=>ei;rename Hw=>t;rename Int=>k)
      refine xE (fZ ei) ?_;rintro t rfl;split at e
      ·rename And _ _=>hk
       refine aY (S.isL q) λvs n hl m=>?_;exact Ic (s:=s) ⟨_,hl,rfl⟩ GL.lookup (wJ S q hk.1 hk.2 e λu hu=>h u s hu S) hs
      ·exact(ns e).elim
    ·exact(ns e).elim
   |tup xs=>
    dsimp only at e;split at e
    · (rename _=Dl _ _=>ei;rename Hw=>t;rename Int=>k)
      refine xE (fZ ei) ?_;rintro t rfl;split at e
      ·rename And _ _=>hk
       refine aY (S.rep.om _ _ q) λvs n hl m=>?_;exact Ic (s:=s) ⟨_,hl,rfl⟩ slot_tuple_getitem.lookup (wK S q hk.1 hk.2 e λu hu=>h u s hu S) hs
      ·exact(ns e).elim
    ·exact(ns e).elim
   |dic es n=>
    dsimp only at e;split at e
    ·rename _=e_=>hk
     rw[jY]at hk;rw[ix]at e;refine xA (S.rep.om _ _ q) λU dd=>?_;have ty:s.TypeIs (.ref x) "dict":=by rcases dd with ⟨kvs,d,_⟩ |⟨kvs,d,_⟩ <;>exact d.dictOf.typeIs
     exact Ic ty HX.lookup (w8 S q hk e λu s' hu S'=>h u s' hu S') hs
    ·exact(ns e).elim
   |_=>exact(ns e).elim
  |none=>
   rw[q]at e;dsimp only at e;split at e
   ·rename _=e_=>q
    cases e;rw[u_,C9,C9,ix]at q;refine xA q ?_;clear q;rintro rfl ei;refine xE (pc ei) ?_;rintro t rfl;refine aY (sr w.params) λes n hl hk=>?_;have hm:=mapOf_K (prog:=prog) (S.rep.in D) hl hk;exact Ic hm.typeIs HX.lookup (G1 (strKind_is prog w _ t) hm (find_K hl (sq w.params)) (h _ _ rfl (S.tok _))) hs
   ·exact(ns e).elim
 ·rename Str=>x
  unfold iQ er at e;dsimp only at e;split at e
  ·intros i_1 tok_1
   (rename _=Dl _ _=>ei;rename Hw=>t';rename Int=>k)
   refine xE (fZ ei) ?_;rintro t' rfl;split at e
   ·rename And _ _=>hk
    cases e;exact Ic (s:=s) rfl PySem.F.slot_str_getitem.lookup (PySem.SB.getItem (by unfold fitsSsize;rw[DQ (by walk_at "cc"),DQ (by walk_at "cd")];rfl) hk.2.2 (h _ _ rfl (S.tok _))) hs
   ·exact(ns e).elim
  ·exact(ns e).elim
theorem xw {value slice:Expr}{i w':c_}{Q:c_->i'->Prop}(D:aQ w Zb6 mg mb)(S:St prog w Zb6 Zb9 env fm Z B s)(e:d5 Z (er v) (er i) w')(hs:subscripted slice g' v i=operate [v,i] (IW v i))
 (h:∀u s',er u=w'->St prog w Zb6 Zb9 env fm Z B s'->Q u s'):wpAny (A_ prog w) A (subscriptTail value slice v i) Q E s:=by
 rcases e with e|⟨ev,ei,rfl⟩
 ·exact xv D S e hs h
 ·have:=cU ev;subst this
  rw[ix]at ei;refine xE (pc ei) ?_;rintro t rfl;refine aY (sr w.params) λes n hl hk=>?_;have hm:=mapOf_K (prog:=prog) (S.rep.in D) hl hk;exact Ic hm.typeIs HX.lookup (G1 (strKind_is prog w _ t) hm (find_K hl (sq w.params)) (h _ _ rfl (S.tok _))) hs
end
section
set_option backward.match.sparseCases true
open Classical in
noncomputable def rst (Z:ak)(h:Fu):aS:=λb=>if own Z b then h_ else h.get? b
noncomputable def lq (sc:DR)(bs:b_ (Str×Value))(Z:ak)(k:Fm->ak->Prop):Prop:=
 k6 bs (eN sc.names) Z λcl Z=>k ⟨bs.filter λx=>kindOf sc x.1==a_ .local,cl⟩ Z
noncomputable def mW:Ih->Ih
 |.ret v=>.ret (er v)
 |f=>f
noncomputable def iz (Q:bC):cT:=λfl U Z=>match fl with
 |.ret v=>Q v Z
 |.next=>Q .none Z
 |_=>False
theorem jZ:∀ (names:b_ (Str×NameKind)) (n:Nat) (JP:b_ (Str×Addr)),(FJ n names JP).map (λp=>p.1)=eN names++JP.map (λp=>p.1)
 | [],_,_=>rfl
 |(x,k)::r,n,JP=>by
  unfold FJ;split
  ·rename _=>h
   rw[jZ r];unfold eN;simp[h]
  ·rename _=>h
   rw[jZ r];unfold eN;simp[h]
section
variable{B B':aS}{A:DJ}{E:c_->i'->Prop}
theorem j0 {b:d_}{o:Obj}(e:rst Z h b=a_ o):¬own Z b/\h.get? b=a_ o:=by
 unfold rst at e;split at e
 ·exact(ns e).elim
 ·rename Not _=>q;exact⟨q,e⟩
theorem d7 {b:d_}{o:Obj}(n:¬own Z b)(e:h.get? b=a_ o):rst Z h b=a_ o:=by
 unfold rst;exact((p_ n).trans e)
theorem aN.rst (R:aN prog w Zb6 Z B h):aN prog w Zb6 Z (rst Z h) h where
 om:=R.om
 keep b o e:=(j0 e).2
 apart b o e:=(j0 e).1
 base b o e:=d7 (R.apart b o (R.base b o e)) (R.get e)
 sep:=R.sep
 inj:=R.inj
theorem aN.back (R:aN prog w Zb6 Z B h)(R':aN prog w Zb6 Z' (Internal.rst Z h) h'):aN prog w Zb6 Z' B h':=
 R'.less (λb o e=>d7 (R.apart b o e) (R.keep b o e)) R.base
theorem St.back (S:St prog w Zb6 Zb9 env fm Z B s)(S':St prog w Zb6 Zb9 JR JN Z' (rst Z s.heap) s'):St prog w Zb6 Zb9 env fm Z' B s':=by
 refine ac S.ns ?_;rintro m ⟨o,es,ep,hL,h2⟩ hl;have hr:rst Z s.heap env.locals=a_ o:=d7 S.free hL;exact⟨S.rep.back S'.rep,⟨m,⟨o,es,ep,S'.rep.keep _ _ hr,h2⟩,hl⟩,S'.rep.apart _ _ hr,S.priv,S.cel,S'.same⟩
theorem isNew.own (h:isNew Z c):Z c=h_:=h.1
theorem aN.newCell (R:aN prog w Zb6 Z B h){u:m_ c_}(n1:¬own Z c)(n2:B c=h_)(m:h.IsCell c u):aN prog w Zb6 (Z.set c (.cel (u.map er))) B h:=
 R.adopt n1 n2 (λd q=>by exact(ns q).elim) ⟨u,m,rfl⟩
theorem i4 (hd:bD o=h_)(b:d_)(n:Z c=h_):own (Z.set c o) b↔(b=c\/own Z b):=by
 revert hd;intros c Z o b;constructor
 ·rintro⟨a,o',e,hb⟩
  intros a o';by_cases q:a=c
  ·subst q;rw[ad]at e;cases e
   rcases hb with hb|hb
   ·exact .inl hb
   ·exact(ns (hd.symm.trans hb)).elim
  ·rw[bA _ _ q]at e;exact .inr ⟨a,o',e,hb⟩
 ·rintro(rfl|⟨a,o',e,hb⟩)
  ·exact⟨b,o,ad _ _ _,.inl rfl⟩
  ·refine⟨a,o',?_,hb⟩
   rw[bA _ _ (λq=>by exact(ns (n.symm.trans (q▸e))))];exact e
theorem sI {bs:b_ (Str×Value)}{h:Fu}{L:d_}{cm:Str->m_ c_}:∀ (cs:b_ (Str×Addr)) {Z:ak} {k:b_ (Str×Addr)->ak->Prop},aN prog w Zb6 Z B h->
 (∀p∈cs,h.IsCell p.2 (cm p.1)/\¬own Z p.2/\B p.2=h_/\850<=p.2)->(cs.Pairwise λx y=>x.2≠y.2)->(∀x,(cm x).map er=bs.lookup x)->¬own Z L->(∀p∈cs,p.2≠L)->
 k6 bs (cs.map (λp=>p.1)) Z k->∃Z',aN prog w Zb6 Z' B h/\¬own Z' L/\k cs Z'
 | [],Z,k,R,_,_,_,nL,_,x=>⟨Z,R,nL,x⟩
 |(y,c)::r,Z,k,R,hc,hp,hm,nL,hL,x=>by
  rw[Du]at hp;have h1:=hc (y,c) (.head _);have nn:Z c=h_:=by
   cases e:Z c with
   |none=>rfl
   |some o=>exact absurd (dw e) h1.2.1
  have x':=x c ⟨nn,h1.2.2.2⟩;rw[<-hm]at x';obtain⟨Z',R',n',z⟩:=sI r (R.newCell h1.2.1 h1.2.2.1 h1.1) (λp hq=>by
   have h2:=hc p (.tail _ hq);refine⟨h2.1,?_,h2.2.2⟩;rw[i4 rfl _ nn];rintro(q|q)
   ·exact hp.1 p hq q.symm
   ·exact h2.2.1 q) hp.2 hm (by
    rw[i4 rfl _ nn];rintro(q|q)
    ·exact hL _ (.head _) q.symm
    ·exact nL q) (λp hq=>hL p (.tail _ hq)) x'
  exact⟨Z',R',n',z⟩
theorem sJ {kd:Str->m_ NameKind}{f:Str->m_ c_}{x:Str}(hx:kd x≠a_ .local):∀ {bs:b_ (Str×Value)} {m:Str->m_ c_},(bs.map (λp=>p.1)).Nodup->((bindC kd bs m) x).map er=((bs.map λp=>(p.1,er p.2)).lookup x).or ((m x).map er)
 | [],m,_=>rfl
 |(n,v)::r,m,nd=>by
  rw[n_,DK]at nd;unfold bindC;rw[sJ hx (f:=f) nd.2,n_,v_];by_cases q:x=n
  ·subst q
   have:(Id (λp:Str×Value=>(p.1,er p.2)) r).lookup x=h_:=by
    rw[DC];intro p hp;refine ac (i_.mp hp) ?_;rintro p' O1 rfl;exact FA.mpr (λe=>nd.1 (i_.mpr ⟨p',O1,e.symm⟩))
   rw[this,p_ hx,C'];simp
  ·rw[r'.mpr q]
   dsimp only;congr 2;split
   ·rfl
   ·exact p_ q
theorem sK {kd:Str->m_ NameKind}{x:Str}(hx:kd x=a_ .local):∀ {bs:b_ (Str×Value)} {m:Str->m_ c_},(bs.map (λp=>p.1)).Nodup->((bindL kd bs m) x).map er=((bs.map λp=>(p.1,er p.2)).lookup x).or ((m x).map er)
 | [],m,_=>rfl
 |(n,v)::r,m,nd=>by
  rw[n_,DK]at nd;unfold bindL;rw[sK hx nd.2,n_,v_];by_cases q:x=n
  ·subst q
   have:(Id (λp:Str×Value=>(p.1,er p.2)) r).lookup x=h_:=by
    rw[DC];intro p hp;refine ac (i_.mp hp) ?_;rintro p' O1 rfl;exact FA.mpr (λe=>nd.1 (i_.mpr ⟨p',O1,e.symm⟩))
   rw[this,z_ hx,C'];simp
  ·rw[r'.mpr q]
   dsimp only;congr 2;split
   ·exact p_ q
   ·rfl
theorem pH {f:Str×Value->Dm}{x:Str}{v:c_}:∀ {bs:b_ (Str×Value)},(bs.filter f).lookup x=a_ v->(bs.map (λp=>p.1)).Nodup->bs.lookup x=a_ v/\f (x,v)=e_
 | [],h,_=>by exact(ns h).elim
 |(n,u)::r,h,nd=>by
  rw[n_,DK]at nd;rw[v_];by_cases q:f (n,u)=e_
  ·rw[DO q,v_]at h
   split at h
   ·rename _=e_=>e;cases h;exact⟨rfl,by exact(C9.mp e)▸q⟩
   ·rename _=g'=>e;exact pH h nd.2
  ·rw[DP q]at h
   have z:=pH h nd.2;have:(x==n)=g':=by
    rw[r'];rintro rfl;exact nd.1 (i_.mpr ⟨_,dP z.1,rfl⟩)
   rw[this];exact z
theorem pI {α:Type}{x:Str}{v:α}:∀ {l:b_ (Str×α)},(l.map (λp=>p.1)).Nodup->(x,v)∈l->l.lookup x=a_ v
 |(y,u)::r,nd,h=>by
  rw[n_,DK]at nd;rw[v_];rcases f_.mp h with e|h
  ·cases e;rw[C']
  ·have:(x==y)=g':=by
    rw[r'];intro q;exact nd.1 (i_.mpr ⟨_,h,q⟩)
   rw[this];exact pI nd.2 h
noncomputable def Kt (prog:Fc)(w:Ew)(Zb6:Fu)(Zb9:i')(env:Env)(fm:Fm)(B:aS)(Q:bC)(R:c_->i'->Prop):Prop:=∀ (u:c_) (Z':ak) (s':i'),Q (er u) Z'->St prog w Zb6 Zb9 env fm Z' B s'->R u s'
noncomputable def mY (prog:Fc)(w:Ew)(Zb6:Fu)(Zb9:i')(env:Env)(fm:Fm)(B:aS)(Q:gB)(R:Dm->i'->Prop):Prop:=∀ (b:Dm) (Z':ak) (s':i'),Q b Z'->St prog w Zb6 Zb9 env fm Z' B s'->R b s'
noncomputable def gj (prog:Fc)(w:Ew)(Zb6:Fu)(Zb9:i')(env:Env)(B:aS)(Q:cT)(R:Ih->i'->Prop):Prop:=∀ (fl:Ih) (fm:Fm) (Z':ak) (s':i'),Q (mW fl) fm Z'->St prog w Zb6 Zb9 env fm Z' B s'->R fl s'
noncomputable def gm (qt:Dm)(prog:Fc)(w:Ew)(Zb6:Fu)(Zb9:i')(d:Nat)(f:d_)(W:Wf):Prop:=
 ∀ {env:Env} {fm:Fm} {Z:ak} {B:aS} {s:i'} {A:DJ} {vs:b_ c_} {Q:bC} {R:Ja->i'->Prop},St prog w Zb6 Zb9 env fm Z B s->a0 qt d A->W (vs.map er) Z Q->
  Kt prog w Zb6 Zb9 env fm B Q (λu s'=>R (.ok (.ret u)) s')->Hr (A_ prog w) A (.call (.ref f) ⟨vs,[]⟩) R s
theorem gm.call {d:Nat}{W:Wf}(H:gm qt prog w Zb6 Zb9 d f W)(S:St prog w Zb6 Zb9 env fm Z B s)(hA:a0 qt d A){R:c_->i'->Prop}(h:W (vs.map er) Z Q)(k:Kt prog w Zb6 Zb9 env fm B Q R):
 wpAny (A_ prog w) A (call (.ref f) vs) R E s:=FB (H S hA h k)
noncomputable def sL (qt:Dm)(prog:Fc)(w:Ew)(Zb6:Fu)(Zb9:i')(d:Nat)(sc:DR)(body:b_ Gf)(V:Fm->ak->cT->Prop):Prop:=
 ∀ {env:Env} {fm:Fm} {Z:ak} {B:aS} {s:i'} {A:DJ} {Q:cT} {E:c_->i'->Prop} {R:Ih->i'->Prop},bL env sc->St prog w Zb6 Zb9 env fm Z B s->a0 qt d A->V fm Z Q->
  gj prog w Zb6 Zb9 env B Q R->wpAny (A_ prog w) A (execs body env) R E s
theorem sM (bs:b_ (Str×Value))(y:Str):(bs.lookup y).map er=(bs.map λp=>(p.1,er p.2)).lookup y:=by
 induction bs with
 |nil=>rfl
 |cons p r ih=>
  intros y p r;rw[n_,v_,v_];split
  ·rfl
  ·exact ih
theorem pJ {f:d_}{oc:c_}{od:m_ d_}{Lq:Gc (m_ c_)}{fd:H_}{bs:b_ (Str×Value)}{V:Fm->ak->Prop}{R:Ja->i'->Prop}(D:aQ w Zb6 mg mb)(R0:aN prog w Zb6 Z B s.heap)(TI:mM Zb9 s)(LS:A.depth<Hy)
 (hl:(KF w.params).lookup f=a_ ⟨oc,od,.func fd,Lq⟩) (hb:fd.body=.stmts body) (NI:fd.closure=[]) (hg:fd.globals=mainGlobals) (Pj:fd.builtins=E7) (QB:s.heap.CodeRec fd.code fd.qualname)
 (hk:fd.scope.kind=.function) (Qc:fd.scope.isCoroutine=g') (MW:fd.scope.isGenerator=g') (Pu:(fd.scope.names.map (λp=>p.1)).Nodup)
 (h8:kindOf fd.scope "told"=a_ .local->fd.code=.ref 823/\fd.qualname="_law_program_right")
 (Tq:∀S,peek (KF w.params) S (Gh fd ⟨vs,[]⟩)=a_ bs) (UF:(bs.map (λp=>p.1)).Nodup) (XN:∀x∈bs,kindOf fd.scope x.1=a_ .local\/kindOf fd.scope x.1=a_ .cell) (WZ:lq fd.scope (bs.map λp=>(p.1,er p.2)) Z V)
 (h:∀JR JN Z' s',bL JR fd.scope->St prog w Zb6 Zb9 JR JN Z' (rst Z s.heap) s'->JR.frame=a_ JR.locals->V JN Z'->
  wpAny (A_ prog w) (A.deeper JR) (execs body JR) (λfl s2=>R (.ok (.ret (match fl with |.ret v=>v|_=>.none))) s2)
   (λe s2=>wpAny (A_ prog w) (A.deeper JR) (leaving JR e) (λU s3=>R (.error e) s3) (λe' s3=>R (.error e') s3) s2) s'):
 Hr (A_ prog w) A (.call (.ref f) ⟨vs,[]⟩) R s:=by
 intros Z vs Zb6 Zb9 s mg mb body prog w B A f oc od Lq fd bs V R;have X:=R0.in D;have ho:=X _ _ hl;refine GV (o:=⟨oc,od,.func fd,Lq⟩) (fd:=fd) LS ho rfl Qc MW hb QB ((kp_binds X Tq) _ _ _ _ ?_);rw[NI];have cellsIn:∀ (n:Nat) x,kindOf fd.scope x=a_ .cell->((FJ n fd.scope.names []).lookup x).isSome=e_:=by
  intro n x hx;have h1:=jZ fd.scope.names n [];rw[Ga,Dz]at h1;have h2:x∈eN fd.scope.names:=by
   unfold eN;rw[JC,i_];exact⟨(x,.cell),DA.mpr ⟨dP hx,rfl⟩,rfl⟩
  rw[<-h1,i_]at h2;refine ac h2 ?_;clear h2;rintro p hp rfl;cases e:(FJ n fd.scope.names []).lookup p.1 with
  |some _=>rfl
  |none=>
   rw[DC]at e;have:=e p hp;simp at this
 refine wpAny_newFunctionEnv_cells hk (λx hx=>?_) λJR he s1 x=>?_
 ·rcases XN x hx with q|q
  ·exact .inl q
  ·exact .inr ⟨q,cellsIn _ _ q⟩
 revert he;intros JR s1;have hns:((FJ (s.heap.objs.size+1) fd.scope.names []).map (λp=>p.1)).Nodup:=by
  rw[jZ,Ga,Dz];unfold eN;exact List.pairwise_reverse.mpr ((Pu.sublist (List.filter_sublist.map _)).imp λh e=>h e.symm)
 have LB:JR.scope=fd.scope:=by rw[he];rfl
 have Ub:JR.locals=s.heap.objs.size:=by rw[he];rfl
 have YZ:JR.cells=FJ (s.heap.objs.size+1) fd.scope.names []:=by rw[he];rfl
 have MK:∀y,JR.kindOf y=kindOf fd.scope y:=λy=>by unfold Env.kindOf;rw[LB];rfl
 have keep:=x.toInCall.keep;refine aY x.done λh1 tk KW U=>?_;intros h1 tk;have R1:aN prog w Zb6 Z (rst Z s.heap) s1.heap:=R0.rst.ext keep;have QS:∀c,s.heap.objs.size<=c->¬own Z c/\rst Z s.heap c=h_/\850<=c:=by
  intro c hc;have no:s.heap.get? c=h_:=by
   cases e:s.heap.get? c with
   |none=>rfl
   |some x=>exact absurd (Dn e) (E8.mpr hc)
  have nr:rst Z s.heap c=h_:=by
   cases e:rst Z s.heap c with
   |none=>rfl
   |some x=>exact(sn (((j0 e).2).symm.trans no)).elim
  refine⟨?_,nr,o_ (R0.big D) hc⟩;rintro q;refine xE (R0.there q) λy hy=>?_;rw[no]at hy;exact(ns hy).elim
 have en:=WZ;unfold lq at en;have NE:eN fd.scope.names=JR.cells.map (λp=>p.1):=by rw[YZ,jZ,Ga,Dz]
 rw[NE]at en;have Sh:∀p∈JR.cells,JR.cells.lookup p.1=a_ p.2:=λp hp=>pI (by rw[YZ];exact hns) hp;have Wj:∀p∈JR.cells,JR.kindOf p.1≠a_ .local:=by
  intro p hp q;rw[MK]at q;have:p.1∈eN fd.scope.names:=by rw[NE];exact Do hp
  unfold eN at this;rw[JC,i_]at this;refine ac this λy hy e=>?_;clear this;rw[DA]at hy;have:fd.scope.names.lookup y.1=a_ y.2:=pI Pu hy.1;rw[e]at this;have q':fd.scope.names.lookup p.1=a_ .local:=q;rw[q']at this;have z:=hy.2;rw[<-De this]at z;exact(ft z).elim
 have hm:∀y,(bindC JR.kindOf bs (λU=>h_) y).map er=(bs.map λp=>(p.1,er p.2)).lookup y\/JR.kindOf y=a_ .local:=by
  intro y;by_cases q:JR.kindOf y=a_ .local
  ·exact .inr q
  ·refine .inl ?_
   rw[sJ (f:=λU=>h_) q UF];simp
 obtain⟨Z',R2,nL,z⟩:=sI (L:=JR.locals) (cm:=λy=>if JR.kindOf y=a_ .local then((bs.lookup y))else bindC JR.kindOf bs (λU=>h_) y) JR.cells R1 (λp hp=>by
  have ab:=QS p.2 (by have h9:JR.locals<p.2:=x.above p.1 p.2 hp;rw[Ub]at h9;exact Fo h9);refine⟨?_,ab⟩;rw[p_ (Wj p hp)];exact x.cell p.1 p.2 (Sh p hp)) x.apart (λy=>by
  rcases hm y with q|q
  ·split
   ·exact sM _ _
   ·exact q
  ·exact(z_ q)▸(sM _ _)) (QS _ (DX Ub.symm)).1 (λp hp=>FZ (x.above p.1 p.2 hp)) en
 have S1:St prog w Zb6 Zb9 JR ⟨(bs.map λp=>(p.1,er p.2)).filter λx=>kindOf fd.scope x.1==a_ .local,JR.cells⟩ Z' (rst Z s.heap) s1:=by
  refine⟨R2,⟨_,x.toInCall.ns,λy v hy=>?_⟩,nL,(QS _ (DX Ub.symm)).2.1,λU U e=>e,?_⟩
  ·refine xA (pH hy (by rw[C_];exact UF)) λh2 h3=>?_
   have kl:JR.kindOf y=a_ .local:=by rw[MK];exact C9.mp h3
   have:=sK kl (bs:=bs) (m:=λU=>h_) UF;rw[h2]at this;exact j_.mp (by exact this)
  ·refine bP TI λa1 a2 a3=>?_;clear TI
   rw[KW];exact⟨a1,a2,a3⟩
 have EO:bL JR fd.scope:=⟨by rw[LB];exact hk,by rw[he];exact hg,by rw[he];exact Pj,λy q=>by rw[MK];exact q,λy q=>by rw[MK];exact q,λy q=>.inl (by rw[MK];exact q),λy q=>by rw[MK];exact q,λq=>by
  refine xA (h8 q) λq1 q2=>?_;rw[he];exact⟨q1,by show _++_=_;rw[q2];rfl⟩⟩
 exact⟨((R0.lim D).keeps keep),Jo (h _ _ _ _ EO S1 (by rw[he];rfl) z)⟩
theorem xx {d:Nat}{oc:c_}{od:m_ d_}{Lq:Gc (m_ c_)}{V:Fm->ak->cT->Prop}{W:Wf}(D:aQ w Zb6 mg mb)
 (hl:(KF w.params).lookup f=a_ ⟨oc,od,.func fd,Lq⟩) (hb:fd.body=.stmts body) (NI:fd.closure=[]) (hg:fd.globals=mainGlobals) (Pj:fd.builtins=E7) (LH:codeIn (KF w.params) fd.code fd.qualname=e_)
 (hk:fd.scope.kind=.function) (Qc:fd.scope.isCoroutine=g') (MW:fd.scope.isGenerator=g') (Pu:(fd.scope.names.map (λp=>p.1)).Nodup)
 (h8:kindOf fd.scope "told"=a_ .local->fd.code=.ref 823/\fd.qualname="_law_program_right") (hB:sL qt prog w Zb6 Zb9 d fd.scope body V)
 (Nc:∀ (vs:b_ c_) Z Q,W (vs.map er) Z Q->∃bs:b_ (Str×Value),(∀S,peek (KF w.params) S (Gh fd ⟨vs,[]⟩)=a_ bs)/\(bs.map (λp=>p.1)).Nodup/\(∀x∈bs,kindOf fd.scope x.1=a_ .local\/kindOf fd.scope x.1=a_ .cell)/\
  lq fd.scope (bs.map λp=>(p.1,er p.2)) Z λfm Z=>V fm Z (iz Q)):gm qt prog w Zb6 Zb9 (d+1) f W:=by
 intro env fm Z B s A vs Q R S hA hW k;refine dZ (Nc vs Z Q hW) λbs Tq UF XN WZ=>?_;refine pJ D S.rep S.same hA.room hl hb NI hg Pj (codeRec_of (S.rep.in D) LH) hk Qc MW Pu h8 Tq UF XN WZ λJR JN Z' s' EO S1 U z=>?_;refine hB EO S1 (hA.deeper JR) z λfl JN Z2 s2 hq S2=>?_;unfold iz at hq;cases fl with
 |ret v=>exact k v Z2 s2 hq (S.back S2)
 |next=>exact k .none Z2 s2 hq (S.back S2)
 |brk=>exact hq.elim
 |cont=>exact hq.elim
end
end
section
variable{B B':aS}{A:DJ}{E:c_->i'->Prop}
theorem a0.under {d:Nat}{C:d_}{vs:b_ c_}(x:a0 qt (d+1) A):a0 qt d (A.under (.builtin "type.__call__" ⟨.ref C::vs,[]⟩)):=by
 refine⟨x.hd,?_,?_⟩
 ·have:=x.dp
  show A.depth+(Code.builtin "type.__call__" ⟨.ref C::vs,[]⟩).weight+2*d<=900;have:(Code.builtin "type.__call__" ⟨.ref C::vs,[]⟩).weight=1:=by kernel_rfl
  walk_at "o"
 ·have:=x.un
  show A.units+(Code.builtin "type.__call__" ⟨.ref C::vs,[]⟩).cUnits+8*d<=9000;have:(Code.builtin "type.__call__" ⟨.ref C::vs,[]⟩).cUnits=1:=by kernel_rfl
  walk_at "o"
theorem xy {d:Nat}{C i:d_}{W:Wf}{vs:b_ c_}(D:aQ w Zb6 mg mb)(hc:cN.lookup C=a_ ms)(hi:ms.lookup (Ev "__init__")=a_ i)(hW:gm qt prog w Zb6 Zb9 d i W)
 (S:St prog w Zb6 Zb9 env fm Z B s) (hA:a0 qt (d+1) A) (h:∀x dd,isNew Z x->W (.ref x::vs.map er) (Z.set x (.inst C dd [])) λv Z'=>v=.none/\Q (.ref x) Z')
 {K:c_->i'->Prop} (k:Kt prog w Zb6 Zb9 env fm B Q K):wpAny (A_ prog w) A (call (.ref C) vs) K E s:=by
 revert D hc hi hW S hA h;intros qt Z Zb6 Zb9 s fm mg mb env ms Q prog w B A E d C i W vs K;have F:=jr hc w.params;have X:=S.rep.in D;have hf:=F.mth _ (dP hi);refine FB ?_;have N:St prog w Zb6 Zb9 env fm (Z.set (s.heap.objs.size+1) (.inst C s.heap.objs.size [])) B {s with heap:=(s.heap.push EW).push (IU C s.heap.objs.size)}:=by
  have k:∀b o,s.heap.get? b=a_ o->((s.heap.push EW).push (IU C s.heap.objs.size)).get? b=a_ o:=λb o e=>j' _ (j' _ e);have G:=S.grow s.toks k;have nu:∀c,s.heap.objs.size<=c->¬own Z c/\B c=h_:=by
   intro c hc;have no:s.heap.get? c=h_:=by
    cases e:s.heap.get? c with
    |none=>rfl
    |some x=>exact absurd (Dn e) (E8.mpr hc)
   constructor
   ·intro q;refine xE (S.rep.there q) λy hy=>?_;rw[no]at hy;exact(ns hy).elim
   ·cases e:B c with
    |none=>rfl
    |some x=>exact(sn ((S.rep.keep _ _ e).symm.trans no)).elim
  have n1:=nu (s.heap.objs.size+1) (EV _);have n2:=nu s.heap.objs.size (DW _);have e1:((s.heap.push EW).push (IU C s.heap.objs.size)).get? (s.heap.objs.size+1)=a_ (IU C s.heap.objs.size):=by
   rw[<-Ek s.heap EW];exact y_ _ rfl
  have e2:((s.heap.push EW).push (IU C s.heap.objs.size)).get? s.heap.objs.size=a_ (Hx [] 0):=j' _ (y_ _ rfl);refine⟨G.rep.adopt n1.1 n1.2 (λd' q=>?_) ⟨e1,[],0,e2,.nil⟩,G.ns,?_,S.priv,S.cel,S.same⟩
  ·cases q;exact⟨n2.1,n2.2,Eb (EE _)⟩
  ·rintro⟨a,o,ea,hb⟩
   refine ac S.ns λm hm U=>?_;by_cases q:a=s.heap.objs.size+1
   ·subst q
    rw[ad]at ea;cases ea;rcases hb with hb|hb
    ·exact absurd (hb▸hm.lt) (E8.mpr (EV _))
    ·exact absurd (De hb▸hm.lt) (DH _)
   ·rw[bA _ _ q]at ea;exact S.free ⟨a,o,ea,hb⟩
 obtain⟨hh,g,dr,t,os⟩:=s;refine make_core (makes_of X F.mks) (GF X hf.1) (λself=>bind_fn X self (C9.mp hf.2.1)) (.inl rfl) ?_;have nx:isNew Z (hh.objs.size+1):=by
  refine⟨?_,o_ (S.rep.big D) (EV _)⟩;cases e:Z (hh.objs.size+1)with
  |none=>rfl
  |some o=>refine xE (S.rep.there (dw e)) λy hy=>?_;exact absurd (Dn hy) (E8.mpr (EV _))
 exact hW (vs:=.ref (hh.objs.size+1)::vs) N (hA.under (C:=C) (vs:=vs)) (h _ _ nx) λu Z' s' hq S'=>⟨pe hq.1,k _ Z' s' hq.2 S'⟩
theorem xB (P:DF):(cP.all λp=>Il (KF P) (.ref p.1))=e_:=by kernel_rfl
theorem xC {i:d_}(h:cP.lookup C=a_ i)(P:DF):Il (KF P) (.ref C)=e_:=l_.mp (xB P) (C,i) (dP h)
section
variable{bm:b_ c_}{q:Str}{N:d_}{bs:b_ c_}{Kp:Dm}{sn:b_ Str}{sub:b_ c_}{ab:Dm}{col:m_ Dm}{k0 k1 k2 k3 k5:m_ c_}{g:Gc Jj}{dr:Drawn}{t:Nat}{R:Ja->i'->Prop}
theorem xD {Q:IG->i'->Prop}(hE:bm.contains (.type "Exception")=e_)(hC:h.get? C=a_ (HY nm q C N bs bm Kp sn sub ab col dd k0 k1 k2 k3 k5 "Exception.__new__"))
 (hq:Q () ⟨h,g,dr,t,os⟩):wpAny (A_ prog w) A (G4 "Exception.__new__" ⟨.ref C::rest,[]⟩) Q E ⟨h,g,dr,t,os⟩:=by
 intros C rest h nm prog w dd os A E bm q N bs Kp sn sub ab col k0 k1 k2 k3 k5 g dr t Q;have F:=ED;have Tj:(Di C::bm).contains (.type "Exception")=e_:=by rw[DY,hE,Jp]
 have Zbt:=F.noStar;simp -iota only [G4,F.newKind,F.newSplit,F.newRow]
 repeat(first |refine wpAny_loadPart_at hC ?_|(refine wpAny_isSubtype_exc hC ?_;rw[Tj]) |refine wpAny_staticBase_exc hC ?_|refine wpAny_madeBy_exc hC ?_|simp only [bne_self_eq_false,Dt,Fj] |wp_step)
 exact hq
theorem xF (hE:bm.contains (.type "Exception")=e_)(hA:bm.contains (.type "AttributeError")=g')(hN:bm.contains (.type "NameError")=g')(hC:h.get? C=a_ (HY nm q C N bs bm Kp sn sub ab col dd k0 k1 k2 k3 k5 "Exception.__new__"))
 (hq:R (.ok (.ret (.ref (h.objs.size+1)))) ⟨(h.push {cls:=.type "tuple",data:=.seq rest.toArray}).push
  {cls:=.ref C,data:=.fields #[.ref h.objs.size,.none,.none,.none,.bool g',.none]},g,dr,t,os⟩) (LR:rest.length<=HD):
 Hr (A_ prog w) A (.builtin "Exception.__new__" ⟨.ref C::rest,[]⟩) R ⟨h,g,dr,t,os⟩:=by
 intros C rest h nm prog w dd os A bm q N bs Kp sn sub ab col k0 k1 k2 k3 k5 g dr t R;have F:=ED;have Zaf:=F.ends;have Xa:(Di C::bm).contains (.type "Exception")=e_:=by rw[DY,hE,Jp]
 have hcA:(Di C::bm).contains (.type "AttributeError")=g':=by rw[DY,hA];rfl
 have hcN:(Di C::bm).contains (.type "NameError")=g':=by rw[DY,hN];rfl
 refine codeAny_builtinAt F.entry ?_;unfold Builtin.«BaseException.__new__»;refine PySem.wpAt_bind ?_;show PySem.wpAt _ _ _ (stack>>=_) _ _ _;refine PySem.wpAt_bind (PySem.wpAt_stack λp below=>I4 ?_)
 wp_walk
 refine I4 ?_;rw[F.owner]
 repeat(first |with_reducible refine wpAny_madeHere_exc F.canon hC ?_|with_reducible refine wpAny_loadPart_at hC ?_|(with_reducible refine wpAny_isSubtype_exc hC ?_;first |rw(config:={}) [Xa] |rw(config:={}) [hcA] |rw(config:={}) [hcN]) |wp_step)
 show R _ _;rw[Ek];exact hq
end
noncomputable def gX (K:GC)(C:d_):ClassData:=(clsIn K C).getD default
noncomputable def sN (K:GC)(C:d_):Obj:=(K.lookup C).getD default
noncomputable def lu (K:GC)(C:d_)(k:Nat):m_ c_:=(sN K C).slots.getD k h_
noncomputable def mZ (K:GC)(C:d_):b_ c_:=(gX K C).mro.tail
noncomputable def xG (K:GC)(C:d_):Obj:=HY (gX K C).name (gX K C).qualname C (gX K C).ns (gX K C).bases (mZ K C) (gX K C).hasDict (gX K C).slotNames (gX K C).subclasses (gX K C).abstract (gX K C).collection (sN K C).dict (lu K C 0) (lu K C 1) (lu K C 2) (lu K C 3) (lu K C 5) "Exception.__new__"
theorem xH (P:DF):(cP.map λp=>(KF P).lookup p.1)=cP.map λp=>a_ (xG (KF P) p.1):=by kernel_rfl
theorem xI (P:DF):(cP.all λp=>(mZ (KF P) p.1).contains (.type "Exception")&& !(mZ (KF P) p.1).contains (.type "AttributeError")&& !(mZ (KF P) p.1).contains (.type "NameError")&&EZ (KF P) (.ref p.1) "__init__"==a_ (a_ (.ref p.2))&&isFn (KF P) (.ref p.2))=e_:=by kernel_rfl
theorem pL {P:DF}{i:d_}(X:(KF P).In h)(q:cP.lookup C=a_ i):∃nm qn N bs bm Kp sn sub ab col dd k0 k1 k2 k3 k5,
 h.get? C=a_ (HY nm qn C N bs bm Kp sn sub ab col dd k0 k1 k2 k3 k5 "Exception.__new__")/\bm.contains (.type "Exception")=e_/\bm.contains (.type "AttributeError")=g'/\bm.contains (.type "NameError")=g'/\
 EZ (KF P) (.ref C) "__init__"=a_ (a_ (.ref i))/\isFn (KF P) (.ref i)=e_:=by
 intros C h P i;have m:=dP q;have e:=l_.mp (xI P) (C,i) m;simp only [u_,C9,Fi]at e;exact⟨_,_,_,_,_,_,_,_,_,_,_,_,_,_,_,_,X _ _ (HZ.mp (xH P) (C,i) m),e.1.1.1.1,e.1.1.1.2,e.1.1.2,e.1.2,e.2⟩
theorem xJ {d:Nat}{C i:d_}{W:Wf}{vs:b_ c_}(D:aQ w Zb6 mg mb)(hc:cP.lookup C=a_ i)(hl:vs.length<=10)(hW:gm qt prog w Zb6 Zb9 d i W)
 (S:St prog w Zb6 Zb9 env fm Z B s) (hA:a0 qt (d+1) A) (h:∀x,isNew Z x->W (.ref x::vs.map er) (Z.set x (.exc C h_ e_ [])) λv Z'=>v=.none/\Q (.ref x) Z')
 {K:c_->i'->Prop} (k:Kt prog w Zb6 Zb9 env fm B Q K):wpAny (A_ prog w) A (call (.ref C) vs) K E s:=by
 revert D hc hl hW S hA h;intros qt Z Zb6 Zb9 s fm mg mb env Q prog w B A E d C i W vs K;have X:=S.rep.in D;refine dH (pL X hc) λnm qn N bs bm zz=>?_;intros nm qn N bs bm;refine dH zz λKp sn sub ab col zz=>?_;revert zz;revert Kp sn sub ab col;injections Kp sn sub ab col;intro zz;refine dH zz λdd k0 k1 k2 k3 zz=>?_;revert zz;revert dd k0 k1 k2 k3;injections dd k0 k1 k2 k3;intro zz;refine dZ zz λk5 hC hE U2 zz=>?_;intros k5;refine bP zz λhN hi hf=>?_;clear zz;have G:=S.grow s.toks (h':=s.heap.push {cls:=.type "tuple",data:=.seq vs.toArray}) λb o e=>j' _ e;have hs:(s.heap.push {cls:=.type "tuple",data:=.seq vs.toArray}).objs.size=s.heap.objs.size+1:=Ek _ _;have N1:St prog w Zb6 Zb9 env fm (Z.set (s.heap.objs.size+1) (.exc C h_ e_ [])) B {s with heap:=(s.heap.push {cls:=.type "tuple",data:=.seq vs.toArray}).push {cls:=.ref C,data:=.fields #[.ref s.heap.objs.size,.none,.none,.none,.bool g',.none]}}:=by
  have z:=G.new (o:=.exc C h_ e_ []) (ho:={cls:=.ref C,data:=.fields #[.ref s.heap.objs.size,.none,.none,.none,.bool g',.none]}) s.toks rfl ⟨⟨_,y_ _ rfl,rfl,λU=>rfl⟩,λU=>rfl,λy hy=>(nomatch hy)⟩;rw[hs]at z;exact z
 have nx:isNew Z (s.heap.objs.size+1):=hs▸G.rep.isNew D;obtain⟨hh,g,dr,t,os⟩:=s;revert nx;revert N1;revert hs;revert G;revert hC;revert zz;revert X;revert S;revert hh g dr t os;injections hh g dr t os;intro _ _ S X zz hC G hs N1 nx;have f1:=tc_lookup;have f2:=tc_bind (.ref C);have hT:(⟨hh,g,dr,t,os⟩:i').TypeIs (.ref C) "type":=⟨_,hC,rfl⟩;have LR:vs.length<=HD:=by rw[DB];walk_at "o"
 refine FB (codeAny_of_tree ?_);show wpAny _ _ (callAny (.ref C) _) _ _ _
 repeat(any_goals(first |assumption |with_reducible refine wpAny_loadPart_at hC ?_|wp_step))
 refine⟨rfl,?_⟩;refine codeAny_call_builtin_at (Code.quiet_builtin _ (by decide+kernel)) entry_typeCall (wpAny_check_type_call_sub hC ?_)
 repeat(first |with_reducible refine wpAny_loadPart_at hC ?_|with_reducible refine wpAny_madeBy_exc hC ?_|wp_step)
 refine codeAny_call_builtin_code (Code.quiet_builtin _ ED.quiet) (xD hE hC ?_);refine xF hE U2 hN hC ?_ LR;show wpAny _ _ _ _ _ _;have X1:=N1.rep.in D;have Zbv:=j' {cls:=.ref C,data:=.fields #[.ref hh.objs.size,.none,.none,.none,.bool g',.none]} (j' {cls:=.type "tuple",data:=.seq vs.toArray} hC);have V0:((hh.push {cls:=.type "tuple",data:=.seq vs.toArray}).push {cls:=.ref C,data:=.fields #[.ref hh.objs.size,.none,.none,.none,.bool g',.none]}).get? (hh.objs.size+1)=a_ {cls:=.ref C,data:=.fields #[.ref hh.objs.size,.none,.none,.none,.bool g',.none]}:=by
  rw[<-Ek hh {cls:=.type "tuple",data:=.seq vs.toArray}];exact y_ _ rfl
 have Y9:(Di C::bm).contains (.ref C)=e_:=by simp
 unfold I_
 repeat(first |with_reducible refine wpAny_loadPart_at V0 ?_|(with_reducible refine wpAny_isSubtype_exc Zbv ?_;rw[Y9]) |wp_step)
 show wpAny _ _ (isSubtype (.ref C) (.ref C)) _ _ _;refine wpAny_isSubtype_exc Zbv ?_;rw[Y9]
 repeat wp_step
 show wpAny _ _ (Ii (.ref C) _) _ _ _;refine(GF (M:=A_ prog w) X1 hi).at ?_;refine Es (wpAny_bind ((bind_fn (M:=A_ prog w) X1 (.ref (hh.objs.size+1)) (C9.mp hf)).at ?_));refine wpAny_bind (FB (hW (vs:=.ref (hh.objs.size+1)::vs) N1 (hA.under (C:=C) (vs:=vs)) (h _ nx) λu Z' s' hq S'=>?_));have:=pe hq.1;subst this;exact wpAny_pure (wpAny_pure (k _ Z' s' hq.2 S'))
end
section
variable{B B':aS}{A:DJ}{E:c_->i'->Prop}
theorem nf {x:c_}(h:vs.map er=[x]):∃a,vs=[a]/\er a=x:=HV.mp h
theorem pM {x y:c_}(h:vs.map er=[x,y]):∃a b,vs=[a,b]/\er a=x/\er b=y:=by
 refine bW (He.mp h) ?_;rintro a r rfl e h;refine ac (nf h) ?_;rintro b rfl e2;exact⟨a,b,rfl,e,e2⟩
theorem CX {x y z:c_}(h:vs.map er=[x,y,z]):∃a b c,vs=[a,b,c]/\er a=x/\er b=y/\er c=z:=by
 refine bW (He.mp h) ?_;rintro a r rfl e h;refine aY (pM h) ?_;rintro b c rfl e2;exact⟨a,b,c,rfl,e,e2⟩
theorem gY {v:c_}(h:gD Z (er v)=a_ (a,xs)):v=.ref a/\Z a=a_ (.lst xs):=by
 intros a Z xs v;refine ac (t_.mp h) λb hb h=>?_;refine ac (j_.mp h) λys hy h=>?_;cases h;exact⟨jX hb,oP hy⟩
theorem lv (h:jm Z (er v)=a_ (a,es)):v=.ref a/\∃n,Z a=a_ (.dic es n):=by
 intros a Z v es;refine ac (t_.mp h) λb hb h=>?_;refine ac (j_.mp h) λys hy h=>?_;cases h;exact⟨jX hb,wc hy⟩
noncomputable abbrev xK (prog:Fc)(w:Ew)(Zb6:Fu)(Zb9:i')(env:Env)(fm:Fm)(Z:ak)(B:aS)(s:i')(A:DJ)(E:c_->i'->Prop)(R:c_->i'->Prop)(id:EB)(W:b_ c_->ak->bC->Prop):Prop:=
 ∀ {vs:b_ c_} {Q:bC},(mH id=g'->A.handled=h_)->W (vs.map er) Z Q->Kt prog w Zb6 Zb9 env fm B Q R->wpAny (A_ prog w) A (call (.builtin id) vs) R E s
theorem xL {M:Model}{g:Gc Jj}{dr:Drawn}{t:Nat}{bm:b_ c_}{q:Str}{N e:d_}{bs:b_ c_}{Kp:Dm}{sn:b_ Str}{sub:b_ c_}{ab:Dm}{col:m_ Dm}{k0 k1 k2 k3 k5:m_ c_}{O9:EB}{oe:Obj}{Q:IG->i'->Prop}
 (hE:bm.contains (.type "Exception")=e_) (hC:h.get? C=a_ (HY nm q C N bs bm Kp sn sub ab col dd k0 k1 k2 k3 k5 O9)) (he:h.get? e=a_ oe) (XB:oe.cls=.ref C) (hq:Q () ⟨h,g,dr,t,os⟩):
 wpAny M A (G4 "Exception.__init__" ⟨.ref e::rest,[]⟩) Q E ⟨h,g,dr,t,os⟩:=by
 intros C rest h nm dd os A E M g dr t bm q N e bs Kp sn sub ab col k0 k1 k2 k3 k5 O9 oe Q;have F:=ED;have Xa:(Di C::bm).contains (.type "Exception")=e_:=by rw[DY,hE,Jp]
 have Xr:=F.noStar;simp -iota only [G4,F.initKind,F.initSplit,F.initRow]
 repeat(first |(with_reducible refine wpAny_loadPart_at he ?_;rw[XB]) |with_reducible refine wpAny_loadPart_at hC ?_|(with_reducible refine wpAny_isSubtype_exc hC ?_;rw[Xa]) |wp_step)
 refine wpAny_onRaise ?_;rw[show∀ (a b:EB) (n:Nat),Bind.check ⟨.positional,"*","Exception",.self,[⟨"args",.varPos,g'⟩]⟩ a b n (Id (λx=>x.fst) ({pos:=Di e::rest}:Args).kw)=F9 ()from
  λa b n=>check_star_args _ _ _ _ _ _]
 exact wpAny_pure hq
theorem xM {x:d_}{d:m_ d_}{Q:c_->i'->Prop}(D:aQ w Zb6 mg mb)(S:St prog w Zb6 Zb9 env fm Z B s)(e:Z x=a_ (.exc C d fr fl))(hC:(cP.lookup C).isSome=e_)
 (h:∀s',St prog w Zb6 Zb9 env fm Z B s'->Q .none s'):wpAny (A_ prog w) A (call (.builtin "Exception.__init__") [.ref x,v]) Q E s:=by
 intros C fr Z v fl Zb6 Zb9 s fm mg mb env prog w B A E x d Q;refine xE (Ds.mp hC) λi hi=>?_;intros i;have X:=S.rep.in D;refine dH (pL X hi) λnm qn N bs bm zz=>?_;intros nm qn N bs bm;refine dH zz λKp sn sub ab col zz=>?_;revert zz;revert Kp sn sub ab col;injections Kp sn sub ab col;intro zz;refine dH zz λdd k0 k1 k2 k3 zz=>?_;revert zz;revert dd k0 k1 k2 k3;injections dd k0 k1 k2 k3;intro zz;refine dm zz λk5 hC hE U=>?_;revert hC;revert k5;injections k5;intro hC;clear zz;refine bP (S.rep.om _ _ e) ?_;rintro⟨vs,hx,hz,hf⟩ h1 h2;intros vs;have EF:=ED;have S1:=S.grow s.toks (h':=s.heap.push {cls:=.type "tuple",data:=.seq #[v]}) λb o e=>j' _ e;obtain⟨hh,g,dr,t,os⟩:=s;revert S1;revert h2;revert hx;revert hC;revert zz;revert X;revert S;revert hh g dr t os;injections hh g dr t os;intro _ S X zz hC hx h2 S1;refine FB (FQ EF.init.plain EF.initEntry (xL hE hC hx rfl ?_));have KS:=j' {cls:=.type "tuple",data:=.seq #[v]} hx
 wp_walk
 have h0:vs[0]? =a_ vs[0]:=Gd (by walk_at "o");rw[h0];generalize vs[0]=v0;refine wpAny_pure (wpAny_bind (II KS rfl (by walk_at "o") ?_));have sb:=D7 (hh.push {cls:=.type "tuple",data:=.seq #[v]}) x (Et (·.setIfInBounds 0 (.ref hh.objs.size)));have S2:St prog w Zb6 Zb9 env fm Z B {heap:=(hh.push {cls:=.type "tuple",data:=.seq #[v]}).update x (Et (·.setIfInBounds 0 (.ref hh.objs.size))),gens:=g,drawn:=dr,toks:=t,os:=os}:=by
  have PH:∀y,bD (.exc C d fr fl)=a_ y->y≠x:=λy hy q=>by
   have:=S1.rep.sep _ _ _ e hy;rw[q,e]at this;cases this
  have R:=S1.rep.upd (o':=.exc C d fr fl) e rfl (h':=(hh.push {cls:=.type "tuple",data:=.seq #[v]}).update x (Et (·.setIfInBounds 0 (.ref hh.objs.size)))) (λb y nb nh eb=>(sb.2 b nb).trans eb)
   ⟨⟨vs.setIfInBounds 0 (.ref hh.objs.size),DN _ KS rfl,by exact Array.size_setIfInBounds.trans hz,λq=>by exact(Array.getElem?_setIfInBounds_ne (by decide)).trans (hf q)⟩,h1,λy hy=>by
    refine aY (h2 y hy) λes n hd m=>?_;exact⟨es,n,(sb.2 y (PH y hy)).trans (j' _ hd),m⟩⟩
  rw[show Z.set x (.exc C d fr fl)=Z from funext λb=>by unfold ak.set;split;rename _=>q;rw[q,e];rfl]at R;refine⟨R,?_,S1.free,S1.priv,S1.cel,S1.same⟩;refine ac S1.ns λmm hm hl=>?_;exact⟨mm,hm.sameBut sb (λz=>S1.free (z▸dw e)),hl⟩
 cases v0<;>first |exact wpAny_pure (wpAny_pure (h _ S2)) |exact wpAny_letGo (wpAny_pure (h _ S2))
theorem xN {P:EB->(b_ c_->ak->bC->Prop)->Prop}{id:EB}{W:b_ c_->ak->bC->Prop}(h:kW.lookup id=a_ W)(h1:P "len" oS)(h2:P "isinstance" kU)(h3:P "sorted" mB)(h4:P "sum" oT)(h5:P "list.append" mC)(h6:P "list.pop" mD)
 (h7:P "list.extend" oU) (h8:P "list.count" oV) (h9:P "dict.pop" oW) (VL:P "dict.get" oX) (U4:P "dict.setdefault" mG) (UX:P "Exception.__init__" oY) (h13:P "abs" oZ):P id W:=by
 have all:∀p∈kW,P p.1 p.2:=by
  unfold kW
  iterate 13 (refine Hc.mpr ⟨by assumption,?_⟩)
  exactλU q=>nomatch q
 exact all _ (dP h)
theorem xO {id:EB}(D:aQ w Zb6 mg mb)(hh:mH id=g'->A.handled=h_)(S:St prog w Zb6 Zb9 env fm Z B s)(e:ek id (vs.map er) Z Q){R:c_->i'->Prop}(K:Kt prog w Zb6 Zb9 env fm B Q R):
 wpAny (A_ prog w) A (call (.builtin id) vs) R E s:=by
 revert D hh S e;intros Z vs Zb6 Zb9 s fm mg mb env Q prog w B A E id R;refine ac e ?_;clear e;rintro W hW e;refine xN (P:=xK prog w Zb6 Zb9 env fm Z B s A E R) hW ?_ ?_ ?_ ?_ ?_ ?_ ?_ ?_ ?_ ?_ ?_ ?_ ?_ hh e K<;>intro vs Q hh e K
 ·rcases vs with _|⟨v,_|⟨u,r⟩⟩ <;>first |exact e.elim|skip
  revert K;revert e;revert Q v;injections Q v;intro e K;rcases e with ⟨⟨a,xs⟩,q,e1,e2⟩ |⟨⟨a,es⟩,q,e1,e2⟩
  ·refine xA (gY q) ?_;rintro rfl q'
   exact wN S q' e1 λt s' S'=>K _ _ _ (e2) S'
  ·refine gx (lv q) ?_;rintro rfl n q'
   exact xg S q' e1 λt s' S'=>K _ _ _ (e2) S'
 ·rcases vs with _|⟨v,_|⟨u,_|⟨x,r⟩⟩⟩ <;>first |exact e.elim|skip
  revert K;revert e;revert Q v u;injections Q v u;intro e K;rcases e with ⟨D',eu,b,e1,e2⟩ |⟨D',eu,b,e1,e2⟩
  ·have:=cU eu;subst this
   exact wO D S e1 λs' S'=>K _ _ _ (e2) S'
  ·have:=rO eu;subst this
   exact w5 D S e1 λs' S'=>K _ _ _ (e2) S'
 ·rcases vs with _|⟨v,_|⟨u,r⟩⟩ <;>first |exact e.elim|skip
  revert K;revert e;revert Q v;injections Q v;intro e K;rcases e with ⟨⟨a,xs⟩,q,e1,e2,e3⟩ |⟨⟨a,es⟩,q,e1,e2,e3⟩
  ·refine xA (gY q) ?_;rintro rfl q'
   exact wR D S q' e1 e2 λl s' hl S'=>K _ _ _ (e3 l hl) S'
  ·refine gx (lv q) ?_;rintro rfl n q'
   exact xi (hh rfl) D S q' e1 (by simpa using e2) λl s' hl S'=>K _ _ _ (e3 l hl) S'
 ·rcases vs with _|⟨v,_|⟨u,r⟩⟩ <;>first |exact e.elim|skip
  refine dm e ?_;clear e;rintro⟨a,xs⟩ q e1 e2;refine xA (gY q) ?_;rintro rfl q';exact wS (hh rfl) S q' e1 λt s' S'=>K _ _ _ (e2) S'
 ·rcases vs with _|⟨v,_|⟨u,_|⟨x,r⟩⟩⟩ <;>first |exact e.elim|skip
  refine dm e ?_;clear e;rintro⟨a,xs⟩ q e1 e2;refine xA (gY q) ?_;rintro rfl q';exact wE S q' e1 λs' S'=>K _ _ _ (e2) S'
 ·rcases vs with _|⟨v,_|⟨u,_|⟨x,r⟩⟩⟩ <;>first |exact e.elim|skip
  ·refine ac e ?_;clear e;rintro⟨a,xs⟩ q zz;refine bW zz ?_;clear zz;rintro ys v rfl e1 e2
   refine xA (gY q) ?_;rintro rfl q';exact wF S q' e1 λu s' hu S'=>K _ _ _ (hu▸e2) S'
  ·refine gy e ?_;clear e;rintro hz ⟨a,xs⟩ q zz;refine bW zz ?_;clear zz;rintro v ys rfl e1 e2
   refine xA (gY q) ?_;rintro rfl q';rw[ix]at hz;refine xE (fZ hz) ?_;rintro t rfl;exact wG S q' e1 λu s' hu S'=>K _ _ _ (hu▸e2) S'
 ·rcases vs with _|⟨v,_|⟨u,_|⟨x,r⟩⟩⟩ <;>first |exact e.elim|skip
  refine mv e ?_;clear e;rintro⟨a,xs⟩ q1 ⟨b,ys⟩ q2 zz;refine bP zz λhn e1 e2=>?_;clear zz;refine xA (gY q1) ?_;rintro rfl q1';refine xA (gY q2) ?_;rintro rfl q2';exact wH S q1' q2' e1 λs' S'=>K _ _ _ (e2) S'
 ·rcases vs with _|⟨v,_|⟨u,_|⟨x,r⟩⟩⟩ <;>first |exact e.elim|skip
  refine gy e ?_;clear e;rintro hk ⟨a,xs⟩ q zz;refine bP zz λe1 e2 e3=>?_;clear zz;refine xA (gY q) ?_;rintro rfl q';cases u<;>first |exact(ft hk).elim|skip
  exact wT S q' e1 λt s' S'=>K _ _ _ (e3) S'
 ·rcases vs with _|⟨v,_|⟨k,_|⟨d,_|⟨x,r⟩⟩⟩⟩ <;>first |exact e.elim|skip
  refine dZ e ?_;clear e;rintro⟨a,es⟩ q rfl e1 e2;refine gx (lv q) ?_;rintro rfl n q';rw[jY]at e1;exact xf S q' e1 λs' S'=>K _ _ _ (e2) S'
 ·rcases vs with _|⟨v,_|⟨k,_|⟨d,_|⟨x,r⟩⟩⟩⟩ <;>first |exact e.elim|skip
  refine dm e ?_;clear e;rintro⟨a,es⟩ q e1 e2;refine gx (lv q) ?_;rintro rfl n q';rw[jY]at e1;rw[ix]at e2;exact xc S q' e1 λu s' hu S'=>K _ _ _ (hu▸e2) S'
 ·rcases vs with _|⟨v,_|⟨k,_|⟨d,_|⟨x,r⟩⟩⟩⟩ <;>first |exact e.elim|skip
  revert K;revert e;revert Q v k d;injections Q v k d;intro e K;refine dZ e ?_;clear e;rintro⟨a,es⟩ q e1 e0 e2;intros a es;refine gx (lv q) ?_;rintro rfl n q'
  try dsimp only at e1 e0 e2
  rw[jY]at e1;rw[ix]at e2;refine xd S q' e1 e0 (λv u s' hl hu S'=>?_) (λn' s' hl S'=>?_)
  ·rw[hl]at e2;exact K _ _ _ (hu▸e2) S'
  ·rw[hl]at e2;exact K _ _ _ (e2 n') S'
 ·refine dH e ?_;clear e;rintro x v C d fr zz;refine dZ zz λfl hv q hC e=>?_;clear zz
  refine bW (pM hv) ?_;rintro x' v rfl hx rfl;have:=cU hx;subst this;exact xM D S q hC λs' S'=>K _ _ _ (e) S'
 ·refine ac e ?_;clear e;rintro i hv e
  refine ac (nf hv) ?_;rintro v rfl Se;refine xE (fZ Se) ?_;rintro t rfl;exact PyProof.Rows.call_abs_int λu tk=>K _ _ _ e (S.tok _)
theorem xP {n:EB}(D:aQ w Zb6 mg mb)(S:St prog w Zb6 Zb9 env fm Z B s)(e:rA n (vs.map er) Z Q){R:c_->i'->Prop}(K:Kt prog w Zb6 Zb9 env fm B Q R):
 wpAny (A_ prog w) A (call (.type n) vs) R E s:=by
 refine ac e ?_;clear e;rintro k hv e;revert D S K;intros Z vs Zb6 Zb9 s fm mg mb env Q prog w B A E n R k;refine ac (nf hv) ?_;rintro v rfl Se;refine xE (fZ Se) ?_;rintro t rfl;rcases e with ⟨rfl,k0,k1,hq⟩ |⟨rfl,k0,k1,hq⟩
 ·refine PySem.P.str_of_int ?_ (K _ _ _ hq (S.tok _))
  have hk:k.natAbs<2^60:=by walk_at "o"
  by_cases z:k.natAbs=0
  ·rw[z];decide
  ·have:=(Nat.log2_lt z).mpr hk
   walk_at "o"
 ·exact xh D S k0 λl s' hl S'=>K _ _ _ (hq l hl) S'
theorem xQ {M:Model}{Q:IG->i'->Prop}{vs:Gc c_}{n:Nat}(hl:IsL s.heap a vs n)(h:Q () s):wpAny M A (checkBoundCall "list.append" ⟨[.ref a,v],[]⟩) Q E s:=by
 intros a v s A E M Q vs n;have hT:s.TypeIs (.ref a) "list":=⟨_,hl,rfl⟩;unfold checkBoundCall;have ck:∃W8,Manifest.signature? "list.append"=a_ W8/\Bind.checkArgs "list.append" {W8 with full:=s!"{Bind.lastOf "list"}.{Bind.lastOf "list.append"}"} ⟨[.ref a,v],[]⟩=F9 ():=by
  rw[PySem.signature?_of (id:="list.append") (n:=['d','n','e','p','p','a']) (o:=['t','s','i','l']) (by kernel_rfl) PySem.F.owner_list];have hi:(Manifest.sig_list.lookup (String.ofList ['d','n','e','p','p','a'].reverse)).isSome=e_:=by kernel_rfl
  refine⟨(Manifest.sig_list.lookup (String.ofList ['d','n','e','p','p','a'].reverse)).get hi,(Option.some_get hi).symm,?_⟩
  kernel_rfl
 refine ac ck λW8 hs hck=>?_;clear ck;rw[hs];dsimp only;rw[show builtinKind "list.append"=a_ .method by decide+kernel];dsimp only;rw[p_ (by decide)];refine wpAny_bind (wpAny_isInstance hT (b:=g') (by rw[isSubtype_type];kernel_rfl) ?_);rw[p_ (by decide+kernel)];refine wpAny_bind (wpAny_bind (Hz hl (wpAny_pure ?_)));dsimp only;simp -iota only [Dt,Fj];refine wpAny_bind (wpAny_typeOf hT ?_);dsimp only;rw[hck];exact wpAny_pure h
theorem xR {x:d_}{v:c_}(S:St prog w Zb6 Zb9 env fm Z B s)(hb:Z x=a_ (.bm "list.append" a))(e:ek "list.append" [.ref a,er v] Z Q){R:c_->i'->Prop}(k:Kt prog w Zb6 Zb9 env fm B Q R):
 wpAny (A_ prog w) A (call (.ref x) [v]) R E s:=by
 revert S hb e;intros a Z Zb6 Zb9 s fm env Q prog w B A E x v R;refine ac e ?_;clear e;rintro W hW e;intros W;obtain rfl:mC=W:=De (show kW.lookup "list.append"=a_ W from hW);refine ac e ?_;clear e;rintro⟨a',xs⟩ q e;intros a' xs;refine xA (gY (v:=.ref a) q) λha q'=>?_;cases ha
 try dsimp only at e
 ·refine aY (S.isL q') λvs n hl m=>?_
  intros vs n;refine dm (S.rep.om _ _ hb) λws ho h0 h1=>?_;intros ws;have sz:vs.size<=HD:=by
   rw[DB];have:vs.size=xs.length:=by rw[<-m];exact(b' _).symm
   walk_at "di"
  refine FB (codeAny_of_tree ?_);show wpAny _ A.in1 (callAny (.ref x) ⟨[v],[]⟩) _ _ s;simp -iota only [callAny];refine wpAny_bind (wpAny_load ho ?_);simp -iota only [show(HH "builtin_function_or_method"==HH "method"||HH "builtin_function_or_method"==HH "builtin_function_or_method"||HH "builtin_function_or_method"==HH "method-wrapper")=e_ by decide,Gn];dsimp only;simp -iota only [h0,h1];dsimp only;have hT:s.TypeIs (.ref a) "list":=⟨_,hl,rfl⟩;refine wpAny_bind (xQ hl ?_);refine wpAny_pure ?_;refine⟨plainId_quiet slot_list_append.plain _,codeAny_builtin entry_list_append ?_⟩;show wpAny _ _ (updateSeq a (·.push v)>>=λU=>ret .none) _ _ s;refine wpAny_bind ?_;refine wpAny_updateSeq hl rfl (wpAny_pure (k _ _ _ e.2 ?_));exact S.turnL (·.push v) s.toks q' hl (by simp[m])
theorem xS (hc:cN.lookup C=a_ ms)(P:DF):Il (KF P) (.ref C)=e_:=by
 revert hc;intros C ms P;have:=(jr hc P).mks;unfold makesIn at this;unfold Il;dsimp only;split at this
 · (rename EA C (KF P)=_=>ho;rename m_ _=>od;rename PySem.Value=>oc)
   simp only [u_]at this;rw[ho];exact this.1.2
 ·exact(ft this).elim
end
noncomputable def fb (h:Fu)(I x:d_)(i:Nat):O->Prop
 |.lst _=>h.IsListIter I x i
 |.rng n=>IsRangeIter h I i (n.toNat-i:Int) 1
 |.dic es ep=>h.IsKeyIter I x i es.length ep
 |_=>False
section
variable{B B':aS}{A:DJ}{E:c_->i'->Prop}
theorem fb.at {I x:d_}{i:Nat}(c:fb h I x i o)(e:∀ob,h.get? I=a_ ob->h'.get? I=a_ ob):fb h' I x i o:=by
 intros h h' o I x i;cases o with
 |lst xs=>refine ac c λob a r=>?_;clear c;exact⟨ob,e _ a,r⟩
 |rng n=>exact e _ c
 |dic es ep=>refine ac c λob a r=>?_;clear c;exact⟨ob,e _ a,r⟩
 |_=>exact c.elim
theorem St.but (S:St prog w Zb6 Zb9 env fm Z B s){h':Fu}{I:d_}(t:Nat)(k:∀b o,b≠I->s.heap.get? b=a_ o->h'.get? b=a_ o)(n1:¬own Z I)(n2:B I=h_)(n3:env.locals≠I):St prog w Zb6 Zb9 env fm Z B {s with heap:=h',toks:=t}:=by
 refine⟨S.rep.chg (λb=>b=I) (λb o nb eb=>k b o nb eb) (λb hb=>hb▸n1) (λb hb=>hb▸n2),?_,S.free,S.priv,S.cel,S.same⟩;refine ac S.ns ?_;rintro m ⟨o,es,ep,hL,r⟩ hl;exact⟨m,⟨o,es,ep,k _ _ n3 hL,r⟩,hl⟩
theorem St.hide (S:St prog w Zb6 Zb9 env fm Z B s){I:d_}{o:Obj}(n1:¬own Z I)(n2:B I=h_)(n3:env.locals≠I)(e:s.heap.get? I=a_ o):St prog w Zb6 Zb9 env fm Z (B.add I o) s:=by
 have n0:Zb6.get? I=h_:=by
  cases q:Zb6.get? I with
  |none=>rfl
  |some x=>exact(sn ((S.rep.base _ _ q).symm.trans n2)).elim
 refine⟨S.rep.hide n1 n0 e,S.ns,S.free,?_,S.cel,S.same⟩;unfold aS.add;rw[p_ n3];exact S.priv
theorem St.show' {I:d_}{o:Obj}(S:St prog w Zb6 Zb9 env fm Z (B.add I o) s)(n2:B I=h_)(hB:∀b x,Zb6.get? b=a_ x->B b=a_ x):St prog w Zb6 Zb9 env fm Z B s/\¬own Z I/\s.heap.get? I=a_ o/\env.locals≠I:=by
 have at_:(B.add I o) I=a_ o:=z_ rfl;have nl:env.locals≠I:=λq=>by have:=S.priv;rw[q,at_]at this;exact(sn this).elim
 refine⟨⟨S.rep.less (λb x e=>?_) hB,S.ns,S.free,?_,S.cel,S.same⟩,S.rep.apart _ _ at_,S.rep.keep _ _ at_,nl⟩
 ·unfold aS.add
  by_cases q:b=I
  ·rw[q,n2]at e;cases e
  ·exact(p_ q).trans e
 ·have:=S.priv
  unfold aS.add at this;rw[p_ nl]at this;exact this
theorem sO {x:d_}{Q:c_->i'->Prop}(S:St prog w Zb6 Zb9 env fm Z B s)(e:Z x=a_ o)(hx:jU o=a_ xs)(hz:xs.length<=100000)
 (h:∀I ob s',St prog w Zb6 Zb9 env fm Z (B.add I ob) s'->B I=h_->fb s'.heap I x 0 o->Q (.ref I) s'):wpAny (A_ prog w) A (pyIter (.ref x)) Q E s:=by
 intros Z xs Zb6 Zb9 s fm o env prog w B A E x Q;have fresh:∀ob:Obj,ob.isFreed=g'->St prog w Zb6 Zb9 env fm Z (B.add s.heap.objs.size ob) {s with heap:=s.heap.push ob}/\B s.heap.objs.size=h_:=by
  intro ob hf;have n2:=S.rep.noneSize;refine⟨(S.grow s.toks λb o eb=>j' ob eb).hide S.rep.notSize n2 ?_ (y_ _ hf),n2⟩;intro q;refine ac S.ns λm hm U=>?_;exact absurd (q▸hm.lt) (DH _)
 cases o with
 |lst ys=>
  cases hx;refine aY (S.isL e) λvs n hl m=>?_;have z:=fresh {cls:=.type "list_iterator",data:=.fields #[.ref x,.int 0 0]} rfl;exact wpAny_pyIter_list hl.isList (h _ _ _ z.1 z.2 ⟨_,y_ _ rfl,rfl,rfl⟩)
 |rng n=>
  intros n;cases hx;refine jK (S.rep.om _ _ e) λhn t u v hr=>?_;rw[b',Ej]at hz;have rs:Gz 0 n 1=((n.toNat:Nat):Int):=by rw[rangeSize_one];split<;>walk_at "o"
  have z:=fresh {cls:=.type "range_iterator",data:=.fields #[rawInt 0,rawInt (Gz 0 n 1),rawInt 1]} rfl;refine wpAny_pyIter_range hr (small_one (by walk_at "b") (by walk_at "D") (by walk_at "B") (by walk_at "o")) (h _ _ _ z.1 z.2 ?_);show IsRangeIter _ _ ((0:Nat):Int) ((n.toNat:Int)- ((0:Nat):Int)) 1;rw[show(n.toNat:Int)- ((0:Nat):Int)=Gz 0 n 1 by rw[rs];walk_at "c"];exact y_ _ rfl
 |dic es ep=>
  intros es ep;cases hx;rw[b']at hz;refine xA (S.rep.om _ _ e) λhs dd=>?_;rcases dd with ⟨kvs,d,rfl⟩ |⟨kvs,d,rfl⟩
  ·have z:=fresh {cls:=.type "dict_keyiterator",data:=.fields #[.ref x,.int 0 0,.int kvs.length 0,.int ep 0]} rfl
   refine Jq (fn hs) d (h _ _ _ z.1 z.2 ?_);show Heap.IsKeyIter _ _ _ _ (Id _ kvs).length _;rw[b'];exact⟨_,y_ _ rfl,rfl,rfl⟩
  ·have z:=fresh {cls:=.type "dict_keyiterator",data:=.fields #[.ref x,.int 0 0,.int kvs.length 0,.int ep 0]} rfl
   refine Jq (fn hs) d (h _ _ _ z.1 z.2 ?_);show Heap.IsKeyIter _ _ _ _ (Id _ kvs).length _;rw[b'];exact⟨_,y_ _ rfl,rfl,rfl⟩
 |_=>exact(ns hx).elim
theorem sP {x I:d_}{ob:Obj}{i:Nat}{Q:m_ c_->i'->Prop}(hh:A.handled=h_)(S:St prog w Zb6 Zb9 env fm Z (B.add I ob) s)(n2:B I=h_)(hB:∀b x,Zb6.get? b=a_ x->B b=a_ x)(e:Z x=a_ o)(hx:jU o=a_ xs)
 (c:fb s.heap I x i o) (hi:i<=xs.length)
 (h1:∀y u s' L5,xs[i]? =a_ y->er u=y->St prog w Zb6 Zb9 env fm Z (B.add I L5) s'->fb s'.heap I x (i+1) o->Q (a_ u) s')
 (h2:∀s',i=xs.length->St prog w Zb6 Zb9 env fm Z B s'->Q h_ s'):wpAny (A_ prog w) A (pyNext (.ref I)) Q E s:=by
 intros Z xs Zb6 Zb9 s fm o env prog w B A E x I ob i Q;refine dG (S.show' n2 hB) λS0 n1 eI n3=>?_;have go:∀ {h':Fu} (t:Nat),Heap.SameBut I s.heap h'->fb h' I x (i+1) o->∃L5,St prog w Zb6 Zb9 env fm Z (B.add I L5) {s with heap:=h',toks:=t}:=by
  intro h' t hs hc;have:∃L5,h'.get? I=a_ L5:=by
   cases o with
   |lst _=>refine ac hc λob a U=>?_;clear hc;exact⟨_,a⟩
   |rng _=>exact⟨_,hc⟩
   |dic _ _=>refine ac hc λob a U=>?_;clear hc;exact⟨_,a⟩
   |_=>exact hc.elim
  refine xE this λL5 e'=>?_;clear this;exact⟨L5,(S0.but t (λb o nb eb=>(hs.2 b nb).trans eb) n1 n2 n3).hide n1 n2 n3 e'⟩
 cases o with
 |lst ys=>
  cases hx;refine aY (S0.isL e) λvs n hl m=>?_;have hn:vs.size=xs.length:=by rw[<-m];exact(b' _).symm
  by_cases q:i<xs.length
  ·refine xE (⟨_,Gd (by walk_at "a")⟩:∃u,vs[i]? =a_ u) λu hv=>?_
   refine wpAny_pyNext_list_item c hl.isList hv λh' hc hs=>?_;refine xE (go s.toks hs hc) λL5 S'=>?_;exact h1 (er u) _ _ L5 (by rw[<-m,k_,FK,hv];rfl) rfl S' hc
  ·refine wpAny_pyNext_list_end hh c hl.isList (Array.getElem?_eq_none (by walk_at "H")) λh' hs=>?_
   exact h2 _ (by walk_at "a") (S0.but s.toks (λb o nb eb=>hs b o nb eb) n1 n2 n3)
 |rng n=>
  intros n;cases hx;rw[b',Ej]at hi h2;by_cases q:i<n.toNat
  ·refine wpAny_pyNext_range_item c (by walk_at "o") λh' hc hs=>?_
   have Ku:fb h' I x (i+1) (.rng n):=by
    show IsRangeIter h' I ((i+1:Nat):Int) ((n.toNat:Int)- ((i+1:Nat):Int)) 1;have:(n.toNat:Int)- ((i+1:Nat):Int)=(n.toNat:Int)-i-1:=by walk_at "o"
    rw[this];exact hc
   refine xE (go (s.toks+1) hs Ku) λL5 S'=>?_;exact h1 (.int i 0) _ _ L5 (by simp[q]) rfl S' Ku
  ·refine wpAny_pyNext_range_end hh c (by walk_at "o") λh' hs=>?_
   exact h2 _ (by walk_at "a") (S0.but s.toks (λb o nb eb=>hs b o nb eb) n1 n2 n3)
 |dic es ep=>
  intros es ep;cases hx;rw[b']at hi h2;refine xA (S0.rep.om _ _ e) λhsm dd=>?_;rcases dd with ⟨kvs,d,rfl⟩ |⟨kvs,d,rfl⟩
  ·intros kvs
   rw[b']at hi h2;have c':s.heap.IsKeyIter I x i kvs.length ep:=by have c:s.heap.IsKeyIter I x i (kvs.map _).length ep:=c;rwa[b']at c
   by_cases q:i<kvs.length
   ·refine Im (k:=kvs[i].1) (v:=kvs[i].2) c' d (w_ q) λkey h' hk hc hs=>?_
    have Ku:fb h' I x (i+1) (.dic (kvs.map λp=>(.int p.1 0,er p.2)) ep):=by show h'.IsKeyIter I x (i+1) (kvs.map _).length ep;rw[b'];exact hc
    refine xE (go s.toks hs Ku) λL5 S'=>?_;refine h1 (.int kvs[i].1 0) _ _ L5 (by simp[q]) ?_ S' Ku;cases key<;>first |exact(ft hk).elim|skip
    (rename Hw=>t;rename Int=>z)
    have e:(z==kvs[i].1)=e_:=hk;rw[C9.mp e];rfl
   ·refine Iy hh c' d (DS (by walk_at "a")) λh' hs=>?_
    exact h2 _ (by walk_at "a") (S0.but s.toks (λb o nb eb=>hs b o nb eb) n1 n2 n3)
  ·intros kvs
   rw[b']at hi h2;have c':s.heap.IsKeyIter I x i kvs.length ep:=by have c:s.heap.IsKeyIter I x i (kvs.map _).length ep:=c;rwa[b']at c
   by_cases q:i<kvs.length
   ·refine Im (k:=kvs[i].1) (v:=kvs[i].2) c' d (w_ q) λkey h' hk hc hs=>?_
    have Ku:fb h' I x (i+1) (.dic (kvs.map λp=>(.str p.1 0,er p.2)) ep):=by show h'.IsKeyIter I x (i+1) (kvs.map _).length ep;rw[b'];exact hc
    refine xE (go s.toks hs Ku) λL5 S'=>?_;refine h1 (.str kvs[i].1 0) _ _ L5 (by simp[q]) ?_ S' Ku;cases key<;>first |exact(ft hk).elim|skip
    (rename Hw=>t;rename PySem.Str=>z)
    have e:(z==kvs[i].1)=e_:=hk;rw[C9.mp e];rfl
   ·refine Iy hh c' d (DS (by walk_at "a")) λh' hs=>?_
    exact h2 _ (by walk_at "a") (S0.but s.toks (λb o nb eb=>hs b o nb eb) n1 n2 n3)
 |_=>exact(ns hx).elim
end
section
variable(qt:Dm)(prog:Fc)(w:Ew)(Zb6:Fu)(Zb9:i')
noncomputable def dB (d:Nat)(E:ET):Prop:=∀ {e:Expr} {sc:DR} {fm:Fm} {Z:ak} {Q:bC},E e sc fm Z Q->∀ {env:Env} {B:aS} {s:i'} {A:DJ} {Err:c_->i'->Prop} {R:c_->i'->Prop},bL env sc->St prog w Zb6 Zb9 env fm Z B s->a0 qt d A->
 Kt prog w Zb6 Zb9 env fm B Q R->wpAny (A_ prog w) A (eval e env) R Err s
noncomputable def fc (d:Nat)(T:TT):Prop:=∀ {e:Expr} {sc:DR} {fm:Fm} {Z:ak} {Q:gB},T e sc fm Z Q->∀ {env:Env} {B:aS} {s:i'} {A:DJ} {Err:c_->i'->Prop} {R:Dm->i'->Prop},bL env sc->St prog w Zb6 Zb9 env fm Z B s->a0 qt d A->
 mY prog w Zb6 Zb9 env fm B Q R->wpAny (A_ prog w) A (isTrue e env (eval e env)) R Err s
noncomputable def eQ (d:Nat)(T:a6):Prop:=(T 28=h_->qt=g')/\∀f W,T f=a_ W->Il (KF w.params) (.ref f)=e_/\gm qt prog w Zb6 Zb9 d f W
end
section
variable{B B':aS}{A:DJ}{T:a6}{E:ET}{d:Nat}
theorem pN {e:Expr}{es:b_ Expr}(h:dL e=e_):Hf (e::es) env=(g',eval e env)::Hf es env:=by
 cases e<;>first |rfl|exact(ft h).elim
theorem pO (pos:Pos):∀ (es:b_ Expr),es.all dL=e_->(JD pos (Hf es env)).any (λp=>p.1)=g'
 | [],_=>rfl
 |e::r,h=>by
  rw[D5,u_]at h;rw[pN h.1];show(g'||(JD pos (Hf r env)).any (λp=>p.1))=g';rw[Bool.false_or];exact pO pos r h.2
theorem ni (HE:dB qt prog w Zb6 Zb9 d E)(N:bL env sc)(hA:a0 qt d A)(pos:Pos):∀ (es:b_ Expr) {Z:ak} {s:i'} {Qs:b_ c_->ak->Prop} {R:b_ c_->i'->Prop},es.all dL=e_->eP E es sc fm Z Qs->St prog w Zb6 Zb9 env fm Z B s->
 (∀vs Z' s',Qs (vs.map er) Z'->St prog w Zb6 Zb9 env fm Z' B s'->R vs s')->wpAny (A_ prog w) A (spliced (JD pos (Hf es env))) R Err s
 | [],Z,s,Qs,R,_,h,S,k=>args_nil (k [] Z s h S)
 |e::r,Z,s,Qs,R,hp,h,S,k=>by
  rw[D5,u_]at hp;refine IX (HE h N S hA λu Z1 s1 h1 S1=>?_) (pN hp.1);exact ni HE N hA pos r hp.2 h1 S1 λvs Z2 s2 h2 S2=>k _ Z2 s2 h2 S2
theorem xT {f:c_}(D:aQ w Zb6 mg mb)(HT:eQ qt prog w Zb6 Zb9 d T)(S:St prog w Zb6 Zb9 env fm Z B s)(hA:a0 qt (d+1) A)(e:c9 T (er f) (vs.map er) Z Q){R:c_->i'->Prop}(K:Kt prog w Zb6 Zb9 env fm B Q R):
 (∃k,(k=GM\/k=FR\/k=Fp)/\Hm (A_ prog w) s.heap (IJ f) k)/\
 wpAny (A_ prog w) A (call f vs) R Err s:=by
 revert D HT S hA e;intros qt Z vs Zb6 Zb9 s fm mg mb env Q prog w Err B A T d f R;have X:=S.rep.in D;cases f<;>first |(exact e.elim;done) |skip
 rotate_left 2
 ·intros a
  rename d_=>a
  rw[show er (.ref a)=.ref a from rfl]at e;unfold c9 at e;dsimp only at e;split at e
  ·rename _=_=>hW
   refine xA (HT.2 a W hW) λhk hc=>?_;exact⟨Jr hk _ X,hc.call S (hA.le (EV d)) e K⟩
  ·split at e
   · (rename _=_=>hi;rename d_=>i)
     refine ac e ?_;clear e;rintro W hW e;unfold jT at hi;refine ac (t_.mp hi) λms hms hi=>?_;exact⟨Jr (xS hms w.params) _ X,xy D hms hi (HT.2 i W hW).2 S hA e K⟩
   ·split at e
    · (rename _=_=>hi;rename d_=>i)
      refine dm e ?_;clear e;rintro W hW hl e;rw[b']at hl;exact⟨Jr (xC hi w.params) _ X,xJ D hi hl (HT.2 i W hW).2 S hA e K⟩
    ·refine bW e ?_;clear e;rintro self v q q2 e
     refine ac (nf q2) ?_;rintro v rfl rfl;refine⟨⟨.machine,.inr (.inl rfl),?_⟩,xR S q e K⟩;refine dm (S.rep.om _ _ q) λws ho h0 h1=>?_;exact(Looks.ld (part:=h_) ho).andThen .now
 ·exact⟨⟨.machine,.inr (.inl rfl),Looks.of_pure rfl⟩,xP D S e K⟩
 ·exact⟨⟨.machine,.inr (.inl rfl),Looks.of_pure rfl⟩,xO D (λz=>hA.hd (HT.1 (e.1.resolve_right (by rw[z];exact El)))) S e.2 K⟩
theorem nj {f:c_}{first:b_ c_}{es:b_ Expr}(D:aQ w Zb6 mg mb)(HT:eQ qt prog w Zb6 Zb9 d T)(HE:dB qt prog w Zb6 Zb9 (d+1) E)(N:bL env sc)(S:St prog w Zb6 Zb9 env fm Z B s)(hA:a0 qt (d+1) A)
 (e:jV E es sc fm Z λvs Z=>c9 T (er f) (first.map er++vs) Z Q) {R:c_->i'->Prop} (K:Kt prog w Zb6 Zb9 env fm B Q R):
 wpAny (A_ prog w) A (callWith pos f first (JD pos (Hf es env)) []) R Err s:=by
 have step:∀vs Z' s',c9 T (er f) (first.map er++vs.map er) Z' Q->St prog w Zb6 Zb9 env fm Z' B s'->(∃k,(k=GM\/k=FR\/k=Fp)/\Hm (A_ prog w) s'.heap (IJ f) k)/\
  wpAny (A_ prog w) A (call f (first++vs)) R Err s':=by
  intro vs Z' s' h S';rw[<-r_]at h;exact xT D HT S' hA h K
 have:=ni (Err:=Err) HE N hA pos es e.1 e.2 S step;refine IK (P:=λh=>∃k,(k=GM\/k=FR\/k=Fp)/\Hm (A_ prog w) h (IJ f) k) (by rw[pO pos es e.1];rfl) (λh hp=>hp) ?_;cases es with
 |nil=>exact evalArgs_nil3 (step [] Z s e.2 S)
 |cons x r=>
  have hp:dL x=e_:=by have:=e.1;rw[D5,u_]at this;exact this.1
  have t:=this;rw[pN hp]at t⊢;exact evalArgs_plain t
end
noncomputable def xU:CFound->m_ c_
 |.val v=>a_ v
 |.get ..=>h_
noncomputable def sQ (o:m_ CFound):m_ d_:=(o.bind xU).bind λv=>fP (er v)
theorem sR {o:m_ CFound}(h:(sQ o==a_ f)=e_):o=a_ (.val (.ref f)):=by
 refine ac (t_.mp (C9.mp h)) λv hv h=>?_;refine ac (t_.mp hv) λc hc hv=>?_;cases c with
 |val u=>rw[hc,De hv,jX h]
 |get=>exact(ns hv).elim
noncomputable def sS (K:GC)(C:d_)(m:Str×Addr):Dm:=sQ (findCls K (.ref C) (.type "type") m.1)==a_ m.2
theorem xV (P:DF):(cN.all λp=>p.2.all λm=>sS (KF P) p.1 m)=e_:=by kernel_rfl
theorem xW (P:DF):(cP.all λp=>Ia (KF P) (.ref p.1) "__getattribute__"==a_ (a_ (.builtin "type.__getattribute__"))&&readsIn (KF P) p.1 (.type "type")&&sS (KF P) p.1 ("__init__",p.2))=e_:=by kernel_rfl
theorem xX {a:Str}(e:cN.lookup C=a_ ms)(h:ms.lookup a=a_ f)(P:DF):findCls (KF P) (.ref C) (.type "type") a=a_ (.val (.ref f)):=by
 have h1:=l_.mp (xV P) (C,ms) (dP e);have h2:=l_.mp h1 (a,f) (dP h);exact sR h2
namespace BM
theorem pP:Slot "method_descriptor" "__get__" "method_descriptor.__get__":=
 .of (owner:="method_descriptor") (n:="__get__") (by rw[Iq,GW];kernel_rfl) (by decide+kernel) (by decide+kernel) (by decide+kernel)
  (by first |exact .inl (by decide+kernel) |exact .inr (by decide+kernel)) (by rw[isSubtype_type];kernel_rfl)
theorem xY:entryFor table "method_descriptor.__get__"=a_ Builtin.«method_descriptor.__get__»:=entryFor_of_tree (by kernel_rfl)
theorem xZ (a b c:c_):argsOk "method_descriptor.__get__" ⟨[a,b,c],[]⟩:=by unfold argsOk;kernel_rfl
theorem x0:Ii (.type "method_descriptor") "__set__"=F9 h_:=by rw[Iq,GW];kernel_rfl
theorem x7:Ii (.type "method_descriptor") "__delete__"=F9 h_:=by rw[Iq,GW];kernel_rfl
theorem sT:entryFor table "list.__getattribute__"=a_ Builtin.«object.__getattribute__»:=
 entryFor_alias (id':="object.__getattribute__") (by kernel_rfl) (by decide+kernel) (by decide+kernel) (by kernel_rfl)
noncomputable abbrev bm (x:d_):Obj:={cls:=.type "builtin_function_or_method",data:=.fields #[.builtin "list.append",.ref x]}
theorem x8:".".intercalate ("list.append".cutAt '.').dropLast="list":=by decide+kernel
theorem x9:isSubtype (.type "list") (.type (".".intercalate ("list.append".cutAt '.').dropLast))=F9 e_:=by rw[x8,isSubtype_type];kernel_rfl
section
variable{A:DJ}{E:c_->i'->Prop}{g:Gc Jj}{d:Drawn}{t:Nat}{vs:Gc c_}
theorem ya {R:Ja->i'->Prop}(hx:IsL h a vs n)(hq:R (.ok (.ret (.ref h.objs.size))) ⟨h.push (bm a),g,d,t,os⟩):
 Hr (A_ prog w) A (.call (.builtin "method_descriptor.__get__") ⟨[.builtin "list.append",.ref a,.type "list"],[]⟩) R ⟨h,g,d,t,os⟩:=by
 have hT:(⟨h,g,d,t,os⟩:i').TypeIs (.ref a) "list":=⟨_,hx,rfl⟩;have Za7:(⟨h,g,d,t,os⟩:i').TypeIs (.builtin "list.append") "method_descriptor":=Ft;have f8:=x9;refine FQ pP.plain xY (pP.check _ _ _ _ _ _ _ _ Za7 (xZ _ _ _) ?_);unfold Builtin.«method_descriptor.__get__»
 repeat(any_goals(first |assumption |wp_step))
theorem sU {tk:Tok}{Q:Fin->i'->Prop}(hx:IsL h a vs n)(hq:Q (.done (.ret (.ref h.objs.size))) ⟨h.push (bm a),g,d,t,os⟩):
 wpAny (A_ prog w) A (Builtin.«object.__getattribute__» ⟨[.ref a,.str "append" tk],[]⟩) Q E ⟨h,g,d,t,os⟩:=by
 intros a n h prog w os A E g d t vs tk Q;have hT:(⟨h,g,d,t,os⟩:i').TypeIs (.ref a) "list":=⟨_,hx,rfl⟩;have Za7:(⟨h,g,d,t,os⟩:i').TypeIs (.builtin "list.append") "method_descriptor":=Ft;have f4:=H8.lookup;have f5:=Ft;have f6:=pP.lookup;have f7:=x0;have f8:=x7
 repeat(any_goals(first |assumption |wp_step))
 refine ya hx ?_;exact wpAny_pure hq
theorem getAttr_append {Q:c_->i'->Prop}(hx:IsL h a vs n)(hq:Q (.ref h.objs.size) ⟨h.push (bm a),g,d,t+1,os⟩):
 wpAny (A_ prog w) A (IV (.ref a) "append" Lj) Q E ⟨h,g,d,t,os⟩:=by
 have hT:∀tk',(⟨h,g,d,tk',os⟩:i').TypeIs (.ref a) "list":=λU=>⟨_,hx,rfl⟩;have f3:=EG.lookup;have f4:=EG.bind (.ref a);unfold IV getAttrBy
 repeat(any_goals(first |assumption |exact hT _|((with_reducible show wpAny _ _ (call (H6 "list.__getattribute__") _ _) _ _ _);refine G2 EG (hT _) sT (sU hx ⟨_,rfl,?_⟩) (GN _ _)) |wp_step))
 rw[show(Lj&&onTheHeap (H6 "list.__getattribute__"))=g' by cases Lj<;>rfl];simp only [Dt,Fj];unfold boundAndCalled
 repeat(any_goals(first |assumption |exact hT _|((with_reducible show wpAny _ _ (call (H6 "list.__getattribute__") _ _) _ _ _);refine G2 EG (hT _) sT (sU hx ⟨_,rfl,?_⟩) (GN _ _)) |wp_step))
end
end BM
section
variable{B B':aS}{A:DJ}{T:a6}{E:ET}{d:Nat}
theorem yb {c:Const}(S:St prog w Zb6 Zb9 env fm Z B s)(e:o8 c Z Q){R:c_->i'->Prop}(K:Kt prog w Zb6 Zb9 env fm B Q R):
 wpAny (A_ prog w) A (eval (.Constant c k pos) env) R Err s:=by
 cases c<;>first |(exact e.elim;done) |skip
 ·exact wpAny_Constant_none (K _ _ _ e S)
 ·exact wpAny_Constant_bool (K _ _ _ e S)
 ·exact Gv (K _ _ _ e (S.tok _))
 ·exact HI (K _ _ _ e (S.tok _))
theorem yc {x:d_}(D:aQ w Zb6 mg mb)(S:St prog w Zb6 Zb9 env fm Z B s)(e:Z x=a_ (.lst xs))(h:∀m,isNew Z m->Q (.ref m) (Z.set m (.bm "list.append" x))){R:c_->i'->Prop}(K:Kt prog w Zb6 Zb9 env fm B Q R):
 wpAny (A_ prog w) A (IV (.ref x) "append" Lj) R Err s:=by
 refine aY (S.isL e) λvs n hl m=>?_;obtain⟨hh,g,dr,t,os⟩:=s;exact BM.getAttr_append hl (K _ _ _ (h hh.objs.size (S.rep.isNew D)) (S.new (t+1) rfl ⟨_,y_ _ rfl,rfl,rfl⟩))
theorem yd {a:Str}(D:aQ w Zb6 mg mb)(S:St prog w Zb6 Zb9 env fm Z B s)(e:gF Z (er v) a Q){R:c_->i'->Prop}(K:Kt prog w Zb6 Zb9 env fm B Q R):
 wpAny (A_ prog w) A (IV v a Lj) R Err s:=by
 unfold gF at e;split at e
 ·rename _=_=>q
  have:=cU q;subst this;split at e
  ·rename _=_=>q
   refine xA e ?_;clear e;rintro rfl e;exact yc D S q e K
  ·refine ac e ?_;clear e;rintro u hu e
   exact pg D S.rep hu λu' LV=>K _ _ _ (LV▸e) (S.tok _)
 ·exact e.elim
theorem sV {o:Expr}{a:Str}{t:Sem c_}(h:iV o=e_):attributeBase o a env t=t:=by
 cases o<;>first |rfl|skip
 intros env a t func args keywords pos
 (rename b_ _=>kws;rename PySem.Expr=>f)
 cases f<;>first |rfl|exact(ft h).elim
theorem pQ {o:Expr}{lo up:m_ Expr}{Q:c_->i'->Prop}
 (h:wpAny (A_ prog w) A (eval o env) (λo Zca=>wpAny (A_ prog w) A (eval (.Slice lo up h_ p) env) (λi Zcb=>∃T id,Ii (.type T) "__getitem__"=F9 (a_ (.builtin id))/\Zcb.TypeIs o T/\wpAny (A_ prog w) A (IW o i) Q Err Zcb) Err Zca) Err s):
 wpAny (A_ prog w) A (eval (.Subscript o (.Slice lo up h_ p) pos) env) Q Err s:=by
 refine Subscript_ (EQ h (λv s1 h1=>EQ h1 (λi s2 h2=>?_) λU U q=>q) λU U q=>q);refine bW h2 λT id hl hT hg=>?_;clear h2;exact Ic (ops:=[i,v]) hT hl hg rfl
theorem sW {Q:c_->i'->Prop}(h:wpAny (A_ prog w) A (eval u env) (λb s2=>Q (.ref s2.heap.objs.size) {s2 with heap:=s2.heap.push {cls:=.type "slice",data:=.fields #[.none,b,.none]}}) Err s):
 wpAny (A_ prog w) A (eval (.Slice h_ (a_ u) h_ p) env) Q Err s:=by
 rw[arm_eval_Slice];refine wpAny_bind (wpAny_pure (wpAny_bind (Es ?_)));refine EQ (show wpAny (A_ prog w) A (valueOrNone (evalOpt (a_ u) env)) _ Err s from h) (λb s2 h2=>?_) λU U q=>q;refine wpAny_bind (Es (wpAny_pure ?_));exact FM h2
theorem ye {Q:c_->i'->Prop}(h:wpAny (A_ prog w) A (eval u env) (λb s2=>Q (.ref s2.heap.objs.size) {s2 with heap:=s2.heap.push {cls:=.type "slice",data:=.fields #[b,.none,.none]}}) Err s):
 wpAny (A_ prog w) A (eval (.Slice (a_ u) h_ h_ p) env) Q Err s:=by
 rw[arm_eval_Slice];refine wpAny_bind ?_;refine EQ (show wpAny (A_ prog w) A (valueOrNone (evalOpt (a_ u) env)) _ Err s from h) (λb s2 h2=>?_) λU U q=>q;refine wpAny_bind (Es (wpAny_pure ?_));refine wpAny_bind (Es (wpAny_pure ?_));exact FM h2
theorem yf {a:Str}{g:Value×List c_}{pl:Sem Dm}{Q:Value×List c_->i'->Prop}(D:aQ w Zb6 mg mb)(S:St prog w Zb6 Zb9 env fm Z B s)(e:fY Z (er v) a=a_ g)
 (h:∀f first s',er f=g.1->first.map er=g.2->St prog w Zb6 Zb9 env fm Z B s'->Q (f,first) s'):wpAny (A_ prog w) A (G0 v a pl) Q Err s:=by
 intros Z v Zb6 Zb9 s fm mg mb env prog w Err B A a g pl Q;unfold fY at e;split at e
 ·intros x
  rename _=Di _=>q
  have:=cU q;subst this;cases q:Z x with
  |none=>rw[q]at e;exact(ns e).elim
  |some o=>
  revert q;revert o;injections o;intro q;rw[q]at e;cases o with
  |inst C dd fl=>
   dsimp only at e;split at e
   ·revert q;revert e;revert C dd fl d_1;injections C dd fl d_1;intro _ e q
    (rename _=a_ d_1=>hf;rename d_=>f)
    split at e
    ·rename _=e_=>hn
     cases e;refine ac (t_.mp hf) λms hms hf=>?_;exact wy D S.rep q hms hf (HR.mp hn) (h _ _ s rfl rfl S)
    ·exact(ns e).elim
   ·refine ac (j_.mp e) ?_;rintro u hu rfl
    exact wz D S.rep q hu λu' LV=>h _ _ _ LV rfl (S.tok _)
  |lst xs=>
   revert q;revert e;revert xs;injections xs;intro e q;refine ac (j_.mp e) ?_;rintro id bD rfl;intros id;refine aY (S.isL q) λvs n hl m=>?_;intros vs n;have go:∀ {name:Str} {id:EB},Slot "list" name id->typeOf (.builtin id)=F9 (.type "method_descriptor")->Q (.builtin id,[.ref x]) s->wpAny (A_ prog w) A (G0 (.ref x) name pl) Q Err s:=λsl ht hq=>
    H0 ⟨_,hl,rfl⟩ PySem.F.plainAttrs_list sl ht (λa e=>by cases e;exact⟨_,hl,rfl⟩) hq
   unfold o0 at bD;split at bD
   ·rename _=e_=>z;rw[C9]at z;subst z;cases bD;exact go H8 Ft (h _ _ s rfl rfl S)
   split at bD
   ·rename _=e_=>z;rw[C9]at z;subst z;cases bD;exact go PySem.F.slot_list_pop PySem.F.type_list_pop (h _ _ s rfl rfl S)
   split at bD
   ·rename _=e_=>z;rw[C9]at z;subst z;cases bD;exact go PySem.F.slot_list_extend PySem.F.type_list_extend (h _ _ s rfl rfl S)
   split at bD
   ·rename _=e_=>z;rw[C9]at z;subst z;cases bD;exact go PySem.F.slot_list_count PySem.F.type_list_count (h _ _ s rfl rfl S)
   ·exact(ns bD).elim
  |dic es n=>
   revert q;revert e;revert es n;injections es n;intro e q;refine ac (j_.mp e) ?_;rintro id bD rfl;intros id;have go:∀ {name:Str} {id:EB},Slot "dict" name id->typeOf (.builtin id)=F9 (.type "method_descriptor")->Q (.builtin id,[.ref x]) s->wpAny (A_ prog w) A (G0 (.ref x) name pl) Q Err s:=λsl ht hq=>by
    refine xA (S.rep.om _ _ q) λU dd=>?_;rcases dd with ⟨kvs,d,_⟩ |⟨kvs,d,_⟩
    ·exact H0 d.dictOf.typeIs Ie sl ht d.dictOf.mapOf.noDict hq
    ·exact H0 d.dictOf.typeIs Ie sl ht d.dictOf.mapOf.noDict hq
   unfold o7 at bD;split at bD
   ·rename _=e_=>z;rw[C9]at z;subst z;cases bD;exact go PySem.F.slot_dict_pop PySem.F.type_dict_pop (h _ _ s rfl rfl S)
   split at bD
   ·rename _=e_=>z;rw[C9]at z;subst z;cases bD;exact go PySem.F.slot_dict_get PySem.F.type_dict_get (h _ _ s rfl rfl S)
   split at bD
   ·rename _=e_=>z;rw[C9]at z;subst z;cases bD;exact go PySem.F.slot_dict_setdefault PySem.F.type_dict_setdefault (h _ _ s rfl rfl S)
   ·exact(ns bD).elim
  |_=>exact(ns e).elim
 ·exact(ns e).elim
theorem yg {v:Expr}(D:aQ w Zb6 mg mb)(HE:dB qt prog w Zb6 Zb9 d E)(N:bL env sc)(S:St prog w Zb6 Zb9 env fm Z B s)(hA:a0 qt d A)
 (h:E v sc fm Z λvv Z=>∀l n,isNew Z l->Q (.ref l) (Z.set l (.dic [(.int i 0,vv)] n))) {R:c_->i'->Prop} (K:Kt prog w Zb6 Zb9 env fm B Q R):
 wpAny (A_ prog w) A (eval (.Dict [a_ (.Constant (.int i) k p)] [v] pos) env) R Err s:=by
 have n2:=S.rep.noneSize;have nl:env.locals≠s.heap.objs.size:=λq=>by
  refine ac S.ns λm hm U=>?_;exact absurd (q▸hm.lt) (DH _)
 have S1:St prog w Zb6 Zb9 env fm Z (B.add s.heap.objs.size EW) {s with heap:=s.heap.push EW}:=(S.grow s.toks λb o eb=>j' EW eb).hide S.rep.notSize n2 nl (y_ _ rfl);refine wpAny_Dict_walk (knd:=Hq prog w) rfl rfl (by simp) (by simp) (Hn (Gv (HE h N (S1.tok _) hA λvv Z2 s2 h2 S2=>Jc ?_)));refine dG (S2.show' n2 S.rep.base) λS0 n1 ed U=>?_;have da:s2.heap.DictAt (Hq prog w) s.heap.objs.size [] 0:=⟨_, #[],ed,⟨rfl,rfl,rfl⟩,rfl,λU he=>by simp at he,.nil,by simp⟩;refine⟨[(i,vv)],⟨i3 _ _,rfl,trivial⟩,da.dictOf,λh' hd hs=>?_⟩;refine xE hd.dictAt λn d'=>?_;have S3:=S0.but (h':=h') (s2.toks+1) (λb o nb eb=>(hs.2 b nb).trans eb) n1 n2 nl;have big:=S.rep.big D;have nw:isNew Z2 s.heap.objs.size:=by
  refine⟨?_,big⟩;cases e:Z2 s.heap.objs.size with
  |none=>rfl
  |some o=>exact absurd (dw e) n1
 refine K _ _ _ (h2 _ n nw) ⟨S3.rep.adopt n1 n2 (λd q=>by exact(ns q).elim) ⟨by show s.heap.objs.size≠1;walk_at "E",.inl ⟨[(i,vv)],d',rfl⟩⟩,S3.ns,?_,S3.priv,S3.cel,S3.same⟩;rw[i4 rfl _ nw.1];rintro(q|q)
 ·exact nl q
 ·exact S3.free q
theorem sX {x:Str}{k':Nat}{p':Pos}{v:Expr}{Q:bC}(D:aQ w Zb6 mg mb)(HE:dB qt prog w Zb6 Zb9 d E)(N:bL env sc)(S:St prog w Zb6 Zb9 env fm Z B s)(hA:a0 qt d A)(Vx:x≠y)
 (h:E v sc fm Z λvv Z=>E u sc fm Z λuu Z=>∀l n,isNew Z l->Q (.ref l) (Z.set l (.dic [(.str x 0,vv),(.str y 0,uu)] n))) {R:c_->i'->Prop} (K:Kt prog w Zb6 Zb9 env fm B Q R):
 wpAny (A_ prog w) A (eval (.Dict [a_ (.Constant (.str x) k p),a_ (.Constant (.str y) k' p')] [v,u] pos) env) R Err s:=by
 revert D HE N S hA Vx h;intros pos p k qt Z Zb6 Zb9 s y u fm sc mg mb env prog w Err B A E d x k' p' v Q R;have n2:=S.rep.noneSize;have nl:env.locals≠s.heap.objs.size:=λq=>by
  refine ac S.ns λm hm U=>?_;exact absurd (q▸hm.lt) (DH _)
 have S1:St prog w Zb6 Zb9 env fm Z (B.add s.heap.objs.size EW) {s with heap:=s.heap.push EW}:=(S.grow s.toks λb o eb=>j' EW eb).hide S.rep.notSize n2 nl (y_ _ rfl);refine wpAny_Dict_walk (knd:=strKind prog w) rfl rfl (by simp) (by simp) (Hn (HI (HE h N (S1.tok _) hA λvv Z2 s2 h2 S2=>?_)));intros vv Z2 s2;refine Hn (HI (HE h2 N (S2.tok _) hA λuu Z3 s3 h3 S3=>Jc ?_));intros uu Z3 s3;refine dG (S3.show' n2 S.rep.base) λS0 n1 ed U=>?_;have da:s3.heap.DictAt (strKind prog w) s.heap.objs.size [] 0:=⟨_, #[],ed,⟨rfl,rfl,rfl⟩,rfl,λU he=>by simp at he,.nil,by simp⟩;refine⟨[(x,vv),(y,uu)],⟨iy _ _,rfl,iy _ _,rfl,trivial⟩,da.dictOf,λh' hd hs=>?_⟩;have hm:merged [] [(x,vv),(y,uu)]=[(x,vv),(y,uu)]:=by
  unfold merged;simp[JB,Vx]
 rw[hm]at hd;refine xE hd.dictAt λn d'=>?_;have S4:=S0.but (h':=h') (s3.toks+2) (λb o nb eb=>(hs.2 b nb).trans eb) n1 n2 nl;have big:=S.rep.big D;have nw:isNew Z3 s.heap.objs.size:=by
  refine⟨?_,big⟩;cases e:Z3 s.heap.objs.size with
  |none=>rfl
  |some o=>exact absurd (dw e) n1
 refine K _ _ _ (h3 _ n nw) ⟨S4.rep.adopt n1 n2 (λd q=>by exact(ns q).elim) ⟨by show s.heap.objs.size≠1;walk_at "E",.inr ⟨[(x,vv),(y,uu)],d',rfl⟩⟩,S4.ns,?_,S4.priv,S4.cel,S4.same⟩;rw[i4 rfl _ nw.1];rintro(q|q)
 ·exact nl q
 ·exact S4.free q
theorem yh (P:DF):findCls (KF P) (.type "Exception") (.type "type") "__init__"=a_ (.val (.builtin "Exception.__init__")):=by kernel_rfl
theorem yi {pl:Sem Dm}{Q:Value×List c_->i'->Prop}(X:(KF w.params).In s.heap)(h:Q (.builtin "Exception.__init__",[]) {s with toks:=s.toks+1}):wpAny (A_ prog w) A (G0 (.type "Exception") "__init__" pl) Q Err s:=by
 have RK:opaqueClassAbove (.type "Exception")=F9 h_:=by kernel_rfl
 have L0:Hm (A_ prog w) s.heap (typeOf (.type "Exception")) (.type "type"):=Looks.of_pure (by kernel_rfl);have hg:EZ (KF w.params) (.type "type") "__getattribute__"=a_ (a_ (.builtin "type.__getattribute__")):=type_tga;unfold G0 specialOf;refine wpAny_bind (wpAny_bind (L0.here ((GF X hg).here ?_)));dsimp only;rw[z_ canon_tga];refine wpAny_bind (EQ (Q:=λv=>Q (v,[])) (E:=Err) ?_ (λU U z=>wpAny_pure z) λU U z=>z);have LO:Hm (A_ prog w) s.heap (opaqueClassAbove (.type "Exception")) h_:=Looks.of_pure RK;refine cls_open X LO L0 hg (looks_hook X (r:=h_) (by rfl)) (by show subIn (KF w.params) _ _=_;rfl) (yh w.params)
  (wpAny_pure (by show wpAny _ _ (handedOut (.builtin "Exception.__init__")) _ _ _;rw[handedOut_of (by rfl)];exact wpAny_pure h))
theorem yj {o i:Expr}{Q:bC}(D:aQ w Zb6 mg mb)(HE:dB qt prog w Zb6 Zb9 d E)(N:bL env sc)(S:St prog w Zb6 Zb9 env fm Z B s)(hA:a0 qt d A)(h:rC E o i sc fm Z Q){R:c_->i'->Prop}(K:Kt prog w Zb6 Zb9 env fm B Q R):
 wpAny (A_ prog w) A (eval (.Subscript o i pos) env) R Err s:=by
 revert D HE N S hA h;intros pos qt Z Zb6 Zb9 s fm sc mg mb env prog w Err B A E d o i Q R;rcases h with ⟨hs,h⟩ |⟨u,p,rfl,h⟩ |⟨u,p,rfl,h⟩
 ·refine Subscript_ (HE h N S hA λv Z1 s1 h1 S1=>?_)
  intros v Z1 s1;refine HE h1 N S1 hA λu Z2 s2 z2 S2=>?_;intros u Z2 s2;refine ac z2 λw' hw h2=>?_;intros w';clear z2;exact xw D S2 hw (by cases i<;>first |rfl|exact(ft hs).elim) λu s' LV S'=>K _ _ _ (LV▸h2) S'
 ·intros u p
  refine pQ (HE h N S hA λv Z1 s1 h1 S1=>?_);refine sW (HE h1 N S1 hA λb Z2 s2 h2 S2=>?_);revert h1 S1;intros v Z1 s1 b Z2 s2;refine fL h2 ?_;clear h2;rintro x xs k ev eb q k0 zz;refine bP zz λk1 hz h2=>?_;clear zz;have:=cU ev;subst this;refine xE (fZ eb) ?_;rintro t rfl;refine aY (S2.isL q) λvs n hl m=>?_;have S3:=S2.grow (h':=s2.heap.push {cls:=.type "slice",data:=.fields #[.none,.int k t,.none]}) s2.toks λb o eb=>j' _ eb;refine⟨"list",_,GL.lookup,⟨_,j' _ hl,rfl⟩,?_⟩;refine sp (lo:=h_) (hi:=a_ k) (vl:=.none) (vu:=.int k t) D S3 q hz ⟨_,y_ _ rfl,rfl,rfl⟩ .none (.int k t) (λvs hv=>?_) λl s' hl S'=>K _ _ _ (h2 l hl) S';refine xE (Fz k0) ?_;rintro j rfl;rw[slicePick_upto', <-hv];simp
 ·intros u p
  refine pQ (HE h N S hA λv Z1 s1 h1 S1=>?_);intros v Z1 s1;refine ye (HE h1 N S1 hA λb Z2 s2 h2 S2=>?_);intros b Z2 s2;rcases h2 with ⟨x,xs,k,ev,eb,q,k0,k1,hz,h2⟩ |⟨x,k,ev,eb,hz,h2⟩
  ·have:=cU ev;subst this
   refine xE (fZ eb) ?_;rintro t rfl;refine aY (S2.isL q) λvs n hl m=>?_;have S3:=S2.grow (h':=s2.heap.push {cls:=.type "slice",data:=.fields #[.int k t,.none,.none]}) s2.toks λb o eb=>j' _ eb;refine⟨"list",_,GL.lookup,⟨_,j' _ hl,rfl⟩,?_⟩;refine sp (lo:=a_ k) (hi:=h_) (vl:=.int k t) (vu:=.none) D S3 q hz ⟨_,y_ _ rfl,rfl,rfl⟩ (.int k t) .none (λvs hv=>?_) λl s' hl S'=>K _ _ _ (h2 l hl) S';refine xE (Fz k0) ?_;rintro j rfl;rw[slicePick_from', <-hv];simp
  ·refine xE (pc ev) ?_;rintro t rfl
   refine xE (fZ eb) ?_;rintro t' rfl;have Ly:x.length<=HD:=by rw[DB];walk_at "o"
   exact PySem.SBH.sliceItem_sn (A:=A) (E:=Err) (prog:=prog) (w:=w) (x:=x) (t:=t) (i:=k) (ui:=t') (s:=s2) (P:=λh=>∀b o,s2.heap.get? b=a_ o->h.get? b=a_ o) (Q:=R)
    (λh ob ih b o e=>j' _ (ih b o e)) (λb o e=>e) (λh' t'' k' ih=>K _ _ _ h2 (S2.grow k' ih)) Ly
theorem pR (HE:dB qt prog w Zb6 Zb9 d E)(N:bL env sc)(hA:a0 qt d A){pos:Pos}{Q:bC}{R:c_->i'->Prop}(K:Kt prog w Zb6 Zb9 env fm B Q R):∀ (es:b_ Expr) {Z:ak} {s:i'},kZ E es sc fm Z Q->St prog w Zb6 Zb9 env fm Z B s->
 wpAny (A_ prog w) A (eval (.BoolOp .And es pos) env) R Err s
 | [],Z,s,h,S=>h.elim
 | [e],Z,s,h,S=>BoolOp_one (HE h N S hA K)
 |e::f::r,Z,s,h,S=>by
  refine Jd (HE h N S hA λv Z1 s1 h1 S1=>sF S1 h1 λb s2 hb S2=>?_);cases b with
  |true=>exact pR HE N hA K (f::r) (by assumption) S2
  |false=>exact K _ _ _ (by assumption) S2
theorem pS (pos Kc:Pos){o:Expr}{a:Str}(hp:(Kc.endLine==pos.line)=e_)(hl:args.length<30)(hb:iV o=e_)(ha:args.all dL=e_):eval (.Call (.Attribute o a Kc) args [] pos) env=(do
 let ov<-eval o env
 standAt Kc.atName
 let (f,first) <-holding [ov] (G0 ov a (do return (<-importBound o env).getD e_))
 callWith pos f first (JD pos (Hf args env)) []):=by
 intros env args pos Kc o a;have Xf:methodCallForm (args.length+([]:b_ Keyword).length) (JD pos (Hf args env)) (backToKw pos (keywordEach [] env))=e_:=by
  unfold methodCallForm;have:=pO (env:=env) pos args ha;have h2:(JD pos (Hf args env)).all (λx=> !x.1)=e_:=by
   rw[List.all_eq_not_any_not];simp only [Bool.not_not];rw[this];rfl
  rw[h2];exact E_ (show args.length+0+0<30 from hl)
 rw[arm_eval_Call,sV hb];unfold methodCall;rw[Xf];have:methodCallPos e_ o env Kc pos=F9 pos:=by unfold methodCallPos;exact z_ hp
 rw[this]
 rfl
theorem yk {a:Str}(h:mx C a=a_ f)(P:DF):Ia (KF P) (.ref C) "__getattribute__"=a_ (a_ (.builtin "type.__getattribute__"))/\readsIn (KF P) C (.type "type")=e_/\findCls (KF P) (.ref C) (.type "type") a=a_ (.val (.ref f)):=by
 revert h;intros C f a P;unfold mx at h;split at h
 ·rename EA C cN=_=>hms
  have F:=jr hms P;exact⟨F.tg,F.rd,xX hms h P⟩
 ·split at h
  ·rename _=e_=>q;have q:=C9.mp q;subst q
   have:=l_.mp (xW P) (C,f) (dP h);simp only [u_,C9]at this;refine⟨this.1.1,this.1.2,?_⟩;have h2:=this.2;exact sR h2
  ·exact(ns h).elim
theorem yl {f:Expr}(D:aQ w Zb6 mg mb)(HT:eQ qt prog w Zb6 Zb9 d T)(HE:dB qt prog w Zb6 Zb9 (d+1) E)(N:bL env sc)(S:St prog w Zb6 Zb9 env fm Z B s)(hA:a0 qt (d+1) A)(h:rD T E f args pos sc fm Z Q){R:c_->i'->Prop}(K:Kt prog w Zb6 Zb9 env fm B Q R):
 wpAny (A_ prog w) A (eval (.Call f args [] pos) env) R Err s:=by
 revert D HT HE N S hA h;intros pos qt Z Zb6 Zb9 s fm sc mg mb env args Q prog w Err B A T E d f R;rcases h with ⟨hpl,hna,h⟩ |⟨o,a,Kc,rfl,hp,hl,⟨v,hC,h⟩ |⟨_,hb,ha,h⟩⟩
 ·refine Call_ (HE h N S hA λg Z1 s1 h1 S1=>nj D HT HE N S1 hA h1 K) ?_
  cases f<;>first |rfl|(exact(ft hna).elim;done) |cases hpl
 ·revert hp;intros o a Kc v
  refine ac (t_.mp hC) ?_;clear hC;intro x hx hC;intros x;refine xE (kY hx) ?_;rintro xp rfl;intros xp;split at hC
  ·rename _=e_=>hk
   rw[C9]at hk;have nd:(x==("__debug__":Str))=g':=by
    rw[r'];rintro rfl;have:G "__debug__"=h_:=by decide+kernel
    rw[this]at hC;exact(ns hC).elim
   rcases h with ⟨C,f,rfl,hf,h⟩ |⟨rfl,rfl,h⟩
   ·refine MethodCall_ (Ey (jq D S.rep N hk hC λu LV=>?_) nd) (pS pos Kc hp hl rfl h.1)
    have:=cU LV;subst this;have F:=yk hf w.params;refine method_cls (S.rep.in D) F.1 (cls_value (S.rep.in D) F.2.1 F.2.2 rfl ?_);exact nj D HT HE N (S.tok _) hA h K
   ·refine MethodCall_ (Ey (jq D S.rep N hk hC λu LV=>?_) nd) (pS pos Kc hp hl rfl h.1)
    have:=rO LV;subst this;exact yi (S.rep.in D) (nj D HT HE N (S.tok _) hA h K)
  ·exact(ns hC).elim
 ·refine MethodCall_ (HE h N S hA λv Z1 s1 z1 S1=>?_) (pS pos Kc hp hl hb ha)
  refine ac z1 λg hg h1=>?_;clear z1;refine yf D S1 hg λf first s2 hf hfi S2=>?_
  rw[<-hf, <-hfi]at h1;exact nj D HT HE N S2 hA ⟨ha,h1⟩ K
theorem yn (D:aQ w Zb6 mg mb)(HT:eQ qt prog w Zb6 Zb9 d T)(HE:dB qt prog w Zb6 Zb9 (d+1) E)(HB:fc qt prog w Zb6 Zb9 (d+1) Bt)
 (HC:∀ {elt:Expr} {gs:b_ I7} {cs:DR} {pos:Pos} {sc:DR} {fm:Fm} {Z:ak} {Q:bC},mJ T E Bt (.ListComp elt gs cs pos) sc fm Z Q->∀ {env:Env} {B:aS} {s:i'} {A:DJ} {Err:c_->i'->Prop} {R:c_->i'->Prop},bL env sc->St prog w Zb6 Zb9 env fm Z B s->a0 qt (d+1) A->Kt prog w Zb6 Zb9 env fm B Q R->
  wpAny (A_ prog w) A (eval (.ListComp elt gs cs pos) env) R Err s):dB qt prog w Zb6 Zb9 (d+1) (mJ T E Bt):=by
 intros qt Zb6 Zb9 mg mb prog w Bt T E d;intro e sc fm Z Q h env B s A Err R N S hA K;revert h;intros e sc fm Z Q env B s A Err R;have hu:A.units+64<IF:=by have:=hA.un;show A.units+64<9900;walk_at "z"
 cases e with
 |Constant c k pos=>exact yb S h K
 |Name x pos=>
  refine gy h λhx v hv hq=>?_;clear h;exact Ey (gU D S N hx hv λu LV=>K _ _ _ (LV▸hq) S) (fF hx).1
 |Attribute o a pos=>
  refine xA h ?_;clear h;rintro hb h;refine Attribute_any_ (HE h N S hA λv Z1 s1 h1 S1=>?_) (by rw[arm_eval_Attribute,sV hb]);exact yd D S1 h1 K
 |Subscript o i pos=>exact yj D HE N S hA h K
 |Compare l ops rs pos=>
  refine eY h ?_;clear h;rintro op r rfl rfl hm h;refine wpAny_Compare1 (HE h N S hA λv Z1 s1 h1 S1=>?_) hm;refine HE h1 N S1 hA λu Z2 s2 z2 S2=>?_;refine ac z2 λc hc h2=>?_;clear z2;exact pD S2 hu hc λs' S'=>K _ _ _ h2 S'
 |BinOp l op r pos=>
  refine wpAny_BinOp (HE h N S hA λv Z1 s1 h1 S1=>?_);refine HE h1 N S1 hA λu Z2 s2 h2 S2=>?_;exact xu D S2 h2 λu Z' s' hq S'=>K _ _ _ hq S'
 |UnaryOp op e pos=>
  refine xA h ?_;clear h;rintro rfl h;refine wpAny_UnaryOp (HE h N S hA λv Z1 s1 z1 S1=>?_);refine ac z1 λi hv h1=>?_;clear z1;refine xE (fZ hv) ?_;rintro t rfl;exact P.neg_int (K _ _ _ h1 (S1.tok _))
 |BoolOp op es pos=>
  refine xA h ?_;clear h;rintro rfl h;exact pR HE N hA K es h S
 |IfExp t a b pos=>
  refine wpAny_IfExp (HB h N S hA λc Z1 s1 h1 S1=>?_);cases c with
  |true=>exact HE (by simpa using h1) N S1 hA K
  |false=>exact HE (by simpa using h1) N S1 hA K
 |List es pos=>
  refine wpAny_List (ni HE N hA pos es h.1 h.2 S λvs Z1 s1 z1 S1=>?_);refine xA z1 λhz h1=>?_;clear z1;rw[b']at hz;exact⟨by rw[DB];walk_at "o",K _ _ _ (h1 _ (S1.rep.isNew D)) (S1.new s1.toks rfl ⟨_,_,y_ _ rfl,by simp⟩)⟩
 |Tuple es k pos=>
  refine wpAny_Tuple (ni HE N hA pos es h.1 h.2 S λvs Z1 s1 z1 S1=>?_);refine xA z1 λhz h1=>?_;clear z1;rw[b']at hz;exact⟨by rw[DB];walk_at "o",K _ _ _ (h1 _ (S1.rep.isNew D)) (S1.new s1.toks rfl ⟨_,_,y_ _ rfl,by simp⟩)⟩
 |Dict ks vs pos=>
  intros ks vs pos;rcases h with ⟨rfl,rfl,h⟩ |⟨i,k,p,v,rfl,rfl,h⟩ |⟨x,y,k,k',p,p',v,u,rfl,rfl,Vx,h⟩
  ·refine wpAny_Dict_empty ?_
   refine K _ _ _ (h s.heap.objs.size 0 (S.rep.isNew D)) (S.new s.toks rfl ⟨?_,.inl ⟨[],?_,rfl⟩⟩)
   ·have:=S.rep.big D
    show s.heap.objs.size≠1;walk_at "E"
   ·exact⟨_, #[],y_ _ rfl,⟨rfl,rfl,rfl⟩,rfl,λU he=>by simp at he,.nil,by simp⟩
  ·exact yg D HE N S hA h K
  ·exact sX D HE N S hA Vx h K
 |ListComp elt gs cs pos=>exact HC h N S hA K
 |Call f args kw pos=>
  refine xA h ?_;clear h;rintro rfl h;exact yl D HT HE N S hA h K
 |_=>exact h.elim
end
section
variable{B B':aS}{A:DJ}{T:a6}{E:ET}{d:Nat}
theorem sY (HB:fc qt prog w Zb6 Zb9 d Bt)(N:bL env sc)(hA:a0 qt d A){Q:gB}{R:Dm->i'->Prop}(K:mY prog w Zb6 Zb9 env fm B Q R):∀ (es:b_ Expr) {Z:ak} {s:i'},fQ Bt es sc fm Z Q->St prog w Zb6 Zb9 env fm Z B s->
 wpAny (A_ prog w) A (allTrue .And es env) R Err s
 | [],Z,s,h,S=>wpAny_allTrue_And_nil (K _ Z s h S)
 |e::r,Z,s,h,S=>by
  refine wpAny_allTrue_And_cons (HB h N S hA λb Z1 s1 h1 S1=>?_);cases b with
  |true=>exact sY HB N hA K r (by simpa using h1) S1
  |false=>exact K _ Z1 s1 (by simpa using h1) S1
theorem sZ (HB:fc qt prog w Zb6 Zb9 d Bt)(N:bL env sc)(hA:a0 qt d A){Q:gB}{R:Dm->i'->Prop}(K:mY prog w Zb6 Zb9 env fm B Q R):∀ (es:b_ Expr) {Z:ak} {s:i'},jn Bt es sc fm Z Q->St prog w Zb6 Zb9 env fm Z B s->
 wpAny (A_ prog w) A (allTrue .Or es env) R Err s
 | [],Z,s,h,S=>wpAny_allTrue_Or_nil (K _ Z s h S)
 |e::r,Z,s,h,S=>by
  refine wpAny_allTrue_Or_cons (HB h N S hA λb Z1 s1 h1 S1=>?_);cases b with
  |true=>exact K _ Z1 s1 (by simpa using h1) S1
  |false=>exact sZ HB N hA K r (by simpa using h1) S1
theorem yo (HE:dB qt prog w Zb6 Zb9 d E)(HB:fc qt prog w Zb6 Zb9 d Bt):fc qt prog w Zb6 Zb9 d (rG E Bt):=by
 intros qt Zb6 Zb9 prog w Bt E d;intro e sc fm Z Q h env B s A Err R N S hA K;revert h;intros e sc fm Z Q env B s A Err R;have hu:A.units+64<IF:=by have:=hA.un;show A.units+64<9900;walk_at "z"
 have val:∀ {e:Expr},pa e=e_->E e sc fm Z (λv Z=>fA Z v λb=>Q b Z)->wpAny (A_ prog w) A (isTrue e env (eval e env)) R Err s:=by
  intro e hp h;refine wpAny_isTrue_value (HE h N S hA λv Z1 s1 h1 S1=>?_) (by cases e<;>first |rfl|exact(ft hp).elim);exact sF S1 h1 λb s' hb S'=>K _ _ _ hb S'
 cases e with
 |UnaryOp op e pos=>
  refine xA h ?_;clear h;rintro rfl h;exact wpAny_isTrue_Not (HB h N S hA λb Z1 s1 h1 S1=>K _ _ _ h1 S1)
 |BoolOp op es pos=>
  refine wpAny_isTrue_BoolOp ?_;cases op with
  |And=>exact sY HB N hA K es h S
  |Or=>exact sZ HB N hA K es h S
 |Compare l ops rs pos=>
  refine eY h ?_;clear h;rintro op r rfl rfl hm h;refine wpAny_isTrue_Compare1 (HE h N S hA λv Z1 s1 h1 S1=>?_) hm;refine HE h1 N S1 hA λu Z2 s2 z2 S2=>?_;refine ac z2 λc hc h2=>?_;clear z2;exact pD S2 hu hc λs' S'=>FO (K _ _ _ h2 S')
 |IfExp t a b pos=>exact h.elim
 |_=>exact val h.1 h.2
theorem pT {x:Str}{k:NameKind}(hk:k≠ .free)(h:kindOf cs x=a_ k):(IY cs env).names.lookup x=a_ k:=by
 intros cs env x k;unfold kindOf at h;unfold IY;dsimp only;generalize cs.names=l at h;induction l with
 |nil=>exact(ns h).elim
 |cons p r ih=>
  intros p r;rw[v_]at h;obtain⟨n,k'⟩:=p;intros n k';rw[n_];dsimp only;split at h
  ·rename _=e_=>e
   have h:=De h;subst h;have:(k'==NameKind.free)=g':=by cases k'<;>first |rfl|exact absurd rfl hk
   rw[this];simp[v_,e]
  ·rename _=g'=>e
   split<;>rw[v_,e] <;>exact ih h
theorem yp {x:Str}(h:kindOf cs x=a_ .free):(IY cs env).names.lookup x=a_ .free\/(IY cs env).names.lookup x=a_ .cell:=by
 intros cs env x;unfold kindOf at h;unfold IY;dsimp only;generalize cs.names=l at h;induction l with
 |nil=>exact(ns h).elim
 |cons p r ih=>
  intros p r;rw[v_]at h;obtain⟨n,k'⟩:=p;intros n k';rw[n_];dsimp only;split at h
  ·rename _=e_=>e
   cases h;split
   ·exact .inr (by rw[v_,e])
   ·exact .inl (by rw[v_,e])
  ·rename _=g'=>e
   split<;>rw[v_,e] <;>exact ih h
noncomputable def gZ (env:Env)(JP:b_ (Str×Addr)):b_ (Str×NameKind)->m_ (b_ (Str×Addr))
 | []=>a_ JP
 |(x,k)::r=>if k== .free then(env.cells.lookup x).bind λc=>gZ env ((x,c)::JP) r else gZ env JP r
theorem pU {env:Env}:∀ (names:b_ (Str×NameKind)) (JP cl:b_ (Str×Addr)),gZ env JP names=a_ cl->
 (forIn names JP λ(p:Str×NameKind) (cs:b_ (Str×Addr))=>(if p.2== .free then do let c<-cellOf env p.1;F9 (ER ((p.1,c)::cs))else F9 (ER cs):Sem _))=F9 cl
 | [],JP,cl,h=>by cases h;rfl
 |(x,k)::r,JP,cl,h=>by
  unfold gZ at h;rw[Ir];dsimp only;split at h
  ·rename _=e_=>hk
   refine ac (t_.mp h) λc hc h=>?_;rw[z_ hk];have:cellOf env x=F9 c:=by unfold cellOf;exact hc▸rfl
   rw[this];exact pU r _ cl h
  ·rename Not _=>hk
   rw[p_ hk];exact pU r _ cl h
theorem te {Ld:b_ (Str×Addr)}(hcl:gZ env [] cs.names=a_ Ld):Je cs env=F9 Ld:=by
 have e:Je cs env=((forIn cs.names ([]:b_ (Str×Addr)) λ(p:Str×NameKind) (cs:b_ (Str×Addr))=>(if p.2== .free then do let c<-cellOf env p.1;F9 (ER ((p.1,c)::cs))else F9 (ER cs):Sem _))>>=λs=>F9 s):=rfl;rw[e,pU cs.names [] Ld hcl];rfl
end
section
variable{B B':aS}{A:DJ}{T:a6}{E:ET}{d:Nat}
theorem yq (hc:∀x c,fm.cel.lookup x=a_ c->env.cells.lookup x=a_ c)(h:iW cs fm=a_ cl):
 ∃Ld,gZ env [] cs.names=a_ Ld/\∀x c,cl.lookup x=a_ c->Ld.lookup x=a_ c:=by
 intros fm cs env cl;unfold iW at h;have gen:∀ (names:b_ (Str×NameKind)) (JP cl:b_ (Str×Addr)),(names.filter λx=>x.2== .free).mapM (λx=>(fm.cel.lookup x.1).map λc=>(x.1,c))=a_ cl->
  (∀y c,(y,c)∈JP->env.cells.lookup y=a_ c)->∃Ld,gZ env JP names=a_ Ld/\(∀y c,(y,c)∈Ld->env.cells.lookup y=a_ c)/\(∀p∈JP,p∈Ld)/\(∀p∈cl,p∈Ld)/\(∀p∈cl,env.cells.lookup p.1=a_ p.2):=by
  intro names;induction names with
  |nil=>
   intro JP cl h ha;simp only [List.filter_nil,List.mapM_nil]at h;cases h;exact⟨JP,rfl,ha,λp hp=>hp,⟨λp hp=>(nomatch hp),λp hp=>(nomatch hp)⟩⟩
  |cons n r ih=>
   intro JP cl h ha;obtain⟨x,k⟩:=n;unfold gZ;by_cases hk:(k==NameKind.free)=e_
   ·rw[DO (by exact hk),List.mapM_cons]at h
    refine ac (t_.mp h) λp hp h=>?_;refine ac (j_.mp hp) ?_;rintro c hx rfl;refine ac (t_.mp h) λq hq h=>?_;cases h;have XO:=hc _ _ hx;rw[z_ hk,XO];obtain⟨Ld,e,a1,a2,a3,a4⟩:=ih ((x,c)::JP) q hq (λy c' hm=>by
     rcases f_.mp hm with e|hm
     ·cases e;exact XO
     ·exact ha y c' hm)
    refine⟨Ld,e,a1,λp hp=>a2 p (.tail _ hp),λp hp=>?_,λp hp=>?_⟩
    ·rcases f_.mp hp with rfl|hp
     ·exact a2 _ (.head _)
     ·exact a3 p hp
    ·rcases f_.mp hp with rfl|hp
     ·exact XO
     ·exact a4 p hp
   ·rw[DP (by exact hk)]at h
    rw[p_ hk];exact ih JP cl h ha
 refine dZ (gen cs.names [] cl h (λU U h=>by exact(aj h).elim)) λLd e a1 U zz=>?_;refine xA zz λa3 a4=>?_;clear zz;refine⟨Ld,e,λx c hx=>?_⟩;have m:=dP hx;have e1:=a4 _ m;cases q:Ld.lookup x with
 |none=>rw[DC]at q;have:=q _ (a3 _ m);simp at this
 |some c'=>
  have:=a1 _ _ (dP q);rw[e1]at this;exact this.symm
theorem yr {Q:Env->i'->Prop}(hh:∀J' s',J'.scope=cs->J'.locals=s.heap.objs.size->J'.globals=env.globals->J'.builtins=env.builtins->J'.cells=FJ (s.heap.objs.size+1) cs.names cl->
 s'.heap=pushCells (s.heap.push {cls:=.type "dict",data:=.dict #[]}) cs.names->s'={s with heap:=s'.heap}->J'={J' with code:=env.code,frame:=env.frame,func:=h_,qual:=env.qual}->Q J' s'):
 wpAny (A_ prog w) A (newFunctionEnv cs env.globals cl [] env.qual h_ .none (a_ env)) Q Err s:=by
 simp only [newFunctionEnv,Option.isSome_some,Gn];refine wpAny_bind (wpAny_alloc ?_);refine wpAny_bind (wpAny_layCells _ (λname kind cells=>by cases hkc:kind==NameKind.cell<;>exact rfl) _ _ _ _ ?_);rw[show({s with heap:=s.heap.push {cls:=.type "dict",data:=.dict #[]}}:i').heap.objs.size=s.heap.objs.size+1 from Ek ..];refine wpAny_bind (wpAny_pure (wpAny_pure ?_));exact hh _ _ rfl rfl rfl rfl rfl rfl rfl rfl
theorem tf (HB:fc qt prog w Zb6 Zb9 d Bt)(N:bL env sc)(hA:a0 qt d A){Q:gB}{R:Dm->i'->Prop}(K:mY prog w Zb6 Zb9 env fm B Q R):∀ (es:b_ Expr) {Z:ak} {s:i'},fQ Bt es sc fm Z Q->St prog w Zb6 Zb9 env fm Z B s->
 wpAny (A_ prog w) A (forIn es e_ λc r=>if r=e_ then do let ok<-isTrue c env (eval c env);F9 (ER ok)else F9 (ER r)) R Err s
 | [],Z,s,h,S=>by rw[List.forIn_nil];exact wpAny_pure (K _ Z s h S)
 |e::r,Z,s,h,S=>by
  rw[Ir];rw[z_ rfl];refine wpAny_bind (wpAny_bind (HB h N S hA λb Z1 s1 h1 S1=>?_));refine wpAny_pure ?_;dsimp only;cases b with
  |true=>exact tf HB N hA K r (by simpa using h1) S1
  |false=>
   have st:∀es:b_ Expr,(forIn es g' λc r=>if r=e_ then do let ok<-isTrue c env (eval c env);F9 (ER ok)else F9 (ER r):Sem Dm)=F9 g':=by
    intro es;induction es with
    |nil=>rfl
    |cons x r ih=>rw[Ir,p_ (by decide)];exact ih
   rw[st];exact wpAny_pure (K _ Z1 s1 (by simpa using h1) S1)
theorem St.loc0 (S:St prog w Zb6 Zb9 env fm Z B s):St prog w Zb6 Zb9 env ⟨[],fm.cel⟩ Z B s:=by
 refine ac S.ns λm hm U=>?_;exact⟨S.rep,⟨m,hm,λU U h=>by cases h⟩,S.free,S.priv,S.cel,S.same⟩
theorem yt {x:Str}{k:Fm->ak->Prop}(h:dv sc x v fm Z k):dv sc x v fm Z λJN Z'=>JN.cel=fm.cel/\k JN Z':=by
 intros Z v fm sc x k;unfold dv at h⊢;split
 ·rename _=>q;rw[q]at h;exact⟨rfl,h⟩
 ·rename _=>q
  rw[q]at h;refine mv h ?_;clear h;rintro c hc u hu h;exact⟨c,hc,u,hu,rfl,h⟩
 · (rename _=>q2;rename kindOf sc x=a_ NameKind.local->False=>q1)
   split at h
   ·rename _=_=>q;exact absurd q q1
   ·rename _=_=>q;exact absurd q q2
   ·exact h
theorem yu {elt it:Expr}{x:Str}{px:Pos}{pos:Pos}{X I D:d_}{Zb3:ak}{P:Nat->b_ c_->ak->Prop}{R:Ja->i'->Prop}
 {TG:Obj} {vs:Gc c_} (hh:A.handled=h_) (HE:dB qt prog w Zb6 Zb9 d E) (HB:fc qt prog w Zb6 Zb9 d Bt) (N:bL env cs) (hA:a0 qt d A)
 (hB:∀b x,Zb6.get? b=a_ x->B b=a_ x) (hI:B I=h_) (hD:B D=h_) (XH:I≠D) (hx:jU o=a_ xs) (hz:xs.length<=100000)
 (hs:∀i JP Z,P i JP Z->Z X=a_ o/\JP.length<=i)
 (ht:∀i y JP Z,xs[i]? =a_ y->P i JP Z->dv cs x y ⟨[],cl⟩ Z λfm Z=>fQ Bt KU cs fm Z λb Z=>if b=e_ then E elt cs fm Z λu Z=>P (i+1) (JP++[u]) Z else P (i+1) JP Z)
 (S:St prog w Zb6 Zb9 env ⟨[],cl⟩ Zb3 ((B.add D (listOf vs n)).add I TG) s) (hc:fb s.heap I X 0 o) (h0:P 0 [] Zb3) (hv:vs= #[])
 (hR:∀Z' s' (Rc:Gc c_) n',P xs.length (Rc.toList.map er) Z'->Rc.size<=100000->St prog w Zb6 Zb9 env ⟨[],cl⟩ Z' (B.add D (listOf Rc n')) s'->R (.ok .next) s'):
 Hr (A_ prog w) A (.compLoop (.ListComp elt [⟨.Name x px,it,KU,0⟩] cs pos) 0 (.ref I) (.ref D) env) R s:=by
 intros n qt xs Zb6 Zb9 s cs o env cl KU prog w Bt B A E d elt it x px pos X I D Zb3 P R TG vs;have Za6:∀ (vs:Gc c_) n,∀b x,Zb6.get? b=a_ x->(B.add D (listOf vs n)) b=a_ x:=by
  intro vs n b x e;have:=hB b x e;unfold aS.add;rw[p_ (λq=>by exact(ns (hD.symm.trans (q▸this))))];exact this
 have Wp:∀ (vs:Gc c_) n,(B.add D (listOf vs n)) I=h_:=by
  intro vs n;unfold aS.add;rw[p_ XH];exact hI
 refine codeAny_compLoop_tests (λk s'=>∃i Z vs n TG,k=xs.length+1-i/\i<=xs.length/\P i (vs.toList.map er) Z/\St prog w Zb6 Zb9 env ⟨[],cl⟩ Z ((B.add D (listOf vs n)).add I TG) s'/\fb s'.heap I X i o) ?_ (xs.length+1)
  ⟨0,Zb3,vs,n,TG,by walk_at "c",Hg _,by exact hv▸h0,S,hc⟩
 rintro k s1 ⟨i,Z1,Ui,n1,ob1,rfl,hi,hP,S1,JY⟩;intros s1 i Z1 Ui n1 ob1;refine xA (hs _ _ _ hP) λhX hl=>?_;have hsz:Ui.size<=i:=by simpa using hl
 refine sP hh S1 (Wp _ _) (Za6 _ _) hX hx JY hi (λy u s2 R8 hy hu S2 J0=>?_) (λs2 NJ S2=>?_)
 ·intros y u s2 R8
  have K7:i<xs.length:=(Dg.mp hy).1;have h3:=yt (ht i y _ Z1 hy hP);rw[<-hu]at h3;refine GO (gi S2 N h3 λLZ Z3 s3 h3 S3=>?_);revert S3;revert h3;revert LZ Z3 s3;injections LZ Z3 s3;intro h3 S3;refine xA h3 ?_;clear h3;rintro TC h3;have Zar:s2.heap.get? I=a_ R8:=S2.rep.keep _ _ (z_ rfl);refine tf HB N hA (λb Z4 s4 h4 S4=>?_) KU h3 S3;intros b Z4 s4;cases b with
  |false=>
   simp only [Dt,Fj]at h4⊢;refine⟨xs.length+1- (i+1),by walk_at "k",i+1,Z4,Ui,n1,R8,rfl,K7,h4,by have:=S4.loc0;rw[TC]at this;exact this,?_⟩;have eI4:s4.heap.get? I=a_ R8:=S4.rep.keep _ _ (z_ rfl);exact J0.at λob e=>by rw[Zar]at e;cases e;exact eI4
  |true=>
   simp only [Gn]at h4⊢;refine HE h4 N S4 hA λu5 Z5 s5 h5 S5=>?_;intros u5 Z5 s5;refine dG (S5.show' (Wp _ _) (Za6 _ _)) λS5a nI Zal lI=>?_;refine dG (S5a.show' hD hB) λS5b nD eD5 lD=>?_;refine append_at (hsz:=by rw[DB];walk_at "y") eD5 λh' QE Pf=>?_;intros h';have S6:=((S5b.but s5.toks (λb o nb eb=>(QE.2 b nb).trans eb) nD hD lD).hide nD hD lD Pf).hide nI (Wp _ _) lI ((QE.2 I XH).trans Zal);refine⟨xs.length+1- (i+1),by walk_at "k",i+1,Z5,Ui.push u5,n1+1,R8,rfl,K7,by simpa using h5,by have:=S6.loc0;rw[TC]at this;exact this,?_⟩;exact J0.at λob e=>by rw[Zar]at e;cases e;exact(QE.2 I XH).trans Zal
 ·subst NJ
  exact hR Z1 s2 Ui n1 hP (by walk_at "a") S2
end
theorem nq:∀ (names:b_ (Str×NameKind)) (n:Nat) (JP:b_ (Str×Addr)),FJ n names JP=FJ n names []++JP
 | [],n,JP=>rfl
 |(x,k)::r,n,JP=>by
  unfold FJ;split
  ·rw[nq r _ ((x,n)::JP),nq r _ [(x,n)],Dw];rfl
  ·exact nq r n JP
section
variable{B B':aS}{A:DJ}{T:a6}{E:ET}{d:Nat}
theorem ti {bs:b_ (Str×Value)}{h:Fu}{F:d_->Prop}{cm:Str->m_ c_}:∀ (cs:b_ (Str×Addr)) {Z:ak} {k:b_ (Str×Addr)->ak->Prop},aN prog w Zb6 Z B h->
 (∀p∈cs,h.IsCell p.2 (cm p.1)/\¬own Z p.2/\B p.2=h_/\850<=p.2)->(cs.Pairwise λx y=>x.2≠y.2)->(∀x,(cm x).map er=bs.lookup x)->(∀b,F b->¬own Z b)->(∀p∈cs,¬F p.2)->
 k6 bs (cs.map (λp=>p.1)) Z k->∃Z',aN prog w Zb6 Z' B h/\(∀b,F b->¬own Z' b)/\k cs Z'
 | [],Z,k,R,_,_,_,nL,_,x=>⟨Z,R,nL,x⟩
 |(y,c)::r,Z,k,R,hc,hp,hm,nL,hL,x=>by
  rw[Du]at hp;have h1:=hc (y,c) (.head _);have nn:Z c=h_:=by
   cases e:Z c with
   |none=>rfl
   |some o=>exact absurd (dw e) h1.2.1
  have x':=x c ⟨nn,h1.2.2.2⟩;rw[<-hm]at x';obtain⟨Z',R',n',z⟩:=ti r (R.newCell h1.2.1 h1.2.2.1 h1.1) (λp hq=>by
   have h2:=hc p (.tail _ hq);refine⟨h2.1,?_,h2.2.2⟩;rw[i4 rfl _ nn];rintro(q|q)
   ·exact hp.1 p hq q.symm
   ·exact h2.2.1 q) hp.2 hm (by
    intro b hb;rw[i4 rfl _ nn];rintro(q|q)
    ·exact hL _ (.head _) (q▸hb)
    ·exact nL b hb q) (λp hq=>hL p (.tail _ hq)) x'
  exact⟨Z',R',n',z⟩
theorem yv {I X:d_}{i:Nat}{Q:c_->i'->Prop}(c:fb s.heap I X i o)(h:Q (.ref I) s):wpAny (A_ prog w) A (pyIter (.ref I)) Q Err s:=by
 cases o with
 |lst _=>exact wpAny_pyIter_listiter c h
 |rng n=>exact wpAny_pyIter_rangeiter c h
 |dic _ _=>exact wpAny_pyIter_keyiter c h
 |_=>exact c.elim
theorem pV (hq:qt=g'){elt it:Expr}{x:Str}{px:Pos}{pos RT:Pos}{cl:b_ (Str×Addr)}{use:m_ (c_->Sem IG)}{Qr:c_->i'->Prop}(D:aQ w Zb6 mg mb)
 (HE:dB qt prog w Zb6 Zb9 d E) (HB:fc qt prog w Zb6 Zb9 d Bt) (N:bL env sc) (S:St prog w Zb6 Zb9 env fm Z B s) (hA:a0 qt d A) (M3:jW cs=e_) (hp:dL it=e_) (Lx:iW cs fm=a_ cl)
 (h:E it sc fm Z λv Z=>iv E Bt elt x KU cs cl v Z Q)
 (Xj:∀D' C Z5 s5 ob m,Q (.ref D') Z5->St prog w Zb6 Zb9 env fm Z5 (B.add C ob) s5->B C=h_->s5.heap.Ns C m->compPost (A_ prog w) A Err use Qr (.ref D') C (.ok .next) s5):
 wpAny (A_ prog w) A (comprehension (.ListComp elt [⟨.Name x px,it,KU,0⟩] cs pos) cs env RT (newList []) g' (eval it env) use) Qr Err s:=by
 revert hq;intros qt Z Zb6 Zb9 s fm sc cs mg mb env KU Q prog w Bt Err B A E d elt it x px pos RT cl use Qr;unfold jW at M3;rw[u_,u_,C9,l_]at M3;refine xA M3 ?_;clear M3;rintro⟨Pm,Nq⟩ PF;have Oq:∀x∈cs.names,x.2=.local->cs.names.lookup x.1=a_ .local:=by
  intro x hx hl;have:=PF x hx;rw[hl]at this;simpa using this
 refine ac (yq (env:=env) S.cel Lx) λLd hcl QV=>?_;intros Ld;have Tu:Je cs env=F9 Ld:=te hcl;refine wpAny_comprehension_free (use:=use) (cl:=Ld) rfl (λv=>by cases it<;>first |rfl|exact(ft hp).elim) Tu Pm Oq (HE h N S hA λu Z1 s1 z1 S1=>?_);intros u Z1 s1;refine dm z1 λxs MH hz Nx=>?_;intros xs;clear z1;have:∃X o,u=.ref X/\Z1 X=a_ o/\jU o=a_ xs:=by
  unfold fj at MH;split at MH
  · (rename _=Di _=>q;rename d_=>X)
    refine ac (t_.mp MH) λo ho MH=>?_;exact⟨X,o,cU q,ho,MH⟩
  ·exact(ns MH).elim
 refine bW this ?_;clear this;rintro X o rfl hX hx;intros X o;refine sO S1 hX hx hz λI ob s2 S2 W6 J0=>?_;intros I ob s2;refine dG (S2.show' W6 S1.rep.base) λS2a nI eI lI=>?_;refine FM (yr λJ' s4 c1 c2 c3 c4 c5 c6 c7 c8=>?_);intros J' s4;have e4:s4.heap=pushCells ((s2.heap.push (listOf #[] 0)).push {cls:=.type "dict",data:=.dict #[]}) cs.names:=c6;have TH:J'.locals=s2.heap.objs.size+1:=by rw[c2];exact Ek ..
 have Ny:∀b o,s2.heap.get? b=a_ o->s4.heap.get? b=a_ o:=λb o e=>by exact e4▸(It _ _ b o (j' _ (j' _ e)))
 have h0I:Zb6.get? I=h_:=by
  cases q:Zb6.get? I with
  |none=>rfl
  |some x=>exact(sn ((S1.rep.base _ _ q).symm.trans W6)).elim
 have Rt:∃B0:aS,B0=λb=>if b=I then h_ else rst Z1 s2.heap b:=⟨_,rfl⟩;refine xE Rt ?_;clear Rt;rintro B0 Rt;intros B0;have B0I:B0 I=h_:=by rw[Rt];exact z_ rfl
 have B0s:∀ {b o},B0 b=a_ o->¬own Z1 b/\s2.heap.get? b=a_ o:=by
  intro b o e;rw[Rt]at e;dsimp only at e;split at e
  ·exact(ns e).elim
  ·exact j0 e
 have B0o:∀ {b o},b≠I->¬own Z1 b->s2.heap.get? b=a_ o->B0 b=a_ o:=by
  intro b o n n1 e;rw[Rt];dsimp only;rw[p_ n];exact d7 n1 e
 have Mr:∀b o,Zb6.get? b=a_ o->B0 b=a_ o:=λb o e=>B0o (λq=>by exact(ns (h0I.symm.trans (q▸e)))) (S2a.rep.apart _ _ (S2a.rep.base _ _ e)) (S2a.rep.get e);have fresh:∀c,s2.heap.objs.size<=c->¬own Z1 c/\B0 c=h_/\B c=h_/\850<=c:=by
  intro c hc;have no:s2.heap.get? c=h_:=by
   cases e:s2.heap.get? c with
   |none=>rfl
   |some x=>exact absurd (Dn e) (E8.mpr hc)
  refine⟨λq=>?_,?_,?_,o_ (S2a.rep.big D) hc⟩
  ·refine xE (S2a.rep.there q) λy hy=>?_;rw[no]at hy;exact(ns hy).elim
  ·cases e:B0 c with
   |none=>rfl
   |some x=>exact(sn (((B0s e).2).symm.trans no)).elim
  ·cases e:B c with
   |none=>rfl
   |some x=>exact(sn ((S2a.rep.keep _ _ e).symm.trans no)).elim
 have Ow:I<s2.heap.objs.size:=Dn eI;have R4:aN prog w Zb6 Z1 B0 s4.heap:=(S2a.rep.rst.less (λb o e=>d7 (B0s e).1 (B0s e).2) Mr).ext Ny;refine xE (⟨_,rfl⟩:∃cx,cx=FJ (s2.heap.objs.size+2) cs.names []) λcx V4=>?_;intros cx;have ok:=cellsFrom_ok cs.names ((s2.heap.push (listOf #[] 0)).push {cls:=.type "dict",data:=.dict #[]}) (s2.heap.objs.size+2) [] ⟨λU U hm=>(nomatch hm),H1⟩ (by rw[Ek,Ek];exact DW _);rw[Ek,Ek, <-V4, <-e4]at ok;have On:J'.cells=cx++Ld:=by
  rw[c5,nq,V4];congr 2;exact congrArg (· +1) (Ek ..)
 have cn:eN cs.names=cx.map (λp=>p.1):=by rw[V4,jZ,Ga,Dz]
 rw[cn]at Nx;have eC:s4.heap.get? J'.locals=a_ {cls:=.type "dict",data:=.dict #[]}:=by
  rw[e4,c2];exact It _ _ _ _ (y_ _ rfl)
 have eD:s4.heap.get? s2.heap.objs.size=a_ (listOf #[] 0):=by
  rw[e4];exact It _ _ _ _ (j' _ (y_ _ rfl))
 have fC:=fresh J'.locals (by rw[TH];exact EV _);have fD:=fresh s2.heap.objs.size (DW _);obtain⟨Z4,R4',Zbo,P,Zav,Zax,X5,Zbu⟩:=ti (F:=λb=>b<s2.heap.objs.size+2/\¬own Z1 b) (cm:=λU=>h_) cx R4 (λp hp=>by
  have:=ok.empty p.1 p.2 hp;have f:=fresh p.2 (by have:=this.2;walk_at "bq");exact⟨this.1,f.1,f.2.1,f.2.2.2⟩) ok.apart (λU=>rfl) (λb hb=>hb.2) (λp hp q=>absurd q.1 (E8.mpr (ok.empty p.1 p.2 hp).2)) Nx
 have h0D:Zb6.get? s2.heap.objs.size=h_:=by
  cases q:Zb6.get? s2.heap.objs.size with
  |none=>rfl
  |some x=>have:=Mr _ _ q;rw[fD.2.1]at this;exact(ns this).elim
 have Os:∀ {b},b<s2.heap.objs.size+2->¬own Z1 b->¬own Z4 b:=by
  exactλhb n=>Zbo _ ⟨hb,n⟩
 have EO:bL {J' with scope:=IY cs env} cs:=by
  refine⟨Pm,c3.trans N.glob,c4.trans N.bltn,λy q=>pT (by decide) q,λy q=>pT (by decide) q,λy q=>yp q,λy q=>pT (by decide) q,λq=>by rw[q]at Nq;exact(ft Nq).elim⟩
 have S4:St prog w Zb6 Zb9 {J' with scope:=IY cs env} ⟨[],cx++cl⟩ Z4 B0 s4:=by
  refine⟨R4',⟨λU=>h_,⟨_, #[],0,eC,rfl,λU he=>by simp at he,λU=>rfl⟩,λU U h=>by exact(ns h).elim⟩,Os (by exact TH▸(EE _)) fC.1,fC.2.1,λy c hy=>?_,?_⟩
  ·show EA y J'.cells=a_ c
   rw[On];rw[List.lookup_append]at hy⊢;cases q:EA y cx with
   |some c'=>rw[q]at hy;exact hy
   |none=>rw[q]at hy;exact QV y c hy
  ·refine bP S2.same λa1 a2 a3=>?_
   rw[c7];exact⟨a1,a2,a3⟩
 have Zas:=Os (b:=s2.heap.objs.size) (Fq (EE _)) fD.1;have YY:=Os (b:=I) (Fq (Fq Ow)) nI;have S5:=(S4.hide Zas fD.2.1 (by show J'.locals≠_;rw[TH];exact FZ (EE _)) eD).hide YY (by unfold aS.add;rw[p_ (Eb Ow)];exact B0I) (by show J'.locals≠I;rw[TH];exact FZ (Fq Ow)) (Ny _ _ eI);have Kq:fb s4.heap I X 0 o:=J0.at λL5 e=>Ny _ _ e;have L:=yu (elt:=elt) (it:=it) (px:=px) (pos:=pos) (R:=compPost (A_ prog w) A Err use Qr (.ref s2.heap.objs.size) J'.locals) (hA.hd hq) HE HB EO hA Mr B0I fD.2.1 (Eb Ow) hx hz (λi JP Z hP=>by
  have:=Zax i JP Z hP;refine⟨?_,this.2⟩;have e:=this.1;unfold gE at e;exact e.trans hX) X5 S5 Kq Zav rfl (λZ' s' Rc n' hP hsz S'=>?_)
 ·exact codeAny_compStart_list L (yv Kq L)
 ·revert R4' Zbo Zav Zax X5 Zbu Os S4 Zas YY S5;intros Z4 P Z' s' Rc n'
  refine dG (S'.show' fD.2.1 Mr) λS6 Zbs eD6 lD6=>?_;refine ac S6.ns λm6 Zaj U=>?_;intros m6;refine eJ Zaj λoC Za2 ep6 Zan rC6=>?_;intros oC Za2 ep6;clear Zaj;have nw:isNew Z' s2.heap.objs.size:=by
   refine⟨?_,fD.2.2.2⟩;cases e:Z' s2.heap.objs.size with
   |none=>rfl
   |some o=>exact absurd (dw e) Zbs
  have hq:=Zbu _ _ hP _ nw;refine ac S2a.ns ?_;rintro m2 ⟨oL,es2,ep2,eL,rL⟩ JX;have BL:B0 env.locals=a_ oL:=B0o lI S2a.free eL;have R6:aN prog w Zb6 Z' B s'.heap:=S6.rep.less (λb o e=>B0o (λq=>by exact(ns (W6.symm.trans (q▸e)))) (S2a.rep.apart _ _ e) (S2a.rep.keep _ _ e)) S2a.rep.base;have lD:env.locals≠s2.heap.objs.size:=λq=>absurd (q▸Dn eL) (DH _);have lC:env.locals≠J'.locals:=λq=>by
   have:=Dn eL;rw[q,TH]at this;exact absurd this (E8.mpr (EV _))
  have S7:St prog w Zb6 Zb9 env fm (Z'.set s2.heap.objs.size (.lst (Rc.toList.map er))) B s':=by
   refine⟨R6.adopt Zbs fD.2.2.1 (λd q=>by exact(ns q).elim) ⟨_,_,eD6,rfl⟩,⟨m2,⟨oL,es2,ep2,S6.rep.keep _ _ BL,rL⟩,JX⟩,?_,S2a.priv,S2a.cel,S6.same⟩;rw[i4 rfl _ nw.1];rintro(q|q)
   ·exact lD q
   ·exact S6.rep.apart _ _ BL q
  have CD:J'.locals≠s2.heap.objs.size:=lD6;refine Xj s2.heap.objs.size J'.locals _ s' oC m6 hq (S7.hide ?_ fC.2.2.1 lC Zan) fC.2.2.1 ⟨oC,Za2,ep6,Zan,rC6⟩;rw[i4 rfl _ nw.1];rintro(q|q)
  ·exact CD q
  ·exact S6.free q
end
section
variable{B B':aS}{A:DJ}{T:a6}{E:ET}{d:Nat}
theorem i5 (D:aQ w Zb6 mg mb)(HT:eQ qt prog w Zb6 Zb9 d T):∀n,dB qt prog w Zb6 Zb9 (d+1) (aw T n).1/\fc qt prog w Zb6 Zb9 (d+1) (aw T n).2
 |0=>⟨λh=>h.elim,λh=>h.elim⟩
 |n+1=>by
  refine xA (i5 D HT n) λHE HB=>?_;refine⟨yn D HT HE HB ?_,yo HE HB⟩;intro elt gs cs pos sc fm Z Q h env B s A Err R N S hA K;refine dX h ?_;clear h;rintro x px it KU rfl zz;refine dG zz λhq hp M3 zz=>?_;refine ac zz λcl Lx h=>?_;clear zz;rw[eval_ListComp];show wpAny _ A (comprehension _ cs env _ (newList []) g' (eval it env) h_) _ Err s;refine pV (HT.1 hq) D HE HB N S hA M3 hp Lx h (λD' C Z5 s5 ob m hq S5 OG hn=>?_);refine⟨m,hn,λh' hs=>?_⟩;refine dG (S5.show' OG S.rep.base) λS6 n1 eC n3=>?_;exact K _ _ _ hq (S6.but s5.toks (λb o nb eb=>(hs.2 b nb).trans eb) n1 OG n3)
end
section
variable(qt:Dm)(prog:Fc)(w:Ew)(Zb6:Fu)(Zb9:i')
noncomputable def fR (d:Nat)(S:ST):Prop:=∀ {e:Gf} {sc:DR} {fm:Fm} {Z:ak} {Q:cT},S e sc fm Z Q->∀ {env:Env} {B:aS} {s:i'} {A:DJ} {Err:c_->i'->Prop} {R:Ih->i'->Prop},bL env sc->St prog w Zb6 Zb9 env fm Z B s->a0 qt d A->
 gj prog w Zb6 Zb9 env B Q R->wpAny (A_ prog w) A (exec e env) R Err s
end
section
variable{B B':aS}{A:DJ}{T:a6}{E:ET}{d:Nat}
theorem i6 (HS:fR qt prog w Zb6 Zb9 d St')(N:bL env sc)(hA:a0 qt d A){Q:cT}{R:Ih->i'->Prop}(K:gj prog w Zb6 Zb9 env B Q R):∀ (es:b_ Gf) {fm:Fm} {Z:ak} {s:i'},au St' es sc fm Z Q->St prog w Zb6 Zb9 env fm Z B s->
 wpAny (A_ prog w) A (execs es env) R Err s
 | [],fm,Z,s,h,S=>Fh (K _ fm Z s h S)
 |e::r,fm,Z,s,h,S=>by
  refine Eg (HS h N S hA λfl Ll Z1 s1 h1 S1=>?_);cases fl with
  |next=>exact i6 HS N hA K r h1 S1
  |brk=>exact K _ Ll Z1 s1 h1 S1
  |cont=>exact K _ Ll Z1 s1 h1 S1
  |ret v=>exact K _ Ll Z1 s1 h1 S1
theorem lw {e:Expr}{t:m_ Expr}(h:fk e=g'):swapsWith e t n env=F9 g':=by
 cases e<;>first |rfl|exact(ft h.symm).elim
theorem tj (N:bL env sc):∀ (xs:b_ Str) (vs:b_ c_) {fm:Fm} {Z:ak} {s:i'} {k:Fm->ak->Prop} {Q:IG->i'->Prop},gR sc xs (vs.map er) fm Z k->St prog w Zb6 Zb9 env fm Z B s->
 (∀JN Z' s',k JN Z'->St prog w Zb6 Zb9 env JN Z' B s'->Q () s')->wpAny (A_ prog w) A (H9 (xs.map λn=>bindName env n) vs) Q Err s
 | [],[],fm,Z,s,k,Q,h,S,hq=>wpAny_pure (hq _ _ _ h S)
 | [],_::_,fm,Z,s,k,Q,h,S,hq=>h.elim
 |_::_,[],fm,Z,s,k,Q,h,S,hq=>h.elim
 |x::xs,v::vs,fm,Z,s,k,Q,h,S,hq=>by
  show wpAny _ A (holding vs (bindName env x v)>>=λU=>H9 (xs.map λn=>bindName env n) vs) Q Err s;refine wpAny_bind (Es (wpAny_bindName (gi S N h λLl Z1 s1 h1 S1=>?_)));exact tj N xs vs h1 S1 hq
end
section
set_option backward.match.sparseCases true
noncomputable def pW (env:Env)(line:Nat):Expr->m_ Str
 |.Name id pos=>if env.kindOf id==a_ .local&&pos.line==line then a_ id else h_
 |_=>h_
noncomputable def tm (env:Env)(ts vs:b_ Expr):Sem (m_ (b_ Str)):=do
 if !(ts.length==2||ts.length==3)||vs.length !=ts.length||env.blockKind != .function then return h_
 if vs.any rH then return h_
 let line:=(ts.head?.map (·.pos.line)).getD 0
 let names:=ts.filterMap (pW env line)
 if names.length !=ts.length||names.eraseDups.length !=names.length then return h_
 if vs.all (foldedForSure 8)then return h_
 if vs.all (constantsAlone 8)then unsupported "assign.tuple-of-constant-expressions:order-of-the-stores"
 return a_ names
theorem yw {ts vs:b_ Expr}{k':Nat}{p':Pos}:swappedStores [.Tuple ts k p] (.Tuple vs k' p') env=tm env ts vs:=rfl
section
variable{B B':aS}{A:DJ}{T:a6}{E:ET}{d:Nat}
theorem yx (N:bL env sc){x:Str}(h:(kindOf sc x==a_ .local||kindOf sc x==a_ .cell)=e_):(env.kindOf x==a_ .local)=(kindOf sc x==a_ .local):=by
 rw[FD,C9,C9]at h;rcases h with h|h
 ·rw[N.kl _ h,h]
 ·rw[N.kc _ h,h]
theorem yy {line:Nat}{e:Expr}(h:iY sc line e=a_ y):∃p,e=.Name y p:=by
 intros y sc line e;refine ac (t_.mp h) λx q r=>?_;intros x;split at r
 ·cases r;exact kY q
 ·exact(ns r).elim
theorem tn {line:Nat}:∀ (ts:b_ Expr) {xs:b_ Str},iX ts=a_ xs->(ts.filterMap (iY sc line)).length=ts.length->ts.filterMap (iY sc line)=xs
 | [],xs,h,_=>by cases h;rfl
 |e::r,xs,h,hl=>by
  have le:(r.filterMap (iY sc line)).length<=r.length:=List.length_filterMap_le _ _;rw[D8]at hl⊢;cases q:iY sc line e with
  |none=>rw[q]at hl;simp only [Df]at hl;walk_at "o"
  |some y=>
   refine xE (yy q) ?_;rintro p rfl;rw[q]at hl;simp only [Df]at hl;refine ac (j_.mp h) ?_;rintro ys hy rfl;exact congrArg (y:: ·) (tn r hy (Nat.succ.inj hl))
theorem tp {f g:Expr->m_ Str}:∀ (ts:b_ Expr),(∀t∈ts,f t=g t)->ts.filterMap f=ts.filterMap g
 | [],_=>rfl
 |e::r,h=>by rw[D8,D8,h e (.head _),tp r λt ht=>h t (.tail _ ht)]
theorem yz {ts:b_ Expr}{k:Nat}{p:Pos}{e:Expr}{xs:b_ Str}{b:Dm}(N:bL env sc)(ht:mK sc ts=e_)(hx:iX ts=a_ xs)(h:k7 sc ts e=a_ b):
 swappedStores [.Tuple ts k p] e env=F9 (if b=e_ then a_ xs else h_):=by
 intros sc env ts k p e xs b;have bk:(env.blockKind != .function)=g':=by unfold Env.blockKind;rw[N.kind];rfl
 have nm:∀line,ts.filterMap (pW env line)=ts.filterMap (iY sc line):=by
  intro line;refine tp _ λt hm=>?_;refine ac (Option.any_eq_true _ _|>.mp (l_.mp ht t hm)) λx q this=>?_;refine xE (kY q) ?_;rintro p rfl;dsimp only [pW];exact(yx N this)▸rfl
 cases e<;>first |(cases h;rfl) |skip
 ·intros elts k_1 pos
  (rename PySem.Pos=>p';rename Nat=>k';rename b_ _=>vs)
  dsimp only [k7]at h;rw[yw];unfold tm;simp only [bk,nm,Bool.or_false];by_cases c1:(!(ts.length==2||ts.length==3)||vs.length !=ts.length)=e_
  ·rw[z_ c1]at h⊢;cases h;rfl
  rw[p_ c1]at h⊢;split at h
  ·rename _=e_=>c2;cases h;rw[z_ c2];rfl
  rename Not _=>c2
  rw[p_ c2];split at h
  ·rename _=e_=>c3;cases h;rw[z_ c3];rfl
  rename Not _=>c3
  rw[p_ c3];split at h
  ·rename _=e_=>c4;cases h;rw[z_ c4];rfl
  rename Not _=>c4
  rw[p_ c4];split at h
  ·exact(ns h).elim
  rename Not _=>c5
  rw[p_ c5];cases h;rw[FD,GH]at c3;have c6:(ts.filterMap (iY sc ((ts.head?.map (·.pos.line)).getD 0))).length=ts.length:=by have:=c3.1;rw[FA]at this;exact Decidable.not_not.mp this
  have:=tn ts hx c6;rw[z_ rfl, <-this]
theorem tq {e:Expr}{t:Expr}(h:fk e=g'):swapsWithSole [t] e n env=F9 g':=by
 unfold swapsWithSole;exact lw h
theorem yA {e o:Expr}{a:Str}:swapsWith e (a_ (.Attribute o a p)) n env=F9 g':=by
 cases e<;>rfl
theorem tr:∀ (ts:b_ Expr) {xs:b_ Str},iX ts=a_ xs->(HJ ts env).length=xs.length/\(HJ ts env).findIdx? (λp=>p.1)=h_
 | [],xs,h=>by cases h;exact⟨rfl,rfl⟩
 |e::r,xs,h=>by
  refine ac (t_.mp h) λx h0 h=>?_;refine xE (kY h0) ?_;rintro p rfl;refine ac (j_.mp h) ?_;rintro ys hy rfl;refine xA (tr r hy) λa b=>?_;have e:HJ (.Name x p::r) env=(g',assign (.Name x p) env)::HJ r env:=rfl;exact⟨by rw[e];exact congrArg _ a,by rw[e,List.findIdx?_cons];simp[b]⟩
theorem tt (N:bL env sc):∀ (ts:b_ Expr) {xs:b_ Str} (vs:b_ c_) {fm:Fm} {Z:ak} {s:i'} {k:Fm->ak->Prop} {Q:IG->i'->Prop},iX ts=a_ xs->gR sc xs (vs.map er) fm Z k->St prog w Zb6 Zb9 env fm Z B s->
 (∀JN Z' s',k JN Z'->St prog w Zb6 Zb9 env JN Z' B s'->Q () s')->wpAny (A_ prog w) A (H9 ((HJ ts env).map (λp=>p.2)) vs) Q Err s
 | [],xs,[],fm,Z,s,k,Q,hx,h,S,hq=>by cases hx;exact wpAny_pure (hq _ _ _ h S)
 | [],xs,_::_,fm,Z,s,k,Q,hx,h,S,hq=>by cases hx;exact h.elim
 |e::r,xs,vs,fm,Z,s,k,Q,hx,h,S,hq=>by
  refine ac (t_.mp hx) λx h0 hx=>?_;refine xE (kY h0) ?_;rintro p rfl;refine ac (j_.mp hx) ?_;rintro ys hy rfl;cases vs with
  |nil=>exact h.elim
  |cons v vs=>
   show wpAny _ A (H9 (assign (.Name x p) env::(HJ r env).map (λp=>p.2)) (v::vs)) Q Err s;refine assignInOrder_cons (GO (gi S N h λLl Z1 s1 h1 S1=>?_));exact tt N r vs hy h1 S1 hq
theorem tu {u:c_}{a:Str}{K:ak->Prop}{Q:IG->i'->Prop}(D:aQ w Zb6 mg mb)(S:St prog w Zb6 Zb9 env fm Z B s)(h2:ir Z (er v) a (er u) K)
 (h:∀Z' s',K Z'->St prog w Zb6 Zb9 env fm Z' B s'->Q () s'):wpAny (A_ prog w) A (setAttr v a u) Q Err s:=by
 rcases h2 with ⟨Z3,h3,h2⟩ |⟨x,C,d,fr,fl,hv,hx,ok,hl,h2⟩
 ·have:∃x,v=.ref x:=by
   unfold jR at h3;split at h3
   ·rename _=Di _=>q;exact⟨x,cU q⟩
   ·exact(ns h3).elim
  refine xE this ?_;clear this;rintro x rfl;exact wA D S h3 λs' S'=>h _ s' h2 S'
 ·have:=cU hv;subst this
  exact wD D S hx ok hl h2 h
theorem yB {us:b_ Expr}{c:Nat}{p:Pos}{e:Expr}{Q:cT}(U2:A.handled=h_)(HE:dB qt prog w Zb6 Zb9 d E)(N:bL env sc)(S:St prog w Zb6 Zb9 env fm Z B s)(hA:a0 qt d A)
 (hc:fk e=g') (ht:mK sc us=e_) (h:ob (iX us) λxs=>ob (k7 sc us e) λsw=>E e sc fm Z λv Z=>lc sc xs sw v fm Z λfm Z=>Q .next fm Z) {R:Ih->i'->Prop} (K:gj prog w Zb6 Zb9 env B Q R):
 wpAny (A_ prog w) A (exec (.Assign [.Tuple us c p] e pos) env) R Err s:=by
 refine mv h ?_;clear h;rintro xs hx sw hsw h;have hs:=yz (k:=c) (p:=p) N ht hx hsw;cases sw with
 |true=>
  refine Assign_Tuple_swapped (names:=xs) (HE h N S hA λu Z1 s1 z1 S1=>?_) (tq hc) hs;refine eY z1 λa vs q q2 hl h1=>?_;clear z1;have:=cU q;subst this;refine aY (S1.rep.om _ _ q2) λUI n ho m=>?_;have KA:xs.length=UI.size:=by rw[hl, <-m];exact b' _
  rw[KA];refine unpackItems_tuple U2 ⟨_,ho,rfl,n,rfl⟩ λh' he=>?_;simp only [Gn]at h1;rw[<-m, <-List.map_reverse]at h1;exact tj N xs.reverse UI.toList.reverse h1 (S1.grow s1.toks λb o eb=>he b o (Eb (Dn eb)) eb) λJN Z' s' hq S'=>K _ _ _ _ hq S'
 |false=>
  refine Assign_Tuple (HE h N S hA λu Z1 s1 z1 S1=>?_) (tq hc) hs;refine eY z1 λa vs q q2 hl h1=>?_;clear z1;have:=cU q;subst this;refine aY (S1.rep.om _ _ q2) λUI n ho m=>?_;refine xA (tr (env:=env) us hx) λe1 e2=>?_;simp only [Dt,Fj]at h1;rw[<-m]at h1 hl;refine assign_Tuple_tuple U2 ⟨_,ho,rfl,n,rfl⟩ (by rw[e1,hl];exact b' _) e2 λh' he=>?_;exact tt N us UI.toList hx h1 (S1.grow s1.toks λb o eb=>he b o (Eb (Dn eb)) eb) λJN Z' s' hq S'=>K _ _ _ _ hq S'
theorem yC {ts:b_ Expr}{e:Expr}{Q:cT}(D:aQ w Zb6 mg mb)(hT:T 28=h_->qt=g')(HE:dB qt prog w Zb6 Zb9 d E)
 (HC:∀ {x:Str} {p:Pos} {e:Expr} {pos:Pos} {sc:DR} {fm:Fm} {Z:ak} {Q:cT},fk e=e_->(E e sc fm Z λv Z=>dv sc x v fm Z λfm Z=>Q .next fm Z)->∀ {env:Env} {B:aS} {s:i'} {A:DJ} {Err:c_->i'->Prop} {R:Ih->i'->Prop},bL env sc->St prog w Zb6 Zb9 env fm Z B s->a0 qt d A->gj prog w Zb6 Zb9 env B Q R->
  wpAny (A_ prog w) A (exec (.Assign [.Name x p] e pos) env) R Err s)
 (N:bL env sc) (S:St prog w Zb6 Zb9 env fm Z B s) (hA:a0 qt d A) (h:rI T E ts e sc fm Z Q) {R:Ih->i'->Prop} (K:gj prog w Zb6 Zb9 env B Q R):
 wpAny (A_ prog w) A (exec (.Assign ts e pos) env) R Err s:=by
 revert D hT HE HC N S hA h;intros pos qt Z Zb6 Zb9 s fm sc mg mb env prog w Err B A T E d ts e Q R;rcases h with ⟨x,p,rfl,h⟩ |⟨o,a,p,rfl,hb,h⟩ |⟨o,i,p,rfl,hc,hs,h⟩ |⟨us,c,p,rfl,hq,hc,ht,h⟩
 ·by_cases hc:fk e=e_
  ·exact HC hc h N S hA K
  ·refine H2 (HE h N S hA λu Z1 s1 h1 S1=>?_) (lw (by simpa using hc))
   exact gi S1 N h1 λJN Z' s' hq S'=>K _ _ _ _ hq S'
 ·refine plainObj_wpAny_Assign_Attribute (HE h N S hA λu Z1 s1 h1 S1=>?_) yA
  refine HE h1 N S1 hA λv Z2 s2 h2 S2=>?_;exact tu D S2 h2 λZ3 s' h3 S'=>K _ _ _ _ h3 S'
 ·intros o i p
  refine wpAny_Assign_Subscript (HE h N S hA λu Z1 s1 h1 S1=>?_) (lw hc);intros u Z1 s1;refine HE h1 N S1 hA λv Z2 s2 h2 S2=>?_;intros v Z2 s2;refine HE h2 N S2 hA λz Z3 s3 h3 S3=>?_;intros z Z3 s3;rcases h3 with ⟨x,es,n,q,q2,a1,a2,a3⟩ |⟨x,xs,j,q,q1,q2,a1,a2,a3,a4⟩
  ·have:=cU q;subst this
   rw[jY]at a1;rw[ix]at a3;exact xb S3 q2 a1 a2 λn' s' S'=>K _ _ _ _ (a3 n') S'
  ·have:=cU q;subst this
   refine xE (fZ q1) ?_;rintro t rfl;exact xe S3 q2 a1 a2 a3 λs' S'=>K _ _ _ _ a4 S'
 ·exact yB (hA.hd (hT hq)) HE N S hA hc ht h K
theorem yD {t:Expr}{e:Expr}{Q:cT}(D:aQ w Zb6 mg mb)(HE:dB qt prog w Zb6 Zb9 d E)(N:bL env sc)(S:St prog w Zb6 Zb9 env fm Z B s)(hA:a0 qt d A)(h:rJ E t op e sc fm Z Q){R:Ih->i'->Prop}(K:gj prog w Zb6 Zb9 env B Q R):
 wpAny (A_ prog w) A (exec (.AugAssign t op e pos) env) R Err s:=by
 revert D HE N S hA h;intros pos qt Z Zb6 Zb9 s fm sc mg mb env prog w Err op B A E d t e Q R;rcases h with ⟨x,p,rfl,hx,MV,ho,h⟩ |⟨o,a,p,rfl,h⟩
 ·refine wpAny_AugAssign_Name (gU D S N hx ho λu hu=>?_)
  refine HE h N S hA λv Z1 s1 h1 S1=>?_;rw[<-hu]at h1;exact sH S1 h1 λr s2 h2 S2=>gi S2 N h2 λJN Z' s' hq S'=>K _ _ _ _ hq S'
 ·intros o a p
  refine wpAny_AugAssign_AttributeAny (HE h N S hA λu Z1 s1 z1 S1=>?_);intros u Z1 s1;refine ac z1 λMV ho h1=>?_;clear z1;have:∃x,u=.ref x:=by
   unfold fM at ho;split at ho
   ·rename _=Di _=>q;exact⟨x,cU q⟩
   ·exact(ns ho).elim
  refine xE this ?_;clear this;rintro x rfl;refine pg D S1.rep ho λz hz=>?_;refine HE h1 N (S1.tok _) hA λv Z2 s2 h2 S2=>?_;rw[<-hz]at h2;refine sH S2 h2 λr s3 h3 S3=>?_;exact tu D S3 h3 λZ3 s' h3 S'=>K _ _ _ _ h3 S'
theorem yE {t:Expr}{b:b_ Gf}{Q:cT}(HB:fc qt prog w Zb6 Zb9 d Bt)(HS:fR qt prog w Zb6 Zb9 d Ss)(N:bL env sc)(S:St prog w Zb6 Zb9 env fm Z B s)(hA:a0 qt d A)(h:mL Bt Ss t b sc fm Z Q){R:Ih->i'->Prop}(K:gj prog w Zb6 Zb9 env B Q R):
 wpAny (A_ prog w) A (exec (.While t b [] pos) env) R Err s:=by
 refine aY h λI n h0 ht=>?_;clear h;refine wpAny_While ?_;refine codeAny_whileLoop (λn s'=>∃fm Z,I n fm Z/\St prog w Zb6 Zb9 env fm Z B s') (λn s1 h1=>?_) n ⟨fm,Z,h0,S⟩;refine aY h1 ?_;clear h1;rintro Ll Z1 h1 S1;refine HB (ht n Ll Z1 h1) N S1 hA λc Z2 s2 h2 S2=>?_;cases c with
 |true=>
  simp only [Gn]at h2⊢;refine i6 HS N hA (λfl LZ Z3 s3 h3 S3=>?_) b h2 S2;cases fl with
  |next=>refine ac h3 ?_;clear h3;rintro m hm h3;exact⟨m,hm,LZ,Z3,h3,S3⟩
  |cont=>refine ac h3 ?_;clear h3;rintro m hm h3;exact⟨m,hm,LZ,Z3,h3,S3⟩
  |brk=>exact K _ _ _ _ h3 S3
  |ret v=>exact K _ _ _ _ h3 S3
 |false=>
  simp only [Dt,Fj]at h2⊢;exact Fh (K _ _ _ _ h2 S2)
theorem yF {x:Str}{b:b_ Gf}{Q:cT}(Vz:A.handled=h_)(HE:dB qt prog w Zb6 Zb9 d E)(HS:fR qt prog w Zb6 Zb9 d Ss)(N:bL env sc)(S:St prog w Zb6 Zb9 env fm Z B s)(hA:a0 qt d A)(hp:dL it=e_)
 (h:E it sc fm Z λv Z=>iw Ss x v b sc fm Z Q) {R:Ih->i'->Prop} (K:gj prog w Zb6 Zb9 env B Q R):wpAny (A_ prog w) A (exec (.For (.Name x p) it b [] pos) env) R Err s:=by
 revert Vz HE HS N S hA hp h;intros pos p qt Z Zb6 Zb9 s it Ss fm sc env prog w Err B A E d x b Q R;refine wpAny_For (HE h N S hA λu Z1 s1 z1 S1=>?_) (λv=>by cases it<;>first |rfl|exact(ft hp).elim);intros u Z1 s1;refine dm z1 λxs MH hz zz=>?_;intros xs;clear z1;refine dZ zz λI h0 Yx ht Wi=>?_;intros I;clear zz;have:∃X o,u=.ref X/\Z1 X=a_ o/\jU o=a_ xs:=by
  unfold fj at MH;split at MH
  · (rename _=Di _=>q;rename d_=>X)
    refine ac (t_.mp MH) λo ho MH=>?_;exact⟨X,o,cU q,ho,MH⟩
  ·exact(ns MH).elim
 refine bW this ?_;clear this;rintro X o rfl hX hx;intros X o;refine sO S1 hX hx hz λJ ob s2 S2 Wx J0=>?_;intros J ob s2;refine codeAny_forLoop (λk s'=>∃i fm Z ob,k=xs.length+1-i/\i<=xs.length/\I i fm Z/\St prog w Zb6 Zb9 env fm Z (B.add J ob) s'/\fb s'.heap J X i o) (λk s3 h3=>?_) (xs.length+1)
  ⟨0,fm,Z1,ob,by walk_at "c",Hg _,h0,S2,J0⟩
 intros k s3;refine dX h3 ?_;clear h3;rintro i LZ Z3 ob3 rfl zz;intros i LZ Z3 ob3;refine dG zz λhi h3 S3 Kb=>?_;clear zz;have Uh:Z3 X=a_ o:=by have e:=Yx _ _ _ h3;unfold gE at e;exact e.trans hX
 refine sP Vz S3 Wx S1.rep.base Uh hx Kb hi (λy v s4 Uj hy hv S4 Kq=>?_) (λs4 V6 S4=>?_)
 ·intros y v s4 Uj
  have K7:i<xs.length:=(Dg.mp hy).1;have h5:=ht i y LZ Z3 hy h3;rw[<-hv]at h5;have eJ4:s4.heap.get? J=a_ Uj:=S4.rep.keep _ _ (z_ rfl);refine GO (gi S4 N h5 λUH Z6 s6 h6 S6=>?_);refine i6 HS N hA (λfl WJ Z7 s7 h7 S7=>?_) b h6 S6;intros fl WJ Z7 s7;have eJ7:s7.heap.get? J=a_ Uj:=S7.rep.keep _ _ (z_ rfl);have cu:fb s7.heap J X (i+1) o:=Kq.at λob e=>by rw[eJ4]at e;cases e;exact eJ7
  cases fl with
  |next=>exact⟨xs.length+1- (i+1),by walk_at "k",i+1,WJ,Z7,Uj,rfl,K7,h7,S7,cu⟩
  |cont=>exact⟨xs.length+1- (i+1),by walk_at "k",i+1,WJ,Z7,Uj,rfl,K7,h7,S7,cu⟩
  |brk=>exact K _ _ _ _ h7 (S7.show' Wx S1.rep.base).1
  |ret v=>exact K _ _ _ _ h7 (S7.show' Wx S1.rep.base).1
 ·subst V6
  exact Fh (K _ _ _ _ (Wi _ _ h3) S4)
theorem yG (P:DF):codeHdIn (KF P) 823 819=e_:=by kernel_rfl
theorem pX:∀ (names:b_ (Str×NameKind)) (JP cl:b_ (Str×Addr)),(∀x c,fm.cel.lookup x=a_ c->env.cells.lookup x=a_ c)->((names.filter λx=>x.2== .free).mapM λx=>(fm.cel.lookup x.1).map λc=>(x.1,c))=a_ cl->gZ env JP names=a_ (cl.reverse++JP)
 | [],JP,cl,_,h=>by cases h;rfl
 |(x,k)::r,JP,cl,hc,h=>by
  unfold gZ;by_cases q:(k==NameKind.free)=e_
  ·rw[z_ q]
   rw[DO (by exact q),List.mapM_cons]at h;refine ac (t_.mp h) λp hp h=>?_;refine ac (t_.mp h) λLd h' h=>?_;refine ac (j_.mp hp) ?_;rintro c hx rfl;cases h;rw[hc _ _ hx,Ib,pX r _ Ld hc h'];simp
  ·rw[p_ q]
   rw[DP (by exact q)]at h;exact pX r JP cl hc h
theorem yH {name:Str}{args:Arguments}{ds:b_ Expr}{ret:m_ Expr}{Pd:b_ TypeParam}{scope:DR}{Kl:m_ DR}{bind:Str}{Q:cT}(D:aQ w Zb6 mg mb)(N:bL env sc)(S:St prog w Zb6 Zb9 env fm Z B s)
 (h:rK name args body ds ret Pd scope Kl bind pos sc fm Z Q) {R:Ih->i'->Prop} (K:gj prog w Zb6 Zb9 env B Q R):wpAny (A_ prog w) A (exec (.FunctionDef name args body ds ret Pd scope Kl bind pos) env) R Err s:=by
 revert D N S h;intros pos Z Zb6 Zb9 s fm sc mg mb env body prog w Err B A name args ds ret Pd scope Kl bind Q R;refine gz h ?_;clear h;rintro rfl rfl rfl rfl rfl zz;refine dG zz ?_;clear zz;rintro rfl ht hk zz;refine bW zz λcl t hcl Mf h=>?_;intros cl t;clear zz;refine xA (N.cd ht) λPk Tn=>?_;have hqn:qualnameIn env bind bind=qn bind:=by
  unfold qualnameIn;rw[N.kl _ hk,p_ (by decide),Tn];rfl
 have X:=S.rep.in D;have Hd:=codeHd_of_K X (yG w.params);have hg:s.heap.Ns mainGlobals mg:=D.g.keeps λb o e=>S.rep.get e;have hb:s.heap.BuiltinsAt mg 819:=D.bt.keeps λb o e=>S.rep.get e;have Te:Je scope env=F9 cl.reverse:=by
  have:=pX (fm:=fm) (env:=env) scope.names [] cl S.cel hcl;rw[Dz]at this;exact te this
 have nu:∀ {c},s.heap.objs.size<=c->¬own Z c/\B c=h_/\isNew Z c:=by
  intro c hc;have no:s.heap.get? c=h_:=by
   cases e:s.heap.get? c with
   |none=>rfl
   |some x=>exact absurd (Dn e) (E8.mpr hc)
  have n1:¬own Z c:=λq=>by refine xE (S.rep.there q) λy hy=>?_;rw[no]at hy;exact(ns hy).elim
  refine⟨n1,?_,?_,o_ (S.rep.big D) hc⟩
  ·cases e:B c with
   |none=>rfl
   |some x=>have:=S.rep.keep _ _ e;rw[no]at this;exact(ns this).elim
  ·cases e:Z c with
   |none=>rfl
   |some x=>exact absurd (dw e) n1
 refine nestDef_K rfl rfl rfl ?_;rw[hqn];have hP:=S.rep.om _ _ Mf;cases t with
 |none=>
  refine makeFunction_K Te N.glob hg Pk Hd hP trivial rfl (by decide) hb λc' UU SP h' tk hx MW K7 Us X5=>?_;intros c' UU SP h' tk;refine dX Us λc0 oc vs tc MY zz=>?_;intros c0 oc vs tc;clear Us;refine bP zz λhgc hd hv=>?_;clear zz;cases MY;have nl:s.heap.get? env.locals≠h_:=by
   refine ac S.ns ?_;rintro mm ⟨o,es,ep,e,r⟩ hl;rw[e];simp
  have OK:env.locals≠819:=λq=>S.free (q▸dw Mf);have R1:=S.rep.hid1 (o':=.tab (a_ (pos,qn bind,c'))) Mf rfl rfl (nu MW).1 (nu MW).2.1 (λb x nb eb=>hx b x nb eb) ⟨by assumption,oc,vs,tc,hgc,hd,hv⟩;have S1:St prog w Zb6 Zb9 env fm (Z.set 819 (.tab (a_ (pos,qn bind,c')))) B {s with heap:=h'}:=by
   refine⟨R1,?_,?_,S.priv,S.cel,S.same⟩
   ·refine ac S.ns λmm hm hl=>?_
    exact⟨mm,hm.extBut hx OK,hl⟩
   ·rintro⟨a,o,ea,hb⟩
    by_cases q:a=819
    ·subst q
     rw[ad]at ea;cases ea;rcases hb with hb|hb
     ·exact OK hb
     ·refine ac S.ns λmm hm hl=>?_
      exact absurd hm.lt (E8.mpr (De hb▸MW))
    ·rw[bA _ _ q]at ea;exact S.free ⟨a,o,ea,hb⟩
  have X9:s.heap.objs.size<=h'.objs.size:=Fo (EH MW K7);have S2:=S1.new (o:=.clo scope body cl.reverse (qn bind) c') (ho:=fnMade bind (qn bind) ⟨[],[],h_,[],[],h_,[]⟩ body scope cl.reverse SP ((mg "__name__").getD .none) c' UU) tk rfl ⟨_,y_ _ rfl,rfl,rfl,rfl,rfl,rfl,rfl,rfl,rfl,rfl,rfl⟩;exact gi S2 N (h _ c' (nu X9).2.2 (nu MW).2.2 (FZ K7)) λJN Z' s' hq S'=>K _ _ _ _ hq S'
 |some t=>
  intros t;obtain⟨p,q,c⟩:=t;intros p q c;refine dG h ?_;clear h;rintro e1 e2 rfl h;refine makeFunction_hit Te N.glob hg Pk Hd hP.1 ⟨⟩ (cv:=.ref c) (by simp[codeAmong,rawInt,e1,e2]) hb λUU SP h' tk hx hle=>?_;have S2:=(S.grow s.toks hx).new (o:=.clo scope body cl.reverse (qn bind) c) (ho:=fnMade bind (qn bind) ⟨[],[],h_,[],[],h_,[]⟩ body scope cl.reverse SP ((mg "__name__").getD .none) c UU) tk rfl ⟨_,y_ _ rfl,rfl,rfl,rfl,rfl,rfl,rfl,rfl,rfl,rfl,rfl⟩;exact gi S2 N (h _ (nu hle).2.2) λJN Z' s' hq S'=>K _ _ _ _ hq S'
theorem yI (D:aQ w Zb6 mg mb)(hT:T 28=h_->qt=g')(HE:dB qt prog w Zb6 Zb9 d E)(HB:fc qt prog w Zb6 Zb9 d Bt)(HS:fR qt prog w Zb6 Zb9 d Ss)
 (HC:∀ {x:Str} {p:Pos} {e:Expr} {pos:Pos} {sc:DR} {fm:Fm} {Z:ak} {Q:cT},fk e=e_->(E e sc fm Z λv Z=>dv sc x v fm Z λfm Z=>Q .next fm Z)->∀ {env:Env} {B:aS} {s:i'} {A:DJ} {Err:c_->i'->Prop} {R:Ih->i'->Prop},bL env sc->St prog w Zb6 Zb9 env fm Z B s->a0 qt d A->gj prog w Zb6 Zb9 env B Q R->
  wpAny (A_ prog w) A (exec (.Assign [.Name x p] e pos) env) R Err s):fR qt prog w Zb6 Zb9 d (rM T E Bt Ss):=by
 intro e sc fm Z Q h env B s A Err R N S hA K;cases e with
 |Expr e pos=>
  refine xA h ?_;clear h;rintro hc h;refine wpAny_Expr (HE h N S hA λu Z1 s1 z1 S1=>?_) (by unfold interactive;rw[N.kind];rfl) (lw hc);refine xA z1 λhn h1=>?_;clear z1;cases u<;>first |exact K _ _ _ _ h1 S1|exact(ft hn).elim
 |Pass pos=>exact wpAny_Pass (K _ _ _ _ h S)
 |Continue pos=>exact wpAny_Continue (K _ _ _ _ h S)
 |Break pos=>exact wpAny_Break (K _ _ _ _ h S)
 |Return e pos=>
  cases e with
  |none=>exact wpAny_Return_none (K _ _ _ _ h S)
  |some e=>
   exact GP (HE h N S hA λu Z1 s1 h1 S1=>K _ _ _ _ h1 S1)
 |Assign ts e pos=>exact yC D hT HE HC N S hA h K
 |AugAssign t op e pos=>exact yD D HE N S hA h K
 |If t a b pos=>
  refine wpAny_If (HB h N S hA λc Z1 s1 h1 S1=>?_);cases c with
  |true=>exact i6 HS N hA K a (by assumption) S1
  |false=>exact i6 HS N hA K b (by assumption) S1
 |While t b RE pos=>
  refine xA h ?_;clear h;rintro rfl h;exact yE HB HS N S hA h K
 |FunctionDef name args body ds ret Pd scope Kl bind pos=>exact yH D N S h K
 |For t it b RE pos=>
  refine io h ?_;clear h;rintro x p rfl rfl Vz hp h;exact yF (hA.hd (hT Vz)) HE HS N S hA hp h K
 |_=>exact h.elim
end
end
section
variable{B B':aS}{A:DJ}{T:a6}{E:ET}{d:Nat}
theorem yJ {elt:Expr}{gs:b_ I7}{cs:DR}{pos py:Pos}{y:Str}{n:Nat}:∃b,swapsWith (.ListComp elt gs cs pos) (a_ (.Name y py)) n env=F9 b:=⟨_,rfl⟩
theorem yK (D:aQ w Zb6 mg mb)(HT:eQ qt prog w Zb6 Zb9 d T)(n:Nat){x:Str}{e:Expr}{pos:Pos}{Q:cT}(hc:fk e=e_)(h':(aw T n).1 e sc fm Z λv Z=>dv sc x v fm Z λfm Z=>Q .next fm Z)(N:bL env sc)(S:St prog w Zb6 Zb9 env fm Z B s)(hA:a0 qt (d+1) A){R:Ih->i'->Prop}(K:gj prog w Zb6 Zb9 env B Q R):
 wpAny (A_ prog w) A (exec (.Assign [.Name x p] e pos) env) R Err s:=by
 refine xA (i5 (prog:=prog) (Zb9:=Zb9) D HT n) λHE U=>?_;cases n with
 |zero=>exact h'.elim
 |succ n=>
  cases e<;>first |(exact(ft hc).elim;done) |skip
  · (rename PySem.Pos=>cpos;rename PySem.Scope=>cs;rename b_ _=>gs)
    refine xE (yJ (elt:=elt) (gs:=gs) (cs:=cs) (pos:=cpos) (py:=p) (y:=x) (n:=pos.line) (env:=env)) λb hb=>?_;cases b with
    |false=>
     refine H2 (HE h' N S hA λu Z1 s1 h1 S1=>?_) hb;exact gi S1 N h1 λJN Z' s' hq S'=>K _ _ _ _ hq S'
    |true=>
     have h2:mJ T (aw T n).1 (aw T n).2 (.ListComp elt gs cs cpos) sc fm Z λv Z=>dv sc x v fm Z λfm Z=>Q .next fm Z:=h';refine xA (i5 (prog:=prog) (Zb9:=Zb9) D HT n) λHE' HB'=>?_;refine dX h2 ?_;clear h2;rintro y px it KU rfl zz;refine dG zz λhq hp M3 zz=>?_;refine ac zz λcl Lx h2=>?_;clear zz;rw[exec_Assign_Name_used _ _ _ _ hb];refine wpAny_bind (I8 (wpAny_bind ?_));show wpAny _ A (do let _<-comprehension (.ListComp elt [⟨.Name y px,it,KU,0⟩] cs cpos) cs env _ (newList []) g' (eval it env) (a_ (assign (.Name x p) env))) _ _ s;refine wpAny_bind (EQ (pV (HT.1 hq) (Qr:=λU s'=>R .next s') D HE' HB' N S hA M3 hp Lx h2 (λD' C Z5 s5 ob m hq S5 OG hn=>?_)) (λU s' hq=>wpAny_pure (wpAny_pure hq)) λU U q=>q);show wpAny _ A (assign (.Name x p) env (.ref D')) _ _ _;refine GO (gi S5 N hq λJN Z' s' O0 S'=>?_);refine dG (S5.show' OG S.rep.base) λU U eC5 U=>?_;refine dG (S'.show' OG S.rep.base) λS6 n1 eC n3=>?_;refine⟨m,hn.at' λo e=>by rw[eC5]at e;cases e;exact eC,λh' hs=>K _ _ _ _ O0 (S6.but s'.toks (λb o nb eb=>(hs.2 b nb).trans eb) n1 OG n3)⟩
  ·exact h'.elim
  ·exact h'.elim
theorem nt (D:aQ w Zb6 mg mb)(HT:eQ qt prog w Zb6 Zb9 d T)(k:Nat):∀n,fR qt prog w Zb6 Zb9 (d+1) (aT T k n)
 |0=>λh=>h.elim
 |n+1=>by
  refine xA (i5 (prog:=prog) (Zb9:=Zb9) D HT k) λHE HB=>?_;refine yI D HT.1 HE HB (nt D HT k n) ?_;intro x p e pos sc fm Z Q hc h env B s A Err R N S hA K;exact yK D HT k hc h N S hA K
noncomputable def pY (T:a6)(k n:Nat)(body:b_ Gf)(sc:DR)(fm:Fm)(Z:ak)(Q:cT):Prop:=au (aT T k n) body sc fm Z Q
theorem yL (D:aQ w Zb6 mg mb)(HT:eQ qt prog w Zb6 Zb9 d T)(k n:Nat)(body:b_ Gf)(sc:DR):sL qt prog w Zb6 Zb9 (d+1) sc body (pY T k n body sc):=
 λN S hA h K=>i6 (nt D HT k n) N hA K body h S
end
noncomputable def yM:Data->m_ H_
 |.func fd=>a_ fd
 |_=>h_
noncomputable def cB (K:GC)(f:d_):m_ H_:=(K.lookup f).bind λo=>yM o.data
theorem j1 {K:GC}(h:cB K f=a_ fd):∃c d s,K.lookup f=a_ ⟨c,d,.func fd,s⟩:=by
 intros f fd K;refine ac (t_.mp h) λo ho h=>?_;obtain⟨c,d,t,s⟩:=o;cases t<;>first |(exact(ns h).elim;done) |exact⟨c,d,s,De h▸ho⟩
noncomputable def lx (fd:H_):b_ Gf:=match fd.body with |.stmts b=>b|_=>[]
noncomputable def cV (K:GC)(f:d_):b_ Gf:=match cB K f with
 |some fd=>lx fd
 |none=>[]
noncomputable def cR (K:GC)(f:d_):DR:=match cB K f with
 |some fd=>fd.scope
 |none=>default
noncomputable def yN (K:GC)(v:c_):b_ c_:=match v with
 |.ref T=>(match K.lookup T with
  |some ⟨_,_,.seq vs _,_⟩=>vs.toList
  |_=>[])
 |_=>[]
noncomputable def nv (K:GC)(f:d_):b_ Str:=match cB K f with
 |some fd=>fd.params.args.map (λp=>p.arg)
 |none=>[]
noncomputable def tv (K:GC)(f:d_):b_ c_:=match cB K f with
 |some fd=>yN K fd.defaults
 |none=>[]
noncomputable def gH (K:GC)(f:d_)(vs:b_ c_):b_ (Str×Value):=(nv K f).zip (vs++(tv K f).drop ((tv K f).length- ((nv K f).length-vs.length)))
noncomputable def aI (K:GC)(T:a6)(n:Nat)(f:d_):Wf:=λvs Z Q=>(vs.length==n)=e_/\lq (cR K f) ((gH K f vs).map λp=>(p.1,er p.2)) Z λfm Z=>pY T 60 60 (cV K f) (cR K f) fm Z (iz Q)
noncomputable def hO (K:GC)(f:d_):Dm:=match cB K f with
 |some fd=>(match fd.body with |.stmts _=>e_|_=>g')&&fd.closure.isEmpty&&fd.globals==mainGlobals&&fd.builtins==E7&&codeIn K fd.code fd.qualname&&fd.scope.kind== .function&& !fd.scope.isCoroutine&& !fd.scope.isGenerator&&
  (!(kindOf fd.scope "told"==a_ .local)||(fd.code== .ref 823&&fd.qualname=="_law_program_right"))&&decide ((fd.scope.names.map (λp=>p.1)).Nodup)&&decide ((fd.params.args.map (λp=>p.arg)).Nodup)&&(fd.params.args.all λa=>kindOf fd.scope a.arg==a_ .local||kindOf fd.scope a.arg==a_ .cell)&&Il K (.ref f)
 |none=>g'
section
variable{T:a6}{d:Nat}
theorem gm.le {d e:Nat}{W:Wf}(h:gm qt prog w Zb6 Zb9 d f W)(le:d<=e):gm qt prog w Zb6 Zb9 e f W:=λS hA hW K=>h S (hA.le le) hW K
theorem tw {α β:Type}:∀ (l:b_ α) (m:b_ β),((l.zip m).map (λp=>p.1)).Sublist l
 | [],_=>by simp
 |_::_,[]=>by simp
 |a::l,b::m=>by simpa using tw l m
theorem tx (l:b_ Str):∀ (m:b_ c_),(l.zip m).map (λp=>(p.1,er p.2))=l.zip (m.map er):=by
 induction l with
 |nil=>intro m;rfl
 |cons a l ih=>
  intro m;cases m with
  |nil=>rfl
  |cons b m=>simp[ih]
theorem yO (K:GC)(f:d_)(vs:b_ c_):(gH K f (vs.map er)).map (λp=>(p.1,er p.2))=(gH K f vs).map λp=>(p.1,er p.2):=by
 unfold gH;rw[tx,tx,b'];congr 1;rw[r_,r_,C_];congr 1;exact Dp λv U=>ix v
theorem yP {K D:GC}{o:Obj}:K.lookup a=a_ o->(K++D).lookup a=a_ o:=by
 induction K with
 |nil=>intro h;exact(ns h).elim
 |cons p K ih=>
  intro h;rw[F'];rw[v_]at h⊢;split at h
  ·exact h
  ·exact ih h
theorem ly {K D:GC}(h:cB K f=a_ fd):cB (K++D) f=a_ fd:=by
 refine jI (j1 h) λc d s e=>?_;unfold cB;rw[yP e];rfl
theorem tz (D:aQ w Zb6 mg mb)(HT:eQ qt prog w Zb6 Zb9 d T)(hs:hO (KF w.params) f=e_)(hc:(cB KC f).isSome=e_)
 (hb:∀vs:b_ c_,vs.length=n->∀S fd,cB KC f=a_ fd->peek (KF w.params) S (Gh fd ⟨vs,[]⟩)=a_ (gH KC f vs)):gm qt prog w Zb6 Zb9 (d+2) f (aI KC T n f):=by
 intros f n qt Zb6 Zb9 mg mb prog w T d;obtain⟨Zbm,hf0⟩:=Ds.mp hc;intros Zbm;have hf1:=ly (D:=KD w.params) hf0;unfold hO at hs;split at hs
 ·intros fd
  rename cB (KF w.params) f=_=>Kg
  have hq:fd=Zbm:=De (Kg.symm.trans hf1);subst hq;simp only [u_,Fi,C9,Ei,G5,l_]at hs;obtain⟨⟨⟨⟨⟨⟨⟨⟨⟨⟨⟨⟨h1,h2⟩,h3⟩,h4⟩,h5⟩,h6⟩,h7⟩,h8⟩,UL⟩,h9⟩,VL⟩,U4⟩,UX⟩:=hs;have Xg:=Kg;have Kg:=hf0;obtain⟨oc,od,Lq,hl⟩:=j1 Xg
  ·intros oc od Lq
   have KM:fd.body=.stmts (cV KC f):=by
    unfold cV lx;rw[Kg];dsimp only;split at h1
    ·rename _=FT _=>q;exact q
    ·exact(ft h1).elim
   have LB:cR KC f=fd.scope:=by unfold cR;exact Kg▸rfl
   have VK:nv KC f=fd.params.args.map (λp=>p.arg):=by unfold nv;exact Kg▸rfl
   intro env fm Z B s A vs Q R S hA hW K;refine xx (V:=pY T 60 60 (cV KC f) fd.scope) (W:=aI KC T n f) D hl KM h2 h3 h4 h5 h6 h7 h8 h9 (λq=>by simpa[q]using UL) (yL D HT 60 60 (cV KC f) fd.scope) (λvs Z Q hW=>?_) S hA hW K;obtain⟨hn,hW⟩:=hW;rw[C9,b']at hn;rw[LB]at hW;refine⟨gH KC f vs,λS=>hb vs hn S fd Kg,?_,?_,?_⟩
   ·unfold gH
    rw[VK];exact VL.sublist (tw _ _)
   ·intro x hx
    unfold gH at hx;have:=(List.of_mem_zip hx).1;rw[VK,i_]at this;refine ac this λa ha e=>?_;clear this;have:=U4 a ha;rw[FD,C9,C9,e]at this;exact this
   ·rw[yO]at hW;exact hW
 ·exact(ft hs).elim
end
noncomputable def jv:b_ (Addr×Nat×Nat):=[(42,2,0),(159,2,0),(180,2,0),(187,1,0),(292,1,0),(309,1,0),(323,3,0),(330,2,0),(337,2,0),(344,2,0),(412,2,0),(711,5,0),(733,1,0),(754,2,0),(810,2,0),(834,2,0),(839,3,0),(63,3,1),(82,2,1),(139,3,1),(297,1,1),(304,1,1),(351,2,1),(356,3,1),(455,2,1),(391,2,1),(829,1,1),(419,2,1),(194,2,2),(201,1,2),(222,2,2),(462,2,2),(655,1,2),(398,2,2),(370,2,3),(761,2,3),(363,3,3),(384,2,3),(648,1,3),(540,2,3),(768,2,4),(448,2,5),(676,1,6),(844,1,7)]
theorem yQ (h:vs.length<=5):[vs.getD 0 .none,vs.getD 1 .none,vs.getD 2 .none,vs.getD 3 .none,vs.getD 4 .none].take vs.length=vs:=by
 rcases vs with _|⟨a,_|⟨b,_|⟨c,_|⟨d,_|⟨e,_|⟨f,vs⟩⟩⟩⟩⟩⟩ <;>first |rfl|(simp at h)
theorem yR (P:DF):(jv.all λp=>hO (KF P) p.1)=e_:=by kernel_rfl
theorem tA:(jv.all λp=>(cB KC p.1).isSome&&decide (p.2.1<=5))=e_:=by kernel_rfl
theorem yS (P:DF)(S:Js)(a b c d e:c_):jv.map (λp=>(cB KC p.1).map λfd=>peek (KF P) S (Gh fd ⟨[a,b,c,d,e].take p.2.1,[]⟩))=jv.map (λp=>a_ (a_ (gH KC p.1 ([a,b,c,d,e].take p.2.1)))):=by kernel_rfl
theorem yT (P:DF){p:Addr×Nat×Nat}(hp:p∈jv)(hn:vs.length=p.2.1)(S:Js):(cB KC p.1).map (λfd=>peek (KF P) S (Gh fd ⟨vs,[]⟩))=a_ (a_ (gH KC p.1 vs)):=by
 have h:=HZ.mp (yS P S (vs.getD 0 .none) (vs.getD 1 .none) (vs.getD 2 .none) (vs.getD 3 .none) (vs.getD 4 .none)) p hp;have q:=l_.mp tA p hp;rw[u_,Ei]at q;rw[<-hn]at h q;rw[yQ q.2]at h;exact h
noncomputable def aJ (K:GC):Nat->a6
 |0=>λU=>h_
 |k+1=>λf=>match jv.lookup f with
  |some (n,r)=>if r<k then aJ K k f else if r=k then a_ (aI K (aJ K k) n f)else h_
  |none=>h_
section
theorem nB (D:aQ w Zb6 mg mb):∀k,eQ g' prog w Zb6 Zb9 (2*k) (aJ KC k)
 |0=>⟨λU=>rfl,λf W h=>by exact(ns h).elim⟩
 |k+1=>⟨λU=>rfl,λf W h=>by
  have ih:=nB D k;unfold aJ at h;split at h
  ·revert D ih;intros Zb6 Zb9 mg mb prog w k f W n r
   rename EA f jv=_=>q
   have hm:=dP q;split at h
   ·refine xA (ih.2 f W h) λa b=>?_
    exact⟨a,b.le (by walk_at "a")⟩
   ·split at h
    ·cases h
     have hs:=l_.mp (yR w.params) (f,n,r) hm;have hc:=l_.mp tA (f,n,r) hm;rw[u_]at hc;refine⟨?_,tz D ih hs hc.1 λvs hn S fd Kg=>?_⟩
     ·unfold hO at hs
      split at hs
      ·simp only [u_]at hs;exact hs.2
      ·exact(ft hs).elim
     ·have:=yT w.params hm hn S
      dsimp only at this;rw[Kg,Go]at this;exact De this
    ·exact(ns h).elim
  ·exact(ns h).elim⟩
end
noncomputable def Sub (M Z:ak):Prop:=∀a o,M a=a_ o->Z a=a_ o
theorem Sub.refl (Z:ak):Sub Z Z:=λU U e=>e
theorem Sub.trans {a b c:ak}(h:Sub a b)(g:Sub b c):Sub a c:=λx o e=>g x o (h x o e)
theorem Sub.new {o:O}(h:isNew Z l):Sub Z (Z.set l o):=λa o' e=>by
 rw[bA];exact e;rintro rfl;rw[h.1]at e;exact(ns e).elim
theorem Sub.set {M:ak}(h:Sub M Z)(a:d_)(o:O):Sub (M.set a o) (Z.set a o):=λb o' e=>by
 by_cases q:b=a
 ·subst q;rw[ad]at e⊢;exact e
 ·rw[bA _ _ q]at e⊢;exact h b o' e
theorem aq (h:isNew Z l)(e:Z a=a_ o):a≠l:=by
 rintro rfl;rw[h.1]at e;exact(ns e).elim
theorem ao {o':O}(h:isNew Z l)(e:Z a=a_ o):(Z.set l o') a=a_ o:=by exact(bA _ _ (aq h e)).trans e
theorem ap {o':O}(h:a≠l)(e:Z a=a_ o):(Z.set l o') a=a_ o:=by exact(bA _ _ h).trans e
section
variable{T:a6}
theorem aa {x:Str}(h2:bM sc x fm Z=a_ v)(h:Q v Z)(h1:cF x=e_:=by rfl):(aw T (n+1)).1 (.Name x p) sc fm Z Q:=⟨h1,v,h2,h⟩
theorem av {e:Expr}{a:Str}(h:(aw T n).1 e sc fm Z λv Z=>gF Z v a Q)(h1:iV e=e_:=by rfl):(aw T (n+1)).1 (.Attribute e a p) sc fm Z Q:=⟨h1,h⟩
theorem nC {x:d_}{a:Str}(h1:Z x=a_ (.inst C d fl))(h2:bS C a=e_)(h3:fl.lookup a=a_ v)(h4:ej v=e_):fM Z (.ref x) a=a_ v:=by
 unfold fM;dsimp only;rw[h1];dsimp only;rw[z_ h2,h3];exact z_ h4
theorem az {x:d_}{a:Str}(h1:Z x=a_ (.inst C d fl))(h3:fl.lookup a=a_ v)(h:Q v Z)(h2:bS C a=e_:=by first |rfl|assumption)(h4:ej v=e_:=by first |rfl|assumption):gF Z (.ref x) a Q:=by
 unfold gF;dsimp only;rw[h1];exact⟨v,nC h1 h2 h3 h4,h⟩
theorem pZ {x:d_}{a:Str}(h1:Z x=a_ (.inst C d fl))(h2:bS C a=e_)(h3:fl.length<40):jR Z (.ref x) a v=a_ (Z.set x (.inst C d (aL a v fl))):=by
 unfold jR;dsimp only;rw[h1];dsimp only;rw[z_ (by rw[h2];exact z_ h3)]
theorem CY {c:Const}(h:o8 c Z Q):(aw T (n+1)).1 (.Constant c k p) sc fm Z Q:=h
theorem aX {o:Expr}{a:Str}(h:(aw T n).1 o sc fm Z λv Z=>ob (fY Z v a) λg=>eP (aw T n).1 args sc fm Z λvs Z=>c9 T g.1 (g.2++vs) Z Q)
 (hp:(Kc.endLine==pos.line)=e_:=by rfl) (hl:args.length<30:=by decide) (hs:iU sc o=h_:=by rfl) (hb:iV o=e_:=by rfl) (ha:args.all dL=e_:=by rfl):
 (aw T (n+1)).1 (.Call (.Attribute o a Kc) args [] pos) sc fm Z Q:=⟨rfl,.inr ⟨_,_,_,rfl,hp,hl,.inr ⟨hs,hb,ha,h⟩⟩⟩
theorem jw {o:Expr}{a:Str}(hs:iU sc o=a_ (.ref C))(hf:mx C a=a_ f)(h:eP (aw T n).1 args sc fm Z λvs Z=>c9 T (.ref f) vs Z Q)
 (hp:(Kc.endLine==pos.line)=e_:=by rfl) (hl:args.length<30:=by decide) (ha:args.all dL=e_:=by rfl):
 (aw T (n+1)).1 (.Call (.Attribute o a Kc) args [] pos) sc fm Z Q:=⟨rfl,.inr ⟨_,_,_,rfl,hp,hl,.inl ⟨_,hs,.inl ⟨C,f,rfl,hf,ha,h⟩⟩⟩⟩
theorem aA {x:Str}{v:c_}(h2:bM sc x fm Z=a_ v)(h:eP (aw T n).1 args sc fm Z λvs Z=>c9 T v vs Z Q)(ha:args.all dL=e_:=by rfl)(h1:cF x=e_:=by rfl){n':Nat}(hn:n=n'+1:=by rfl):
 (aw T (n+1)).1 (.Call (.Name x p) args [] pos) sc fm Z Q:=by
 subst hn;exact⟨rfl,.inl ⟨rfl,rfl,h1,v,h2,ha,h⟩⟩
theorem am {Ql:b_ c_->ak->Prop}(h:Ql [] Z):eP (aw T n).1 [] sc fm Z Ql:=h
theorem af {e:Expr}{es:b_ Expr}{Ql:b_ c_->ak->Prop}(h:(aw T n).1 e sc fm Z λv Z=>eP (aw T n).1 es sc fm Z λvs Z=>Ql (v::vs) Z):eP (aw T n).1 (e::es) sc fm Z Ql:=h
theorem bZ {x:d_}{a:Str}{k:Value×List c_->Prop}(h1:Z x=a_ (.inst C d fl))(h2:(cN.lookup C).bind (·.lookup a)=a_ f)(h3:fl.lookup a=h_)(h:k (.ref f,[.ref x])):ob (fY Z (.ref x) a) k:=by
 refine⟨_,?_,h⟩;unfold fY;dsimp only;rw[h1];dsimp only;rw[h2];dsimp only;rw[h3];rfl
theorem tB {x:d_}{a:Str}{k:Value×List c_->Prop}(h1:Z x=a_ (.inst C d fl))(h2:(cN.lookup C).bind (·.lookup a)=h_)(h3:fl.lookup a=a_ v)(h:k (v,[]))(h5:bS C a=e_:=by first |rfl|assumption)(h4:ej v=e_:=by first |rfl|assumption):ob (fY Z (.ref x) a) k:=by
 refine⟨_,?_,h⟩;unfold fY;dsimp only;rw[h1];dsimp only;rw[h2,nC h1 h5 h3 h4];rfl
theorem dY {x:d_}{a:Str}{id:EB}{k:Value×List c_->Prop}(h1:Z x=a_ (.lst xs))(h2:o0 a=a_ id)(h:k (.builtin id,[.ref x])):ob (fY Z (.ref x) a) k:=by
 refine⟨_,?_,h⟩;unfold fY;dsimp only;rw[h1];dsimp only;rw[h2];rfl
theorem i7 {x:d_}{a:Str}{id:EB}{k:Value×List c_->Prop}(h1:Z x=a_ (.dic es m))(h2:o7 a=a_ id)(h:k (.builtin id,[.ref x])):ob (fY Z (.ref x) a) k:=by
 refine⟨_,?_,h⟩;unfold fY;dsimp only;rw[h1];dsimp only;rw[h2];rfl
theorem iA {x:d_}(h:Z x=a_ (.lst xs)):gD Z (.ref x)=a_ (x,xs):=by
 show((Z x).bind iu).map _=_;rw[h];rfl
theorem lz {x:d_}{N:Nat}(h:Z x=a_ (.dic es N)):jm Z (.ref x)=a_ (x,es):=by
 show((Z x).bind oR).map _=_;rw[h];rfl
theorem eR {x:d_}(h1:Z x=a_ (.lst xs))(hz:xs.length<=100000)(h:Q .none (Z.set x (.lst (xs++[v])))):ek "list.append" [.ref x,v] Z Q:=by
 exact⟨mC,rfl,_,iA h1,hz,h⟩
theorem aF {W:Wf}(h1:T f=a_ W)(h:W vs Z Q):c9 T (.ref f) vs Z Q:=by
 unfold c9;dsimp only;rw[h1];exact h
theorem d8 {i:d_}{W:Wf}(h0:T C=h_)(h2:jT C=a_ i)(h1:T i=a_ W)(h:∀x d,isNew Z x->W (.ref x::vs) (Z.set x (.inst C d [])) λv Z'=>v=.none/\Q (.ref x) Z'):c9 T (.ref C) vs Z Q:=by
 unfold c9;dsimp only;rw[h0];dsimp only;rw[h2];exact⟨W,h1,h⟩
theorem bH {id:EB}(h:ek id vs Z Q)(hq:T 28=h_\/mH id=e_:=by first |exact .inl rfl|exact .inr rfl):c9 T (.builtin id) vs Z Q:=⟨hq,h⟩
theorem cG {b:Dm}{X Y:Prop}(h1:b=e_->X)(h2:b=g'->Y):if b=e_ then X else Y:=split_bool h1 h2
end
noncomputable def ai (W:b_ d_)(Z Z':ak):Prop:=∀a o,a∉W->Z a=a_ o->Z' a=a_ o
theorem ai.get {W:b_ d_}(h:ai W Z Z')(e:Z a=a_ o)(n:a∉W):Z' a=a_ o:=h a o n e
theorem eT (h:isNew (Z.set a o) l):isNew Z l:=by
 refine⟨?_,h.2⟩;have:=h.1;unfold ak.set at this;split at this
 ·exact(sn this).elim
 ·exact this
theorem hU (h:isNew (Z.set a o) l):l≠a:=by
 rintro rfl;have:=h.1;rw[ad]at this;exact(sn this).elim
theorem gI (Z:ak)(a:d_)(o o':O):(Z.set a o).set a o'=Z.set a o':=by
 funext b
 unfold ak.set;split<;>rfl
theorem ai.refl (W:b_ d_)(Z:ak):ai W Z Z:=λU U U e=>e
theorem ai.set {W:b_ d_}(h:ai W Z Z')(ha:a∈W):ai W Z (Z'.set a o):=λb o' n e=>by
 have q:b≠a:=by rintro rfl;exact n ha
 rw[bA _ _ q];exact h b o' n e
theorem ai.new {W:b_ d_}(h:ai W Z Z'){o:O}(ha:isNew Z' a):ai W Z (Z'.set a o):=λb o' n e=>ao ha (h b o' n e)
theorem ai.trans {W V:b_ d_}(h:ai W Z Z')(g:ai V Z' JO)(s:∀a∈V,a∈W\/Z a=h_):ai W Z JO:=λb o n e=>g b o (λq=>(s b q).elim n λz=>by exact(ns (z.symm.trans e))) (h b o n e)
theorem ai.isNew {W:b_ d_}(h:ai W Z Z')(hl:isNew Z' l)(hw:∀a∈W,∃o,Z' a=a_ o):isNew Z l:=by
 refine⟨?_,hl.2⟩;cases e:Z l with
 |none=>rfl
 |some o=>
  by_cases q:l∈W
  ·refine xE (hw l q) λo' e'=>?_;rw[hl.1]at e';exact(ns e').elim
  ·have:=h l o q e;rw[hl.1]at this;exact(ns this).elim
section
variable{T:a6}
theorem qa {x:d_}{a:Str}{kk:ak->Prop}(h:kk (Z.set x (.inst C d (aL a v fl))))(h2:bS C a=e_:=by first |rfl|assumption)(h3:fl.length<40:=by first |exact of_decide_eq_true rfl|assumption):ir (Z.set x (.inst C d fl)) (.ref x) a v kk:=by
 refine .inl ⟨_,pZ (ad _ _ _) h2 h3,?_⟩;rw[gI];exact h
theorem ay (h:Qs .next fm Z):au (aT T k (n+1)) [] sc fm Z Qs:=h
theorem cC {o e:Expr}{a:Str}(h:(aw T k).1 e sc fm Z λv Z=>(aw T k).1 o sc fm Z λw Z=>ir Z w a v λZ=>au (aT T k (n+1)) r sc fm Z Qs)(h1:iV o=e_:=by rfl):
 au (aT T k (n+1)) (.Assign [.Attribute o a p] e pos::r) sc fm Z Qs:=.inr (.inl ⟨_,_,_,rfl,h1,h⟩)
theorem a8 {x:Str}{e:Expr}(h:(aw T k).1 e sc fm Z λv Z=>dv sc x v fm Z λfm Z=>au (aT T k (n+1)) r sc fm Z Qs):au (aT T k (n+1)) (.Assign [.Name x p] e pos::r) sc fm Z Qs:=.inl ⟨_,_,rfl,h⟩
theorem bE {e:Expr}(h:(aw T k).1 e sc fm Z λv Z=>ry v=e_/\au (aT T k (n+1)) r sc fm Z Qs)(h2:fk e=g':=by rfl):au (aT T k (n+1)) (.Expr e pos::r) sc fm Z Qs:=⟨h2,h⟩
theorem a9 {e:Expr}(h:(aw T k).1 e sc fm Z λv Z=>Qs (.ret v) fm Z):au (aT T k (n+1)) (.Return (a_ e) pos::r) sc fm Z Qs:=h
theorem nE (h:Qs (.ret .none) fm Z):au (aT T k (n+1)) (.Return h_ pos::r) sc fm Z Qs:=h
theorem qb {o e:Expr}{a:Str}(h:(aw T k).1 o sc fm Z λw Z=>ob (fM Z w a) λMV=>(aw T k).1 e sc fm Z λv Z=>jo op MV v λu=>ir Z w a u λZ=>au (aT T k (n+1)) r sc fm Z Qs):
 au (aT T k (n+1)) (.AugAssign (.Attribute o a p) op e pos::r) sc fm Z Qs:=.inr ⟨_,_,_,rfl,h⟩
theorem aO {t:Expr}{a b:b_ Gf}(h:(aw T k).2 t sc fm Z λc Z=>if c=e_ then au (aT T k n) a sc fm Z (λfl fm Z=>match fl with |.next=>au (aT T k (n+1)) r sc fm Z Qs|f=>Qs f fm Z)else au (aT T k n) b sc fm Z (λfl fm Z=>match fl with |.next=>au (aT T k (n+1)) r sc fm Z Qs|f=>Qs f fm Z)):
 au (aT T k (n+1)) (.If t a b pos::r) sc fm Z Qs:=h
theorem cW {x:d_}{a:Str}{kk:ak->Prop}(h1:Z x=a_ (.inst C d fl))(h:kk (Z.set x (.inst C d (aL a v fl))))(h2:bS C a=e_:=by first |rfl|assumption)(h3:fl.length<40:=by first |exact of_decide_eq_true rfl|assumption):ir Z (.ref x) a v kk:=.inl ⟨_,pZ h1 h2 h3,h⟩
theorem qc {x:d_}{a:Str}{kk:c_->Prop}(h1:Z x=a_ (.inst C d fl))(h3:fl.lookup a=a_ v)(h:kk v)(h2:bS C a=e_:=by first |rfl|assumption)(h4:ej v=e_:=by first |rfl|assumption):ob (fM Z (.ref x) a) kk:=⟨_,nC h1 h2 h3 h4,h⟩
theorem fe {es:b_ Expr}(h:eP (aw T n).1 es sc fm Z λvs Z=>vs.length<=1000/\∀l,isNew Z l->Q (.ref l) (Z.set l (.lst vs)))(ha:es.all dL=e_:=by rfl):(aw T (n+1)).1 (.List es p) sc fm Z Q:=⟨ha,h⟩
theorem aK (h:Q (.int i 0) Z):(aw T (n+1)).1 (.Constant (.int i) kk p) sc fm Z Q:=h
theorem bI (h:Q .none Z):(aw T (n+1)).1 (.Constant .none kk p) sc fm Z Q:=h
theorem lA {b:Dm}(h:Q (.bool b) Z):(aw T (n+1)).1 (.Constant (.bool b) kk p) sc fm Z Q:=h
theorem bJ {b:Str}(h:Q (.str b 0) Z):(aw T (n+1)).1 (.Constant (.str b) kk p) sc fm Z Q:=h
theorem eU (h:∀l,isNew Z l->Q (.ref l) (Z.set l (.lst []))):(aw T (n+1)).1 (.List [] p) sc fm Z Q:=⟨rfl,Hg _,h⟩
theorem j2 (h:∀l m,isNew Z l->Q (.ref l) (Z.set l (.dic [] m))):(aw T (n+1)).1 (.Dict [] [] p) sc fm Z Q:=.inl ⟨rfl,rfl,h⟩
end
noncomputable def ax (num cnt:Int)(bl:c_)(wk:d_)(ds fr:Dm)(r:b_ (Str×Value)):b_ (Str×Value):=
 ("number",.int num 0)::("count",.int cnt 0)::("blessed",bl)::("weak",.ref wk)::("is_destroyed",.bool ds)::("is_freed",.bool fr)::r
noncomputable def dM (hp ds pl em:d_):b_ (Str×Value):=[("heap",.ref hp),("destroy",.ref ds),("places",.ref pl),("empties",.ref em)]
noncomputable def bN (lim:d_)(last:Int)(z:d_):b_ (Str×Value):=[("limits",.ref lim),("last",.int last 0),("zero",.ref z)]
theorem qe {x:d_}(h:Z x=a_ (.inst C d []))(hC:∀a∈["number","count","blessed","weak","is_destroyed","is_freed"],bS C (Ev a)=e_)
 (h1:∀Z' l,isNew Z l->ai [x] Z Z'->Z' x=a_ (.inst C d (ax num 0 .none l g' g' []))->Z' l=a_ (.lst [])->Q .none Z'):aI KC (aJ KC 0) 2 42 [.ref x,.int num 0] Z Q:=by
 have o1:=hC "number" (by simp);have o2:=hC "count" (by simp);have o3:=hC "blessed" (by simp);have o4:=hC "weak" (by simp);have o5:=hC "is_destroyed" (by simp);have o6:=hC "is_freed" (by simp);refine⟨rfl,?_⟩;show au _ _ _ ⟨[("self",.ref x),("number",.int num 0)],[]⟩ _ _;walk_at "r";intro l hl;walk_at "r";have KA:=hU hl;refine h1 _ l (eT hl) ?_ (ad _ _ _) ?_
 ·exact((((ai.refl [x] Z).set (.head _)).new hl).set (.head _))
 ·rw[bA _ _ KA,ad]
theorem nF {x:d_}{v:c_}(h:Z x=a_ (.inst 162 d []))
 (h1:∀Z',ai [x] Z Z'->Z' x=a_ (.inst 162 d [("target",v),("is_weak",.bool g')])->Q .none Z') (hv:er v=v):aI KC (aJ KC 0) 2 159 [.ref x,v] Z Q:=by
 refine⟨rfl,?_⟩;show au _ _ _ ⟨[("self",.ref x),("target",er v),("is_weak",.bool g')],[]⟩ _ _;rw[hv];walk_at "r";exact h1 _ ((ai.refl [x] Z).set (.head _)) (ad _ _ _)
theorem qg {lim:d_}(h:Z hp=a_ (.inst 225 dh (bN lim last z)))
 (h1:∀Z',ai [hp] Z Z'->Z' hp=a_ (.inst 225 dh (bN lim (last+1) z))->Q (.int (last+1) 0) Z'):aI KC (aJ KC 0) 1 187 [.ref hp] Z Q:=by
 refine⟨rfl,?_⟩;show au _ _ _ ⟨[("self",.ref hp)],[]⟩ _ _;walk_at "r";exact h1 _ ((ai.refl [hp] Z).set (.head _)) (ad _ _ _)
noncomputable def bG (v:c_):b_ (Str×Value):=[("value",v),("magic",.none)]
noncomputable def cX (its:d_):b_ (Str×Value):=[("items",.ref its),("tied",.none)]
noncomputable def dC (nm:Str)(v:c_):b_ (Str×Value):=[("name",.str nm 0),("scalar",v),("array",.none),("hash",.none),("code",.none)]
theorem yU {x:d_}(h:Z x=a_ (.inst 66 d []))(hv:er v=v)
 (h1:∀Z' l,isNew Z l->ai [x] Z Z'->Z' x=a_ (.inst 66 d (ax num 0 .none l g' g' (bG v)))->Z' l=a_ (.lst [])->Q .none Z'):aI KC (aJ KC 1) 3 63 [.ref x,.int num 0,v] Z Q:=by
 intros d num Z v Q x;refine⟨rfl,?_⟩;show au _ _ _ ⟨[("self",.ref x),("number",.int num 0),("value",er v)],[]⟩ _ _;rw[hv];refine bE (jw rfl rfl (af (aa rfl (af (aa rfl (am (aF rfl (qe h (by decide+kernel) λZ' l hl hF hx Pz=>⟨rfl,?_⟩))))))));have M9:l≠x:=λq=>by rw[q]at hl;exact absurd (hl.1.symm.trans h) (by simp)
 walk_at "r";refine h1 _ l hl ?_ (ad _ _ _) ?_
 ·exact hF.set (.head _)
 ·exact(bA _ _ M9).trans Pz
theorem yV {x:d_}(h:Z x=a_ (.inst 85 d []))
 (h1:∀Z' l its,isNew Z l->isNew Z its->its≠l->ai [x] Z Z'->Z' x=a_ (.inst 85 d (ax num 0 .none l g' g' (cX its)))->Z' l=a_ (.lst [])->Z' its=a_ (.lst [])->Q .none Z'):aI KC (aJ KC 1) 2 82 [.ref x,.int num 0] Z Q:=by
 intros d num Z Q x;refine⟨rfl,?_⟩;show au _ _ _ ⟨[("self",.ref x),("number",.int num 0)],[]⟩ _ _;refine bE (jw rfl rfl (af (aa rfl (af (aa rfl (am (aF rfl (qe h (by decide+kernel) λZ' l hl hF hx Pz=>⟨rfl,?_⟩))))))));have M9:l≠x:=λq=>by rw[q]at hl;exact absurd (hl.1.symm.trans h) (by simp)
 walk_at "r";intro its hi;have nil:its≠l:=λq=>by rw[q]at hi;rw[hi.1]at Pz;exact(ns Pz).elim
 have nix:its≠x:=λq=>by rw[q]at hi;rw[hi.1]at hx;exact(ns hx).elim
 walk_at "r";refine h1 _ l its hl (hF.isNew hi (by exact bT ⟨_,hx⟩)) nil ?_ (ad _ _ _) ?_ ?_
 ·exact(hF.new hi).set (.head _)
 ·exact((bA _ _ M9).trans (bA _ _ nil.symm)).trans Pz
 ·rw[bA _ _ nix,ad]
theorem yW {x:d_}(h:Z x=a_ (.inst 142 d []))
 (h1:∀Z' l,isNew Z l->ai [x] Z Z'->Z' x=a_ (.inst 142 d (ax num 0 .none l g' g' (dC nm .none)))->Z' l=a_ (.lst [])->Q .none Z'):aI KC (aJ KC 1) 3 139 [.ref x,.int num 0,.str nm 0] Z Q:=by
 intros d num Z nm Q x;refine⟨rfl,?_⟩;show au _ _ _ ⟨[("self",.ref x),("number",.int num 0),("name",.str nm 0)],[]⟩ _ _;refine bE (jw rfl rfl (af (aa rfl (af (aa rfl (am (aF rfl (qe h (by decide+kernel) λZ' l hl hF hx Pz=>⟨rfl,?_⟩))))))));have M9:l≠x:=λq=>by rw[q]at hl;exact absurd (hl.1.symm.trans h) (by simp)
 walk_at "r";refine h1 _ l hl ?_ (ad _ _ _) ?_
 ·exact hF.set (.head _)
 ·exact(bA _ _ M9).trans Pz
theorem yX {lim:d_}{k:Int}{r:b_ (Str×Value)}{zs:b_ c_}
 (hc:Z c=a_ (.inst 401 dc (dM hp dsA pl em))) (hh:Z hp=a_ (.inst 225 dh (bN lim last z))) (hz:Z z=a_ (.lst zs)) (KZ:zs.length<=100000)
 (ht:Z t=a_ (.inst C dt (ax num k bl wk ds fr r))) (hC:bS C "count"=e_) (hr:r.length<20) (n1:c≠t) (n2:hp≠t) (n3:z≠t)
 (h0:k-1≠0->Q .none (Z.set t (.inst C dt (ax num (k-1) bl wk ds fr r))))
 (h1:k-1=0->Q .none ((Z.set t (.inst C dt (ax num (k-1) bl wk ds fr r))).set z (.lst (zs++[.ref t])))):
 aI KC (aJ KC 0) 2 337 [.ref c,.ref t] Z Q:=by
 intros C z wk c hp t dt dh dsA pl em dc num last fr ds Z bl Q lim k r zs;refine⟨rfl,.inr ⟨_,_,_,rfl,rfl,.ref t,rfl,.int k 0,nC ht hC rfl rfl,.inl ⟨_,pZ ht hC (by simp[ax];walk_at "l"),?_⟩⟩⟩;generalize hσ:Z.set t _=Z1;have J7:Z1 t=a_ (.inst C dt (ax num (k-1) bl wk ds fr r)):=by rw[<-hσ,ad];rfl
 have JY:Z1 c=a_ (.inst 401 dc (dM hp dsA pl em)):=by rw[<-hσ,bA _ _ n1,hc]
 have Ka:Z1 hp=a_ (.inst 225 dh (bN lim last z)):=by rw[<-hσ,bA _ _ n2,hh]
 have Lm:Z1 z=a_ (.lst zs):=by rw[<-hσ,bA _ _ n3,hz]
 refine⟨_,_,rfl,rfl,rfl,rfl,rfl,.ref t,rfl,az J7 rfl ⟨_,rfl,cG (λe=>?_) (λe=>?_)⟩⟩
 ·have e:k-1=0:=of_decide_eq_true e
  refine⟨rfl,aX (av (av (aa rfl (az JY rfl (az Ka rfl (dY Lm rfl (af (aa rfl (am (bH (eR Lm KZ ⟨rfl,?_⟩)))))))))))⟩;have:=h1 e;rw[<-hσ];exact this
 ·have e:k-1≠0:=DM e
  have:=h0 e;rw[<-hσ];exact this
theorem qh {lim:d_}(h:Z hp=a_ (.inst 225 dh (bN lim last z)))(hv:er v=v)
 (h1:∀Z' x d l,isNew Z x->isNew Z l->l≠x->ai [hp] Z Z'->Z' x=a_ (.inst 66 d (ax (last+1) 0 .none l g' g' (bG v)))->Z' l=a_ (.lst [])->Z' hp=a_ (.inst 225 dh (bN lim (last+1) z))->Q (.ref x) Z'):
 aI KC (aJ KC 2) 2 194 [.ref hp,v] Z Q:=by
 intros z hp dh last Z v Q lim;refine⟨rfl,?_⟩;show au _ _ _ ⟨[("self",.ref hp),("value",er v)],[]⟩ _ _;rw[hv];refine a9 (aA rfl (af (aX (aa rfl (bZ h rfl rfl (am (aF rfl (qg h λZ1 JQ Ka=>?_))))))));refine af (aa rfl (am (d8 rfl rfl rfl λx d hx=>yU (ad _ _ _) hv λZ2 l hl JS KX JX=>⟨rfl,?_⟩)));have MZ:hp≠x:=aq hx Ka;have M9:l≠x:=hU hl;refine h1 Z2 x d l (JQ.isNew hx (by exact bT ⟨_,Ka⟩)) (JQ.isNew (eT hl) (by exact bT ⟨_,Ka⟩)) M9 ?_ KX JX ?_
 ·exact(JQ.new hx).trans JS (by
   intro a ha;rcases g_.mp ha with rfl
   exact .inr (JQ.isNew hx (by exact bT ⟨_,Ka⟩)).1)
 ·exact JS.get (ap MZ Ka) (by exact aE MZ)
theorem tC {lim:d_}(h:Z hp=a_ (.inst 225 dh (bN lim last z)))
 (h1:∀Z' x d l its,isNew Z x->isNew Z l->isNew Z its->l≠x->its≠x->its≠l->ai [hp] Z Z'->Z' x=a_ (.inst 85 d (ax (last+1) 0 .none l g' g' (cX its)))->Z' l=a_ (.lst [])->Z' its=a_ (.lst [])->Z' hp=a_ (.inst 225 dh (bN lim (last+1) z))->Q (.ref x) Z'):
 aI KC (aJ KC 2) 1 201 [.ref hp] Z Q:=by
 intros z hp dh last Z Q lim;refine⟨rfl,?_⟩;show au _ _ _ ⟨[("self",.ref hp)],[]⟩ _ _;refine a9 (aA rfl (af (aX (aa rfl (bZ h rfl rfl (am (aF rfl (qg h λZ1 JQ Ka=>?_))))))));refine am (d8 rfl rfl rfl λx d hx=>yV (ad _ _ _) λZ2 l its hl hi nil JS KX JX NJ=>⟨rfl,?_⟩);have MZ:hp≠x:=aq hx Ka;have M9:l≠x:=hU hl;refine h1 Z2 x d l its (JQ.isNew hx (by exact bT ⟨_,Ka⟩)) (JQ.isNew (eT hl) (by exact bT ⟨_,Ka⟩)) (JQ.isNew (eT hi) (by exact bT ⟨_,Ka⟩)) M9 (hU hi) nil ?_ KX JX NJ ?_
 ·exact(JQ.new hx).trans JS (by
   intro a ha;rcases g_.mp ha with rfl
   exact .inr (JQ.isNew hx (by exact bT ⟨_,Ka⟩)).1)
 ·exact JS.get (ap MZ Ka) (by exact aE MZ)
theorem yY {lim:d_}(h:Z hp=a_ (.inst 225 dh (bN lim last z)))
 (h1:∀Z' x d l,isNew Z x->isNew Z l->l≠x->ai [hp] Z Z'->Z' x=a_ (.inst 142 d (ax (last+1) 0 .none l g' g' (dC nm .none)))->Z' l=a_ (.lst [])->Z' hp=a_ (.inst 225 dh (bN lim (last+1) z))->Q (.ref x) Z'):
 aI KC (aJ KC 2) 2 222 [.ref hp,.str nm 0] Z Q:=by
 intros z hp dh last Z nm Q lim;refine⟨rfl,?_⟩;show au _ _ _ ⟨[("self",.ref hp),("name",.str nm 0)],[]⟩ _ _;refine a9 (aA rfl (af (aX (aa rfl (bZ h rfl rfl (am (aF rfl (qg h λZ1 JQ Ka=>?_))))))));refine af (aa rfl (am (d8 rfl rfl rfl λx d hx=>yW (ad _ _ _) λZ2 l hl JS KX JX=>⟨rfl,?_⟩)));have MZ:hp≠x:=aq hx Ka;have M9:l≠x:=hU hl;refine h1 Z2 x d l (JQ.isNew hx (by exact bT ⟨_,Ka⟩)) (JQ.isNew (eT hl) (by exact bT ⟨_,Ka⟩)) M9 ?_ KX JX ?_
 ·exact(JQ.new hx).trans JS (by
   intro a ha;rcases g_.mp ha with rfl
   exact .inr (JQ.isNew hx (by exact bT ⟨_,Ka⟩)).1)
 ·exact JS.get (ap MZ Ka) (by exact aE MZ)
theorem yZ {k:Int}{r:b_ (Str×Value)}(ht:Z t=a_ (.inst C dt (ax num k bl wk ds fr r)))(hC:bS C "count"=e_)(hr:r.length<20)
 (h1:∀Z',ai [t] Z Z'->Z' t=a_ (.inst C dt (ax num (k+1) bl wk ds fr r))->Q .none Z'):aI KC (aJ KC 0) 2 330 [.ref c,.ref t] Z Q:=by
 have Oj:(ax num k bl wk ds fr r).length<40:=by simp[ax];walk_at "l"
 refine⟨rfl,?_⟩;show au _ _ _ ⟨[("self",.ref c),("thing",.ref t)],[]⟩ _ _;walk_at "r";exact h1 _ ((ai.refl [t] Z).set (.head _)) (ad _ _ _)
theorem qi {k:Int}{r:b_ (Str×Value)}(ht:Z t=a_ (.inst C dt (ax num k bl wk ds fr r)))(hC:bS C "blessed"=e_)(hr:r.length<20)(hv:er v=v)
 (h1:∀Z',ai [t] Z Z'->Z' t=a_ (.inst C dt (ax num k v wk ds fr r))->Q .none Z'):aI KC (aJ KC 0) 2 412 [.ref t,v] Z Q:=by
 have Oj:(ax num k bl wk ds fr r).length<40:=by simp[ax];walk_at "l"
 refine⟨rfl,?_⟩;show au _ _ _ ⟨[("thing",.ref t),("package",er v)],[]⟩ _ _;rw[hv];walk_at "r";exact h1 _ ((ai.refl [t] Z).set (.head _)) (ad _ _ _)
theorem qj {lim:d_}{k:Int}{r:b_ (Str×Value)}{zs:b_ c_}
 (hc:Z c=a_ (.inst 401 dc (dM hp dsA pl em))) (hh:Z hp=a_ (.inst 225 dh (bN lim last z))) (hz:Z z=a_ (.lst zs)) (KZ:zs.length<=100000)
 (ht:Z t=a_ (.inst C dt (ax num k bl wk ds fr r))) (hC:bS C "count"=e_) (hr:r.length<20) (n1:c≠t) (n2:hp≠t) (n3:z≠t)
 (h:∀Z',ai [t,z] Z Z'->Z' t=a_ (.inst C dt (ax num (k-1) bl wk ds fr r))->Z' z=a_ (.lst (if k-1=0 then zs++[.ref t]else zs))->Q .none Z'):
 aI KC (aJ KC 0) 2 337 [.ref c,.ref t] Z Q:=by
 refine yX hc hh hz KZ ht hC hr n1 n2 n3 (λe=>?_) (λe=>?_)
 ·refine h _ ((ai.refl _ Z).set (.head _)) (ad _ _ _) ?_
  rw[p_ e,bA _ _ n3];exact hz
 ·refine h _ (((ai.refl _ Z).set (.head _)).set (by exact .tail _ (.head _))) ?_ ?_
  ·rw[bA _ _ n3.symm,ad]
  ·rw[z_ e,ad]
theorem y0 {lim:d_}{k:Int}{r:b_ (Str×Value)}{zs:b_ c_}
 (hc:Z c=a_ (.inst 401 dc (dM hp dsA pl em))) (hh:Z hp=a_ (.inst 225 dh (bN lim last z))) (hz:Z z=a_ (.lst zs)) (KZ:zs.length<=100000)
 (ht:Z t=a_ (.inst C dt (ax num k bl wk ds fr r))) (hC:bS C "count"=e_)
 (h:∀Z',ai [z] Z Z'->Z' z=a_ (.lst (if k=0 then zs++[.ref t]else zs))->Q .none Z'):
 aI KC (aJ KC 0) 2 344 [.ref c,.ref t] Z Q:=by
 refine⟨rfl,?_⟩;show au _ _ _ ⟨[("self",.ref c),("thing",.ref t)],[]⟩ _ _;refine aO ⟨_,_,rfl,rfl,rfl,av (aa rfl (az ht rfl ⟨_,rfl,cG (λe=>?_) (λe=>?_)⟩))⟩
 ·have e:k=0:=of_decide_eq_true e
  refine bE (aX (av (av (aa rfl (az hc rfl (az hh rfl (dY hz rfl (af (aa rfl (am (bH (eR hz KZ ⟨rfl,?_⟩))))))))))));refine ay (ay (h _ ((ai.refl _ Z).set (.head _)) ?_));rw[z_ e,ad]
 ·have e:k≠0:=DM e
  refine ay (ay (h _ (ai.refl _ Z) ?_));rw[p_ e];exact hz
section
variable{T:a6}
theorem cH {x D:d_}(h:Z x=a_ (.inst C d fl))(hD:(cN.lookup D).isSome=e_)(hC:(cN.lookup C).isSome=e_):iS Z (.ref x) D=a_ (my C D):=by
 unfold iS;rw[z_ hD];dsimp only;rw[h];dsimp only;exact(z_ hC)
theorem y5 {cn:Str}{D:d_}{b:Dm}(h1:bM sc "isinstance" fm Z=a_ (.builtin "isinstance"))(h3:bM sc vn fm Z=a_ v)(h2:bM sc cn fm Z=a_ (.ref D))(hb:iS Z v D=a_ b)(h:Q (.bool b) Z)(hm:cF vn=e_:=by rfl)(hn:cF cn=e_:=by rfl):
 (aw T (n+2)).1 (.Call (.Name "isinstance" p1) [.Name vn p2,.Name cn p3] [] pos) sc fm Z Q:=
 aA h1 (af (aa h3 (af (aa h2 (am (bH ⟨kU,rfl,.inl ⟨_,rfl,b,hb,h⟩⟩)) hn)) hm))
theorem bX {cn:Str}{D:d_}{b:Dm}(h1:bM sc "isinstance" fm Z=a_ (.builtin "isinstance"))(h3:bM sc vn fm Z=a_ v)(h2:bM sc cn fm Z=a_ (.ref D))(hb:iS Z v D=a_ b)(h:Qb b Z)(hm:cF vn=e_:=by rfl)(hn:cF cn=e_:=by rfl):
 (aw T (n+3)).2 (.Call (.Name "isinstance" p1) [.Name vn p2,.Name cn p3] [] pos) sc fm Z Qb:=
 ⟨rfl,y5 (Q:=λv Z=>fA Z v λb=>Qb b Z) h1 h3 h2 hb h hm hn⟩
theorem aV {x:Str}{kk:Fm->ak->Prop}(hk:kindOf sc x=a_ .local)(h:kk ⟨aL x v fm.loc,fm.cel⟩ Z):dv sc x v fm Z kk:=by
 unfold dv;rw[hk];exact h
theorem j3 {es:b_ Expr}(h:jn (aw T n).2 es sc fm Z Qb):(aw T (n+1)).2 (.BoolOp .Or es p) sc fm Z Qb:=h
theorem fG {es:b_ Expr}(h:fQ (aw T n).2 es sc fm Z Qb):(aw T (n+1)).2 (.BoolOp .And es p) sc fm Z Qb:=h
theorem iB {e:Expr}(h:(aw T n).2 e sc fm Z λb Z=>Qb (!b) Z):(aw T (n+1)).2 (.UnaryOp .Not e p) sc fm Z Qb:=⟨rfl,h⟩
theorem nG (h:Qb g' Z):jn Bt [] sc fm Z Qb:=h
theorem fo {e:Expr}{es:b_ Expr}(h:Bt e sc fm Z λb Z=>if b=e_ then Qb e_ Z else jn Bt es sc fm Z Qb):jn Bt (e::es) sc fm Z Qb:=h
theorem dk (h:Qb e_ Z):fQ Bt [] sc fm Z Qb:=h
theorem cI {e:Expr}{es:b_ Expr}(h:Bt e sc fm Z λb Z=>if b=e_ then fQ Bt es sc fm Z Qb else Qb g' Z):fQ Bt (e::es) sc fm Z Qb:=h
theorem nH {t a b:Expr}(h:(aw T n).2 t sc fm Z λc Z=>if c=e_ then(aw T n).1 a sc fm Z Q else(aw T n).1 b sc fm Z Q):(aw T (n+1)).1 (.IfExp t a b p) sc fm Z Q:=h
theorem aU {l r:Expr}{op:CmpOp}(h:(aw T n).1 l sc fm Z λa Z=>(aw T n).1 r sc fm Z λb Z=>ob (dI Z op a b) λc=>Qb c Z)(hm:H5 op r=g':=by rfl):(aw T (n+1)).2 (.Compare l [op] [r] p) sc fm Z Qb:=⟨_,_,rfl,rfl,hm,h⟩
theorem lB {l r:Expr}{op:CmpOp}(h:(aw T n).1 l sc fm Z λa Z=>(aw T n).1 r sc fm Z λb Z=>ob (dI Z op a b) λc=>Q (.bool c) Z)(hm:H5 op r=g':=by rfl):(aw T (n+1)).1 (.Compare l [op] [r] p) sc fm Z Q:=⟨_,_,rfl,rfl,hm,h⟩
theorem bB {l r:Expr}(h:(aw T n).1 l sc fm Z λa Z=>(aw T n).1 r sc fm Z λb Z=>gC Z op a b Q):(aw T (n+1)).1 (.BinOp l op r p) sc fm Z Q:=h
theorem aZ {b:Dm}{X Y:Prop}(e:b=e_)(h:X):if b=e_ then X else Y:=by exact(z_ e).mpr h
theorem aM {b:Dm}{X Y:Prop}(e:b=g')(h:Y):if b=e_ then X else Y:=by rw[p_ (by rw[e];decide)];exact h
end
theorem qk {k:Int}(ht:Z t=a_ (.inst 66 dt (ax num k bl wk ds fr (bG v))))(h:Q .none Z):
 aI KC (aJ KC 0) 1 292 [.ref t] Z Q:=by
 refine⟨rfl,?_⟩;show au _ _ _ ⟨[("thing",.ref t)],[]⟩ _ _;refine a8 (bI (aV rfl ?_));refine aO (bX rfl rfl rfl (cH ht rfl rfl) (aZ rfl ?_));refine a8 (av (aa rfl (az ht rfl (aV rfl (ay ?_)))));refine a9 (nH ?_);exact bX rfl rfl rfl rfl (aM rfl (bI h))
theorem ql {k:Int}(ht:Z t=a_ (.inst 85 dt (ax num k bl wk ds fr (cX its))))(h:Q .none Z):
 aI KC (aJ KC 0) 1 292 [.ref t] Z Q:=by
 refine⟨rfl,?_⟩;show au _ _ _ ⟨[("thing",.ref t)],[]⟩ _ _;refine a8 (bI (aV rfl ?_));refine aO (bX rfl rfl rfl (cH ht rfl rfl) (aM rfl ?_));refine aO (j3 (fo ?_));refine bX rfl rfl rfl (cH ht rfl rfl) (aZ rfl (aZ rfl ?_));refine a8 (av (aa rfl (az ht rfl (aV rfl (ay (ay ?_))))));refine a9 (nH ?_);exact bX rfl rfl rfl rfl (aM rfl (bI h))
theorem y7 {k:Int}(ht:Z t=a_ (.inst 142 dt (ax num k bl wk ds fr (dC nm v))))(h:Q .none Z):
 aI KC (aJ KC 0) 1 292 [.ref t] Z Q:=by
 refine⟨rfl,?_⟩;show au _ _ _ ⟨[("thing",.ref t)],[]⟩ _ _;refine a8 (bI (aV rfl ?_));refine aO (bX rfl rfl rfl (cH ht rfl rfl) (aM rfl ?_));refine aO (j3 (fo ?_));refine bX rfl rfl rfl (cH ht rfl rfl) (aM rfl (fo ?_));refine bX rfl rfl rfl (cH ht rfl rfl) (aM rfl (nG (aM rfl ?_)));refine ay (ay ?_);refine a9 (nH ?_);exact bX rfl rfl rfl rfl (aM rfl (bI h))
section
variable{T:a6}{E:ET}
theorem a7 {x:Str}(h1:kindOf sc x=a_ .cell)(h2:fm.cel.lookup x=a_ c)(h3:Z c=a_ (.cel (a_ v))):bM sc x fm Z=a_ v:=by
 unfold bM;rw[h1];dsimp only;rw[h2];show iP Z c=_;unfold iP;exact h3▸rfl
theorem bR {x:Str}(h1:kindOf sc x=a_ .free)(h2:fm.cel.lookup x=a_ c)(h3:Z c=a_ (.cel (a_ v))):bM sc x fm Z=a_ v:=by
 unfold bM;rw[h1];dsimp only;rw[h2];show iP Z c=_;unfold iP;exact h3▸rfl
theorem fH {x:Str}{u:m_ c_}{kk:Fm->ak->Prop}(hk:kindOf sc x=a_ .cell)(hc:fm.cel.lookup x=a_ c)(hu:Z c=a_ (.cel u))(h:kk fm (Z.set c (.cel (a_ v)))):dv sc x v fm Z kk:=by
 unfold dv;rw[hk];exact⟨c,hc,u,hu,h⟩
theorem lE {b:d_}(h1:Z a=a_ (.lst xs))(h2:Z b=a_ (.lst ys))(hz:xs.length+ys.length<=100000)(h:∀l,isNew Z l->Q (.ref l) (Z.set l (.lst (xs++ys)))):gC Z .Add (.ref a) (.ref b) Q:=by
 exact⟨a,b,xs,ys,rfl,rfl,h1,h2,rfl,hz,h⟩
theorem dD {x:Str}{cl:b_ (Str×Addr)}(hc:iW cs fm=a_ cl)(h:(aw T n).1 it sc fm Z λv Z=>iv (aw T n).1 (aw T n).2 elt x KU cs cl v Z Q)(hp:dL it=e_:=by rfl)(hk:jW cs=e_:=by rfl)(hq:T 28=h_:=by rfl):
 (aw T (n+1)).1 (.ListComp elt [⟨.Name x p1,it,KU,0⟩] cs p2) sc fm Z Q:=⟨_,_,_,_,rfl,hq,hp,hk,cl,hc,h⟩
theorem ew {x:Str}(f:c_->Dm)(g:c_->c_)(hx:fj Z v=a_ xs)(hz:xs.length<=100000)(hn:eN cs.names=[])(hk:kindOf cs x=a_ .local)
 (ht:∀y∈xs,∀Qb:gB,Qb (f y) Z->fQ Bt KU cs ⟨[(x,y)],cl⟩ Z Qb) (he:∀y∈xs,f y=e_->∀Q:bC,Q (g y) Z->E elt cs ⟨[(x,y)],cl⟩ Z Q)
 (h:∀l,isNew Z l->Q (.ref l) (Z.set l (.lst ((xs.filter f).map g)))):iv E Bt elt x KU cs cl v Z Q:=by
 intros Z xs v elt cs cl KU Q Bt E x f g;refine⟨xs,hx,hz,?_⟩;rw[hn];refine⟨λi JP Z'=>Z'=Z/\JP=((xs.take i).filter f).map g,⟨rfl,rfl⟩,?_,?_,?_⟩
 ·rintro i JP Z' ⟨rfl,rfl⟩
  refine⟨rfl,?_⟩;rw[b'];exact o_ (DE _ _) (by rw[EI];exact Nat.min_le_left _ _)
 ·rintro i y JP Z' hy ⟨rfl,rfl⟩
  have hm:y∈xs:=B_ hy;refine aV hk (ht y hm _ ?_);have e:xs.take (i+1)=xs.take i++[y]:=by rw[Fr,hy];rfl
  by_cases q:f y=e_
  ·refine aZ q (he y hm q _ ⟨rfl,?_⟩)
   rw[e,Em,r_];simp[q]
  ·refine aM (by simpa using q) ⟨rfl,?_⟩
   rw[e,Em,r_];simp[q]
 ·rintro JP Z' ⟨rfl,rfl⟩ l hl
  rw[Dy];exact h l hl
theorem cY (h:Z a=a_ (.lst xs)):fj Z (.ref a)=a_ xs:=by unfold fj;dsimp only;rw[h];rfl
end
noncomputable def fp (v:c_):Dm:= !(v== .none)
theorem tD {k:Int}(ht:Z t=a_ (.inst 85 dt (ax num k bl wk ds fr (cX its))))(hi:Z its=a_ (.lst xs))(hz:xs.length<=1000)(hx:∀v∈xs,fp v=e_)
 (h:∀Z' l,isNew Z l->ai [] Z Z'->Z' l=a_ (.lst xs)->Q (.ref l) Z'):aI KC (aJ KC 1) 1 297 [.ref t] Z Q:=by
 intros wk t dt its num fr ds Z xs bl Q k;refine⟨rfl,?_⟩;show∀c,isNew Z c->au _ _ _ ⟨[],[("thing",c)]⟩ (Z.set c (.cel (a_ (.ref t)))) _;intro c hc;intros c;have J7:=ao (o':=.cel (a_ (.ref t))) hc ht;have Q6:=ao (o':=.cel (a_ (.ref t))) hc hi;have JY:(Z.set c (.cel (a_ (.ref t)))) c=a_ (.cel (a_ (.ref t))):=ad _ _ _;have JQ:ai [] Z (Z.set c (.cel (a_ (.ref t)))):=(ai.refl [] Z).new hc;generalize Z.set c _=Z1 at J7 Q6 JY JQ;refine aO (bX rfl (a7 rfl rfl JY) rfl (cH J7 rfl rfl) (aZ rfl ?_));refine a8 (av (aa (a7 rfl rfl JY) (az J7 rfl (aV rfl (ay ?_)))));refine a9 (dD rfl (bB (aa rfl (fe (af (aA rfl (af (aa (a7 rfl rfl JY) (am (aF rfl (ql J7 (am ⟨by decide,λl1 du=>?_⟩))))))))))));intros l1;have NJ:=ao (o':=.lst [DU]) du Q6;have JS:=JQ.new (o:=.lst [DU]) du;refine lE NJ (ad _ _ _) (by simp;walk_at "o") λl2 JX=>?_;have JZ:=JS.new (o:=.lst (xs++[DU])) JX;refine ew fp (λv=>v) (cY (ad _ _ _)) (by simp;walk_at "o") rfl rfl (λy hy Qb hq=>?_) (λy hy hf Q hq=>aa rfl hq) λl hl=>?_
 ·exact cI (aU (aa rfl (bI ⟨_,rfl,by
   show if fp y=e_ then _ else _;cases e:fp y with
   |true=>exact aZ rfl (dk (e▸hq))
   |false=>exact aM rfl (e▸hq)⟩)))
 ·have e:((xs++[DU]).filter fp).map (λv=>v)=xs:=by
   rw[Em,DG.mpr hx];simp[fp]
  rw[e];exact h _ l (JZ.isNew hl (by exact aW)) (JZ.new hl) (ad _ _ _)
theorem nJ {k:Int}(ht:Z t=a_ (.inst 66 dt (ax num k bl wk ds fr (bG v))))
 (h:∀Z' l,isNew Z l->ai [] Z Z'->Z' l=a_ (.lst [])->Q (.ref l) Z'):aI KC (aJ KC 1) 1 297 [.ref t] Z Q:=by
 intros wk t dt num fr ds Z v bl Q k;refine⟨rfl,?_⟩;show∀c,isNew Z c->au _ _ _ ⟨[],[("thing",c)]⟩ (Z.set c (.cel (a_ (.ref t)))) _;intro c hc;intros c;have J7:=ao (o':=.cel (a_ (.ref t))) hc ht;have JY:(Z.set c (.cel (a_ (.ref t)))) c=a_ (.cel (a_ (.ref t))):=ad _ _ _;have JQ:ai [] Z (Z.set c (.cel (a_ (.ref t)))):=(ai.refl [] Z).new hc;generalize Z.set c _=Z1 at J7 JY JQ;refine aO (bX rfl (a7 rfl rfl JY) rfl (cH J7 rfl rfl) (aM rfl ?_));refine aO (bX rfl (a7 rfl rfl JY) rfl (cH J7 rfl rfl) (aM rfl ?_));refine aO (bX rfl (a7 rfl rfl JY) rfl (cH J7 rfl rfl) (aM rfl ?_));refine aO (bX rfl (a7 rfl rfl JY) rfl (cH J7 rfl rfl) (aM rfl ?_));refine a8 (eU λl0 M6=>aV rfl (ay (ay (ay (ay ?_)))));intros l0;have Kh:=ao (o':=.lst []) M6 J7;have J0:=ao (o':=.lst []) M6 JY;have NJ:(Z1.set l0 (.lst [])) l0=a_ (.lst []):=ad _ _ _;have JS:=JQ.new (o:=.lst []) M6;generalize Z1.set l0 _=Z2 at Kh J0 NJ JS;refine a9 (dD rfl (bB (aa rfl (fe (af (aA rfl (af (aa (a7 rfl rfl J0) (am (aF rfl (qk Kh (am ⟨by decide,λl1 du=>?_⟩))))))))))));have V5:=ao (o':=.lst [DU]) du NJ;have JZ:=JS.new (o:=.lst [DU]) du;refine lE V5 (ad _ _ _) (by simp) λl2 JX=>?_;have J1:=JZ.new (o:=.lst ([]++[DU])) JX;refine ew fp (λv=>v) (cY (ad _ _ _)) (by simp) rfl rfl (λy hy Qb hq=>?_) (λy hy hf Q hq=>aa rfl hq) λl hl=>?_
 ·exact cI (aU (aa rfl (bI ⟨_,rfl,by
   show if fp y=e_ then _ else _;cases e:fp y with
   |true=>exact aZ rfl (dk (e▸hq))
   |false=>exact aM rfl (e▸hq)⟩)))
 ·exact h _ l (J1.isNew hl (by exact aW)) (J1.new hl) (ad _ _ _)
theorem y8 {k:Int}(ht:Z t=a_ (.inst 142 dt (ax num k bl wk ds fr (dC nm v))))(hv:ej v=e_)
 (h:∀Z' l,isNew Z l->ai [] Z Z'->Z' l=a_ (.lst ([v].filter fp))->Q (.ref l) Z'):aI KC (aJ KC 1) 1 297 [.ref t] Z Q:=by
 intros wk t dt num fr ds Z v bl nm Q k;refine⟨rfl,?_⟩;show∀c,isNew Z c->au _ _ _ ⟨[],[("thing",c)]⟩ (Z.set c (.cel (a_ (.ref t)))) _;intro c hc;intros c;have J7:=ao (o':=.cel (a_ (.ref t))) hc ht;have JY:(Z.set c (.cel (a_ (.ref t)))) c=a_ (.cel (a_ (.ref t))):=ad _ _ _;have JQ:ai [] Z (Z.set c (.cel (a_ (.ref t)))):=(ai.refl [] Z).new hc;generalize Z.set c _=Z1 at J7 JY JQ;refine aO (bX rfl (a7 rfl rfl JY) rfl (cH J7 rfl rfl) (aM rfl ?_));refine aO (bX rfl (a7 rfl rfl JY) rfl (cH J7 rfl rfl) (aM rfl ?_));refine aO (bX rfl (a7 rfl rfl JY) rfl (cH J7 rfl rfl) (aM rfl ?_));refine aO (bX rfl (a7 rfl rfl JY) rfl (cH J7 rfl rfl) (aZ rfl ?_));refine a8 (fe (af (av (aa (a7 rfl rfl JY) (az J7 rfl ?_)))));refine af (av (aa (a7 rfl rfl JY) (az J7 rfl ?_)));refine af (av (aa (a7 rfl rfl JY) (az J7 rfl ?_)));refine af (av (aa (a7 rfl rfl JY) (az J7 rfl ?_)));refine am ⟨by show(4:Nat)<=1000;decide,λl0 M6=>aV rfl (ay (ay (ay (ay ?_))))⟩;intros l0;have Kh:=ao (o':=.lst [v,.none,.none,.none]) M6 J7;have J0:=ao (o':=.lst [v,.none,.none,.none]) M6 JY;have NJ:(Z1.set l0 (.lst [v,.none,.none,.none])) l0=a_ (.lst [v,.none,.none,.none]):=ad _ _ _;have JS:=JQ.new (o:=.lst [v,.none,.none,.none]) M6;generalize Z1.set l0 _=Z2 at Kh J0 NJ JS;refine a9 (dD rfl (bB (aa rfl (fe (af (aA rfl (af (aa (a7 rfl rfl J0) (am (aF rfl (y7 Kh (am ⟨by decide,λl1 du=>?_⟩))))))))))));intros l1;have V5:=ao (o':=.lst [DU]) du NJ;have JZ:=JS.new (o:=.lst [DU]) du;refine lE V5 (ad _ _ _) (by simp) λl2 JX=>?_;intros l2;have J1:=JZ.new (o:=.lst ([v,.none,.none,.none]++[DU])) JX;refine ew fp (λv=>v) (cY (ad _ _ _)) (by simp) rfl rfl (λy hy Qb hq=>?_) (λy hy hf Q hq=>aa rfl hq) λl hl=>?_
 ·exact cI (aU (aa rfl (bI ⟨_,rfl,by
   show if fp y=e_ then _ else _;cases e:fp y with
   |true=>exact aZ rfl (dk (e▸hq))
   |false=>exact aM rfl (e▸hq)⟩)))
 ·intros l
  refine h _ l (J1.isNew hl (by exact aW)) (J1.new hl) ?_;rw[ad,Jm];cases v<;>rfl
theorem tE {k:Int}(ht:Z t=a_ (.inst 66 dt (ax num k bl wk ds fr (bG v))))(h:Q .none Z):aI KC (aJ KC 1) 1 304 [.ref t] Z Q:=by
 intros wk t dt num fr ds Z v bl Q k;refine⟨rfl,?_⟩;show au _ _ _ ⟨[("thing",.ref t)],[]⟩ _ _;refine aO (fG (cI (aU (aA rfl (af (aa rfl (am (aF rfl (qk ht (bI ⟨_,rfl,aM rfl (aM rfl ?_)⟩))))))))));refine aO (aU (aA rfl (af (aa rfl (am (aF rfl (qk ht (bI ⟨_,rfl,aM rfl (ay (ay ?_))⟩))))))));refine aO (bX rfl rfl rfl (cH ht rfl rfl) (aM rfl ?_));refine aO (bX rfl rfl rfl (cH ht rfl rfl) (aM rfl ?_));refine aO (bX rfl rfl rfl (cH ht rfl rfl) (aM rfl ?_));refine aO (bX rfl rfl rfl (cH ht rfl rfl) (aM rfl ?_));exact ay (ay (ay (ay (ay h))))
theorem y9 {k:Int}(ht:Z t=a_ (.inst 85 dt (ax num k bl wk ds fr (cX its))))
 (h:∀Z' Kj,isNew Z Kj->ai [t] Z Z'->Z' t=a_ (.inst 85 dt (ax num k bl wk ds fr (cX Kj)))->Z' Kj=a_ (.lst [])->Q .none Z'):aI KC (aJ KC 1) 1 304 [.ref t] Z Q:=by
 intros wk t dt its num fr ds Z bl Q k;refine⟨rfl,?_⟩;show au _ _ _ ⟨[("thing",.ref t)],[]⟩ _ _;refine aO (fG (cI (aU (aA rfl (af (aa rfl (am (aF rfl (ql ht (bI ⟨_,rfl,aM rfl (aM rfl ?_)⟩))))))))));refine aO (aU (aA rfl (af (aa rfl (am (aF rfl (ql ht (bI ⟨_,rfl,aM rfl (ay (ay ?_))⟩))))))));refine aO (bX rfl rfl rfl (cH ht rfl rfl) (aZ rfl ?_));refine cC (eU λl hl=>aa rfl (cW (ao hl ht) (ay (ay ?_))));have Nv:=(aq hl ht).symm;refine h _ l hl (((ai.refl _ Z).new hl).set (.head _)) (ad _ _ _) ?_;rw[bA _ _ Nv,ad]
section
variable{T:a6}{E:ET}
theorem gJ {e:Expr}{a:Str}(h:(aw T n).1 (.Attribute e a p) sc fm Z λv Z=>fA Z v λb=>Qb b Z):(aw T (n+1)).2 (.Attribute e a p) sc fm Z Qb:=⟨rfl,h⟩
theorem za {a:Str}(h:(aw T n).1 (.Name a p) sc fm Z λv Z=>fA Z v λb=>Qb b Z):(aw T (n+1)).2 (.Name a p) sc fm Z Qb:=⟨rfl,h⟩
theorem eV {x:Str}{b:b_ Gf}(h:(aw T k).1 it sc fm Z λv Z=>iw (aT T k n) x v b sc fm Z λfl fm Z=>match fl with |.next=>au (aT T k (n+1)) r sc fm Z Qs|f=>Qs f fm Z)(hp:dL it=e_:=by rfl)(hq:T 28=h_:=by rfl):
 au (aT T k (n+1)) (.For (.Name x p1) it b [] pos::r) sc fm Z Qs:=⟨_,_,rfl,rfl,hq,hp,h⟩
theorem lF {S:ST}{x:Str}{b:b_ Gf}(hx:fj Z v=a_ [])(h:Qs .next fm Z):iw S x v b sc fm Z Qs:=
 ⟨[],hx,Hg _,λi JN Z'=>JN=fm/\Z'=Z,⟨rfl,rfl⟩,λi JN Z' h=>by exact h.2▸rfl,λi y JN Z' hy=>by simp at hy,λJN Z' hh=>by rw[hh.1,hh.2];exact h⟩
theorem gp {S:ST}{x:Str}{b:b_ Gf}(hx:fj Z v=a_ xs)(hz:xs.length<=100000)(hk:kindOf sc x=a_ .local)(I:Nat->Fm->ak->Prop)(h0:I 0 fm Z)(hs:∀i JN Z',I i JN Z'->gE Z' v=gE Z v)
 (hb:∀i y JN Z',xs[i]? =a_ y->I i JN Z'->∀Qz:cT,(∀fl fm Z,la Qs (I (i+1)) fl fm Z->Qz fl fm Z)->au S b sc ⟨aL x y JN.loc,JN.cel⟩ Z' Qz) (he:∀JN Z',I xs.length JN Z'->Qs .next JN Z'):iw S x v b sc fm Z Qs:=
 ⟨xs,hx,hz,I,h0,hs,λi y JN Z' hy hI=>aV hk (hb i y JN Z' hy hI _ λU U U h=>h),he⟩
theorem fq {b:Dm}{kk:Dm->Prop}(h:kk b):fA Z (.bool b) kk:=h
theorem CZ {o e:Expr}{a:Str}:True:=trivial
theorem tF {kk:c_->Prop}(h:kk (.int (i+j) 0)):jo .Add (.int i 0) (.int j 0) kk:=h
theorem zb {kk:c_->Prop}(h:kk (.int (i-j) 0)):jo .Sub (.int i 0) (.int j 0) kk:=h
end
theorem qo {β:Type}{l:b_ (Addr×β)}(h:(l.all λp=>decide (p.1<850))=e_)(ha:850<=a):l.lookup a=h_:=by
 rw[DC];intro p hp;have:=l_.mp h p hp;rw[Ei]at this;exact FA.mpr (λe=>absurd (e▸ha) (Nat.not_le.mpr this))
theorem zc {K:GC}(ha:850<=a):aJ K k a=h_:=by
 cases k with
 |zero=>rfl
 |succ k=>
  unfold aJ;rw[qo (by decide+kernel) ha]
theorem zd (ha:850<=a):jT a=h_:=by
 unfold jT;rw[qo (by decide+kernel) ha];rfl
theorem tG {K:GC}{x self:d_}(ha:850<=x)(hb:Z x=a_ (.bm "list.append" self))(h:ek "list.append" [.ref self,v] Z Q):c9 (aJ K k) (.ref x) [v] Z Q:=by
 intros k Z v Q K x self;unfold c9;dsimp only;rw[zc ha];dsimp only;rw[zd ha];dsimp only;rw[qo (by decide+kernel) ha];exact⟨self,v,hb,rfl,h⟩
noncomputable def gq (t:d_):b_ (Str×Value):=[("target",.ref t),("is_weak",.bool g')]
theorem ze (h:Q .none Z):aI KC (aJ KC 1) 2 351 [.ref c,.none] Z Q:=by
 refine⟨rfl,?_⟩;show au _ _ _ ⟨[("self",.ref c),("value",.none)],[]⟩ _ _;refine aO (iB (bX rfl rfl rfl rfl (aZ rfl ?_)));exact a9 (aa rfl h)
theorem tH {cd:d_}{Zbg:b_ (Str×Value)}{k:Int}{r:b_ (Str×Value)}(hc:Z c=a_ (.inst 401 cd Zbg))(UY:Zbg.lookup ("hold":Str)=h_)(KV:Z rf=a_ (.inst 162 rd (gq t)))
 (ht:Z t=a_ (.inst C dt (ax num k bl wk ds fr r))) (hC:bS C "count"=e_) (hr:r.length<20) (n1:rf≠t)
 (h:∀Z',ai [t] Z Z'->Z' t=a_ (.inst C dt (ax num (k+1) bl wk ds fr r))->Q (.ref rf) Z'):aI KC (aJ KC 1) 2 351 [.ref c,.ref rf] Z Q:=by
 refine⟨rfl,?_⟩;show au _ _ _ ⟨[("self",.ref c),("value",.ref rf)],[]⟩ _ _;refine aO (iB (bX rfl rfl rfl (cH KV rfl rfl) (aM rfl (ay ?_))));refine bE (aX (aa rfl (bZ hc rfl UY (af (av (aa rfl (az KV rfl (am (aF rfl (yZ ht hC hr λZ' hF Qa=>⟨rfl,?_⟩))))))))));have XA:Z' rf=a_ (.inst 162 rd (gq t)):=hF.get KV (by exact aE n1);refine aO (gJ (av (aa rfl (az XA rfl (fq (aM rfl (ay ?_)))))));exact a9 (aa rfl (h Z' hF Qa))
theorem tI {s:d_}(h:∀Z',ai [] Z Z'->Q .none Z'):aI KC (aJ KC 1) 3 356 [.ref c,.ref s,.none] Z Q:=by
 refine⟨rfl,?_⟩;show∀cc,isNew Z cc->au _ _ _ ⟨[("self",.ref c),("value",.none)],[("scalar",cc)]⟩ (Z.set cc (.cel (a_ (.ref s)))) _;intro cc QV;refine aO (iB (bX rfl rfl rfl rfl (aZ rfl ?_)));exact nE (h _ ((ai.refl _ Z).new QV))
theorem zf {s lim:d_}{k:Int}{r:b_ (Str×Value)}{zs:b_ c_}
 (hc:Z c=a_ (.inst 401 dc (dM hp dsA pl em))) (hh:Z hp=a_ (.inst 225 dh (bN lim last z))) (hz:Z z=a_ (.lst zs)) (KZ:zs.length<=100000) (KV:Z rf=a_ (.inst 162 rd (gq t)))
 (ht:Z t=a_ (.inst C dt (ax num k bl wk ds fr r))) (hC:bS C "count"=e_) (hr:r.length<20) (n1:c≠t) (n2:hp≠t) (n3:z≠t)
 (h:∀Z',ai [t,z] Z Z'->Z' t=a_ (.inst C dt (ax num (k-1) bl wk ds fr r))->Z' z=a_ (.lst (if k-1=0 then zs++[.ref t]else zs))->Q .none Z'):
 aI KC (aJ KC 1) 3 356 [.ref c,.ref s,.ref rf] Z Q:=by
 refine⟨rfl,?_⟩;show∀cc,isNew Z cc->au _ _ _ ⟨[("self",.ref c),("value",.ref rf)],[("scalar",cc)]⟩ (Z.set cc (.cel (a_ (.ref s)))) _;intro cc QV;have JQ:ai [] Z (Z.set cc (.cel (a_ (.ref s)))):=(ai.refl [] Z).new QV;have g:∀ {a o},Z a=a_ o->(Z.set cc (.cel (a_ (.ref s)))) a=a_ o:=λe=>ao QV e;have JY:=g hc;have Ka:=g hh;have Lm:=g hz;have Mm:=g KV;have J7:=g ht;generalize Z.set cc _=Z1 at JQ JY Ka Lm Mm J7;refine aO (iB (bX rfl rfl rfl (cH Mm rfl rfl) (aM rfl (ay ?_))));refine aO (gJ (av (aa rfl (az Mm rfl (fq (aM rfl ?_))))));refine bE (aX (aa rfl (bZ JY rfl rfl (af (av (aa rfl (az Mm rfl (am (aF rfl (qj JY Ka Lm KZ J7 hC hr n1 n2 n3 λZ' hF a1 a2=>⟨rfl,?_⟩))))))))));exact ay (ay (h Z' (λb o nb e=>hF b o nb (JQ b o aj e)) a1 a2))
theorem tJ {c hp dsA pl em:d_}{dc:d_}{k:Int}{r:b_ (Str×Value)}
 (ht:Z t=a_ (.inst C dt (ax num k bl wk ds fr r))) (hC:bS C "count"=e_) (hC2:bS C "blessed"=e_) (YS:bS C "is_destroyed"=e_) (hbl:ej bl=e_)
 (hs:k≠0\/bl=.none\/ds=e_) (h:Q .none Z):aI KC (aJ KC 1) 2 391 [.ref c,.ref t] Z Q:=by
 intros C wk t dt num fr ds Z bl Q c k r;refine⟨rfl,?_⟩;show au _ _ _ ⟨[("self",.ref c),("thing",.ref t)],[]⟩ _ _;refine aO (j3 (fo (aU (av (aa rfl (az ht rfl (aK ⟨_,rfl,cG (λe=>aZ rfl (nE h)) (λe=>?_)⟩)))))));have e0:¬k≠0:=by simpa using e
 refine fo (aU (av (aa rfl (az ht rfl (bI ⟨bl== .none,rfl,cG (λe=>aZ rfl (nE h)) (λe=>?_)⟩)))));have e1:bl≠ .none:=by simpa using e
 refine fo (gJ (av (aa rfl (az ht rfl (fq (aZ ?_ (aZ rfl (nE h))))))));rcases hs with hs|hs|hs
 ·exact absurd hs e0
 ·exact absurd hs e1
 ·exact hs
theorem zg {sent:d_}{r:b_ (Str×Value)}{ss:b_ c_}
 (hc:Z c=a_ (.inst 401 dc (dM hp dsA pl em))) (hd:Z dsA=a_ (.bm "list.append" sent)) (KT:Z sent=a_ (.lst ss)) (OH:ss.length<=1000)
 (ht:Z t=a_ (.inst C dt (ax num 0 bl wk g' fr r))) (hC:bS C "count"=e_) (hC2:bS C "blessed"=e_) (YS:bS C "is_destroyed"=e_) (hbl:ej bl=e_) (hb:bl≠ .none) (hr:r.length<20) (h850:850<=dsA) (n1:c≠t) (n2:dsA≠t) (n3:sent≠t)
 (h:∀Z',ai [t,sent] Z Z'->Z' t=a_ (.inst C dt (ax num 0 bl wk e_ fr r))->Z' sent=a_ (.lst (ss++[.ref t]))->Q .none Z'):aI KC (aJ KC 1) 2 391 [.ref c,.ref t] Z Q:=by
 intros C wk c hp t dt dsA pl em dc num fr Z bl Q sent r ss;have Q1:(bl==DU)=g':=r'.mpr hb;have hl:∀k ds,(ax num k bl wk ds fr r).length<40:=λk ds=>by simp[ax];walk_at "l"
 refine⟨rfl,?_⟩;show au _ _ _ ⟨[("self",.ref c),("thing",.ref t)],[]⟩ _ _;refine aO (j3 (fo (aU (av (aa rfl (az ht rfl (aK ⟨g',rfl,aM rfl ?_⟩)))))));refine fo (aU (av (aa rfl (az ht rfl (bI ⟨bl== .none,rfl,aM Q1 ?_⟩)))));refine fo (gJ (av (aa rfl (az ht rfl (fq (aM rfl ?_))))));refine fo (aU (av (aa rfl (az hc rfl (bI ⟨g',rfl,aM rfl (nG (aM rfl (ay ?_)))⟩)))));refine cC (lA (aa rfl (cW ht ?_ YS (hl _ _))));refine qb (aa rfl (qc (ad _ _ _) rfl (aK (tF (qa ?_ hC (hl 0 e_)))) hC));refine bE (aX (aa rfl (tB (ap n1 hc) rfl rfl (af (aa rfl (am ?_))))));have Pb:(Z.set t (.inst C dt (ax num (0+1) bl wk e_ fr r))) dsA=a_ (.bm "list.append" sent):=ap n2 hd;have KW:(Z.set t (.inst C dt (ax num (0+1) bl wk e_ fr r))) sent=a_ (.lst ss):=ap n3 KT;refine tG h850 Pb (eR KW (by walk_at "o") ⟨rfl,?_⟩);have Kh:((Z.set t (.inst C dt (ax num (0+1) bl wk e_ fr r))).set sent (.lst (ss++[.ref t]))) t=a_ (.inst C dt (ax num (0+1) bl wk e_ fr r)):=ap (Ex n3) (ad _ _ _);refine qb (aa rfl (qc Kh rfl (aK (zb (cW Kh ?_ hC (hl _ _)))) hC));refine ay (h _ ?_ (ad _ _ _) ?_)
 ·exact(((ai.refl _ Z).set (.head _)).set (by exact .tail _ (.head _))).set (.head _)
 ·exact ap n3 (ad _ _ _)
theorem j4 {k:Int}{d:c_}(h:Z a=a_ (.dic [] n))(hq:Q d Z):ek "dict.pop" [.ref a,.int k 0,d] Z Q:=by
 exact⟨oW,rfl,_,lz h,rfl,rfl,hq⟩
theorem ai.more {W V:b_ d_}(h:ai W Z Z')(s:∀a∈W,a∈V):ai V Z Z':=λb o n e=>h b o (λq=>n (s b q)) e
theorem zh {lim x Xe:d_}{dx:d_}{QH kx:Int}{W2:c_}{XG Rv:Dm}{rx:b_ (Str×Value)}{zs:b_ c_}
 (hc:Z c=a_ (.inst 401 dc (dM hp dsA pl em))) (hh:Z hp=a_ (.inst 225 dh (bN lim last z))) (hz:Z z=a_ (.lst zs)) (KZ:zs.length<=100000) (hpl:Z pl=a_ (.dic [] np)) (hem:Z em=a_ (.dic [] ne))
 (hw:Z wk=a_ (.lst [])) (ht:Z t=a_ (.inst 66 dt (ax num 0 bl wk ds g' (bG (.ref rf))))) (KV:Z rf=a_ (.inst 162 rd (gq x))) (hx:Z x=a_ (.inst 85 dx (ax QH kx W2 Xe XG Rv rx))) (hr:rx.length<20)
 (n1:c≠t) (n2:hp≠t) (n3:z≠t) (n4:x≠t) (n5:rf≠t) (m1:c≠x) (m2:hp≠x) (m3:z≠x) (w1:pl≠t) (w2:em≠t) (w3:wk≠t)
 (h:∀Z' KE,ai [t,x,z] Z Z'->isNew Z KE->Z' KE=a_ (.lst [])->Z' t=a_ (.inst 66 dt (ax num 0 bl KE ds e_ (bG .none)))->Z' x=a_ (.inst 85 dx (ax QH (kx-1) W2 Xe XG Rv rx))->Z' z=a_ (.lst (if kx-1=0 then zs++[.ref x]else zs))->Q .none Z'):
 aI KC (aJ KC 2) 2 398 [.ref c,.ref t] Z Q:=by
 intros z wk c hp t dt dh dsA pl em dc rd rf num last np ne ds Z bl Q lim x Xe dx QH kx W2 XG Rv rx zs;refine⟨rfl,?_⟩;show au _ _ _ ⟨[("self",.ref c),("thing",.ref t)],[]⟩ _ _;refine cC (lA (aa rfl (cW ht ?_)));have J7:(Z.set t (.inst 66 dt (ax num 0 bl wk ds e_ (bG (.ref rf))))) t=a_ (.inst 66 dt (ax num 0 bl wk ds e_ (bG (.ref rf)))):=ad _ _ _;have JQ:ai [t,x,z] Z (Z.set t (.inst 66 dt (ax num 0 bl wk ds e_ (bG (.ref rf))))):=(ai.refl _ Z).set (.head _);have g1:∀ {a o},a≠t->Z a=a_ o->(Z.set t (.inst 66 dt (ax num 0 bl wk ds e_ (bG (.ref rf))))) a=a_ o:=λn e=>ap n e;have JY:=g1 n1 hc;have Ka:=g1 n2 hh;have Lm:=g1 n3 hz;have ND:=g1 w1 hpl;have NB:=g1 w2 hem;have SU:=g1 w3 hw;have Mm:=g1 n5 KV;have KS:=g1 n4 hx;show au _ _ _ _ (Z.set t (.inst 66 dt (ax num 0 bl wk ds e_ (bG (.ref rf))))) _;have WB:∀ {l},isNew (Z.set t (.inst 66 dt (ax num 0 bl wk ds e_ (bG (.ref rf))))) l->isNew Z l:=λh=>eT h;generalize Z.set t _=Z1 at *;refine eV (av (aa rfl (az J7 rfl (lF (cY SU) ?_))));refine cC (eU λl hl=>aa rfl (cW (ao hl J7) ?_));intros l;have Nv:l≠t:=(aq hl J7).symm;have g2:∀ {a o},a≠t->Z1 a=a_ o->((Z1.set l (.lst [])).set t (.inst 66 dt (ax num 0 bl l ds e_ (bG (.ref rf))))) a=a_ o:=λn e=>ap n (ao hl e);have Kh:((Z1.set l (.lst [])).set t (.inst 66 dt (ax num 0 bl l ds e_ (bG (.ref rf))))) t=a_ (.inst 66 dt (ax num 0 bl l ds e_ (bG (.ref rf)))):=ad _ _ _;have JX:((Z1.set l (.lst [])).set t (.inst 66 dt (ax num 0 bl l ds e_ (bG (.ref rf))))) l=a_ (.lst []):=ap Nv (ad _ _ _);have JS:ai [t,x,z] Z ((Z1.set l (.lst [])).set t (.inst 66 dt (ax num 0 bl l ds e_ (bG (.ref rf))))):=(JQ.new hl).set (.head _);have nl:=WB hl;have J0:=g2 n1 JY;have MU:=g2 n2 Ka;have Lk:=g2 n3 Lm;have Md:=g2 w1 ND;have Mi:=g2 w2 NB;have TJ:=g2 n5 Mm;have KX:=g2 n4 KS;show au _ _ _ _ ((Z1.set l (.lst [])).set t (.inst 66 dt (ax num 0 bl l ds e_ (bG (.ref rf))))) _;generalize (Z1.set l _).set t _=Z2 at *;clear JY Ka Lm ND NB SU Mm KS J7 g1 g2;refine aO (bX rfl rfl rfl (cH Kh rfl rfl) (aZ rfl ?_));refine bE (aX (av (aa rfl (az J0 rfl (i7 Md rfl (af (av (aa rfl (az Kh rfl (af (bI (am (bH (j4 Md ⟨rfl,?_⟩))))))))))))));refine bE (aX (av (aa rfl (az J0 rfl (i7 Mi rfl (af (av (aa rfl (az Kh rfl (af (bI (am (bH (j4 Mi ⟨rfl,?_⟩))))))))))))));refine a8 (av (aa rfl (az Kh rfl (aV rfl ?_))));refine cC (bI (aa rfl (cW Kh ?_)));have g3:∀ {a o},a≠t->Z2 a=a_ o->(Z2.set t (.inst 66 dt (ax num 0 bl l ds e_ (bG .none)))) a=a_ o:=λn e=>ap n e;have Q':(Z2.set t (.inst 66 dt (ax num 0 bl l ds e_ (bG .none)))) t=a_ (.inst 66 dt (ax num 0 bl l ds e_ (bG .none))):=ad _ _ _;have JZ:ai [t,x,z] Z (Z2.set t (.inst 66 dt (ax num 0 bl l ds e_ (bG .none)))):=JS.set (.head _);have K3:=g3 Nv JX;have Kb:=g3 n1 J0;have hh3:=g3 n2 MU;have O7:=g3 n3 Lk;have YH:=g3 n5 TJ;have PU:=g3 n4 KX;show au _ _ _ _ (Z2.set t (.inst 66 dt (ax num 0 bl l ds e_ (bG .none)))) _;generalize Z2.set t _=Z3 at *;clear g3 J0 MU Lk Md Mi TJ KX Kh;refine bE (aX (aa rfl (bZ Kb rfl rfl (af (aa rfl (af (aa rfl (am (aF rfl (zf Kb hh3 O7 KZ YH PU (by decide+kernel) hr m1 m2 m3 λZ4 J1 VZ X6=>⟨rfl,?_⟩))))))))));intros Z4;have UW:z≠l:=aq nl hz;have nxl:x≠l:=aq nl hx;have Oi:=J1.get Q' (by exact cJ n4.symm n3.symm);have Pl:=J1.get K3 (by exact cJ nxl.symm UW.symm);have Kq:=J1.get Kb (by simp[m1];rintro rfl;rw[O7]at Kb;cases Kb);have Nk:ai [t,x,z] Z Z4:=JZ.trans J1 (by intro a ha;left;simp at ha⊢;exact .inr ha);refine ay ?_;refine a8 (aA rfl (af (aa rfl (am (aF rfl (nJ Oi λZ5 g hg Ke WP=>aV rfl ?_))))));have Ue:=Ke.get Oi aj;refine bE (aA rfl (af (aa rfl (am (aF rfl (tE Ue ⟨rfl,?_⟩))))));refine eV (aa rfl (lF (cY WP) (ay ?_)));have Ks:ai [t,x,z] Z Z5:=Nk.trans Ke (by exact aW);exact h Z5 l Ks nl (Ke.get Pl aj) Ue (Ke.get VZ aj) (Ke.get X6 aj)
theorem zi {lim:d_}{zs:b_ c_}
 (hc:Z c=a_ (.inst 401 dc (dM hp dsA pl em))) (hh:Z hp=a_ (.inst 225 dh (bN lim last z))) (hz:Z z=a_ (.lst zs)) (KZ:zs.length<=100000) (hpl:Z pl=a_ (.dic [] np)) (hem:Z em=a_ (.dic [] ne))
 (hw:Z wk=a_ (.lst [])) (ht:Z t=a_ (.inst 66 dt (ax num 0 bl wk ds g' (bG .none))))
 (n1:c≠t) (n2:hp≠t) (n3:z≠t) (w1:pl≠t) (w2:em≠t) (w3:wk≠t)
 (h:∀Z' KE,ai [t] Z Z'->isNew Z KE->Z' KE=a_ (.lst [])->Z' t=a_ (.inst 66 dt (ax num 0 bl KE ds e_ (bG .none)))->Q .none Z'):
 aI KC (aJ KC 2) 2 398 [.ref c,.ref t] Z Q:=by
 intros z wk c hp t dt dh dsA pl em dc num last np ne ds Z bl Q lim zs;refine⟨rfl,?_⟩;show au _ _ _ ⟨[("self",.ref c),("thing",.ref t)],[]⟩ _ _;refine cC (lA (aa rfl (cW ht ?_)));have J7:(Z.set t (.inst 66 dt (ax num 0 bl wk ds e_ (bG .none)))) t=a_ (.inst 66 dt (ax num 0 bl wk ds e_ (bG .none))):=ad _ _ _;have JQ:ai [t] Z (Z.set t (.inst 66 dt (ax num 0 bl wk ds e_ (bG .none)))):=(ai.refl _ Z).set (.head _);have g1:∀ {a o},a≠t->Z a=a_ o->(Z.set t (.inst 66 dt (ax num 0 bl wk ds e_ (bG .none)))) a=a_ o:=λn e=>ap n e;have JY:=g1 n1 hc;have Ka:=g1 n2 hh;have Lm:=g1 n3 hz;have ND:=g1 w1 hpl;have NB:=g1 w2 hem;have SU:=g1 w3 hw;show au _ _ _ _ (Z.set t (.inst 66 dt (ax num 0 bl wk ds e_ (bG .none)))) _;have WB:∀ {l},isNew (Z.set t (.inst 66 dt (ax num 0 bl wk ds e_ (bG .none)))) l->isNew Z l:=λh=>eT h;generalize Z.set t _=Z1 at *;refine eV (av (aa rfl (az J7 rfl (lF (cY SU) ?_))));refine cC (eU λl hl=>aa rfl (cW (ao hl J7) ?_));intros l;have Nv:l≠t:=(aq hl J7).symm;have g2:∀ {a o},a≠t->Z1 a=a_ o->((Z1.set l (.lst [])).set t (.inst 66 dt (ax num 0 bl l ds e_ (bG .none)))) a=a_ o:=λn e=>ap n (ao hl e);have Kh:((Z1.set l (.lst [])).set t (.inst 66 dt (ax num 0 bl l ds e_ (bG .none)))) t=a_ (.inst 66 dt (ax num 0 bl l ds e_ (bG .none))):=ad _ _ _;have JX:((Z1.set l (.lst [])).set t (.inst 66 dt (ax num 0 bl l ds e_ (bG .none)))) l=a_ (.lst []):=ap Nv (ad _ _ _);have JS:ai [t] Z ((Z1.set l (.lst [])).set t (.inst 66 dt (ax num 0 bl l ds e_ (bG .none)))):=(JQ.new hl).set (.head _);have nl:=WB hl;have J0:=g2 n1 JY;have MU:=g2 n2 Ka;have Lk:=g2 n3 Lm;have Md:=g2 w1 ND;have Mi:=g2 w2 NB;show au _ _ _ _ ((Z1.set l (.lst [])).set t (.inst 66 dt (ax num 0 bl l ds e_ (bG .none)))) _;generalize (Z1.set l _).set t _=Z2 at *;clear JY Ka Lm ND NB SU J7 g1 g2;refine aO (bX rfl rfl rfl (cH Kh rfl rfl) (aZ rfl ?_));refine bE (aX (av (aa rfl (az J0 rfl (i7 Md rfl (af (av (aa rfl (az Kh rfl (af (bI (am (bH (j4 Md ⟨rfl,?_⟩))))))))))))));refine bE (aX (av (aa rfl (az J0 rfl (i7 Mi rfl (af (av (aa rfl (az Kh rfl (af (bI (am (bH (j4 Mi ⟨rfl,?_⟩))))))))))))));refine a8 (av (aa rfl (az Kh rfl (aV rfl ?_))));refine cC (bI (aa rfl (cW Kh ?_)));have g3:∀ {a o},a≠t->Z2 a=a_ o->(Z2.set t (.inst 66 dt (ax num 0 bl l ds e_ (bG .none)))) a=a_ o:=λn e=>ap n e;have Q':(Z2.set t (.inst 66 dt (ax num 0 bl l ds e_ (bG .none)))) t=a_ (.inst 66 dt (ax num 0 bl l ds e_ (bG .none))):=ad _ _ _;have JZ:ai [t] Z (Z2.set t (.inst 66 dt (ax num 0 bl l ds e_ (bG .none)))):=JS.set (.head _);have K3:=g3 Nv JX;have Kb:=g3 n1 J0;have hh3:=g3 n2 MU;have O7:=g3 n3 Lk;show au _ _ _ _ (Z2.set t (.inst 66 dt (ax num 0 bl l ds e_ (bG .none)))) _;generalize Z2.set t _=Z3 at *;clear g3 J0 MU Lk Md Mi Kh;refine bE (aX (aa rfl (bZ Kb rfl rfl (af (aa rfl (af (aa rfl (am (aF rfl (tI λZ4 J1=>⟨rfl,?_⟩))))))))));have UW:z≠l:=aq nl hz;have Oi:=J1.get Q' aj;have Pl:=J1.get K3 aj;have Kq:=J1.get Kb aj;have Nk:ai [t] Z Z4:=JZ.trans J1 (by exact aW);refine ay ?_;refine a8 (aA rfl (af (aa rfl (am (aF rfl (nJ Oi λZ5 g hg Ke WP=>aV rfl ?_))))));have Ue:=Ke.get Oi aj;refine bE (aA rfl (af (aa rfl (am (aF rfl (tE Ue ⟨rfl,?_⟩))))));refine eV (aa rfl (lF (cY WP) (ay ?_)));have Ks:ai [t] Z Z5:=Nk.trans Ke (by exact aW);exact h Z5 l Ks nl (Ke.get Pl aj) Ue
theorem aB {x:Str}{v:c_}(h1:kindOf sc x=a_ .local)(h2:fm.loc.lookup x=a_ v):bM sc x fm Z=a_ v:=by
 unfold bM;rw[h1];exact h2
noncomputable def bU (d:d_)(num k:Int)(wk:d_)(v:c_):O:=.inst 66 d (ax num k .none wk g' g' (bG v))
theorem zj {lim g:d_}{zs:b_ c_}{ms:b_ d_}{T:a6}{k:Nat}{L:b_ (Str×Value)}{one:Str}
 (hT:T 337=a_ (aI KC (aJ KC 0) 2 337))
 (hc:Z c=a_ (.inst 401 dc (dM hp dsA pl em))) (hh:Z hp=a_ (.inst 225 dh (bN lim last z))) (hz:Z z=a_ (.lst zs)) (KZ:zs.length+ms.length<=100000) (hg:Z g=a_ (.lst (ms.map .ref))) (Od:g≠z)
 (hm:∀m∈ms,∃d num wk v,Z m=a_ (bU d num 1 wk v)) (nd:ms.Nodup) (Uf:L.lookup ("self":Str)=a_ (.ref c)) (k1:kindOf sc one=a_ .local) (k2:kindOf sc "self"=a_ .local) (k3:one≠"self") (k4:cF one=e_)
 (Ra:(p4.endLine==p5.line)=e_)
 (h:∀JN Z',ai (z::ms) Z Z'->Z' z=a_ (.lst (zs++ms.map .ref))->(∀m∈ms,∀d num wk v,Z m=a_ (bU d num 1 wk v)->Z' m=a_ (bU d num 0 wk v))->Qs .next JN Z'):
 iw (aT T (k+5) (n+1)) one (.ref g) [.Expr (.Call (.Attribute (.Name "self" p1) "let_go" p4) [.Name one p2] [] p5) p3] sc ⟨L,[]⟩ Z Qs:=by
 intros z c hp dh dsA pl em dc last p1 p2 p3 p4 p5 n Z sc Qs lim g zs ms T k L one;have inst:∀ {m},m∈ms->∀ {a o},Z a=a_ o->(∀d fl,o≠ .inst 66 d fl)->a≠m:=by
  intro m K0 a o ha ho q;refine eK (hm m K0) λd num wk v e=>?_;rw[q,e]at ha;cases ha;exact ho _ _ rfl
 refine gp (cY hg) (by rw[b'];walk_at "a") k1 (λi JN Z'=>JN.cel=[]/\JN.loc.lookup ("self":Str)=a_ (.ref c)/\ai (z::ms) Z Z'/\Z' z=a_ (.lst (zs++(ms.take i).map .ref))/\
  ∀j m,ms[j]? =a_ m->∀d num wk v,Z m=a_ (bU d num 1 wk v)->Z' m=a_ (bU d num (if j<i then 0 else 1) wk v)) ⟨rfl,Uf,ai.refl _ _,by simpa using hz,λj m hj d num wk v e=>by assumption⟩ (λi JN Z' hI=>?_) (λi y JN Z' hy hI Qz Kz=>?_) (λJN Z' hI=>?_)
 ·show Z' g=Z g
  have:=hI.2.2.1 g _ (by
   simp only [f_,GH];exact⟨Od,λq=>inst q hg (by simp) rfl⟩) hg
  exact this.trans hg.symm
 ·revert hy hI;intros i y JN Z' Qz
  refine im hI λJT hl hF Ly hms=>?_;clear hI;rw[k_]at hy;intros Qz;refine ac (j_.mp hy) ?_;rintro m hj rfl;intros m;have K0:m∈ms:=B_ hj;refine eK (hm m K0) λd num wk v e=>?_;intros d num wk v;have e':=hms i m hj d num wk v e;rw[p_ (DH i)]at e';have out:∀ {a o},Z a=a_ o->(∀d fl,o≠ .inst 66 d fl)->a≠z->Z' a=a_ o:=λha ho hz=>hF _ _ (by
   simp only [f_,GH];exact⟨hz,λq=>inst q ha ho rfl⟩) ha
  have ncz:c≠z:=λq=>by exact ag hc hz rfl q
  have nhz:hp≠z:=λq=>by exact ag hh hz rfl q
  have Ku:=out hc (λU U=>gS) ncz;have Ww:=out hh (λU U=>gS) nhz;have M8:c≠m:=inst K0 hc (λU U=>gS);have nhm:hp≠m:=inst K0 hh (λU U=>gS);have nzm:z≠m:=inst K0 hz (by simp);have il:i<ms.length:=(Dg.mp hj).1;refine bE (aX (aa (aB k2 (by exact et hl (Ex k3))) (bZ Ku rfl rfl (af (aa (aB k1 (by exact d6)) (am (aF hT (qj Ku Ww Ly (by simp;walk_at "o") e' (by decide+kernel) (by simp[bG]) M8 nhm nzm λZ2 JS a1 a2=>⟨rfl,?_⟩))) k4)))) Ra (by show(1:Nat)<30;decide) (by show(if(kindOf sc "self"==a_ NameKind.globalImplicit)=e_ then G "self"else h_)=h_;rw[k2];rfl) rfl rfl);intros Z2;refine ay (Kz .next _ _ ⟨JT,by exact et hl (Ex k3),?_,?_,?_⟩)
  ·exact hF.trans JS (by
    intro a ha;left;simp only [f_,aj,Ez]at ha⊢;rcases ha with rfl|rfl
    ·exact .inr K0
    ·exact .inl rfl)
  ·rw[a2,z_ (by decide),Dw]
   congr 3;rw[Fr,hj,r_];rfl
  ·intro j m' Pc d' num' KE v' e2
   revert Pc;intros j m' d' num' KE v';by_cases q:m'=m
   ·subst q
    have:j=i:=(List.getElem?_inj (Dg.mp Pc).1 nd).mp (Pc.trans hj.symm);subst this;rw[e]at e2;cases e2;rw[z_ (EE _)];exact a1
   ·have PJ:m'∈ms:=B_ Pc
    have:=hms j m' Pc d' num' KE v' e2;have ne:(if j<i+1 then(0:Int)else 1)=if j<i then 0 else 1:=by
     have:j≠i:=by rintro rfl;rw[hj]at Pc;exact q (De Pc).symm
     by_cases q2:j<i
     ·rw[z_ q2,z_ (by walk_at "a")]
     ·rw[p_ q2,p_ (by walk_at "o")]
    rw[ne];exact JS _ _ (by
     simp only [f_,aj,Ez,GH];exact⟨q,Ex (inst PJ hz (by simp))⟩) this
 ·refine im hI λU U hF Ly hms=>?_;clear hI
  rw[b']at Ly hms;refine h JN Z' hF (by rw[Ly,Dy]) λm K0 d num wk v e=>?_;refine xE (List.getElem?_of_mem K0) λj hj=>?_;have:=hms j m hj d num wk v e;rwa[z_ (Dg.mp hj).1]at this
noncomputable def dN (d:d_)(num k:Int)(bl:c_)(wk:d_)(ds fr:Dm)(its:d_):O:=.inst 85 d (ax num k bl wk ds fr (cX its))
theorem zk {lim:d_}{zs:b_ c_}{ms:b_ d_}
 (hc:Z c=a_ (.inst 401 dc (dM hp dsA pl em))) (hh:Z hp=a_ (.inst 225 dh (bN lim last z))) (hz:Z z=a_ (.lst zs)) (KZ:zs.length+ms.length<=1000)
 (hw:Z wk=a_ (.lst [])) (hi:Z its=a_ (.lst (ms.map .ref))) (ht:Z t=a_ (dN dt num 0 bl wk ds g' its)) (hm:∀m∈ms,∃d num wk v,Z m=a_ (bU d num 1 wk v)) (nd:ms.Nodup)
 (n1:c≠t) (n2:hp≠t) (n3:z≠t) (w3:wk≠t) (w4:its≠t) (nz:wk≠z)
 (h:∀Z' KE Kj,ai (t::z::ms) Z Z'->isNew Z KE->isNew Z Kj->Z' KE=a_ (.lst [])->Z' Kj=a_ (.lst [])->Z' t=a_ (dN dt num 0 bl KE ds e_ Kj)->Z' z=a_ (.lst (zs++ms.map .ref))->
  (∀m∈ms,∀d num wk v,Z m=a_ (bU d num 1 wk v)->Z' m=a_ (bU d num 0 wk v))->Q .none Z'):
 aI KC (aJ KC 2) 2 398 [.ref c,.ref t] Z Q:=by
 intros z wk c hp t dt dh dsA pl em dc its num last ds Z bl Q lim zs ms;have inst:∀ {m},m∈ms->∀ {a o},Z a=a_ o->(∀d fl,o≠ .inst 66 d fl)->a≠m:=by
  intro m K0 a o ha ho q;refine eK (hm m K0) λd num wk v e=>?_;rw[q,e]at ha;cases ha;exact ho _ _ rfl
 have VP:∀m∈ms,m≠t:=λm K0=>Ex (inst K0 ht λU U=>gS);refine⟨rfl,?_⟩;show au _ _ _ ⟨[("self",.ref c),("thing",.ref t)],[]⟩ _ _;refine cC (lA (aa rfl (cW ht ?_)));have J7:(Z.set t (dN dt num 0 bl wk ds e_ its)) t=a_ (dN dt num 0 bl wk ds e_ its):=ad _ _ _;have JQ:ai [t] Z (Z.set t (dN dt num 0 bl wk ds e_ its)):=(ai.refl _ Z).set (.head _);show au _ _ _ _ (Z.set t (dN dt num 0 bl wk ds e_ its)) _;generalize Z.set t _=Z1 at *;have g1:∀ {a o},a≠t->Z a=a_ o->Z1 a=a_ o:=λn e=>JQ.get e (by exact aE n);refine eV (av (aa rfl (az J7 rfl (lF (cY (g1 w3 hw)) ?_))));refine cC (eU λl hl=>aa rfl (cW (ao hl J7) ?_));intros l;have Nv:l≠t:=(aq hl J7).symm;have nl:isNew Z l:=JQ.isNew hl (by exact bT ⟨_,J7⟩);have Kh:((Z1.set l (.lst [])).set t (dN dt num 0 bl l ds e_ its)) t=a_ (dN dt num 0 bl l ds e_ its):=ad _ _ _;have JX:((Z1.set l (.lst [])).set t (dN dt num 0 bl l ds e_ its)) l=a_ (.lst []):=ap Nv (ad _ _ _);have JS:ai [t] Z ((Z1.set l (.lst [])).set t (dN dt num 0 bl l ds e_ its)):=(JQ.new hl).set (.head _);show au _ _ _ _ ((Z1.set l (.lst [])).set t (dN dt num 0 bl l ds e_ its)) _;generalize (Z1.set l _).set t _=Z2 at *;have g2:∀ {a o},a≠t->Z a=a_ o->Z2 a=a_ o:=λn e=>JS.get e (by exact aE n);refine aO (bX rfl rfl rfl (cH Kh rfl rfl) (aM rfl (ay ?_)));refine a8 (aA rfl (af (aa rfl (am (aF rfl (tD Kh (g2 w4 hi) (by rw[b'];walk_at "a") (by intro v hv;refine ac (i_.mp hv) ?_;rintro m _ rfl;rfl) λZ3 g hg JZ hg3=>aV rfl ?_))))));intros Z3 g;have Q':=JZ.get Kh aj;have K3:=JZ.get JX aj;have g3:∀ {a o},a≠t->Z a=a_ o->Z3 a=a_ o:=λn e=>JZ.get (g2 n e) aj;refine bE (aA rfl (af (aa rfl (am (aF rfl (y9 Q' λZ4 Kj V6 J1 Oi Yk=>⟨rfl,?_⟩))))));intros Z4 Kj;have g4:∀ {a o},a≠t->Z a=a_ o->Z4 a=a_ o:=λn e=>J1.get (g3 n e) (by exact aE n);have ngt:g≠t:=(aq hg Kh).symm;have hg4:=J1.get hg3 (by exact aE ngt);have acF:l≠t:=Nv;have Pl:=J1.get K3 (by exact aE Nv);have Od:g≠z:=(aq hg (g2 n3 hz)).symm;have Ke:ai [t] Z Z4:=(JS.trans JZ (by exact aW)).trans J1 (by exact bT (.inl (.head _)));have QL:isNew Z Kj:=(JS.trans JZ (by exact aW)).isNew V6 (by exact bT ⟨_,Q'⟩);refine eV (aa rfl (zj (k:=55) rfl (g4 n1 hc) (g4 n2 hh) (g4 n3 hz) (by walk_at "o") hg4 Od (λm K0=>?_) nd rfl rfl rfl (by decide) rfl rfl λJN Z5 Ks QC hms=>ay ?_))
 ·refine eK (hm m K0) λd num wk v e=>?_
  exact⟨d,num,wk,v,g4 (VP m K0) e⟩
 ·have UW:z≠l:=aq nl hz
  have nzi:z≠Kj:=aq QL hz;have nml:∀m∈ms,m≠l:=λm K0=>by refine eK (hm m K0) λd num wk v e=>?_;exact aq nl e
  have Py:∀m∈ms,m≠Kj:=λm K0=>by refine eK (hm m K0) λd num wk v e=>?_;exact aq QL e
  refine h Z5 l Kj ?_ nl QL (Ks.get Pl ?_) (Ks.get Yk ?_) (Ks.get Oi ?_) QC λm K0 d num wk v e=>hms m K0 d num wk v (g4 (VP m K0) e)
  ·exact(Ke.more (by simp)).trans Ks (by intro a ha;left;exact .tail _ ha)
  ·simp only [f_,GH];exact⟨UW.symm,λq=>nml _ q rfl⟩
  ·simp only [f_,GH];exact⟨nzi.symm,λq=>Py _ q rfl⟩
  ·simp only [f_,GH];exact⟨n3.symm,λq=>VP _ q rfl⟩
section
variable{T:a6}{E:ET}
theorem qp {o e ie:Expr}{a:Str}(h:(aw T k).1 e sc fm Z λv Z=>(aw T k).1 o sc fm Z λw Z=>(aw T k).1 (.Attribute ie a p3) sc fm Z λu Z=>jS Z w u v λZ=>au (aT T k (n+1)) r sc fm Z Qs)(h2:fk e=g':=by rfl):
 au (aT T k (n+1)) (.Assign [.Subscript o (.Attribute ie a p3) p] e pos::r) sc fm Z Qs:=.inr (.inr (.inl ⟨_,_,_,rfl,h2,rfl,h⟩))
theorem j5 {x:d_}{N:Nat}{i:c_}{kk:ak->Prop}(h:Z x=a_ (.dic es N))(h1:b9 es i=e_)(h2:es.length<1000)(hk:∀N',kk (Z.set x (.dic (cM (er i) v es) N'))):jS Z (.ref x) i v kk:=by
 exact .inl ⟨x,es,N,rfl,h,h1,h2,hk⟩
theorem cQ {e:Expr}{x:Str}(h:(aw T n).1 e sc fm Z λv Z=>(aw T n).1 (.Name x p1) sc fm Z λw Z=>kP (d5 Z v w) λu=>Q u Z):(aw T (n+1)).1 (.Subscript e (.Name x p1) p) sc fm Z Q:=.inl ⟨rfl,h⟩
theorem d9 {e:Expr}{c:Const}(h:(aw T n).1 e sc fm Z λv Z=>(aw T n).1 (.Constant c kk p1) sc fm Z λw Z=>kP (d5 Z v w) λu=>Q u Z):(aw T (n+1)).1 (.Subscript e (.Constant c kk p1) p) sc fm Z Q:=.inl ⟨rfl,h⟩
theorem hZ {x:d_}{N:Nat}{i:c_}(h:Z x=a_ (.dic es N))(h1:b9 es i=e_)(h2:es.lookup (er i)=a_ v):d5 Z (.ref x) i v:=by
 refine .inl ?_;unfold iQ;dsimp only;rw[h];dsimp only;exact((z_ h1).trans h2)
theorem tK {x:d_}{N:Nat}(h:Z x=a_ (.dic es N))(h1:(es.map (λp=>p.1)).all bO=e_)(h2:es.length<=60)(hk:∀l,isNew Z l->Q (.ref l) (Z.set l (.lst (dy (es.map (λp=>p.1)))))):ek "sorted" [.ref x] Z Q:=by
 exact⟨mB,rfl,.inr ⟨_,lz h,h1,by simpa using h2,hk⟩⟩
theorem qq {x:d_}(h:Z x=a_ (.lst xs))(h1:xs.all bO=e_)(h2:xs.length<=60)(hk:∀l,isNew Z l->Q (.ref l) (Z.set l (.lst (dy xs)))):ek "sorted" [.ref x] Z Q:=by
 exact⟨mB,rfl,.inl ⟨_,iA h,h1,h2,hk⟩⟩
end
noncomputable def dQ (nm ct:d_->Int)(fr:d_->Dm)(es:b_ (Value×Value))(t:d_):b_ (Value×Value):=if ct t=0/\fr t=g' then cM (.int (nm t) 0) (.ref t) es else es
noncomputable def dR (nm ct:d_->Int)(fr:d_->Dm)(ts:b_ d_):b_ (Value×Value):=ts.foldl (dQ nm ct fr) []
theorem tL {k:Int}{v:c_}:∀ {es:b_ (Value×Value)},(es.all λp=>bO p.1)=e_->((cM (.int k 0) v es).all λp=>bO p.1)=e_
 | [],_=>rfl
 |p::r,h=>by
  rw[D5,u_]at h;unfold cM;split
  ·rw[D5,h.1,h.2];rfl
  ·rw[D5,h.1,tL h.2];rfl
theorem tM {k v:c_}:∀ {es:b_ (Value×Value)},(cM k v es).length<=es.length+1
 | []=>DW _
 |p::r=>by
  unfold cM;split
  ·simp
  ·have:=tM (k:=k) (v:=v) (es:=r);simp only [Df];walk_at "a"
theorem qr (nm ct:d_->Int)(fr:d_->Dm)(ts:b_ d_):∀es:b_ (Value×Value),(es.all λp=>bO p.1)=e_->((ts.foldl (dQ nm ct fr) es).all λp=>bO p.1)=e_/\(ts.foldl (dQ nm ct fr) es).length<=es.length+ts.length:=by
 revert nm ct fr ts;injections nm ct fr ts;induction ts with
 |nil=>intro es h;exact⟨h,DW _⟩
 |cons t r ih=>
  intro es h;rw[Gp];unfold dQ;split
  ·refine xA (ih _ (tL (k:=nm t) (v:=.ref t) h)) λa b=>?_
   have:=tM (k:=.int (nm t) 0) (v:=.ref t) (es:=es);exact⟨a,by simp only [Df];unfold dQ at b;walk_at "o"⟩
  ·refine xA (ih _ h) λa b=>?_
   exact⟨a,by simp only [Df];unfold dQ at b;walk_at "a"⟩
theorem tN {k:Int}{v:c_}:∀ {es:b_ (Value×Value)},(∀p∈es,er p.1=p.1)->∀p∈cM (.int k 0) v es,er p.1=p.1
 | [],_,p,hp=>by cases g_.mp hp;rfl
 |q::r,h,p,hp=>by
  unfold cM at hp;split at hp
  ·rcases f_.mp hp with rfl|hp
   ·exact h q (.head _)
   ·exact h p (.tail _ hp)
  ·rcases f_.mp hp with rfl|hp
   ·exact h _ (.head _)
   ·exact tN (λp hp=>h p (.tail _ hp)) p hp
theorem zm (nm ct:d_->Int)(fr:d_->Dm)(ts:b_ d_):∀es:b_ (Value×Value),(∀p∈es,er p.1=p.1)->∀p∈ts.foldl (dQ nm ct fr) es,er p.1=p.1:=by
 induction ts with
 |nil=>intro es h;exact h
 |cons t r ih=>
  intro es h;rw[Gp];refine ih _ ?_;unfold dQ;split
  ·exact tN h
  ·exact h
theorem zn {ks:b_ c_}(h:ks.all bO=e_)(he:∀k∈ks,er k=k):∃ns:b_ Int,ks=ns.map λi=>.int i 0:=by
 have e:ks.map er=ks:=by
  have:=Dp (f:=er) (g:=λv=>v) he;rw[this,Jm]
 refine ac (gV (vs:=ks) (by rw[e];exact h)) λns U q=>?_;exact⟨ns,by exact(e.symm.trans q)⟩
theorem zo {ks:b_ c_}(h:ks.all bO=e_)(he:∀k∈ks,er k=k){k:c_}(hk:k∈dy ks):k∈ks:=by
 refine xE (zn h he) ?_;rintro ns rfl;rw[mO,i_]at hk;refine ac hk ?_;clear hk;rintro i hi rfl;exact i_.mpr ⟨i,(pq ns).mem_iff.mp hi,rfl⟩
theorem tO (k:c_):∀l:b_ c_,(ins k l).length=l.length+1
 | []=>rfl
 |y::r=>by
  have ih:=tO k r;unfold ins;split
  ·split
   ·rfl
   ·simp only [Df,ih]
  ·rfl
theorem zp (l:b_ c_):(dy l).length=l.length:=by
 induction l with
 |nil=>rfl
 |cons k r ih=>
  show(ins k (dy r)).length=_;rw[tO,ih];rfl
theorem tP {k:c_}(h:k∈es.map (λp=>p.1)):∃v,es.lookup k=a_ v:=by
 cases e:es.lookup k with
 |some v=>exact⟨v,rfl⟩
 |none=>
  rw[DC]at e;refine ac (i_.mp h) ?_;rintro p hp rfl;have:=e p hp;simp at this
theorem zq {nm ct:d_->Int}{fr:d_->Dm}(hl:Z tl=a_ (.lst (ts.map .ref)))(hz:ts.length<=60)
 (ht:∀t∈ts,∃C d bl wk ds r,bS C "count"=e_/\bS C "is_freed"=e_/\bS C "number"=e_/\Z t=a_ (.inst C d (ax (nm t) (ct t) bl wk ds (fr t) r)))
 (h:∀Z' l,isNew Z l->ai [] Z Z'->Z' l=a_ (.lst ((dy ((dR nm ct fr ts).map (λp=>p.1))).map λk=>((dR nm ct fr ts).lookup k).getD .none))->Q (.ref l) Z'):
 aI KC (aJ KC 0) 1 309 [.ref tl] Z Q:=by
 intros tl Z ts Q nm ct fr;refine⟨rfl,?_⟩;show∀c,isNew Z c->au _ _ _ ⟨[("things",.ref tl)],[("found",c)]⟩ (Z.set c (.cel h_)) _;intro c hc;intros c;have JY:(Z.set c (.cel h_)) c=a_ (.cel h_):=ad _ _ _;have JQ:ai [] Z (Z.set c (.cel h_)):=(ai.refl [] Z).new hc;generalize Z.set c _=Z1 at JY JQ;refine a8 (j2 λfd m Kg=>fH rfl rfl (ao Kg JY) ?_);intros fd m;have JS:ai [] Z ((Z1.set fd (.dic [] m)).set c (.cel (a_ (.ref fd)))):=λb o nb e=>ap (aq hc e) (ao Kg (JQ b o nb e));have J0:((Z1.set fd (.dic [] m)).set c (.cel (a_ (.ref fd)))) c=a_ (.cel (a_ (.ref fd))):=ad _ _ _;have Wn:c≠fd:=aq Kg JY;have NR:((Z1.set fd (.dic [] m)).set c (.cel (a_ (.ref fd)))) fd=a_ (.dic [] m):=ap Wn.symm (ad _ _ _);generalize (Z1.set fd _).set c _=Z2 at JS J0 NR;have JX:=JS.get hl aj;have Yo:tl≠fd:=by exact ag JX NR
 refine eV (aa rfl (gp (cY JX) (by rw[b'];walk_at "o") rfl (λi JN Z'=>JN.cel=[(("found":Str),c)]/\ai [fd] Z2 Z'/\∃N,Z' fd=a_ (.dic (dR nm ct fr (ts.take i)) N)) ⟨rfl,ai.refl _ _,m,NR⟩ (λi JN Z' hI=>?_) (λi y JN Z' hy hI Qz Kz=>?_) (λJN Z' hI=>?_)))
 ·show Z' tl=Z2 tl
  rw[hI.2.1 tl _ (by exact aE Yo) JX,JX]
 ·revert hy hI;intros i y JN Z' Qz
  refine jH hI λJT hF N hd=>?_;intros N;clear hI;rw[k_]at hy;revert Kz;intros Qz N;refine ac (j_.mp hy) ?_;rintro t hj rfl;intros t;refine dH (ht t (B_ hj)) λC d bl wk ds zz=>?_;intros C d bl wk ds;refine dZ zz λr o1 o2 o3 e=>?_;intros r;clear zz;have e2:=JS.get e aj;have Yb:t≠fd:=by exact ag e2 NR
  have e':=hF.get e2 (by exact aE Yb);have tk:dR nm ct fr (ts.take (i+1))=dQ nm ct fr (dR nm ct fr (ts.take i)) t:=by
   unfold dR;rw[Fr,hj,Jt];rfl
  have Ku:Z' c=a_ (.cel (a_ (.ref fd))):=hF.get J0 (by exact aE Wn);refine xA (qr nm ct fr (ts.take i) [] rfl) λb1 b2=>?_;have b3:(ts.take i).length<=60:=by rw[EI];walk_at "q"
  obtain⟨loc,cel⟩:=JN;intros loc cel;dsimp only at JT;subst JT;have Qd:b9 (dR nm ct fr (ts.take i)) (.int (nm t) 0)=e_:=b1;have ln:(dR nm ct fr (ts.take i)).length<1000:=by
   have:(dR nm ct fr (ts.take i)).length<=([]:b_ (Value×Value)).length+(ts.take i).length:=b2;simp only [FG]at this;walk_at "o"
  have Kv:bM (cR KC 309) "thing" ⟨aL "thing" (.ref t) loc,[(("found":Str),c)]⟩ Z'=a_ (.ref t):=aB rfl (by exact d6);refine aO (fG (cI (aU (av (aa Kv (az e' rfl (aK ⟨_,rfl,cG (λq=>?_) (λq=>?_)⟩) o1))))))
  ·have q0:ct t=0:=of_decide_eq_true q
   refine cI (iB (gJ (av (aa Kv (az e' rfl (fq ?_) o2)))));cases qf:fr t with
   |true=>
    refine aM rfl (aM rfl (ay (ay (Kz .next _ _ ⟨rfl,hF,N,?_⟩))));rw[tk];unfold dQ;rw[p_ (by rw[qf];simp)];exact hd
   |false=>
    refine aZ rfl (dk (aZ rfl ?_));refine qp (aa Kv (aa (a7 rfl rfl Ku) (av (aa Kv (az e' rfl (j5 hd Qd ln λN'=>ay (ay (Kz .next _ _ ⟨rfl,hF.set (.head _),N',?_⟩))) o3)))));rw[tk];unfold dQ;rw[z_ ⟨q0,qf⟩,ad];rfl
  ·have q0:ct t≠0:=DM q
   refine aM rfl (ay (ay (Kz .next _ _ ⟨rfl,hF,N,?_⟩)));rw[tk];unfold dQ;rw[p_ (λz=>q0 z.1)];exact hd
 ·intros JN Z'
  refine jH hI λJT hF N hd=>?_;intros N;clear hI;rw[b',Dy]at hd;have Ku:Z' c=a_ (.cel (a_ (.ref fd))):=hF.get J0 (by exact aE Wn);refine xA (qr nm ct fr ts [] rfl) λb1 b2=>?_;have ks:((dR nm ct fr ts).map (λp=>p.1)).all bO=e_:=by rw[Ef];exact b1
  have len:(dR nm ct fr ts).length<=60:=by have:(dR nm ct fr ts).length<=([]:b_ (Value×Value)).length+ts.length:=b2;simp at this;walk_at "a"
  obtain⟨loc,cel⟩:=JN;intros loc cel;dsimp only at JT;subst JT;have he:∀k∈(dR nm ct fr ts).map (λp=>p.1),er k=k:=by
   intro k hk;refine ac (i_.mp hk) ?_;rintro p hp rfl;exact zm nm ct fr ts [] (by simp) p hp
  refine a9 (dD (cl:=[(("found":Str),c)]) rfl (aA rfl (af (aa (a7 rfl rfl Ku) (am (bH (tK hd ks len λl hl=>?_)))))));revert hl;revert l;injections l;intro hl;have Kb:=ao (o':=.lst (dy ((dR nm ct fr ts).map (λp=>p.1)))) hl Ku;have Rj:=ao (o':=.lst (dy ((dR nm ct fr ts).map (λp=>p.1)))) hl hd;have JZ:ai [] Z (Z'.set l (.lst (dy ((dR nm ct fr ts).map (λp=>p.1))))):=λb o nb eb=>by
   have e2:=JS b o nb eb;exact ao hl (hF b o (by exact aE (aq Kg (JQ b o nb eb))) e2)
  refine ew (λU=>e_) (λk=>((dR nm ct fr ts).lookup k).getD .none) (cY (ad _ _ _)) (by rw[zp,b'];walk_at "o") rfl rfl (λy hy Qb hq=>dk hq) (λy hy hf Q hq=>?_) λl2 JX=>?_
  ·have hm:=zo ks he hy
   refine xE (tP hm) λv hv=>?_;have ky:b9 (dR nm ct fr ts) y=e_:=by
    have:=l_.mp ks y hm;cases y<;>first |exact b1|exact(ft this).elim
   rw[hv]at hq;refine cQ (aa (bR rfl rfl Kb) (aa rfl ⟨v,hZ Rj ky (by exact(he y hm).symm▸hv),hq⟩))
  ·rw[DG.mpr (by simp)]
   exact h _ l2 (JZ.isNew JX (by exact aW)) (JZ.new JX) (ad _ _ _)
noncomputable def gr (hp gl:d_):b_ (Str×Value):=[("heap",.ref hp),("globs",.ref gl),("generation",.int 0 0)]
noncomputable def tQ:b_ (Str×Value):=[("width",.int 64 0),("depth",.int 50 0),("steps",.int 1000000 0),("text",.int 100000 0),("items",.int 10000 0)]
noncomputable def dJ (hp ct st lm a1 a2 a3 a4 a5 out J5 saves frames Km:d_):b_ (Str×Value):=
 [("heap",.ref hp),("counter",.ref ct),("stash",.ref st),("limits",.ref lm),("nodes",.ref a1),("lvs",.ref a2),("statements",.ref a3),("funcs",.ref a4),("operators",.ref a5),("out",.ref out),("err",.ref J5),("saves",.ref saves),("frames",.ref frames),
  ("match",.none),("patterns",.ref Km),("steps",.int 0 0),("methods",.none),("call_code",.none),("compile_text",.none)]
theorem tR {x:d_}{lm:d_}(h:Z x=a_ (.inst 225 d []))
 (h1:∀Z' z,isNew Z z->ai [x] Z Z'->Z' x=a_ (.inst 225 d (bN lm 0 z))->Z' z=a_ (.lst [])->Q .none Z'):aI KC (aJ KC 0) 2 180 [.ref x,.ref lm] Z Q:=by
 refine⟨rfl,?_⟩;show au _ _ _ ⟨[("self",.ref x),("limits",.ref lm)],[]⟩ _ _;walk_at "r";intro z hz;have nz:=hU hz;walk_at "r";refine h1 _ z (eT hz) ?_ (ad _ _ _) ?_
 ·exact(((ai.refl [x] Z).set (.head _)).new hz).set (.head _)
 ·rw[bA _ _ nz,ad]
theorem zr {x:d_}{ds:d_}(h:Z x=a_ (.inst 401 d []))
 (h1:∀Z' pl em n1 n2,isNew Z pl->isNew Z em->em≠pl->ai [x] Z Z'->Z' x=a_ (.inst 401 d (dM hp ds pl em))->Z' pl=a_ (.dic [] n1)->Z' em=a_ (.dic [] n2)->Q .none Z'):aI KC (aJ KC 0) 3 323 [.ref x,.ref hp,.ref ds] Z Q:=by
 intros d hp Z Q x ds;refine⟨rfl,?_⟩;show au _ _ _ ⟨[("self",.ref x),("heap",.ref hp),("destroy",.ref ds)],[]⟩ _ _;walk_at "r";intro pl m1 hpl;have n1:=hU hpl;walk_at "r";intro em m2 hem;have n2:=hU hem;have SH:=eT hem;have n3:=hU SH;walk_at "r";refine h1 _ pl em m1 m2 (eT hpl) (eT (eT SH)) n3 ?_ (ad _ _ _) ?_ ?_
 ·exact((((((ai.refl [x] Z).set (.head _)).new hpl).set (.head _)).new hem).set (.head _))
 ·rw[bA _ _ n1,bA _ _ n3.symm,bA _ _ n1,ad]
 ·rw[bA _ _ n2,ad]
theorem tS {x:d_}(h:Z x=a_ (.inst 799 d []))
 (h1:∀Z' gl n,isNew Z gl->ai [x] Z Z'->Z' x=a_ (.inst 799 d (gr hp gl))->Z' gl=a_ (.dic [] n)->Q .none Z'):aI KC (aJ KC 0) 2 754 [.ref x,.ref hp] Z Q:=by
 refine⟨rfl,?_⟩;show au _ _ _ ⟨[("self",.ref x),("heap",.ref hp)],[]⟩ _ _;walk_at "r";intro gl m1 hgl;have n1:=hU hgl;walk_at "r";refine h1 _ gl m1 (eT hgl) ?_ (ad _ _ _) ?_
 ·exact(((ai.refl [x] Z).set (.head _)).new hgl).set (.head _)
 ·rw[bA _ _ n1,ad]
theorem nK {x:d_}(h:Z x=a_ (.inst 736 d []))
 (h1:∀Z',ai [x] Z Z'->Z' x=a_ (.inst 736 d tQ)->Q .none Z'):aI KC (aJ KC 0) 1 733 [.ref x] Z Q:=by
 refine⟨rfl,?_⟩;show au _ _ _ ⟨("self",.ref x)::tQ,[]⟩ _ _;walk_at "r";exact h1 _ ((ai.refl [x] Z).set (.head _)) (ad _ _ _)
structure bY (x d:d_)(Z:ak)(ls:b_ d_)(fl:b_ (Str×Value))(Z':ak):Prop where
 F:ai [x] Z Z'
 at_:Z' x=a_ (.inst 714 d fl)
 nd:ls.Nodup
 ls:∀l∈ls,isNew Z l/\Z' l=a_ (.lst [])
theorem bY.set {x:d_}(I:bY x d Z ls fl Z1)(Mo:b_ (Str×Value)):bY x d Z ls Mo (Z1.set x (.inst 714 d Mo)):=
 ⟨I.F.set (.head _),ad _ _ _,I.nd,λl hl=>⟨(I.ls l hl).1,ap (λq=>by have h1:=(I.ls l hl).2;rw[q,I.at_]at h1;exact(kx h1).elim) (I.ls l hl).2⟩⟩
theorem bY.new {x:d_}{o:O}(I:bY x d Z ls fl Z1)(hl:isNew Z1 l):bY x d Z ls fl (Z1.set l o):=
 ⟨I.F.new hl,ao hl I.at_,I.nd,λa ha=>⟨(I.ls a ha).1,ao hl (I.ls a ha).2⟩⟩
theorem bY.more {x:d_}(I:bY x d Z ls fl Z1)(hl:isNew Z1 l):bY x d Z (l::ls) fl (Z1.set l (.lst [])):=
 ⟨I.F.new hl,ao hl I.at_,DK.mpr ⟨λq=>aq hl (I.ls l q).2 rfl,I.nd⟩,λa ha=>by
  rcases f_.mp ha with rfl|ha
  ·exact⟨I.F.isNew hl λb hb=>by cases g_.mp hb;exact⟨_,I.at_⟩,ad _ _ _⟩
  ·exact(I.new hl).ls a ha⟩
section
variable{T:a6}{x:d_}{a v:Str}
theorem iC {e:Expr}{u:c_}(I:bY x d Z ls fl Z1)(he:∀Q:bC,Q u Z1->(aw T (k+1)).1 e sc fm Z1 Q)(h:∀Z',bY x d Z ls (aL a u fl) Z'->au (aT T (k+1) (n+1)) r sc fm Z' Qs)
 (hl:fl.length<40:=by exact of_decide_eq_true rfl) (hn:bM sc v fm Z1=a_ (.ref x):=by rfl) (h2:bS 714 a=e_:=by rfl) (h3:cF v=e_:=by rfl):
 au (aT T (k+1) (n+1)) (.Assign [.Attribute (.Name v p1) a p] e pos::r) sc fm Z1 Qs:=cC (he _ (aa hn (cW I.at_ (h _ (I.set _)) h2 hl) h3))
theorem j6 (I:bY x d Z ls fl Z1)(h:∀Z' l,bY x d Z ls (aL a (.ref l) fl) Z'->au (aT T (k+1) (n+1)) r sc fm Z' Qs)
 (hl:fl.length<40:=by exact of_decide_eq_true rfl) (hn:∀Z1,bM sc v fm Z1=a_ (.ref x):=by intro _;rfl) (h2:bS 714 a=e_:=by rfl) (h3:cF v=e_:=by rfl):
 au (aT T (k+1) (n+1)) (.Assign [.Attribute (.Name v p1) a p] (.Dict [] [] p2) pos::r) sc fm Z1 Qs:=cC (j2 λl m TY=>aa (hn _) (cW (I.new TY).at_ (h _ l ((I.new TY).set _)) h2 hl) h3)
theorem nM (I:bY x d Z ls fl Z1)(h:∀Z' l,bY x d Z (l::ls) (aL a (.ref l) fl) Z'->au (aT T (k+1) (n+1)) r sc fm Z' Qs)
 (hl:fl.length<40:=by exact of_decide_eq_true rfl) (hn:∀Z1,bM sc v fm Z1=a_ (.ref x):=by intro _;rfl) (h2:bS 714 a=e_:=by rfl) (h3:cF v=e_:=by rfl):
 au (aT T (k+1) (n+1)) (.Assign [.Attribute (.Name v p1) a p] (.List [] p2) pos::r) sc fm Z1 Qs:=cC (eU λl TY=>aa (hn _) (cW (I.more TY).at_ (h _ l ((I.more TY).set _)) h2 hl) h3)
end
theorem tT {x ct lm:d_}(h:Z x=a_ (.inst 714 d []))
 (h1:∀Z' a1 a2 a3 a4 a5 out J5 saves frames Km,bY x d Z [frames,saves,J5,out] (dJ hp ct st lm a1 a2 a3 a4 a5 out J5 saves frames Km) Z'->Q .none Z'):aI KC (aJ KC 0) 5 711 [.ref x,.ref hp,.ref ct,.ref st,.ref lm] Z Q:=by
 intros d hp st Z Q x ct lm;refine⟨rfl,?_⟩;show au _ _ _ ⟨[("self",.ref x),("heap",.ref hp),("counter",.ref ct),("stash",.ref st),("limits",.ref lm)],[]⟩ _ _;have I:bY x d Z [] [] Z:=⟨ai.refl _ _,h,.nil,λU q=>(nomatch q)⟩;refine iC I (λU h=>aa rfl h) λZ1 (I:bY x d Z [] ((dJ hp ct st lm 0 0 0 0 0 0 0 0 0 0).take 1) Z1)=>?_;revert I;revert Z1;injections Z1;intro I;refine iC I (λU h=>aa rfl h) λZ2 (I:bY x d Z [] ((dJ hp ct st lm 0 0 0 0 0 0 0 0 0 0).take 2) Z2)=>?_;revert I;revert Z2;injections Z2;intro I;refine iC I (λU h=>aa rfl h) λZ3 (I:bY x d Z [] ((dJ hp ct st lm 0 0 0 0 0 0 0 0 0 0).take 3) Z3)=>?_;revert I;revert Z3;injections Z3;intro I;refine iC I (λU h=>aa rfl h) λZ4 (I:bY x d Z [] ((dJ hp ct st lm 0 0 0 0 0 0 0 0 0 0).take 4) Z4)=>?_;revert I;revert Z4;injections Z4;intro I;refine j6 I λZ5 a1 (I:bY x d Z [] ((dJ hp ct st lm a1 0 0 0 0 0 0 0 0 0).take 5) Z5)=>?_;revert I;revert Z5 a1;injections Z5 a1;intro I;refine j6 I λZ6 a2 (I:bY x d Z [] ((dJ hp ct st lm a1 a2 0 0 0 0 0 0 0 0).take 6) Z6)=>?_;revert I;revert Z6 a2;injections Z6 a2;intro I;refine j6 I λZ7 a3 (I:bY x d Z [] ((dJ hp ct st lm a1 a2 a3 0 0 0 0 0 0 0).take 7) Z7)=>?_;revert I;revert Z7 a3;injections Z7 a3;intro I;refine j6 I λZ8 a4 (I:bY x d Z [] ((dJ hp ct st lm a1 a2 a3 a4 0 0 0 0 0 0).take 8) Z8)=>?_;revert I;revert Z8 a4;injections Z8 a4;intro I;refine j6 I λZ9 a5 (I:bY x d Z [] ((dJ hp ct st lm a1 a2 a3 a4 a5 0 0 0 0 0).take 9) Z9)=>?_;revert I;revert Z9 a5;injections Z9 a5;intro I;refine nM I λKr out (I:bY x d Z [out] ((dJ hp ct st lm a1 a2 a3 a4 a5 out 0 0 0 0).take 10) Kr)=>?_;revert I;revert Kr out;injections Kr out;intro I;refine nM I λKG J5 (I:bY x d Z [J5,out] ((dJ hp ct st lm a1 a2 a3 a4 a5 out J5 0 0 0).take 11) KG)=>?_;refine nM I λLn saves (I:bY x d Z [saves,J5,out] ((dJ hp ct st lm a1 a2 a3 a4 a5 out J5 saves 0 0).take 12) Ln)=>?_;refine nM I λOl frames (I:bY x d Z [frames,saves,J5,out] ((dJ hp ct st lm a1 a2 a3 a4 a5 out J5 saves frames 0).take 13) Ol)=>?_;refine iC I (λU h=>bI h) λLs (I:bY x d Z [frames,saves,J5,out] ((dJ hp ct st lm a1 a2 a3 a4 a5 out J5 saves frames 0).take 14) Ls)=>?_;refine j6 I λXc Km (I:bY x d Z [frames,saves,J5,out] ((dJ hp ct st lm a1 a2 a3 a4 a5 out J5 saves frames Km).take 15) Xc)=>?_;refine iC I (λU h=>aK h) λXo (I:bY x d Z [frames,saves,J5,out] ((dJ hp ct st lm a1 a2 a3 a4 a5 out J5 saves frames Km).take 16) Xo)=>?_;refine iC I (λU h=>bI h) λXp (I:bY x d Z [frames,saves,J5,out] ((dJ hp ct st lm a1 a2 a3 a4 a5 out J5 saves frames Km).take 17) Xp)=>?_;refine iC I (λU h=>bI h) λYC (I:bY x d Z [frames,saves,J5,out] ((dJ hp ct st lm a1 a2 a3 a4 a5 out J5 saves frames Km).take 18) YC)=>?_;refine iC I (λU h=>bI h) λWs (I:bY x d Z [frames,saves,J5,out] ((dJ hp ct st lm a1 a2 a3 a4 a5 out J5 saves frames Km).take 19) Ws)=>?_;exact ay (h1 _ _ _ _ _ _ _ _ _ _ _ I)
theorem ai.one {x:d_}(h:ai [x] Z Z')(g:ai [x] Z' JO):ai [x] Z JO:=h.trans g (by exact bT (.inl (.head _)))
section
variable{T:a6}
theorem tU {o e:Expr}{c:Const}(h:(aw T k).1 e sc fm Z λv Z=>(aw T k).1 o sc fm Z λw Z=>(aw T k).1 (.Constant c kk p3) sc fm Z λu Z=>jS Z w u v λZ=>au (aT T k (n+1)) r sc fm Z Qs)(h2:fk e=g':=by rfl):
 au (aT T k (n+1)) (.Assign [.Subscript o (.Constant c kk p3) p] e pos::r) sc fm Z Qs:=.inr (.inr (.inl ⟨_,_,_,rfl,h2,rfl,h⟩))
theorem lG {e l rr:Expr}(h:(aw T n).1 e sc fm Z λv Z=>(aw T n).1 (.BinOp l op rr p1) sc fm Z λw Z=>kP (d5 Z v w) λu=>Q u Z):(aw T (n+1)).1 (.Subscript e (.BinOp l op rr p1) p) sc fm Z Q:=.inl ⟨rfl,h⟩
theorem iD (h:Q (.int (i+j) 0) Z):gC Z .Add (.int i 0) (.int j 0) Q:=h
theorem nN (h:Q (.int (i-j) 0) Z):gC Z .Sub (.int i 0) (.int j 0) Q:=h
theorem qs (h1: -(2^60)<=i/\i<=2^60)(h2: -(2^60)<=j/\j<=2^60)(h:Q (.int (i*j) 0) Z):gC Z .Mult (.int i 0) (.int j 0) Q:=⟨E_ h1,E_ h2,h⟩
theorem i8 (h1:0<j)(h:Q (.int (i % j) 0) Z):gC Z .Mod (.int i 0) (.int j 0) Q:=⟨h1,h⟩
theorem gu {x:d_}(h1:Z x=a_ (.lst xs))(hz:xs.length<=100000)(h:Q (.int xs.length 0) Z):ek "len" [.ref x] Z Q:=by
 exact⟨oS,rfl,.inl ⟨_,iA h1,hz,h⟩⟩
theorem nQ {x:d_}(h:Z x=a_ (.tup xs))(h0:0<=i)(h1:i<2^62)(h2:xs[i.toNat]? =a_ v):d5 Z (.ref x) (.int i 0) v:=by
 refine .inl ?_;unfold iQ;dsimp only;rw[h];dsimp only;exact((z_ ⟨h0,h1⟩).trans h2)
theorem fh {x:d_}(h:Z x=a_ (.lst xs))(h0:0<=i)(h1:i<2^62)(h2:xs[i.toNat]? =a_ v):d5 Z (.ref x) (.int i 0) v:=by
 refine .inl ?_;unfold iQ;dsimp only;rw[h];dsimp only;exact((z_ ⟨h0,h1⟩).trans h2)
end
theorem zt {lim:d_}{k:Int}{r:b_ (Str×Value)}{zs:b_ c_}
 (hr:Z rn=a_ (.inst 714 rd fl)) (hfl:fl.lookup ("counter":Str)=a_ (.ref c))
 (hc:Z c=a_ (.inst 401 dc (dM hp dsA pl em))) (hh:Z hp=a_ (.inst 225 dh (bN lim last z))) (hz:Z z=a_ (.lst zs)) (KZ:zs.length<=100000)
 (ht:Z t=a_ (.inst C dt (ax num k bl wk ds fr r))) (hC:bS C "count"=e_) (Nb:r.length<20) (n1:c≠t) (n2:hp≠t) (n3:z≠t)
 (h:∀Z',ai [t,z] Z Z'->Z' t=a_ (.inst C dt (ax num (k-1) bl wk ds fr r))->Z' z=a_ (.lst (if k-1=0 then zs++[.ref t]else zs))->Q .none Z'):
 aI KC (aJ KC 1) 2 455 [.ref rn,.ref t] Z Q:=by
 refine⟨rfl,?_⟩;show au _ _ _ ⟨[("run",.ref rn),("thing",.ref t)],[]⟩ _ _;refine aO (aU (aa rfl (bI ⟨e_,rfl,aZ rfl ?_⟩)));refine bE (aX (av (aa rfl (az hr hfl (bZ hc rfl rfl (af (aa rfl (am (aF rfl (qj hc hh hz KZ ht hC Nb n1 n2 n3 λZ' hF a1 a2=>⟨rfl,?_⟩))))))))));exact ay (ay (h Z' hF a1 a2))
theorem zu {lim g put:d_}{Mh:c_}{zs:b_ c_}
 (hr:Z rn=a_ (.inst 714 rd fl)) (hfl:fl.lookup ("counter":Str)=a_ (.ref c)) (Mx:Z sv=a_ (.tup [.str "scalar" 0,.ref g,Mh]))
 (hc:Z c=a_ (.inst 401 dc (dM hp dsA pl em))) (hh:Z hp=a_ (.inst 225 dh (bN lim last z))) (hz:Z z=a_ (.lst zs)) (KZ:zs.length<=1000)
 (hg:Z g=a_ (.inst 142 dg (ax Lo gk Of NV Og MS (dC nm (.ref put))))) (ht:Z put=a_ (bU dp num 1 wk v)) (ngp:g≠put) (Od:g≠z)
 (h:∀Z',ai [put,z,g] Z Z'->Z' put=a_ (bU dp num 0 wk v)->Z' z=a_ (.lst (zs++[.ref put]))->Z' g=a_ (.inst 142 dg (ax Lo gk Of NV Og MS (dC nm Mh)))->Q .none Z'):
 aI KC (aJ KC 2) 2 462 [.ref rn,.ref sv] Z Q:=by
 have n1:c≠put:=by exact ag hc ht
 have n2:hp≠put:=by exact ag hh ht
 have n3:z≠put:=by exact ag hz ht
 have nsz:sv≠z:=by exact ag Mx hz
 have nsp:sv≠put:=by exact ag Mx ht
 refine⟨rfl,?_⟩;show au _ _ _ ⟨[("run",.ref rn),("save",.ref sv)],[]⟩ _ _;refine bE (aA rfl (af (aa rfl (af (av (d9 (aa rfl (aK ⟨_,nQ Mx (by decide) (by decide) rfl,az hg rfl (am (aF rfl (zt hr hfl hc hh hz (by walk_at "o") ht (by decide+kernel) (by simp[bG]) n1 n2 n3 λZ' hF a1 a2=>⟨rfl,?_⟩)))⟩))))))));have Tg:=hF.get Mx (by exact cJ nsp nsz);have Sr:=hF.get hg (by exact cJ ngp Od);refine cC (d9 (aa rfl (aK ⟨_,nQ Tg (by decide) (by decide) rfl,d9 (aa rfl (aK ⟨_,nQ Tg (by decide) (by decide) rfl,cW Sr ?_⟩))⟩)));refine ay (h _ ?_ ?_ ?_ (ad _ _ _))
 ·exact(hF.more (by intro a ha;simp at ha⊢;rcases ha with rfl|rfl<;>simp)).set (by simp)
 ·exact ap ngp.symm a1
 ·exact ap Od.symm a2
theorem nR {cl:d_}{N:Nat}{KI:Int}(hm:Z mn=a_ (.dic [(.str "cells" 0,.ref cl),(.str "deep" 0,.int JV 0)] N))(hcl:Z cl=a_ (.lst cells))(Ki:∀v∈cells,∃i:Int,v=.int i 0)(J6:cells.length<=60)
 (h0:0<=JV) (h1:JV<1000) (h2:0<KI) (h3:KI<1000)
 (h:∀Z' N' i,ai [mn] Z Z'->Z' mn=a_ (.dic [(.str "cells" 0,.ref cl),(.str "deep" 0,.int (JV+1) 0)] N')->0<=i->i<KI->Q (.int i 0) Z'):aI KC (aJ KC 0) 2 810 [.ref mn,.int KI 0] Z Q:=by
 intros mn JV Z cells Q cl N KI;refine⟨rfl,?_⟩;show au _ _ _ ⟨[("mine",.ref mn),("many",.int KI 0)],[]⟩ _ _;have dp:d5 Z (.ref mn) (.str "deep" 0) (.int JV 0):=hZ hm rfl rfl;refine tU (bB (d9 (aa rfl (bJ ⟨_,dp,aK (iD (aa rfl (bJ (j5 hm rfl (by show(2:Nat)<1000;decide) λN'=>?_))))⟩))));intros N';have OF:(Z.set mn (.dic [(.str "cells" 0,.ref cl),(.str "deep" 0,.int (JV+1) 0)] N')) mn=a_ (.dic [(.str "cells" 0,.ref cl),(.str "deep" 0,.int (JV+1) 0)] N'):=ad _ _ _;have hF:ai [mn] Z (Z.set mn (.dic [(.str "cells" 0,.ref cl),(.str "deep" 0,.int (JV+1) 0)] N')):=(ai.refl _ Z).set (.head _);have M8:cl≠mn:=by exact ag hcl hm
 have RY:=hF.get hcl (by exact aE M8);show au _ _ _ _ (Z.set mn (.dic [(.str "cells" 0,.ref cl),(.str "deep" 0,.int (JV+1) 0)] N')) _;generalize Z.set mn _=Z1 at *;have Sc:d5 Z1 (.ref mn) (.str "deep" 0) (.int (JV+1) 0):=hZ OF rfl rfl;have Zae:d5 Z1 (.ref mn) (.str "cells" 0) (.ref cl):=hZ OF rfl rfl;have Kw:∀i:Int,0<=i % KI/\i % KI<KI:=λi=>⟨Gq _ (by walk_at "a"),HK _ h2⟩;refine aO (aU (d9 (aa rfl (bJ ⟨_,Sc,aA rfl (af (d9 (aa rfl (bJ ⟨_,Zae,am (bH (gu RY (by walk_at "o") ⟨_,rfl,cG (λq=>?_) (λq=>?_)⟩))⟩))))⟩))))
 ·have q':JV+1<=(cells.length:Int):=of_decide_eq_true q
  refine xE (⟨_,w_ (by walk_at "d")⟩:∃v,cells[JV.toNat]? =a_ v) λv hv=>?_;refine xE (Ki v (B_ hv)) ?_;rintro i rfl;have e:JV+1-1=JV:=by walk_at "o"
  refine a9 (bB (lG (d9 (aa rfl (bJ ⟨_,Zae,bB (d9 (aa rfl (bJ ⟨_,Sc,aK (nN ⟨.int i 0,fh RY (by walk_at "o") (by walk_at "o") (by exact e.symm▸hv),aa rfl (i8 h2 (h _ N' _ hF OF (Kw i).1 (Kw i).2))⟩)⟩)))⟩)))))
 ·refine ay ?_
  refine a9 (bB (bB (bB (bB (d9 (aa rfl (bJ ⟨_,Sc,d9 (aa rfl (bJ ⟨_,Sc,qs ⟨by walk_at "A",by walk_at "a"⟩ ⟨by walk_at "A",by walk_at "a"⟩ ?_⟩))⟩)))))));refine bB (aK (d9 (aa rfl (bJ ⟨_,Sc,qs ⟨by walk_at "b",by walk_at "o"⟩ ⟨by walk_at "A",by walk_at "br"⟩ (iD (aK (iD (aa rfl (i8 h2 (h _ N' _ hF OF (Kw _).1 (Kw _).2))))))⟩))))
theorem zv {x lim:d_}{k:Int}{r:b_ (Str×Value)}
 (hc:Z c=a_ (.inst 401 dc (dM hp dsA pl em))) (hh:Z hp=a_ (.inst 225 dh (bN lim last z))) (KV:Z rf=a_ (.inst 162 rd (gq x)))
 (hx:Z x=a_ (.inst C dt (ax num k bl wk ds fr r))) (hC:bS C "count"=e_) (hr:r.length<20) (n1:rf≠x) (n2:c≠x) (n3:hp≠x)
 (h:∀Z' s d l,isNew Z s->isNew Z l->l≠s->ai [hp,x] Z Z'->Z' s=a_ (bU d (last+1) 1 l (.ref rf))->Z' l=a_ (.lst [])->Z' x=a_ (.inst C dt (ax num (k+1) bl wk ds fr r))->Z' hp=a_ (.inst 225 dh (bN lim (last+1) z))->Q (.ref s) Z'):
 aI KC (aJ KC 3) 2 370 [.ref c,.ref rf] Z Q:=by
 refine⟨rfl,?_⟩;show au _ _ _ ⟨[("self",.ref c),("value",.ref rf)],[]⟩ _ _;refine a8 (aX (av (aa rfl (az hc rfl (bZ hh rfl rfl (af (aX (aa rfl (bZ hc rfl rfl (af (aa rfl (am (aF rfl (tH hc rfl KV hx hC hr n1 λZ1 JQ KS=>?_))))))))))))));have Ka:=JQ.get hh (by exact aE n3);refine am (aF rfl (qh Ka rfl λZ2 s d l hs hl M7 JS NA JX MU=>aV rfl ?_));have nsx:x≠s:=aq hs KS;have MZ:hp≠s:=aq hs Ka;have M9:x≠l:=aq hl KS;have KX:=JS.get KS (by exact aE n3.symm);refine cC (aK (aa rfl (cW NA ?_)));refine a9 (aa rfl (h _ s d l (JQ.isNew hs (by exact bT ⟨_,KS⟩)) (JQ.isNew hl (by exact bT ⟨_,KS⟩)) M7 ?_ (ad _ _ _) (ap M7 JX) (ap nsx KX) (ap MZ MU)));intro a o na e;have e1:a≠s:=aq (JQ.isNew hs (by exact bT ⟨_,KS⟩)) e;simp only [f_,aj,Ez,GH]at na;exact ap e1 (JS a o (by exact aE na.1) (JQ a o (by exact aE na.2) e))
theorem zw {lim:d_}
 (hc:Z c=a_ (.inst 401 dc (dM hp dsA pl em))) (hh:Z hp=a_ (.inst 225 dh (bN lim last z)))
 (h:∀Z' s d l,isNew Z s->isNew Z l->l≠s->ai [hp] Z Z'->Z' s=a_ (bU d (last+1) 1 l .none)->Z' l=a_ (.lst [])->Z' hp=a_ (.inst 225 dh (bN lim (last+1) z))->Q (.ref s) Z'):
 aI KC (aJ KC 3) 2 370 [.ref c,.none] Z Q:=by
 intros z c hp dh dsA pl em dc last Z Q lim;refine⟨rfl,?_⟩;show au _ _ _ ⟨[("self",.ref c),("value",.none)],[]⟩ _ _;refine a8 (aX (av (aa rfl (az hc rfl (bZ hh rfl rfl (af (aX (aa rfl (bZ hc rfl rfl (af (aa rfl (am (aF rfl (ze ?_))))))))))))));refine am (aF rfl (qh hh rfl λZ2 s d l hs hl M7 JS NA JX MU=>aV rfl ?_));have MZ:hp≠s:=aq hs hh;refine cC (aK (aa rfl (cW NA ?_)));refine a9 (aa rfl (h _ s d l hs hl M7 ?_ (ad _ _ _) (ap M7 JX) (ap MZ MU)));intro a o na e;exact ap (aq hs e) (JS a o na e)
theorem tV {x s Vi:d_}{dS:d_}{k Lh ks:Int}{Vr:c_}{UR aP:Dm}{r:b_ (Str×Value)}
 (hc:Z c=a_ (.inst 401 dc (dM hp dsA pl em))) (hpl:Z pl=a_ (.dic [] np)) (hem:Z em=a_ (.dic [] ne)) (KV:Z rf=a_ (.inst 162 rd (gq x)))
 (hs:Z s=a_ (.inst 66 dS (ax Lh ks Vr Vi UR aP (bG .none))))
 (hx:Z x=a_ (.inst C dt (ax num k bl wk ds fr r))) (hC:bS C "count"=e_) (hr:r.length<20) (n1:rf≠x) (n2:c≠x) (n3:s≠x)
 (h:∀Z',ai [s,x] Z Z'->Z' s=a_ (.inst 66 dS (ax Lh ks Vr Vi UR aP (bG (.ref rf))))->Z' x=a_ (.inst C dt (ax num (k+1) bl wk ds fr r))->Q .none Z'):
 aI KC (aJ KC 3) 3 363 [.ref c,.ref s,.ref rf] Z Q:=by
 intros C wk c hp dt dsA pl em dc rd rf num np ne fr ds Z bl Q x s Vi dS k Lh ks Vr UR aP r;refine⟨rfl,?_⟩;show au _ _ _ ⟨[("self",.ref c),("scalar",.ref s),("value",.ref rf)],[]⟩ _ _;refine bE (aX (av (aa rfl (az hc rfl (i7 hpl rfl (af (av (aa rfl (az hs rfl (af (bI (am (bH (j4 hpl ⟨rfl,?_⟩))))))))))))));refine bE (aX (av (aa rfl (az hc rfl (i7 hem rfl (af (av (aa rfl (az hs rfl (af (bI (am (bH (j4 hem ⟨rfl,?_⟩))))))))))))));refine aO (aU (av (aa rfl (az hs rfl (bI ⟨g',rfl,aM rfl (ay ?_)⟩)))));refine a8 (av (aa rfl (az hs rfl (aV rfl ?_))));refine cC (aX (aa rfl (bZ hc rfl rfl (af (aa rfl (am (aF rfl (tH hc rfl KV hx hC hr n1 λZ1 JQ KS=>?_))))))));have KW:=JQ.get hs (by exact aE n3);refine aa rfl (cW KW ?_);have JY:=JQ.get hc (by exact aE n2);have Tx:c≠s:=by exact ag hc hs
 have J0:(Z1.set s (.inst 66 dS (ax Lh ks Vr Vi UR aP (bG (.ref rf))))) c=a_ (.inst 401 dc (dM hp dsA pl em)):=ap Tx JY;refine bE (aX (aa rfl (bZ J0 rfl rfl (af (aa rfl (af (aa rfl (am (aF rfl (tI λZ2 JS=>⟨rfl,?_⟩))))))))));refine ay (h Z2 ?_ (JS.get (ad _ _ _) aj) (JS.get (ap n3.symm KS) aj));intro a o na e;simp only [f_,aj,Ez,GH]at na;exact JS a o aj (ap na.1 (JQ a o (by exact aE na.2) e))
theorem tW {x:d_}{N:Nat}(h:Z x=a_ (.dic es N))(h1:b9 es (.str nm 0)=e_):dI Z .NotIn (.str nm 0) (.ref x)=a_ (!(es.lookup (.str nm 0)).isSome):=by
 unfold dI iR;dsimp only;rw[h];dsimp only;rw[z_ h1];rfl
theorem tX {N:Nat}{g:c_}(hs:Z st=a_ (.inst 799 sd (gr hp gl)))(hg:Z gl=a_ (.dic es N))(hk:b9 es (.str nm 0)=e_)(hl:es.lookup (.str nm 0)=a_ g)(h:Q g Z):
 aI KC (aJ KC 3) 2 761 [.ref st,.str nm 0] Z Q:=by
 refine⟨rfl,?_⟩;show au _ _ _ ⟨[("self",.ref st),("name",.str nm 0)],[]⟩ _ _;refine aO (aU (aa rfl (av (aa rfl (az hs rfl ⟨_,tW hg hk,aM (by rw[hl];rfl) (ay ?_)⟩)))));exact a9 (cQ (av (aa rfl (az hs rfl (aa rfl ⟨_,hZ hg hk hl,h⟩)))))
section
variable{T:a6}
theorem tY {o e:Expr}{a:Str}(h:(aw T k).1 e sc fm Z λv Z=>(aw T k).1 o sc fm Z λw Z=>(aw T k).1 (.Name a p3) sc fm Z λu Z=>jS Z w u v λZ=>au (aT T k (n+1)) r sc fm Z Qs)(h2:fk e=g':=by rfl):
 au (aT T k (n+1)) (.Assign [.Subscript o (.Name a p3) p] e pos::r) sc fm Z Qs:=.inr (.inr (.inl ⟨_,_,_,rfl,h2,rfl,h⟩))
theorem tZ {k v:c_}(hk:(k==k)=e_):∀ {es:b_ (Value×Value)},(cM k v es).lookup k=a_ v
 | []=>by simp[cM,EA,hk]
 |(y,u)::r=>by
  unfold cM;by_cases e:(k==y)=e_
  ·rw[z_ e];simp[EA,e]
  ·rw[p_ e]
   have e':(k==y)=g':=by simpa using e
   simp only [EA,e'];exact tZ hk
theorem t0 {k:Str}{v:c_}:∀ {es:b_ (Value×Value)},(es.all λp=>isStr p.1)=e_->((cM (.str k 0) v es).all λp=>isStr p.1)=e_
 | [],_=>rfl
 |(y,u)::r,h=>by
  rw[D5,u_]at h;unfold cM;split
  ·rw[D5,h.1,h.2];rfl
  ·rw[D5,h.1,t0 h.2];rfl
end
theorem zx {lim:d_}{N:Nat}(hs:Z st=a_ (.inst 799 sd (gr hp gl)))(hg:Z gl=a_ (.dic es N))
 (hk:(es.all λp=>isStr p.1)=e_) (hl:es.lookup (.str nm 0)=h_) (hn:es.length<1000) (hq:((.str nm 0:c_)== .str nm 0)=e_) (hh:Z hp=a_ (.inst 225 dh (bN lim last z)))
 (h:∀Z' x d l N',isNew Z x->isNew Z l->l≠x->ai [hp,gl] Z Z'->Z' x=a_ (.inst 142 d (ax (last+1) 0 .none l g' g' (dC nm .none)))->Z' l=a_ (.lst [])->Z' gl=a_ (.dic (cM (.str nm 0) (.ref x) es) N')->Z' hp=a_ (.inst 225 dh (bN lim (last+1) z))->Q (.ref x) Z'):
 aI KC (aJ KC 3) 2 761 [.ref st,.str nm 0] Z Q:=by
 intros z hp dh gl st sd last Z nm Q es lim N;refine⟨rfl,?_⟩;show au _ _ _ ⟨[("self",.ref st),("name",.str nm 0)],[]⟩ _ _;have ng:gl≠hp:=by exact ag hg hh
 have YD:st≠hp:=by exact ag hs hh
 have RO:st≠gl:=by exact ag hs hg
 refine aO (aU (aa rfl (av (aa rfl (az hs rfl ⟨_,tW hg hk,aZ (by exact hl▸rfl) ?_⟩)))));refine tY (aX (av (aa rfl (az hs rfl (bZ hh rfl rfl (af (aa rfl (am (aF rfl (yY hh λZ1 x d l hx KA n1 JQ KS du Ka=>?_))))))))));have KW:=JQ.get hs (by exact aE YD);have K9:=JQ.get hg (by exact aE ng);refine av (aa rfl (az KW rfl (aa rfl (j5 K9 hk hn λN'=>?_))));refine ay ?_;have nxg:x≠gl:=(aq hx hg).symm;have YI:l≠gl:=(aq KA hg).symm;refine a9 (cQ (av (aa rfl (az (ap RO KW) rfl (aa rfl ⟨_,hZ (ad _ _ _) (t0 hk) (tZ hq),?_⟩)))));refine h _ x d l N' hx KA n1 ?_ (ap nxg KS) (ap YI du) (ad _ _ _) (ap ng.symm Ka);intro a o na e;simp only [f_,aj,Ez,GH]at na;exact ap na.2 (JQ a o (by exact aE na.1) e)
section
variable{T:a6}
theorem t3 {cn a:Str}{x D:d_}{b:Dm}(h1:bM sc "isinstance" fm Z=a_ (.builtin "isinstance"))(h3:bM sc vn fm Z=a_ (.ref x))(h4:Z x=a_ (.inst C d fl))(hA:Z x=a_ (.inst C d fl)->∀Q:bC,Q v Z->gF Z (.ref x) a Q)(h2:bM sc cn fm Z=a_ (.ref D))(hb:iS Z v D=a_ b)(h:Qb b Z)(hm:cF vn=e_:=by rfl)(hn:cF cn=e_:=by rfl):
 (aw T (n+4)).2 (.Call (.Name "isinstance" p1) [.Attribute (.Name vn p2) a p4,.Name cn p3] [] pos) sc fm Z Qb:=
 ⟨rfl,aA (Q:=λv Z=>fA Z v λb=>Qb b Z) h1 (af (av (aa h3 (hA h4 _ (af (aa h2 (am (bH ⟨kU,rfl,.inl ⟨_,rfl,b,hb,h⟩⟩)) hn))) hm)))⟩
end
theorem zy {k:Int}(ht:Z t=a_ (.inst 85 dt (ax num k bl wk ds fr (cX its))))(hi:Z its=a_ (.lst xs))(hz:xs.length<=1000)(hx:∀v∈xs,fp v=e_)
 (h:∀Z' l,isNew Z l->ai [] Z Z'->Z' l=a_ (.lst xs)->Q (.ref l) Z'):aI KC (aJ KC 2) 1 655 [.ref t] Z Q:=by
 refine⟨rfl,?_⟩;show au _ _ _ ⟨[("thing",.ref t)],[]⟩ _ _;refine a8 (aA rfl (af (aa rfl (am (aF rfl (tD ht hi hz hx λZ' l hl hF hL=>aV rfl ?_))))));have J7:=hF.get ht aj;refine aO (fG (cI (bX rfl rfl rfl (cH J7 rfl rfl) (aM rfl (aM rfl (ay ?_))))));exact a9 (aa rfl (h Z' l hl hF hL))
theorem zA {k:Int}(ht:Z t=a_ (.inst 142 dt (ax num k bl wk ds fr (dC nm v))))(hv:ej v=e_)
 (h:∀Z' l,isNew Z l->ai [] Z Z'->Z' l=a_ (.lst ([v].filter fp))->Q (.ref l) Z'):aI KC (aJ KC 2) 1 655 [.ref t] Z Q:=by
 refine⟨rfl,?_⟩;show au _ _ _ ⟨[("thing",.ref t)],[]⟩ _ _;refine a8 (aA rfl (af (aa rfl (am (aF rfl (y8 ht hv λZ' l hl hF hL=>aV rfl ?_))))));have J7:=hF.get ht aj;refine aO (fG (cI (bX rfl rfl rfl (cH J7 rfl rfl) (aM rfl (aM rfl (ay ?_))))));exact a9 (aa rfl (h Z' l hl hF hL))
theorem zB {k:Int}(ht:Z t=a_ (.inst 66 dt (ax num k bl wk ds fr (bG .none))))
 (h:∀Z' l,isNew Z l->ai [] Z Z'->Z' l=a_ (.lst [])->Q (.ref l) Z'):aI KC (aJ KC 2) 1 655 [.ref t] Z Q:=by
 refine⟨rfl,?_⟩;show au _ _ _ ⟨[("thing",.ref t)],[]⟩ _ _;refine a8 (aA rfl (af (aa rfl (am (aF rfl (nJ ht λZ' l hl hF hL=>aV rfl ?_))))));have J7:=hF.get ht aj;refine aO (fG (cI (bX rfl rfl rfl (cH J7 rfl rfl) (aZ rfl (cI (t3 rfl rfl J7 (λh Q q=>az h rfl q) rfl rfl (aM rfl (aM rfl (ay ?_)))))))));exact a9 (aa rfl (h Z' l hl hF hL))
theorem t7 {x:d_}{k:Int}(ht:Z t=a_ (.inst 66 dt (ax num k bl wk ds fr (bG (.ref rf)))))(KV:Z rf=a_ (.inst 162 rd (gq x)))
 (h:∀Z' l,isNew Z l->ai [] Z Z'->Z' l=a_ (.lst [.ref x])->Q (.ref l) Z'):aI KC (aJ KC 2) 1 655 [.ref t] Z Q:=by
 intros wk t dt rd rf num fr ds Z bl Q x k;refine⟨rfl,?_⟩;show au _ _ _ ⟨[("thing",.ref t)],[]⟩ _ _;refine a8 (aA rfl (af (aa rfl (am (aF rfl (nJ ht λZ' l hl hF hL=>aV rfl ?_))))));intros Z' l;have J7:=hF.get ht aj;have Lg:=hF.get KV aj;refine aO (fG (cI (bX rfl rfl rfl (cH J7 rfl rfl) (aZ rfl (cI (t3 rfl rfl J7 (λh Q q=>az h rfl q) rfl (cH Lg rfl rfl) (aZ rfl (dk (aZ rfl ?_)))))))));refine bE (aX (aa rfl (dY hL rfl (af (av (av (aa rfl (az J7 rfl (az Lg rfl (am (bH (eR hL (by simp) ⟨rfl,?_⟩))))))))))));refine ay ?_;refine a9 (aa rfl (h _ l hl ?_ (ad _ _ _)));intro a o na e;exact ap (aq hl e) (hF a o na e)
section
variable{T:a6}
theorem j7 {t:Expr}{b:b_ Gf}(h:mL (aw T k).2 (aT T k n) t b sc fm Z λfl fm Z=>match fl with |.next=>au (aT T k (n+1)) r sc fm Z Qs|f=>Qs f fm Z):
 au (aT T k (n+1)) (.While t b [] pos::r) sc fm Z Qs:=⟨rfl,h⟩
theorem t8 {x:d_}{xs:b_ c_}(h1:Z x=a_ (.lst (xs++[v])))(hz:xs.length<=100000)(h:Q v (Z.set x (.lst xs))):ek "list.pop" [.ref x] Z Q:=by
 exact⟨mD,rfl,_,iA h1,xs,v,rfl,hz,h⟩
theorem ua {e a b:Expr}(h:(aw T n).1 e sc fm Z λv Z=>(aw T n).1 (.Subscript a b p1) sc fm Z λw Z=>kP (d5 Z v w) λu=>Q u Z):(aw T (n+1)).1 (.Subscript e (.Subscript a b p1) p) sc fm Z Q:=.inl ⟨rfl,h⟩
theorem zC {e i:Expr}(h:(aw T n).1 (.Subscript e i p1) sc fm Z λv Z=>eP (aw T n).1 args sc fm Z λvs Z=>c9 T v vs Z Q)(ha:args.all dL=e_:=by rfl)
 :(aw T (n+1)).1 (.Call (.Subscript e i p1) args [] pos) sc fm Z λv Z=>Q v Z:=⟨rfl,.inl ⟨rfl,rfl,by
 have e2:(λ(g:c_) (Z:ak)=>args.all dL=e_/\eP (aw T n).1 args sc fm Z λvs Z=>c9 T g vs Z Q)=λg Z=>eP (aw T n).1 args sc fm Z λvs Z=>c9 T g vs Z Q:=by
  funext g Z;exact propext ⟨λh=>h.2,λh=>⟨ha,h⟩⟩
 show(aw T n).1 (.Subscript e i p1) sc fm Z λg Z=>args.all dL=e_/\eP (aw T n).1 args sc fm Z λvs Z=>c9 T g vs Z Q;rw[e2];exact h⟩⟩
theorem zD:d5 Z (.ref 533) (.str "scalar" 0) (.ref 462):=.inr ⟨rfl,rfl,rfl⟩
theorem nT {a b:Int}:dI Z .Gt (.int a 0) (.int b 0)=a_ (decide (b<a)):=rfl
end
theorem zE {lim g put:d_}{Mh:c_}{zs:b_ c_}
 (hr:Z rn=a_ (.inst 714 rd fl)) (hfl:fl.lookup ("counter":Str)=a_ (.ref c)) (Oh:fl.lookup ("saves":Str)=a_ (.ref saves)) (Kn:Z saves=a_ (.lst [.ref sv])) (Mx:Z sv=a_ (.tup [.str "scalar" 0,.ref g,Mh]))
 (hc:Z c=a_ (.inst 401 dc (dM hp dsA pl em))) (hh:Z hp=a_ (.inst 225 dh (bN lim last z))) (hz:Z z=a_ (.lst zs)) (KZ:zs.length<=1000)
 (hg:Z g=a_ (.inst 142 dg (ax Lo gk Of NV Og MS (dC nm (.ref put))))) (ht:Z put=a_ (bU dp num 1 wk v)) (ngp:g≠put) (Od:g≠z) (nsz:saves≠z)
 (h:∀Z',ai [put,z,g,saves] Z Z'->Z' saves=a_ (.lst [])->Z' put=a_ (bU dp num 0 wk v)->Z' z=a_ (.lst (zs++[.ref put]))->Z' g=a_ (.inst 142 dg (ax Lo gk Of NV Og MS (dC nm Mh)))->Q .none Z'):
 aI KC (aJ KC 3) 2 540 [.ref rn,.int 0 0] Z Q:=by
 intros z wk c hp dh dsA pl em dc rd rn NV dp dg sv saves num last Lo gk Og MS Z v Of fl nm Q lim g put Mh zs;refine⟨rfl,?_⟩;show au _ _ _ ⟨[("run",.ref rn),("mark",.int 0 0)],[]⟩ _ _;have U1:rn≠saves:=by exact ag hr Kn
 have nrp:rn≠put:=by exact ag hr ht
 have nrz:rn≠z:=by exact ag hr hz
 have XE:rn≠g:=by exact ag hr hg
 have nvs:sv≠saves:=by exact ag Mx Kn
 have Tx:c≠saves:=by exact ag hc Kn
 have UZ:hp≠saves:=by exact ag hh Kn
 have SC:g≠saves:=by exact ag hg Kn
 have Yl:put≠saves:=by exact ag ht Kn
 refine j7 ⟨λj fm Z'=>(j=1/\fm=⟨[("run",.ref rn),("mark",.int 0 0)],[]⟩/\Z'=Z)\/(j=0/\(∃w,fm=⟨[("run",.ref rn),("mark",.int 0 0),("save",w)],[]⟩)/\ai [put,z,g,saves] Z Z'/\Z' saves=a_ (.lst [])/\Z' put=a_ (bU dp num 0 wk v)/\Z' z=a_ (.lst (zs++[.ref put]))/\Z' g=a_ (.inst 142 dg (ax Lo gk Of NV Og MS (dC nm Mh)))),1,.inl ⟨rfl,rfl,rfl⟩,?_⟩;rintro j fm Z' (⟨rfl,rfl,rfl⟩ |⟨rfl,⟨w,rfl⟩,hF,a1,a2,a3,a4⟩)
 ·intros Z'
  refine aU (aA rfl (af (av (aa rfl (az hr Oh (am (bH (gu Kn (by simp) (aa rfl ⟨_,nT,aZ (by exact rfl) ?_⟩)))))))));refine a8 (aX (av (aa rfl (az hr Oh (dY Kn rfl (am (bH (t8 (xs:=[]) Kn (by simp) (aV rfl ?_)))))))));have K4:ai [saves] Z' (Z'.set saves (.lst [])):=(ai.refl _ _).set (.head _);have TI:(Z'.set saves (.lst [])) saves=a_ (.lst []):=ad _ _ _;generalize Z'.set saves _=Z1 at K4 TI⊢;have Lg:=K4.get hr (by exact aE U1);have JY:=K4.get hc (by exact aE Tx);have Ka:=K4.get hh (by exact aE UZ);have Lm:=K4.get hz (by exact aE nsz.symm);have K9:=K4.get hg (by exact aE SC);have J7:=K4.get ht (by exact aE Yl);have Qu:=K4.get Mx (by exact aE nvs);refine bE (zC (ua (aa rfl (d9 (aa rfl (aK ⟨_,nQ Qu (by decide) (by decide) rfl,_,zD,af (aa rfl (af (aa rfl (am (aF rfl (zu Lg hfl Qu JY Ka Lm KZ K9 J7 ngp Od λZ2 JS b1 b2 b3=>⟨rfl,?_⟩))))))⟩))))));refine ay ⟨0,Nat.zero_lt_one,.inr ⟨rfl,⟨_,rfl⟩,?_,JS.get TI (by exact eZ Yl.symm nsz SC.symm),b1,b2,b3⟩⟩;intro a o na e;simp only [f_,aj,Ez,GH]at na;exact JS a o (by exact eZ na.1 na.2.1 na.2.2.1) (K4 a o (by exact aE na.2.2.2) e)
 ·intros Z' w
  have Lg:=hF.get hr (by exact ji nrp nrz XE U1);refine aU (aA rfl (af (av (aa rfl (az Lg Oh (am (bH (gu a1 (by simp) (aa rfl ⟨_,nT,aM (by simp) (ay ?_)⟩)))))))));exact h _ hF a1 a2 a3 a4
theorem qu {g s:d_}{Ta:Str}{N:Nat}(hs:Z st=a_ (.inst 799 sd (gr hp gl)))(hg:Z gl=a_ (.dic es N))(hk:b9 es (.str nm 0)=e_)(hl:es.lookup (.str nm 0)=a_ (.ref g))
 (O8:Z g=a_ (.inst 142 dg (ax Lo gk Of NV Og MS (dC Ta (.ref s))))) (h:Q (.ref s) Z):
 aI KC (aJ KC 4) 2 768 [.ref st,.str nm 0] Z Q:=by
 refine⟨rfl,?_⟩;show au _ _ _ ⟨[("self",.ref st),("name",.str nm 0)],[]⟩ _ _;refine a8 (aX (aa rfl (bZ hs rfl rfl (af (aa rfl (am (aF rfl (tX hs hg hk hl (aV rfl ?_)))))))));refine aO (aU (av (aa rfl (az O8 rfl (bI ⟨g',rfl,aM rfl (ay ?_)⟩)))));exact a9 (av (aa rfl (az O8 rfl h)))
theorem zF {lim:d_}{N:Nat}(hs:Z st=a_ (.inst 799 sd (gr hp gl)))(hg:Z gl=a_ (.dic es N))
 (hk:(es.all λp=>isStr p.1)=e_) (hl:es.lookup (.str nm 0)=h_) (hn:es.length<1000) (hq:((.str nm 0:c_)== .str nm 0)=e_) (hh:Z hp=a_ (.inst 225 dh (bN lim last z)))
 (h:∀Z' g dg Q2 s ds sl N',isNew Z g->isNew Z Q2->isNew Z s->isNew Z sl->s≠g->sl≠g->Q2≠g->sl≠s->s≠Q2->sl≠Q2->ai [hp,gl] Z Z'->Z' g=a_ (.inst 142 dg (ax (last+1) 0 .none Q2 g' g' (dC nm (.ref s))))->Z' Q2=a_ (.lst [])->
  Z' s=a_ (bU ds (last+1+1) 1 sl .none)->Z' sl=a_ (.lst [])->Z' gl=a_ (.dic (cM (.str nm 0) (.ref g) es) N')->Z' hp=a_ (.inst 225 dh (bN lim (last+1+1) z))->Q (.ref s) Z'):
 aI KC (aJ KC 4) 2 768 [.ref st,.str nm 0] Z Q:=by
 intros z hp dh gl st sd last Z nm Q es lim N;refine⟨rfl,?_⟩;show au _ _ _ ⟨[("self",.ref st),("name",.str nm 0)],[]⟩ _ _;have ng:gl≠hp:=by exact ag hg hh
 have YD:st≠hp:=by exact ag hs hh
 have RO:st≠gl:=by exact ag hs hg
 refine a8 (aX (aa rfl (bZ hs rfl rfl (af (aa rfl (am (aF rfl (zx hs hg hk hl hn hq hh λZ1 g dg l N' hx KA n1 JQ KS du K9 Ka=>aV rfl ?_))))))));intros Z1 g dg l N';have KW:=JQ.get hs (by exact cJ YD RO);refine aO (aU (av (aa rfl (az KS rfl (bI ⟨e_,rfl,aZ rfl ?_⟩)))));refine cC (aX (av (aa rfl (az KW rfl (bZ Ka rfl rfl (af (bI (am (aF rfl (qh Ka rfl λZ2 s d2 l2 ns nl M7 JS NA JX MU=>?_))))))))));intros Z2 s d2 l2;have SO:g≠hp:=(aq hx hh).symm;have nlh:l≠hp:=(aq KA hh).symm;have Ou:s≠g:=(aq ns KS).symm;have Tt:l2≠g:=(aq nl KS).symm;have Sp:s≠l:=(aq ns du).symm;have Xs:l2≠l:=(aq nl du).symm;have W5:s≠gl:=(aq ns K9).symm;have XV:s≠hp:=(aq ns Ka).symm;have YK:g≠gl:=(aq hx hg).symm;have KX:=JS.get KS (by exact aE SO);have Nj:=JS.get du (by exact aE nlh);have Tv:=JS.get K9 (by exact aE ng);refine aa rfl (cW KX ?_);have PU:(Z2.set g (.inst 142 dg (ax (last+1) 0 .none l g' g' (dC nm (.ref s))))) g=a_ (.inst 142 dg (ax (last+1) 0 .none l g' g' (dC nm (.ref s)))):=ad _ _ _;have PG:(Z2.set g (.inst 142 dg (ax (last+1) 0 .none l g' g' (dC nm (.ref s))))) s=a_ (bU d2 (last+1+1) 0 l2 .none):=ap Ou NA;refine qb (av (aa rfl (az PU rfl (qc PG rfl (aK (tF (cW PG (ay ?_))))))));refine a9 (av (aa rfl (az (ap Ou.symm PU) rfl ?_)));have XX:ai [hp,gl] Z Z2:=JQ.trans JS (by intro a ha;simp at ha;subst ha;exact .inl (.head _));refine h _ g dg l s d2 l2 N' hx KA (JQ.isNew ns ?_) (JQ.isNew nl ?_) Ou Tt n1 M7 Sp Xs ?_ (ap Ou.symm PU) (ap Sp.symm (ap n1 Nj)) (ad _ _ _) (ap M7 (ap Tt JX)) (ap W5.symm (ap YK.symm Tv)) (ap XV.symm (ap SO.symm MU))
 ·exact iO ⟨_,Ka⟩ ⟨_,K9⟩
 ·exact iO ⟨_,Ka⟩ ⟨_,K9⟩
 ·intro a o na e
  have e1:a≠g:=aq hx e;have e2:a≠s:=aq (JQ.isNew ns (by exact iO ⟨_,Ka⟩ ⟨_,K9⟩)) e;exact ap e2 (ap e1 (XX a o na e))
section
variable{T:a6}
theorem fi {es:b_ Expr}{cx:Nat}(h:eP (aw T n).1 es sc fm Z λvs Z=>vs.length<=1000/\∀l,isNew Z l->Q (.ref l) (Z.set l (.tup vs)))(ha:es.all dL=e_:=by rfl):(aw T (n+1)).1 (.Tuple es cx p) sc fm Z Q:=⟨ha,h⟩
end
theorem zG {g s lim:d_}{Ta:Str}{N:Nat}
 (hr:Z rn=a_ (.inst 714 rd fl)) (hfl:fl.lookup ("counter":Str)=a_ (.ref c)) (Oh:fl.lookup ("saves":Str)=a_ (.ref saves)) (LK:fl.lookup ("stash":Str)=a_ (.ref st)) (Kn:Z saves=a_ (.lst vs)) (hvs:vs.length<=1000)
 (hs:Z st=a_ (.inst 799 sd (gr hp gl))) (hg:Z gl=a_ (.dic es N)) (hk:b9 es (.str nm 0)=e_) (hl:es.lookup (.str nm 0)=a_ (.ref g))
 (hc:Z c=a_ (.inst 401 dc (dM hp dsA pl em))) (hh:Z hp=a_ (.inst 225 dh (bN lim last z)))
 (O8:Z g=a_ (.inst 142 dg (ax Lo gk Of NV Og MS (dC Ta (.ref s)))))
 (h:∀Z' sv pt d l,isNew Z sv->isNew Z pt->isNew Z l->pt≠sv->l≠pt->l≠sv->ai [hp,saves,g] Z Z'->Z' sv=a_ (.tup [.str "scalar" 0,.ref g,.ref s])->Z' saves=a_ (.lst (vs++[.ref sv]))->Z' pt=a_ (bU d (last+1) 1 l .none)->Z' l=a_ (.lst [])->
  Z' hp=a_ (.inst 225 dh (bN lim (last+1) z))->Z' g=a_ (.inst 142 dg (ax Lo gk Of NV Og MS (dC Ta (.ref pt))))->Q (.ref pt) Z'):
 aI KC (aJ KC 5) 2 448 [.ref rn,.str nm 0] Z Q:=by
 intros z c hp dh dsA pl em dc rd gl rn st sd NV dg saves last Lo gk Og MS Z vs Of fl nm Q es g s lim Ta N;refine⟨rfl,?_⟩;show au _ _ _ ⟨[("run",.ref rn),("name",.str nm 0)],[]⟩ _ _;have U1:rn≠saves:=by exact ag hr Kn
 have Tx:c≠saves:=by exact ag hc Kn
 have UZ:hp≠saves:=by exact ag hh Kn
 have SC:g≠saves:=by exact ag O8 Kn
 have SO:g≠hp:=by exact ag O8 hh
 refine a8 (aX (av (aa rfl (az hr LK (bZ hs rfl rfl (af (aa rfl (am (aF rfl (tX hs hg hk hl (aV rfl ?_)))))))))));refine bE (aX (av (aa rfl (az hr Oh (dY Kn rfl (af (fi (af (bJ (af (aa rfl (af (aX (av (aa rfl (az hr LK (bZ hs rfl rfl (af (aa rfl (am (aF rfl (qu hs hg hk hl O8 (am ⟨by simp,λsv TS=>am (bH ?_)⟩)))))))))))))))))))))));intros sv;have nvs:saves≠sv:=aq TS Kn;refine eR (ap nvs Kn) (by walk_at "o") ⟨rfl,?_⟩;have JQ:ai [saves] Z ((Z.set sv (.tup [.str "scalar" 0,.ref g,.ref s])).set saves (.lst (vs++[.ref sv]))):=((ai.refl _ Z).new TS).set (.head _);have Qu:((Z.set sv (.tup [.str "scalar" 0,.ref g,.ref s])).set saves (.lst (vs++[.ref sv]))) sv=a_ (.tup [.str "scalar" 0,.ref g,.ref s]):=ap nvs.symm (ad _ _ _);have Oo:((Z.set sv (.tup [.str "scalar" 0,.ref g,.ref s])).set saves (.lst (vs++[.ref sv]))) saves=a_ (.lst (vs++[.ref sv])):=ad _ _ _;generalize ((Z.set sv _).set saves _)=Z1 at JQ Qu Oo⊢;have Lg:=JQ.get hr (by exact aE U1);have JY:=JQ.get hc (by exact aE Tx);have Ka:=JQ.get hh (by exact aE UZ);have K9:=JQ.get O8 (by exact aE SC);refine cC (aX (av (aa rfl (az Lg hfl (bZ JY rfl rfl (af (bI (am (aF rfl (zw JY Ka λZ2 pt d l Yp nl Y4 JS Q3 JX MU=>?_))))))))));have Tv:=JS.get K9 (by exact aE SO);have V2:=JS.get Oo (by exact aE UZ.symm);have V7:sv≠hp:=(aq TS hh).symm;have WT:=JS.get Qu (by exact aE V7);have npg:pt≠g:=(aq Yp K9).symm;have YI:l≠g:=(aq nl K9).symm;refine aa rfl (cW Tv ?_);refine a9 (av (aa rfl (az (ad _ _ _) rfl ?_)));have RO:sv≠g:=(aq TS O8).symm;refine h _ sv pt d l TS (JQ.isNew Yp (by exact bT ⟨_,Oo⟩)) (JQ.isNew nl (by exact bT ⟨_,Oo⟩)) (aq Yp Qu).symm Y4 (aq nl Qu).symm ?_ (ap RO WT) (ap SC.symm V2) (ap npg Q3) (ap YI JX) (ap SO.symm MU) (ad _ _ _);intro a o na e;simp only [f_,aj,Ez,GH]at na;exact ap na.2.2 (JS a o (by exact aE na.1) (JQ a o (by exact aE na.2.1) e))
section
variable{T:a6}
theorem j8 {ts:b_ Expr}{e:Expr}{xs:b_ Str}{sw:Dm}{cx:Nat}(h:(aw T k).1 e sc fm Z λv Z=>lc sc xs sw v fm Z λfm Z=>au (aT T k (n+1)) r sc fm Z Qs)
 (h3:iX ts=a_ xs) (h4:k7 sc ts e=a_ sw) (h1:fk e=g') (h2:mK sc ts=e_) (hq:T 28=h_:=by rfl):
 au (aT T k (n+1)) (.Assign [.Tuple ts cx p] e pos::r) sc fm Z Qs:=.inr (.inr (.inr ⟨_,_,_,rfl,hq,h1,h2,xs,h3,sw,h4,h⟩))
theorem nU {xs:b_ Str}{kk:Fm->ak->Prop}(h1:Z a=a_ (.tup vs))(h2:xs.length=vs.length)(h:gR sc xs vs fm Z kk):lc sc xs g' (.ref a) fm Z kk:=⟨a,vs,rfl,h1,h2,h⟩
theorem ub {xs:b_ Str}{kk:Fm->ak->Prop}(h1:Z a=a_ (.tup vs))(h2:xs.length=vs.length)(h:gR sc xs.reverse vs.reverse fm Z kk):lc sc xs e_ (.ref a) fm Z kk:=⟨a,vs,rfl,h1,h2,h⟩
theorem j9 {kk:Fm->ak->Prop}(h:kk fm Z):gR sc [] [] fm Z kk:=h
theorem fu {x:Str}{xs:b_ Str}{kk:Fm->ak->Prop}(h:dv sc x v fm Z λfm Z=>gR sc xs vs fm Z kk):gR sc (x::xs) (v::vs) fm Z kk:=h
theorem zH {x:d_}{xs:b_ c_}{v:c_}(h1:Z x=a_ (.lst (v::xs)))(hz:xs.length<=100000)(h:Q v (Z.set x (.lst xs))):ek "list.pop" [.ref x,.int 0 0] Z Q:=by
 exact⟨mD,rfl,rfl,_,iA h1,v,xs,rfl,hz,h⟩
theorem lH {B:TT}{S:ST}{t:Expr}{b:b_ Gf}(I:Nat->Fm->ak->Prop)(N:Nat)(h0:I N fm Z)
 (h:∀j fm Z,I j fm Z->∀Qz:cT,(∀fl fm Z,la Qs (λfm Z=>∃i,i<j/\I i fm Z) fl fm Z->Qz fl fm Z)->B t sc fm Z λc Z=>if c=e_ then au S b sc fm Z Qz else Qs .next fm Z):mL B S t b sc fm Z Qs:=⟨I,N,h0,λj fm Z hI=>h j fm Z hI _ λU U U h=>h⟩
end
theorem C0 (xs:b_ Int):((xs.map λi=>(.int i 0:c_)).filter λv=>match v with |.int i _=>decide (0<=i) |_=>g')=(xs.filter λi=>decide (0<=i)).map λi=>(.int i 0:c_):=by exact Hl
noncomputable def vI (i:Int):c_:=.int i 0
noncomputable def lJ (v:c_):Dm:=match v with |.int i _=>decide (0<=i) |_=>g'
theorem ke (xs:b_ Int):(xs.map vI).all bO=e_:=by exact Ef.trans (l_.mpr λU U=>rfl)
theorem uc {b:d_}{xs:b_ Int}(h1:Z a=a_ (.lst (xs.map vI)))(h2:Z b=a_ (.lst [])):dI Z .NotEq (.ref a) (.ref b)=a_ (!(xs.map vI==[])):=by
 unfold dI jk;dsimp only [fN,fX,fP,Option.elim,GA];rw[h1,h2];dsimp only [iu,GA];rw[z_ (by rw[ke];rfl)];rfl
theorem zI {xs:b_ Int}(h1:Z a=a_ (.lst (xs.map vI))):dI Z .NotIn (.int i 0) (.ref a)=a_ (!((xs.map vI).contains (.int i 0))):=by
 unfold dI iR;dsimp only;rw[h1];dsimp only;rw[z_ (by rw[ke];rfl)];rfl
theorem ud {xs:b_ Int}:(xs.map vI).contains (.int i 0)=xs.contains i:=by
 induction xs with
 |nil=>rfl
 |cons x r ih=>
  rw[n_,DY,DY,ih];congr 1;by_cases e:i=x
  ·subst e;exact(C' _).trans (C' _).symm
  ·rw[r'.mpr e]
   exact r'.mpr λq=>e (by unfold vI at q;injection q)
structure gv (kin:b_ (b_ Int))(fs J8 JW:b_ Int):Prop where
 nd:J8.Nodup
 cov:∀x∈fs,x∈J8\/x∈JW
 step:∀x∈J8,∀row,kin[x.toNat]? =a_ row->∀y∈row,y∈J8\/y∈JW
 rng:∀x,(x∈J8\/x∈JW)->0<=x/\x.toNat<kin.length
 least:∀S:Int->Prop,(∀x∈fs,S x)->(∀x row,S x->kin[x.toNat]? =a_ row->∀y∈row,S y)->∀x,(x∈J8\/x∈JW)->S x
theorem gv.skip {kin:b_ (b_ Int)}{rest:b_ Int}{x:Int}(h:gv kin fs J8 (x::rest))(hx:x∈J8):gv kin fs J8 rest where
 nd:=h.nd
 cov y hy:=(h.cov y hy).elim .inl λq=>(f_.mp q).elim (λe=>.inl (e▸hx)) .inr
 step a ha row hr y hy:=(h.step a ha row hr y hy).elim .inl λq=>(f_.mp q).elim (λe=>.inl (e▸hx)) .inr
 rng y hy:=h.rng y (hy.imp id (IL _))
 least S h1 h2 y hy:=h.least S h1 h2 y (hy.imp id (IL _))
theorem gv.take {kin:b_ (b_ Int)}{rest row:b_ Int}{x:Int}(h:gv kin fs J8 (x::rest))(hx:x∉J8)(hr:kin[x.toNat]? =a_ row)(K1:∀y∈row,0<=y/\y.toNat<kin.length):gv kin fs (J8++[x]) (rest++row)where
 nd:=by
  rw[Dk];exact⟨h.nd,by simp,λa ha b hb e=>hx (by simp at hb;exact hb▸e▸ha)⟩
 cov y hy:=by
  rcases h.cov y hy with q|q
  ·exact .inl (y' _ q)
  ·rcases f_.mp q with rfl|q
   ·exact .inl (by simp)
   ·exact .inr (y' _ q)
 step a ha row' Oj y hy:=by
  rcases s_.mp ha with q|q
  ·rcases h.step a q row' Oj y hy with q|q
   ·exact .inl (y' _ q)
   ·rcases f_.mp q with rfl|q
    ·exact .inl (by simp)
    ·exact .inr (y' _ q)
  ·simp only [f_,aj,Ez]at q
   subst q;rw[hr]at Oj;cases Oj;exact .inr (D_ _ hy)
 rng y hy:=by
  rcases hy with q|q
  ·rcases s_.mp q with q|q
   ·exact h.rng y (.inl q)
   ·simp only [f_,aj,Ez]at q
    subst q;exact h.rng y (.inr (.head _))
  ·rcases s_.mp q with q|q
   ·exact h.rng y (.inr (.tail _ q))
   ·exact K1 y q
 least S h1 h2 y hy:=by
  have sx:S x:=h.least S h1 h2 x (.inr (.head _));rcases hy with q|q
  ·rcases s_.mp q with q|q
   ·exact h.least S h1 h2 y (.inl q)
   ·simp only [f_,aj,Ez]at q
    subst q;exact sx
  ·rcases s_.mp q with q|q
   ·exact h.least S h1 h2 y (.inr (.tail _ q))
   ·exact h2 x row sx hr y q
theorem gv.start {kin:b_ (b_ Int)}(h:∀x∈fs,0<=x/\x.toNat<kin.length):gv kin fs [] fs where
 nd:=HL
 cov x hx:=.inr hx
 step x hx:=by simp at hx
 rng x hx:=h x (by simpa using hx)
 least S h1 h2 x hx:=h1 x (by simpa using hx)
theorem lK:∀ (n:Nat) (l:b_ Int),l.Nodup->(∀x∈l,0<=x/\x.toNat<n)->l.length<=n
 |0,[],_,_=>DW _
 |0,x::r,_,h=>absurd (h x (.head _)).2 (Iu _)
 |n+1,l,nd,h=>by
  by_cases e:(n:Int)∈l
  ·have:=lK n (l.erase n) (nd.erase _) λx hx=>by
    have h1:=(nd.mem_erase_iff.mp hx);have h2:=h x h1.2;exact⟨h2.1,by have:=h1.1;walk_at "o"⟩
   rw[Gi e]at this;walk_at "o"
  ·have:=lK n l nd λx hx=>by
    have h2:=h x hx;have h3:x≠n:=λq=>e (q▸hx);exact⟨h2.1,by walk_at "o"⟩
   walk_at "a"
theorem zJ {kn fr:d_}{rows:b_ d_}{kin:b_ (b_ Int)}(KH:Z kn=a_ (.lst (rows.map .ref)))(Lb:∀ (i:Nat) (row:b_ Int),kin[i]? =a_ row->∃a,rows[i]? =a_ a/\Z a=a_ (.lst (row.map vI)))(J6:kin.length<=10)
 (Po:∀row∈kin,row.length<=2/\∀y∈row,0<=y/\y.toNat<kin.length) (hf:Z fr=a_ (.lst (firm.map vI))) (hfl:firm.length<=2) (hfr:∀x∈firm,x.toNat<kin.length)
 (h:∀Z' l J8,isNew Z l->ai [] Z Z'->Z' l=a_ (.lst (dy (J8.map vI)))->gv kin (firm.filter λi=>decide (0<=i)) J8 []->Q (.ref l) Z'):
 aI KC (aJ KC 0) 2 834 [.ref kn,.ref fr] Z Q:=by
 intros Z firm Q kn fr rows kin;refine⟨rfl,?_⟩;show au _ _ _ ⟨[("kin",.ref kn),("firm",.ref fr)],[]⟩ _ _;refine j8 (fi (af (eU λml M4=>af (dD (cl:=[]) rfl (aa rfl (ew lJ id (cY (ao M4 hf)) (by simp;walk_at "o") rfl rfl (λy hy Qb hq=>?_) (λy hy hf Q hq=>aa rfl hq) λal hal=>am ⟨by simp,λtl XR=>ub (ad _ _ _) rfl (fu (aV rfl (fu (aV rfl (j9 ?_)))))⟩)))))) rfl rfl rfl rfl
 ·refine ac (i_.mp hy) ?_;rintro i hi rfl
  exact cI (aU (aa rfl (aK ⟨_,rfl,cG (λq=>dk (by rw[show lJ (vI i)=e_ from q]at hq;exact hq)) (λq=>by rw[show lJ (vI i)=g' from q]at hq;exact hq)⟩)))
 ·revert M4 hal;intros ml al tl
  rw[List.map_id];have OC:(firm.map vI).filter lJ=(firm.filter λi=>decide (0<=i)).map vI:=by rw[Hl];rfl
  rw[OC];have YA:al≠ml:=(aq hal (ad Z ml (.lst []))).symm;have ntm:tl≠ml:=(aq XR (ap YA.symm (ad Z ml (.lst [])))).symm;have nta:tl≠al:=(aq XR (ad _ al _)).symm;have WV:isNew ((Z.set ml (.lst [])).set al (.lst ((firm.filter λi=>decide (0<=i)).map vI))) tl:=by rw[<-OC, <-List.map_id ((firm.map vI).filter lJ)];exact XR
  have JQ:ai [] Z (((Z.set ml (.lst [])).set al (.lst ((firm.filter λi=>decide (0<=i)).map vI))).set tl (.tup [.ref ml,.ref al])):=λb o nb e=>ao WV (ao hal (ao M4 e));have OF:(((Z.set ml (.lst [])).set al (.lst ((firm.filter λi=>decide (0<=i)).map vI))).set tl (.tup [.ref ml,.ref al])) ml=a_ (.lst (([]:b_ Int).map vI)):=ap ntm.symm (ap YA.symm (ad _ _ _));have RV:(((Z.set ml (.lst [])).set al (.lst ((firm.filter λi=>decide (0<=i)).map vI))).set tl (.tup [.ref ml,.ref al])) al=a_ (.lst ((firm.filter λi=>decide (0<=i)).map vI)):=ap nta.symm (ad _ _ _);have Xx:isNew Z al:=((ai.refl [] Z).new M4).isNew hal (by exact aW);have Oh:∀x∈firm.filter λi=>decide (0<=i),0<=x/\x.toNat<kin.length:=λx hx=>⟨of_decide_eq_true (DA.mp hx).2,hfr x (DA.mp hx).1⟩;generalize WK:(firm.filter λi=>decide (0<=i))=fs at Oh OF RV JQ h⊢;have abh:fs.length<=2:=by rw[<-WK];exact o_ (DE _ _) hfl
  generalize (((Z.set ml _).set al _).set tl _)=Z1 at OF RV JQ⊢;refine j7 ?_;refine lH (λj fm Z'=>∃J8 JW ah,gv kin fs J8 JW/\j=3*(kin.length-J8.length)+JW.length/\j<=40/\fm.cel=[]/\fm.loc.lookup ("kin":Str)=a_ (.ref kn)/\fm.loc.lookup ("met":Str)=a_ (.ref ml)/\fm.loc.lookup ("ahead":Str)=a_ (.ref ah)/\ai [] Z Z'/\Z' ml=a_ (.lst (J8.map vI))/\Z' ah=a_ (.lst (JW.map vI))/\ah≠ml/\isNew Z ah) (3*kin.length+fs.length) ⟨[],fs,al,gv.start Oh,rfl,by walk_at "o",rfl,rfl,rfl,rfl,JQ,OF,RV,YA,Xx⟩ ?_;rintro j ⟨loc,cel⟩ Z' ⟨J8,JW,ah,hI,hj,Yd,JT,k1,k2,k3,hF,hm,ha,Vo,Vm⟩ Qz Kz;revert hI hj Yd JT k1 k2 k3 hF hm ha Vo Vm;intros j loc cel Z' J8 JW ah Qz;dsimp only at JT k1 k2 k3;subst JT;refine aU (aa (aB rfl k3) (eU λel MR=>⟨_,uc (ao MR ha) (ad _ _ _),cG (λq=>?_) (λq=>?_)⟩))
  ·intros el
   cases JW with
   |nil=>exact(ft q).elim
   |cons x rest=>
    intros x rest;have hx:=hI.rng x (.inr (.head _));have nk:∀ {a o},Z a=a_ o->a≠ah:=λe=>aq Vm e;have JS:ai [] Z ((Z'.set el (.lst [])).set ah (.lst (rest.map vI))):=λb o nb e=>ap (aq Vm e) (ao MR (hF b o nb e));have nea:ah≠el:=aq MR ha;have Uc:((Z'.set el (.lst [])).set ah (.lst (rest.map vI))) ml=a_ (.lst (J8.map vI)):=ap Vo.symm (ao MR hm);have Pt:((Z'.set el (.lst [])).set ah (.lst (rest.map vI))) ah=a_ (.lst (rest.map vI)):=ad _ _ _;have MM:=lK kin.length J8 hI.nd λy hy=>hI.rng y (.inl hy);refine a8 (aX (aa (aB rfl k3) (dY (ao MR ha) rfl (af (aK (am (bH (zH (v:=vI x) (xs:=rest.map vI) (ao MR ha) (by rw[b'];rw[Df]at hj;walk_at "T") (aV rfl ?_)))))))));generalize ((Z'.set el _).set ah _)=Z2 at JS Uc Pt⊢;have np:∀Z,bM (cR KC 834) "place" ⟨aL "place" (vI x) loc,[]⟩ Z=a_ (vI x):=λZ=>aB rfl (by exact d6);have nl:∀y v,y≠("place":Str)->loc.lookup y=a_ v->(aL "place" (vI x) loc).lookup y=a_ v:=λy v ny e=>by exact et e ny
    have L8:=nl ("kin":Str) _ (by decide) k1;have Mz:=nl ("met":Str) _ (by decide) k2;have Ri:=nl ("ahead":Str) _ (by decide) k3;refine aO (aU (aa (np _) (aa (aB rfl Mz) ⟨_,zI Uc,cG (λq=>?_) (λq=>ay (ay (Kz .next _ _ ?_)))⟩)))
    ·have hnx:x∉J8:=by
      have q':(!((J8.map vI).contains (.int x 0)))=e_:=q;rw[ud]at q';intro hh;rw[Fd.mpr hh]at q';exact(ft q').elim
     refine xE (⟨_,w_ hx.2⟩:∃row,kin[x.toNat]? =a_ row) λrow Rs=>?_;intros row;refine ac (Lb _ _ Rs) λa e1 e2=>?_;intros a;have YO:=Po row (B_ Rs);have Vg:=hI.take hnx Rs YO.2;have To:=lK kin.length _ Vg.nd λy hy=>Vg.rng y (.inl hy);refine bE (aX (aa (aB rfl Mz) (dY Uc rfl (af (aa (np _) (am (bH (eR Uc (by rw[b'];walk_at "a") ⟨rfl,?_⟩))))))));have JZ:ai [] Z (Z2.set ml (.lst (J8.map vI++[vI x]))):=λb o nb e=>ap (aq M4 e) (JS b o nb e);have PW:(Z2.set ml (.lst (J8.map vI++[vI x]))) ml=a_ (.lst ((J8++[x]).map vI)):=by rw[r_];exact ad _ _ _
     have Re:(Z2.set ml (.lst (J8.map vI++[vI x]))) ah=a_ (.lst (rest.map vI)):=ap Vo Pt;generalize (Z2.set ml _)=Z3 at JZ PW Re⊢;have hk3:=JZ.get KH aj;have hr3:=JZ.get e2 aj;rw[q_]at To;intros Z3;rw[Df]at hj;revert Rs e1 e2 YO Vg;intros row a Z3;simp only [Df,FG]at To;refine a8 (bB (aa (aB rfl Ri) (cQ (aa (aB rfl L8) (aa (np _) ⟨_,fh hk3 hx.1 (by walk_at "o") (by rw[k_,e1];rfl),lE Re hr3 (by rw[b',b'];walk_at "o") λl hl=>aV rfl (ay (ay (Kz .next _ _ ?_)))⟩)))));refine⟨3*(kin.length- (J8++[x]).length)+(rest++row).length,by rw[q_,q_];simp only [Df,FG];walk_at "o",J8++[x],rest++row,l,Vg,rfl,by rw[q_,q_];simp only [Df,FG];walk_at "o",rfl,?_,?_,?_,JZ.new hl,ao hl PW,by exact r_▸(ad _ _ _),(aq hl PW).symm,JZ.isNew hl (by exact aW)⟩
     ·exact et L8
     ·exact et Mz
     ·exact d6
    ·have L7:x∈J8:=by
      have q':(!((J8.map vI).contains (.int x 0)))=g':=q;rw[ud]at q';exact Fd.mp (by simpa using q')
     rw[Df]at hj;exact⟨3*(kin.length-J8.length)+rest.length,by walk_at "a",J8,rest,ah,hI.skip L7,rfl,by walk_at "o",rfl,L8,Mz,Ri,JS,Uc,Pt,Vo,Vm⟩
  ·have q0:JW=[]:=by
    cases JW with
    |nil=>rfl
    |cons x rest=>exact(ft q.symm).elim
   subst q0;have MM:=lK kin.length J8 hI.nd λy hy=>hI.rng y (.inl hy);refine a9 (aA rfl (af (aa (aB rfl k2) (am (bH (qq (ao MR hm) (ke J8) (by rw[b'];walk_at "a") λl hl=>?_))))));exact h _ l J8 ((hF.new MR).isNew hl (by exact aW)) ((hF.new MR).new hl) (ad _ _ _) hI
open PySem PySem.W
theorem ue (k:c_):∀l:b_ c_,(ins k l).Perm (k::l)
 | []=>Fb _
 |x::r=>by
  unfold ins;split
  ·split
   ·exact Fb _
   ·exact((ue _ r).cons _).trans (List.Perm.swap _ _ r)
  ·exact Fb _
theorem uf:∀l:b_ c_,(dy l).Perm l
 | []=>Fb _
 |x::r=>(ue x (dy r)).trans ((uf r).cons x)
theorem C1 {l:b_ c_}(h:l.Nodup):(dy l).Nodup:=(uf l).nodup_iff.mpr h
set_option genInjectivity false
set_option genSizeOf false
noncomputable def jx (k:Nat):b_ Nat->b_ Nat
 | []=>[k]
 |y::r=>if k<=y then k::y::r else y::jx k r
noncomputable def aH (l:b_ Nat):b_ Nat:=l.foldr jx []
theorem qv (k:Nat):∀l,(jx k l).Perm (k::l)
 | []=>Fb _
 |y::r=>by
  unfold jx;split
  ·exact Fb _
  ·exact((qv k r).cons _).trans (List.Perm.swap _ _ r)
theorem fw:∀l,(aH l).Perm l
 | []=>Fb _
 |k::r=>(qv k _).trans ((fw r).cons k)
theorem ug (k:Nat):∀l,l.Pairwise (λa b=>a<=b)->(jx k l).Pairwise (λa b=>a<=b)
 | [],_=>by simp[jx]
 |y::r,h=>by
  unfold jx;rw[Du]at h;split
  ·rename _=>hk
   rw[Du,Du];exact⟨λz hz=>by rcases f_.mp hz with rfl|hz;exact hk;exact o_ hk (h.1 z hz),h⟩
  ·rename _=>hk
   rw[Du];refine⟨λz hz=>?_,ug k r h.2⟩;rcases f_.mp ((qv k r).mem_iff.mp hz)with rfl|hz
   ·omega
   ·exact h.1 z hz
theorem nV:∀l,(aH l).Pairwise (λa b=>a<=b)
 | []=>H1
 |k::r=>ug k _ (nV r)
theorem nX {l:b_ Nat}(h:l.Nodup):(aH l).Pairwise (λa b=>a<b):=by
 have h1:=nV l;have h2:(aH l).Nodup:=(fw l).nodup_iff.mpr h;have:=h1.and h2;exact this.imp λq=>by omega
theorem zK:aH []=[]:=rfl
noncomputable def row (kin:b_ (b_ Nat))(q:Nat):b_ Nat:=(kin[q]?).getD []
noncomputable def base (kin:b_ (b_ Nat))(firm:b_ Int)(G:b_ Nat)(p:Nat):Nat:=firm.count (p:Int)+(((A' kin.length).filter λq=> !G.contains q).map λq=>(row kin q).count p).sum
theorem uh (f:Nat->Nat)(a b:Nat->Dm)(x:Nat):∀l:b_ Nat,l.Nodup->(∀q∈l,q≠x->a q=b q)->a x=e_->b x=g'->x∈l->((l.filter a).map f).sum=((l.filter b).map f).sum+f x
 | [],_,_,_,_,h=>by exact(aj h).elim
 |y::r,nd,h,ha,hb,hx=>by
  rw[DK]at nd;by_cases e:y=x
  ·subst e
   have:r.filter a=r.filter b:=Ju λq hq=>h q (.tail _ hq) λz=>nd.1 (z▸hq);rw[DO ha,DP (by rw[hb];simp),this,n_,Hb];walk_at "a"
  ·have ih:=uh f a b x r nd.2 (λq hq=>h q (.tail _ hq)) ha hb ((f_.mp hx).elim (λz=>absurd z.symm e) id)
   have e2:=h y (.head _) e;cases q:a y with
   |true=>rw[DO q,DO (e2▸q),n_,n_,Hb,Hb,ih];walk_at "a"
   |false=>rw[DP (by rw[q];simp),DP (by rw[<-e2,q];simp),ih]
theorem uj (kin:b_ (b_ Nat))(firm:b_ Int)(G:b_ Nat)(q p:Nat)(h1:q<kin.length)(h2:q∉G):base kin firm G p=base kin firm (G++[q]) p+(row kin q).count p:=by
 unfold base;rw(config:={}) [uh (λq=>(row kin q).count p) (λr=> !G.contains r) (λr=> !(G++[q]).contains r) q _ G' ?_ (by simpa using h2) (by simp) (Dq.mpr h1)]
 ·walk_at "a"
 ·intro r _ hr
  simp[hr]
theorem lL (kin:b_ (b_ Nat))(firm:b_ Int)(p:Nat):∀ (D G:b_ Nat),(G++D).Nodup->(∀q∈D,q<kin.length)->base kin firm G p=base kin firm (G++D) p+(D.flatMap (row kin)).count p
 | [],G,_,_=>by simp
 |q::D,G,nd,h=>by
  have e:G++q::D=(G++[q])++D:=by simp
  rw[e]at nd⊢;have hq:q∉G:=by
   have:=(Dk.mp (Dk.mp nd).1).2.2;exactλhh=>this q hh q (by exact .head _) rfl
  rw[uj kin firm G q p (h q (.head _)) hq,lL kin firm p D (G++[q]) nd λx hx=>h x (.tail _ hx),DD,GQ];omega
noncomputable def fE (b:Nat->Nat):b_ Nat->b_ Nat
 | []=>[]
 |x::r=>if b x=0/\x∉r then x::fE b r else fE b r
theorem kj (b:Nat->Nat):∀l x,x∈fE b l->x∈l/\b x=0
 | [],x,h=>by exact(aj h).elim
 |y::r,x,h=>by
  unfold fE at h;split at h
  ·rename And _ _=>hc
   rcases f_.mp h with rfl|h
   ·exact⟨.head _,hc.1⟩
   ·exact⟨.tail _ (kj b r x h).1,(kj b r x h).2⟩
  ·exact⟨.tail _ (kj b r x h).1,(kj b r x h).2⟩
theorem qw (b:Nat->Nat):∀l,(fE b l).Nodup
 | []=>HL
 |y::r=>by
  unfold fE;split
  ·rename _=>hc
   exact DK.mpr ⟨λq=>hc.2 (kj b r y q).1,qw b r⟩
  ·exact qw b r
structure fz where
 G:b_ Nat
 E:b_ Nat
 F:b_ Nat
theorem C2:Dr fz:=⟨[],[],[]⟩
noncomputable def ib (kin:b_ (b_ Nat))(firm:b_ Int)(s:fz):fz:=⟨s.G++aH s.E,s.F,fE (base kin firm (s.G++aH s.E)) ((aH s.E).flatMap (row kin))⟩
noncomputable def bK (kin:b_ (b_ Nat))(firm:b_ Int)(fresh:Int):fz:=
 ⟨[],(A' kin.length).filter λp=>decide (base kin firm [] p=0/\(p:Int)≠fresh),if 0<=fresh/\base kin firm [] fresh.toNat=0 then[fresh.toNat]else[]⟩
noncomputable def aD (kin:b_ (b_ Nat))(firm:b_ Int)(fresh:Int):Nat->fz
 |0=>bK kin firm fresh
 |n+1=>ib kin firm (aD kin firm fresh n)
structure ik (kin:b_ (b_ Nat))(firm:b_ Int)(s:fz):Prop where
 nd:(s.G++(s.E++s.F)).Nodup
 rg:∀p∈s.G++(s.E++s.F),p<kin.length
 z:∀p∈s.G++(s.E++s.F),base kin firm s.G p=0
theorem zL {kin:b_ (b_ Nat)}{firm:b_ Int}{fresh:Int}(hf:fresh<kin.length):ik kin firm (bK kin firm fresh):=by
 intros kin firm fresh;have hE:∀p,p∈(bK kin firm fresh).E->p<kin.length/\base kin firm [] p=0/\(p:Int)≠fresh:=λp hp=>by
  have:=DA.mp hp;exact⟨Dq.mp this.1,(of_decide_eq_true this.2).1,(of_decide_eq_true this.2).2⟩
 have hF:∀p,p∈(bK kin firm fresh).F->0<=fresh/\p=fresh.toNat/\base kin firm [] p=0:=λp hp=>by
  unfold bK at hp;dsimp only at hp;split at hp
  ·rename And _ _=>hc
   simp only [f_,aj,Ez]at hp;subst hp;exact⟨hc.1,rfl,hc.2⟩
  ·exact(aj hp).elim
 refine⟨?_,λp hp=>?_,λp hp=>?_⟩
 ·show(([]:b_ Nat)++((bK kin firm fresh).E++(bK kin firm fresh).F)).Nodup
  rw[FH,Dk];refine⟨G'.filter _,?_,λa ha b hb e=>?_⟩
  ·unfold bK;dsimp only;split<;>simp
  ·have h1:=hE a ha
   have h2:=hF b hb;subst e;apply h1.2.2;rw[h2.2.1];omega
 ·rcases s_.mp hp with q|q
  ·exact(aj q).elim
  ·rcases s_.mp q with q|q
   ·exact(hE p q).1
   ·have:=hF p q;omega
 ·rcases s_.mp hp with q|q
  ·exact(aj q).elim
  ·rcases s_.mp q with q|q
   ·exact(hE p q).2.1
   ·exact(hF p q).2.2
theorem zM {kin:b_ (b_ Nat)}{firm:b_ Int}{s:fz}(hk:∀r∈kin,∀y∈r,y<kin.length)(h:ik kin firm s):ik kin firm (ib kin firm s):=by
 intros kin firm s;obtain⟨G,E,F⟩:=s;intros G E F;obtain⟨nd,rg,z⟩:=h;dsimp only at nd rg z;have hD:=fw E;have Y7:(G++aH E++F).Nodup:=by
  rw[Dw];exact(((hD.append_right F).append_left G).nodup_iff).mpr nd
 have mem:∀p,p∈G++aH E++F↔p∈G++(E++F):=λp=>by
  rw[Dw];exact((hD.append_right F).append_left G).mem_iff
 have rE:∀q∈aH E,q<kin.length:=λq hq=>rg q (by simp[hD.mem_iff.mp hq]);have ba:=λp=>lL kin firm p (aH E) G (Dk.mp Y7).1 rE;have hN:∀p,p∈fE (base kin firm (G++aH E)) ((aH E).flatMap (row kin))->p<kin.length/\base kin firm (G++aH E) p=0/\0<base kin firm G p:=λp hp=>by
  refine xA (kj _ _ p hp) λh1 h2=>?_;refine⟨?_,h2,?_⟩
  ·refine ac (Dx.mp h1) λq hq hr=>?_
   unfold row at hr;cases e:kin[q]? with
   |none=>rw[e]at hr;exact(aj hr).elim
   |some r=>rw[e]at hr;exact hk r (B_ e) p hr
  ·rw[ba p]
   have:=HM.mpr h1
   omega
 refine⟨?_,λp hp=>?_,λp hp=>?_⟩
 ·show((G++aH E)++(F++fE _ _)).Nodup
  rw[<-Dw,Dk];refine⟨Y7,qw _ _,λa ha b hb e=>?_⟩;subst e;have:=(hN a hb).2.2;rw[z a ((mem a).mp ha)]at this;walk_at "by"
 ·have O1:p∈(G++aH E++F)++fE (base kin firm (G++aH E)) ((aH E).flatMap (row kin)):=by rw[Dw];exact hp
  rcases s_.mp O1 with q|q
  ·exact rg p ((mem p).mp q)
  ·exact(hN p q).1
 ·have O1:p∈(G++aH E++F)++fE (base kin firm (G++aH E)) ((aH E).flatMap (row kin)):=by rw[Dw];exact hp
  show base kin firm (G++aH E) p=0;rcases s_.mp O1 with q|q
  ·have h1:=z p ((mem p).mp q)
   have:=ba p
   omega
  ·exact(hN p q).2.1
theorem lM {kin:b_ (b_ Nat)}{firm:b_ Int}{fresh:Int}(hk:∀r∈kin,∀y∈r,y<kin.length)(hf:fresh<kin.length):∀n,ik kin firm (aD kin firm fresh n)
 |0=>zL hf
 |n+1=>zM hk (lM hk hf n)
noncomputable def iE (m:Nat)(s:fz):Nat:=2*(m-s.G.length-s.E.length)+(if s.E=[]then 0 else 1)
theorem i9:∀ (n:Nat) (l:b_ Nat),l.Nodup->(∀x∈l,x<n)->l.length<=n
 |0,[],_,_=>DW _
 |0,x::r,_,h=>absurd (h x (.head _)) (Iu _)
 |n+1,l,nd,h=>by
  by_cases e:n∈l
  ·have:=i9 n (l.erase n) (nd.erase _) λx hx=>by
    have h1:=(nd.mem_erase_iff.mp hx);have h2:=h x h1.2;have h3:=h1.1;walk_at "a"
   rw[Gi e]at this;omega
  ·have:=i9 n l nd λx hx=>by
    have h2:=h x hx;have h3:x≠n:=λq=>e (q▸hx);walk_at "a"
   walk_at "a"
theorem uk {kin:b_ (b_ Nat)}{firm:b_ Int}{s:fz}(hk:∀r∈kin,∀y∈r,y<kin.length)(h:ik kin firm s)(Oe:¬(s.E=[]/\s.F=[])):iE kin.length (ib kin firm s)<iE kin.length s:=by
 intros kin firm s;have hl:=i9 kin.length _ h.nd h.rg;have hD:(aH s.E).length=s.E.length:=(fw s.E).length_eq;unfold iE ib;dsimp only;simp only [q_]at hl⊢;rw[hD];cases hF:s.F with
 |nil=>
  have hE:s.E≠[]:=λq=>Oe ⟨q,hF⟩;rw[z_ rfl,p_ hE];simp only [FG];omega
 |cons x r=>
  rw[p_ (by simp)];rw[hF]at hl;simp only [Df]at hl⊢;split<;>omega
theorem um {kin:b_ (b_ Nat)}{firm:b_ Int}{fresh:Int}(hf:fresh<kin.length):iE kin.length (bK kin firm fresh)<=2*kin.length+1:=by
 unfold iE;split<;>omega
theorem uo {kin:b_ (b_ Nat)}{firm:b_ Int}{fresh:Int}{u:Nat}(hF:(aD kin firm fresh u).F=[])(hE:(aH (aD kin firm fresh u).E).flatMap (row kin)=[]):∀n,aD kin firm fresh (u+1+n)=⟨(aD kin firm fresh u).G++aH (aD kin firm fresh u).E,[],[]⟩
 |0=>by
  show ib kin firm (aD kin firm fresh u)=_;unfold ib;rw[hF,hE];rfl
 |n+1=>by
  show ib kin firm (aD kin firm fresh (u+1+n))=_;rw[uo hF hE n];unfold ib;simp[zK,fE]
theorem zN {kin:b_ (b_ Nat)}{firm:b_ Int}{s:fz}(h:ik kin firm s){p:Nat}(hp:(p:Int)∈firm):p∉s.G:=λhg=>by
 have:=h.z p (y' _ hg);unfold base at this;have:=HM.mpr hp
 omega
theorem uq {kin:b_ (b_ Nat)}{firm:b_ Int}{s:fz}(h:ik kin firm s){p q:Nat}(hq:q<kin.length)(hg:q∉s.G)(hp:p∈row kin q):p∉s.G:=λhh=>by
 have h1:=h.z p (y' _ hh);have h2:=uj kin firm s.G q p hq hg;have:=HM.mpr hp
 omega
noncomputable def iF (nm:d_->Int)(ts:b_ d_):b_ (Value×Value):=dR nm (λU=>0) (λU=>g') ts
theorem zO {nm:d_->Int}{i:Nat}(hj:ts[i]? =a_ t):iF nm (ts.take (i+1))=cM (.int (nm t) 0) (.ref t) (iF nm (ts.take i)):=by
 unfold iF dR;rw[Fr,hj,Jt];show dQ nm (λU=>0) (λU=>g') _ t=_;unfold dQ;exact(z_ ⟨rfl,rfl⟩)
theorem nY {k v:c_}:∀ {es:b_ (Value×Value)},(∀p∈es,k≠p.1)->cM k v es=es++[(k,v)]
 | [],_=>rfl
 |(y,u)::r,h=>by
  have e:(k==y)=g':=r'.mpr (h (y,u) (.head _));unfold cM;rw[p_ (by rw[e];exact El),nY λp hp=>h p (.tail _ hp)];rfl
theorem nZ {nm:d_->Int}:∀ (ts:b_ d_) (es:b_ (Value×Value)),(∀t∈ts,∀p∈es,(.int (nm t) 0:c_)≠p.1)->(ts.map nm).Nodup->ts.foldl (dQ nm (λU=>0) (λU=>g')) es=es++ts.map λt=>((.int (nm t) 0:c_),(.ref t:c_))
 | [],es,_,_=>(Dz es).symm
 |t::r,es,h,nd=>by
  rw[n_,DK]at nd;rw[Gp];have e1:dQ nm (λU=>0) (λU=>g') es t=es++[(.int (nm t) 0,.ref t)]:=by
   unfold dQ;rw[z_ ⟨rfl,rfl⟩];exact nY (h t (.head _))
  rw(config:={}) [e1,nZ r _ ?_ nd.2,Dw];rfl;intro q hq p hp;rcases s_.mp hp with hp|hp
  ·exact h q (.tail _ hq) p hp
  ·simp only [f_,aj,Ez]at hp
   subst hp;intro e
   injection e with e
   exact nd.1 (e▸Do hq)
theorem C3 {nm:d_->Int}(nd:(ts.map nm).Nodup):iF nm ts=ts.map λt=>((.int (nm t) 0:c_),(.ref t:c_)):=
 nZ ts [] (λU U p hp=>by exact(aj hp).elim) nd
theorem qx {xs ys:b_ Int}(hp:ys.Perm xs)(hs:ys.Pairwise (λa b=>a<=b)):dy (xs.map vI)=ys.map vI:=by
 show dy (xs.map λi=>Dl i 0)=ys.map λi=>Dl i 0;rw[mO,Gj (λU U U U a b=>Int.le_antisymm a b) hs (r8 xs) (hp.trans (pq xs).symm)]
noncomputable def vN (n:Nat):c_:=.int (n:Int) 0
theorem ur (l:b_ Nat):dy (l.map vN)=(aH l).map vN:=by
 have e:∀l:b_ Nat,l.map vN=(l.map (JE)).map vI:=λl=>by rw[C_];rfl
 rw[e,e,qx ((fw l).map _)];exact(nV l).map _ λa b h=>EK.mpr h
theorem zP {nm ct:d_->Int}{fr:d_->Dm}:∀ (ts:b_ d_) (es:b_ (Value×Value)),(∀t∈ts,ct t=0/\fr t=g')->ts.foldl (dQ nm ct fr) es=ts.foldl (dQ nm (λU=>0) (λU=>g')) es
 | [],_,_=>rfl
 |t::r,es,h=>by
  rw(config:={}) [Gp,Gp];have e:dQ nm ct fr es t=dQ nm (λU=>0) (λU=>g') es t:=by
   unfold dQ;exact(z_ (h t (.head _)))▸rfl
  rw[e,zP r _ λt ht=>h t (.tail _ ht)]
theorem jy {nm:d_->Int}:∀ (ts:b_ d_) (t:d_),(ts.map nm).Nodup->t∈ts->(ts.map λt=>((.int (nm t) 0:c_),(.ref t:c_))).lookup (.int (nm t) 0)=a_ (.ref t)
 | [],_,_,h=>by exact(aj h).elim
 |a::r,t,nd,h=>by
  rw[n_,DK]at nd;rw[n_];rcases f_.mp h with rfl|h
  ·rw[v_,C']
  ·have ne:((.int (nm t) 0:c_)== .int (nm a) 0)=g':=r'.mpr λq=>by
    injection q with q
    exact nd.1 (q▸Do h)
   rw[v_,ne];exact jy r t nd.2 h
noncomputable def bV (nm:d_->Int)(ts:b_ d_):b_ (Value×Value):=ts.map λt=>((.int (nm t) 0:c_),(.ref t:c_))
theorem n7 (nm:d_->Int)(ts:b_ d_):(bV nm ts).map (λp=>p.1)=(ts.map nm).map vI:=by
 unfold bV;rw[C_,C_];rfl
theorem qy {ns:b_ Int}(h:ns.Pairwise (λa b=>a<b)):ns.Nodup:=h.imp λq=>by walk_at "a"
theorem ut {nm:d_->Int}(hp:ts'.Perm ts)(hs:(ts'.map nm).Pairwise (λa b=>a<b)):dy ((bV nm ts).map (λp=>p.1))=(ts'.map nm).map vI:=by
 rw[n7,qx (hp.map nm) (hs.imp λq=>by walk_at "a")]
theorem uv {nm:d_->Int}(hp:ts'.Perm ts)(hs:(ts'.map nm).Pairwise (λa b=>a<b))(ht:t∈ts'):(bV nm ts).lookup (.int (nm t) 0)=a_ (.ref t):=
 jy ts t (((hp.map nm).nodup_iff).mp (qy hs)) (hp.mem_iff.mp ht)
theorem zQ {ts ts':b_ d_}{nm:d_->Int}(hl:Z tl=a_ (.lst (ts.map .ref)))(hz:ts.length<=60)
 (ht:∀t∈ts,∃C d bl wk ds r,bS C "count"=e_/\bS C "is_freed"=e_/\bS C "number"=e_/\Z t=a_ (.inst C d (ax (nm t) 0 bl wk ds g' r)))
 (hp:ts'.Perm ts) (hs:(ts'.map nm).Pairwise (λa b=>a<b))
 (h:∀Z' l,isNew Z l->ai [] Z Z'->Z' l=a_ (.lst (ts'.map .ref))->Q (.ref l) Z'):
 aI KC (aJ KC 0) 1 309 [.ref tl] Z Q:=by
 refine zq (nm:=nm) (ct:=λU=>0) (fr:=λU=>g') hl hz ht λZ' l hn hF KA=>h Z' l hn hF ?_;rw[KA];have e:dR nm (λU=>0) (λU=>g') ts=bV nm ts:=nZ ts [] (λU U p hp=>by exact(aj hp).elim) (((hp.map nm).nodup_iff).mp (qy hs));rw[e,ut hp hs,C_,C_];congr 2;refine Dp λt ht=>?_;show((bV nm ts).lookup (.int (nm t) 0)).getD .none=.ref t;rw[uv hp hs ht];rfl
theorem zR {nm:d_->Int}(hp:ts'.Perm ts)(hs:(ts'.map nm).Pairwise (λa b=>a<b)):dR nm (λU=>0) (λU=>g') ts=bV nm ts:=nZ ts [] (λU U p hp=>by exact(aj hp).elim) (((hp.map nm).nodup_iff).mp (qy hs))
theorem kI (l:b_ Int):(l.map vI).all bO=e_:=ke l
theorem zS {sent:d_}{ts':b_ d_}{nm:d_->Int}{ss:b_ c_}
 (hc:Z c=a_ (.inst 401 dc (dM hp dsA pl em))) (hd:Z dsA=a_ (.bm "list.append" sent)) (h850:850<=dsA) (KT:Z sent=a_ (.lst ss)) (OH:ss.length<=1000) (hl:Z tl=a_ (.lst (ts.map .ref))) (hz:ts.length<=60) (nts:tl≠sent)
 (ht:∀t∈ts,∃d k bl wk its,bl≠ .none/\ej bl=e_/\Z t=a_ (.inst 85 d (ax (nm t) k bl wk g' g' (cX its))))
 (hp:ts'.Perm ts) (hs:(ts'.map nm).Pairwise (λa b=>a<b))
 (h:∀Z',(∀a o,a∉ts->a≠sent->Z a=a_ o->Z' a=a_ o)->(∀t∈ts,∀d k bl wk its,Z t=a_ (.inst 85 d (ax (nm t) k bl wk g' g' (cX its)))->Z' t=a_ (.inst 85 d (ax (nm t) k bl wk e_ g' (cX its))))->
  Z' sent=a_ (.lst (ss++ts'.map .ref))->Q .none Z'):
 aI KC (aJ KC 1) 2 419 [.ref c,.ref tl] Z Q:=by
 refine⟨rfl,?_⟩;show au _ _ _ ⟨[("counter",.ref c),("things",.ref tl)],[]⟩ _ _;refine a8 (j2 λfd m Kg=>aV rfl ?_);have JQ:ai [] Z (Z.set fd (.dic [] m)):=(ai.refl [] Z).new Kg;have Pb:(Z.set fd (.dic [] m)) fd=a_ (.dic [] m):=ad _ _ _;generalize Z.set fd _=Z1 at JQ Pb⊢;have du:=JQ.get hl aj;have Yo:tl≠fd:=aq Kg hl;refine eV (aa rfl (gp (cY du) (by rw[b'];walk_at "o") rfl (λi JN Z'=>JN.cel=[]/\JN.loc.lookup ("counter":Str)=a_ (.ref c)/\JN.loc.lookup ("found":Str)=a_ (.ref fd)/\ai [fd] Z1 Z'/\∃N,Z' fd=a_ (.dic (iF nm (ts.take i)) N)) ⟨rfl,rfl,rfl,ai.refl _ _,m,Pb⟩ (λi JN Z' hI=>?_) (λi y JN Z' hy hI Qz Kz=>?_) (λJN Z' hI=>?_)))
 ·show Z' tl=Z1 tl
  rw[hI.2.2.2.1 tl _ (by exact aE Yo) du,du]
 ·refine im hI λJT k1 k2 hF zz=>?_;clear hI;refine xE zz λN PT=>?_;clear zz
  rw[k_]at hy;refine ac (j_.mp hy) ?_;rintro t hj rfl;refine fW (ht t (B_ hj)) λd k bl wk its hb VI e=>?_;have e2:=JQ.get e aj;have Yb:t≠fd:=aq Kg e;have e':=hF.get e2 (by exact aE Yb);obtain⟨loc,cel⟩:=JN;dsimp only at JT k1 k2;subst JT;have Kv:∀Z,bM (cR KC 419) "thing" ⟨aL "thing" (.ref t) loc,[]⟩ Z=a_ (.ref t):=λZ=>aB rfl (by exact d6);have nl:∀y v,y≠("thing":Str)->loc.lookup y=a_ v->(aL "thing" (.ref t) loc).lookup y=a_ v:=λy v ny e=>by exact et e ny
  have L8:=nl ("counter":Str) _ (by decide) k1;have Mz:=nl ("found":Str) _ (by decide) k2;refine xA (qr nm (λU=>0) (λU=>g') (ts.take i) [] rfl) λb1 b2=>?_;have b3:(ts.take i).length<=60:=by rw[EI];walk_at "q"
  have Qd:b9 (iF nm (ts.take i)) (.int (nm t) 0)=e_:=b1;have ln:(iF nm (ts.take i)).length<1000:=by
   have:(iF nm (ts.take i)).length<=([]:b_ (Value×Value)).length+(ts.take i).length:=b2;simp only [FG]at this;walk_at "o"
  have Q1:(bl==DU)=g':=r'.mpr hb;refine aO (fG (cI (iB (gJ (av (aa (Kv _) (az e' rfl (fq (aZ rfl ?_)))))))));refine cI (iB (gJ (av (aa (Kv _) (az e' rfl (fq (aZ rfl ?_)))))));refine cI (aU (av (aa (Kv _) (az e' rfl (bI ⟨!(bl== .none),rfl,aZ (by rw[Q1];rfl) (dk (aZ rfl ?_))⟩)))));refine qp (aa (Kv _) (aa (aB rfl Mz) (av (aa (Kv _) (az e' rfl (j5 PT Qd ln λN'=>ay (ay (Kz .next _ _ ⟨rfl,L8,Mz,hF.set (.head _),N',?_⟩))))))));rw[zO hj,ad];rfl
 ·refine im hI λJT k1 k2 hF zz=>?_;clear hI;refine xE zz λN PT=>?_;clear zz
  rw[b',Dy]at PT;have PT:Z' fd=a_ (.dic (bV nm ts) N):=by rw[PT,show iF nm ts=bV nm ts from zR hp hs]
  obtain⟨loc,cel⟩:=JN;dsimp only at JT k1 k2;subst JT;have ndt:ts'.Nodup:=(DL.mp hs).imp λ{a b} (q:nm a<nm b) (e:a=b)=>by rw[e]at q;exact absurd q (Gk _)
  have K4:ai [] Z Z':=λb o nb e=>hF b o (by exact aE (aq Kg e)) (JQ b o nb e);have MY:=K4.get hc aj;have hd0:=K4.get hd aj;have TZ:=K4.get KT aj;refine eV (aA rfl (af (aa (aB rfl k2) (am (bH (tK PT ?_ ?_ λl hl=>?_))))))
  ·rw[n7];exact kI _
  ·unfold bV;rw[b'];exact hz
  rw[ut hp hs];have U9:=ad Z' l (.lst ((ts'.map nm).map vI));have Rh:ai [] Z' (Z'.set l (.lst ((ts'.map nm).map vI))):=(ai.refl [] Z').new hl;generalize Z'.set l _=Z2 at U9 Rh⊢;have JS:ai [] Z Z2:=K4.trans Rh (by exact aW);have hlz:ts'.length<=60:=by rw[hp.length_eq];exact hz
  have M7:l≠sent:=(aq hl TZ).symm;have NR:=Rh.get PT aj;have NA:=Rh.get TZ aj;have J0:=Rh.get MY aj;have QK:=Rh.get hd0 aj;have Px:∀t∈ts',t≠l:=λt hh=>by
   refine fW (ht t (hp.mem_iff.mp hh)) λd k bl wk its hb VI e=>?_;exact aq hl (K4.get e aj)
  refine gp (cY U9) (by simp;walk_at "o") rfl (λi JN Z'=>JN.cel=[]/\JN.loc.lookup ("counter":Str)=a_ (.ref c)/\JN.loc.lookup ("found":Str)=a_ (.ref fd)/\ai (sent::ts'.take i) Z2 Z'/\Z' sent=a_ (.lst (ss++(ts'.take i).map .ref))/\∀t∈ts'.take i,∀d k bl wk its,Z t=a_ (.inst 85 d (ax (nm t) k bl wk g' g' (cX its)))->Z' t=a_ (.inst 85 d (ax (nm t) k bl wk e_ g' (cX its)))) ⟨rfl,k1,k2,ai.refl _ _,by simpa using NA,by exact aW⟩ (λi JN Z' hI=>?_) (λi y JN Z' hy hI Qz Kz=>?_) (λJN Z' hI=>?_)
  ·show Z' l=Z2 l
   have:l∉sent::ts'.take i:=λq=>(f_.mp q).elim M7 λq=>Px l (Ep q) rfl;exact(hI.2.2.2.1 l _ this U9).trans U9.symm
  ·refine gz hI λJT k1 k2 hF Vc Q5=>?_;clear hI
   rw[C_,k_]at hy;refine ac (j_.mp hy) ?_;rintro t hj rfl;have RG:t∈ts':=B_ hj;refine fW (ht t (hp.mem_iff.mp RG)) λd k bl wk its hb VI e=>?_;have e2:=JS.get e aj;have Wq:sent≠t:=cA KT e (by simp);have Zbx:t∉ts'.take i:=λq=>by
    have h1:=Iz i ts';have h2:t∈ts'.drop i:=by rw[DV,hj];exact .head _
    rw[<-h1,Dk]at ndt;exact ndt.2.2 t q t h2 rfl
   have e3:=hF.get e2 (λq=>(f_.mp q).elim Wq.symm Zbx);have SJ:∀ {a o},Z2 a=a_ o->(∀C d fl,o≠ .inst C d fl)->a≠sent->a∉sent::ts'.take i:=λ{a o} h1 h2 h3 q=>(f_.mp q).elim h3 λq=>by
    refine fW (ht a (hp.mem_iff.mp (Ep q))) λd k bl wk its hb VI e=>?_;rw[JS.get e aj]at h1;cases h1;exact h2 _ _ _ rfl
   have V8:=hF.get NR (SJ NR (by simp) (cA NR NA (by simp)));have Td:=hF.get QK (SJ QK (by simp) (cA QK NA (by simp)));have Zbz:∀t∈ts',c≠t:=λt RG=>by
    refine fW (ht t (hp.mem_iff.mp RG)) λd k bl wk its hb VI e=>?_;exact cA hc e gS
   have Kb:=hF.get J0 (λq=>(f_.mp q).elim (cA hc KT (by simp)) λq=>Zbz c (Ep q) rfl);obtain⟨loc,cel⟩:=JN;dsimp only at JT k1 k2;subst JT;have nl:∀x w y v,y≠x->loc.lookup y=a_ v->(aL x w loc).lookup y=a_ v:=λx w y v ny e=>by exact et e ny
   have L8:=nl "number" (vI (nm t)) ("counter":Str) _ (by decide) k1;have Mz:=nl "number" (vI (nm t)) ("found":Str) _ (by decide) k2;have lk:=uv hp hs RG;have Qd:b9 (bV nm ts) (.int (nm t) 0)=e_:=by
    show((bV nm ts).all λp=>bO p.1)=e_;unfold bV;rw[Ef];exact l_.mpr λU U=>rfl
   refine a8 (cQ (aa (aB rfl Mz) (aa (aB (v:=.int (nm t) 0) rfl (by rw[dj,z_ rfl];rfl)) ⟨_,hZ V8 Qd lk,aV rfl ?_⟩)));show au _ _ _ ⟨aL "thing" (.ref t) (aL "number" (vI (nm t)) loc),[]⟩ _ _;generalize hL:aL "thing" (.ref t) (aL "number" (vI (nm t)) loc)=L;have Kv:∀Z,bM (cR KC 419) "thing" ⟨L,[]⟩ Z=a_ (.ref t):=λZ=>aB rfl (by rw[<-hL,dj,z_ rfl]);have PZ:L.lookup ("counter":Str)=a_ (.ref c):=by rw[<-hL,dj,p_ (by decide)];exact L8
   have Xi:L.lookup ("found":Str)=a_ (.ref fd):=by rw[<-hL,dj,p_ (by decide)];exact Mz
   refine aO (j3 (fo (gJ (av (aa (Kv _) (az e3 rfl (fq (aM rfl (fo (gJ (av (aa (Kv _) (az e3 rfl (fq (aM rfl (nG (aM rfl (ay ?_))))))))))))))))));refine cC (lA (aa (Kv _) (cW e3 ?_)));have NN:ai [t] Z' (Z'.set t (.inst 85 d (aL "is_destroyed" (.bool e_) (ax (nm t) k bl wk g' g' (cX its))))):=(ai.refl _ _).set (.head _);have Oi:(Z'.set t (.inst 85 d (aL "is_destroyed" (.bool e_) (ax (nm t) k bl wk g' g' (cX its))))) t=a_ (.inst 85 d (ax (nm t) k bl wk e_ g' (cX its))):=ad _ _ _;generalize Z'.set t _=Z4 at NN Oi⊢;have Kq:=NN.get Kb (by exact aE (Zbz t RG));have WS:=NN.get Td (by exact aE (cA Td e3 (by simp)));have Wt:=NN.get Vc (by exact aE Wq);refine aO (aU (av (aa (aB rfl PZ) (az Kq rfl (bI ⟨e_,rfl,aZ rfl ?_⟩)))));have VG:(ts'.take i).length<=60:=by rw[EI];walk_at "q"
   refine bE (aX (aa (aB rfl PZ) (tB Kq rfl rfl (af (aa (Kv _) (am (tG h850 WS (eR Wt (by rw[q_,b'];walk_at "a") ⟨rfl,ay (ay (Kz .next _ _ ?_))⟩))))))));have tk:ts'.take (i+1)=ts'.take i++[t]:=by rw[Fr,hj];rfl
   refine⟨rfl,PZ,Xi,?_,?_,?_⟩
   ·rw[tk]
    intro b o nb e;have Zad:b≠sent:=λq=>nb (q▸ .head _);have WE:b∉ts'.take i++[t]:=λq=>nb (.tail _ q);rw[s_,g_]at WE;exact ap Zad (NN b o (by exact aE (λq=>WE (.inr q))) (hF b o (λq=>(f_.mp q).elim Zad λq=>WE (.inl q)) e))
   ·rw[tk,ad,r_, <-Dw];rfl
   ·intro a ha d' k' bl' KE Kj ea
    rw[tk,s_,g_]at ha;rcases ha with ha|rfl
    ·have nat:a≠t:=λq=>Zbx (q▸ha)
     have nas:a≠sent:=cA ea KT (by simp);exact ap nas (NN a _ (by exact aE nat) (Q5 a ha _ _ _ _ _ ea))
    ·rw[e]at ea
     cases ea;exact ap Wq.symm Oi
  ·refine gz hI λJT k1 k2 hF Vc Q5=>?_;clear hI
   rw[b',b',Dy]at hF Vc Q5;refine ay (h Z' (λa o n1 n2 ea=>hF a o (λq=>(f_.mp q).elim n2 λq=>n1 (hp.mem_iff.mp q)) (JS a o aj ea)) (λt Qa=>Q5 t (hp.mem_iff.mpr Qa)) Vc)
section
variable{T:a6}
theorem zT (h:Qs .cont fm Z):au (aT T k (n+1)) (.Continue pos::r) sc fm Z Qs:=h
theorem zU {x:d_}{N:Nat}(h:Z x=a_ (.dic es N))(h1:b9 es (.int i 0)=e_):dI Z .In (.int i 0) (.ref x)=a_ (es.lookup (.int i 0)).isSome:=by
 unfold dI iR;dsimp only;rw[h];dsimp only;rw[z_ h1];rfl
theorem zV {x:d_}{kk:Dm->Prop}(h1:Z x=a_ (.lst xs))(hz:xs.length<=100000)(h:kk (!xs.isEmpty)):fA Z (.ref x) kk:=by
 unfold fA;dsimp only;rw[h1];exact⟨hz,h⟩
theorem uw {N:Nat}(h:Z a=a_ (.dic es N)):fj Z (.ref a)=a_ (es.map (λp=>p.1)):=by unfold fj;dsimp only;rw[h];rfl
theorem zW {x y:d_}(n:x≠y)(h1:Z x=a_ (.lst xs))(h2:Z y=a_ (.lst ys))(hz:xs.length+ys.length<=100000)(h:Q .none (Z.set x (.lst (xs++ys)))):ek "list.extend" [.ref x,.ref y] Z Q:=by
 exact⟨oU,rfl,_,iA h1,_,iA h2,n,hz,h⟩
end
structure gN (V:b_ d_)(near:d_->b_ d_)(start to JW:b_ d_):Prop where
 nd:to.Nodup
 cov:∀x∈start,x∈to\/x∈JW
 step:∀x∈to,∀y∈near x,y∈to\/y∈JW
 rng:∀x,(x∈to\/x∈JW)->x∈V
 least:∀S:d_->Prop,(∀x∈start,S x)->(∀x,S x->∀y∈near x,S y)->∀x,(x∈to\/x∈JW)->S x
theorem gN.start {V:b_ d_}{st:b_ d_}(h:∀x∈st,x∈V):gN V near st [] st where
 nd:=HL
 cov x hx:=.inr hx
 step x hx:=by simp at hx
 rng x hx:=h x (by simpa using hx)
 least S h1 h2 x hx:=h1 x (by simpa using hx)
theorem gN.skip {V:b_ d_}{st to rest:b_ d_}{x:d_}(h:gN V near st to (rest++[x]))(hx:x∈to):gN V near st to rest where
 nd:=h.nd
 cov y hy:=(h.cov y hy).elim .inl λq=>(s_.mp q).elim .inr λe=>.inl (by rw[g_]at e;exact e▸hx)
 step a ha y hy:=(h.step a ha y hy).elim .inl λq=>(s_.mp q).elim .inr λe=>.inl (by rw[g_]at e;exact e▸hx)
 rng y hy:=h.rng y (hy.imp id (y' _))
 least S h1 h2 y hy:=h.least S h1 h2 y (hy.imp id (y' _))
theorem gN.take {V:b_ d_}{st to rest:b_ d_}{x:d_}(h:gN V near st to (rest++[x]))(hx:x∉to)(hn:∀y∈near x,y∈V):gN V near st (to++[x]) (rest++near x)where
 nd:=by
  rw[Dk];exact⟨h.nd,by simp,λa ha b hb e=>hx (by simp at hb;exact hb▸e▸ha)⟩
 cov y hy:=by
  rcases h.cov y hy with q|q
  ·exact .inl (y' _ q)
  ·rcases s_.mp q with q|q
   ·exact .inr (y' _ q)
   ·exact .inl (D_ _ q)
 step a ha y hy:=by
  rcases s_.mp ha with q|q
  ·rcases h.step a q y hy with q|q
   ·exact .inl (y' _ q)
   ·rcases s_.mp q with q|q
    ·exact .inr (y' _ q)
    ·exact .inl (D_ _ q)
  ·rw[g_]at q
   exact .inr (D_ _ (q▸hy))
 rng y hy:=by
  rcases hy with q|q
  ·rcases s_.mp q with q|q
   ·exact h.rng y (.inl q)
   ·exact h.rng y (.inr (D_ _ q))
  ·rcases s_.mp q with q|q
   ·exact h.rng y (.inr (y' _ q))
   ·exact hn y q
 least S h1 h2 y hy:=by
  have sx:S x:=h.least S h1 h2 x (.inr (by simp));rcases hy with q|q
  ·rcases s_.mp q with q|q
   ·exact h.least S h1 h2 y (.inl q)
   ·rw[g_]at q;exact q▸sx
  ·rcases s_.mp q with q|q
   ·exact h.least S h1 h2 y (.inr (y' _ q))
   ·exact h2 x sx y q
theorem n8:∀ (l V:b_ d_),l.Nodup->(∀x∈l,x∈V)->l.length<=V.length
 | [],_,_,_=>Hg _
 |x::r,V,nd,h=>by
  rw[DK]at nd;have hx:=h x (.head _);have:=n8 r (V.erase x) nd.2 λy hy=>(List.mem_erase_of_ne λq=>nd.1 (by rw[<-q];exact hy)).mpr (h y (.tail _ hy));rw[Gi hx]at this;have:=List.length_pos_of_mem hx;simp only [Df];walk_at "o"
theorem ux {nm:d_->Int}{V:b_ d_}(KO:∀a∈V,∀b∈V,nm a=nm b->a=b)(hV:∀x∈ts,x∈V)(TF:t∈V)(h:t∉ts):(bV nm ts).lookup (.int (nm t) 0)=h_:=by
 rw[DC];intro p hp;refine ac (i_.mp hp) ?_;rintro a ha rfl;refine FA.mpr λq=>?_
 injection q with q
 exact h (KO t TF a (hV a ha) q▸ha)
theorem kq {nm:d_->Int}{V:b_ d_}(KO:∀a∈V,∀b∈V,nm a=nm b->a=b):∀ {ts:b_ d_},(∀x∈ts,x∈V)->ts.Nodup->(ts.map nm).Nodup
 | [],_,_=>HL
 |t::r,h,nd=>by
  rw[DK]at nd;rw[n_,DK];refine⟨λq=>?_,kq KO (λx hx=>h x (.tail _ hx)) nd.2⟩;refine ac (i_.mp q) λa ha e=>?_;exact nd.1 (KO t (h t (.head _)) a (h a (.tail _ ha)) e.symm▸ha)
theorem zX {nm:d_->Int}{blv:d_->c_}(f:c_->Dm)(g:c_->c_)(hg:∀t∈ts,g (.int (nm t) 0)=.ref t)(hf:∀t∈ts,f (.int (nm t) 0)= !(blv t== .none)):(((bV nm ts).map (λp=>p.1)).filter f).map g=(ts.filter λt=> !(blv t== .none)).map .ref:=by
 intros ts nm blv f g;unfold bV;rw[C_];induction ts with
 |nil=>rfl
 |cons t r ih=>
  intros t r;have ih:=ih (λt ht=>hg t (.tail _ ht)) (λt ht=>hf t (.tail _ ht));have h1:=hf t (.head _);have h2:=hg t (.head _);rw[n_,JF,JF];dsimp only [Function.comp]at ih⊢;cases q: !(blv t==DU)with
  |true=>rw[z_ (h1.trans q),z_ rfl,n_,n_,h2];exact congrArg _ ih
  |false=>rw[p_ (by rw[h1,q];exact El),p_ El];exact ih
theorem n9 {nm:d_->Int}:b9 (bV nm ts) (.int i 0)=e_:=by
 show((bV nm ts).all λp=>bO p.1)=e_;unfold bV;rw[Ef];exact l_.mpr λU U=>rfl
theorem zY {nm:d_->Int}{V:b_ d_}(KO:∀a∈V,∀b∈V,nm a=nm b->a=b)(hV:∀x∈ts,x∈V)(TF:t∈V)(h:t∉ts):cM (.int (nm t) 0) (.ref t) (bV nm ts)=bV nm (ts++[t]):=by
 have:=ux KO hV TF h;rw[DC]at this;rw[nY λp hp=>FA.mp (this p hp)];unfold bV;rw[r_];rfl
theorem zZ {N0:Nat}{V start:b_ d_}{near:d_->b_ d_}{nm:d_->Int}{blv:d_->c_}
 (hr:Z rn=a_ (.inst 714 rd fl)) (LK:fl.lookup ("stash":Str)=a_ (.ref st)) (hs:Z st=a_ (.inst 799 sd (gr hp gl))) (hg:Z gl=a_ (.dic es N0)) (hk:(es.all λp=>isStr p.1)=e_) (MR:es.length<=5)
 (hes:(es.map (λp=>p.1)).map (λk=>(es.lookup k).getD .none)=start.map .ref) (her:∀p∈es,er p.1=p.1) (K8:∀x∈start,x∈V) (hVl:V.length<=60)
 (hV:∀x∈V,∃C d k wk ds fr r,bS C "number"=e_/\bS C "blessed"=e_/\ej (blv x)=e_/\Z x=a_ (.inst C d (ax (nm x) k (blv x) wk ds fr r)))
 (KO:∀a∈V,∀b∈V,nm a=nm b->a=b) (hnV:∀x∈V,∀y∈near x,y∈V) (Vv:∀x∈V,(near x).length<=2)
 (T9:∀x∈V,∀Z',ai [] Z Z'->∀Q:bC,(∀JO l,isNew Z' l->ai [] Z' JO->JO l=a_ (.lst ((near x).map .ref))->Q (.ref l) JO)->aI KC (aJ KC 2) 1 655 [.ref x] Z' Q)
 (h:∀Z' l to,isNew Z l->ai [] Z Z'->Z' l=a_ (.lst ((to.filter λx=> !(blv x== .none)).map .ref))->gN V near start to []->Q (.ref l) Z'):
 aI KC (aJ KC 3) 1 648 [.ref rn] Z Q:=by
 intros hp rd gl rn st sd Z fl Q es N0 V start near nm blv;refine⟨rfl,?_⟩;show∀c1,isNew Z c1->∀c2,isNew (Z.set c1 (.cel h_)) c2->au _ _ _ ⟨[],[("found",c1),("run",c2)]⟩ ((Z.set c1 (.cel h_)).set c2 (.cel (a_ (.ref rn)))) _;intro c1 JY c2 J0;revert JY;intros c1 c2;have n12:c1≠c2:=aq J0 (ad _ _ _);refine a8 (j2 λfd m Kg=>fH rfl rfl (ao Kg (ap n12 (ad _ _ _))) ?_);intros fd m;have JQ:ai [] Z ((((Z.set c1 (.cel h_)).set c2 (.cel (a_ (.ref rn)))).set fd (.dic [] m)).set c1 (.cel (a_ (.ref fd)))):=λb o nb e=>ap (aq JY e) (ao Kg (ao J0 (ao JY e)));have Ul:fd≠c1:=(aq Kg (ap n12 (ad _ _ _))).symm;have Sd:fd≠c2:=(aq Kg (ad _ _ _)).symm;have KS:((((Z.set c1 (.cel h_)).set c2 (.cel (a_ (.ref rn)))).set fd (.dic [] m)).set c1 (.cel (a_ (.ref fd)))) c1=a_ (.cel (a_ (.ref fd))):=ad _ _ _;have KX:((((Z.set c1 (.cel h_)).set c2 (.cel (a_ (.ref rn)))).set fd (.dic [] m)).set c1 (.cel (a_ (.ref fd)))) c2=a_ (.cel (a_ (.ref rn))):=ap n12.symm (ap Sd.symm (ad _ _ _));have Pb:((((Z.set c1 (.cel h_)).set c2 (.cel (a_ (.ref rn)))).set fd (.dic [] m)).set c1 (.cel (a_ (.ref fd)))) fd=a_ (.dic [] m):=ap Ul (ad _ _ _);have OA:isNew Z fd:=eT (eT Kg);generalize ((((Z.set c1 _).set c2 _).set fd _).set c1 _)=Z1 at JQ KS KX Pb⊢;have Lg:=JQ.get hr aj;have KW:=JQ.get hs aj;have K9:=JQ.get hg aj;refine a8 (dD (cl:=[("run",c2)]) rfl (av (av (aa (a7 rfl rfl KX) (az Lg LK (az KW rfl (ew (λU=>e_) (λk=>(es.lookup k).getD .none) (uw K9) (by rw[b'];walk_at "o") rfl rfl (λy hy Qb hq=>dk hq) (λy hy hf Q hq=>?_) λal hal=>aV rfl ?_)))))))
 ·refine xE (tP hy) λv hv=>?_
  refine ac (i_.mp hy) ?_;rintro p hp rfl;have e1:=her p hp;have e2:isStr p.1=e_:=l_.mp hk p hp;have Qd:b9 es p.1=e_:=by
   cases q:p.1 with
   |str s t=>exact hk
   |_=>rw[q]at e2;exact(ft e2).elim
  refine cQ (av (av (aa (bR rfl rfl KX) (az Lg LK (az KW rfl (aa (aB rfl rfl) ⟨_,hZ K9 Qd (by exact e1▸hv),?_⟩))))));rw[hv]at hq;exact hq
 intros al;have ef:(es.map (λp=>p.1)).filter (λU=>e_)=es.map (λp=>p.1):=DG.mpr λU U=>rfl;rw[ef,hes];have P9:al≠fd:=(aq hal Pb).symm;have OW:isNew Z al:=JQ.isNew hal (by exact aW);have JS:ai [] Z (Z1.set al (.lst (start.map .ref))):=JQ.new hal;have Zbn:=ao (o':=.lst (start.map .ref)) hal KS;have RZ:=ao (o':=.lst (start.map .ref)) hal KX;have NR:=ao (o':=.lst (start.map .ref)) hal Pb;have Pt:=ad Z1 al (.lst (start.map .ref));have WM:c1≠fd:=Ul.symm;have Wu:c2≠fd:=Sd.symm;have Su:c1≠al:=aq hal KS;have Yi:c2≠al:=aq hal KX;generalize Z1.set al _=Z2 at JS Zbn RZ NR Pt⊢;refine j7 ?_;refine lH (λj fm Z'=>∃to JW N,gN V near start to JW/\j=3*(V.length-to.length)+JW.length/\j<=300/\fm.cel=[(("found":Str),c1),(("run":Str),c2)]/\fm.loc.lookup ("ahead":Str)=a_ (.ref al)/\ai [fd,al] Z2 Z'/\Z' fd=a_ (.dic (bV nm to) N)/\Z' al=a_ (.lst (JW.map .ref))) (3*V.length+start.length) ⟨[],start,m,gN.start K8,rfl,?_,rfl,rfl,ai.refl _ _,NR,Pt⟩ ?_
 ·have:start.length=es.length:=by have:=congrArg GB hes;simpa using this.symm
  walk_at "o"
 rintro j ⟨loc,cel⟩ Z' ⟨to,JW,N,hI,hj,Yd,JT,k1,hF,hd,ha⟩ Qz Kz;revert hI hj Yd JT k1 hF hd ha;intros j loc cel Z' to JW N Qz;dsimp only at JT k1;subst JT;have hfl:to.length<=V.length:=n8 to V hI.nd λx hx=>hI.rng x (.inl hx);have Lm:=hF.get Zbn (by exact cJ WM Su);have Lk:=hF.get RZ (by exact cJ Wu Yi);refine za (aa (aB rfl k1) (zV ha (by rw[b'];walk_at "bu") (cG (λq=>?_) (λq=>?_))))
 ·rcases List.eq_nil_or_concat JW with rfl|⟨rest,x,rfl⟩
  ·exact(ft q).elim
  ·intros rest x
   have Pc:j=3*(V.length-to.length)+(rest.length+1):=by rw[hj,IA,q_];rfl
   rw[IA]at hI ha;rw[r_]at ha;have Rn:x∈V:=hI.rng x (.inr (by simp));refine dH (hV x Rn) λC d k wk ds zz=>?_;intros C d k wk ds;refine eY zz λfr r o1 o2 o3 ex=>?_;intros fr r;clear zz;have nxf:x≠fd:=aq OA ex;have nxa:x≠al:=aq OW ex;refine a8 (aX (aa (aB rfl k1) (dY ha rfl (am (bH (t8 ha (by rw[b'];walk_at "T") (aV rfl ?_)))))));have JZ:ai [fd,al] Z2 (Z'.set al (.lst (rest.map .ref))):=hF.set (by exact .tail _ (.head _));have Rj:(Z'.set al (.lst (rest.map .ref))) fd=a_ (.dic (bV nm to) N):=ap P9.symm hd;have Re:=ad Z' al (.lst (rest.map .ref));have PO:(Z'.set al (.lst (rest.map .ref))) c1=a_ (.cel (a_ (.ref fd))):=ap Su Lm;generalize (Z'.set al _)=Z3 at JZ Rj Re PO⊢;have Vb:=JZ.get (JS.get ex aj) (by exact cJ nxf nxa);show au _ _ _ ⟨aL "thing" (.ref x) loc,[("found",c1),("run",c2)]⟩ _ _;generalize hL:aL "thing" (.ref x) loc=L;have Kv:∀Z,bM (cR KC 648) "thing" ⟨L,[("found",c1),("run",c2)]⟩ Z=a_ (.ref x):=λZ=>aB rfl (by rw[<-hL,dj,z_ rfl]);have L8:L.lookup ("ahead":Str)=a_ (.ref al):=by rw[<-hL,dj,p_ (by decide)];exact k1
   refine aO (aU (av (aa (Kv _) (az Vb rfl (aa (a7 rfl rfl PO) ⟨_,zU Rj n9,cG (λq2=>?_) (λq2=>ay ?_)⟩) o1))))
   ·have Rz:x∈to:=EC λhh=>by rw[ux KO (λy hy=>hI.rng y (.inl hy)) Rn hh]at q2;exact(ft q2).elim
    exact zT (Kz .cont _ _ ⟨3*(V.length-to.length)+rest.length,by walk_at "a",to,rest,N,hI.skip Rz,rfl,by walk_at "o",rfl,L8,JZ,Rj,Re⟩)
   ·have Rz:x∉to:=λhh=>by
     have:=jy to x (kq KO (λy hy=>hI.rng y (.inl hy)) hI.nd) hh;rw[show(bV nm to).lookup (.int (nm x) 0)=a_ (.ref x)from this]at q2;exact(ft q2.symm).elim
    have hT:=hI.take Rz (hnV x Rn);have OC:(to++[x]).length<=V.length:=n8 _ V hT.nd λy hy=>hT.rng y (.inl hy);rw[q_,FL]at OC;refine qp (aa (Kv _) (aa (a7 rfl rfl PO) (av (aa (Kv _) (az Vb rfl (j5 Rj n9 (by unfold bV;rw[b'];walk_at "a") λN'=>?_) o1)))));intros N';rw[show cM (er (.int (nm x) 0)) (.ref x) (bV nm to)=bV nm (to++[x])from zY KO (λy hy=>hI.rng y (.inl hy)) Rn Rz];have J1:ai [fd,al] Z2 (Z3.set fd (.dic (bV nm (to++[x])) N')):=JZ.set (by exact .head _);have Y5:=ad Z3 fd (.dic (bV nm (to++[x])) N');have Vu:=ap (o':=.dic (bV nm (to++[x])) N') P9 Re;generalize (Z3.set fd _)=Z4 at J1 Y5 Vu⊢;have Nk:ai [] Z Z4:=λb o nb e=>J1 b o (by exact cJ (aq OA e) (aq OW e)) (JS b o nb e);have hnl:=Vv x Rn;refine bE (aX (aa (aB rfl L8) (dY Vu rfl (af (aA rfl (af (aa (Kv _) (am (aF rfl (T9 x Rn Z4 Nk _ λZ5 l hl Ke ME=>?_))))))))));have ha5:=Ke.get Vu aj;have nal:al≠l:=aq hl Vu;refine am (bH (zW nal ha5 ME (by rw[b',b'];walk_at "o") ⟨rfl,ay (Kz .next _ _ ?_)⟩));refine⟨3*(V.length- (to++[x]).length)+(rest++near x).length,?_,to++[x],rest++near x,N',hT,rfl,?_,rfl,L8,?_,ap P9.symm (Ke.get Y5 aj),?_⟩
    ·rw[q_,q_,FL];walk_at "o"
    ·rw[q_,q_,FL];walk_at "o"
    ·exact(λb o nb e=>ap (λq=>nb (by simp[q])) (Ke b o aj (J1 b o nb e)))
    ·exact r_▸(ad _ _ _)
 ·have q0:JW=[]:=by
   cases JW with
   |nil=>rfl
   |cons x rest=>exact(ft q.symm).elim
  subst q0;refine a9 (dD (cl:=[("found",c1)]) rfl (aa (a7 rfl rfl Lm) (ew (λk=>match ((bV nm to).lookup k).getD .none with |.ref t=> !(blv t== .none) |_=>g') (λk=>((bV nm to).lookup k).getD .none) (uw hd) (by unfold bV;rw[b',b'];walk_at "a") rfl rfl (λy hy Qb hq=>?_) (λy hy hf Q hq=>?_) λl hl=>?_)))
  ·revert hy;intros y Qb
   rw[n7,C_]at hy;intros Qb;refine ac (i_.mp hy) ?_;rintro t ht rfl;intros t;have lk:(bV nm to).lookup (.int (nm t) 0)=a_ (.ref t):=jy to t (kq KO (λy hy=>hI.rng y (.inl hy)) hI.nd) ht;have TF:=hI.rng t (.inl ht);refine dH (hV t TF) λC d k wk ds zz=>?_;refine eY zz λfr r o1 o2 o3 ex=>?_;clear zz;have Vb:=hF.get (JS.get ex aj) (by exact cJ (aq OA ex) (aq OW ex));dsimp only [Function.comp,vI]at hq⊢;rw[lk]at hq;refine cI (aU (av (cQ (aa (bR rfl rfl Lm) (aa (aB rfl rfl) ⟨_,hZ hd n9 lk,az Vb rfl (bI ⟨!(blv t== .none),rfl,cG (λq=>dk ?_) (λq=>?_)⟩) o2 o3⟩)))))
   ·dsimp only [Option.getD]at hq;rw[q]at hq;exact hq
   ·dsimp only [Option.getD]at hq;rw[q]at hq;exact hq
  ·rw[n7,C_]at hy
   refine ac (i_.mp hy) ?_;rintro t ht rfl;have lk:(bV nm to).lookup (.int (nm t) 0)=a_ (.ref t):=jy to t (kq KO (λy hy=>hI.rng y (.inl hy)) hI.nd) ht;dsimp only [Function.comp,vI]at hq⊢;rw[lk]at hq;exact cQ (aa (bR rfl rfl Lm) (aa (aB rfl rfl) ⟨_,hZ hd n9 lk,hq⟩))
  ·rw(config:={}) [zX (blv:=blv) _ _ (λt ht=>?_) (λt ht=>?_)]
   ·have La:ai [] Z Z':=λb o nb e=>hF b o (by exact cJ (aq OA e) (aq OW e)) (JS b o nb e)
    exact h _ l to (La.isNew hl (by exact aW)) (La.new hl) (ad _ _ _) hI
   ·have lk:(bV nm to).lookup (.int (nm t) 0)=a_ (.ref t):=jy to t (kq KO (λy hy=>hI.rng y (.inl hy)) hI.nd) ht
    rw[lk];rfl
   ·have lk:(bV nm to).lookup (.int (nm t) 0)=a_ (.ref t):=jy to t (kq KO (λy hy=>hI.rng y (.inl hy)) hI.nd) ht
    rw[lk];rfl
set_option genInjectivity false
set_option genSizeOf false
structure Wd where
 m:Nat
 c:d_
 hp:d_
 dsA:d_
 sent:d_
 pl:d_
 em:d_
 lim:d_
 dc:d_
 dh:d_
 np:Nat
 ne:Nat
 last:Int
 A:Nat->d_
 Mb:Nat->b_ d_
 Ms:b_ (Addr×Option Nat)
 num:d_->Int
 bl:Nat->c_
theorem C4:Dr Wd:=⟨by constructor<;>exact default⟩
structure RS where
 cnt:Nat->Int
 fr:Nat->Dm
 ds:Nat->Dm
 mst:d_->Nat
theorem C5:Dr RS:=⟨by constructor<;>exact default⟩
structure fV (w:Wd):Prop where
 m10:w.m<=10
 inj:∀p q,p<w.m->q<w.m->w.A p=w.A q->p=q
 ndS:(w.Ms.map (λp=>p.1)).Nodup
 mb:∀p,p<w.m->∀a∈w.Mb p,∃tg,(a,tg)∈w.Ms
 disj:∀p q,p<w.m->q<w.m->p≠q->∀a∈w.Mb p,a∉w.Mb q
 ndM:∀p,p<w.m->(w.Mb p).Nodup
 mlen:∀p,p<w.m->(w.Mb p).length<=2
 tg:∀a q,(a,a_ q)∈w.Ms->q<w.m
 blv:∀p,p<w.m->ej (w.bl p)=e_
 h850:850<=w.dsA
 numA:∀p,p<w.m->w.num (w.A p)=p+1
 numS:∀x∈w.Ms,(w.m:Int)<w.num x.1
noncomputable def jb (w:Wd)(Z:ak)(tg:m_ Nat)(v:c_):Prop:=match tg with
 |none=>v=.none
 |some q=>∃rf rd,v=.ref rf/\Z rf=a_ (.inst 162 rd (gq (w.A q)))
noncomputable def oa (w:Wd)(Z:ak)(z:d_)(st:Nat)(a:d_)(tg:m_ Nat):Prop:=
 ∃d wk,Z wk=a_ (.lst [])/\wk≠z/\wk≠w.sent/\(match st with
  |0=>∃v,Z a=a_ (bU d (w.num a) 1 wk v)/\jb w Z tg v
  |1=>∃v,Z a=a_ (bU d (w.num a) 0 wk v)/\jb w Z tg v
  |_=>Z a=a_ (.inst 66 d (ax (w.num a) 0 .none wk g' e_ (bG .none))))
noncomputable def lN (w:Wd)(Z:ak)(z:d_)(s:RS)(p:Nat):Prop:=
 ∃d wk its,Z (w.A p)=a_ (dN d (p+1) (s.cnt p) (w.bl p) wk (s.ds p) (s.fr p) its)/\Z wk=a_ (.lst [])/\wk≠z/\wk≠w.sent/\(s.fr p=g'->Z its=a_ (.lst ((w.Mb p).map .ref))/\its≠z/\its≠w.sent)
structure cL (w:Wd)(Z:ak)(s:RS)(z:d_)(zs ss:b_ d_):Prop where
 hc:Z w.c=a_ (.inst 401 w.dc (dM w.hp w.dsA w.pl w.em))
 hpl:Z w.pl=a_ (.dic [] w.np)
 hem:Z w.em=a_ (.dic [] w.ne)
 hd:Z w.dsA=a_ (.bm "list.append" w.sent)
 hh:Z w.hp=a_ (.inst 225 w.dh (bN w.lim w.last z))
 hz:Z z=a_ (.lst (zs.map .ref))
 hs:Z w.sent=a_ (.lst (ss.map .ref))
 nsz:w.sent≠z
 ar:∀p,p<w.m->lN w Z z s p
 sc:∀a tg,(a,tg)∈w.Ms->oa w Z z (s.mst a) a tg
theorem jb.frm {w:Wd}{W:b_ d_}(h:jb w Z tg v)(hF:ai W Z Z')(hW:∀a∈W,∃o,Z a=a_ o/\kd o≠172):jb w Z' tg v:=by
 cases tg with
 |none=>exact h
 |some q=>
  refine aY h ?_;clear h;rintro rf rd e h;refine⟨rf,rd,e,hF.get h λhm=>?_⟩;refine ac (hW rf hm) λo e1 e2=>?_;rw[h]at e1;cases e1;exact e2 rfl
theorem oa.frm {w:Wd}{W:b_ d_}{st:Nat}(h:oa w Z z st a tg)(hF:ai W Z Z')(ha:a∉W)(hW:∀b∈W,b=z\/b=w.sent\/∃o,Z b=a_ o/\kd o≠1/\kd o≠172)(hz:∃xs,Z z=a_ (.lst xs))(hs:∃xs,Z w.sent=a_ (.lst xs)):oa w Z' z st a tg:=by
 intros a z Z Z' tg w W st;refine eY h λd wk h1 h2 h3 h4=>?_;intros d wk;clear h;have hw:wk∉W:=λq=>by
  rcases hW wk q with e|e|⟨o,e,e2,_⟩
  ·exact h2 e
  ·exact h3 e
  ·rw[h1]at e;cases e;exact e2 rfl
 have Zbp:∀a∈W,∃o,Z a=a_ o/\kd o≠172:=λb hb=>by
  rcases hW b hb with e|e|⟨o,e,_,e2⟩
  ·refine xE hz λxs e2=>?_;clear hz;exact⟨_,e▸e2,ae⟩
  ·refine xE hs λxs e2=>?_;clear hs;exact⟨_,e▸e2,ae⟩
  ·exact⟨o,e,e2⟩
 refine⟨d,wk,hF.get h1 hw,h2,h3,?_⟩
 match st,h4 with
 |0,h4=>
  refine ac h4 λv e hv=>?_;clear h4;exact⟨v,hF.get e ha,hv.frm hF Zbp⟩
 |1,h4=>
  refine ac h4 λv e hv=>?_;clear h4;exact⟨v,hF.get e ha,hv.frm hF Zbp⟩
 |n+2,h4=>exact hF.get h4 ha
theorem lN.frm {w:Wd}{W:b_ d_}{s:RS}{p:Nat}(h:lN w Z z s p)(hF:ai W Z Z')(ha:w.A p∉W)(hW:∀b∈W,b=z\/b=w.sent\/∃o,Z b=a_ o/\kd o≠1){s':RS}(e1:s'.cnt p=s.cnt p)(e2:s'.ds p=s.ds p)(e3:s'.fr p=s.fr p):lN w Z' z s' p:=by
 refine fL h λd wk its h1 h2 h3 h4 h5=>?_;clear h;have nl:∀ {b xs},Z b=a_ (.lst xs)->b≠z->b≠w.sent->b∉W:=λ{b xs} hb n1 n2 q=>by
  rcases hW b q with e|e|⟨o,e,e2⟩
  ·exact n1 e
  ·exact n2 e
  ·rw[hb]at e;cases e;exact e2 rfl
 refine⟨d,wk,its,?_,hF.get h2 (nl h2 h3 h4),h3,h4,λq=>?_⟩
 ·rw[e1,e2,e3];exact hF.get h1 ha
 ·refine bP (h5 (e3▸q)) λh6 h7 h8=>?_
  exact⟨hF.get h6 (nl h6 h7 h8),h7,h8⟩
theorem cL.kA {w:Wd}{s:RS}(h:cL w Z s z zs ss){p:Nat}(hp:p<w.m):∃o,Z (w.A p)=a_ o/\kd o=95:=by
 refine eJ (h.ar p hp) λd wk its e U=>?_;exact⟨_,e,rfl⟩
theorem cL.kS {w:Wd}{s:RS}(h:cL w Z s z zs ss){a:d_}{tg:m_ Nat}(hp:(a,tg)∈w.Ms):∃o,Z a=a_ o/\kd o=76:=by
 refine eY (h.sc a tg hp) λd wk U U U e=>?_
 match hq:s.mst a,e with
 |0,e=>refine ac e ?_;clear e;rintro v e _;exact⟨_,e,rfl⟩
 |1,e=>refine ac e ?_;clear e;rintro v e _;exact⟨_,e,rfl⟩
 |n+2,e=>exact⟨_,e,rfl⟩
theorem iG {b:d_}(h1:Z a=a_ o)(h2:∃o',Z b=a_ o'/\kd o'=n)(h:(kd o==n)=g':=by rfl):a≠b:=by
 refine ac h2 λo' e k=>?_;clear h2;exact ag h1 e (k▸h)
theorem uy:∀ {l:b_ (Addr×Option Nat)} {a:d_} {t u:m_ Nat},(l.map (λp=>p.1)).Nodup->(a,t)∈l->(a,u)∈l->t=u
 | [],_,_,_,_,h,_=>by exact(aj h).elim
 |(b,v)::r,a,t,u,nd,h1,h2=>by
  rw[n_,DK]at nd;rcases f_.mp h1 with e1|h1<;>rcases f_.mp h2 with e2|h2
  ·cases e1;cases e2;rfl
  ·cases e1;exact absurd (Do (f:=(λp=>p.1)) h2) nd.1
  ·cases e2;exact absurd (Do (f:=(λp=>p.1)) h1) nd.1
  ·exact uy nd.2 h1 h2
theorem z5 {w:Wd}{s:RS}{p:Nat}(ok:fV w)(R:cL w Z s z zs ss)(hp:p<w.m)(MY:s.cnt p=0)(O6:s.ds p=g')(OH:ss.length<=900)
 (h:∀Z',ai [w.A p,w.sent] Z Z'->cL w Z' {s with ds:=λq=>if q=p then !(w.bl p== .none)else s.ds q} z zs (ss++if(w.bl p== .none)=e_ then[]else[w.A p])->Q .none Z'):
 aI KC (aJ KC 1) 2 391 [.ref w.c,.ref (w.A p)] Z Q:=by
 intros z Z zs ss Q w s p;refine fL (R.ar p hp) λd wk its e e1 e2 e3 e4=>?_;intros d wk its;by_cases hb:w.bl p=.none
 ·refine tJ (c:=w.c) (hp:=w.hp) (dsA:=w.dsA) (pl:=w.pl) (em:=w.em) (dc:=w.dc) e rfl rfl rfl (ok.blv p hp) (.inr (.inl hb)) (h Z (ai.refl _ _) ?_)
  rw[z_ (by rw[hb];rfl),Dz];have:({s with ds:=λq=>if q=p then !(w.bl p== .none)else s.ds q}:RS)=s:=by
   have e:(λq=>if q=p then !(w.bl p== .none)else s.ds q)=s.ds:=funext λq=>by
    split
    ·rename _=>hq;rw[hq,O6,hb];rfl
    ·rfl
   rw[e]
  rw[this];exact R
 ·have Q1:(w.bl p==DU)=g':=r'.mpr hb
  rw[MY,O6]at e;refine zg R.hc R.hd R.hs (by rw[b'];walk_at "o") e rfl rfl rfl (ok.blv p hp) hb (by simp[cX]) ok.h850 (ag R.hc e) (ag R.hd e) (ag R.hs e) λZ' hF ht hs=>h Z' hF ?_;intros Z';rw[p_ (by rw[Q1];exact El)];have nA:w.A p≠w.sent:=(ag R.hs e).symm;have out:∀ {a o},Z a=a_ o->(kd o==95)=g'->(kd o==1)=g'->Z' a=a_ o:=λ{a o} h1 h2 h3=>hF.get h1 (by exact cJ (ag h1 e h2) (ag h1 R.hs h3));have hW:∀b∈[w.A p,w.sent],b=z\/b=w.sent\/∃o,Z b=a_ o/\kd o≠1:=λb hb=>by
   rcases f_.mp hb with rfl|hb
   ·exact .inr (.inr ⟨_,e,ae⟩)
   ·exact .inr (.inl (g_.mp hb))
  refine⟨out R.hc rfl rfl,out R.hpl rfl rfl,out R.hem rfl rfl,out R.hd rfl rfl,out R.hh rfl rfl,hF.get R.hz (by exact cJ (ag R.hz e) R.nsz.symm),by rw[hs,r_];rfl,R.nsz,λq hq=>?_,λa tg ha=>?_⟩
  ·intros q
   by_cases eq:q=p
   ·subst eq
    refine⟨d,wk,its,?_,hF.get e1 (by exact cJ (ag e1 e) e3),e2,e3,λf=>?_⟩
    ·rw[ht];unfold dN;dsimp only;rw[z_ rfl,Q1,MY];rfl
    ·refine bP (e4 f) λg1 g2 g3=>?_
     exact⟨hF.get g1 (by exact cJ (ag g1 e) g3),g2,g3⟩
   ·refine(R.ar q hq).frm hF (λhm=>?_) hW rfl (by dsimp only;exact(p_ eq)) rfl
    rcases f_.mp hm with hm|hm
    ·exact eq (ok.inj q p hq hp hm)
    ·refine ac (R.kA hq) λo eo ko=>?_
     exact absurd (g_.mp hm) (ag eo R.hs (by exact ko▸rfl))
  ·refine ac (R.kS ha) λo eo ko=>?_
   refine(R.sc a tg ha).frm hF (by exact cJ (ag eo e (by rw[ko];rfl)) (ag eo R.hs (by rw[ko];rfl))) (λb hb=>?_) ⟨_,R.hz⟩ ⟨_,R.hs⟩;rcases f_.mp hb with rfl|hb
   ·exact .inr (.inr ⟨_,e,ae,ae⟩)
   ·exact .inr (.inl (g_.mp hb))
theorem z6 {w:Wd}{s:RS}(R:cL w Z s z zs ss)(ha:(a,tg)∈w.Ms)(hm:s.mst a=1)(h:Q .none Z):
 aI KC (aJ KC 1) 2 391 [.ref w.c,.ref a] Z Q:=by
 refine eY (R.sc a tg ha) λd wk e1 e2 e3 e=>?_;rw[hm]at e;refine ac e ?_;clear e;rintro v e hv;exact tJ (c:=w.c) (hp:=w.hp) (dsA:=w.dsA) (pl:=w.pl) (em:=w.em) (dc:=w.dc) e rfl rfl rfl rfl (.inr (.inl rfl)) h
theorem z7 {w:Wd}{s:RS}{p:Nat}(ok:fV w)(R:cL w Z s z zs ss)(hp:p<w.m)(MY:s.cnt p=0)(hfr:s.fr p=g')(hm:∀a∈w.Mb p,s.mst a=0)(KZ:zs.length<=500)
 (h:∀Z',ai (w.A p::z::w.Mb p) Z Z'->cL w Z' {s with fr:=λq=>if q=p then e_ else s.fr q,mst:=λa=>if a∈w.Mb p then 1 else s.mst a} z (zs++w.Mb p) ss->Q .none Z'):
 aI KC (aJ KC 2) 2 398 [.ref w.c,.ref (w.A p)] Z Q:=by
 intros z Z zs ss Q w s p;refine fL (R.ar p hp) λd wk its e e1 e2 e3 e4=>?_;intros d wk its;refine bP (e4 hfr) λg1 g2 g3=>?_;have hl:=ok.mlen p hp;have PE:∀a∈w.Mb p,∃tg,(a,tg)∈w.Ms/\∃d wk,Z wk=a_ (.lst [])/\wk≠z/\wk≠w.sent/\∃v,Z a=a_ (bU d (w.num a) 1 wk v)/\jb w Z tg v:=λa ha=>by
  refine xE (ok.mb p hp a ha) λtg ht=>?_;refine eY (R.sc a tg ht) λd wk k1 k2 k3 k4=>?_;rw[hm a ha]at k4;exact⟨tg,ht,d,wk,k1,k2,k3,k4⟩
 rw[MY,hfr]at e;refine zk R.hc R.hh R.hz (by rw[b'];walk_at "a") e1 g1 e (λa ha=>?_) (ok.ndM p hp) (ag R.hc e) (ag R.hh e) (ag R.hz e) (ag e1 e) (ag g1 e) e2 λZ' KE Kj hF n1 n2 w1 w2 ht hz K0=>h Z' hF ?_
 ·refine oK (PE a ha) λtg U d wk U U U v ev U=>?_
  exact⟨d,_,wk,v,ev⟩
 intros Z' KE Kj;have UM:∀b∈w.Mb p,∃o,Z b=a_ o/\kd o=76:=λb hb=>by
  refine oK (PE b hb) λtg U d wk U U U v ev U=>?_;exact⟨_,ev,rfl⟩
 have out:∀ {a o},Z a=a_ o->(kd o==95)=g'->(kd o==76)=g'->a≠z->Z' a=a_ o:=λ{a o} h1 h2 h3 h4=>hF.get h1 (λhm=>by
  rcases f_.mp hm with hm|hm
  ·exact ag h1 e h2 hm
  ·rcases f_.mp hm with hm|hm
   ·exact h4 hm
   ·exact iG h1 (UM a hm) h3 rfl)
 have Ly:Z' z=a_ (.lst ((zs++w.Mb p).map .ref)):=by rw[hz,r_]
 refine⟨out R.hc rfl rfl (ag R.hc R.hz),out R.hpl rfl rfl (ag R.hpl R.hz),out R.hem rfl rfl (ag R.hem R.hz),out R.hd rfl rfl (ag R.hd R.hz),out R.hh rfl rfl (ag R.hh R.hz),Ly,out R.hs rfl rfl R.nsz,R.nsz,λq hq=>?_,λa tg ha=>?_⟩
 ·intros q
  by_cases eq:q=p
  ·subst eq
   refine⟨d,KE,Kj,?_,w1,(aq n1 R.hz).symm,(aq n1 R.hs).symm,λf=>?_⟩
   ·rw[ht];dsimp only;rw[z_ rfl,MY]
   ·dsimp only at f;rw[z_ rfl]at f;exact absurd f (by decide)
  ·refine(R.ar q hq).frm hF (λhm=>?_) (λb hb=>?_) rfl rfl (by dsimp only;exact(p_ eq))
   ·rcases f_.mp hm with hm|hm
    ·exact eq (ok.inj q p hq hp hm)
    ·refine ac (R.kA hq) λo eo ko=>?_
     rcases f_.mp hm with hm|hm
     ·exact ag eo R.hz (by exact ko▸rfl) hm
     ·exact iG eo (UM _ hm) (by rw[ko];rfl) rfl
   ·intros b
    rcases f_.mp hb with rfl|hb
    ·exact .inr (.inr ⟨_,e,ae⟩)
    ·rcases f_.mp hb with rfl|hb
     ·exact .inl rfl
     ·refine ac (UM b hb) λo eo ko=>?_
      exact .inr (.inr ⟨o,eo,by rw[ko];decide⟩)
 ·intros a tg
  have hW:∀b∈w.A p::z::w.Mb p,b=z\/b=w.sent\/∃o,Z b=a_ o/\kd o≠1/\kd o≠172:=λb hb=>by
   rcases f_.mp hb with rfl|hb
   ·exact .inr (.inr ⟨_,e,ae,ae⟩)
   ·rcases f_.mp hb with rfl|hb
    ·exact .inl rfl
    ·refine ac (UM b hb) λo eo ko=>?_
     exact .inr (.inr ⟨o,eo,by rw[ko];decide,by rw[ko];decide⟩)
  by_cases hin:a∈w.Mb p
  ·refine oK (PE a hin) λtg' Qa d wk k1 k2 k3 v ev hv=>?_
   cases uy ok.ndS ha Qa;dsimp only;rw[z_ hin];refine⟨d,wk,out k1 rfl rfl k2,k2,k3,v,K0 a hin _ _ _ _ ev,hv.frm hF λb hb=>?_⟩;rcases hW b hb with rfl|rfl|⟨o,e,_,e2⟩
   ·exact⟨_,R.hz,ae⟩
   ·exact⟨_,R.hs,ae⟩
   ·exact⟨o,e,e2⟩
  ·refine ac (R.kS ha) λo eo ko=>?_
   dsimp only;rw[p_ hin];refine(R.sc a tg ha).frm hF (λhm=>?_) hW ⟨_,R.hz⟩ ⟨_,R.hs⟩;rcases f_.mp hm with hm|hm
   ·exact ag eo e (by exact ko▸rfl) hm
   ·rcases f_.mp hm with hm|hm
    ·exact ag eo R.hz (by exact ko▸rfl) hm
    ·exact hin hm
noncomputable def lO (cnt:Nat->Int)(tg:m_ Nat):Nat->Int:=λx=>if tg=a_ x then cnt x-1 else cnt x
noncomputable def uz (w:Wd)(cnt:Nat->Int):m_ Nat->b_ d_
 |none=>[]
 |some q=>if cnt q-1=0 then[w.A q]else[]
theorem z8 {w:Wd}{s:RS}(ok:fV w)(R:cL w Z s z zs ss)(ha:(a,tg)∈w.Ms)(hm:s.mst a=1)(KZ:zs.length<=500)
 (h:∀Z',ai (a::z::(tg.toList.map w.A)) Z Z'->cL w Z' {s with cnt:=lO s.cnt tg,mst:=λb=>if b=a then 2 else s.mst b} z (zs++uz w s.cnt tg) ss->Q .none Z'):
 aI KC (aJ KC 2) 2 398 [.ref w.c,.ref a] Z Q:=by
 intros a z Z zs ss Q tg w s;refine eY (R.sc a tg ha) λd wk e1 e2 e3 e=>?_;intros d wk;rw[hm]at e;refine ac e ?_;clear e;rintro v e hv;intros v;have key:∀Z' KE,ai (a::z::(tg.toList.map w.A)) Z Z'->isNew Z KE->Z' KE=a_ (.lst [])->Z' a=a_ (.inst 66 d (ax (w.num a) 0 .none KE g' e_ (bG .none)))->Z' z=a_ (.lst ((zs++uz w s.cnt tg).map .ref))->
  (∀q,tg=a_ q->lN w Z' z {s with cnt:=lO s.cnt tg,mst:=λb=>if b=a then 2 else s.mst b} q)->Q .none Z':=by
  intro Z' KE hF n1 w1 ht hz Tl;refine h Z' hF ?_;have kT:∀b∈tg.toList.map w.A,∃o,Z b=a_ o/\kd o=95:=λb hb=>by
   refine ac (i_.mp hb) ?_;rintro q hq rfl;exact R.kA (ok.tg a q (by cases tg with |none=>simp at hq|some r=>simp at hq;subst hq;exact ha))
  have out:∀ {b o},Z b=a_ o->(kd o==95)=g'->(kd o==76)=g'->b≠z->Z' b=a_ o:=λ{b o} h1 h2 h3 h4=>hF.get h1 (λhm=>by
   rcases f_.mp hm with hm|hm
   ·exact ag h1 e h3 hm
   ·rcases f_.mp hm with hm|hm
    ·exact h4 hm
    ·exact iG h1 (kT b hm) h2 rfl)
  refine⟨out R.hc rfl rfl (ag R.hc R.hz),out R.hpl rfl rfl (ag R.hpl R.hz),out R.hem rfl rfl (ag R.hem R.hz),out R.hd rfl rfl (ag R.hd R.hz),out R.hh rfl rfl (ag R.hh R.hz),hz,out R.hs rfl rfl R.nsz,R.nsz,λq hq=>?_,λb tb hb=>?_⟩
  ·by_cases eq:tg=a_ q
   ·exact Tl q eq
   ·refine(R.ar q hq).frm hF (λhm=>?_) (λb hb=>?_) (by dsimp only [lO];exact(p_ eq)) rfl rfl
    ·refine ac (R.kA hq) λo eo ko=>?_
     rcases f_.mp hm with hm|hm
     ·exact ag eo e (by exact ko▸rfl) hm
     ·rcases f_.mp hm with hm|hm
      ·exact ag eo R.hz (by exact ko▸rfl) hm
      ·refine ac (i_.mp hm) λr hr er=>?_
       cases tg with
       |none=>simp at hr
       |some t=>
        simp at hr;subst hr;exact eq (by exact congrArg _ (ok.inj r q (ok.tg a r ha) hq er))
    ·rcases f_.mp hb with rfl|hb
     ·exact .inr (.inr ⟨_,e,ae⟩)
     ·rcases f_.mp hb with rfl|hb
      ·exact .inl rfl
      ·refine ac (kT b hb) λo eo ko=>?_
       exact .inr (.inr ⟨o,eo,by rw[ko];decide⟩)
  ·dsimp only
   by_cases eq:b=a
   ·subst eq
    rw[z_ rfl];exact⟨d,KE,w1,(aq n1 R.hz).symm,(aq n1 R.hs).symm,ht⟩
   ·rw[p_ eq]
    refine ac (R.kS hb) λo eo ko=>?_;refine(R.sc b tb hb).frm hF (λhm=>?_) (λx hx=>?_) ⟨_,R.hz⟩ ⟨_,R.hs⟩
    ·rcases f_.mp hm with hm|hm
     ·exact eq hm
     ·rcases f_.mp hm with hm|hm
      ·exact ag eo R.hz (by exact ko▸rfl) hm
      ·exact iG eo (kT b hm) (by rw[ko];rfl) rfl
    ·rcases f_.mp hx with rfl|hx
     ·exact .inr (.inr ⟨_,e,ae,ae⟩)
     ·rcases f_.mp hx with rfl|hx
      ·exact .inl rfl
      ·refine ac (kT x hx) λo eo ko=>?_
       exact .inr (.inr ⟨o,eo,by rw[ko];decide,by rw[ko];decide⟩)
 cases tg with
 |none=>
  have hv:v=.none:=hv;subst hv;refine zi R.hc R.hh R.hz (by rw[b'];walk_at "o") R.hpl R.hem e1 e (ag R.hc e) (ag R.hh e) (ag R.hz e) (ag R.hpl e) (ag R.hem e) (ag e1 e) λZ' KE hF n1 w1 ht=>key Z' KE (hF.more (by simp)) n1 w1 ht ?_ (λq hq=>by exact(ns hq).elim);show Z' z=a_ (.lst ((zs++[]).map .ref));rw[Dz];exact hF.get R.hz (by exact aE (ag R.hz e))
 |some q=>
  intros q;refine aY hv ?_;clear hv;rintro rf rd rfl KV;intros rf rd;have hq:=ok.tg a q ha;refine fL (R.ar q hq) λdq wq iq x1 x2 x3 x4 x5=>?_;intros dq wq iq;refine zh R.hc R.hh R.hz (by rw[b'];walk_at "o") R.hpl R.hem e1 e KV x1 (by simp[cX]) (ag R.hc e) (ag R.hh e) (ag R.hz e) (ag x1 e) (ag KV e) (ag R.hc x1) (ag R.hh x1) (ag R.hz x1) (ag R.hpl e) (ag R.hem e) (ag e1 e) λZ' KE hF n1 w1 ht hx hz=>key Z' KE (hF.more (by simp)) n1 w1 ht ?_ (λq' O0=>?_)
  ·rw[hz,r_]
   show _=a_ (O.lst (zs.map .ref++(if s.cnt q-1=0 then[w.A q]else[]).map .ref));by_cases e0:s.cnt q-1=0
   ·rw[z_ e0,z_ e0];rfl
   ·rw[p_ e0,p_ e0,Ga,Dz]
  ·cases O0
   refine⟨dq,wq,iq,?_,hF.get x2 (by exact eZ (ag x2 e) (ag x2 x1) x3),x3,x4,λf=>?_⟩
   ·rw[hx];dsimp only [lO];rw[z_ rfl];rfl
   ·refine bP (x5 f) λg1 g2 g3=>?_
    exact⟨hF.get g1 (by exact eZ (ag g1 e) (ag g1 x1) g2),g2,g3⟩
noncomputable def dT (w:Wd)(z:d_)(Z Z':ak):Prop:=∀a o,a≠w.hp->a≠w.sent->a≠z->(∀p,p<w.m->a≠w.A p)->(∀x∈w.Ms,a≠x.1)->Z a=a_ o->Z' a=a_ o
theorem dT.refl (w:Wd)(z:d_)(Z:ak):dT w z Z Z:=λU U U U U U U e=>e
theorem dT.frm {w:Wd}{W:b_ d_}(h:dT w z Z Z')(hF:ai W Z' JO)(hW:∀a∈W,a=w.hp\/a=w.sent\/a=z\/(∃p,p<w.m/\a=w.A p)\/∃x∈w.Ms,a=x.1):dT w z Z JO:=λa o n1 n2 n3 n4 n5 e=>hF a o (λhm=>by
 rcases hW a hm with q|q|q|⟨p,hp,q⟩ |⟨x,hx,q⟩
 ·exact n1 q
 ·exact n2 q
 ·exact n3 q
 ·exact n4 p hp q
 ·exact n5 x hx q) (h a o n1 n2 n3 n4 n5 e)
theorem cL.lst_out {w:Wd}{s:RS}(R:cL w Z s z zs ss)(hF:dT w z Z Z')(Mj:Z dl=a_ (.lst xs))(n1:dl≠z)(n2:dl≠w.sent):Z' dl=a_ (.lst xs):=
 hF dl _ (ag Mj R.hh) n2 n1 (λp hp=>iG Mj (R.kA hp) rfl) (λx hx=>iG Mj (R.kS (a:=x.1) (tg:=x.2) hx) rfl) Mj
theorem gK {α:Type}{l:b_ α}{i:Nat}{x:α}(h:l[i]? =a_ x):l.take (i+1)=l.take i++[x]:=by rw[Fr,h];rfl
theorem og {α:Type}{l:b_ α}{i:Nat}{x:α}(nd:l.Nodup)(h:l[i]? =a_ x):x∉l.take i:=λq=>by
 have h1:=Iz i l;have h2:x∈l.drop i:=by rw[DV,h];exact .head _
 rw[<-h1,Dk]at nd;exact nd.2.2 x q x h2 rfl
structure iM (w:Wd)(dl:d_)(fm:Fm):Prop where
 cel:fm.cel=[]
 self:fm.loc.lookup ("self":Str)=a_ (.ref w.c)
 start:fm.loc.lookup ("start":Str)=a_ (.int 0 0)
 dying:fm.loc.lookup ("dying":Str)=a_ (.ref dl)
theorem iM.thing {w:Wd}(h:iM w dl fm)(v:c_):iM w dl ⟨aL "thing" v fm.loc,fm.cel⟩where
 cel:=h.cel
 self:=by dsimp only;rw[dj,p_ (by decide)];exact h.self
 start:=by dsimp only;rw[dj,p_ (by decide)];exact h.start
 dying:=by dsimp only;rw[dj,p_ (by decide)];exact h.dying
theorem z9 {w:Wd}{s:RS}{D:b_ Nat}{ms:b_ (Addr×Option Nat)}
 (ok:fV w) (R:cL w Z s z zs ss) (hD:∀p∈D,p<w.m/\s.cnt p=0/\s.ds p=g') (VY:D.Nodup) (hms:∀x∈ms,x∈w.Ms/\s.mst x.1=1) (OH:ss.length+D.length<=900) (M4:ms.length<=100)
 (Mj:Z dl=a_ (.lst ((D.map w.A++ms.map (λp=>p.1)).map .ref))) (Vp:dl≠z) (QN:dl≠w.sent) (hL:iM w dl fm) (Ra:(p4.endLine==p5.line)=e_)
 (h:∀JN Z',iM w dl JN->dT w z Z Z'->cL w Z' {s with ds:=λq=>if q∈D then !(w.bl q== .none)else s.ds q} z zs (ss++(D.filter λq=> !(w.bl q== .none)).map w.A)->Qs .next JN Z'):
 iw (aT (aJ KC 3) (k+5) (n+1)) "thing" (.ref dl) [.Expr (.Call (.Attribute (.Name "self" p1) "finish" p4) [.Name "thing" p2] [] p5) p3] (cR KC 384) fm Z Qs:=by
 intros z dl p1 p2 p3 p4 p5 n k Z zs ss fm Qs w s D ms;refine gp (cY Mj) (by rw[b',q_,b',b'];walk_at "o") rfl (λi JN Z'=>iM w dl JN/\dT w z Z Z'/\cL w Z' {s with ds:=λq=>if q∈D.take i then !(w.bl q== .none)else s.ds q} z zs (ss++((D.take i).filter λq=> !(w.bl q== .none)).map w.A)) ⟨hL,dT.refl _ _ _,?_⟩ (λi JN Z' hI=>?_) (λi y JN Z' hy hI Qz Kz=>?_) (λJN Z' hI=>?_)
 ·simpa using R
 ·show Z' dl=Z dl
  exact(R.lst_out hI.2.1 Mj Vp QN).trans Mj.symm
 ·revert hy hI;intros i y JN Z' Qz
  refine bP hI λhL hF R'=>?_;clear hI;have Ko:=hL.thing y;obtain⟨loc,cel⟩:=JN;revert Ko;revert hL;revert loc cel;injections loc cel;intro hL Ko;have JT:cel=[]:=Ko.cel;subst JT;rw[k_]at hy;revert Kz;revert Ko;revert hL;revert Qz loc;injections Qz loc;intro hL Ko Kz;refine ac (j_.mp hy) ?_;rintro t hj rfl;intros t;dsimp only at Ko⊢;have Kv:∀Z,bM (cR KC 384) "thing" ⟨aL "thing" (.ref t) loc,[]⟩ Z=a_ (.ref t):=λZ=>aB rfl (by exact d6);generalize aL "thing" (.ref t) loc=L at Ko Kv⊢;refine bE (aX (aa (aB rfl Ko.self) (bZ R'.hc rfl rfl (af (aa (Kv _) (am (aF rfl ?_)))))) Ra (by simp));rw[IM]at hj;intros L;split at hj
  ·rename i<(Id w.A D).length=>hi
   rw[k_]at hj;refine ac (j_.mp hj) ?_;rintro p hp rfl;intros p;have Vq:=hD p (B_ hp);have U0:=og VY hp;have J6:(((D.take i).filter λq=> !(w.bl q== .none)).map w.A).length<=D.length:=by
    rw[b'];exact o_ (DE _ _) (by rw[EI];walk_at "a")
   refine z5 ok R' Vq.1 Vq.2.1 (by dsimp only;rw[p_ U0];exact Vq.2.2) (by rw[q_];walk_at "o") λZ2 JS R2=>⟨rfl,ay (Kz .next _ _ ⟨Ko,hF.frm JS (λa ha=>?_),?_⟩)⟩
   ·rcases f_.mp ha with rfl|ha
    ·exact .inr (.inr (.inr (.inl ⟨p,Vq.1,rfl⟩)))
    ·exact .inr (.inl (g_.mp ha))
   ·intros Z2
    rw[gK hp];have e1:ss++((D.take i++[p]).filter λq=> !(w.bl q== .none)).map w.A=(ss++((D.take i).filter λq=> !(w.bl q== .none)).map w.A)++if(w.bl p==DU)=e_ then[]else[w.A p]:=by
     rw[Em,r_, <-Dw];congr 1;cases hb:w.bl p==DU with
     |true=>rw[DP (by rw[hb];decide)];rfl
     |false=>rw[DO (by rw[hb];decide)];rfl
    have e2:(λq=>if q∈D.take i++[p]then !(w.bl q==DU)else s.ds q)=λq=>if q=p then !(w.bl p== .none)else(if q∈D.take i then !(w.bl q== .none)else s.ds q):=by
     funext q
     by_cases e:q=p
     ·subst e;simp
     ·simp[e]
    rw[e1,e2];exact R2
  ·rename Not _=>hi
   rw[b']at hi hj;rw[k_]at hj;refine ac (j_.mp hj) ?_;rintro x hx rfl;have L7:=hms x (B_ hx);refine z6 R' (a:=x.1) (tg:=x.2) L7.1 L7.2 ⟨rfl,ay (Kz .next _ _ ⟨Ko,hF,?_⟩)⟩;rw[Dv (by walk_at "a")]at R';rw[Dv (by walk_at "bf")];exact R'
 ·refine bP hI λhL hF R'=>?_;clear hI
  rw[b',q_,b',Dv (by walk_at "a")]at R';exact h JN Z' hL hF R'
noncomputable def bF:b_ (Addr×Option Nat)->b_ Nat
 | []=>[]
 |(_,h_)::r=>bF r
 |(_,a_ q)::r=>q::bF r
theorem jz {r:b_ (Addr×Option Nat)}:bF ((a,a_ q)::r)=q::bF r:=rfl
theorem qz:∀l:b_ (Addr×Option Nat),(bF l).length<=l.length
 | []=>DW _
 |(_,h_)::r=>by have:=qz r;simp only [bF,Df];walk_at "a"
 |(_,a_ q)::r=>by have:=qz r;simp only [bF,Df];walk_at "a"
structure jE (w:Wd)(s:RS)(D:b_ Nat)(ms:b_ (Addr×Option Nat))(b:Nat->Nat)(i j:Nat)(s':RS)(zs:b_ d_):Prop where
 cnt:∀p,p<w.m->s'.cnt p=((b p+(bF (ms.drop j)).count p:Nat):Int)
 fr:∀p,s'.fr p=if p∈D.take i then e_ else s.fr p
 ds:s'.ds=s.ds
 mst:∀a,s'.mst a=if a∈(ms.take j).map (λp=>p.1)then 2 else if a∈(D.take i).flatMap w.Mb then 1 else s.mst a
 zs:∃X,zs=(D.take i).flatMap w.Mb++X.map w.A/\X++fE b (bF (ms.drop j))=fE b (bF ms)
theorem qA (b:Nat->Nat)(x:Nat)(r:b_ Nat):fE b (x::r)=if b x=0/\x∉r then x::fE b r else fE b r:=rfl
theorem qB (b:Nat->Nat):∀l,(fE b l).length<=l.length
 | []=>DW _
 |y::r=>by
  have:=qB b r;unfold fE;split<;>simp only [Df] <;>walk_at "a"
theorem jE.zlen {w:Wd}{s s':RS}{D:b_ Nat}{ms:b_ (Addr×Option Nat)}{b:Nat->Nat}{i j:Nat}(h:jE w s D ms b i j s' zs)(ok:fV w)(hD:∀p∈D,p<w.m)(U5:D.length<=10)(M4:ms.length<=100):zs.length<=500:=by
 refine ac h.zs λX e hX=>?_;have h1:∀l:b_ Nat,(∀p∈l,p<w.m)->(l.flatMap w.Mb).length<=2*l.length:=λl=>by
  induction l with
  |nil=>intro _;simp
  |cons p r ih=>
   intro hh;have:=ih λp hp=>hh p (.tail _ hp);have:=ok.mlen p (hh p (.head _));rw[DD,q_,Df];walk_at "w"
 have h2:=h1 (D.take i) λp hp=>hD p (Ep hp);have h3:(D.take i).length<=10:=by rw[EI];walk_at "q"
 have h4:=congrArg GB hX;have h5:=qB b (bF ms);have h6:=qz ms;rw[q_]at h4;rw[e,q_,b'];walk_at "o"
theorem Aa {w:Wd}{s:RS}{D:b_ Nat}{ms:b_ (Addr×Option Nat)}{b:Nat->Nat}{p6 p7 p8 p9 QG QI Zbh Zbd Zam:Pos}
 (ok:fV w) (R:cL w Z s z [] ss) (hD:∀p∈D,p<w.m/\s.cnt p=0/\s.fr p=g'/\∀a∈w.Mb p,s.mst a=0) (VY:D.Nodup) (hms:∀x∈ms,x∈w.Ms/\s.mst x.1=1) (hmn:(ms.map (λp=>p.1)).Nodup) (M4:ms.length<=100) (U5:D.length<=10)
 (Lf:∀p,p<w.m->s.cnt p=((b p+(bF ms).count p:Nat):Int))
 (Mj:Z dl=a_ (.lst ((D.map w.A++ms.map (λp=>p.1)).map .ref))) (Vp:dl≠z) (QN:dl≠w.sent) (hL:iM w dl fm) (Ra:(p4.endLine==p5.line)=e_)
 (h:∀JN Z' s' Kf,iM w dl JN->dT w z Z Z'->cL w Z' s' z Kf ss->jE w s D ms b D.length ms.length s' Kf->Qs .next JN Z'):
 iw (aT (aJ KC 3) (k+8) (n+2)) "thing" (.ref dl) [.If (.BoolOp .And [.Compare (.Attribute (.Name "thing" p6) "count" p7) [.Eq] [.Constant (.int 0) kk p8] p9,.UnaryOp .Not (.Attribute (.Name "thing" QG) "is_freed" QI) Zbh] Zbd) [.Expr (.Call (.Attribute (.Name "self" p1) "free" p4) [.Name "thing" p2] [] p5) p3] [] Zam] (cR KC 384) fm Z Qs:=by
 intros z dl p1 p2 p3 p4 p5 n k kk Z ss fm Qs w s D ms b p6 p7 p8 p9 QG QI Zbh Zbd Zam;refine gp (cY Mj) (by rw[b',q_,b',b'];walk_at "a") rfl (λi JN Z'=>iM w dl JN/\dT w z Z Z'/\∃s' Kf,cL w Z' s' z Kf ss/\jE w s D ms b i (i-D.length) s' Kf) ⟨hL,dT.refl _ _ _,s,[],R,⟨λp hp=>?_,λp=>?_,rfl,λa=>?_,[],?_,?_⟩⟩ (λi JN Z' hI=>?_) (λi y JN Z' hy hI Qz Kz=>?_) (λJN Z' hI=>?_)
 ·simpa using Lf p hp
 ·exact rfl
 ·simp
 ·exact rfl
 ·simp
 ·show Z' dl=Z dl
  exact(R.lst_out hI.2.1 Mj Vp QN).trans Mj.symm
 ·revert hy hI;intros i y JN Z' Qz
  refine jH hI λhL hF s' zz=>?_;intros s';clear hI;refine ac zz λKf R' FI=>?_;intros Kf;clear zz;have KZ:=FI.zlen ok (λp hp=>(hD p hp).1) U5 M4;have Ko:=hL.thing y;obtain⟨loc,cel⟩:=JN;revert Ko;revert hL;revert loc cel;injections loc cel;intro hL Ko;have JT:cel=[]:=Ko.cel;subst JT;rw[k_]at hy;revert KZ;revert FI;revert R';revert Kz;revert Ko;revert hL;revert Qz s' Kf loc;injections Qz s' Kf loc;intro hL Ko Kz R' FI KZ;refine ac (j_.mp hy) ?_;rintro t hj rfl;intros t;dsimp only at Ko⊢;have Kv:∀Z,bM (cR KC 384) "thing" ⟨aL "thing" (.ref t) loc,[]⟩ Z=a_ (.ref t):=λZ=>aB rfl (by exact d6);generalize aL "thing" (.ref t) loc=L at Ko Kv⊢;rw[IM]at hj;intros L;split at hj
  ·rename i<(Id w.A D).length=>hi
   rw[b']at hi;rw[k_]at hj;refine ac (j_.mp hj) ?_;rintro p hp rfl;intros p;refine dG (hD p (B_ hp)) λOR hp0 U3 hpM=>?_;have U0:=og VY hp;have hi0:i-D.length=0:=by walk_at "cn"
   have Q6:i+1-D.length=0:=by walk_at "co"
   rw[hi0]at FI;revert Ko;intros L p;have c0:s'.cnt p=0:=by
    rw[FI.cnt p OR,IN, <-Lf p OR,hp0]
   have f0:s'.fr p=g':=by exact(((FI.fr p).trans (p_ U0)).trans U3)
   have m0:∀a∈w.Mb p,s'.mst a=0:=λa ha=>by
    rw[FI.mst a,List.take_zero,Ga,p_ (by simp),p_,hpM a ha];intro hm;refine ac (Dx.mp hm) λq hq Nw=>?_;have hqD:=(hD q (Ep hq)).1;exact ok.disj p q OR hqD (λe=>U0 (e▸hq)) a ha Nw
   refine eJ (R'.ar p OR) λd wk its ex U=>?_;intros d wk its;rw[c0,f0]at ex;refine aO (fG (cI (aU (av (aa (Kv _) (az ex rfl (aK ⟨e_,rfl,aZ rfl (cI (iB (gJ (av (aa (Kv _) (az ex rfl (fq (aZ rfl (dk (aZ rfl ?_))))))))))⟩)))))));refine bE (aX (aa (aB rfl Ko.self) (bZ R'.hc rfl rfl (af (aa (Kv _) (am (aF rfl ?_)))))) Ra (by simp));refine z7 ok R' OR c0 f0 m0 KZ λZ2 JS R2=>⟨rfl,ay (ay (Kz .next _ _ ⟨Ko,hF.frm JS (λa ha=>?_),_,_,R2,?_⟩))⟩
   ·rcases f_.mp ha with rfl|ha
    ·exact .inr (.inr (.inr (.inl ⟨p,OR,rfl⟩)))
    ·rcases f_.mp ha with rfl|ha
     ·exact .inr (.inr (.inl rfl))
     ·refine xE (ok.mb p OR a ha) λtg P3=>?_
      exact .inr (.inr (.inr (.inr ⟨_,P3,rfl⟩)))
   ·intros Z2
    rw[Q6];refine ac FI.zs λX eX hX=>?_;intros X;rw[IN]at hX;have X0:X=[]:=by
     have:=congrArg GB hX;rw[q_]at this;exact List.length_eq_zero_iff.mp (by walk_at "o")
    subst X0;refine⟨FI.cnt,λq=>?_,FI.ds,λa=>?_,[],?_,rfl⟩
    ·dsimp only
     rw[gK hp,FI.fr q];by_cases e:q=p
     ·subst e;simp
     ·simp[e]
    ·dsimp only
     rw[gK hp,FI.mst a,Ho];by_cases e:a∈w.Mb p
     ·simp[e]
     ·simp[e]
    ·rw[gK hp,eX,Ho];simp
  ·rename Not _=>hi
   rw[b']at hi hj;rw[k_]at hj;refine ac (j_.mp hj) ?_;rintro x hx rfl;intros x;refine xA (hms x (B_ hx)) λL7 KS=>?_;obtain⟨a,tg⟩:=x
   try dsimp only at KS Kv⊢
   intros a tg;have Q6:i+1-D.length=(i-D.length)+1:=by walk_at "cp"
   have hni:a∉(ms.take (i-D.length)).map (λp=>p.1):=by
    have:(ms.map (λp=>p.1))[i-D.length]? =a_ a:=by rw[k_,hx];rfl
    have:=og hmn this;rwa[<-List.map_take]at this
   have K8:s'.mst a=1:=by
    rw[FI.mst a,p_ hni,p_,KS];intro hm;refine ac (Dx.mp hm) λq hq Nw=>?_;have:=(hD q (Ep hq)).2.2.2 a Nw;walk_at "o"
   have Wy:ms.drop (i-D.length)=(a,tg)::ms.drop (i-D.length+1):=by
    rw[DV,hx];rfl
   refine eY (R'.sc a tg L7) λd wk U U U ex=>?_;revert ex;revert U;revert d wk;injections d wk;intro _ _ U ex;rw[K8]at ex;refine ac ex ?_;clear ex;rintro v ex _;intros v;refine aO (fG (cI (aU (av (aa (Kv _) (az ex rfl (aK ⟨e_,rfl,aZ rfl (cI (iB (gJ (av (aa (Kv _) (az ex rfl (fq (aZ rfl (dk (aZ rfl ?_))))))))))⟩)))))));refine bE (aX (aa (aB rfl Ko.self) (bZ R'.hc rfl rfl (af (aa (Kv _) (am (aF rfl ?_)))))) Ra (by simp));refine z8 ok R' L7 K8 KZ λZ2 JS R2=>⟨rfl,ay (ay (Kz .next _ _ ⟨Ko,hF.frm JS (λc hc=>?_),_,_,R2,?_⟩))⟩
   ·revert JS R2;intros Z2 c
    rcases f_.mp hc with rfl|hc
    ·exact .inr (.inr (.inr (.inr ⟨_,L7,rfl⟩)))
    ·rcases f_.mp hc with rfl|hc
     ·exact .inr (.inr (.inl rfl))
     ·refine ac (i_.mp hc) ?_;rintro q hq rfl
      exact .inr (.inr (.inr (.inl ⟨q,ok.tg a q (by cases tg with |none=>simp at hq|some r=>simp at hq;subst hq;exact L7),rfl⟩)))
   ·intros Z2
    rw[Q6];have TK:D.take (i+1)=D.take i:=by exact(Dv (by walk_at "bf")).trans (Dv (by walk_at "a")).symm
    refine ac FI.zs λX eX hX=>?_;intros X;rw[Wy]at hX;refine⟨λq hq=>?_,λq=>?_,FI.ds,λc=>?_,?_⟩
    ·intros q
     dsimp only [lO];have h1:=FI.cnt q hq;rw[Wy]at h1;rw[h1];cases tg with
     |none=>exact(p_ (by simp))
     |some t=>
      rw[jz,Fe];by_cases e:t=q
      ·subst e;rw[z_ rfl,z_ (C' t)];walk_at "bg"
      ·rw[p_ (by simpa using e),p_ (by simpa using e)];walk_at "c"
    ·dsimp only;rw[TK];exact FI.fr q
    ·intros c
     dsimp only;rw[TK,gK hx,FI.mst c];by_cases e:c=a
     ·subst e;simp
     ·simp[e]
    ·cases tg with
     |none=>exact⟨X,by rw[TK,eX];show _++[]=_;rw[Dz],hX⟩
     |some t=>
      have ht:=ok.tg a t L7;have h1:=FI.cnt t ht;rw[Wy,jz,Hh]at h1;rw[jz]at hX;have Th:s'.cnt t-1=0↔b t=0/\t∉bF (ms.drop (i-D.length+1)):=by
       rw[h1, <-EJ];walk_at "o"
      rw[qA]at hX;by_cases e:b t=0/\t∉bF (ms.drop (i-D.length+1))
      ·rw[z_ e]at hX
       refine⟨X++[t],?_,by rw[Dw];exact hX⟩;rw[TK,eX];show _++(if s'.cnt t-1=0 then[w.A t]else[])=_;rw[z_ (Th.mpr e),r_,Dw];rfl
      ·rw[p_ e]at hX
       refine⟨X,?_,hX⟩;rw[TK,eX];show _++(if s'.cnt t-1=0 then[w.A t]else[])=_;rw[p_ λq=>e (Th.mp q),Dz]
 ·refine jH hI λhL hF s' zz=>?_;clear hI;refine ac zz λKf R' FI=>?_;clear zz
  have J6:((D.map w.A++ms.map (λp=>p.1)).map (Di)).length=D.length+ms.length:=by simp
  rw[J6,show D.length+ms.length-D.length=ms.length by walk_at "o"]at FI;refine h JN Z' s' Kf hL hF R' ⟨FI.cnt,λp=>?_,FI.ds,λa=>?_,?_⟩
  ·have:=FI.fr p
   rwa[Dv (by walk_at "o")]at this⊢
  ·have:=FI.mst a
   rwa[Dv (i:=D.length+ms.length) (l:=D) (by walk_at "a"), <-Dv (i:=D.length) (l:=D) (DW _)]at this
  ·refine ac FI.zs λX eX hX=>?_
   exact⟨X,by rw[eX,Dv (i:=D.length+ms.length) (l:=D) (by walk_at "a"),Dv (i:=D.length) (l:=D) (DW _)],hX⟩
structure kJ (w:Wd)(kin:b_ (b_ Nat))(Mt:Nat->b_ (Addr×Option Nat))(put:d_)(ft:m_ Nat):Prop where
 km:kin.length=w.m
 kr:∀r∈kin,∀y∈r,y<kin.length
 mb:∀p,p<w.m->w.Mb p=(Mt p).map (λp=>p.1)
 tg:∀p,p<w.m->bF (Mt p)=row kin p
 lt:∀p,p<w.m->(Mt p).length=(row kin p).length
 ms:∀p,p<w.m->∀x∈Mt p,x∈w.Ms
 hput:(put,ft)∈w.Ms
 pn:∀p,p<w.m->put∉w.Mb p
 nin:∀p,p<w.m->((w.Mb p).map w.num).Pairwise (λa b=>a<b)
 ncr:∀p q,p<q->q<w.m->∀a∈w.Mb p,∀b∈w.Mb q,w.num a<w.num b
structure RI (w:Wd)(kin:b_ (b_ Nat))(firm:b_ Int)(put:d_)(S:fz)(s:RS)(zs ss:b_ d_):Prop where
 cnt:∀p,p<w.m->s.cnt p=(base kin firm S.G p:Nat)
 fr:∀p,p<w.m->s.fr p=decide (p∈S.G++S.E)
 ds:∀p,p<w.m->s.ds p=(decide (p∈S.G++S.E)&& !(w.bl p== .none))
 mst:∀p,p<w.m->∀a∈w.Mb p,s.mst a=if p∈S.G then 2 else if p∈S.E then 1 else 0
 zs:zs=(aH S.E).flatMap w.Mb++S.F.map w.A
 ss:ss=((S.G++aH S.E).filter λq=> !(w.bl q== .none)).map w.A
theorem oh {w:Wd}{kin:b_ (b_ Nat)}{Mt:Nat->b_ (Addr×Option Nat)}{put:d_}{ft:m_ Nat}(K:kJ w kin Mt put ft):∀D:b_ Nat,(∀p∈D,p<w.m)->(D.flatMap Mt).map (λp=>p.1)=D.flatMap w.Mb/\bF (D.flatMap Mt)=D.flatMap (row kin)
 | [],_=>⟨rfl,rfl⟩
 |p::D,h=>by
  refine xA (oh K D λq hq=>h q (.tail _ hq)) λh1 h2=>?_;have hp:=h p (.head _);have ta:∀a b,bF (a++b)=bF a++bF b:=λa b=>by
   induction a with
   |nil=>rfl
   |cons x r ih=>
    obtain⟨y,o⟩:=x;cases o with
    |none=>exact ih
    |some q=>exact congrArg (q:: ·) ih
  rw[DD,DD,DD,r_,h1,ta,h2,K.mb p hp,K.tg p hp];exact⟨rfl,rfl⟩
theorem uA {w:Wd}{kin:b_ (b_ Nat)}{Mt:Nat->b_ (Addr×Option Nat)}{put:d_}{ft:m_ Nat}(K:kJ w kin Mt put ft):∀D:b_ Nat,D.Pairwise (λa b=>a<b)->(∀p∈D,p<w.m)->((D.flatMap w.Mb).map w.num).Pairwise (λa b=>a<b)
 | [],_,_=>H1
 |p::D,hd,h=>by
  rw[Du]at hd;rw[DD,r_,Ec];refine⟨K.nin p (h p (.head _)),uA K D hd.2 λq hq=>h q (.tail _ hq),λx hx y hy=>?_⟩;refine ac (i_.mp hx) ?_;rintro a ha rfl;refine ac (i_.mp hy) ?_;rintro b hb rfl;refine ac (Dx.mp hb) λq hq hb=>?_;exact K.ncr p q (hd.1 q hq) (h q (.tail _ hq)) a ha b hb
theorem uB {w:Wd}{D:b_ Nat}{l:b_ d_}(ok:fV w)(hD:D.Pairwise (λa b=>a<b))(hm:∀p∈D,p<w.m)(hl:(l.map w.num).Pairwise (λa b=>a<b))(hs:∀a∈l,(w.m:Int)<w.num a):((D.map w.A++l).map w.num).Pairwise (λa b=>a<b):=by
 intros w D l;rw[r_,Ec,C_];refine⟨?_,hl,λx hx y hy=>?_⟩
 ·rw[DL]
  refine EL (λ{a b} ha hb q=>?_) hD;show w.num (w.A a)<w.num (w.A b);rw[ok.numA a (hm a ha),ok.numA b (hm b hb)];walk_at "Q"
 ·refine ac (i_.mp hx) ?_;rintro p hp rfl
  refine ac (i_.mp hy) ?_;rintro a ha rfl;show w.num (w.A p)<_;have:=hs a ha;have:=hm p hp;rw[ok.numA p (hm p hp)];walk_at "o"
theorem RI.next {w:Wd}{put:d_}{ft:m_ Nat}{S:fz}{s s':RS}{Kf:b_ d_}(ok:fV w)(K:kJ w kin Mt put ft)(hS:ik kin firm S)(I:RI w kin firm put S s zs ss)
 (F:jE w {s with ds:=λq=>if q∈aH S.F then !(w.bl q== .none)else s.ds q} (aH S.F) ((aH S.E).flatMap Mt) (base kin firm (S.G++aH S.E)) (aH S.F).length ((aH S.E).flatMap Mt).length s' Kf):
 RI w kin firm put (ib kin firm S) s' Kf (ss++((aH S.F).filter λq=> !(w.bl q== .none)).map w.A):=by
 intros zs ss firm kin Mt w put ft S s s' Kf;have hE:=fw S.E;have hF:=fw S.F;have mE:∀p,p∈aH S.E↔p∈S.E:=λp=>hE.mem_iff;have mF:∀p,p∈aH S.F↔p∈S.F:=λp=>hF.mem_iff;have rE:∀p∈aH S.E,p<w.m:=λp hp=>by rw[<-K.km];exact hS.rg p (by simp[(mE p).mp hp])
 refine xA (oh K (aH S.E) rE) λLl LX=>?_;have nd:=hS.nd;rw[Dk,Dk]at nd;refine bP nd ?_;clear nd;rintro n1 ⟨n2,n3,n4⟩ n5;refine⟨λp hp=>?_,λp hp=>?_,λp hp=>?_,λp hp a ha=>?_,?_,?_⟩
 ·rw[F.cnt p hp,Gb];rfl
 ·rw[F.fr p,Dy]
  show(if p∈aH S.F then e_ else s.fr p)=decide (p∈(S.G++aH S.E)++S.F);rw[I.fr p hp];by_cases e:p∈S.F
  ·rw[z_ ((mF p).mpr e)];simp[e]
  ·rw[p_ (λq=>e ((mF p).mp q))];simp[e,mE]
 ·rw[F.ds]
  show(if p∈aH S.F then !(w.bl p== .none)else s.ds p)=(decide (p∈(S.G++aH S.E)++S.F)&&_);rw[I.ds p hp];by_cases e:p∈S.F
  ·rw[z_ ((mF p).mpr e)];simp[e]
  ·rw[p_ (λq=>e ((mF p).mp q))];simp[e,mE]
 ·revert hp;intros p a
  rw[F.mst a,Dy,Dy,Ll];have UD:a∈(aH S.E).flatMap w.Mb↔p∈S.E:=by
   constructor
   ·intro hm
    refine ac (Dx.mp hm) λq hq Nw=>?_;have:p=q:=EC λe=>ok.disj p q hp (rE q hq) e a ha Nw;exact this▸(mE q).mp hq
   ·intro hm
    exact Dx.mpr ⟨p,(mE p).mpr hm,ha⟩
  have VN:a∈(aH S.F).flatMap w.Mb↔p∈S.F:=by
   constructor
   ·intro hm
    refine ac (Dx.mp hm) λq hq Nw=>?_;have K6:q<w.m:=by rw[<-K.km];exact hS.rg q (by simp[(mF q).mp hq])
    have:p=q:=EC λe=>ok.disj p q hp K6 e a ha Nw;exact this▸(mF q).mp hq
   ·intro hm
    exact Dx.mpr ⟨p,(mF p).mpr hm,ha⟩
  show _=if p∈S.G++aH S.E then 2 else if p∈S.F then 1 else 0;have K8:=I.mst p hp a ha;by_cases eE:p∈S.E
  ·exact(z_ (UD.mpr eE)).trans (z_ (by simp[mE,eE])).symm
  ·rw[p_ λq=>eE (UD.mp q)]
   by_cases eG:p∈S.G
   ·have eF:p∉S.F:=λq=>n5 p eG p (by exact D_ _ (by assumption)) rfl
    rw[p_ λq=>eF (VN.mp q),z_ (by exact y' _ (by assumption))];show s.mst a=2;exact(K8.trans (z_ eG))
   ·rw[p_ (show¬p∈S.G++aH S.E by simp[mE,eE,eG])]
    by_cases eF:p∈S.F
    ·exact(z_ (VN.mpr eF)).trans (z_ eF).symm
    ·rw[p_ λq=>eF (VN.mp q),p_ eF]
     show s.mst a=0;exact((K8.trans (p_ eG)).trans (p_ eE))
 ·refine ac F.zs λX eX hX=>?_
  rw[Gb,LX]at hX;rw[show bF []=[]from rfl,show fE (base kin firm (S.G++aH S.E)) []=[]from rfl,Dz]at hX;rw[eX,Dy,hX];rfl
 ·rw[I.ss, <-r_, <-Em];rfl
section
variable{T:a6}
theorem Ab {e:Expr}(h:(aw T n).1 e sc fm Z λv Z=>(aw T n).1 u sc fm Z λw Z=>mI Z v w Q):(aw T (n+1)).1 (.Subscript e (.Slice (a_ u) h_ h_ p1) p) sc fm Z Q:=.inr (.inr ⟨_,_,rfl,h⟩)
theorem Ac {e:Expr}(h:(aw T n).1 e sc fm Z λv Z=>(aw T n).1 u sc fm Z λw Z=>o9 Z v w Q):(aw T (n+1)).1 (.Subscript e (.Slice h_ (a_ u) h_ p1) p) sc fm Z Q:=.inr (.inl ⟨_,_,rfl,h⟩)
theorem Ad {x:d_}(h1:Z x=a_ (.lst xs))(h0:0<=i/\i<2^60)(hz:xs.length<=100000)(h:∀l,isNew Z l->Q (.ref l) (Z.set l (.lst (xs.drop i.toNat)))):mI Z (.ref x) (.int i 0) Q:=.inl ⟨x,xs,i,rfl,rfl,h1,h0.1,h0.2,hz,h⟩
theorem Ae {x:d_}(h1:Z x=a_ (.lst xs))(h0:0<=i/\i<2^60)(hz:xs.length<=100000)(h:∀l,isNew Z l->Q (.ref l) (Z.set l (.lst (xs.take i.toNat)))):o9 Z (.ref x) (.int i 0) Q:=⟨x,xs,i,rfl,rfl,h1,h0.1,h0.2,hz,h⟩
end
theorem cL.more {w:Wd}{s:RS}(R:cL w Z s z zs ss)(hF:ai [] Z Z'):cL w Z' s z zs ss where
 hc:=hF.get R.hc aj
 hpl:=hF.get R.hpl aj
 hem:=hF.get R.hem aj
 hd:=hF.get R.hd aj
 hh:=hF.get R.hh aj
 hz:=hF.get R.hz aj
 hs:=hF.get R.hs aj
 nsz:=R.nsz
 ar p hp:=(R.ar p hp).frm hF aj (by exact aW) rfl rfl rfl
 sc a tg ha:=(R.sc a tg ha).frm hF aj (by exact aW) ⟨_,R.hz⟩ ⟨_,R.hs⟩
theorem cL.newz {w:Wd}{s:RS}{z':d_}(R:cL w Z s z zs ss)(hn:isNew Z z'):cL w ((Z.set z' (.lst [])).set w.hp (.inst 225 w.dh (bN w.lim w.last z'))) s z' [] ss:=by
 intros z Z zs ss w s z';have nz:∀ {a o},Z a=a_ o->a≠z':=λe=>aq hn e;have out:∀ {a o},Z a=a_ o->a≠w.hp->((Z.set z' (.lst [])).set w.hp (.inst 225 w.dh (bN w.lim w.last z'))) a=a_ o:=λe n=>ap n (ao hn e);refine⟨out R.hc (ag R.hc R.hh),out R.hpl (ag R.hpl R.hh),out R.hem (ag R.hem R.hh),out R.hd (ag R.hd R.hh),ad _ _ _,?_,out R.hs (ag R.hs R.hh),nz R.hs,λp hp=>?_,λa tg ha=>?_⟩
 ·exact ap (nz R.hh).symm (ad _ _ _)
 ·intros p
  refine fL (R.ar p hp) λd wk its h1 h2 h3 h4 h5=>?_;refine⟨d,wk,its,out h1 (ag h1 R.hh),out h2 (ag h2 R.hh),nz h2,h4,λf=>?_⟩;refine bP (h5 f) λg1 g2 g3=>?_;exact⟨out g1 (ag g1 R.hh),nz g1,g3⟩
 ·intros a tg
  refine eY (R.sc a tg ha) λd wk h1 h2 h3 h4=>?_;intros d wk;have hv:∀v,jb w Z tg v->jb w ((Z.set z' (.lst [])).set w.hp (.inst 225 w.dh (bN w.lim w.last z'))) tg v:=λv hv=>by
   cases tg with
   |none=>exact hv
   |some q=>
    refine aY hv λrf rd e KV=>?_;clear hv;exact⟨rf,rd,e,out KV (ag KV R.hh)⟩
  refine⟨d,wk,out h1 (ag h1 R.hh),nz h1,h3,?_⟩
  match s.mst a,h4 with
  |0,h4=>
   refine ac h4 λv e k=>?_;clear h4;exact⟨v,out e (ag e R.hh),hv v k⟩
  |1,h4=>
   refine ac h4 λv e k=>?_;clear h4;exact⟨v,out e (ag e R.hh),hv v k⟩
  |n+2,h4=>exact out h4 (ag h4 R.hh)
theorem dT.comp {w:Wd}{z0:d_}(h:dT w z0 Z0 Z)(g:dT w z Z Z')(hz:z=z0\/Z0 z=h_):dT w z0 Z0 Z':=λa o n1 n2 n3 n4 n5 e=>g a o n1 n2 (λq=>by
 rcases hz with rfl|hz
 ·exact n3 q
 ·exact(ns (hz.symm.trans (q▸e)))) n4 n5 (h a o n1 n2 n3 n4 n5 e)
structure Ck (w:Wd)(s:RS)(zs ss:b_ d_)(D:b_ Nat)(ms:b_ (Addr×Option Nat))(b:Nat->Nat):Prop where
 perm:(D.map w.A++ms.map (λp=>p.1)).Perm zs
 num:((D.map w.A++ms.map (λp=>p.1)).map w.num).Pairwise (λa b=>a<b)
 dn:D.Nodup
 hd:∀p∈D,p<w.m/\s.cnt p=0/\s.ds p=g'/\s.fr p=g'/\∀a∈w.Mb p,s.mst a=0
 hms:∀x∈ms,x∈w.Ms/\s.mst x.1=1
 mn:(ms.map (λp=>p.1)).Nodup
 ml:ms.length<=40
 dl:D.length<=10
 cnt:∀p,p<w.m->s.cnt p=((b p+(bF ms).count p:Nat):Int)
 sl:ss.length<=800
theorem Af {w:Wd}{s:RS}(ok:fV w)(R:cL w Z s z zs ss)(Ph:Nat->RS->b_ d_->b_ d_->Prop)(N0:Nat)(h0:Ph N0 s zs ss)
 (J6:∀j s zs ss,Ph j s zs ss->zs.length<=60)
 (hr:∀j s zs ss,Ph j s zs ss->zs≠[]->∃D ms b,Ck w s zs ss D ms b/\∀s' Kf,jE w {s with ds:=λq=>if q∈D then !(w.bl q== .none)else s.ds q} D ms b D.length ms.length s' Kf->∃i,i<j/\Ph i s' Kf (ss++(D.filter λq=> !(w.bl q== .none)).map w.A))
 (h:∀Z' s' z' Ma j,dT w z Z Z'->cL w Z' s' z' [] Ma->Ph j s' [] Ma->Q .none Z'):aI KC (aJ KC 3) 2 384 [.ref w.c,.int 0 0] Z Q:=by
 revert ok R;intros z Z zs ss Q w s Ph N0;refine⟨rfl,?_⟩;show au _ _ _ ⟨[("self",.ref w.c),("start",.int 0 0)],[]⟩ _ _;refine j7 ?_;refine lH (λj fm Z'=>fm.cel=[]/\fm.loc.lookup ("self":Str)=a_ (.ref w.c)/\fm.loc.lookup ("start":Str)=a_ (.int 0 0)/\dT w z Z Z'/\∃s' z' Kf Ma,cL w Z' s' z' Kf Ma/\(z'=z\/Z z'=h_)/\Ph j s' Kf Ma/\∃xs,Z' z=a_ (.lst xs)) N0 ⟨rfl,rfl,rfl,dT.refl _ _ _,s,z,zs,ss,R,.inl rfl,h0,_,R.hz⟩ ?_;rintro j ⟨loc,cel⟩ Z1 ⟨JT,k1,k2,hF,s',z',Kf,Ma,R',Ly,hP,xz,YL⟩ Qz Kz;revert JT k1 k2 hF R' Ly hP YL;intros j loc cel Z1 s' z' Kf Ma xz Qz;dsimp only at JT k1 k2;subst JT;have KZ:=J6 j s' Kf Ma hP;refine aU (aA rfl (af (av (av (aa (aB rfl k1) (az R'.hc rfl (az R'.hh rfl (am (bH (gu R'.hz (by rw[b'];walk_at "o") (aa (aB rfl k2) ⟨_,nT,cG (λq=>?_) (λq=>?_)⟩)))))))))))
 ·have Oe:Kf≠[]:=by rintro rfl;exact(ft q).elim
  refine eJ (hr j s' Kf Ma hP Oe) λD ms b O Ti=>?_;intros D ms b;refine a8 (aA rfl (af (Ab (av (av (aa (aB rfl k1) (az R'.hc rfl (az R'.hh rfl (aa (aB rfl k2) (Ad R'.hz ⟨by decide,by decide⟩ (by rw[b'];walk_at "o") λl1 du=>am (aF rfl ?_)))))))))));intros l1;have JQ:ai [] Z1 (Z1.set l1 (.lst ((Kf.map (Di)).drop (0:Int).toNat))):=(ai.refl _ _).new du;have KW:(Z1.set l1 (.lst ((Kf.map (Di)).drop (0:Int).toNat))) l1=a_ (.lst (Kf.map .ref)):=ad _ _ _;generalize (Z1.set l1 _)=Z2 at JQ KW⊢;have R2:=R'.more JQ;refine zQ (nm:=w.num) (ts:=Kf) (ts':=D.map w.A++ms.map (λp=>p.1)) KW KZ (λt ht=>?_) O.perm O.num λZ3 dl Mj JZ O6=>aV rfl ?_
  ·rcases s_.mp (O.perm.mem_iff.mpr ht)with hm|hm
   ·refine ac (i_.mp hm) ?_;rintro p hp rfl
    intros p;refine im (O.hd p hp) λe1 e2 e3 e4 e5=>?_;refine eJ (R2.ar p e1) λd wk its ex U=>?_;rw[e2,e4]at ex;rw[ok.numA p e1];exact⟨85,d,_,wk,_,_,rfl,rfl,rfl,ex⟩
   ·refine ac (i_.mp hm) ?_;rintro x hx rfl
    intros x;refine xA (O.hms x hx) λe1 e2=>?_;refine eY (R2.sc x.1 x.2 e1) λd wk U U U ex=>?_;rw[e2]at ex;refine ac ex ?_;clear ex;rintro v ex _;exact⟨66,d,_,wk,_,_,rfl,rfl,rfl,ex⟩
  intros Z3 dl;have R3:=R2.more JZ;have Vp:dl≠z':=(aq Mj R2.hz).symm;have QN:dl≠w.sent:=(aq Mj R2.hs).symm;have Tk:ai [] Z1 Z3:=λa o n e=>JZ a o n (JQ a o n e);have Kk:dT w z Z Z3:=hF.frm Tk (by exact aW);show au _ _ _ ⟨aL "dying" (.ref dl) loc,[]⟩ _ _;have L8:(aL "dying" (.ref dl) loc).lookup ("self":Str)=a_ (.ref w.c):=by rw[dj,p_ (by decide)];exact k1
  have Mz:(aL "dying" (.ref dl) loc).lookup ("start":Str)=a_ (.int 0 0):=by rw[dj,p_ (by decide)];exact k2
  have Ri:(aL "dying" (.ref dl) loc).lookup ("dying":Str)=a_ (.ref dl):=by exact d6
  generalize aL "dying" (.ref dl) loc=L at L8 Mz Ri⊢;refine cC (Ac (av (av (aa (aB rfl L8) (az R3.hc rfl (az R3.hh rfl (aa (aB rfl Mz) (Ae R3.hz ⟨by decide,by decide⟩ (by rw[b'];walk_at "o") λz2 Lk=>av (aa (aB rfl L8) (az (ao Lk R3.hc) rfl (cW (ao Lk R3.hh) ?_)))))))))));intros z2;have R4:=R3.newz Lk;have QJ:dl≠z2:=aq Lk O6;have P7:((Z3.set z2 (.lst [])).set w.hp (.inst 225 w.dh (bN w.lim w.last z2))) dl=a_ (.lst ((D.map w.A++ms.map (λp=>p.1)).map .ref)):=ap (ag O6 R3.hh) (ao Lk O6);have LG:dT w z Z ((Z3.set z2 (.lst [])).set w.hp (.inst 225 w.dh (bN w.lim w.last z2))):=λa o n1 n2 n3 n4 n5 e=>ap n1 (ao Lk (Kk a o n1 n2 n3 n4 n5 e));have Qi:Z3 z=a_ (.lst xz):=Tk.get YL aj;have QF:z≠z2:=aq Lk Qi;have WL:Z z2=h_:=by
   cases e:Z z2 with
   |none=>rfl
   |some o=>
    have:=Kk z2 o (aq Lk R3.hh).symm (aq Lk R3.hs).symm QF.symm (λp hp q=>by refine ac (R3.kA hp) λo eo U=>?_;exact aq Lk eo q.symm) (λx hx q=>by refine ac (R3.kS (a:=x.1) (tg:=x.2) hx) λo eo U=>?_;exact aq Lk eo q.symm) e;rw[Lk.1]at this;exact(ns this).elim
  have Tb:((Z3.set z2 (.lst [])).set w.hp (.inst 225 w.dh (bN w.lim w.last z2))) z=a_ (.lst xz):=ap (ag Qi R3.hh) (ao Lk Qi);show au _ _ _ ⟨L,[]⟩ ((Z3.set z2 (.lst [])).set w.hp (.inst 225 w.dh (bN w.lim w.last z2))) _;generalize ((Z3.set z2 _).set w.hp _)=Z4 at R4 P7 LG Tb⊢;refine eV (aa (aB rfl Ri) (z9 ok R4 (λp hp=>⟨(O.hd p hp).1,(O.hd p hp).2.1,(O.hd p hp).2.2.1⟩) O.dn O.hms (by have:=O.sl;have:=O.dl;walk_at "a") (by have:=O.ml;walk_at "o") P7 QJ QN ⟨rfl,L8,Mz,Ri⟩ rfl λVj Z5 YV Ke R5=>?_));intros Vj Z5;refine eV (aa (aB rfl YV.dying) (Aa (b:=b) ok R5 (λp hp=>⟨(O.hd p hp).1,(O.hd p hp).2.1,(O.hd p hp).2.2.2.1,(O.hd p hp).2.2.2.2⟩) O.dn O.hms O.mn (by have:=O.ml;walk_at "o") O.dl O.cnt (R4.lst_out Ke P7 QJ QN) QJ QN YV rfl λUH Z6 s6 Zb0 Wc Ks R6 F6=>ay (Kz .next _ _ ?_)));refine ac (Ti s6 Zb0 F6) λi hi hPi=>?_;exact⟨i,hi,Wc.cel,Wc.self,Wc.start,(LG.comp Ke (.inr WL)).comp Ks (.inr WL),s6,z2,Zb0,_,R6,.inr WL,hPi,xz,R5.lst_out Ks (R4.lst_out Ke Tb QF R.nsz.symm) QF R.nsz.symm⟩
 ·have q0:Kf=[]:=by
   cases Kf with
   |nil=>rfl
   |cons x r=>
    have:=DM q;rw[n_,Df]at this;walk_at "o"
  subst q0;exact ay (h Z1 s' z' Ma j hF R' hP)
structure kK (w:Wd)(kin:b_ (b_ Nat))(firm:b_ Int)(fresh:Int)(put:d_)(ft:m_ Nat)(s:RS)(zs ss:b_ d_):Prop where
 cnt:∀p,p<w.m->s.cnt p=((base kin firm [] p+(bF [(put,ft)]).count p:Nat):Int)
 fr:∀p,s.fr p=g'
 ds:∀p,s.ds p=g'
 mst:∀p,p<w.m->∀a∈w.Mb p,s.mst a=0
 hput:s.mst put=1
 zs:zs=(bK kin firm fresh).E.map w.A++[put]
 ss:ss=[]
structure Fin (w:Wd)(kin:b_ (b_ Nat))(firm:b_ Int)(G:b_ Nat)(s:RS)(ss:b_ d_):Prop where
 cnt:∀p,p<w.m->s.cnt p=(base kin firm G p:Nat)
 fr:∀p,p<w.m->s.fr p=decide (p∈G)
 ds:∀p,p<w.m->s.ds p=(decide (p∈G)&& !(w.bl p== .none))
 mst:∀p,p<w.m->p∉G->∀a∈w.Mb p,s.mst a=0
 ss:ss=(G.filter λq=> !(w.bl q== .none)).map w.A
noncomputable def Ph (w:Wd)(kin:b_ (b_ Nat))(firm:b_ Int)(fresh:Int)(put:d_)(ft:m_ Nat)(j:Nat)(s:RS)(zs ss:b_ d_):Prop:=
 (j=2*w.m+2/\kK w kin firm fresh put ft s zs ss)\/∃u,u+j<=2*w.m+1/\j=iE w.m (aD kin firm fresh u)/\RI w kin firm put (aD kin firm fresh u) s zs ss
theorem qC {w:Wd}(ok:fV w):∀l:b_ Nat,(∀p∈l,p<w.m)->(l.flatMap w.Mb).length<=2*l.length
 | [],_=>by simp
 |p::r,hh=>by
  have:=qC ok r λp hp=>hh p (.tail _ hp);have:=ok.mlen p (hh p (.head _));rw[DD,q_,Df];walk_at "w"
theorem uC (m:Nat)(f:Nat->Dm):aH ((A' m).filter f)=(A' m).filter f:=by
 have h:((A' m).filter f).Pairwise (λa b=>a<=b):=(List.pairwise_le_range).filter _;exact Gj (λa b U U h1 h2=>Iv h1 h2) (nV _) h (fw _)
theorem kK.next {w:Wd}{put:d_}{ft:m_ Nat}{s s':RS}{Kf:b_ d_}(ok:fV w)(K:kJ w kin Mt put ft)(LK:ft=if 0<=fresh then a_ fresh.toNat else h_)(hS:ik kin firm (bK kin firm fresh))(I:kK w kin firm fresh put ft s zs ss)
 (F:jE w {s with ds:=λq=>if q∈(bK kin firm fresh).E then !(w.bl q== .none)else s.ds q} (bK kin firm fresh).E [(put,ft)] (base kin firm []) (bK kin firm fresh).E.length [(put,ft)].length s' Kf):
 RI w kin firm put (bK kin firm fresh) s' Kf (ss++((bK kin firm fresh).E.filter λq=> !(w.bl q== .none)).map w.A):=by
 intros fresh zs ss firm kin Mt w put ft s s' Kf;have Zbq:aH (bK kin firm fresh).E=(bK kin firm fresh).E:=uC _ _;have hG:(bK kin firm fresh).G=[]:=rfl;have Uk:(bK kin firm fresh).F=fE (base kin firm []) (bF [(put,ft)]):=by
  rw[LK];by_cases e:0<=fresh
  ·rw[z_ e,jz,qA]
   show(if 0<=fresh/\base kin firm [] fresh.toNat=0 then[fresh.toNat]else[])=_;by_cases e2:base kin firm [] fresh.toNat=0
   ·exact(z_ ⟨e,e2⟩).trans (z_ ⟨e2,by simp[bF]⟩).symm
   ·exact(p_ λq=>e2 q.2).trans (p_ λq=>e2 q.1).symm
  ·rw[p_ e]
   show(if 0<=fresh/\base kin firm [] fresh.toNat=0 then[fresh.toNat]else[])=_;rw[p_ λq=>e q.1];rfl
 refine⟨λp hp=>?_,λp hp=>?_,λp hp=>?_,λp hp a ha=>?_,?_,?_⟩
 ·exact(F.cnt p hp)▸rfl
 ·rw[F.fr p,Dy,hG,FH]
  show(if p∈(bK kin firm fresh).E then e_ else s.fr p)=_;rw[I.fr p];by_cases e:p∈(bK kin firm fresh).E
  ·rw[z_ e];simp[e]
  ·rw[p_ e];simp[e]
 ·rw[F.ds,hG,FH]
  show(if p∈(bK kin firm fresh).E then !(w.bl p== .none)else s.ds p)=_;rw[I.ds p];by_cases e:p∈(bK kin firm fresh).E
  ·rw[z_ e];simp[e]
  ·rw[p_ e];simp[e]
 ·rw[F.mst a,Dy,Dy,hG]
  rw[p_ (by intro q;simp at q;exact K.pn p hp (q▸ha)),p_ (aj)];have UD:a∈(bK kin firm fresh).E.flatMap w.Mb↔p∈(bK kin firm fresh).E:=by
   constructor
   ·intro hm
    refine ac (Dx.mp hm) λq hq Nw=>?_;have K6:q<w.m:=by rw[<-K.km];exact hS.rg q (by simp[hq])
    have:p=q:=EC λe=>ok.disj p q hp K6 e a ha Nw;exact this▸hq
   ·intro hm
    exact Dx.mpr ⟨p,hm,ha⟩
  by_cases e:p∈(bK kin firm fresh).E
  ·exact(z_ (UD.mpr e)).trans (z_ e).symm
  ·rw[p_ λq=>e (UD.mp q),p_ e]
   exact I.mst p hp a ha
 ·refine ac F.zs λX eX hX=>?_
  rw[Gb,show bF []=[]from rfl,show fE (base kin firm []) []=[]from rfl,Dz]at hX;rw[eX,Dy,hX,Zbq,Uk]
 ·rw[I.ss,hG,Zbq];rfl
theorem Ag {w:Wd}{kin:b_ (b_ Nat)}{firm:b_ Int}{fresh:Int}{put:d_}{ft:m_ Nat}{s:RS}(ok:fV w)(K:kJ w kin Mt put ft)(LK:ft=if 0<=fresh then a_ fresh.toNat else h_)(hfr:fresh<kin.length)
 (R:cL w Z s z zs ss) (I0:kK w kin firm fresh put ft s zs ss)
 (h:∀Z' s' z' Ma,dT w z Z Z'->cL w Z' s' z' [] Ma->Fin w kin firm (aD kin firm fresh (2*w.m+4)).G s' Ma->Q .none Z'):aI KC (aJ KC 3) 2 384 [.ref w.c,.int 0 0] Z Q:=by
 intros z Z zs ss Q Mt w kin firm fresh put ft s;have hS:=lM (kin:=kin) (firm:=firm) (fresh:=fresh) K.kr hfr;have Lh:∀u,(aD kin firm fresh u).E.length<=10/\(aD kin firm fresh u).F.length<=10/\(aD kin firm fresh u).G.length<=10:=λu=>by
  have:=i9 kin.length _ (hS u).nd (hS u).rg;have:=ok.m10;have:=K.km;simp only [q_]at *;walk_at "o"
 refine Af ok R (Ph w kin firm fresh put ft) (2*w.m+2) (.inl ⟨rfl,I0⟩) (λj s zs ss hP=>?_) (λj s zs ss hP Oe=>?_) (λZ' s' z' Ma j hF R' hP=>h Z' s' z' Ma hF R' ?_)
 ·rcases hP with ⟨_,I⟩ |⟨u,_,_,I⟩
  ·rw[I.zs,q_,b']
   have:=(Lh 0).1;simp only [aD]at this;simp;walk_at "o"
  ·rw[I.zs,q_,b']
   have h1:=qC ok (aH (aD kin firm fresh u).E) (λp hp=>by rw[<-K.km];exact(hS u).rg p (by simp[(fw _).mem_iff.mp hp]));rw[(fw _).length_eq]at h1;have:=Lh u;walk_at "o"
 ·intros j s zs ss
  rcases hP with ⟨rfl,I⟩ |⟨u,hu,rfl,I⟩
  ·have hE:∀p∈(bK kin firm fresh).E,p<w.m:=λp hp=>by rw[<-K.km];exact(hS 0).rg p (by simp[aD,hp])
   have hEs:(bK kin firm fresh).E.Pairwise (λa b=>a<b):=by
    have:aH (bK kin firm fresh).E=(bK kin firm fresh).E:=uC _ _;rw[<-this];exact nX (G'.filter _)
   refine⟨(bK kin firm fresh).E,[(put,ft)],base kin firm [],⟨?_,uB ok hEs hE (by simp) (λa ha=>?_),G'.filter _,λp hp=>?_,λx hx=>?_,by simp,by simp,(Lh 0).1,I.cnt,by rw[I.ss];simp⟩,λs' Kf F=>⟨iE w.m (bK kin firm fresh),?_,.inr ⟨0,?_,rfl,kK.next ok K LK (hS 0) I F⟩⟩⟩
   ·exact I.zs▸(Fb _)
   ·simp at ha;subst ha;exact ok.numS _ K.hput
   ·have h1:=DA.mp hp
    have h2:=of_decide_eq_true h1.2;refine⟨hE p hp,?_,I.ds p,I.fr p,I.mst p (hE p hp)⟩;rw[I.cnt p (hE p hp),h2.1,LK];by_cases e:0<=fresh
    ·rw[z_ e,jz]
     have:fresh.toNat≠p:=by walk_at "o"
     simp[bF,this]
    ·exact(p_ e)▸rfl
   ·simp at hx;subst hx;exact⟨K.hput,I.hput⟩
   ·have:=um (kin:=kin) (firm:=firm) hfr
    rw[K.km]at this;walk_at "a"
   ·have:=um (kin:=kin) (firm:=firm) hfr
    rw[K.km]at this;walk_at "ch"
  ·intros u
   have SS:=hS u;have hE:=fw (aD kin firm fresh u).E;have TB:=fw (aD kin firm fresh u).F;have rE:∀p∈aH (aD kin firm fresh u).E,p<w.m:=λp hp=>by rw[<-K.km];exact SS.rg p (by simp[hE.mem_iff.mp hp])
   have rF:∀p∈aH (aD kin firm fresh u).F,p<w.m:=λp hp=>by rw[<-K.km];exact SS.rg p (by simp[TB.mem_iff.mp hp])
   refine xA (oh K _ rE) λLl LX=>?_;have nd:=SS.nd;rw[Dk,Dk]at nd;refine bP nd ?_;clear nd;rintro n1 ⟨n2,n3,n4⟩ n5;have LU:=uA K _ (nX n2) rE;have hmn:((aH (aD kin firm fresh u).E).flatMap w.Mb).Nodup:=(DL.mp LU).imp λ{a b} (q:w.num a<w.num b) (e:a=b)=>by rw[e]at q;exact absurd q (Gk _)
   have M4:=qC ok _ rE;rw[hE.length_eq]at M4;refine⟨aH (aD kin firm fresh u).F,(aH (aD kin firm fresh u).E).flatMap Mt,base kin firm ((aD kin firm fresh u).G++aH (aD kin firm fresh u).E),⟨?_,?_,TB.nodup_iff.mpr n3,λp hp=>?_,λx hx=>?_,by rw[Ll];exact hmn,?_,by rw[TB.length_eq];exact(Lh u).2.1,λp hp=>?_,?_⟩,λs' Kf F=>⟨iE w.m (aD kin firm fresh (u+1)),?_,.inr ⟨u+1,?_,rfl,RI.next ok K SS I F⟩⟩⟩
   ·rw[Ll,I.zs]
    exact((TB.map _).append_right _).trans List.perm_append_comm
   ·rw[Ll]
    exact uB ok (nX n3) rF LU λa ha=>by
     refine ac (Dx.mp ha) λq hq Nw=>?_;refine xE (ok.mb q (rE q hq) a Nw) λtg ht=>?_;exact ok.numS _ ht
   ·have pF:=TB.mem_iff.mp hp
    have pm:=rF p hp;have pG:p∉(aD kin firm fresh u).G:=λq=>n5 p q p (by exact D_ _ (by assumption)) rfl;have pE:p∉(aD kin firm fresh u).E:=λq=>n4 p q p pF rfl;refine⟨pm,?_,?_,?_,λa ha=>?_⟩
    ·rw[I.cnt p pm,SS.z p (by simp[pF])];rfl
    ·rw[I.ds p pm];simp[pG,pE]
    ·rw[I.fr p pm];simp[pG,pE]
    ·exact(((I.mst p pm a ha).trans (p_ pG)).trans (p_ pE))
   ·refine ac (Dx.mp hx) λq hq hqx=>?_
    have qm:=rE q hq;have qE:=hE.mem_iff.mp hq;have qG:q∉(aD kin firm fresh u).G:=λh=>n5 q h q (by exact y' _ (by assumption)) rfl;refine⟨K.ms q qm x hqx,?_⟩;rw[I.mst q qm x.1 (by rw[K.mb q qm];exact Do hqx),p_ qG,z_ qE]
   ·have:=congrArg GB Ll
    rw[b']at this;have:=(Lh u).1;walk_at "o"
   ·rw(config:={}) [I.cnt p hp,LX,lL kin firm p (aH (aD kin firm fresh u).E) (aD kin firm fresh u).G ?_ ?_]
    ·rw[Dk]
     exact⟨n1,hE.nodup_iff.mpr n2,λa ha b hb e=>n5 a ha b (by exact y' _ (hE.mem_iff.mp hb)) e⟩
    ·intro q hq;rw[K.km];exact rE q hq
   ·rw[I.ss,b']
    have h1:=DE (λq=> !(w.bl q== .none)) ((aD kin firm fresh u).G++aH (aD kin firm fresh u).E);rw[q_,hE.length_eq]at h1;have:=Lh u;walk_at "o"
   ·have:=uk (firm:=firm) K.kr SS (λq=>Oe (by rw[I.zs,q.1,q.2];rfl))
    rw[K.km]at this;exact this
   ·have:=uk (firm:=firm) K.kr SS (λq=>Oe (by rw[I.zs,q.1,q.2];rfl))
    rw[K.km]at this;show u+1+iE w.m (ib kin firm (aD kin firm fresh u))<=_;walk_at "o"
 ·intros Z' s' z' Ma j
  rcases hP with ⟨_,I⟩ |⟨u,hu,rfl,I⟩
  ·have:=I.zs
   simp at this
  ·intros u
   have hz:=I.zs;have Lm:(aH (aD kin firm fresh u).E).flatMap w.Mb=[]:=(Io.mp hz.symm).1;have Lk:(aD kin firm fresh u).F=[]:=I5.mp (Io.mp hz.symm).2;have SS:=hS u;have hE:=fw (aD kin firm fresh u).E;have rE:∀p∈aH (aD kin firm fresh u).E,p<w.m:=λp hp=>by rw[<-K.km];exact SS.rg p (by simp[hE.mem_iff.mp hp])
   refine xA (oh K _ rE) λLl LX=>?_;have O7:(aH (aD kin firm fresh u).E).flatMap (row kin)=[]:=by
    rw[<-LX];have:(aH (aD kin firm fresh u).E).flatMap Mt=[]:=by
     rw[Lm]at Ll;exact I5.mp Ll
    rw[this];rfl
   have LR:=uo Lk O7 (2*w.m+4- (u+1));rw[show u+1+(2*w.m+4- (u+1))=2*w.m+4 by walk_at "o"]at LR;rw[LR];have nd:=SS.nd;rw[Dk,Dk]at nd;refine bP nd ?_;clear nd;rintro n1 ⟨n2,n3,n4⟩ n5;have mm:∀p,p∈(aD kin firm fresh u).G++aH (aD kin firm fresh u).E↔p∈(aD kin firm fresh u).G++(aD kin firm fresh u).E:=λp=>by simp[hE.mem_iff]
   refine⟨λp hp=>?_,λp hp=>?_,λp hp=>?_,λp hp hg a ha=>?_,I.ss⟩
   ·rw(config:={}) [I.cnt p hp,lL kin firm p (aH (aD kin firm fresh u).E) (aD kin firm fresh u).G ?_ ?_,O7]
    ·rfl
    ·rw[Dk]
     exact⟨n1,hE.nodup_iff.mpr n2,λa ha b hb e=>n5 a ha b (by exact y' _ (hE.mem_iff.mp hb)) e⟩
    ·intro q hq;rw[K.km];exact rE q hq
   ·rw[I.fr p hp];simp only [mm]
   ·rw[I.ds p hp];simp only [mm]
   ·have Sr:¬p∈(aD kin firm fresh u).G++(aD kin firm fresh u).E:=λq=>hg ((mm p).mpr q)
    rw[s_]at Sr;exact(((I.mst p hp a ha).trans (p_ λq=>Sr (.inl q))).trans (p_ λq=>Sr (.inr q)))
section
variable{T:a6}{E:ET}
theorem Ah {x:Str}(f:c_->Dm)(g:c_->c_)(ho:Z a=a_ o)(hx:fj Z (.ref a)=a_ xs)(hz:xs.length<=100000)(hn:eN cs.names=[x])(hk:kindOf cs x=a_ .cell)
 (hb:∀c,isNew Z c->∀y∈xs,∀Z',ai [] Z Z'->Z' c=a_ (.cel (a_ y))->(∀Qb:gB,(∀JO,ai [] Z' JO->Qb (f y) JO)->fQ Bt KU cs ⟨[],(x,c)::cl⟩ Z' Qb)/\(∀Z1,ai [] Z' Z1->f y=e_->∀Q:bC,(∀JO,ai [] Z1 JO->Q (g y) JO)->E elt cs ⟨[],(x,c)::cl⟩ Z1 Q))
 (h:∀Z' l,isNew Z l->ai [] Z Z'->Z' l=a_ (.lst ((xs.filter f).map g))->Q (.ref l) Z'):iv E Bt elt x KU cs cl (.ref a) Z Q:=by
 intros a Z xs elt cs o cl KU Q Bt E x f g;refine⟨xs,hx,hz,?_⟩;rw[hn];show∀c,isNew Z c->_;intro c hc;intros c;refine⟨λi JP Z'=>ai [] Z Z'/\(∃u,Z' c=a_ (.cel u))/\JP=((xs.take i).filter f).map g,⟨(ai.refl [] Z).new hc,⟨_,ad _ _ _⟩,by simp⟩,λi JP Z' hI=>⟨?_,?_⟩,λi y JP Z' hy hI=>?_,λJP Z' hI l hl=>?_⟩
 ·show Z' a=Z a
  exact(hI.1.get ho aj).trans ho.symm
 ·rw[hI.2.2,b']
  have:=DE f (xs.take i);rw[EI]at this;walk_at "o"
 ·intros i y JP Z'
  refine bP hI ?_;clear hI;rintro hF ⟨u,hu⟩ rfl;refine fH hk (show EA x ((x,c)::cl)=a_ c by rw[v_,C']) hu ?_;have JS:ai [] Z (Z'.set c (.cel (a_ y))):=λb o nb e=>ap (aq hc e) (hF b o nb e);refine xA (hb c hc y (B_ hy) _ JS (ad _ _ _)) λh1 h2=>?_;refine h1 _ λZ3 JZ=>?_;have Kb:Z3 c=a_ (.cel (a_ y)):=JZ.get (ad _ _ _) aj;have So:ai [] Z Z3:=JS.trans JZ (by exact aW);have tk:=gK hy;cases q:f y with
  |true=>
   refine aZ rfl (h2 Z3 JZ q _ λZ4 J1=>⟨So.trans J1 (by exact aW),⟨_,J1.get Kb aj⟩,?_⟩);rw[tk,Em,r_,DO q];rfl
  |false=>
   refine aM rfl ⟨So,⟨_,Kb⟩,?_⟩;rw[tk,Em,r_,DP (by rw[q];exact El)];exact(Dz _).symm
 ·refine bP hI ?_;clear hI;rintro hF ⟨u,hu⟩ rfl
  rw[Dy];exact h _ l (hF.isNew hl (by exact aW)) (hF.new hl) (ad _ _ _)
theorem fS (h:Z a=a_ (.rng i)):fj Z (.ref a)=a_ ((A' i.toNat).map vN):=by unfold fj;dsimp only;rw[h];rfl
theorem fT (h1: -(2^60)<=i)(h2:i<=2^60)(h:∀l,isNew Z l->Q (.ref l) (Z.set l (.rng i))):c9 T (.type "range") [.int i 0] Z Q:=⟨i,rfl,.inr ⟨rfl,h1,h2,h⟩⟩
theorem Ai {x:d_}(h1:Z x=a_ (.lst xs))(hz:xs.all bO=e_)(h:Q (.int (iT xs) 0) Z):ek "sum" [.ref x] Z Q:=by
 exact⟨oT,rfl,_,iA h1,hz,h⟩
theorem uD {x:d_}(h1:Z x=a_ (.lst xs))(hi:xs.all bO=e_)(hz:xs.length<=1000)(h:Q (.int (xs.count (.int i 0)) 0) Z):ek "list.count" [.ref x,.int i 0] Z Q:=by
 exact⟨oV,rfl,rfl,_,iA h1,hi,hz,h⟩
theorem Aj {x:d_}{N:Nat}{d:c_}(h1:Z x=a_ (.dic es N))(hk:b9 es (.int i 0)=e_)(h:Q ((es.lookup (.int i 0)).getD d) Z):ek "dict.get" [.ref x,.int i 0,d] Z Q:=by
 exact⟨oX,rfl,_,lz h1,hk,h⟩
theorem Ak {x:d_}{N:Nat}{d:c_}(h1:Z x=a_ (.dic es N))(hk:b9 es (.int i 0)=e_)(hl:es.length<1000)(hv:es.lookup (.int i 0)=a_ v)(h:Q v Z):ek "dict.setdefault" [.ref x,.int i 0,d] Z Q:=by
 refine⟨mG,rfl,_,lz h1,hk,hl,?_⟩;dsimp only;rw[show er (.int i 0)=.int i 0 from rfl,hv];exact h
theorem Al {x:d_}{N:Nat}{d:c_}(h1:Z x=a_ (.dic es N))(hk:b9 es (.int i 0)=e_)(hl:es.length<1000)(hv:es.lookup (.int i 0)=h_)(h:∀n,Q d (Z.set x (.dic (es++[(.int i 0,d)]) n))):ek "dict.setdefault" [.ref x,.int i 0,d] Z Q:=by
 refine⟨mG,rfl,_,lz h1,hk,hl,?_⟩;dsimp only;rw[show er (.int i 0)=.int i 0 from rfl,hv];exact h
theorem Am {e:Expr}(h:(aw T n).1 e sc fm Z λvv Z=>∀l m,isNew Z l->Q (.ref l) (Z.set l (.dic [(.int i 0,vv)] m))):(aw T (n+1)).1 (.Dict [a_ (.Constant (.int i) kk p1)] [e] p) sc fm Z Q:=.inr (.inl ⟨i,kk,p1,e,rfl,rfl,h⟩)
end
theorem uE {a b:Nat}(h:vN a=vN b):a=b:=by unfold vN at h;injection h with h;walk_at "j"
theorem qD (a b:Nat):(vN a==vN b)=(a==b):=by
 by_cases e:a=b
 ·subst e;exact(C' _).trans (C' _).symm
 ·exact(r'.mpr λq=>e (uE q)).trans ((r'.mpr e).symm)
theorem An (l:b_ Nat)(p:Nat):(l.map vN).count (vN p)=l.count p:=by
 induction l with
 |nil=>rfl
 |cons a r ih=>rw[n_,Fe,Fe,ih,qD]
theorem Ao (a b:Int):(vI a==vI b)=(a==b):=by
 by_cases e:a=b
 ·subst e;exact(C' _).trans (C' _).symm
 ·rw[r'.mpr λq=>e (by unfold vI at q;injection q)];exact(r'.mpr e).symm
theorem Ap (l:b_ Int)(p:Int):(l.map vI).count (vI p)=l.count p:=by
 induction l with
 |nil=>rfl
 |cons a r ih=>rw[n_,Fe,Fe,ih,Ao]
theorem oi (xs:b_ Nat):(xs.map vN).all bO=e_:=by exact Ef.trans (l_.mpr λU U=>rfl)
theorem Aq (l:b_ Nat):iT (l.map vN)=(l.sum:Nat):=by
 induction l with
 |nil=>rfl
 |cons a r ih=>
  unfold iT at ih⊢;rw[n_,n_,Hb,Hb,ih];show(a:Int)+_=_;walk_at "c"
theorem C6 (m:Nat)(f:Nat->Nat):((A' m).map f).map vN=(A' m).map λp=>vN (f p):=by exact C_
section
variable{T:a6}{E:ET}
theorem Ar {x:d_}{kk:ak->Prop}(h:Z x=a_ (.lst xs))(h0:0<=j/\j<xs.length)(hz:xs.length<=1000)(hk:kk (Z.set x (.lst (xs.set j.toNat v)))):jS Z (.ref x) (.int j 0) v kk:=by
 exact .inr ⟨x,xs,j,rfl,rfl,h,h0.1,h0.2,by walk_at "o",hk⟩
end
theorem As {x:Nat}{f g:Nat->c_}(hx:x<m)(h:∀p,p≠x->f p=g p):((A' m).map f).set x (g x)=(A' m).map g:=by
 refine GR λi=>?_;by_cases e:i=x
 ·subst e
  rw[List.getElem?_set_self (by simpa using hx),k_,D9 hx];rfl
 ·rw[List.getElem?_set_ne (Ex e),k_,k_]
  by_cases hi:i<m
  ·rw[D9 hi];exact congrArg _ (h i e)
  ·rw[DS (by simp;walk_at "a")];rfl
theorem fI {x:Nat}{f:Nat->c_}(h:Z a=a_ (.lst ((A' m).map f)))(hx:x<m)(hm:m<=100):d5 Z (.ref a) (.int (x:Int) 0) (f x):=by
 refine fh h (by walk_at "a") (by walk_at "g") ?_;rw[Dh,k_,D9 hx];rfl
noncomputable def qF (ZA Z:ak)(es:b_ (Value×Value))(k:Nat)(X:b_ Nat):Prop:=(es.lookup (vN k)=h_/\X=[])\/∃a,es.lookup (vN k)=a_ (.ref a)/\Z a=a_ (.lst (X.map vN))/\isNew ZA a
structure mu (m t:Nat)(ZA:ak)(OX:b_ (Value×Value))(ct gl rd:d_)(b:Nat->Nat)(L MD Le:b_ Nat)(Z:ak)(es:b_ (Value×Value))(N:Nat)(X:b_ Nat):Prop where
 hrd:Z rd=a_ (.dic es N)
 ki:(es.all λp=>bO p.1)=e_
 len:es.length<=OX.length+(if(es.lookup (vN (t+2))).isSome then 1 else 0)
 look:∀k,k≠t+2->es.lookup (vN k)=OX.lookup (vN k)
 rep:qF ZA Z es (t+2) X
 sum:X++fE b Le=fE b L
 hct:Z ct=a_ (.lst ((A' m).map λp=>vN (b p+Le.count p)))
 hgl:Z gl=a_ (.lst (MD.map vN))
 frm:ai [gl,ct,rd] ZA Z
theorem uF {k:c_}(h:es.lookup k=h_):(es++[(k,v)]).lookup k=a_ v:=by
 induction es with
 |nil=>simp[EA]
 |cons a r ih=>
  obtain⟨y,u⟩:=a;rw[F',v_];rw[v_]at h;cases q:k==y with
  |true=>exact(sn (q▸h)).elim
  |false=>rw[q]at h;exact ih h
theorem At {k k':c_}(h:k'≠k):(es++[(k,v)]).lookup k'=es.lookup k':=by
 induction es with
 |nil=>
  have:(k'==k)=g':=r'.mpr h;rw[FH,v_,this]
 |cons a r ih=>
  obtain⟨y,u⟩:=a;rw[F',v_,v_,ih]
theorem Au {t x:Nat}{ZA:ak}{OX:b_ (Value×Value)}{N:Nat}{ct:d_}{b:Nat->Nat}{L MD Le X:b_ Nat}{T' RL YR:Nat}{cel:b_ (Str×Addr)}{q1 q2 q3 q4 q5 q6 q7 q8 q9 Sz Sx Sm TR SI Rb Ry SV SQ Rp QA PQ RD T7 RN T3 UA:Pos}
 (I:mu m t ZA OX ct gl rd b L MD (x::Le) Z es N X) (hx:x<m) (hm:m<=100) (ht:t<=100) (LA:OX.length<=200) (UN:X.length<=1000)
 (hc:cel.lookup ("counts":Str)=a_ c1) (h1:ZA c1=a_ (.cel (a_ (.ref ct)))) (lo:loc.lookup ("other":Str)=a_ (vN x)) (lt:loc.lookup ("turn":Str)=a_ (vN t)) (lr:loc.lookup ("rounds":Str)=a_ (.ref rd))
 (ML:∃xs,ZA ct=a_ (.lst xs)) (OZ:∃xs,ZA gl=a_ (.lst xs)) (SE:∃es n,ZA rd=a_ (.dic es n)) (ncg:ct≠gl) (UQ:(QA.endLine==PQ.line)=e_) (Q3:(Rb.endLine==Ry.line)=e_)
 (h:∀Z' KQ N' X',mu m t ZA OX ct gl rd b L MD Le Z' KQ N' X'->Qs .next ⟨loc,cel⟩ Z'):
 au (aT (aJ KC 0) (k+9) (n+2)) [.Assign [.Subscript (.Name "counts" q1) (.Name "other" q2) q3] (.BinOp (.Subscript (.Name "counts" q4) (.Name "other" q5) q6) .Sub (.Constant (.int 1) T' q7) q8) q9,
  .If (.Compare (.Subscript (.Name "counts" Sz) (.Name "other" Sx) Sm) [.Eq] [.Constant (.int 0) RL TR] SI) [.Expr (.Call (.Attribute (.Call (.Attribute (.Name "rounds" RD) "setdefault" Rb) [.BinOp (.Name "turn" SV) .Add (.Constant (.int 2) YR SQ) Rp,.List [] T7] [] Ry) "append" QA) [.Name "other" RN] [] PQ) T3] [] UA] (cR KC 839) ⟨loc,cel⟩ Z Qs:=by
 intros rd gl c1 n m k Z loc es Qs t x ZA OX N ct b L MD Le X T' RL YR cel q1 q2 q3 q4 q5 q6 q7 q8 q9 Sz Sx Sm TR SI Rb Ry SV SQ Rp QA PQ RD T7 RN T3 UA;have n1:c1∉[gl,ct,rd]:=by
  refine xE ML λU e1=>?_;clear ML;refine xE OZ λU e2=>?_;clear OZ;refine cS SE λU U e3=>?_;clear SE;exact eZ (ag h1 e2) (ag h1 e1) (ag h1 e3)
 have nrc:rd≠ct:=ag I.hrd I.hct;have XE:rd≠gl:=ag I.hrd I.hgl;have MY:=I.frm.get h1 n1;refine tY (bB (cQ (aa (a7 rfl hc MY) (aa (aB rfl lo) ⟨_,fI I.hct hx hm,aK (nN (aa (a7 rfl hc MY) (aa (aB rfl lo) (Ar I.hct ?_ (by simp;walk_at "o") ?_))))⟩))))
 ·rw[b',Ej];walk_at "cr"
 have e1:((A' m).map λp=>vN (b p+(x::Le).count p)).set ((x:Int)).toNat (.int (((b x+(x::Le).count x:Nat):Int)-1) 0)=(A' m).map λp=>vN (b p+Le.count p):=by
  rw[Dh];have:(Dl (((b x+(x::Le).count x:Nat):Int)-1) 0)=(λp=>vN (b p+Le.count p)) x:=by
   show _=Dl ((b x+Le.count x:Nat):Int) 0;rw[Hh];congr 1;walk_at "bg"
  rw[this];exact As (f:=λp=>vN (b p+(x::Le).count p)) (g:=λp=>vN (b p+Le.count p)) hx λp hp=>by rw[IB (Ex hp)]
 rw[e1];have JQ:ai [gl,ct,rd] ZA (Z.set ct (.lst ((A' m).map λp=>vN (b p+Le.count p)))):=I.frm.set (by exact .tail _ (.head _));have MG:=ad Z ct (.lst ((A' m).map λp=>vN (b p+Le.count p)));have MQ:(Z.set ct (.lst ((A' m).map λp=>vN (b p+Le.count p)))) rd=a_ (.dic es N):=ap nrc I.hrd;have LF:(Z.set ct (.lst ((A' m).map λp=>vN (b p+Le.count p)))) gl=a_ (.lst (MD.map vN)):=ap ncg.symm I.hgl;have Qv:qF ZA (Z.set ct (.lst ((A' m).map λp=>vN (b p+Le.count p)))) es (t+2) X:=by
  rcases I.rep with h|⟨a,e,ea,na⟩
  ·exact .inl h
  ·refine xE ML λU e1=>?_;clear ML
   exact .inr ⟨a,e,ap (aq na e1).symm ea,na⟩
 generalize (Z.set ct _)=Z1 at JQ MG MQ LF Qv⊢;have JY:=JQ.get h1 n1;have Lu:=I.sum;rw[qA]at Lu;refine aO (aU (cQ (aa (a7 rfl hc JY) (aa (aB rfl lo) ⟨_,fI MG hx hm,aK ⟨_,rfl,cG (λq=>?_) (λq=>?_)⟩⟩))))
 ·have q0:((b x+Le.count x:Nat):Int)=0:=of_decide_eq_true q
  have hz:b x=0/\x∉Le:=⟨by walk_at "cs",EJ.mp (by walk_at "ct")⟩;rw[z_ hz]at Lu;have MR:es.length<1000:=by
   have:=I.len;split at this<;>walk_at "o"
  have hk:∀i:Int,b9 es (.int i 0)=e_:=λi=>I.ki;refine bE (aX (aX (aa (aB rfl lr) (i7 MQ rfl (af (bB (aa (aB rfl lt) (aK (iD (af (eU λl2 JX=>am (bH ?_)))))))))) Q3 (by simp)) UQ (by simp));intros l2;have Om:=ao (o':=.lst []) JX MQ;have RB:=ad Z1 l2 (.lst []);have JS:ai [gl,ct,rd] ZA (Z1.set l2 (.lst [])):=JQ.new JX;have RH:=ao (o':=.lst []) JX MG;have OQ:=ao (o':=.lst []) JX LF;have Vv:isNew ZA l2:=JQ.isNew JX (by exact rc ⟨_,LF⟩ ⟨_,MG⟩ ⟨_,MQ⟩);have vt:(((t:Int)+2))=((t+2:Nat):Int):=by walk_at "c"
  rcases Qv with ⟨hno,rfl⟩ |⟨a,ea,hea,na⟩
  ·refine Al Om (hk _) MR (by exact vt▸hno) λN'=>?_
   intros N';rw[vt];have Qg:l2≠rd:=(aq JX MQ).symm;refine dY (ap Qg RB) rfl (af (aa (aB rfl lo) (am (bH (eR (ap Qg RB) (by simp) ⟨rfl,ay (ay (h _ (es++[(vN (t+2),.ref l2)]) N' [x] ⟨ap Qg.symm (ad _ _ _),?_,?_,λk hk=>?_,.inr ⟨l2,uF hno,ad _ _ _,Vv⟩,?_,?_,?_,?_⟩))⟩)))))
   ·rw[List.all_append,I.ki];rfl
   ·rw[uF hno,q_,FL]
    have:=I.len;rw[hno]at this;simpa using this
   ·exact((At λq=>hk (uE q)).trans (I.look k hk))
   ·exact Lu
   ·exact ap (aq JX MG) (ap nrc.symm RH)
   ·exact ap (aq JX LF) (ap XE.symm OQ)
   ·intro c o nc ec
    exact ap (aq Vv ec) (ap (λq=>nc (by simp[q])) (JS c o nc ec))
  ·refine Ak Om (hk _) MR (by rw[vt];exact ea) ?_
   have QO:=ao (o':=.lst []) JX hea;refine dY QO rfl (af (aa (aB rfl lo) (am (bH (eR QO (by rw[b'];walk_at "o") ⟨rfl,ay (ay (h _ es N (X++[x]) ⟨ap (ag Om QO) Om,I.ki,I.len,I.look,.inr ⟨a,ea,by exact r_▸(ad _ _ _),na⟩,by rw[Dw];exact Lu,?_,?_,?_⟩))⟩)))))
   ·refine xE ML λU e1=>?_;clear ML
    exact ap (aq na e1) RH
   ·refine xE OZ λU e1=>?_;clear OZ
    exact ap (aq na e1) OQ
   ·intro c o nc ec
    exact ap (aq na ec) (JS c o nc ec)
 ·have q0:((b x+Le.count x:Nat):Int)≠0:=DM q
  have hz:¬(b x=0/\x∉Le):=λhh=>q0 (by rw[hh.1,EJ.mpr hh.2];rfl);rw[p_ hz]at Lu;exact ay (ay (h Z1 es N X ⟨MQ,I.ki,I.len,I.look,Qv,Lu,MG,LF,JQ⟩))
noncomputable def lP (Z:ak)(p:Nat)(v:c_):c_:=match gE Z v with
 |some (.lst xs)=>.int (xs.count (vN p):Nat) 0
 |_=>.none
noncomputable def jA (Z:ak)(kn:d_)(kin:b_ (b_ Nat)):Prop:=∃rows:b_ d_,Z kn=a_ (.lst (rows.map .ref))/\rows.length=kin.length/\∀ (i:Nat) (row:b_ Nat),kin[i]? =a_ row->∃a,rows[i]? =a_ a/\Z a=a_ (.lst (row.map vN))
theorem uG (kin:b_ (b_ Nat))(firm:b_ Int)(p:Nat):base kin firm [] p=firm.count (p:Int)+(kin.map λr=>r.count p).sum:=by
 unfold base;have e:(A' kin.length).filter (λq=> !([]:b_ Nat).contains q)=A' kin.length:=DG.mpr λU U=>rfl;rw[e];congr 2;refine GR λi=>?_;rw[k_,k_];by_cases hi:i<kin.length
 ·rw[D9 hi,w_ hi]
  show a_ ((row kin i).count p)=a_ (kin[i].count p);unfold row;rw[w_ hi];rfl
 ·rw[DS (by simp;walk_at "a"),DS (by walk_at "a")];rfl
theorem uH {T:a6}{a b:b_ Gf}{t:Expr}(K:Fm->ak->Prop)(hK:∀fm Z,K fm Z->au (aT T k (n+1)) r sc fm Z Qs)(h:(∀fm Z,K fm Z->au (aT T k (n+1)) r sc fm Z Qs)->au (aT T k (n+1)) (.If t a b pos::r) sc fm Z Qs):au (aT T k (n+1)) (.If t a b pos::r) sc fm Z Qs:=h hK
noncomputable def jB (Z:ak)(es:b_ (Value×Value))(k:Nat)(L:b_ Nat)(gl ct:d_):Prop:=(es.lookup (vN k)=h_/\L=[])\/∃a,es.lookup (vN k)=a_ (.ref a)/\Z a=a_ (.lst (L.map vN))/\a≠gl/\a≠ct
structure rb (m i:Nat)(b:Nat->Nat)(S:fz)(ct gl rd:d_)(Z:ak)(es:b_ (Value×Value))(N:Nat):Prop where
 hrd:Z rd=a_ (.dic es N)
 ki:(es.all λp=>bO p.1)=e_
 len:es.length<=i+2
 e:jB Z es i S.E gl ct
 f:jB Z es (i+1) S.F gl ct
 no:∀k,i+2<=k->es.lookup (vN k)=h_
 hgl:Z gl=a_ (.lst (S.G.map vN))
 hct:Z ct=a_ (.lst ((A' m).map λp=>vN (b p)))
theorem Av {kn fr:d_}{kin:b_ (b_ Nat)}{firm:b_ Int}{fresh:Int}(Lb:jA Z kn kin)(hm:kin.length<=10)(Po:∀r∈kin,r.length<=2)(hr:∀r∈kin,∀y∈r,y<kin.length)(hf:Z fr=a_ (.lst (firm.map vI)))(hfl:firm.length<=10)(hf0: -1<=fresh)(hf1:fresh<kin.length)
 (h:∀Z' t g ct,ai [] Z Z'->Z' t=a_ (.tup [.ref g,.ref ct])->Z' g=a_ (.lst ((aD kin firm fresh (2*kin.length+4)).G.map vN))->Z' ct=a_ (.lst ((A' kin.length).map λp=>vN (base kin firm (aD kin firm fresh (2*kin.length+4)).G p)))->Q (.ref t) Z'):
 aI KC (aJ KC 0) 3 839 [.ref kn,.ref fr,.int fresh 0] Z Q:=by
 intros Z Q kn fr kin firm fresh;refine dm Lb λrows KH Nb K1=>?_;intros rows;clear Lb;refine⟨rfl,?_⟩;show∀c1,isNew Z c1->∀c2,isNew (Z.set c1 (.cel h_)) c2->∀c3,isNew ((Z.set c1 (.cel h_)).set c2 (.cel (a_ (.int fresh 0)))) c3->∀c4,isNew (((Z.set c1 (.cel h_)).set c2 (.cel (a_ (.int fresh 0)))).set c3 (.cel (a_ (.ref fr)))) c4->au _ _ _ ⟨[],[("counts",c1),("fresh",c2),("firm",c3),("kin",c4)]⟩ ((((Z.set c1 (.cel h_)).set c2 (.cel (a_ (.int fresh 0)))).set c3 (.cel (a_ (.ref fr)))).set c4 (.cel (a_ (.ref kn)))) _;intro c1 JY c2 J0 c3 Kb c4 Kq;revert JY J0 Kb;intros c1 c2 c3 c4;have JQ:ai [] Z ((((Z.set c1 (.cel h_)).set c2 (.cel (a_ (.int fresh 0)))).set c3 (.cel (a_ (.ref fr)))).set c4 (.cel (a_ (.ref kn)))):=λb o nb e=>ao Kq (ao Kb (ao J0 (ao JY e)));have x1:((((Z.set c1 (.cel h_)).set c2 (.cel (a_ (.int fresh 0)))).set c3 (.cel (a_ (.ref fr)))).set c4 (.cel (a_ (.ref kn)))) c1=a_ (.cel h_):=ao Kq (ao Kb (ao J0 (ad _ _ _)));have x2:((((Z.set c1 (.cel h_)).set c2 (.cel (a_ (.int fresh 0)))).set c3 (.cel (a_ (.ref fr)))).set c4 (.cel (a_ (.ref kn)))) c2=a_ (.cel (a_ (.int fresh 0))):=ao Kq (ao Kb (ad _ _ _));have x3:((((Z.set c1 (.cel h_)).set c2 (.cel (a_ (.int fresh 0)))).set c3 (.cel (a_ (.ref fr)))).set c4 (.cel (a_ (.ref kn)))) c3=a_ (.cel (a_ (.ref fr))):=ao Kq (ad _ _ _);have x4:((((Z.set c1 (.cel h_)).set c2 (.cel (a_ (.int fresh 0)))).set c3 (.cel (a_ (.ref fr)))).set c4 (.cel (a_ (.ref kn)))) c4=a_ (.cel (a_ (.ref kn))):=ad _ _ _;have n12:c1≠c2:=aq J0 (ad _ _ _);have n13:c1≠c3:=aq Kb (ao J0 (ad _ _ _));have n14:c1≠c4:=aq Kq (ao Kb (ao J0 (ad _ _ _)));have Xv:isNew Z c1:=JY;generalize ((((Z.set c1 _).set c2 _).set c3 _).set c4 _)=Z1 at JQ x1 x2 x3 x4⊢;clear J0 Kb Kq;have TN:=JQ.get KH aj;have Lz:=JQ.get hf aj;have hl:(rows.map (Di)).length=kin.length:=by rw[b',Nb]
 refine a8 (dD (cl:=[("firm",c3),("kin",c4)]) rfl (aA rfl (af (aA rfl (af (aa (a7 rfl rfl x4) (am (bH (gu TN (by walk_at "e") (am (fT (by walk_at "b") (by walk_at "f") λl JX=>?_)))))))))));intros l;have JS:ai [] Z1 (Z1.set l (.rng ((rows.map (Di)).length:Int))):=(ai.refl _ _).new JX;have Qm:(Z1.set l (.rng ((rows.map (Di)).length:Int))) l=a_ (.rng (kin.length:Int)):=by rw[ad,hl]
 generalize (Z1.set l _)=Z2 at JS Qm⊢;refine Ah (λU=>e_) (λv=>match v with |.int i _=>vN (base kin firm [] i.toNat) |_=>.none) Qm (fS Qm) (by simp;walk_at "o") rfl rfl (λc hc y hy Z' La Zbr=>⟨λQb hq=>dk (hq Z' (ai.refl _ _)),λZ3 JZ hf Q hq=>?_⟩) λZ' l K3 La KA=>?_
 ·revert hc hy La Zbr JZ;intros c y Z' Z3 Q
  refine ac (i_.mp hy) ?_;rintro p hp rfl;intros p;have hp:p<kin.length:=by have:=Dq.mp hp;walk_at "o"
  have Kk:ai [] Z1 Z3:=(JS.trans La (by exact aW)).trans JZ (by exact aW);have Zbe:ai [] Z Z3:=JQ.trans Kk (by exact aW);have MI:=Kk.get TN aj;have y3:=Kk.get x3 aj;have y4:=Kk.get x4 aj;have S9:=Kk.get Lz aj;have SZ:=JZ.get Zbr aj;have Rs:∀v∈rows.map Di,∃a r,v=.ref a/\r∈kin/\Z3 a=a_ (.lst (r.map vN)):=λv hv=>by
   refine ac (i_.mp hv) ?_;rintro a ha rfl;obtain⟨i,hi,e⟩:=FU.mp ha;have Y6:i<kin.length:=by rw[<-Nb];exact hi
   refine ac (K1 i kin[i] (w_ Y6)) λa' e1 e2=>?_;rw[w_ hi,e]at e1;cases e1;exact⟨a,kin[i],rfl,G_ Y6,Zbe.get e2 aj⟩
  have YX:(rows.map Di).map (lP Z3 p)=(kin.map λr=>r.count p).map vN:=by
   refine GR λi=>?_;rw[k_,k_,k_,k_];by_cases hi:i<kin.length
   ·refine ac (K1 i kin[i] (w_ hi)) λa e1 e2=>?_
    rw[e1,w_ hi];show a_ (lP Z3 p (.ref a))=a_ (vN (kin[i].count p));unfold lP gE;dsimp only;rw[Zbe.get e2 aj];dsimp only;rw[An];rfl
   ·rw[DS (by walk_at "H"),DS (by walk_at "a")];rfl
  refine bB (aA rfl (af (dD (cl:=[("place",c)]) rfl (aa (bR rfl rfl y4) (ew (λU=>e_) (lP Z3 p) (cY MI) (by walk_at "a") rfl rfl (λy hy Qb hq=>dk hq) (λy hy hf Q hq=>?_) λl3 K3=>am (bH (Ai (ad _ _ _) ?_ ?_)))))))
  ·refine bW (Rs y hy) ?_;rintro a r rfl Oj ea
   have acI:=Po r Oj;refine aX (aa (aB rfl rfl) (dY ea rfl (af (aa (bR rfl rfl SZ) (am (bH (uD ea (oi r) (by rw[b'];walk_at "o") ?_)))))));unfold lP gE at hq;dsimp only at hq;rw[ea]at hq;exact hq
  ·rw[DG.mpr λU U=>rfl,YX];exact oi _
  ·rw[DG.mpr λU U=>rfl,YX,Aq]
   refine aX (aa (bR rfl rfl (ao K3 y3)) (dY (ao K3 S9) rfl (af (aa (a7 rfl rfl (ao K3 SZ)) (am (bH (uD (ao K3 S9) (ke firm) (by rw[b'];walk_at "o") (iD ?_))))))));rw[show(Dl (p:Int) 0)=vI (p:Int)from rfl,Ap];rw[show(((kin.map λr=>r.count p).sum:Nat):Int)+(firm.count (p:Int):Nat)=((base kin firm [] ((p:Int)).toNat:Nat):Int) by rw[Dh,uG];walk_at "I"];exact hq _ ((ai.refl _ _).new K3)
 ·intros Z' l
  have hct:Z' l=a_ (.lst ((A' kin.length).map λp=>vN (base kin firm [] p))):=by
   rw[KA,DG.mpr λU U=>rfl,C_,Dh];rfl
  have Kk:ai [] Z1 Z':=JS.trans La (by exact aW);refine fH rfl rfl (Kk.get x1 aj) ?_;have LG:ai [] Z (Z'.set c1 (.cel (a_ (.ref l)))):=λb o nb e=>ap (aq Xv e) (Kk b o nb (JQ b o nb e));have z1:=ad Z' c1 (.cel (a_ (.ref l)));have z2:(Z'.set c1 (.cel (a_ (.ref l)))) c2=a_ (.cel (a_ (.int fresh 0))):=ap n12.symm (Kk.get x2 aj);have z4:(Z'.set c1 (.cel (a_ (.ref l)))) c4=a_ (.cel (a_ (.ref kn))):=ap n14.symm (Kk.get x4 aj);have zl:(Z'.set c1 (.cel (a_ (.ref l)))) l=a_ (.lst ((A' kin.length).map λp=>vN (base kin firm [] p))):=ap (ag hct (Kk.get x1 aj)) hct;generalize (Z'.set c1 _)=Z3 at LG z1 z2 z4 zl⊢;have MI:=LG.get KH aj;have ln:isNew Z l:=(JQ.trans JS (by exact aW)).isNew K3 (by exact aW);refine a8 (Am (dD (cl:=[("counts",c1),("fresh",c2)]) rfl (aA rfl (af (aA rfl (af (aa (a7 rfl rfl z4) (am (bH (gu MI (by walk_at "e") (am (fT (by walk_at "b") (by walk_at "f") λlr Kd=>?_))))))))))));intros lr;have Mu:ai [] Z3 (Z3.set lr (.rng ((rows.map (Di)).length:Int))):=(ai.refl _ _).new Kd;have SY:(Z3.set lr (.rng ((rows.map (Di)).length:Int))) lr=a_ (.rng (kin.length:Int)):=by rw[ad,hl]
  generalize (Z3.set lr _)=Z4 at Mu SY⊢;refine ew (λv=>match v with |.int i _=>decide (base kin firm [] i.toNat=0/\i≠fresh) |_=>g') id (fS SY) (by simp;walk_at "o") rfl rfl (λy hy Qb hq=>?_) (λy hy hf Q hq=>aa (aB rfl rfl) hq) λl3 K3 rd N hrd=>aV rfl ?_
  ·revert hy;intros y Qb
   refine ac (i_.mp hy) ?_;rintro p hp rfl;intros p;have hp:p<kin.length:=by have:=Dq.mp hp;walk_at "o"
   have PX:∀bb:Dm,(bb=e_↔(base kin firm [] p=0/\(p:Int)≠fresh))->Qb bb Z4:=λbb hb=>by
    have e:(match vN p with |.int i _=>decide (base kin firm [] i.toNat=0/\i≠fresh) |_=>g')=bb:=by
     show decide (base kin firm [] ((p:Int)).toNat=0/\(p:Int)≠fresh)=bb;rw[Dh];cases bb with
     |true=>exact E_ (hb.mp rfl)
     |false=>exact DQ λq=>El (hb.mpr q)
    exact e▸hq
   have k1:=Mu.get z1 aj;have k2:=Mu.get z2 aj;have kl:=Mu.get zl aj;refine cI (fG (cI (aU (cQ (aa (bR rfl rfl k1) (aa (aB rfl rfl) ⟨_,fI kl hp (by walk_at "o"),aK ⟨_,rfl,cG (λq=>?_) (λq=>?_)⟩⟩))))))
   ·have q0:base kin firm [] p=0:=by have:((base kin firm [] p:Nat):Int)=0:=of_decide_eq_true q;walk_at "j"
    refine cI (aU (aa (aB rfl rfl) (aa (bR rfl rfl k2) ⟨_,rfl,cG (λq=>dk (aZ rfl (dk (PX e_ ?_)))) (λq=>aM rfl (PX g' ?_))⟩)))
    ·have q2:(p:Int)≠fresh:=by simpa using q
     exact⟨λU=>⟨q0,q2⟩,λU=>rfl⟩
    ·have q2:(p:Int)=fresh:=by simpa using q
     exact⟨λe=>(by exact(ft e).elim),λe=>absurd q2 e.2⟩
   ·have q0:base kin firm [] p≠0:=by have:((base kin firm [] p:Nat):Int)≠0:=DM q;walk_at "J"
    exact aM rfl (PX g' ⟨λe=>(by exact(ft e).elim),λe=>absurd e.1 q0⟩)
  revert K3;revert hrd;revert l3 rd N;injections l3 rd N;intro hrd K3;have Xy:(((A' ((kin.length:Int)).toNat).map vN).filter (λv=>match v with |.int i _=>decide (base kin firm [] i.toNat=0/\i≠fresh) |_=>g')).map id=(bK kin firm fresh).E.map vN:=by
   rw[List.map_id,Dh,Hl];congr 1
  rw[Xy]at hrd⊢;have W7:l3≠rd:=aq hrd (ad _ _ _);have M0:ai [] Z3 ((Z4.set l3 (.lst ((bK kin firm fresh).E.map vN))).set rd (.dic [(.int 0 0,.ref l3)] N)):=λb o nb e=>ao hrd (ao K3 (Mu b o nb e));have Np:=ad (Z4.set l3 (.lst ((bK kin firm fresh).E.map vN))) rd (.dic [(.int 0 0,.ref l3)] N);have PL:((Z4.set l3 (.lst ((bK kin firm fresh).E.map vN))).set rd (.dic [(.int 0 0,.ref l3)] N)) l3=a_ (.lst ((bK kin firm fresh).E.map vN)):=ap W7 (ad _ _ _);have TL:isNew Z3 rd:=Mu.isNew (eT hrd) (by exact aW);have l3n:isNew Z3 l3:=Mu.isNew K3 (by exact aW);generalize ((Z4.set l3 _).set rd _)=Z5 at M0 Np PL⊢;clear hrd K3;have w1:=M0.get z1 aj;have w2:=M0.get z2 aj;have w4:=M0.get z4 aj;have wl:=M0.get zl aj;have WW:l3≠l:=(aq l3n zl).symm;show au _ _ _ ⟨[("rounds",.ref rd)],[("counts",c1),("fresh",c2),("firm",c3),("kin",c4)]⟩ _ _;refine uH (λUH Z6=>UH=⟨[("rounds",.ref rd)],[("counts",c1),("fresh",c2),("firm",c3),("kin",c4)]⟩/\ai [rd] Z5 Z6/\∃es N,Z6 rd=a_ (.dic es N)/\(es.all λp=>bO p.1)=e_/\es.length<=2/\(es.lookup (vN 0)=a_ (.ref l3))/\(qF Z5 Z6 es 1 (bK kin firm fresh).F)/\∀k,2<=k->es.lookup (vN k)=h_) (λUH Z6 hK=>?_) (λkk=>?_)
  ·intros UH Z6
   refine kL hK ?_;clear hK;rintro rfl Ks es N6 VQ ki6 zz;intros es N6;refine dG zz λV' e6 f6 no6=>?_;clear zz;have TM:∀b o,Z b=a_ o->b≠rd/\b≠l:=λb o e=>⟨aq TL (LG b o aj e),aq ln e⟩;have Y3:l≠rd:=aq TL zl;have UE:c1≠rd:=aq TL z1;have RC:c4≠rd:=aq TL z4;refine a8 (eU λgl hgl=>aV rfl ?_);intros gl;have QY:ai [rd] Z5 (Z6.set gl (.lst [])):=Ks.new hgl;have NC:=ad Z6 gl (.lst []);have X8:=ao (o':=.lst []) hgl VQ;have u1:=ao (o':=.lst []) hgl (Ks.get w1 (by exact aE UE));have u4:=ao (o':=.lst []) hgl (Ks.get w4 (by exact aE RC));have ul:=ao (o':=.lst []) hgl (Ks.get wl (by exact aE Y3));have RJ:l≠gl:=aq hgl (Ks.get wl (by exact aE Y3));have hEB:(Z6.set gl (.lst [])) l3=a_ (.lst ((bK kin firm fresh).E.map vN)):=ao hgl (Ks.get PL (by exact aE W7));have Wm:l3≠gl:=aq hgl (Ks.get PL (by exact aE W7));have glF:isNew Z3 gl:=(M0.trans Ks (by exact bT (.inr TL.1))).isNew hgl (by exact aW);have fB:jB (Z6.set gl (.lst [])) es 1 (bK kin firm fresh).F gl l:=by
    rcases f6 with hno|⟨a,ea,ha,na⟩
    ·exact .inl hno
    ·exact .inr ⟨a,ea,ao hgl ha,aq hgl ha,(aq na wl).symm⟩
   show au _ _ _ ⟨[("rounds",.ref rd),("gone",.ref gl)],[("counts",c1),("fresh",c2),("firm",c3),("kin",c4)]⟩ _ _;have Qh:ai [] Z (Z6.set gl (.lst [])):=λb o nb e=>QY b o (by exact aE ((TM b o e).1)) (M0 b o nb (LG b o nb e));have Uw:∀b o,Z b=a_ o->b∉[gl,l,rd]:=λb o e=>by
    have h1:=TM b o e;have h2:b≠gl:=aq glF (LG b o aj e);exact eZ h2 h1.2 h1.1
   have I0:rb kin.length 0 (base kin firm (aD kin firm fresh 0).G) (aD kin firm fresh 0) l gl rd (Z6.set gl (.lst [])) es N6:=⟨X8,ki6,V',.inr ⟨l3,e6,hEB,Wm,WW⟩,fB,no6,NC,ul⟩;generalize (Z6.set gl _)=ZB at QY NC X8 u1 u4 ul Qh I0⊢;have TE:c1∉[gl,l,rd]:=by exact eZ (ag u1 NC) (ag u1 ul) UE
   have SW:c4∉[gl,l,rd]:=by exact eZ (ag u4 NC) (ag u4 ul) RC
   have XU:=Qh.get KH aj;have hSg:=lM (kin:=kin) (firm:=firm) (fresh:=fresh) hr hf1;refine eV (aA rfl (af (bB (bB (aK (aA rfl (af (aa (a7 rfl rfl u4) (am (bH (gu XU (by walk_at "e") (qs ⟨by decide,by decide⟩ ⟨by walk_at "b",by walk_at "f"⟩ (aK (iD (am (fT (by walk_at "b") (by omega) λlt K7=>?_))))))))))))))));intros lt;have NN:ai [] ZB (ZB.set lt (.rng (2*((rows.map (Di)).length:Int)+4))):=(ai.refl _ _).new K7;have Va:(ZB.set lt (.rng (2*((rows.map (Di)).length:Int)+4))) lt=a_ (.rng (2*(kin.length:Int)+4)):=by rw[ad,hl]
   have Px:lt∉[gl,l,rd]:=by exact eZ ((aq K7 NC).symm) ((aq K7 ul).symm) ((aq K7 X8).symm)
   have I1:rb kin.length 0 (base kin firm (aD kin firm fresh 0).G) (aD kin firm fresh 0) l gl rd (ZB.set lt (.rng (2*((rows.map (Di)).length:Int)+4))) es N6:=by
    have rp:∀k L,jB ZB es k L gl l->jB (ZB.set lt (.rng (2*((rows.map (Di)).length:Int)+4))) es k L gl l:=λk L h=>h.imp id λ⟨a,h1,h2,h3⟩=>⟨a,h1,ao K7 h2,h3⟩;exact⟨ao K7 I0.hrd,I0.ki,I0.len,rp _ _ I0.e,rp _ _ I0.f,I0.no,ao K7 I0.hgl,ao K7 I0.hct⟩
   generalize (ZB.set lt _)=ZC at NN Va I1⊢;have t1:=NN.get u1 aj;have t4:=NN.get u4 aj;have Uq:ai [] Z ZC:=Qh.trans NN (by exact aW);refine gp (fS Va) (by simp;omega) rfl (λi JN Z'=>JN.cel=[(("counts":Str),c1),(("fresh":Str),c2),(("firm":Str),c3),(("kin":Str),c4)]/\JN.loc.lookup ("rounds":Str)=a_ (.ref rd)/\JN.loc.lookup ("gone":Str)=a_ (.ref gl)/\ai [gl,l,rd] ZC Z'/\∃es N,rb kin.length i (base kin firm (aD kin firm fresh i).G) (aD kin firm fresh i) l gl rd Z' es N) ⟨rfl,rfl,rfl,ai.refl _ _,es,N6,I1⟩ (λi JN Z' hI=>?_) (λi y JN Z' hy hI Qz Kz=>?_) (λJN Z' hI=>?_)
   ·show Z' lt=ZC lt
    exact(hI.2.2.2.1.get Va Px).trans Va.symm
   ·revert hy hI;intros i y JN Z' Qz
    refine im hI λJT kR kG PN zz=>?_;clear hI;refine cS zz λes N I=>?_;intros es N;clear zz;obtain⟨loc,cel⟩:=JN;intros loc cel;dsimp only at JT kR kG;subst JT;have hil:i<2*kin.length+4:=by
     have:=Dg.mp hy;obtain⟨Wb,_⟩:=this;simp at Wb;walk_at "a"
    have Qt:y=vN i:=by
     rw[k_,D9 (by walk_at "o")]at hy;cases hy;rfl
    subst Qt;dsimp only;have Rx:(aL "turn" (vN i) loc).lookup ("rounds":Str)=a_ (.ref rd):=by rw[dj,p_ (by decide)];exact kR
    have QW:(aL "turn" (vN i) loc).lookup ("gone":Str)=a_ (.ref gl):=by rw[dj,p_ (by decide)];exact kG
    have Rr:(aL "turn" (vN i) loc).lookup ("turn":Str)=a_ (vN i):=by exact d6
    generalize aL "turn" (vN i) loc=L at Rx QW Rr⊢;have SS:=hSg i;have nd:=SS.nd;rw[Dk,Dk]at nd;refine bP nd ?_;clear nd;rintro PA ⟨NU,W1,XW⟩ nd5;have hD:=fw (aD kin firm fresh i).E;have Zap:∀q∈aH (aD kin firm fresh i).E,q<kin.length:=λq hq=>SS.rg q (by simp[hD.mem_iff.mp hq]);have U5:=i9 kin.length _ SS.nd SS.rg;simp only [q_]at U5;have V9:((aD kin firm fresh i).G++aH (aD kin firm fresh i).E).Nodup:=by
     rw[Dk];exact⟨PA,hD.nodup_iff.mpr NU,λa ha b hb e=>nd5 a ha b (by exact y' _ (hD.mem_iff.mp hb)) e⟩
    have ab9:(aH (aD kin firm fresh i).E).length<=10:=by rw[hD.length_eq];walk_at "bj"
    refine eV (aA rfl (af (aX (aa (aB rfl Rx) (i7 I.hrd rfl (af (aa (aB rfl Rr) (af (eU λe1 N7=>am (bH (Aj (ao N7 I.hrd) I.ki ?_)))))))))));intros e1;obtain⟨a,RV,Pt⟩:∃a,(es.lookup (vN i)).getD (.ref e1)=.ref a/\(Z'.set e1 (.lst [])) a=a_ (.lst ((aD kin firm fresh i).E.map vN)):=by
     rcases I.e with ⟨hno,e0⟩ |⟨a,h1,h2,_⟩
     ·exact⟨e1,by exact hno▸rfl,by exact e0▸(ad _ _ _)⟩
     ·exact⟨a,by exact h1▸rfl,ao N7 h2⟩
    intros a;rw[show(Dl (i:Int) 0)=vN i from rfl,RV];have Yv:ai [] Z' (Z'.set e1 (.lst [])):=(ai.refl _ _).new N7;refine am (bH (qq Pt (oi _) (by rw[b'];walk_at "bk") λsl OH=>?_));intros sl;rw[ur];have Kn:=ad (Z'.set e1 (.lst [])) sl (.lst ((aH (aD kin firm fresh i).E).map vN));have MB:ai [] Z' ((Z'.set e1 (.lst [])).set sl (.lst ((aH (aD kin firm fresh i).E).map vN))):=Yv.new OH;have nsl:sl∉[gl,l,rd]:=by exact eZ ((aq OH (ao N7 I.hgl)).symm) ((aq OH (ao N7 I.hct)).symm) ((aq OH (ao N7 I.hrd)).symm)
    generalize ((Z'.set e1 _).set sl _)=ZA at Kn MB⊢;have aR:=MB.get I.hrd aj;have aG:=MB.get I.hgl aj;have aC:=MB.get I.hct aj;have a1:ZA c1=a_ (.cel (a_ (.ref l))):=MB.get (PN.get t1 TE) aj;have a4:ZA c4=a_ (.cel (a_ (.ref kn))):=MB.get (PN.get t4 SW) aj;have QD:ai [] Z ZA:=λb o nb e=>MB b o nb (PN b o (Uw b o e) (Uq b o nb e));have Vs:((aH (aD kin firm fresh i).E).flatMap (row kin)).length<=20:=by
     have:∀D:b_ Nat,(D.flatMap (row kin)).length<=2*D.length:=λD=>by
      induction D with
      |nil=>simp
      |cons q D ih=>
       have:(row kin q).length<=2:=by
        unfold row;cases e:kin[q]? with
        |none=>simp
        |some r=>exact Po r (B_ e)
       rw[DD,q_,Df];walk_at "w"
     have:=this (aH (aD kin firm fresh i).E);walk_at "o"
    have aby:=qB (base kin firm ((aD kin firm fresh i).G++aH (aD kin firm fresh i).E)) ((aH (aD kin firm fresh i).E).flatMap (row kin));refine gp (cY Kn) (by simp;walk_at "o") rfl (λj JN JO=>JN.cel=[(("counts":Str),c1),(("fresh":Str),c2),(("firm":Str),c3),(("kin":Str),c4)]/\JN.loc.lookup ("rounds":Str)=a_ (.ref rd)/\JN.loc.lookup ("gone":Str)=a_ (.ref gl)/\JN.loc.lookup ("turn":Str)=a_ (vN i)/\∃KQ N' X,mu kin.length i ZA es l gl rd (base kin firm ((aD kin firm fresh i).G++aH (aD kin firm fresh i).E)) ((aH (aD kin firm fresh i).E).flatMap (row kin)) ((aD kin firm fresh i).G++(aH (aD kin firm fresh i).E).take j) (((aH (aD kin firm fresh i).E).drop j).flatMap (row kin)) JO KQ N' X) ⟨rfl,Rx,QW,Rr,es,N,[],⟨aR,I.ki,by walk_at "a",λU U=>rfl,.inl ⟨I.no _ (DW _),rfl⟩,rfl,?_,by rw[List.take_zero,Dz];exact aG,ai.refl _ _⟩⟩ (λj JN JO hI=>?_) (λj y JN JO hy hI Qy Ky=>?_) (λJN JO hI=>?_)
    ·rw[aC,IN]
     congr 2;refine Dp λp U=>?_;exact congrArg _ (lL kin firm p (aH (aD kin firm fresh i).E) (aD kin firm fresh i).G V9 Zap)
    ·refine jN hI λU U U U U U U J=>?_;clear hI
     show JO sl=ZA sl;exact(J.frm.get Kn nsl).trans Kn.symm
    ·revert hI;revert hy;revert Ky;revert j y JN JO Qy;injections j y JN JO Qy;intro Ky hy hI
     refine jN hI λJT kR kG kT KQ N' X J=>?_;intros KQ N' X;clear hI;obtain⟨J9,cel⟩:=JN;dsimp only at JT kR kG kT;subst JT;rw[k_]at hy;revert J;revert Ky;revert kT;revert kG;revert kR;revert Qy KQ N' X J9;injections Qy KQ N' X J9;intro kR kG kT Ky J;refine ac (j_.mp hy) ?_;rintro q hq rfl;revert hy;revert hq;revert q;injections q;intro hq hy;have K6:q<kin.length:=Zap q (B_ hq);dsimp only;have Rx:(aL "place" (vN q) J9).lookup ("rounds":Str)=a_ (.ref rd):=by rw[dj,p_ (by decide)];exact kR
     have QW:(aL "place" (vN q) J9).lookup ("gone":Str)=a_ (.ref gl):=by rw[dj,p_ (by decide)];exact kG
     have Rr:(aL "place" (vN q) J9).lookup ("turn":Str)=a_ (vN i):=by rw[dj,p_ (by decide)];exact kT
     have W4:(aL "place" (vN q) J9).lookup ("place":Str)=a_ (vN q):=by exact d6
     generalize aL "place" (vN q) J9=L2 at Rx QW Rr W4⊢;refine bE (aX (aa (aB rfl QW) (dY J.hgl rfl (af (aa (aB rfl W4) (am (bH (eR J.hgl (by simp;walk_at "o") ⟨rfl,?_⟩))))))));have tkq:=gK hq;have drq:(aH (aD kin firm fresh i).E).drop j=q::(aH (aD kin firm fresh i).E).drop (j+1):=by rw[DV,hq];rfl
     have J2:mu kin.length i ZA es l gl rd (base kin firm ((aD kin firm fresh i).G++aH (aD kin firm fresh i).E)) ((aH (aD kin firm fresh i).E).flatMap (row kin)) ((aD kin firm fresh i).G++(aH (aD kin firm fresh i).E).take (j+1)) ((row kin q).drop 0++((aH (aD kin firm fresh i).E).drop (j+1)).flatMap (row kin)) (JO.set gl (.lst (((aD kin firm fresh i).G++(aH (aD kin firm fresh i).E).take j).map vN++[vN q]))) KQ N' X:=by
      have Lu:=J.sum;have Tz:=J.hct;rw[drq,DD]at Lu Tz;refine⟨ap (ag J.hrd J.hgl) J.hrd,J.ki,J.len,J.look,?_,Lu,ap RJ Tz,?_,J.frm.set (by exact .head _)⟩
      ·rcases J.rep with h|⟨a,e,ea,na⟩
       ·exact .inl h
       ·exact .inr ⟨a,e,ap (aq na aG).symm ea,na⟩
      ·rw[ad,tkq];simp[r_]
     generalize (JO.set gl _)=ZD at J2⊢;refine ac (K1 q kin[q] (w_ K6)) λra Qq MP=>?_;intros ra;have Pw:row kin q=kin[q]:=by unfold row;rw[w_ K6];rfl
     have b4:=J2.frm.get a4 SW;have Ye:=J2.frm.get (QD.get KH aj) (Uw _ _ KH);have T0:=J2.frm.get (QD.get MP aj) (Uw _ _ MP);refine eV (cQ (aa (a7 rfl rfl b4) (aa (aB rfl W4) ⟨_,fh Ye (by walk_at "a") (by walk_at "g") (by rw[k_,Dh,Qq];rfl),?_⟩)));refine gp (cY T0) (by have:=Po _ (G_ K6);simp;walk_at "o") rfl (λjj JN Z3=>JN.cel=[(("counts":Str),c1),(("fresh":Str),c2),(("firm":Str),c3),(("kin":Str),c4)]/\JN.loc.lookup ("rounds":Str)=a_ (.ref rd)/\JN.loc.lookup ("gone":Str)=a_ (.ref gl)/\JN.loc.lookup ("turn":Str)=a_ (vN i)/\∃KQ N' X,mu kin.length i ZA es l gl rd (base kin firm ((aD kin firm fresh i).G++aH (aD kin firm fresh i).E)) ((aH (aD kin firm fresh i).E).flatMap (row kin)) ((aD kin firm fresh i).G++(aH (aD kin firm fresh i).E).take (j+1)) ((row kin q).drop jj++((aH (aD kin firm fresh i).E).drop (j+1)).flatMap (row kin)) Z3 KQ N' X) ⟨rfl,Rx,QW,Rr,KQ,N',X,J2⟩ (λjj JN Z3 hI=>?_) (λjj y JN Z3 hy hI Qx Kx=>?_) (λJN Z3 hI=>?_)
     ·refine jN hI λU U U U U U U J3=>?_;clear hI
      show Z3 ra=ZD ra;exact(J3.frm.get (QD.get MP aj) (Uw _ _ MP)).trans T0.symm
     ·revert hI;revert hy;revert Kx;revert jj y JN Z3 Qx;injections jj y JN Z3 Qx;intro Kx hy hI
      refine jN hI λJT kR kG kT T8 N3 X3 J3=>?_;intros T8 N3 X3;clear hI;obtain⟨MN,cel⟩:=JN;revert kT;revert kG;revert kR;revert JT;revert MN cel;injections MN cel;intro JT kR kG kT;dsimp only at JT kR kG kT;subst JT;rw[k_]at hy;revert J3;revert Kx;revert kT;revert kG;revert kR;revert Qx T8 N3 X3 MN;injections Qx T8 N3 X3 MN;intro kR kG kT Kx J3;refine ac (j_.mp hy) ?_;rintro x hx rfl;have L7:x<kin.length:=hr _ (G_ K6) x (B_ hx);have drx:(row kin q).drop jj=x::(row kin q).drop (jj+1):=by rw[Pw,DV,hx];rfl
      rw[drx,F']at J3;have UN:X3.length<=1000:=by
       have:=congrArg GB J3.sum;rw[q_]at this;walk_at "o"
      refine Au J3 L7 (by walk_at "o") (by walk_at "o") (by have:=I.len;walk_at "o") UN rfl a1 (by exact d6) (by exact et kT) (by exact et kR) ⟨_,aC⟩ ⟨_,aG⟩ ⟨_,_,aR⟩ RJ rfl rfl λZ4 es4 N4 X4 J4=>Kx .next _ _ ⟨rfl,?_,?_,?_,es4,N4,X4,J4⟩
      ·exact et kR
      ·exact et kG
      ·exact et kT
     ·refine jN hI λJT kR kG kT T8 N3 X3 J3=>?_;clear hI
      rw[b', <-Pw,Gb,FH]at J3;exact ay (Ky .next _ _ ⟨JT,kR,kG,kT,T8,N3,X3,J3⟩)
    ·intros JN JO
     refine jN hI λJT kR kG kT KQ N' X J=>?_;intros KQ N' X;clear hI;rw[b',Dy,Gb]at J;have hX:X=fE (base kin firm ((aD kin firm fresh i).G++aH (aD kin firm fresh i).E)) ((aH (aD kin firm fresh i).E).flatMap (row kin)):=by
      have:=J.sum;rw[show(([]:b_ Nat).flatMap (row kin))=[]from rfl,show fE (base kin firm ((aD kin firm fresh i).G++aH (aD kin firm fresh i).E)) []=[]from rfl,Dz]at this;exact this
     refine ay (Kz .next _ _ ⟨JT,kR,kG,λb o nb e=>J.frm b o nb (MB b o aj (PN b o nb e)),KQ,N',J.hrd,J.ki,?_,?_,?_,λk hk=>?_,J.hgl,?_⟩)
     ·have h1:=J.len
      have h2:=I.len;split at h1<;>walk_at "o"
     ·show jB JO KQ (i+1) (aD kin firm fresh i).F gl l
      rcases I.f with ⟨h1,h2⟩ |⟨a,h1,h2,h3,h4⟩
      ·exact .inl ⟨by exact(J.look (i+1) (by walk_at "K")).trans h1,h2⟩
      ·exact .inr ⟨a,by exact(J.look (i+1) (by walk_at "K")).trans h1,J.frm.get (MB.get h2 aj) (by exact eZ h3 h4 (ag h2 I.hrd)),h3,h4⟩
     ·show jB JO KQ (i+2) (fE (base kin firm ((aD kin firm fresh i).G++aH (aD kin firm fresh i).E)) ((aH (aD kin firm fresh i).E).flatMap (row kin))) gl l
      rw[<-hX];rcases J.rep with h1|⟨a,h1,h2,h3⟩
      ·exact .inl h1
      ·exact .inr ⟨a,h1,h2,(aq h3 aG).symm,(aq h3 aC).symm⟩
     ·exact(J.look k (by walk_at "a")).trans (I.no k (by walk_at "a"))
     ·exact J.hct
   ·refine im hI λJT kR kG PN zz=>?_;clear hI;refine cS zz λes N I=>?_;clear zz
    rw[b',Ej,show((2*(kin.length:Int)+4)).toNat=2*kin.length+4 by walk_at "c"]at I;obtain⟨loc,cel⟩:=JN;dsimp only at JT kR kG;subst JT;have b1:=PN.get t1 TE;refine a9 (fi (af (aa (aB rfl kG) (af (aa (a7 rfl rfl b1) (am ⟨by simp,λt ht=>?_⟩))))));exact h _ t gl l (λb o nb e=>ao ht (PN b o (Uw b o e) (Uq b o nb e))) (ad _ _ _) (ao ht I.hgl) (ao ht I.hct)
  ·have PR:∀Z6 es N,ai [rd] Z5 Z6->Z6 rd=a_ (.dic es N)->((es=[(.int 0 0,.ref l3)]/\(bK kin firm fresh).F=[])\/∃a,es=[(.int 0 0,.ref l3),(.int 1 0,.ref a)]/\isNew Z5 a/\Z6 a=a_ (.lst ((bK kin firm fresh).F.map vN)))->au (aT (aJ KC 0) 60 60) _ _ ⟨[("rounds",.ref rd)],[("counts",c1),("fresh",c2),("firm",c3),("kin",c4)]⟩ Z6 (iz Q):=λZ6 es N Ks VQ MJ=>kk _ Z6 ⟨rfl,Ks,es,N,VQ,by
    have XZ:∀ (k:Nat) (j:Nat),j≠k->(vN k==vN j)=g':=λk j h=>by rw[qD];exact r'.mpr (Ex h)
    rcases MJ with ⟨rfl,e⟩ |⟨a,rfl,na,ea⟩
    ·refine⟨rfl,by simp,by exact v_,.inl ⟨?_,e⟩,λk hk=>?_⟩
     ·exact(show(Dl 0 0)=vN 0 from rfl)▸rfl
     ·rw[show(Dl 0 0)=vN 0 from rfl,v_,XZ k 0 (by walk_at "o")];rfl
    ·refine⟨rfl,by simp,by exact v_,.inr ⟨a,?_,ea,na⟩,λk hk=>?_⟩
     ·exact(show(Dl 0 0)=vN 0 from rfl)▸rfl
     ·rw[show(Dl 0 0)=vN 0 from rfl,show(Dl 1 0)=vN 1 from rfl,v_,XZ k 0 (by walk_at "o"),v_,XZ k 1 (by walk_at "a")];rfl⟩
   refine aO (fG (cI (aU (aa (a7 rfl rfl w2) (aK ⟨_,rfl,cG (λq=>?_) (λq=>?_)⟩)))))
   ·have q0:0<=fresh:=of_decide_eq_true q
    have ef:Dl fresh 0=.int ((fresh.toNat:Nat):Int) 0:=by congr 1;walk_at "x"
    refine cI (aU (cQ (aa (a7 rfl rfl w1) (aa (a7 rfl rfl w2) ⟨_,by rw[ef];exact fI wl (by walk_at "d") (by walk_at "o"),aK ⟨_,rfl,cG (λq=>?_) (λq=>?_)⟩⟩))))
    ·have q1:base kin firm [] fresh.toNat=0:=by have:((base kin firm [] fresh.toNat:Nat):Int)=0:=of_decide_eq_true q;walk_at "j"
     refine dk (aZ rfl (tU (fe (af (aa (a7 rfl rfl w2) (am ⟨by simp,λl5 ME=>aa (aB rfl rfl) (aK (j5 (ao ME Np) rfl (by simp) λN'=>ay ?_))⟩))))));refine PR _ _ N' (((ai.refl [rd] Z5).new ME).set (.head _)) (ad _ _ _) (.inr ⟨l5,rfl,ME,?_⟩);have hF:(bK kin firm fresh).F=[fresh.toNat]:=z_ ⟨q0,q1⟩;rw[hF,ap (aq ME Np).symm (ad _ _ _),ef];rfl
    ·have q1:base kin firm [] fresh.toNat≠0:=by have:((base kin firm [] fresh.toNat:Nat):Int)≠0:=DM q;walk_at "J"
     exact aM rfl (ay (PR Z5 _ N (ai.refl _ _) Np (.inl ⟨rfl,p_ λh=>q1 h.2⟩)))
   ·have q0:¬0<=fresh:=DM q
    exact aM rfl (ay (PR Z5 _ N (ai.refl _ _) Np (.inl ⟨rfl,p_ λh=>q0 h.1⟩)))
section
variable{T:a6}{E:ET}
theorem kt {x:Str}(ho:Z a=a_ o)(hx:fj Z (.ref a)=a_ xs)(hz:xs.length<=100000)(hn:eN cs.names=[])(hk:kindOf cs x=a_ .local)
 (I:Nat->b_ c_->ak->Prop) (h0:I 0 [] Z) (hs:∀i JP Z',I i JP Z'->Z' a=Z a/\JP.length=i) (he:∀i y JP Z',xs[i]? =a_ y->I i JP Z'->E elt cs ⟨[(x,y)],cl⟩ Z' λu JO=>I (i+1) (JP++[u]) JO)
 (h:∀JP Z',I xs.length JP Z'->∀l,isNew Z' l->Q (.ref l) (Z'.set l (.lst JP))):iv E Bt elt x [] cs cl (.ref a) Z Q:=by
 refine⟨xs,hx,hz,?_⟩;rw[hn];refine⟨I,h0,λi JP Z' hI=>⟨(hs i JP Z' hI).1,DX (hs i JP Z' hI).2⟩,λi y JP Z' hy hI=>?_,λJP Z' hI l hl=>h JP Z' hI l hl⟩;exact aV hk (dk (aZ rfl (he i y JP Z' hy hI)))
end
noncomputable def eO (Z0:ak)(mn cl:d_)(B:Int)(Z':ak):Prop:=ai [mn] Z0 Z'/\∃d N,0<=d/\d<=B/\Z' mn=a_ (.dic [(.str "cells" 0,.ref cl),(.str "deep" 0,.int d 0)] N)
theorem eO.new {cl:d_}{B:Int}(h:eO Z0 mn cl B Z)(hl:isNew Z l)(o:O):eO Z0 mn cl B (Z.set l o):=by
 refine eM h λhF d N h1 h2 h3=>?_;clear h;exact⟨hF.new hl,d,N,h1,h2,ao hl h3⟩
theorem eO.up {cl:d_}{B B':Int}(h:eO Z0 mn cl B Z)(hb:B<=B'):eO Z0 mn cl B' Z:=by
 refine eM h λhF d N h1 h2 h3=>?_;clear h;exact⟨hF,d,N,h1,Eu h2 hb,h3⟩
theorem ku {cl:d_}{B KI:Int}(D:eO Z0 mn cl B Z)(hcl:Z0 cl=a_ (.lst cells))(Ki:∀v∈cells,∃i:Int,v=.int i 0)(J6:cells.length<=60)(M8:cl≠mn)(hB:B<900)(h2:0<KI)(h3:KI<1000)
 (h:∀Z' i,eO Z0 mn cl (B+1) Z'->ai [mn] Z Z'->0<=i->i<KI->Q (.int i 0) Z'):aI KC (aJ KC 0) 2 810 [.ref mn,.int KI 0] Z Q:=by
 refine eM D λhF d N d0 d1 hm=>?_;clear D;have hmc:cl∉[mn]:=by exact aE M8
 refine nR hm (hF.get hcl hmc) Ki J6 d0 (by walk_at "o") h2 h3 λZ' N' i La PJ i0 i1=>h Z' i ⟨hF.trans La (by exact bT (.inl (.head _))),d+1,N',by walk_at "a",by walk_at "a",PJ⟩ La i0 i1
noncomputable def lQ (Z':ak)(n:Nat)(rows:b_ d_)(kin:b_ (b_ Nat)):Prop:=rows.length=kin.length/\(∀ (i:Nat) (row:b_ Nat),kin[i]? =a_ row->∃a,rows[i]? =a_ a/\Z' a=a_ (.lst (row.map vN)))/\∀r∈kin,r.length<=2/\∀y∈r,y<n
theorem lQ.frm {rows:b_ d_}{N:Nat}(h:lQ Z n rows kin)(hF:ai [mn] Z Z')(hm:Z mn=a_ (.dic es N)):lQ Z' n rows kin:=by
 refine⟨h.1,λi row e=>?_,h.2.2⟩;refine ac (h.2.1 i row e) λa e1 e2=>?_;exact⟨a,e1,hF.get e2 (by exact aE (ag e2 hm))⟩
theorem Aw {cl:d_}{N:Nat}(hm:Z mn=a_ (.dic [(.str "cells" 0,.ref cl),(.str "deep" 0,.int JV 0)] N))(hcl:Z cl=a_ (.lst cells))(Ki:∀v∈cells,∃i:Int,v=.int i 0)(J6:cells.length<=60)
 (h0:0<=JV) (h1:JV<=100)
 (h:∀Z' t kn bl fr kin (bs:b_ Dm) (firm:b_ Int) (fresh:Int),eO Z mn cl 200 Z'->Z' t=a_ (.tup [.ref kn,.ref bl,.ref fr,.int fresh 0])->jA Z' kn kin->1<=kin.length->kin.length<=8->(∀r∈kin,r.length<=2/\∀y∈r,y<kin.length)->
  Z' bl=a_ (.lst (bs.map .bool))->bs.length=kin.length->Z' fr=a_ (.lst (firm.map vI))->firm.length=2->(∀x∈firm, -1<=x/\x<kin.length)-> -1<=fresh->fresh<kin.length->Q (.ref t) Z'):
 aI KC (aJ KC 1) 1 829 [.ref mn] Z Q:=by
 intros mn JV Z cells Q cl N;have M8:cl≠mn:=ag hcl hm;refine⟨rfl,?_⟩;show∀c1,isNew Z c1->∀c2,isNew (Z.set c1 (.cel h_)) c2->au _ _ _ ⟨[],[("many",c1),("mine",c2)]⟩ ((Z.set c1 (.cel h_)).set c2 (.cel (a_ (.ref mn)))) _;intro c1 JY c2 J0;revert JY;intros c1 c2;have n12:c1≠c2:=aq J0 (ad _ _ _);have x1:((Z.set c1 (.cel h_)).set c2 (.cel (a_ (.ref mn)))) c1=a_ (.cel h_):=ap n12 (ad _ _ _);have x2:=ad (Z.set c1 (.cel h_)) c2 (.cel (a_ (.ref mn)));have D1:eO Z mn cl 100 ((Z.set c1 (.cel h_)).set c2 (.cel (a_ (.ref mn)))):=⟨((ai.refl _ _).new JY).new J0,JV,N,h0,h1,ao J0 (ao JY hm)⟩;have OJ:c1∉[mn]:=by exact aE ((aq JY hm).symm)
 have OE:c2∉[mn]:=by exact aE ((aq (eT J0) hm).symm)
 have W9:isNew Z c1:=JY;generalize ((Z.set c1 _).set c2 _)=Z1 at x1 x2 D1⊢;clear J0;refine a8 (bB (aK (aA rfl (af (aa (a7 rfl rfl x2) (af (aK (am (aF rfl (ku D1 hcl Ki J6 M8 (by decide) (by decide) (by decide) λZ2 d D2 JS d0 d1=>iD (fH rfl rfl (JS.get x1 OJ) ?_)))))))))));intros Z2 d;have Pp:1+d=(((1+d).toNat:Nat):Int):=by walk_at "o"
 generalize hM:(1+d).toNat=M at Pp;rw[Pp];have y1:=ad Z2 c1 (.cel (a_ (.int (M:Int) 0)));have y2:(Z2.set c1 (.cel (a_ (.int (M:Int) 0)))) c2=a_ (.cel (a_ (.ref mn))):=ap n12.symm (JS.get x2 OE);have D3:eO Z mn cl 101 (Z2.set c1 (.cel (a_ (.int (M:Int) 0)))):=by
  refine eM D2 λhF d N e1 e2 e3=>?_;clear D2;exact⟨λb o nb e=>ap (aq W9 e) (hF b o nb e),d,N,e1,e2,ap (λq=>OJ (by simp[q])) e3⟩
 generalize (Z2.set c1 _)=Z3 at y1 y2 D3⊢;refine a8 (dD (cl:=[("many",c1),("mine",c2)]) rfl (aA rfl (af (aa (a7 rfl rfl y1) (am (fT (by walk_at "b") (by walk_at "Z") λlr Kd=>?_))))));intros lr;refine kt (ad _ _ _) (fS (ad _ _ _)) (by simp;walk_at "ba") rfl rfl (λi JP Z'=>eO Z mn cl (101+3*i) Z'/\ai [mn] (Z3.set lr (.rng (M:Int))) Z'/\∃rows kin,JP=rows.map .ref/\kin.length=i/\lQ Z' M rows kin) ⟨(D3.new Kd _).up (by simp),ai.refl _ _,[],[],rfl,rfl,rfl,λi row e=>(by simp at e),λr hr=>(by simp at hr)⟩ (λi JP Z' hI=>?_) (λi y JP Z' hy hI=>?_) (λJP Z' hI kn KH=>aV rfl ?_)
 ·refine kL hI ?_;clear hI;rintro D hF rows kin rfl hk hR
  refine eM D3 λU U U U U em=>?_;clear D3;exact⟨by rw[hF.get (ad Z3 lr (.rng (M:Int))) (by exact aE ((aq Kd em).symm)),ad],by rw[b',hR.1,hk]⟩
 ·intros i y JP Z'
  refine kL hI ?_;clear hI;rintro D hF rows kin rfl hk hR;intros rows kin;have Vy:i<M:=by
   obtain⟨hl,_⟩:=Dg.mp hy;simpa using hl
  have z1:=hF.get (ao (o':=.rng (M:Int)) Kd y1) OJ;have z2:=hF.get (ao (o':=.rng (M:Int)) Kd y2) OE;have D0:=D;refine eM D0 λU U U U U NO=>?_;clear D0;refine dD (cl:=[("many",c1),("mine",c2)]) rfl (aA rfl (af (aA rfl (af (aa (bR rfl rfl z2) (af (aK (am (aF rfl (ku D hcl Ki J6 M8 (by walk_at "o") (by decide) (by decide) λZ4 w D4 J1 w0 w1=>am (fT (by walk_at "B") (by walk_at "bb") λl2 JX=>?_)))))))))));have WI:=ao (o':=.rng w) JX (J1.get z1 OJ);have VS:=ao (o':=.rng w) JX (J1.get z2 OE);have Ke:ai [mn] Z' (Z4.set l2 (.rng w)):=J1.new JX;have Vk:∃es N,(Z4.set l2 (.rng w)) mn=a_ (.dic es N):=by
   refine eM D4 λU U U U U e=>?_;clear D4;exact⟨_,_,ao JX e⟩
  refine kt (ad _ _ _) (fS (ad _ _ _)) (by simp;walk_at "bb") rfl rfl (λj JP JO=>eO Z mn cl (101+3*i+1+j) JO/\ai [mn] (Z4.set l2 (.rng w)) JO/\∃row,JP=row.map vN/\row.length=j/\∀y∈row,y<M) ⟨(D4.new JX _).up (by walk_at "p"),ai.refl _ _,[],rfl,rfl,by exact aW⟩ (λj JP JO hI=>?_) (λj y JP JO hy hI=>?_) (λJP JO hI kn KH=>?_)
  ·refine jL hI ?_;clear hI;rintro Dj OY row rfl hk hR
   refine cS Vk λU U e=>?_;clear Vk;refine⟨?_,by rw[b',hk]⟩;rw[OY.get (ad Z4 l2 (.rng w)) (by exact aE (ag (ad Z4 l2 (.rng w)) e)),ad]
  ·refine jL hI ?_;clear hI;rintro Dj OY row rfl hk hR
   revert OY;revert Dj;revert hy;revert Vk;revert Ke;revert VS;revert WI;revert JX;revert w1;revert w0;revert J1;revert D4;revert hR;revert hk;revert Z4 w l2 j y JO row;injections Z4 w l2 j y JO row;intro hk hR D4 J1 w0 w1 JX WI VS Ke Vk hy Dj OY;have hjw:(j:Int)<w:=by
    obtain⟨hl,_⟩:=Dg.mp hy;simp at hl;walk_at "o"
   have v1:=OY.get WI OJ;have v2:=OY.get VS OE;refine aA rfl (af (aa (bR rfl rfl v2) (af (aa (bR rfl rfl v1) (am (aF rfl (ku Dj hcl Ki J6 M8 (by walk_at "o") (by walk_at "o") (by walk_at "ce") λZ6 u D6 Ks u0 u1=>?_)))))));refine⟨D6.up (by walk_at "p"),OY.trans Ks (by exact bT (.inl (.head _))),row++[u.toNat],?_,by rw[q_,hk];rfl,λy hy=>?_⟩
   ·rw[r_]
    show _++[Dl u 0]=_++[Dl ((u.toNat:Nat):Int) 0];rw[ES u0]
   ·rcases s_.mp hy with hy|hy
    ·exact hR y hy
    ·simp at hy;walk_at "o"
  ·refine jL hI ?_;clear hI;rintro Dj OY row rfl Yy hRr
   have La:ai [mn] Z' (JO.set kn (.lst (row.map vN))):=(Ke.trans OY (by exact bT (.inl (.head _)))).new KH;refine⟨(Dj.new KH _).up (by simp at *;walk_at "o"),hF.trans La (by exact bT (.inl (.head _))),rows++[kn],kin++[row],by rw[r_];rfl,by rw[q_,hk];rfl,?_,λii r e=>?_,λr hr=>?_⟩
   ·rw[q_,q_,hR.1];rfl
   ·by_cases hii:ii<kin.length
    ·rw[HW hii]at e
     refine ac ((hR.frm La NO).2.1 ii r e) λa e1 e2=>?_;exact⟨a,by rw[HW (by rw[hR.1];exact hii)];exact e1,e2⟩
    ·obtain⟨K7,_⟩:=Dg.mp e
     have:ii=kin.length:=by simp at K7;walk_at "o"
     subst this;rw[HN (DW _),Nat.sub_self]at e;cases e;exact⟨kn,by rw[HN (by exact hR.1▸(DW _)),hR.1,Nat.sub_self];rfl,ad _ _ _⟩
   ·rcases s_.mp hr with hr|hr
    ·exact hR.2.2 r hr
    ·simp at hr;subst hr
     refine⟨?_,hRr⟩;simp at Yy;walk_at "o"
 revert hI;intros JP Z' kn;refine kL hI ?_;clear hI;rintro D hF rows kin rfl hk hR;intros rows kin;have Zat:kin.length=M:=by rw[hk];simp
 have D0:=D;refine eM D0 λU U U U U NO=>?_;clear D0;have Da:eO Z mn cl (101+3*M) (Z'.set kn (.lst (rows.map .ref))):=(D.new KH _).up (by simp);have Kk:ai [mn] Z3 (Z'.set kn (.lst (rows.map .ref))):=(((ai.refl [mn] Z3).new Kd).trans hF (by exact bT (.inl (.head _)))).new KH;have hRa:lQ (Z'.set kn (.lst (rows.map .ref))) M rows kin:=hR.frm ((ai.refl [mn] Z').new KH) NO;have ka:=ad Z' kn (.lst (rows.map .ref));have WC:kn∉[mn]:=by exact aE ((aq KH NO).symm)
 show au _ _ _ ⟨[("kin",.ref kn)],[("many",c1),("mine",c2)]⟩ _ _;generalize (Z'.set kn _)=Za at Da Kk hRa ka⊢;clear KH hF D hR NO;have a1:=Kk.get y1 OJ;have a2:=Kk.get y2 OE;refine a8 (dD (cl:=[("mine",c2)]) rfl (aA rfl (af (aa (a7 rfl rfl a1) (am (fT (by walk_at "b") (by walk_at "Z") λlr Kd=>?_))))));revert Kd;revert lr;injections lr;intro Kd;refine kt (ad _ _ _) (fS (ad _ _ _)) (by simp;walk_at "ba") rfl rfl (λi JP Z'=>eO Z mn cl (101+3*M+i) Z'/\ai [mn] (Za.set lr (.rng (M:Int))) Z'/\∃bs:b_ Dm,JP=bs.map .bool/\bs.length=i) ⟨(Da.new Kd _).up (by simp),ai.refl _ _,[],rfl,rfl⟩ (λi JP Z' hI=>?_) (λi y JP Z' hy hI=>?_) (λJP Z' hI bl hbl=>aV rfl ?_)
 ·refine jJ hI ?_;clear hI;rintro D hF bs rfl hk
  refine eM Da λU U U U U em=>?_;clear Da;exact⟨by rw[hF.get (ad Za lr (.rng (M:Int))) (by exact aE ((aq Kd em).symm)),ad],by rw[b',hk]⟩
 ·intros i y JP Z'
  refine jJ hI ?_;clear hI;rintro D hF bs rfl hk;have Vy:i<M:=by
   obtain⟨hl,_⟩:=Dg.mp hy;simpa using hl
  have z2:=hF.get (ao (o':=.rng (M:Int)) Kd a2) OE;refine lB (aA rfl (af (aa (bR rfl rfl z2) (af (aK (am (aF rfl (ku D hcl Ki J6 M8 (by walk_at "o") (by decide) (by decide) λZ4 w D4 J1 w0 w1=>aK ⟨_,nT,?_⟩))))))));exact⟨D4.up (by walk_at "p"),hF.trans J1 (by exact bT (.inl (.head _))),bs++[decide (0<w)],by rw[r_];rfl,by rw[q_,hk];rfl⟩
 revert hI;intros JP Z' bl;refine jJ hI ?_;clear hI;rintro D hF bs rfl hkb;intros bs;have hbM:bs.length=M:=by rw[hkb];simp
 have D0:=D;refine eM D0 λU U U U U NO=>?_;clear D0;have Db:eO Z mn cl (101+4*M) (Z'.set bl (.lst (bs.map .bool))):=(D.new hbl _).up (by simp;walk_at "o");have LG:ai [mn] Za (Z'.set bl (.lst (bs.map .bool))):=(((ai.refl [mn] Za).new Kd).trans hF (by exact bT (.inl (.head _)))).new hbl;have kb:=ad Z' bl (.lst (bs.map .bool));have YT:bl∉[mn]:=by exact aE ((aq hbl NO).symm)
 show au _ _ _ ⟨[("kin",.ref kn),("blessed",.ref bl)],[("many",c1),("mine",c2)]⟩ _ _;have VD:∃es N,Za mn=a_ (.dic es N):=by
  refine eM Da λU U U U U e=>?_;clear Da;exact⟨_,_,e⟩
 generalize (Z'.set bl _)=Zb at Db LG kb⊢;clear hbl hF D NO;have b1:=LG.get a1 OJ;have b2:=LG.get a2 OE;refine cS VD ?_;clear VD;rintro _ _ VD;intros x y;have hRb:=hRa.frm LG VD;have kb2:=LG.get ka WC;refine a8 (dD (cl:=[("many",c1),("mine",c2)]) rfl (aA rfl (af (aK (am (fT (by decide) (by decide) λlr Kd=>?_))))));revert Kd;revert lr;injections lr;intro Kd;refine kt (ad _ _ _) (fS (ad _ _ _)) (by simp) rfl rfl (λi JP Z'=>eO Z mn cl (101+4*M+i) Z'/\ai [mn] (Zb.set lr (.rng 2)) Z'/\∃firm:b_ Int,JP=firm.map vI/\firm.length=i/\∀x∈firm, -1<=x/\x<M) ⟨(Db.new Kd _).up (by simp),ai.refl _ _,[],rfl,rfl,by exact aW⟩ (λi JP Z' hI=>?_) (λi y JP Z' hy hI=>?_) (λJP Z' hI fr hfr=>aV rfl ?_)
 ·refine jL hI ?_;clear hI;rintro D hF firm rfl hk _
  refine eM Db λU U U U U em=>?_;clear Db;exact⟨by rw[hF.get (ad Zb lr (.rng 2)) (by exact aE ((aq Kd em).symm)),ad],by rw[b',hk]⟩
 ·intros i y JP Z'
  refine jL hI ?_;clear hI;rintro D hF firm rfl hk hx;revert hx;revert hk;revert firm;injections firm;intro hk hx;have Vy:i<2:=by
   obtain⟨hl,_⟩:=Dg.mp hy;simpa using hl
  have z1:=hF.get (ao (o':=.rng 2) Kd b1) OJ;have z2:=hF.get (ao (o':=.rng 2) Kd b2) OE;refine bB (aA rfl (af (aa (bR rfl rfl z2) (af (bB (aa (bR rfl rfl z1) (aK (iD (am (aF rfl (ku D hcl Ki J6 M8 (by walk_at "o") (by walk_at "D") (by walk_at "bc") λZ4 w D4 J1 w0 w1=>aK (nN ?_))))))))))));refine⟨D4.up (by walk_at "p"),hF.trans J1 (by exact bT (.inl (.head _))),firm++[w-1],by rw[r_];rfl,by rw[q_,hk];rfl,λx Nf=>?_⟩;rcases s_.mp Nf with Nf|Nf
  ·exact hx x Nf
  ·simp at Nf;walk_at "o"
 revert hI;intros JP Z' fr;refine jL hI ?_;clear hI;rintro D hF firm rfl hkf Rz;intros firm;have D0:=D;refine eM D0 λU U U U U NO=>?_;clear D0;have Dc:eO Z mn cl (103+4*M) (Z'.set fr (.lst (firm.map vI))):=(D.new hfr _).up (by simp;walk_at "o");have Mu:ai [mn] Zb (Z'.set fr (.lst (firm.map vI))):=(((ai.refl [mn] Zb).new Kd).trans hF (by exact bT (.inl (.head _)))).new hfr;have kc:=ad Z' fr (.lst (firm.map vI));have VE:fr∉[mn]:=by exact aE ((aq hfr NO).symm)
 have KL:∃es N,Zb mn=a_ (.dic es N):=by
  refine eM Db λU U U U U e=>?_;clear Db;exact⟨_,_,e⟩
 refine cS KL ?_;clear KL;rintro _ _ KL;intros x_1 y_1;show au _ _ _ ⟨[("kin",.ref kn),("blessed",.ref bl),("firm",.ref fr)],[("many",c1),("mine",c2)]⟩ _ _;generalize (Z'.set fr _)=Zc at Dc Mu kc⊢;clear hfr hF D NO;have k1:=Mu.get b1 OJ;have k2:=Mu.get b2 OE;have hRc:=hRb.frm Mu KL;have kc2:=Mu.get kb2 WC;have kb3:=Mu.get kb YT;have VH:∃es N,Zc mn=a_ (.dic es N):=by
  refine eM Dc λU U U U U e=>?_;clear Dc;exact⟨_,_,e⟩
 refine cS VH ?_;clear VH;rintro _ _ VH;intros x_2 y_2;refine a9 (fi (af (aa (aB rfl rfl) (af (aa (aB rfl rfl) (af (aa (aB rfl rfl) (af (bB (aA rfl (af (aa (a7 rfl rfl k2) (af (bB (aa (a7 rfl rfl k1) (aK (iD (am (aF rfl (ku Dc hcl Ki J6 M8 (by walk_at "bd") (by walk_at "D") (by walk_at "bc") λZ4 w D4 J1 w0 w1=>aK (nN (am ⟨by simp,λt ht=>?_⟩))))))))))))))))))))));have Xn:=hRc.frm J1 VH;have OF:1<=M:=by walk_at "o"
 refine h _ t kn bl fr kin bs firm (w-1) ((D4.new ht _).up (by walk_at "bd")) (ad _ _ _) ⟨rows,ao ht (J1.get kc2 WC),Xn.1,λi row e=>?_⟩ (by walk_at "a") (by walk_at "cf") (by exact Zat▸Xn.2.2) (ao ht (J1.get kb3 YT)) (by walk_at "cg") (ao ht (J1.get kc VE)) ?_ (by exact Zat▸Rz) (by walk_at "o") (by walk_at "o")
 ·refine ac (Xn.2.1 i row e) λa e1 e2=>?_
  exact⟨a,e1,ao ht e2⟩
 ·rw[hkf];rfl
set_option genInjectivity false
set_option genSizeOf false
structure Bs where
 c:d_
 hp:d_
 dsA:d_
 sent:d_
 pl:d_
 em:d_
 lim:d_
 dc:d_
 dh:d_
 np:Nat
 ne:Nat
theorem Ax:Dr Bs:=⟨by constructor<;>exact default⟩
noncomputable def Bs.wd (β:Bs)(m:Nat)(A:Nat->d_)(Mb:Nat->b_ d_)(Ms:b_ (Addr×Option Nat))(num:d_->Int)(bl:Nat->c_)(last:Int):Wd:=
 {m:=m,c:=β.c,hp:=β.hp,dsA:=β.dsA,sent:=β.sent,pl:=β.pl,em:=β.em,lim:=β.lim,dc:=β.dc,dh:=β.dh,np:=β.np,ne:=β.ne,last:=last,A:=A,Mb:=Mb,Ms:=Ms,num:=num,bl:=bl}
noncomputable def eB (A:Nat->d_)(Z:ak)(tg:m_ Nat)(v:c_):Prop:=match tg with
 |none=>v=.none
 |some q=>∃rf rd,v=.ref rf/\Z rf=a_ (.inst 162 rd (gq (A q)))
noncomputable def uI (A:Nat->d_)(Mb:Nat->b_ d_)(bl:Nat->c_)(cnt:Nat->Int)(no:b_ d_)(Z:ak)(p:Nat):Prop:=
 ∃d wk its,Z (A p)=a_ (dN d (p+1) (cnt p) (bl p) wk g' g' its)/\Z wk=a_ (.lst [])/\wk∉no/\Z its=a_ (.lst ((Mb p).map .ref))/\its∉no
noncomputable def Ay (A:Nat->d_)(num:d_->Int)(no:b_ d_)(Z:ak)(a:d_)(tg:m_ Nat):Prop:=
 ∃d wk v,Z a=a_ (bU d (num a) 1 wk v)/\eB A Z tg v/\Z wk=a_ (.lst [])/\wk∉no
structure Bd (β:Bs)(m:Nat)(A:Nat->d_)(Mb:Nat->b_ d_)(Ms:b_ (Addr×Option Nat))(num:d_->Int)(bl:Nat->c_)(last:Int)(cnt:Nat->Int)(z:d_)(no:b_ d_)(Z:ak):Prop where
 hc:Z β.c=a_ (.inst 401 β.dc (dM β.hp β.dsA β.pl β.em))
 hpl:Z β.pl=a_ (.dic [] β.np)
 hem:Z β.em=a_ (.dic [] β.ne)
 hd:Z β.dsA=a_ (.bm "list.append" β.sent)
 hh:Z β.hp=a_ (.inst 225 β.dh (bN β.lim last z))
 ar:∀p,p<m->uI A Mb bl cnt no Z p
 sc:∀a tg,(a,tg)∈Ms->Ay A num no Z a tg
structure BP (m:Nat)(A:Nat->d_)(Ms:b_ (Addr×Option Nat))(num:d_->Int)(last:Int):Prop where
 inj:∀p q,p<m->q<m->A p=A q->p=q
 numA:∀p,p<m->num (A p)=p+1
 ord:(Ms.map λx=>num x.1).Pairwise (λa b=>a<b)
 rng:∀x∈Ms,(m:Int)<num x.1/\num x.1<=last
section
variable{β:Bs}{A:Nat->d_}{Ms:b_ (Addr×Option Nat)}{num:d_->Int}{bl:Nat->c_}{no:b_ d_}{W:b_ d_}
theorem Bd.kA (B:Bd β m A Mb Ms num bl last cnt z no Z){p:Nat}(hp:p<m):∃o,Z (A p)=a_ o/\kd o=95:=by
 refine eJ (B.ar p hp) λd wk its e U=>?_;exact⟨_,e,rfl⟩
theorem Bd.kS (B:Bd β m A Mb Ms num bl last cnt z no Z){a:d_}{tg:m_ Nat}(h:(a,tg)∈Ms):∃o,Z a=a_ o/\kd o=76:=by
 refine eJ (B.sc a tg h) λd wk v e U=>?_;exact⟨_,e,rfl⟩
noncomputable def ic (β:Bs)(m:Nat)(A:Nat->d_)(Ms:b_ (Addr×Option Nat))(no:b_ d_)(Z:ak)(a:d_):Prop:=
 (a∈no/\∃xs,Z a=a_ (.lst xs))\/a=β.hp\/(∃p,p<m/\a=A p)\/((∃o,Z a=a_ o/\kd o≠1/\kd o≠172/\kd o≠411/\kd o≠6/\kd o≠95)/\a≠β.pl/\a≠β.em/\∀x∈Ms,a≠x.1)
theorem Bd.out (B:Bd β m A Mb Ms num bl last cnt z no Z)(hF:ai W Z Z')(hW:∀a∈W,ic β m A Ms no Z a)(h:Z a=a_ o)(hk:(kd o=1/\a∉no)\/kd o=172\/kd o=411\/kd o=6\/((kd o=3)/\(a=β.pl\/a=β.em))\/(kd o=76/\∃x∈Ms,a=x.1)):Z' a=a_ o:=hF.get h λhm=>by
 intros a z last m Z Z' o Mb cnt β A Ms num bl no W;have MK:∀ {n:Nat} {o':O},Z a=a_ o'->kd o'=n->kd o=n:=λe q=>by rw[h]at e;cases e;exact q
 rcases hW a hm with ⟨h1,xs,h2⟩ |rfl|⟨p,hp,rfl⟩ |⟨⟨o',e,k1,k2,k3,k4,k5⟩,n1,n2,n3⟩
 ·intros xs
  have:=MK h2 rfl;rcases hk with ⟨_,q⟩ |q|q|q|⟨q,_⟩ |⟨q,_⟩
  ·exact q h1
  all_goals(rw[this]at q;cases q)
 ·have:=MK B.hh rfl
  rcases hk with ⟨q,_⟩ |q|q|q|⟨q,_⟩ |⟨q,_⟩ <;> (rw[this]at q;cases q)
 ·intros p
  refine ac (B.kA hp) λo' e k=>?_;have:=MK e k;rcases hk with ⟨q,_⟩ |q|q|q|⟨q,_⟩ |⟨q,_⟩ <;> (rw[this]at q;exact absurd q (by decide))
 ·have:=MK e rfl
  rcases hk with ⟨q,_⟩ |q|q|q|⟨_,q⟩ |⟨_,x,hx,q⟩
  ·exact k1 (this▸q)
  ·exact k2 (this▸q)
  ·exact k3 (this▸q)
  ·exact k4 (this▸q)
  ·exact q.elim n1 n2
  ·exact n3 x hx q
theorem eB.frm (h:eB A Z tg v)(hF:∀rf rd fl,Z rf=a_ (.inst 162 rd fl)->Z' rf=a_ (.inst 162 rd fl)):eB A Z' tg v:=by
 cases tg with
 |none=>exact h
 |some q=>
  refine aY h ?_;clear h;rintro rf rd e h;exact⟨rf,rd,e,hF _ _ _ h⟩
theorem Bd.upd (B:Bd β m A Mb Ms num bl last cnt z no Z)(hF:ai W Z Z')(hW:∀a∈W,ic β m A Ms no Z a){Mb':Nat->b_ d_}{bl':Nat->c_}{last':Int}{cnt':Nat->Int}
 (hh:Z' β.hp=a_ (.inst 225 β.dh (bN β.lim last' z))) (Tl:∀p,p<m->A p∈W->uI A Mb' bl' cnt' no Z' p) (hs:∀p,p<m->A p∉W->cnt' p=cnt p/\bl' p=bl p/\Mb' p=Mb p):Bd β m A Mb' Ms num bl' last' cnt' z no Z' where
 hc:=B.out hF hW B.hc (.inr (.inr (.inl rfl)))
 hpl:=B.out hF hW B.hpl (.inr (.inr (.inr (.inr (.inl ⟨rfl,.inl rfl⟩)))))
 hem:=B.out hF hW B.hem (.inr (.inr (.inr (.inr (.inl ⟨rfl,.inr rfl⟩)))))
 hd:=B.out hF hW B.hd (.inr (.inr (.inr (.inl rfl))))
 hh:=hh
 ar p hp:=by
  by_cases e:A p∈W
  ·exact Tl p hp e
  ·refine fL (B.ar p hp) λd wk its h1 h2 h3 h4 h5=>?_
   refine bP (hs p hp e) λe1 e2 e3=>?_;refine⟨d,wk,its,?_,B.out hF hW h2 (.inl ⟨rfl,h3⟩),h3,?_,h5⟩
   ·rw[e1,e2];exact hF.get h1 e
   ·exact e3▸(B.out hF hW h4 (.inl ⟨rfl,h5⟩))
 sc a tg ha:=by
  refine kM (B.sc a tg ha) λd wk v h1 h2 h3 h4=>?_;exact⟨d,wk,v,B.out hF hW h1 (.inr (.inr (.inr (.inr (.inr ⟨rfl,_,ha,rfl⟩))))),h2.frm λrf rd fl e=>B.out hF hW e (.inr (.inl rfl)),B.out hF hW h3 (.inl ⟨rfl,h4⟩),h4⟩
theorem Bd.more (B:Bd β m A Mb Ms num bl last cnt z no Z)(hF:ai [] Z Z'):Bd β m A Mb Ms num bl last cnt z no Z':=
 B.upd hF (by exact aW) (hF.get B.hh aj) (by simp) (λU U U=>⟨rfl,rfl,rfl⟩)
theorem Bd.addS (B:Bd β m A Mb Ms num bl last cnt z no Z){a:d_}{tg:m_ Nat}{n:Int}(h1:Z a=a_ (bU d n 1 wk v))(h2:eB A Z tg v)(h3:Z wk=a_ (.lst []))(h4:wk∉no)(hn:∀x∈Ms,a≠x.1):
 Bd β m A Mb (Ms++[(a,tg)]) (λb=>if b=a then n else num b) bl last cnt z no Z where
 hc:=B.hc
 hpl:=B.hpl
 hem:=B.hem
 hd:=B.hd
 hh:=B.hh
 ar:=B.ar
 sc b tb hb:=by
  rcases s_.mp hb with hb|hb
  ·refine kM (B.sc b tb hb) λd wk v g1 g2 g3 g4=>?_
   refine⟨d,wk,v,?_,g2,g3,g4⟩;dsimp only;rw[p_ (λq=>hn _ hb q.symm)];exact g1
  ·rw[g_]at hb
   cases hb;refine⟨d,wk,v,?_,h2,h3,h4⟩;dsimp only;rw[z_ rfl];exact h1
theorem BP.addS (P:BP m A Ms num last){a:d_}{tg:m_ Nat}{n:Int}(h1:last<n)(h2:n<=last')(hm:(m:Int)<n)(hA:∀p,p<m->A p≠a)(hn:∀x∈Ms,a≠x.1):BP m A (Ms++[(a,tg)]) (λb=>if b=a then n else num b) last' where
 inj:=P.inj
 numA p hp:=by exact(p_ (hA p hp)).trans (P.numA p hp)
 ord:=by
  have e:(Ms.map λx=>if x.1=a then n else num x.1)=Ms.map λx=>num x.1:=Dp λx hx=>p_ λq=>hn x hx q.symm;rw[r_,Ec,e];refine⟨P.ord,by simp,λx hx y hy=>?_⟩;refine ac (i_.mp hx) ?_;rintro u hu rfl;simp at hy;subst hy;have:=(P.rng u hu).2;walk_at "V"
 rng x hx:=by
  rcases s_.mp hx with hx|hx
  ·rw[p_ λq=>hn x hx q.symm]
   have:=P.rng x hx;walk_at "bw"
  ·rw[g_]at hx
   subst hx;rw[z_ rfl];exact⟨hm,h2⟩
theorem Bd.addA (B:Bd β m A Mb Ms num bl last cnt z no Z){x:d_}{d wk its:d_}(hM:Ms=[])(h1:Z x=a_ (dN d (m+1) 0 .none wk g' g' its))(h2:Z wk=a_ (.lst []))(h3:wk∉no)(h4:Z its=a_ (.lst []))(h5:its∉no)(hc:∀p,cnt p=0)(hb:∀p,bl p=.none)(Qf:∀p,Mb p=[]){num':d_->Int}:
 Bd β (m+1) (λp=>if p=m then x else A p) Mb Ms num' bl last cnt z no Z where
 hc:=B.hc
 hpl:=B.hpl
 hem:=B.hem
 hd:=B.hd
 hh:=B.hh
 ar p hp:=by
  by_cases e:p=m
  ·subst e
   refine⟨d,wk,its,?_,h2,h3,?_,h5⟩
   ·dsimp only;rw[z_ rfl,hc,hb];exact h1
   ·rw[Qf];exact h4
  ·refine jI (B.ar p (by walk_at "a")) λd wk its g=>?_
   refine⟨d,wk,its,?_⟩;dsimp only;rw[p_ e];exact g
 sc a tg ha:=by rw[hM]at ha;exact(aj ha).elim
end
set_option genInjectivity false
set_option genSizeOf false
inductive eW (kin:b_ (b_ Nat))(firm:b_ Int):Nat->Prop
 |base {p:Nat} (h:(p:Int)∈firm):eW kin firm p
 |step {p q:Nat} (hq:q<kin.length) (h:eW kin firm q) (hp:p∈row kin q):eW kin firm p
theorem eW.alive {S:fz}(hS:ik kin firm S){p:Nat}(h:eW kin firm p):p∉S.G:=by
 induction h with
 |base h=>exact zN hS h
 |step hq _ hp ih=>exact uq hS hq ih hp
structure GE where
 nm:Str
 g:d_
 s:d_
 gn:Int
 tg:m_ Nat
theorem C7:Dr GE:=⟨by constructor<;>exact default⟩
noncomputable def jC:c_->m_ d_
 |.ref a=>a_ a
 |_=>h_
noncomputable def cD (Z:ak)(x:d_):Int:=match Z x with
 |some (.inst _ _ fl)=>(match fl.lookup ("number":Str)with |some (.int i _)=>i|_=>0)
 |_=>0
noncomputable def iH (Z:ak)(x:d_):c_:=match Z x with
 |some (.inst _ _ fl)=>(fl.lookup ("blessed":Str)).getD .none
 |_=>.none
noncomputable def Az (Z:ak):m_ c_->b_ d_
 |some (.ref l)=>(match Z l with |some (.lst xs)=>xs.filterMap jC|_=>[])
 |_=>[]
noncomputable def uJ (Z:ak):m_ c_->b_ d_
 |some (.ref r)=>(match Z r with |some (.inst _ _ fl)=>((fl.lookup ("target":Str)).bind jC).toList|_=>[])
 |_=>[]
noncomputable def gL (Z:ak)(x:d_):b_ d_:=match Z x with
 |some (.inst C _ fl)=>if C=142 then((fl.lookup ("scalar":Str)).bind jC).toList else if C=85 then Az Z (fl.lookup ("items":Str))else uJ Z (fl.lookup ("value":Str))
 |_=>[]
structure FS (m:Nat)(A:Nat->d_)(Mb:Nat->b_ d_)(num:d_->Int)(bl:Nat->c_)(kin:b_ (b_ Nat))(firm:b_ Int)(G:b_ Nat)(L:b_ GE)(Z:ak):Prop where
 gl:∀e∈L,∃d wk,Z e.g=a_ (.inst 142 d (ax e.gn 0 .none wk g' g' (dC e.nm (.ref e.s))))
 gs:∀e∈L,∃d wk k v,Z e.s=a_ (bU d (e.gn+1) k wk v)/\eB A Z e.tg v
 tg:∀e∈L,∀q,e.tg=a_ q->q<m/\(q:Int)∈firm
 cov:∀p:Nat,(p:Int)∈firm->∃e∈L,e.tg=a_ p
 ar:∀p,p<m->p∉G->∃d k wk ds its,Z (A p)=a_ (dN d (p+1) k (bl p) wk ds g' its)/\Z its=a_ (.lst ((Mb p).map .ref))
 mb:∀p,p<m->p∉G->∀ (i:Nat) (a:d_),(Mb p)[i]? =a_ a->∃d k wk v q,Z a=a_ (bU d (num a) k wk v)/\(row kin p)[i]? =a_ q/\eB A Z (a_ q) v
 ml:∀p,p<m->(Mb p).length=(row kin p).length/\(Mb p).length<=2
 km:kin.length=m
 kr:∀p,p<m->∀q∈row kin p,q<m
 blv:∀p,p<m->ej (bl p)=e_
 alive:∀p,eW kin firm p->p∉G
 step:∀p q,p<m->p∉G->q∈row kin p->q∉G
 m10:m<=10
 l2:L.length<=2
 n1:∀p,p<m->∀a∈Mb p,(m:Int)<num a/\∀e∈L,num a<e.gn
 n2:∀p q,p<m->q<m->∀a∈Mb p,∀b∈Mb q,num a=num b->a=b
 n3:∀e∈L,(m:Int)<e.gn
 n4:∀e∈L,∀f∈L,e.gn=f.gn->e=f
 n5:∀e∈L,∀f∈L,e.gn≠f.gn+1
section
variable{A:Nat->d_}{num:d_->Int}{bl:Nat->c_}{G:b_ Nat}{L:b_ GE}
noncomputable def FV (m:Nat)(A:Nat->d_)(Mb:Nat->b_ d_)(G:b_ Nat)(L:b_ GE):b_ d_:=(L.flatMap λe=>[e.g,e.s])++((A' m).filter λp=> !G.contains p).flatMap λp=>A p::Mb p
theorem ig {x:d_}:x∈FV m A Mb G L↔(∃e∈L,x=e.g\/x=e.s)\/∃p,p<m/\p∉G/\(x=A p\/x∈Mb p):=by
 intros m Mb A G L x;unfold FV;rw[s_,Dx,Dx];constructor
 ·rintro(⟨e,he,hx⟩ |⟨p,hp,hx⟩)
  ·exact .inl ⟨e,he,by simpa using hx⟩
  ·have:=DA.mp hp
   exact .inr ⟨p,Dq.mp this.1,by simpa using this.2,by simpa using hx⟩
 ·rintro(⟨e,he,hx⟩ |⟨p,hp,hg,hx⟩)
  ·exact .inl ⟨e,he,by simpa using hx⟩
  ·exact .inr ⟨p,DA.mpr ⟨Dq.mpr hp,by simpa using hg⟩,by simpa using hx⟩
theorem FS.nearG (F:FS m A Mb num bl kin firm G L Z){e:GE}(he:e∈L):gL Z e.g=[e.s]/\cD Z e.g=e.gn/\iH Z e.g=.none:=by
 refine cS (F.gl e he) λd wk h=>?_;unfold gL cD iH;rw[h];exact⟨rfl,rfl,rfl⟩
theorem AA (h:eB A Z tg v):uJ Z (a_ v)=tg.toList.map A:=by
 cases tg with
 |none=>exact(show v=.none from h)▸rfl
 |some q=>
  refine aY h ?_;clear h;rintro rf rd rfl e;show(match Z rf with |some (.inst _ _ fl)=>((fl.lookup ("target":Str)).bind jC).toList|_=>[])=_;rw[e];rfl
theorem qH {n k:Int}(h:Z a=a_ (bU d n k wk v))(hv:eB A Z tg v):gL Z a=tg.toList.map A/\cD Z a=n/\iH Z a=.none:=by
 unfold gL cD iH;rw[h];exact⟨AA hv,rfl,rfl⟩
theorem AB (l:b_ d_):(l.map Di).filterMap jC=l:=by
 induction l with
 |nil=>rfl
 |cons a r ih=>rw[n_,List.filterMap_cons_some (show jC (.ref a)=a_ a from rfl),ih]
theorem FS.nearA (F:FS m A Mb num bl kin firm G L Z){p:Nat}(hp:p<m)(hg:p∉G):gL Z (A p)=Mb p/\cD Z (A p)=p+1/\iH Z (A p)=bl p:=by
 refine jM (F.ar p hp hg) λd k wk ds its h hi=>?_;unfold gL cD iH;rw[h];refine⟨?_,rfl,rfl⟩;show(match Z its with |some (.lst xs)=>xs.filterMap jC|_=>[])=_;rw[hi];exact AB _
theorem FS.nearM (F:FS m A Mb num bl kin firm G L Z){p:Nat}(hp:p<m)(hg:p∉G)(ha:a∈Mb p):∃ (i q:Nat),(Mb p)[i]? =a_ a/\(row kin p)[i]? =a_ q/\gL Z a=[A q]/\cD Z a=num a/\iH Z a=.none:=by
 obtain⟨i,hi,e⟩:=FU.mp ha;have Za1:(Mb p)[i]? =a_ a:=by rw[w_ hi,e]
 refine fW (F.mb p hp hg i a Za1) λd k wk v q h1 h2 h3=>?_;refine bP (qH h1 h3) λg1 g2 g3=>?_;exact⟨i,q,Za1,h2,g1,g2,g3⟩
theorem FS.nearS' (F:FS m A Mb num bl kin firm G L Z){e:GE}(he:e∈L):gL Z e.s=e.tg.toList.map A/\cD Z e.s=e.gn+1/\iH Z e.s=.none:=by
 refine dX (F.gs e he) λd wk k v h1 h2=>?_;exact qH h1 h2
theorem FS.inj (F:FS m A Mb num bl kin firm G L Z):∀a∈FV m A Mb G L,∀b∈FV m A Mb G L,cD Z a=cD Z b->a=b:=by
 revert F;revert m Z firm kin Mb A num bl G L;injections m Z firm kin Mb A num bl G L;intro F;intro a ha b hb e;revert ha;intros a b;have key:∀x∈FV m A Mb G L,(∃f∈L,(x=f.g/\cD Z x=f.gn)\/(x=f.s/\cD Z x=f.gn+1))\/(∃p,p<m/\((x=A p/\cD Z x=p+1)\/(x∈Mb p/\cD Z x=num x))):=λx hx=>by
  rcases ig.mp hx with ⟨f,hf,rfl|rfl⟩ |⟨p,hp,hg,rfl|hx⟩
  ·exact .inl ⟨f,hf,.inl ⟨rfl,(F.nearG hf).2.1⟩⟩
  ·exact .inl ⟨f,hf,.inr ⟨rfl,(F.nearS' hf).2.1⟩⟩
  ·exact .inr ⟨p,hp,.inl ⟨rfl,(F.nearA hp hg).2.1⟩⟩
  ·refine io (F.nearM hp hg hx) λi q U U U h U=>?_
   exact .inr ⟨p,hp,.inr ⟨hx,h⟩⟩
 rcases key a ha with ⟨f,hf,⟨ea,na⟩ |⟨ea,na⟩⟩ |⟨p,hp,⟨ea,na⟩ |⟨ea,na⟩⟩ <;>rcases key b hb with ⟨f',Ok,⟨eb,nb⟩ |⟨eb,nb⟩⟩ |⟨q,hq,⟨eb,nb⟩ |⟨eb,nb⟩⟩ <;>rw[na,nb]at e
 ·rw[ea,eb,F.n4 f hf f' Ok e]
 ·exact absurd e (F.n5 f hf f' Ok)
 ·have:=F.n3 f hf;walk_at "o"
 ·have:=(F.n1 q hq b eb).2 f hf;walk_at "M"
 ·exact absurd e.symm (F.n5 f' Ok f hf)
 ·rw[ea,eb,F.n4 f hf f' Ok (by walk_at "o")]
 ·have:=F.n3 f hf;walk_at "bo"
 ·have:=(F.n1 q hq b eb).2 f hf;walk_at "o"
 ·have:=F.n3 f' Ok;walk_at "N"
 ·have:=F.n3 f' Ok;walk_at "bp"
 ·rw[ea,eb,show p=q by walk_at "o"]
 ·have:=(F.n1 q hq b eb).1;walk_at "N"
 ·have:=(F.n1 p hp a ea).2 f' Ok;walk_at "O"
 ·have:=(F.n1 p hp a ea).2 f' Ok;walk_at "o"
 ·have:=(F.n1 p hp a ea).1;walk_at "o"
 ·exact F.n2 p q hp hq a ea b eb e
end
theorem uK {A:Nat->d_}{num:d_->Int}{bl:Nat->c_}{G:b_ Nat}{L:b_ GE}{N:Nat}(F:FS m A Mb num bl kin firm G L Z)
 (hr:Z rn=a_ (.inst 714 rd fl)) (LK:fl.lookup ("stash":Str)=a_ (.ref st)) (hs:Z st=a_ (.inst 799 sd (gr hp gl))) (hg:Z gl=a_ (.dic (L.map λe=>(.str e.nm 0,.ref e.g)) N)) (hes:∀e∈L,(L.map λe=>((.str e.nm 0:c_),(.ref e.g:c_))).lookup (.str e.nm 0)=a_ (.ref e.g))
 (h:∀Z' l (X:b_ d_),isNew Z l->ai [] Z Z'->Z' l=a_ (.lst (X.map .ref))->X.Nodup->(∀x,x∈X↔∃p,p<m/\eW kin firm p/\bl p≠ .none/\x=A p)->Q (.ref l) Z'):
 aI KC (aJ KC 3) 1 648 [.ref rn] Z Q:=by
 intros hp rd gl rn st sd m Z fl firm Q kin Mb A num bl G L N;have rsz:((A' m).filter λp=> !G.contains p).length<=m:=o_ (DE _ _) (by rw[Ej];exact DW _);have rm:∀p,eW kin firm p->p<m:=λp hp=>by
  cases hp with
  |base h=>
   refine ac (F.cov p h) λe he ht=>?_;exact(F.tg e he p ht).1
  |step hq _ hp=>exact F.kr _ (by rw[<-F.km];exact hq) _ hp
 refine zZ (V:=FV m A Mb G L) (start:=L.map (·.g)) (near:=gL Z) (nm:=cD Z) (blv:=iH Z) hr LK hs hg (by exact Ef.trans (l_.mpr λU U=>rfl)) (by rw[b'];have:=F.l2;walk_at "o") ?_ (λp hp=>?_) (λx hx=>?_) ?_ (λx hx=>?_) F.inj (λx hx y hy=>?_) (λx hx=>?_) (λx hx Z' hF Q hQ=>?_) (λZ' l to hl hF KA I=>?_)
 ·rw[C_,C_,C_]
  refine Dp λe he=>?_;show((L.map λe=>((.str e.nm 0:c_),(.ref e.g:c_))).lookup (.str e.nm 0)).getD .none=.ref e.g;rw[hes e he];rfl
 ·refine ac (i_.mp hp) ?_;rintro e he rfl;rfl
 ·refine ac (i_.mp hx) ?_;rintro e he rfl
  exact ig.mpr (.inl ⟨e,he,.inl rfl⟩)
 ·unfold FV
  have h1:∀L:b_ GE,(L.flatMap λe=>[e.g,e.s]).length=2*L.length:=λL=>by
   induction L with
   |nil=>rfl
   |cons e r ih=>rw[DD,q_,ih,Df];simp;walk_at "a"
  have h2:∀l:b_ Nat,(∀p∈l,p<m)->(l.flatMap λp=>A p::Mb p).length<=3*l.length:=λl=>by
   induction l with
   |nil=>intro _;simp
   |cons p r ih=>
    intro hh;have:=ih λq hq=>hh q (.tail _ hq);have:=(F.ml p (hh p (.head _))).2;rw[DD,q_,Df,Df];walk_at "o"
  have h3:=h2 ((A' m).filter λp=> !G.contains p) λp hp=>Dq.mp (DA.mp hp).1;have:=F.m10;have:=F.l2;rw[q_,h1];walk_at "o"
 ·intros x
  rcases ig.mp hx with ⟨e,he,rfl|rfl⟩ |⟨p,hp,hg,rfl|hx⟩
  ·refine cS (F.gl e he) λd wk ex=>?_
   rw[(F.nearG he).2.1,(F.nearG he).2.2];exact⟨142,d,_,wk,_,_,_,rfl,rfl,rfl,ex⟩
  ·refine dX (F.gs e he) λd wk k v ex U=>?_
   rw[(F.nearS' he).2.1,(F.nearS' he).2.2];exact⟨66,d,_,wk,_,_,_,rfl,rfl,rfl,ex⟩
  ·revert hx;revert hg;revert hp;revert p;injections p;intro hp hg hx
   refine jM (F.ar p hp hg) λd k wk ds its ex U=>?_;rw[(F.nearA hp hg).2.1,(F.nearA hp hg).2.2];exact⟨85,d,_,wk,_,_,_,rfl,rfl,F.blv p hp,ex⟩
  ·refine io (F.nearM hp hg hx) λi q hi hq g1 g2 g3=>?_
   refine fW (F.mb p hp hg i x hi) λd k wk v q ex U U=>?_;rw[g2,g3];exact⟨66,d,_,wk,_,_,_,rfl,rfl,rfl,ex⟩
 ·revert hx;intros x y
  rcases ig.mp hx with ⟨e,he,rfl|rfl⟩ |⟨p,hp,hg,rfl|hx⟩
  ·rw[(F.nearG he).1,g_]at hy
   exact ig.mpr (.inl ⟨e,he,.inr hy⟩)
  ·rw[(F.nearS' he).1]at hy
   refine ac (i_.mp hy) ?_;rintro q hq rfl;have ht:e.tg=a_ q:=by cases ht:e.tg with |none=>rw[ht]at hq;simp at hq|some t=>rw[ht]at hq;simp at hq;exact hq▸rfl
   refine xA (F.tg e he q ht) λh1 h2=>?_;exact ig.mpr (.inr ⟨q,h1,F.alive q (.base h2),.inl rfl⟩)
  ·rw[(F.nearA hp hg).1]at hy
   exact ig.mpr (.inr ⟨p,hp,hg,.inr hy⟩)
  ·refine io (F.nearM hp hg hx) λi q hi hq g1 g2 g3=>?_
   rw[g1,g_]at hy;have SK:=B_ hq;exact ig.mpr (.inr ⟨q,F.kr p hp q SK,F.step p q hp hg SK,.inl hy⟩)
 ·rcases ig.mp hx with ⟨e,he,rfl|rfl⟩ |⟨p,hp,hg,rfl|hx⟩
  ·rw[(F.nearG he).1];simp
  ·rw[(F.nearS' he).1];cases e.tg<;>simp
  ·rw[(F.nearA hp hg).1];exact(F.ml p hp).2
  ·refine io (F.nearM hp hg hx) λi q hi hq g1 g2 g3=>?_
   rw[g1];simp
 ·revert hx hF;intros x Z' Q
  rcases ig.mp hx with ⟨e,he,rfl|rfl⟩ |⟨p,hp,hg,rfl|hx⟩
  ·refine cS (F.gl e he) λd wk ex=>?_
   rw[(F.nearG he).1]at hQ;exact zA (hF.get ex aj) rfl λJO l hl La KA=>hQ JO l hl La KA
  ·intros e
   refine dX (F.gs e he) λd wk k v ex hv=>?_;rw[(F.nearS' he).1]at hQ;cases ht:e.tg with
   |none=>
    rw[ht]at hv hQ;rw[show v=.none from hv]at ex;exact zB (hF.get ex aj) λJO l hl La KA=>hQ JO l hl La KA
   |some q=>
    rw[ht]at hv hQ;refine aY hv ?_;clear hv;rintro rf rd rfl KV;exact t7 (hF.get ex aj) (hF.get KV aj) λJO l hl La KA=>hQ JO l hl La KA
  ·refine jM (F.ar p hp hg) λd k wk ds its ex hi=>?_
   rw[(F.nearA hp hg).1]at hQ;refine zy (hF.get ex aj) (hF.get hi aj) (by rw[b'];have:=(F.ml p hp).2;walk_at "o") (λv hv=>?_) λJO l hl La KA=>hQ JO l hl La KA;refine ac (i_.mp hv) ?_;rintro a _ rfl;rfl
  ·refine io (F.nearM hp hg hx) λi q hi hq g1 g2 g3=>?_
   refine fW (F.mb p hp hg i x hi) λd k wk v q' ex O0 hv=>?_;rw[hq]at O0;cases O0;rw[g1]at hQ;refine aY hv ?_;clear hv;rintro rf rd rfl KV;exact t7 (hF.get ex aj) (hF.get KV aj) λJO l hl La KA=>hQ JO l hl La KA
 ·intros Z' l to
  refine h Z' l _ hl hF KA (I.nd.filter _) λx=>?_;intros x;rw[DA];constructor
  ·rintro⟨hx,hb⟩
   have hS:=I.least (λx=>(∃e∈L,x=e.g\/x=e.s)\/∃p,p<m/\eW kin firm p/\(x=A p\/x∈Mb p)) (λx hx=>?_) (λx hx y hy=>?_) x (.inl hx)
   ·rcases hS with ⟨e,he,rfl|rfl⟩ |⟨p,hp,hR,rfl|hx⟩
    ·rw[(F.nearG he).2.2]at hb;exact(ft hb).elim
    ·rw[(F.nearS' he).2.2]at hb;exact(ft hb).elim
    ·rw[(F.nearA hp (F.alive p hR)).2.2]at hb
     exact⟨p,hp,hR,λq=>(by rw[q]at hb;exact(ft hb).elim),rfl⟩
    ·refine io (F.nearM hp (F.alive p hR) hx) λi q hi hq g1 g2 g3=>?_
     rw[g3]at hb;exact(ft hb).elim
   ·refine ac (i_.mp hx) ?_;rintro e he rfl
    exact .inl ⟨e,he,.inl rfl⟩
   ·revert hx;revert hy;revert x y;injections x y;intro hy hx
    rcases hx with ⟨e,he,rfl|rfl⟩ |⟨p,hp,hR,rfl|hx⟩
    ·rw[(F.nearG he).1,g_]at hy
     exact .inl ⟨e,he,.inr hy⟩
    ·rw[(F.nearS' he).1]at hy
     refine ac (i_.mp hy) ?_;rintro q hq rfl;have ht:e.tg=a_ q:=by cases ht:e.tg with |none=>rw[ht]at hq;simp at hq|some t=>rw[ht]at hq;simp at hq;exact hq▸rfl
     refine xA (F.tg e he q ht) λh1 h2=>?_;exact .inr ⟨q,h1,.base h2,.inl rfl⟩
    ·rw[(F.nearA hp (F.alive p hR)).1]at hy
     exact .inr ⟨p,hp,hR,.inr hy⟩
    ·refine io (F.nearM hp (F.alive p hR) hx) λi q hi hq g1 g2 g3=>?_
     rw[g1,g_]at hy;have SK:=B_ hq;exact .inr ⟨q,F.kr p hp q SK,.step (by rw[F.km];exact hp) hR SK,.inl hy⟩
  ·rintro⟨p,hp,hR,hb,rfl⟩
   refine⟨?_,?_⟩
   ·have done:∀ {x y},x∈to->y∈gL Z x->y∈to:=λhx hy=>(I.step _ hx _ hy).elim id λq=>by exact(aj q).elim
    clear hb;induction hR with
    |base h1=>
     refine ac (F.cov _ h1) λe he ht=>?_;have hg:e.g∈to:=(I.cov e.g (Do he)).elim id λq=>by exact(aj q).elim
     have hs:=done hg (show e.s∈gL Z e.g by rw[(F.nearG he).1];exact .head _);exact done hs (by rw[(F.nearS' he).1,ht];exact .head _)
    | @step p q hq Zab hpr ih=>
     have K6:q<m:=by rw[<-F.km];exact hq
     have hA:=ih K6;obtain⟨i,hi,e⟩:=FU.mp hpr;have Vy:i<(Mb q).length:=by rw[(F.ml q K6).1];exact hi
     have hM:(Mb q)[i]∈to:=done hA (by rw[(F.nearA K6 (F.alive q Zab)).1];exact G_ _);refine fW (F.mb q K6 (F.alive q Zab) i _ (w_ Vy)) λd k wk v q' ex O0 hv=>?_;rw[w_ hi,e]at O0;cases O0;exact done hM (by rw[(qH ex hv).1];exact .head _)
   ·rw[(F.nearA hp (F.alive p hR)).2.2,r'.mpr hb];rfl
structure KB (m:Nat)(Mb:Nat->b_ d_)(Ms:b_ (Addr×Option Nat))(kin:b_ (b_ Nat))(Mt:Nat->b_ (Addr×Option Nat)):Prop where
 km:kin.length=m
 m10:m<=10
 kr:∀r∈kin,r.length<=2/\∀y∈r,y<kin.length
 ms:Ms=(A' m).flatMap Mt
 mb:∀p,p<m->Mb p=(Mt p).map (λp=>p.1)
 tg:∀p,p<m->(Mt p).map (λp=>p.2)=(row kin p).map a_
theorem qI:∀ {l:b_ (Addr×Option Nat)} {r:b_ Nat},l.map (λp=>p.2)=r.map a_->bF l=r
 | [],[],_=>rfl
 | [],_::_,h=>by exact(nc h).elim
 |_::_,[],h=>by exact(cn h).elim
 |(a,t)::l,q::r,h=>by
  rw[n_,n_,List.cons.injEq]at h;refine xA h λh1 h2=>?_;clear h;dsimp only at h1;subst h1;rw[jz,qI h2]
theorem qJ {p y:Nat}(h:y∈row kin p):∃r∈kin,y∈r:=by
 unfold row at h;cases e:kin[p]? with
 |none=>rw[e]at h;exact(aj h).elim
 |some r=>rw[e]at h;exact⟨r,B_ e,h⟩
theorem uL {p:Nat}(h:∀r∈kin,r.length<=2):(row kin p).length<=2:=by
 unfold row;cases e:kin[p]? with
 |none=>simp
 |some r=>exact h r (B_ e)
section
variable{A:Nat->d_}{Ms:b_ (Addr×Option Nat)}{num:d_->Int}
theorem KB.len (K:KB m Mb Ms kin Mt){p:Nat}(hp:p<m):(Mt p).length=(row kin p).length:=by
 have:=congrArg GB (K.tg p hp);simpa using this
theorem KB.mem (K:KB m Mb Ms kin Mt){p:Nat}(hp:p<m){x:Addr×Option Nat}(hx:x∈Mt p):x∈Ms:=by
 rw[K.ms];exact Dx.mpr ⟨p,Dq.mpr hp,hx⟩
theorem KB.from (K:KB m Mb Ms kin Mt){x:Addr×Option Nat}(hx:x∈Ms):∃p,p<m/\x∈Mt p:=by
 rw[K.ms]at hx;refine ac (Dx.mp hx) λp hp h=>?_;exact⟨p,Dq.mp hp,h⟩
theorem KB.tgr (K:KB m Mb Ms kin Mt){p:Nat}(hp:p<m){x:Addr×Option Nat}(hx:x∈Mt p):∃q,x.2=a_ q/\q∈row kin p:=by
 have:x.2∈(Mt p).map (λp=>p.2):=Do hx;rw[K.tg p hp]at this;refine ac (i_.mp this) λq hq e=>?_;exact⟨q,e.symm,hq⟩
theorem uM {f:Nat->b_ Int}:∀ {l:b_ Nat},(l.flatMap f).Pairwise (λa b=>a<b)->l.Pairwise (λa b=>a<b)->∀p∈l,∀q∈l,p<q->∀a∈f p,∀b∈f q,a<b
 | [],_,_,p,hp=>by exact(aj hp).elim
 |r::l,h,hl,p,hp=>by
  intro q hq TP a ha b hb;rw[DD,Ec]at h;rw[Du]at hl;rcases f_.mp hp with rfl|Q3
  ·rcases f_.mp hq with rfl|WX
   ·walk_at "ci"
   ·exact h.2.2 a ha b (Dx.mpr ⟨q,WX,hb⟩)
  ·rcases f_.mp hq with rfl|WX
   ·have:=hl.1 p Q3;walk_at "cj"
   ·exact uM h.2.1 hl.2 p Q3 q WX TP a ha b hb
theorem KB.cross (K:KB m Mb Ms kin Mt)(P:BP m A Ms num last){p:Nat}(TP:p<q)(hq:q<m):∀a∈Mb p,∀b∈Mb q,num a<num b:=by
 intro a ha b hb;have h:=P.ord;rw[K.ms,JG]at h;rw[K.mb p (by walk_at "a")]at ha;rw[K.mb q hq]at hb;refine ac (i_.mp ha) ?_;rintro x hx rfl;refine ac (i_.mp hb) ?_;rintro y hy rfl;exact uM h Ip p (Dq.mpr (by walk_at "a")) q (Dq.mpr hq) TP _ (Do hx) _ (Do hy)
theorem KB.nin (K:KB m Mb Ms kin Mt)(P:BP m A Ms num last){p:Nat}(hp:p<m):((Mb p).map num).Pairwise (λa b=>a<b):=by
 have h:=P.ord;rw[K.ms,JG]at h;rw[K.mb p hp,C_];rw[List.pairwise_flatMap]at h;exact h.1 p (Dq.mpr hp)
theorem KB.disj (K:KB m Mb Ms kin Mt)(P:BP m A Ms num last){p:Nat}(hp:p<m)(hq:q<m)(h:p≠q):∀a∈Mb p,a∉Mb q:=λa ha hb=>by
 by_cases e:p<q
 ·exact absurd (K.cross P e hq a ha a hb) (Gk _)
 ·exact absurd (K.cross P (show q<p by walk_at "ck") hp a hb a ha) (Gk _)
theorem AC (P:BP m A Ms num last):∀x∈Ms,∀y∈Ms,num x.1=num y.1->x=y:=by
 have h:=P.ord;clear P;induction Ms with
 |nil=>intro x hx;exact(aj hx).elim
 |cons u r ih=>
  revert h;revert ih;revert num u r;injections num u r;intro ih h;rw[n_,Du]at h;intro x hx y hy e;rcases f_.mp hx with rfl|KX<;>rcases f_.mp hy with rfl|RZ
  ·rfl
  ·have:=h.1 _ (Do (f:=λx=>num x.1) RZ);walk_at "O"
  ·have:=h.1 _ (Do (f:=λx=>num x.1) KX);walk_at "M"
  ·exact ih h.2 x KX y RZ e
theorem AD (P:BP m A Ms num last):(Ms.map (λp=>p.1)).Nodup:=by
 have h:=P.ord;rw[DL]at h;exact DL.mpr (h.imp λ{a b} (q:num a.1<num b.1) (e:a.1=b.1)=>by rw[e]at q;exact absurd q (Gk _))
variable{β:Bs}{bl:Nat->c_}
theorem AE (K:KB m Mb Ms kin Mt){put:d_}{ft:m_ Nat}{Ms':b_ (Addr×Option Nat)}(Me:Ms'=Ms++[(put,ft)])(P0:BP m A Ms num last)(P:BP m A Ms' num last)(hb:∀p,p<m->ej (bl p)=e_)(h850:850<=β.dsA)(LK:∀q,ft=a_ q->q<m):fV (β.wd m A Mb Ms' num bl last)where
 m10:=K.m10
 inj:=P.inj
 ndS:=AD P
 mb p hp a ha:=by
  have O3:a∈(Mt p).map (λp=>p.1):=by rw[<-K.mb p hp];exact ha
  refine ac (i_.mp O3) ?_;rintro x hx rfl;exact⟨x.2,by show x∈Ms';rw[Me];exact y' _ (K.mem hp hx)⟩
 disj p q hp hq h:=K.disj P0 hp hq h
 ndM p hp:=by
  have:=K.nin P0 hp;rw[DL]at this;exact this.imp λ{a b} (q:num a<num b) (e:a=b)=>by rw[e]at q;exact absurd q (Gk _)
 mlen p hp:=by
  show(Mb p).length<=2;rw[K.mb p hp,b',K.len hp];exact uL λr hr=>(K.kr r hr).1
 tg a q ha:=by
  revert K Me P0 P hb h850 LK;intros last m kin Mb Mt A Ms num β bl put ft Ms' a q;have O3:(a,a_ q)∈Ms++[(put,ft)]:=by rw[<-Me];exact ha
  rcases s_.mp O3 with h|h
  ·refine ac (K.from h) λp hp hx=>?_
   refine ac (K.tgr hp hx) λq' e hq=>?_;cases e;refine ac (qJ hq) λr hr hy=>?_;show q<m;have:=(K.kr r hr).2 q hy;rw[K.km]at this;exact this
  ·rw[g_]at h
   cases h;exact LK q rfl
 blv:=hb
 h850:=h850
 numA:=P.numA
 numS x hx:=(P.rng x hx).1
theorem AF (K:KB m Mb Ms kin Mt){put:d_}{ft:m_ Nat}{Ms':b_ (Addr×Option Nat)}(Me:Ms'=Ms++[(put,ft)])(P0:BP m A Ms num last)(Mg:∀x∈Ms,put≠x.1):kJ (β.wd m A Mb Ms' num bl last) kin Mt put ft where
 km:=K.km
 kr r hr:=(K.kr r hr).2
 mb p hp:=K.mb p hp
 tg p hp:=qI (K.tg p hp)
 lt p hp:=K.len hp
 ms p hp x hx:=by show x∈Ms';rw[Me];exact y' _ (K.mem hp hx)
 hput:=by show(put,ft)∈Ms';rw[Me];simp
 pn p hp h:=by
  have h':put∈(Mt p).map (λp=>p.1):=by rw[<-K.mb p hp];exact h
  refine ac (i_.mp h') λx hx e=>?_;exact Mg x (K.mem hp hx) e.symm
 nin p hp:=K.nin P0 hp
 ncr p q TP hq:=K.cross P0 TP hq
end
theorem Bd.real {β:Bs}{A:Nat->d_}{Ms:b_ (Addr×Option Nat)}{num num':d_->Int}{bl:Nat->c_}{no:b_ d_}(B:Bd β m A Mb Ms num bl last cnt z no Z){put pw:d_}{pn:Int}{pv:c_}{ft:m_ Nat}
 (hput:Z put=a_ (bU dp pn 0 pw pv)) (Rm:eB A Z ft pv) (QX:Z pw=a_ (.lst [])) (P6:pw∉no) (Mg:∀x∈Ms,put≠x.1) (hz:Z z=a_ (.lst (zs.map .ref))) (hs:Z β.sent=a_ (.lst (ss.map .ref))) (SL:z∈no) (KT:β.sent∈no) (nsz:β.sent≠z)
 (hn:num'=λb=>if b=put then pn else num b):
 cL (β.wd m A Mb (Ms++[(put,ft)]) num' bl last) Z {cnt:=cnt,fr:=λU=>g',ds:=λU=>g',mst:=λa=>if a=put then 1 else 0} z zs ss where
 hc:=B.hc
 hpl:=B.hpl
 hem:=B.hem
 hd:=B.hd
 hh:=B.hh
 hz:=hz
 hs:=hs
 nsz:=nsz
 ar p hp:=by
  refine fL (B.ar p hp) λd wk its h1 h2 h3 h4 h5=>?_;exact⟨d,wk,its,h1,h2,λq=>h3 (q▸SL),λq=>h3 (q▸KT),λU=>⟨h4,λq=>h5 (q▸SL),λq=>h5 (q▸KT)⟩⟩
 sc a tg ha:=by
  revert B hput Rm QX P6 Mg hz hs SL KT nsz hn;intros z dp last m Z zs ss Mb cnt β A Ms num num' bl no put pw pn pv ft a tg;have O3:(a,tg)∈Ms++[(put,ft)]:=ha;dsimp only;rcases s_.mp O3 with h|h
  ·have na:a≠put:=λq=>Mg _ h q.symm
   rw[p_ na];refine kM (B.sc a tg h) λd wk v h1 h2 h3 h4=>?_;refine⟨d,wk,h3,λq=>h4 (q▸SL),λq=>h4 (q▸KT),v,?_,?_⟩
   ·show Z a=a_ (bU d (num' a) 1 wk v)
    rw[hn];dsimp only;rw[p_ na];exact h1
   ·cases tg with
    |none=>exact h2
    |some q=>exact h2
  ·rw[g_]at h
   cases h;rw[z_ rfl];refine⟨dp,pw,QX,λq=>P6 (q▸SL),λq=>P6 (q▸KT),pv,?_,?_⟩
   ·show Z put=a_ (bU dp (num' put) 0 pw pv)
    rw[hn];dsimp only;rw[z_ rfl];exact hput
   ·cases ft with
    |none=>exact Rm
    |some q=>exact Rm
structure LP (m:Nat)(Mb:Nat->b_ d_)(num:d_->Int)(firm:b_ Int)(L:b_ GE):Prop where
 tg:∀e∈L,∀q,e.tg=a_ q->q<m/\(q:Int)∈firm
 cov:∀p:Nat,(p:Int)∈firm->∃e∈L,e.tg=a_ p
 l2:L.length<=2
 n1:∀p,p<m->∀a∈Mb p,∀e∈L,num a<e.gn
 n3:∀e∈L,(m:Int)<e.gn
 n4:∀e∈L,∀f∈L,e.gn=f.gn->e=f
 n5:∀e∈L,∀f∈L,e.gn≠f.gn+1
theorem AG {β:Bs}{A:Nat->d_}{Ms:b_ (Addr×Option Nat)}{num:d_->Int}{bl:Nat->c_}{last:Int}{no:b_ d_}{kin:b_ (b_ Nat)}{firm:b_ Int}{fresh:Int}{L:b_ GE}{e0:GE}{put pw:d_}{pn:Int}{pv:c_}{N:Nat}
 (B:Bd β m A Mb Ms num bl last cnt z no Z) (P0:BP m A Ms num last) (K:KB m Mb Ms kin Mt) (LL:LP m Mb num firm L) (hbl:∀p,p<m->ej (bl p)=e_) (h850:850<=β.dsA) (hfr: -1<=fresh/\fresh<m)
 (hr:Z rn=a_ (.inst 714 rd fl)) (WR:fl.lookup ("counter":Str)=a_ (.ref β.c)) (Oh:fl.lookup ("saves":Str)=a_ (.ref saves)) (LK:fl.lookup ("stash":Str)=a_ (.ref st)) (Kn:Z saves=a_ (.lst [.ref sv])) (Mx:Z sv=a_ (.tup [.str "scalar" 0,.ref e0.g,.ref e0.s])) (LA:e0∈L)
 (K8:Z st=a_ (.inst 799 sd (gr β.hp gl))) (hgl:Z gl=a_ (.dic (L.map λe=>(.str e.nm 0,.ref e.g)) N)) (hes:∀e∈L,(L.map λe=>((.str e.nm 0:c_),(.ref e.g:c_))).lookup (.str e.nm 0)=a_ (.ref e.g))
 (hput:Z put=a_ (bU dp pn 1 pw pv)) (Rm:eB A Z (if 0<=fresh then a_ fresh.toNat else h_) pv) (QX:Z pw=a_ (.lst [])) (P6:pw∉no) (Mg:∀x∈Ms,put≠x.1) (Y8:(∀x∈Ms,num x.1<pn)/\(m:Int)<pn/\pn<=last)
 (hz:Z z=a_ (.lst (((bK kin firm fresh).E.map A).map .ref))) (KT:Z β.sent=a_ (.lst [])) (NS:z∈no) (sno:β.sent∈no) (vno:saves∈no) (nsz:β.sent≠z) (nvz:saves≠z) (nvs:saves≠β.sent)
 (hg:∀e∈L,∃d wk,Z e.g=a_ (.inst 142 d (ax e.gn 0 .none wk g' g' (dC e.nm (.ref (if e.gn=e0.gn then put else e.s)))))) (hgs:∀e∈L,(∃d wk k v,Z e.s=a_ (bU d (e.gn+1) k wk v)/\eB A Z e.tg v)/\(∀x∈Ms,e.s≠x.1)/\e.s≠put)
 (Lf:∀p,p<m->cnt p=((base kin firm [] p+(bF [(put,if 0<=fresh then a_ fresh.toNat else h_)]).count p:Nat):Int))
 (h:∀Z' (Y:b_ Nat),(∀a o,Z a=a_ o->kd o≠95->kd o≠76->kd o≠235->kd o≠152->a≠z->a≠β.sent->a≠saves->Z' a=a_ o)->Z' saves=a_ (.lst [])->FS m A Mb num bl kin firm (aD kin firm fresh (2*m+4)).G L Z'->
  Y.Pairwise (λa b=>a<b)->(∀p,p∈Y↔p<m/\eW kin firm p/\bl p≠ .none)->Z' β.sent=a_ (.lst ((((aD kin firm fresh (2*m+4)).G.filter λq=> !(bl q== .none)).map A++Y.map A).map .ref))->
  (∀p,p<m->∃d wk ds its,Z' (A p)=a_ (dN d (p+1) (base kin firm (aD kin firm fresh (2*m+4)).G p:Nat) (bl p) wk ds (decide (p∈(aD kin firm fresh (2*m+4)).G)) its))->Q .none Z'):
 aI KC (aJ KC 6) 1 676 [.ref rn] Z Q:=by
 intros z rd gl rn st sd dp sv saves m Z fl Q Mb Mt cnt β A Ms num bl last no kin firm fresh L e0 put pw pn pv N;have Uo:∀q,(if 0<=fresh then a_ fresh.toNat else h_)=a_ q->q<m:=λq e=>by
  split at e
  ·cases e;walk_at "P"
  ·exact(ns e).elim
 generalize Yt:(if 0<=fresh then a_ fresh.toNat else h_)=ft at Rm Lf Uo;refine⟨rfl,?_⟩;show au _ _ _ ⟨[("run",.ref rn)],[]⟩ _ _;have hEl:(((bK kin firm fresh).E.map A).map Di).length<=1000:=by
  have h1:=DE (λp=>decide (base kin firm [] p=0/\(p:Int)≠fresh)) (A' kin.length);rw[Ej]at h1;have h2:=K.m10;have h3:=K.km;rw[b',b'];show((A' kin.length).filter _).length<=1000;walk_at "o"
 refine cS (hg e0 LA) λdg gw MT=>?_;intros dg gw;rw[z_ rfl]at MT;have ngp:e0.g≠put:=ag MT hput;have Od:e0.g≠z:=ag MT hz;refine bE (aA rfl (af (aa rfl (af (aK (am (aF rfl (zE hr WR Oh Kn Mx B.hc B.hh hz hEl MT hput ngp Od nvz λZ1 JQ KW UQ Lm K9=>⟨rfl,?_⟩))))))));intros Z1;have hW1:∀a∈[put,z,e0.g,saves],ic β m A Ms no Z a:=λa ha=>by
  simp only [f_,aj,Ez]at ha;rcases ha with rfl|rfl|rfl|rfl
  ·exact .inr (.inr (.inr ⟨⟨_,hput,ae,ae,ae,ae,ae⟩,ag hput B.hpl,ag hput B.hem,Mg⟩))
  ·exact .inl ⟨NS,_,hz⟩
  ·exact .inr (.inr (.inr ⟨⟨_,MT,ae,ae,ae,ae,ae⟩,ag MT B.hpl,ag MT B.hem,λx hx=>iG MT (B.kS (a:=x.1) (tg:=x.2) hx) rfl⟩))
  ·exact .inl ⟨vno,_,Kn⟩
 have nA1:∀p,p<m->A p∉[put,z,e0.g,saves]:=λp hp=>by
  refine ac (B.kA hp) λo eo ko=>?_;exact ji (ag eo hput (by rw[ko];rfl)) (ag eo hz (by rw[ko];rfl)) (ag eo MT (by rw[ko];rfl)) (ag eo Kn (by rw[ko];rfl))
 have B1:=B.upd JQ hW1 (JQ.get B.hh (by exact ji (ag B.hh hput) (ag B.hh hz) (ag B.hh MT) (ag B.hh Kn))) (λp hp hm=>absurd hm (nA1 p hp)) (λU U U=>⟨rfl,rfl,rfl⟩);have KY:∀ {a o},Z a=a_ o->kd o≠76->kd o≠152->a≠z->a≠saves->Z1 a=a_ o:=λ{a o} e k1 k2 n1 n2=>JQ.get e (by exact ji (cA e hput (λq=>k1 (q▸rfl))) n1 (cA e MT (λq=>k2 (q▸rfl))) n2);have XC:eB A Z1 ft pv:=Rm.frm λrf rd fl e=>KY e ae ae (ag e hz) (ag e Kn);have Ym:Z1 pw=a_ (.lst []):=KY QX ae ae (λq=>P6 (q▸NS)) (λq=>P6 (q▸vno));have LQ:Z1 β.sent=a_ (.lst (([]:b_ d_).map .ref)):=KY KT ae ae nsz nvs.symm;have LJ:Z1 z=a_ (.lst (((bK kin firm fresh).E.map A++[put]).map .ref)):=by rw[Lm,r_];rfl
 have P1:BP m A (Ms++[(put,ft)]) (λb=>if b=put then pn else num b) last:=by
  refine⟨P0.inj,λp hp=>?_,?_,λx hx=>?_⟩
  ·rw[p_ (λq=>by refine ac (B.kA hp) λo eo ko=>?_;exact ag eo hput (by exact ko▸rfl) q)];exact P0.numA p hp
  ·have e:(Ms.map λx=>if x.1=put then pn else num x.1)=Ms.map λx=>num x.1:=Dp λx hx=>p_ λq=>Mg x hx q.symm
   rw[r_,Ec,e];refine⟨P0.ord,by simp,λx hx y hy=>?_⟩;refine ac (i_.mp hx) ?_;rintro u hu rfl;simp at hy;subst hy;exact Y8.1 u hu
  ·rcases s_.mp hx with hx|hx
   ·rw[p_ λq=>Mg x hx q.symm];exact P0.rng x hx
   ·rw[g_]at hx
    subst hx;rw[z_ rfl];exact Y8.2
 have R1:=B1.real (ft:=ft) UQ XC Ym P6 Mg LJ LQ NS sno nsz rfl;have nb:∀ {b:d_},b≠put->(λb=>if b=put then pn else num b) b=num b:=λh=>p_ h;have P0':BP m A Ms (λb=>if b=put then pn else num b) last:=by
  have e:(Ms.map λx=>if x.1=put then pn else num x.1)=Ms.map λx=>num x.1:=Dp λx hx=>p_ λq=>Mg x hx q.symm;refine⟨P0.inj,P1.numA,by rw[e];exact P0.ord,λx hx=>P1.rng x (y' _ hx)⟩
 have ok:=AE (β:=β) K rfl P0' P1 hbl h850 Uo;have KK:=AF (β:=β) (ft:=ft) (bl:=bl) (num:=λb=>if b=put then pn else num b) (last:=last) K rfl P0' Mg;have Wz:∀p,p<m->put∉Mb p:=KK.pn;have I0:kK (β.wd m A Mb (Ms++[(put,ft)]) (λb=>if b=put then pn else num b) bl last) kin firm fresh put ft {cnt:=cnt,fr:=λU=>g',ds:=λU=>g',mst:=λa=>if a=put then 1 else 0} ((bK kin firm fresh).E.map A++[put]) []:=
  ⟨Lf,λU=>rfl,λU=>rfl,λp hp a ha=>p_ λ(q:a=put)=>Wz p hp (q▸ha),z_ rfl,rfl,rfl⟩
 have Lg:=KY hr ae ae (ag hr hz) (ag hr Kn);refine bE (aX (av (aa rfl (az Lg WR (bZ R1.hc rfl rfl (af (aK (am (aF rfl (Ag ok KK Yt.symm (by rw[K.km];exact hfr.2) R1 I0 λZ2 s2 z2 TD JS R2 Fn=>⟨rfl,?_⟩))))))))));intros Z2 s2 z2 TD;generalize NX:(aD kin firm fresh (2*m+4)).G=G at h;have Fn:Fin (β.wd m A Mb (Ms++[(put,ft)]) (λb=>if b=put then pn else num b) bl last) kin firm G s2 TD:=NX▸Fn;have SG:=lM (kin:=kin) (firm:=firm) (fresh:=fresh) (λr hr=>(K.kr r hr).2) (by rw[K.km];exact hfr.2) (2*m+4);have alive:∀p,eW kin firm p->p∉G:=λp hp=>NX▸hp.alive SG;have UG:∀p q,p<m->p∉G->q∈row kin p->q∉G:=λp q hp hg hq=>NX▸uq SG (by rw[K.km];exact hp) (NX.symm▸hg) hq;have W0:G.Nodup:=NX▸(Dk.mp SG.nd).1;have OO:∀p∈G,p<m:=λp hp=>by rw[<-K.km];exact SG.rg p (y' _ (NX.symm▸hp))
 have LC:∀ {a o},Z1 a=a_ o->kd o≠235->kd o≠95->a≠β.sent->a≠z->(kd o=76->(∀x∈Ms,a≠x.1)/\a≠put)->Z2 a=a_ o:=λ{a o} e k1 k2 n1 n2 n3=>JS a o (cA e R1.hh λq=>k1 (q▸rfl)) n1 n2 (λp hp=>by
  refine ac (B1.kA hp) λo' eo ko=>?_;exact cA e eo λq=>k2 (q▸ko)) (λx hx=>by
  have Nf:x∈Ms++[(put,ft)]:=hx;rcases s_.mp Nf with h|h
  ·refine ac (B1.kS (a:=x.1) (tg:=x.2) h) λo' eo ko=>?_
   by_cases q:kd o=76
   ·exact(n3 q).1 x h
   ·exact cA e eo λq2=>q (q2▸ko)
  ·rw[g_]at h
   subst h;by_cases q:kd o=76
   ·exact(n3 q).2
   ·exact cA e UQ λq2=>q (q2▸rfl)) e
 have Po:=LC Lg ae ae (ag Lg LQ) (ag Lg LJ) (absurd · ae);have PS:=KY K8 ae ae (ag K8 hz) (ag K8 Kn);have WF:=LC PS ae ae (ag PS LQ) (ag PS LJ) (absurd · ae);have LF:=KY hgl ae ae (ag hgl hz) (ag hgl Kn);have OQ:=LC LF ae ae (ag LF LQ) (ag LF LJ) (absurd · ae);have rf2:∀rf rd fl,Z rf=a_ (.inst 162 rd fl)->Z2 rf=a_ (.inst 162 rd fl):=λrf rd fl e=>by
  have e1:=KY e ae ae (ag e hz) (ag e Kn);exact LC e1 ae ae (ag e1 LQ) (ag e1 LJ) (absurd · ae)
 have g2:∀e∈L,∃d wk,Z2 e.g=a_ (.inst 142 d (ax e.gn 0 .none wk g' g' (dC e.nm (.ref e.s)))):=λe he=>by
  by_cases q:e.gn=e0.gn
  ·have:=LL.n4 e he e0 LA q
   subst this;exact⟨dg,gw,LC K9 ae ae (ag K9 LQ) (ag K9 LJ) (absurd · ae)⟩
  ·refine cS (hg e he) λd wk eg=>?_
   rw[p_ q]at eg;have ne0:e.g≠e0.g:=cA eg MT λh=>by
    injection h with _ _ h
    unfold ax at h
    injection h with h _
    injection h with _ h
    injection h with h
    exact q h
   have e1:Z1 e.g=_:=JQ.get eg (by exact ji (ag eg hput) (ag eg hz) ne0 (ag eg Kn));exact⟨d,wk,LC e1 ae ae (ag e1 LQ) (ag e1 LJ) (absurd · ae)⟩
 have gs2:∀e∈L,∃d wk k v,Z2 e.s=a_ (bU d (e.gn+1) k wk v)/\eB A Z2 e.tg v:=λe he=>by
  refine bP (hgs e he) ?_;rintro⟨d,wk,k,v,es,hv⟩ n1 n2;have e1:Z1 e.s=_:=JQ.get es (by exact ji n2 (ag es hz) (ag es MT) (ag es Kn));exact⟨d,wk,k,v,LC e1 ae ae (ag e1 LQ) (ag e1 LJ) (λU=>⟨n1,n2⟩),hv.frm rf2⟩
 have XF:∀p,∀q∈row kin p,q<m:=λp q hq=>by
  refine ac (qJ hq) λr hr hy=>?_;have:=(K.kr r hr).2 q hy;rw[K.km]at this;exact this
 have Ty:∀Z',(∀a o,Z2 a=a_ o->kd o≠95->a≠β.sent->Z' a=a_ o)->(∀p,p<m->p∉G->∃d k wk ds its,Z' (A p)=a_ (dN d (p+1) k (bl p) wk ds g' its)/\Z' its=a_ (.lst ((Mb p).map .ref)))->FS m A Mb num bl kin firm G L Z':=λZ' Ni Tl=>by
  refine⟨λe he=>?_,λe he=>?_,LL.tg,LL.cov,Tl,λp hp hg i a ha=>?_,λp hp=>?_,K.km,λp hp=>XF p,hbl,alive,UG,K.m10,LL.l2,λp hp a ha=>⟨?_,LL.n1 p hp a ha⟩,λp q hp hq a ha b hb e=>?_,LL.n3,LL.n4,LL.n5⟩
  ·refine cS (g2 e he) λd wk e2=>?_
   exact⟨d,wk,Ni _ _ e2 ae (ag e2 R2.hs)⟩
  ·refine dX (gs2 e he) λd wk k v e2 hv=>?_
   exact⟨d,wk,k,v,Ni _ _ e2 ae (ag e2 R2.hs),hv.frm λrf rd fl e=>Ni _ _ e ae (ag e R2.hs)⟩
  ·have O3:=ha
   rw[K.mb p hp,k_]at O3;refine ac (j_.mp O3) ?_;rintro x hx rfl;have L7:=B_ hx;have P3:(row kin p)[i]?.map a_=a_ x.2:=by
    have:=congrArg (λl=>l[i]?) (K.tg p hp);rw[k_,k_,hx]at this;exact this.symm
   refine ac (j_.mp P3) λq hq e=>?_;have hm0:=Fn.mst p hp hg x.1 (B_ ha);refine eY (R2.sc x.1 x.2 (by show(x.1,x.2)∈Ms++_;exact y' _ (K.mem hp L7))) λd wk U U U ex=>?_;rw[hm0]at ex;refine ac ex ?_;clear ex;rintro v ex hv;have ex:Z2 x.1=a_ (bU d (num x.1) 1 wk v):=by
    have:(β.wd m A Mb (Ms++[(put,ft)]) (λb=>if b=put then pn else num b) bl last).num x.1=num x.1:=p_ λq=>Mg x (K.mem hp L7) q.symm;rw[this]at ex;exact ex
   have Se:eB A Z2 (a_ q) v:=by rw[<-e]at hv;exact hv
   exact⟨d,1,wk,v,q,Ni _ _ ex ae (ag ex R2.hs),hq,Se.frm λrf rd fl e=>Ni _ _ e ae (ag e R2.hs)⟩
  ·have h1:(Mb p).length=(row kin p).length:=by rw[K.mb p hp,b',K.len hp]
   exact⟨h1,by rw[h1];exact uL λr hr=>(K.kr r hr).1⟩
  ·rw[K.mb p hp]at ha
   refine ac (i_.mp ha) ?_;rintro x hx rfl;exact(P0.rng x (K.mem hp hx)).1
  ·rw[K.mb p hp]at ha
   rw[K.mb q hq]at hb;refine ac (i_.mp ha) ?_;rintro x hx rfl;refine ac (i_.mp hb) ?_;rintro y hy rfl;exact congrArg _ (AC P0 x (K.mem hp hx) y (K.mem hq hy) e)
 have U7:∀p,p<m->∃d wk its,Z2 (A p)=a_ (dN d (p+1) (base kin firm G p:Nat) (bl p) wk (decide (p∈G)&& !(bl p== .none)) (decide (p∈G)) its)/\(p∉G->Z2 its=a_ (.lst ((Mb p).map .ref))/\its≠β.sent):=λp hp=>by
  refine fL (R2.ar p hp) λd wk its e1 U U U e5=>?_;rw[Fn.cnt p hp,Fn.ds p hp,Fn.fr p hp]at e1;refine⟨d,wk,its,e1,λhg=>?_⟩;have:=e5 (by exact(Fn.fr p hp).trans (DQ hg));exact⟨this.1,this.2.2⟩
 have F2:FS m A Mb num bl kin firm G L Z2:=Ty Z2 (λU U e U U=>e) λp hp hg=>by
  refine eJ (U7 p hp) λd wk its e1 e2=>?_;rw[DQ hg]at e1;exact⟨d,_,wk,_,its,e1,(e2 hg).1⟩
 refine bE (aA rfl (af (av (aa rfl (az Po WR (af (aA rfl (af (aa rfl (am (aF rfl (uK F2 Po LK WF OQ hes λZ3 l X hl JZ hX UK mX=>am (aF rfl ?_)))))))))))));intros Z3 l X;have inj:=P0.inj;have NT:∀p,p∈(A' m).filter (λp=>decide (A p∈X))↔p<m/\eW kin firm p/\bl p≠ .none:=λp=>by
  rw[DA,Dq,decide_eq_true_iff,mX];constructor
  ·rintro⟨hp,q,hq,h1,h2,e⟩
   have:=inj p q hp hq e;subst this;exact⟨hp,h1,h2⟩
  ·rintro⟨hp,h1,h2⟩
   exact⟨hp,p,hp,h1,h2,rfl⟩
 have Q8:((A' m).filter (λp=>decide (A p∈X))).Pairwise (λa b=>a<b):=Ip.filter _;generalize (A' m).filter (λp=>decide (A p∈X))=Y at NT Q8;have Xq:(Y.map A).Nodup:=by
  rw[Ed,DL];refine EL (λ{a b} ha hb (q:a<b) e=>?_) Q8;have:=inj a b ((NT a).mp ha).1 ((NT b).mp hb).1 e;walk_at "L"
 have Mq:(Y.map A).Perm X:=(FW Xq UK).mpr λx=>by
  rw[mX,i_];constructor
  ·rintro⟨p,hp,rfl⟩
   refine bP ((NT p).mp hp) λh1 h2 h3=>?_;exact⟨p,h1,h2,h3,rfl⟩
  ·rintro⟨p,h1,h2,h3,rfl⟩
   exact⟨p,(NT p).mpr ⟨h1,h2,h3⟩,rfl⟩
 have UN:X.length<=10:=by
  have:=n8 X ((A' m).map A) UK λx hx=>by
   refine dZ ((mX x).mp hx) ?_;rintro p hp _ _ rfl;exact Do (Dq.mpr hp)
  rw[b',Ej]at this;have:=K.m10;walk_at "a"
 have nA:∀p,p<m->num (A p)=p+1:=P0.numA;have PG:=JZ.get R2.hs aj;have hGl:G.length<=10:=by
  have:=i9 m G W0 OO;have:=K.m10;walk_at "a"
 have Uh:∀x∈X,∃p,p<m/\x=A p/\p∉G/\bl p≠ .none/\∃d wk its,Z3 (A p)=a_ (.inst 85 d (ax (num (A p)) (base kin firm G p:Nat) (bl p) wk g' g' (cX its))):=λx hx=>by
  refine dZ ((mX x).mp hx) ?_;rintro p hp h1 h2 rfl;have hg:=alive p h1;refine eJ (U7 p hp) λd wk its e1 U=>?_;rw[DQ hg]at e1;exact⟨p,hp,rfl,hg,h2,d,wk,its,by exact(nA p hp)▸(JZ.get e1 aj)⟩
 refine zS (nm:=num) (ts':=Y.map A) (JZ.get R2.hc aj) (JZ.get R2.hd aj) h850 PG ?_ hX (by walk_at "o") (aq hl R2.hs).symm (λt ht=>?_) Mq ?_ λZ4 J1 Q5 hs4=>⟨rfl,ay ?_⟩
 ·rw[Fn.ss,b',b']
  have:=DE (λq=> !((β.wd m A Mb (Ms++[(put,ft)]) (λb=>if b=put then pn else num b) bl last).bl q==DU)) G;walk_at "a"
 ·refine dZ (Uh t ht) ?_;rintro p hp rfl hg zz;revert zz;revert hg;revert ht;revert hp;revert p;injections p;intro hp ht hg zz;refine jK zz λhb d wk its e=>?_;clear zz
  exact⟨d,_,bl p,wk,its,hb,hbl p hp,e⟩
 ·rw[C_,DL]
  refine EL (λ{a b} ha hb q=>?_) Q8;show num (A a)<num (A b);rw[nA a ((NT a).mp ha).1,nA b ((NT b).mp hb).1];walk_at "Q"
 intros Z4;have Lp:∀a o,Z2 a=a_ o->kd o≠95->a≠β.sent->Z4 a=a_ o:=λa o e k1 n1=>J1 a o (λhx=>by
  refine dm (Uh a hx) ?_;rintro p hp rfl _;refine eJ (U7 p hp) λd wk its e1 U=>?_;rw[e1]at e;cases e;exact k1 rfl) n1 (JZ.get e aj)
 have YQ:∀p,p<m->∃d wk ds its,Z4 (A p)=a_ (dN d (p+1) (base kin firm G p:Nat) (bl p) wk ds (decide (p∈G)) its)/\(p∉G->Z4 its=a_ (.lst ((Mb p).map .ref))):=λp hp=>by
  refine eJ (U7 p hp) λd wk its e1 e2=>?_;have hi:p∉G->Z4 its=a_ (.lst ((Mb p).map .ref)):=λhg=>Lp _ _ (e2 hg).1 ae (e2 hg).2;by_cases hx:A p∈X
  ·refine dZ (Uh _ hx) λq hq e hg zz=>?_;refine jK zz λhb d' KE Kj e3=>?_;clear zz
   have:=inj p q hp hq e;subst this;have e4:=Q5 _ hx _ _ _ _ _ e3;have e5:=JZ.get e1 aj;rw[e3]at e5;rw[nA p hp]at e4 e5;have O6:(decide (p∈G))=g':=DQ hg;rw[O6]at e5⊢;cases e5;exact⟨_,_,e_,_,e4,λU=>hi hg⟩
  ·exact⟨d,wk,_,its,J1 _ _ hx (ag e1 R2.hs) (JZ.get e1 aj),hi⟩
 refine h Z4 Y (λa o e k1 k2 k3 k4 n1 n2 n3=>?_) ?_ (Ty Z4 Lp λp hp hg=>?_) Q8 NT ?_ λp hp=>?_
 ·have e1:=KY e k2 k4 n1 n3
  exact Lp a o (LC e1 k3 k1 n2 n1 (λq=>absurd q k2)) k1 n2
 ·exact Lp _ _ (LC KW ae ae nvs nvz (absurd · ae)) ae nvs
 ·revert hg;revert hp;revert p;injections p;intro hp hg
  refine dX (YQ p hp) λd wk ds its e1 e2=>?_;rw[DQ hg]at e1;exact⟨d,_,wk,ds,its,e1,e2 hg⟩
 ·rw[show Z4 β.sent=_ from hs4,Fn.ss,r_];rfl
 ·refine dX (YQ p hp) λd wk ds its e1 U=>?_
  exact⟨d,wk,ds,its,e1⟩
noncomputable def Fx (xs:b_ d_)(Z Z':ak):Prop:=∀a o,Z a=a_ o->kd o≠95->kd o≠76->kd o≠235->kd o≠152->a∉xs->Z' a=a_ o
theorem Fx.refl (xs:b_ d_)(Z:ak):Fx xs Z Z:=λU U e U U U U U=>e
theorem Fx.frm {xs:b_ d_}{W:b_ d_}(h:Fx xs Z Z')(hF:ai W Z' JO)(hW:∀a∈W,a∈xs\/∃o,Z' a=a_ o/\(kd o=95\/kd o=76\/kd o=235\/kd o=152)):Fx xs Z JO:=λa o e k1 k2 k3 k4 n=>by
 have e1:=h a o e k1 k2 k3 k4 n;refine hF a o (λhm=>?_) e1;rcases hW a hm with q|⟨o',e2,q⟩
 ·exact n q
 ·rw[e1]at e2;cases e2
  rcases q with q|q|q|q
  ·exact k1 q
  ·exact k2 q
  ·exact k3 q
  ·exact k4 q
theorem Fx.trans {xs:b_ d_}(h:Fx xs Z Z')(g:Fx xs Z' JO):Fx xs Z JO:=λa o e k1 k2 k3 k4 n=>g a o (h a o e k1 k2 k3 k4 n) k1 k2 k3 k4 n
theorem Fx.new {xs:b_ d_}(h:Fx xs Z Z'){o:O}(hl:isNew Z' l):Fx xs Z (Z'.set l o):=λa o e k1 k2 k3 k4 n=>ao hl (h a o e k1 k2 k3 k4 n)
theorem Fx.frm0 {xs:b_ d_}(h:Fx xs Z Z')(hF:ai [] Z' JO):Fx xs Z JO:=h.frm hF (by exact aW)
section
variable{T:a6}
theorem oj {e:Expr}{x:Str}(h:(aw T n).1 (.Subscript e (.Name x p1) p) sc fm Z λv Z=>fA Z v λb=>Qb b Z):(aw T (n+1)).2 (.Subscript e (.Name x p1) p) sc fm Z Qb:=⟨rfl,h⟩
end
theorem AH {β:Bs}{ch lr:d_}{no xs:b_ d_}{A0:Nat->d_}{Uv:d_->Int}
 (B:Bd β 0 A0 (λU=>[]) [] Uv (λU=>.none) 0 (λU=>0) z no Z) (Kd:Z lr=a_ (.rng (m:Int))) (hm:m<=10) (hno:∀a∈no,∃o,Z a=a_ o) (hcl:cl.lookup ("heap":Str)=a_ ch) (hch:Z ch=a_ (.cel (a_ (.ref β.hp)))) (kh:kindOf cs "heap"=a_ .free) (kp:kindOf cs "place"=a_ .local) (hn:eN cs.names=[])
 (T6:(p2.endLine==p3.line)=e_) (hs:iU cs (.Name "heap" p1)=h_)
 (h:∀Z' A l,Bd β m A (λU=>[]) [] (cD Z') (λU=>.none) m (λU=>0) z no Z'->BP m A [] (cD Z') m->Fx xs Z Z'->isNew Z l->Z' l=a_ (.lst ((A' m).map λp=>.ref (A p)))->Q (.ref l) Z'):
 iv (aw (aJ KC 7) (k+4)).1 Bt (.Call (.Attribute (.Name "heap" p1) "new_array" p2) [] [] p3) "place" [] cs cl (.ref lr) Z Q:=by
 intros z p1 p2 p3 m k Z cs cl Q Bt β ch lr no xs A0 Uv;refine kt Kd (fS Kd) (by simp;walk_at "o") hn kp (λi JP Z'=>Fx xs Z Z'/\ai [β.hp] Z Z'/\∃A,Bd β i A (λU=>[]) [] (λU=>0) (λU=>.none) i (λU=>0) z no Z'/\JP=(A' i).map λp=>.ref (A p)) ⟨Fx.refl _ _,ai.refl _ _,A0,⟨B.hc,B.hpl,B.hem,B.hd,B.hh,B.ar,by simp⟩,rfl⟩ (λi JP Z' hI=>?_) (λi y JP Z' hy hI=>?_) (λJP Z' hI l hl=>?_)
 ·refine jJ hI ?_;clear hI;rintro _ hF A _ rfl
  exact⟨by rw[hF.get Kd (by exact aE (ag Kd B.hh)),Kd],by simp⟩
 ·intros i y JP Z'
  refine jJ hI ?_;clear hI;rintro hX hF A B' rfl;intros A;have WY:=hF.get hch (by exact aE (ag hch B.hh));refine aX (aa (bR kh (by exact hcl) WY) (bZ B'.hh rfl rfl (am (aF rfl (tC B'.hh λZ2 x d l its hx hl hi n1 n2 n3 JS ex el ei eh=>?_))))) T6 (by simp) hs;have hW:∀a∈[β.hp],ic β i A [] no Z' a:=λa ha=>.inr (.inl (by simpa using ha));have B2:=B'.upd (last':=(i:Int)+1) (Mb':=λU=>[]) (bl':=λU=>.none) (cnt':=λU=>0) JS hW eh (λp hp hm=>by
   refine ac (B'.kA hp) λo eo ko=>?_;exact absurd (g_.mp hm) (ag eo B'.hh (by exact ko▸rfl))) (λU U U=>⟨rfl,rfl,rfl⟩)
  have U':∀ {a},isNew Z' a->a∉no:=λ{a} ha hm=>by
   refine xE (hno a hm) λo eo=>?_;by_cases q:a=β.hp
   ·have e1:=B'.hh
    rw[<-q,ha.1]at e1;exact(ns e1).elim
   ·have e1:=hF.get eo (by exact aE q)
    rw[ha.1]at e1;exact(ns e1).elim
  have B3:=B2.addA (num':=λU=>0) (d:=d) (wk:=l) (its:=its) rfl ex el (U' hl) ei (U' hi) (λU=>rfl) (λU=>rfl) (λU=>rfl);refine⟨hX.frm JS (λa ha=>by
   rw[g_]at ha;subst ha;exact .inr ⟨_,B'.hh,.inr (.inr (.inl rfl))⟩),hF.trans JS (by exact bT (.inl (.head _))),(λp=>if p=i then x else A p),?_,?_⟩
  ·have:((i+1:Nat):Int)=(i:Int)+1:=by walk_at "c"
   rw[this];exact B3
  ·rw[Iw,r_]
   congr 1
   ·refine Dp λp hp=>?_
    have:=Dq.mp hp;dsimp only;rw[p_ (by walk_at "a")]
   ·simp
 ·refine jJ hI ?_;clear hI;rintro hX hF A B' rfl
  revert hl hX hF;intros Z' l A;rw[b',Ej,Dh]at B'⊢;have B2:=B'.more ((ai.refl [] Z').new (o:=.lst ((A' m).map λp=>.ref (A p))) hl);refine h _ A l ⟨B2.hc,B2.hpl,B2.hem,B2.hd,B2.hh,B2.ar,by simp⟩ ?_ (hX.new hl) (hF.isNew hl (by exact bT ⟨_,B'.hh⟩)) (ad _ _ _);have Q9:∀p,p<m->cD (Z'.set l (.lst ((A' m).map λp=>.ref (A p)))) (A p)=p+1:=λp hp=>by
   refine eJ (B2.ar p hp) λd wk its e U=>?_;unfold cD;rw[e];rfl
  refine⟨λp q hp hq e=>?_,Q9,by simp,by exact aW⟩;have h1:=Q9 p hp;rw[e,Q9 q hq]at h1;walk_at "o"
noncomputable def Fk (Z Z':ak):Prop:=∀a o,Z a=a_ o->kd o≠95->kd o≠235->Z' a=a_ o
theorem Fk.x {xs:b_ d_}(h:Fk Z Z'):Fx xs Z Z':=λa o e k1 U k3 U U=>h a o e k1 k3
theorem Fk.trans (h:Fk Z Z')(g:Fk Z' JO):Fk Z JO:=λa o e k1 k2=>g a o (h a o e k1 k2) k1 k2
theorem uN (a b:b_ (Addr×Option Nat)):bF (a++b)=bF a++bF b:=by
 induction a with
 |nil=>rfl
 |cons x r ih=>
  obtain⟨y,o⟩:=x;cases o with
  |none=>exact ih
  |some q=>exact congrArg (q:: ·) ih
theorem AI {β:Bs}{A:Nat->d_}{Ms:b_ (Addr×Option Nat)}{num:d_->Int}{bl:Nat->c_}{ra:d_}{no:b_ d_}{Q0:b_ Nat}{p6 p7 p8:Pos}
 (B:Bd β m A Mb Ms num bl (m+Ms.length:Nat) (λp=>((bF Ms).count p:Nat)) z no Z) (PP:BP m A Ms num (m+Ms.length:Nat)) (Tp:Z ra=a_ (.lst (Q0.map vN))) (Nb:Q0.length<=2) (T1:∀q∈Q0,q<m) (hm:m<=10) (hno:∀a∈no,∃xs,Z a=a_ (.lst xs))
 (Kb:cl.lookup ("arrays":Str)=a_ c3) (Kq:cl.lookup ("counter":Str)=a_ c4) (h3:Z c3=a_ (.cel (a_ (.ref al)))) (h4:Z c4=a_ (.cel (a_ (.ref β.c)))) (hal:Z al=a_ (.lst ((A' m).map λp=>.ref (A p))))
 (k3:kindOf cs "arrays"=a_ .free) (k4:kindOf cs "counter"=a_ .free) (kR:kindOf cs "Ref"=a_ .globalImplicit) (ko:kindOf cs "other"=a_ .local) (hn:eN cs.names=[]) (T6:(p2.endLine==p3.line)=e_) (hs:iU cs (.Name "counter" p1)=h_)
 (h:∀Z' l Mp num',Bd β m A Mb (Ms++Mp) num' bl (m+(Ms++Mp).length:Nat) (λp=>((bF (Ms++Mp)).count p:Nat)) z no Z'->BP m A (Ms++Mp) num' (m+(Ms++Mp).length:Nat)->Mp.map (λp=>p.2)=Q0.map a_->Fk Z Z'->l∉no->Z' l=a_ (.lst ((Mp.map (λp=>p.1)).map .ref))->Q (.ref l) Z'):
 iv (aw (aJ KC 7) (k+8)).1 Bt (.Call (.Attribute (.Name "counter" p1) "fresh" p2) [.Call (.Name "Ref" p4) [.Subscript (.Name "arrays" p5) (.Name "other" p6) p7] [] p8] [] p3) "other" [] cs cl (.ref ra) Z Q:=by
 intros z c3 c4 al p1 p2 p3 p4 p5 m k Z cs cl Q Bt Mb β A Ms num bl ra no Q0 p6 p7 p8;refine kt Tp (cY Tp) (by simp;walk_at "o") hn ko (λi JP Z'=>Fk Z Z'/\∃Mp num',Bd β m A Mb (Ms++Mp) num' bl (m+(Ms++Mp).length:Nat) (λp=>((bF (Ms++Mp)).count p:Nat)) z no Z'/\BP m A (Ms++Mp) num' (m+(Ms++Mp).length:Nat)/\Mp.map (λp=>p.2)=(Q0.take i).map a_/\JP=(Mp.map (λp=>p.1)).map .ref/\Mp.length=i) ⟨λU U e U U=>e,[],num,by simpa using B,by simpa using PP,rfl,rfl,rfl⟩ (λi JP Z' hI=>?_) (λi y JP Z' hy hI=>?_) (λJP Z' hI l hl=>?_)
 ·refine oJ hI ?_;clear hI;rintro hF Mp num' _ _ _ rfl e
  exact⟨by exact(hF ra _ Tp ae ae).trans Tp.symm,by simp[e]⟩
 ·intros i y JP Z'
  refine oJ hI ?_;clear hI;rintro hF Mp num' B' P' ht rfl el;intros Mp num';rw[k_]at hy;intros Mp num';refine ac (j_.mp hy) ?_;rintro q hq rfl;intros q;have K6:=T1 q (B_ hq);have g3:=hF _ _ h3 ae ae;have g4:=hF _ _ h4 ae ae;have WG:=hF _ _ hal ae ae;refine aX (aa (bR k4 (by exact Kq) g4) (bZ B'.hc rfl rfl (af (aA (v:=.ref 162) (by unfold bM;rw[kR];rfl) (af (cQ (aa (bR k3 (by exact Kb) g3) (aa (aB ko (by rw[v_,C'];rfl)) ⟨_,fI WG K6 (by walk_at "o"),am (d8 rfl rfl rfl λx d hx=>nF (v:=.ref (A q)) (ad _ _ _) (λZ2 JS KX=>⟨rfl,am (aF rfl ?_)⟩) rfl)⟩)))))))) T6 (by simp) hs;revert hx;intros x d Z2;have OD:ai [] Z' Z2:=((ai.refl [] Z').new hx).trans JS (by
   intro a ha;rw[g_]at ha;subst ha;exact .inr hx.1)
  have B2:=B'.more OD;refine fL (B2.ar q K6) λdq wq iq e1 e2 e3 e4 e5=>?_;intros dq wq iq;refine zv B2.hc B2.hh KX e1 rfl (by simp[cX]) (ag KX e1) (ag B2.hc e1) (ag B2.hh e1) λZ3 s ds l PG K3 M7 JZ es el3 ea eh=>?_;intros Z3 s ds l;have hW:∀a∈[β.hp,A q],ic β m A (Ms++Mp) no Z2 a:=λa ha=>by
   rcases f_.mp ha with rfl|ha
   ·exact .inr (.inl rfl)
   ·exact .inr (.inr (.inl ⟨q,K6,g_.mp ha⟩))
  have hct:∀p,(bF (Ms++(Mp++[(s,a_ q)]))).count p=(bF (Ms++Mp)).count p+[q].count p:=λp=>by
   rw[<-Dw,uN (Ms++Mp) [(s,a_ q)],GQ];rfl
  have WO:(((bF (Ms++Mp)).count q:Nat):Int)+1=((bF (Ms++(Mp++[(s,a_ q)]))).count q:Nat):=by
   rw[hct q,Ge];walk_at "c"
  have B3:=B2.upd (last':=((m+(Ms++Mp).length:Nat):Int)+1) (cnt':=λp=>((bF (Ms++(Mp++[(s,a_ q)]))).count p:Nat)) (Mb':=Mb) (bl':=bl) JZ hW eh (λp hp hm=>by
   rcases f_.mp hm with hm|hm
   ·refine ac (B2.kA hp) λo eo ko=>?_
    exact absurd hm (ag eo B2.hh (by exact ko▸rfl))
   ·have:=P'.inj p q hp K6 (g_.mp hm)
    subst this;refine⟨dq,wq,iq,?_,JZ.get e2 (by exact cJ (ag e2 B2.hh) (ag e2 e1)),e3,JZ.get e4 (by exact cJ (ag e4 B2.hh) (ag e4 e1)),e5⟩;rw[ea,WO];rfl) (λp hp hm=>by
   refine⟨?_,rfl,rfl⟩;have npq:p≠q:=λe=>hm (by rw[e];exact .tail _ (.head _));rw[hct p,show[q].count p=0 from EJ.mpr (by exact aE npq),Nat.add_zero])
  have QE:∀x∈Ms++Mp,s≠x.1:=λx Nf=>by
   refine ac (B2.kS (a:=x.1) (tg:=x.2) Nf) λo eo U=>?_;exact(aq PG eo).symm
  have U':l∉no:=λhm=>by
   refine xE (hno l hm) λxs e=>?_;exact aq K3 (OD.get (hF _ _ e ae ae) aj) rfl
  have PU:Z3 x=a_ (.inst 162 d (gq (A q))):=JZ.get KX (by exact cJ (ag KX B2.hh) (ag KX e1));have B4:=B3.addS (tg:=a_ q) (n:=((m+(Ms++Mp).length:Nat):Int)+1) es ⟨x,d,rfl,PU⟩ el3 U' QE;have TO:((m+(Ms++Mp).length:Nat):Int)+1=((m+(Ms++(Mp++[(s,a_ q)])).length:Nat):Int):=by simp;walk_at "bv"
  have P4:=P'.addS (a:=s) (tg:=a_ q) (n:=((m+(Ms++Mp).length:Nat):Int)+1) (last':=((m+(Ms++Mp).length:Nat):Int)+1) (by walk_at "U") (IO _) (by walk_at "o") (λp hp e=>by
   refine ac (B2.kA hp) λo eo U=>?_;exact aq PG eo e) QE
  rw[Dw,TO]at B4;rw[Dw,TO]at P4;refine⟨λa o e k1 k2=>?_,Mp++[(s,a_ q)],_,B4,P4,?_,?_,by simp[el]⟩
  ·have RX:=OD.get (hF a o e k1 k2) aj
   refine JZ.get RX (λhm=>?_);rcases f_.mp hm with rfl|hm
   ·rw[B2.hh]at RX;cases RX;exact k2 rfl
   ·rw[g_]at hm
    subst hm;rw[e1]at RX;cases RX;exact k1 rfl
  ·rw[r_,ht,gK hq,r_];rfl
  ·rw[r_,r_];rfl
 ·refine oJ hI ?_;clear hI;rintro hF Mp num' B' P' ht rfl el
  rw[b',Dy]at ht;have WA:l∉no:=λhm=>by
   refine xE (hno l hm) λxs e=>?_;exact aq hl (hF _ _ e ae ae) rfl
  exact h _ l Mp num' (B'.more ((ai.refl [] Z').new hl)) P' ht (λa o e k1 k2=>ao hl (hF a o e k1 k2)) WA (ad _ _ _)
noncomputable def dE (bs:b_ Dm)(p:Nat):c_:=if(bs[p]?).getD g'=e_ then .str "P" 0 else .none
theorem AJ {β:Bs}{A:Nat->d_}{num:d_->Int}{kn lr:d_}{no:b_ d_}{cel:b_ (Str×Addr)}{q1 q2 q3 q4 q5 q6 q7 q8 q9 Sz Sx Sm TR SI Rb Ry SV SQ Rp QA PQ RD T7 RN T3 UA Zac Zay Za4 q30:Pos}{T' RL:Nat}
 (B:Bd β m A (λU=>[]) [] num (λU=>.none) m (λU=>0) z no Z) (PP:BP m A [] num m) (Uz:jA Z kn kin) (km:kin.length=m) (hm:m<=10) (kr:∀r∈kin,r.length<=2/\∀y∈r,y<kin.length) (hno:∀a∈no,∃xs,Z a=a_ (.lst xs))
 (hba:Z ba=a_ (.lst (bs.map .bool))) (hbl:bs.length=m) (hal:Z al=a_ (.lst ((A' m).map λp=>.ref (A p)))) (Kd:Z lr=a_ (.rng (m:Int)))
 (JT:fm.cel=cel) (l3:cel.lookup ("arrays":Str)=a_ c3) (l4:cel.lookup ("counter":Str)=a_ c4) (l6:cel.lookup ("blessed":Str)=a_ c6) (h3:Z c3=a_ (.cel (a_ (.ref al)))) (h4:Z c4=a_ (.cel (a_ (.ref β.c)))) (h6:Z c6=a_ (.cel (a_ (.ref ba)))) (hk:fm.loc.lookup ("kin":Str)=a_ (.ref kn))
 (Lx:∀loc,iW cs ⟨loc,cel⟩=a_ [(("arrays":Str),c3),(("counter":Str),c4)]) (k3:kindOf cs "arrays"=a_ .free) (k4:kindOf cs "counter"=a_ .free) (kR:kindOf cs "Ref"=a_ .globalImplicit) (ko:kindOf cs "other"=a_ .local) (hn:eN cs.names=[]) (M3:jW cs=e_) (T6:(QA.endLine==PQ.line)=e_) (hs:iU cs (.Name "counter" Rp)=h_)
 (h:∀JN Z' Mb Ms num' Mt,JN.cel=cel->(∀y,y≠("place":Str)->JN.loc.lookup y=fm.loc.lookup y)->Bd β m A Mb Ms num' (dE bs) (m+Ms.length:Nat) (λp=>((bF Ms).count p:Nat)) z no Z'->BP m A Ms num' (m+Ms.length:Nat)->KB m Mb Ms kin Mt->Fk Z Z'->Qs .next JN Z'):
 iw (aT (aJ KC 7) 60 59) "place" (.ref lr) [.Assign [.Attribute (.Subscript (.Name "arrays" q1) (.Name "place" q2) q3) "items" q4] (.ListComp (.Call (.Attribute (.Name "counter" Rp) "fresh" QA) [.Call (.Name "Ref" RD) [.Subscript (.Name "arrays" T7) (.Name "other" RN) T3] [] UA] [] PQ) [⟨.Name "other" q5,.Subscript (.Name "kin" q6) (.Name "place" q7) q8,[],0⟩] cs q9) Sz,
  .Expr (.Call (.Name "bless_thing" Sx) [.Subscript (.Name "arrays" Sm) (.Name "place" TR) SI,.IfExp (.Subscript (.Name "blessed" Rb) (.Name "place" Ry) SV) (.Constant (.str "P") T' SQ) (.Constant .none RL Zac) Zay] [] Za4) q30] (cR KC 844) fm Z Qs:=by
 intros z c3 c4 al c6 ba m Z fm cs Qs kin bs β A num kn lr no cel q1 q2 q3 q4 q5 q6 q7 q8 q9 Sz Sx Sm TR SI Rb Ry SV SQ Rp QA PQ RD T7 RN T3 UA Zac Zay Za4 q30 T' RL;refine dm Uz λrows KH Nb K1=>?_;intros rows;clear Uz;refine gp (fS Kd) (by simp;walk_at "o") rfl (λi JN Z'=>JN.cel=cel/\(∀y,y≠("place":Str)->JN.loc.lookup y=fm.loc.lookup y)/\Fk Z Z'/\∃Mb Ms num' Mt,Bd β m A Mb Ms num' (λp=>if p<i then dE bs p else .none) (m+Ms.length:Nat) (λp=>((bF Ms).count p:Nat)) z no Z'/\BP m A Ms num' (m+Ms.length:Nat)/\Ms=(A' i).flatMap Mt/\∀p,p<i->Mb p=(Mt p).map (λp=>p.1)/\(Mt p).map (λp=>p.2)=(row kin p).map a_) ⟨JT,λU U=>rfl,λU U e U U=>e,λU=>[],[],num,λU=>[],by simpa[bF]using B,by simpa using PP,rfl,by simp⟩ (λi JN Z' hI=>?_) (λi y JN Z' hy hI Qz Kz=>?_) (λJN Z' hI=>?_)
 ·show Z' lr=Z lr
  exact(hI.2.2.1 lr _ Kd ae ae).trans Kd.symm
 ·revert hy hI;intros i y JN Z' Qz
  refine dG hI λhc hloc hF zz=>?_;clear hI;refine dX zz λMb Ms num' Mt B' zz=>?_;revert zz;revert B';revert Mb Ms num' Mt;injections Mb Ms num' Mt;intro B' zz;refine bP zz λP' Me Qf=>?_;clear zz;have Pr:i<m:=by
   obtain⟨hl,_⟩:=Dg.mp hy;simpa using hl
  have Qt:y=vN i:=by
   rw[k_,D9 (by walk_at "o")]at hy;cases hy;rfl
  subst Qt;obtain⟨loc,Oz⟩:=JN;intros loc Oz;dsimp only at hc hloc;subst hc;have Pa:kin[i]? =a_ (row kin i):=by
   unfold row;rw[w_ (by walk_at "a")];rfl
  refine ac (K1 i (row kin i) Pa) λra Qq MP=>?_;intros ra;have hri:=kr _ (B_ Pa);have kp:(aL "place" (vN i) loc).lookup ("place":Str)=a_ (vN i):=by exact d6
  have kk:(aL "place" (vN i) loc).lookup ("kin":Str)=a_ (.ref kn):=by rw[dj,p_ (by decide),hloc _ (by decide)];exact hk
  have Pn:∀y,y≠("place":Str)->(aL "place" (vN i) loc).lookup y=fm.loc.lookup y:=λy hy=>by exact et (hloc y hy) hy
  show au _ _ _ ⟨aL "place" (vN i) loc,Oz⟩ _ _;generalize aL "place" (vN i) loc=L at kp kk Pn⊢;have g3:=hF _ _ h3 ae ae;have g4:=hF _ _ h4 ae ae;have WG:=hF _ _ hal ae ae;have gkn:=hF _ _ KH ae ae;have gra:=hF _ _ MP ae ae;refine cC (dD (Lx L) (cQ (aa (aB rfl kk) (aa (aB rfl kp) ⟨_,fh gkn (by walk_at "a") (by walk_at "g") (by rw[k_,Dh,Qq];rfl),?_⟩))) rfl M3);refine AI B' P' gra hri.1 (λq hq=>by rw[<-km];exact hri.2 q hq) hm (λa ha=>by refine xE (hno a ha) λxs e=>?_;exact⟨xs,hF _ _ e ae ae⟩) rfl rfl g3 g4 WG k3 k4 kR ko hn T6 hs λZ2 l Mp RF B2 P2 hMp JS WA hl=>?_;intros Z2 l Mp RF;have Kk:=hF.trans JS;have b3:=Kk _ _ h3 ae ae;have bal:=Kk _ _ hal ae ae;refine fL (B2.ar i Pr) λd wk its e1 e2 e3 e4 e5=>?_;intros d wk its;dsimp only at e1;rw[p_ (DH i)]at e1;refine cQ (aa (a7 rfl l3 b3) (aa (aB rfl kp) ⟨_,fI bal Pr (by walk_at "o"),cW e1 ?_⟩));have JZ:ai [A i] Z2 (Z2.set (A i) (.inst 85 d (aL "items" (.ref l) (ax (i+1) ((bF (Ms++Mp)).count i:Nat) .none wk g' g' (cX its))))):=(ai.refl _ _).set (.head _);have e6:(Z2.set (A i) (.inst 85 d (aL "items" (.ref l) (ax (i+1) ((bF (Ms++Mp)).count i:Nat) .none wk g' g' (cX its))))) (A i)=a_ (dN d (i+1) ((bF (Ms++Mp)).count i:Nat) .none wk g' g' l):=ad _ _ _;generalize (Z2.set (A i) _)=Z3 at JZ e6⊢;have LG:Fk Z2 Z3:=λa o e k1 k2=>JZ.get e (by
   intro hm;rw[g_]at hm;subst hm;rw[e1]at e;cases e;exact k1 rfl)
  have c3':=(Kk.trans LG) _ _ h3 ae ae;have c6':=(Kk.trans LG) _ _ h6 ae ae;have WH:=(Kk.trans LG) _ _ hal ae ae;have VR:=(Kk.trans LG) _ _ hba ae ae;have Kw:∀Z4,ai [A i] Z3 Z4->Z4 (A i)=a_ (.inst 85 d (ax (i+1) ((bF (Ms++Mp)).count i:Nat) (dE bs i) wk g' g' (cX l)))->la Qs (λJN Z'=>JN.cel=Oz/\(∀y,y≠("place":Str)->JN.loc.lookup y=fm.loc.lookup y)/\Fk Z Z'/\∃Mb Ms num' Mt,Bd β m A Mb Ms num' (λp=>if p<i+1 then dE bs p else .none) (m+Ms.length:Nat) (λp=>((bF Ms).count p:Nat)) z no Z'/\BP m A Ms num' (m+Ms.length:Nat)/\Ms=(A' (i+1)).flatMap Mt/\∀p,p<i+1->Mb p=(Mt p).map (λp=>p.1)/\(Mt p).map (λp=>p.2)=(row kin p).map a_) .next ⟨L,Oz⟩ Z4:=by
   intro Z4 J1 SX;have Lp:ai [A i] Z2 Z4:=JZ.trans J1 (by exact bT (.inl (.head _)));have hW:∀a∈[A i],ic β m A (Ms++Mp) no Z2 a:=λa ha=>.inr (.inr (.inl ⟨i,Pr,g_.mp ha⟩));have B4:=B2.upd (Mb':=λp=>if p=i then Mp.map (λp=>p.1)else Mb p) (bl':=λp=>if p<i+1 then dE bs p else .none) (last':=(m+(Ms++Mp).length:Nat)) (cnt':=λp=>((bF (Ms++Mp)).count p:Nat)) Lp hW (Lp.get B2.hh (by exact aE (ag B2.hh e1))) (λp hp hm=>by
    have:=P2.inj p i hp Pr (g_.mp hm);subst this;refine⟨d,wk,l,?_,Lp.get e2 (by exact aE (ag e2 e1)),e3,?_,WA⟩
    ·dsimp only
     rw[z_ (EE p)];exact SX
    ·dsimp only
     rw[z_ rfl];exact Lp.get hl (by exact aE (ag hl e1))) (λp hp hm=>by
    have npi:p≠i:=λe=>hm (by rw[e];exact .head _);refine⟨rfl,?_,p_ npi⟩;by_cases q:p<i
    ·rw[z_ q,z_ (by walk_at "a")]
    ·rw[p_ q,p_ (by walk_at "o")])
   refine⟨rfl,Pn,Kk.trans λa o e k1 k2=>Lp.get e (by
    intro hm;rw[g_]at hm;subst hm;rw[e1]at e;cases e;exact k1 rfl),_,_,RF,λp=>if p=i then Mp else Mt p,B4,P2,?_,λp hp=>?_⟩
   ·rw[Iw,Ho,Me]
    congr 1
    ·rw[JH,JH]
     congr 1;refine Dp λp hp=>?_;have:=Dq.mp hp;exact(p_ (by walk_at "a")).symm
    ·simp
   ·by_cases q:p=i
    ·subst q
     dsimp only;rw[z_ rfl,z_ rfl];exact⟨rfl,hMp⟩
    ·dsimp only
     rw[p_ q,p_ q];exact Qf p (by walk_at "a")
  have Pj:∃bb,bs[i]? =a_ bb:=⟨_,w_ (by walk_at "a")⟩;refine xE Pj λbb Xz=>?_;intros bb;clear Pj;have hgb:d5 Z3 (.ref ba) (.int (i:Int) 0) (.bool bb):=fh VR (by walk_at "a") (by walk_at "g") (by rw[k_,Dh,Xz];rfl);refine bE (aA rfl (af (cQ (aa (a7 rfl l3 c3') (aa (aB rfl kp) ⟨_,fI WH Pr (by walk_at "o"),af (nH (oj (cQ (aa (a7 rfl l6 c6') (aa (aB rfl kp) ⟨_,hgb,fq ?_⟩)))))⟩)))));cases bb with
  |true=>exact aZ rfl (bJ (am (aF rfl (qi e6 rfl (by simp[cX]) rfl λZ4 J1 SX=>⟨rfl,ay (Kz .next _ _ (Kw Z4 J1 (by unfold dE;rw[Xz];exact SX)))⟩))))
  |false=>exact aM rfl (bI (am (aF rfl (qi e6 rfl (by simp[cX]) rfl λZ4 J1 SX=>⟨rfl,ay (Kz .next _ _ (Kw Z4 J1 (by unfold dE;rw[Xz];exact SX)))⟩))))
 ·refine dG hI λhc hloc hF zz=>?_;clear hI;refine dX zz λMb Ms num' Mt B' zz=>?_;refine bP zz λP' Me Qf=>?_;clear zz
  have J6:(((A' ((m:Int)).toNat).map vN)).length=m:=by simp
  rw[J6]at B' Me Qf;have e:Bd β m A Mb Ms num' (dE bs) (m+Ms.length:Nat) (λp=>((bF Ms).count p:Nat)) z no Z':=⟨B'.hc,B'.hpl,B'.hem,B'.hd,B'.hh,λp hp=>by
   refine eJ (B'.ar p hp) λd wk its e1 e2=>?_;dsimp only at e1;rw[z_ hp]at e1;exact⟨d,wk,its,e1,e2⟩,B'.sc⟩
  exact h JN Z' Mb Ms num' Mt hc hloc e P' ⟨km,hm,kr,Me,λp hp=>(Qf p hp).1,λp hp=>(Qf p hp).2⟩ hF
noncomputable def fy (L:b_ GE):b_ (Value×Value):=L.map λe=>((.str e.nm 0:c_),(.ref e.g:c_))
structure GS (β:Bs)(m:Nat)(A:Nat->d_)(Mb:Nat->b_ d_)(Ms:b_ (Addr×Option Nat))(num:d_->Int)(bl:Nat->c_)(last:Int)(cnt:Nat->Int)(z:d_)(no:b_ d_)(gl:d_)(L:b_ GE)(N:Nat)(Z:ak):Prop where
 bd:Bd β m A Mb Ms num bl last cnt z no Z
 gl:Z gl=a_ (.dic (fy L) N)
 g:∀e∈L,∃d wk,Z e.g=a_ (.inst 142 d (ax e.gn 0 .none wk g' g' (dC e.nm (.ref e.s))))
 s:∀e∈L,(∃d wk v,Z e.s=a_ (bU d (e.gn+1) 1 wk v)/\eB A Z e.tg v)/\∀x∈Ms,e.s≠x.1
 num:∀e∈L,((m+Ms.length:Nat):Int)<e.gn/\e.gn+1<=last
 ord:L.Pairwise λe f=>e.gn+1<f.gn
noncomputable def Fg (gl:d_)(Z Z':ak):Prop:=∀a o,Z a=a_ o->kd o≠95->kd o≠235->a≠gl->Z' a=a_ o
theorem Fg.refl (gl:d_)(Z:ak):Fg gl Z Z:=λU U e U U U=>e
theorem Fg.trans (h:Fg gl Z Z')(g:Fg gl Z' JO):Fg gl Z JO:=λa o e k1 k2 n=>g a o (h a o e k1 k2 n) k1 k2 n
theorem Fk.g (h:Fk Z Z'):Fg gl Z Z':=λa o e k1 k2 U=>h a o e k1 k2
theorem Fg.frm0 (h:Fg gl Z Z')(hF:ai [] Z' JO):Fg gl Z JO:=λa o e k1 k2 n=>hF.get (h a o e k1 k2 n) aj
theorem uO {L:b_ GE}(h:∀e∈L,e.nm≠nm):(fy L).lookup (.str nm 0)=h_:=by
 rw[DC];intro p hp;refine ac (i_.mp hp) ?_;rintro e he rfl;exact FA.mpr λq=>by
  injection q with q
  exact h e he q.symm
theorem ol {L:b_ GE}{e:GE}(he:e∈L)(h:L.Pairwise λe f=>e.nm≠f.nm):(fy L).lookup (.str e.nm 0)=a_ (.ref e.g):=by
 induction L with
 |nil=>exact(aj he).elim
 |cons f r ih=>
  intros e f r;rw[Du]at h;unfold fy;rw[n_];rcases f_.mp he with rfl|OS
  ·rw[v_,C']
  ·have:((.str e.nm 0:c_)== .str f.nm 0)=g':=r'.mpr λq=>by
    injection q with q
    exact h.1 e OS q.symm
   rw[v_,this];exact ih OS h.2
theorem oq (L:b_ GE):((fy L).all λp=>isStr p.1)=e_:=by unfold fy;rw[Ef];exact l_.mpr λU U=>rfl
theorem AK {L:b_ GE}{g:d_}(h:∀e∈L,e.nm≠nm):cM (.str nm 0) (.ref g) (fy L)=fy L++[(.str nm 0,.ref g)]:=by
 have:=uO h;rw[DC]at this;exact nY λp hp=>FA.mp (this p hp)
section
variable{β:Bs}{A:Nat->d_}{Ms:b_ (Addr×Option Nat)}{num:d_->Int}{bl:Nat->c_}{no:b_ d_}{L:b_ GE}{N:Nat}
theorem uP (G:GS β m A Mb Ms num bl last cnt z no gl L N Z)(K8:Z st=a_ (.inst 799 sd (gr β.hp gl)))(Q9:∀e∈L,e.nm≠nm)(hl:L.length<=5)(n1:gl≠β.pl)(n2:gl≠β.em)(Za3:((m+Ms.length:Nat):Int)<=last)
 (h:∀Z' g s N',GS β m A Mb Ms num bl (last+1+1) cnt z no gl (L++[⟨nm,g,s,last+1,h_⟩]) N' Z'->Fg gl Z Z'->isNew Z s->Q (.ref s) Z'):aI KC (aJ KC 4) 2 768 [.ref st,.str nm 0] Z Q:=by
 intros z gl st sd last m Z nm Q Mb cnt β A Ms num bl no L N;refine zF K8 G.gl (oq L) (uO Q9) (by unfold fy;rw[b'];walk_at "o") (C' _) G.bd.hh λZ' g dg gw s ds sl N' hg hgw hs OH ns1 ns2 ns3 ns4 ns5 ns6 hF eg egw es esl egl eh=>?_;intros Z' g dg gw s ds sl N';have hW:∀a∈[β.hp,gl],ic β m A Ms no Z a:=λa ha=>by
  rcases f_.mp ha with rfl|ha
  ·exact .inr (.inl rfl)
  ·rw[g_]at ha
   subst ha;exact .inr (.inr (.inr ⟨⟨_,G.gl,ae,ae,ae,ae,ae⟩,n1,n2,λx hx=>iG G.gl (G.bd.kS (a:=x.1) (tg:=x.2) hx) rfl⟩))
 have B2:=G.bd.upd (Mb':=Mb) (bl':=bl) (cnt':=cnt) hF hW eh (λp hp hm=>by
  refine ac (G.bd.kA hp) λo eo ko=>?_;rcases f_.mp hm with hm|hm
  ·exact absurd hm (ag eo G.bd.hh (by exact ko▸rfl))
  ·exact absurd (g_.mp hm) (ag eo G.gl (by exact ko▸rfl))) (λU U U=>⟨rfl,rfl,rfl⟩)
 have LY:Fg gl Z Z':=λa o e k1 k2 n=>hF.get e (by
  intro hm;rcases f_.mp hm with rfl|hm
  ·rw[G.bd.hh]at e;cases e;exact k2 rfl
  ·exact n (g_.mp hm))
 refine h Z' g s N' ⟨B2,?_,λe he=>?_,λe he=>?_,λe he=>?_,?_⟩ LY hs
 ·rw[egl,AK Q9];unfold fy;rw[r_];rfl
 ·rcases s_.mp he with he|he
  ·refine cS (G.g e he) λd wk e1=>?_
   exact⟨d,wk,LY _ _ e1 ae ae (ag e1 G.gl)⟩
  ·rw[g_]at he
   subst he;exact⟨dg,gw,eg⟩
 ·intros e
  rcases s_.mp he with he|he
  ·refine xA (G.s e he) ?_;rintro⟨d,wk,v,e1,e2⟩ e3
   exact⟨⟨d,wk,v,LY _ _ e1 ae ae (ag e1 G.gl),e2.frm λrf rd fl e=>LY _ _ e ae ae (ag e G.gl)⟩,e3⟩
  ·rw[g_]at he
   subst he;refine⟨⟨ds,sl,.none,es,rfl⟩,λx hx=>?_⟩;refine ac (G.bd.kS (a:=x.1) (tg:=x.2) hx) λo eo U=>?_;exact(aq hs eo).symm
 ·rcases s_.mp he with he|he
  ·have:=G.num e he
   exact⟨this.1,by walk_at "cq"⟩
  ·rw[g_]at he
   subst he;exact⟨by dsimp only;walk_at "a",by dsimp only;walk_at "U"⟩
 ·rw[Ec]
  refine⟨G.ord,by simp,λe he f hf=>?_⟩;rw[g_]at hf;subst hf;have:=(G.num e he).2;dsimp only;walk_at "a"
theorem AL {e:GE}(G:GS β m A Mb Ms num bl last cnt z no gl (L++[e]) N Z)(ht:e.tg=h_)(KV:Z rf=a_ (.inst 162 rd (gq (A q))))(hq:q<m)(inj:∀p,p<m->A p=A q->p=q)
 (h:∀Z',GS β m A Mb Ms num bl last (λp=>if p=q then cnt q+1 else cnt p) z no gl (L++[{e with tg:=a_ q}]) N Z'->ai [e.s,A q] Z Z'->Q .none Z'):aI KC (aJ KC 3) 3 363 [.ref β.c,.ref e.s,.ref rf] Z Q:=by
 intros z rd gl rf last m q Z Q Mb cnt β A Ms num bl no L N e;refine xA (G.s e (by simp)) ?_;rintro⟨d,wk,v,es,hv⟩ hk;intros d wk v;rw[ht]at hv;rw[show v=.none from hv]at es;refine fL (G.bd.ar q hq) λdq wq iq e1 e2 e3 e4 e5=>?_;intros dq wq iq;refine tV G.bd.hc G.bd.hpl G.bd.hem KV es e1 rfl (by simp[cX]) (ag KV e1) (ag G.bd.hc e1) (ag es e1) λZ' hF KQ ex'=>?_;intros Z';have hW:∀a∈[e.s,A q],ic β m A Ms no Z a:=λa ha=>by
  rcases f_.mp ha with rfl|ha
  ·exact .inr (.inr (.inr ⟨⟨_,es,ae,ae,ae,ae,ae⟩,ag es G.bd.hpl,ag es G.bd.hem,hk⟩))
  ·exact .inr (.inr (.inl ⟨q,hq,g_.mp ha⟩))
 have out:∀ {a o},Z a=a_ o->kd o≠76->kd o≠95->Z' a=a_ o:=λ{a o} ea k1 k2=>hF.get ea (by exact cJ (cA ea es (λq=>k1 (q▸rfl))) (cA ea e1 (λq=>k2 (q▸rfl))));have B2:=G.bd.upd (Mb':=Mb) (bl':=bl) (last':=last) (cnt':=λp=>if p=q then cnt q+1 else cnt p) hF hW (out G.bd.hh ae ae) (λp hp hm=>by
  rcases f_.mp hm with hm|hm
  ·refine ac (G.bd.kA hp) λo eo ko=>?_
   exact absurd hm (ag eo es (by exact ko▸rfl))
  ·have:=inj p hp (g_.mp hm)
   subst this;refine⟨dq,wq,iq,?_,out e2 ae ae,e3,out e4 ae ae,e5⟩;dsimp only;rw[z_ rfl];exact ex') (λp hp hm=>⟨p_ λe=>hm (by rw[e];exact .tail _ (.head _)),rfl,rfl⟩)
 refine h Z' ⟨B2,?_,λf hf=>?_,λf hf=>?_,λf hf=>?_,?_⟩ hF
 ·rw[out G.gl ae ae];unfold fy;rw[r_,r_];rfl
 ·have hg:∀f∈L++[e],∃d wk,Z' f.g=a_ (.inst 142 d (ax f.gn 0 .none wk g' g' (dC f.nm (.ref f.s)))):=λf hf=>by
   refine cS (G.g f hf) λd wk ef=>?_;exact⟨d,wk,out ef ae ae⟩
  rcases s_.mp hf with hf|hf
  ·exact hg f (y' _ hf)
  ·rw[g_]at hf
   subst hf;exact hg e (by simp)
 ·intros f
  rcases s_.mp hf with hf|hf
  ·refine xA (G.s f (y' _ hf)) ?_;rintro⟨d',KE,v',f1,f2⟩ f3
   have nfe:f.s≠e.s:=cA f1 es λh=>by
    unfold bU ax at h
    injection h with _ _ h
    injection h with h _
    injection h with _ h
    injection h with h
    have h1:=G.ord;rw[Ec]at h1;have:=h1.2.2 f hf e (by exact .head _);walk_at "o"
   refine⟨⟨d',KE,v',hF.get f1 (by exact cJ nfe (ag f1 e1)),f2.frm λrf rd fl e=>out e ae ae⟩,f3⟩
  ·rw[g_]at hf
   subst hf;exact⟨⟨d,wk,.ref rf,KQ,rf,rd,rfl,out KV ae ae⟩,hk⟩
 ·rcases s_.mp hf with hf|hf
  ·exact G.num f (y' _ hf)
  ·rw[g_]at hf
   subst hf;exact G.num e (by simp)
 ·have h1:=G.ord
  rw[Ec]at h1⊢;refine⟨h1.1,by simp,λf hf g hg=>?_⟩;rw[g_]at hg;subst hg;exact h1.2.2 f hf e (by exact .head _)
end
section
variable{T:a6}
theorem AM {x:d_}(h1:Z x=a_ (.lst xs))(h:∀m,isNew Z m->Q (.ref m) (Z.set m (.bm "list.append" x))):gF Z (.ref x) "append" Q:=by
 unfold gF;dsimp only;rw[h1];exact⟨rfl,h⟩
end
structure E0 (mn cl:d_)(cells:b_ c_)(kn ba fr:d_)(kin:b_ (b_ Nat))(bs:b_ Dm)(firm:b_ Int)(c1 c2 c3 c4 c5 c6:d_)(v3 v4 v5:m_ c_)(Z:ak):Prop where
 rows:jA Z kn kin
 hba:Z ba=a_ (.lst (bs.map .bool))
 hfr:Z fr=a_ (.lst (firm.map vI))
 x1:Z c1=a_ (.cel h_)
 x2:Z c2=a_ (.cel h_)
 x3:Z c3=a_ (.cel v3)
 x4:Z c4=a_ (.cel v4)
 x5:Z c5=a_ (.cel v5)
 x6:Z c6=a_ (.cel (a_ (.ref ba)))
 hcl:Z cl=a_ (.lst cells)
 hmn:∃d N,0<=d/\d<=200/\Z mn=a_ (.dic [(.str "cells" 0,.ref cl),(.str "deep" 0,.int d 0)] N)
section
variable{cl:d_}{kn fr:d_}{c5:d_}{v4 v5:m_ c_}
theorem E0.keep (h:E0 mn cl cells kn ba fr kin bs firm c1 c2 c3 c4 c5 c6 v3 v4 v5 Z)(k:∀a o,Z a=a_ o->kd o=1\/kd o=4\/a=mn->Z' a=a_ o):E0 mn cl cells kn ba fr kin bs firm c1 c2 c3 c4 c5 c6 v3 v4 v5 Z' where
 rows:=by
  refine dm h.rows λrows h1 h2 h3=>?_;refine⟨rows,k _ _ h1 (.inl rfl),h2,λi row e=>?_⟩;refine ac (h3 i row e) λa e1 e2=>?_;exact⟨a,e1,k _ _ e2 (.inl rfl)⟩
 hba:=k _ _ h.hba (.inl rfl)
 hfr:=k _ _ h.hfr (.inl rfl)
 x1:=k _ _ h.x1 (.inr (.inl rfl))
 x2:=k _ _ h.x2 (.inr (.inl rfl))
 x3:=k _ _ h.x3 (.inr (.inl rfl))
 x4:=k _ _ h.x4 (.inr (.inl rfl))
 x5:=k _ _ h.x5 (.inr (.inl rfl))
 x6:=k _ _ h.x6 (.inr (.inl rfl))
 hcl:=k _ _ h.hcl (.inl rfl)
 hmn:=by
  refine bW h.hmn λd N h1 h2 h3=>?_;exact⟨d,N,h1,h2,k _ _ h3 (.inr (.inr rfl))⟩
theorem E0.frm {W:b_ d_}(h:E0 mn cl cells kn ba fr kin bs firm c1 c2 c3 c4 c5 c6 v3 v4 v5 Z)(hF:ai W Z Z')(hW:∀a∈W,∃o,Z a=a_ o/\kd o≠1/\kd o≠4/\a≠mn):E0 mn cl cells kn ba fr kin bs firm c1 c2 c3 c4 c5 c6 v3 v4 v5 Z':=
 h.keep λa o e kk=>hF.get e λhm=>by
  refine dZ (hW a hm) λo' e' k1 k2 k3=>?_;rw[e]at e';cases e';rcases kk with q|q|q
  ·exact k1 q
  ·exact k2 q
  ·exact k3 q
theorem E0.new (h:E0 mn cl cells kn ba fr kin bs firm c1 c2 c3 c4 c5 c6 v3 v4 v5 Z){o:O}(hl:isNew Z l):E0 mn cl cells kn ba fr kin bs firm c1 c2 c3 c4 c5 c6 v3 v4 v5 (Z.set l o):=h.keep λU U e U=>ao hl e
theorem jA.set (h:jA Z kn kin)(hc:Z c=a_ o)(hk:kd o≠1):jA (Z.set c o') kn kin:=by
 refine dm h λrows h1 h2 h3=>?_;clear h;refine⟨rows,ap (cA h1 hc λq=>hk (q▸rfl)) h1,h2,λi row e=>?_⟩;refine ac (h3 i row e) λa e1 e2=>?_;exact⟨a,e1,ap (cA e2 hc λq=>hk (q▸rfl)) e2⟩
theorem E0.set3 (h:E0 mn cl cells kn ba fr kin bs firm c1 c2 c3 c4 c5 c6 v3 v4 v5 Z)(v:c_)(n1:c1≠c3)(n2:c2≠c3)(n4:c4≠c3)(n5:c5≠c3)(n6:c6≠c3):E0 mn cl cells kn ba fr kin bs firm c1 c2 c3 c4 c5 c6 (a_ v) v4 v5 (Z.set c3 (.cel (a_ v))):=
 ⟨h.rows.set h.x3 ae,ap (ag h.hba h.x3) h.hba,ap (ag h.hfr h.x3) h.hfr,ap n1 h.x1,ap n2 h.x2,ad _ _ _,ap n4 h.x4,ap n5 h.x5,ap n6 h.x6,ap (ag h.hcl h.x3) h.hcl,by
  refine bW h.hmn λd N h1 h2 h3=>?_;exact⟨d,N,h1,h2,ap (ag h3 h.x3) h3⟩⟩
theorem E0.set4 (h:E0 mn cl cells kn ba fr kin bs firm c1 c2 c3 c4 c5 c6 v3 v4 v5 Z)(v:c_)(n1:c1≠c4)(n2:c2≠c4)(n3:c3≠c4)(n5:c5≠c4)(n6:c6≠c4):E0 mn cl cells kn ba fr kin bs firm c1 c2 c3 c4 c5 c6 v3 (a_ v) v5 (Z.set c4 (.cel (a_ v))):=
 ⟨h.rows.set h.x4 ae,ap (ag h.hba h.x4) h.hba,ap (ag h.hfr h.x4) h.hfr,ap n1 h.x1,ap n2 h.x2,ap n3 h.x3,ad _ _ _,ap n5 h.x5,ap n6 h.x6,ap (ag h.hcl h.x4) h.hcl,by
  refine bW h.hmn λd N h1 h2 h3=>?_;exact⟨d,N,h1,h2,ap (ag h3 h.x4) h3⟩⟩
theorem E0.set5 (h:E0 mn cl cells kn ba fr kin bs firm c1 c2 c3 c4 c5 c6 v3 v4 v5 Z)(v:c_)(n1:c1≠c5)(n2:c2≠c5)(n3:c3≠c5)(n4:c4≠c5)(n6:c6≠c5):E0 mn cl cells kn ba fr kin bs firm c1 c2 c3 c4 c5 c6 v3 v4 (a_ v) (Z.set c5 (.cel (a_ v))):=
 ⟨h.rows.set h.x5 ae,ap (ag h.hba h.x5) h.hba,ap (ag h.hfr h.x5) h.hfr,ap n1 h.x1,ap n2 h.x2,ap n3 h.x3,ap n4 h.x4,ad _ _ _,ap n6 h.x6,ap (ag h.hcl h.x5) h.hcl,by
  refine bW h.hmn λd N h1 h2 h3=>?_;exact⟨d,N,h1,h2,ap (ag h3 h.x5) h3⟩⟩
end
theorem dO {x:d_}(hx:isNew Z x)(hF:ai [x] (Z.set x o) Z1):ai [] Z Z1:=λb o' nb e=>hF b o' (by exact aE (aq hx e)) (ao hx e)
noncomputable def lR (c1 c2 c3 c4 c5 c6:d_):b_ (Str×Addr):=[("counts",c1),("gone",c2),("arrays",c3),("counter",c4),("heap",c5),("blessed",c6)]
noncomputable def cZ:Str:="main::a"
noncomputable def ee:Str:="Other::b"
section
variable{cl:d_}{kn fr:d_}{c5:d_}{v4 v5:m_ c_}
theorem E0.fx (h:E0 mn cl cells kn ba fr kin bs firm c1 c2 c3 c4 c5 c6 v3 v4 v5 Z)(hX:Fx [] Z Z'):E0 mn cl cells kn ba fr kin bs firm c1 c2 c3 c4 c5 c6 v3 v4 v5 Z':=
 h.keep λa o e kk=>by
  have key:kd o=1\/kd o=4\/kd o=3:=by
   rcases kk with q|q|q
   ·exact .inl q
   ·exact .inr (.inl q)
   ·refine bW h.hmn λd N U U e2=>?_
    rw[q,e2]at e;cases e;exact .inr (.inr rfl)
  exact hX a o e (by walk_at "i") (by walk_at "i") (by walk_at "i") (by walk_at "i") aj
theorem E0.fg (h:E0 mn cl cells kn ba fr kin bs firm c1 c2 c3 c4 c5 c6 v3 v4 v5 Z)(hX:Fg gl Z Z')(hm:mn≠gl){N:Nat}(hg:Z gl=a_ (.dic es N)):E0 mn cl cells kn ba fr kin bs firm c1 c2 c3 c4 c5 c6 v3 v4 v5 Z':=
 h.keep λa o e kk=>by
  rcases kk with q|q|q
  ·exact hX a o e (by walk_at "o") (by walk_at "o") (cA e hg λw=>by rw[w]at q;exact absurd q ae)
  ·exact hX a o e (by walk_at "o") (by walk_at "o") (cA e hg λw=>by rw[w]at q;exact absurd q ae)
  ·refine bW h.hmn λd N U U e2=>?_
   rw[q]at e⊢;rw[e2]at e;cases e;exact hX _ _ e2 ae ae hm
end
theorem Fx.fg (h:Fk Z Z'):Fg gl Z Z':=λa o e k1 k2 U=>h a o e k1 k2
structure jh (kn fr sn rn nl:d_)(fresh:Int)(loc:b_ (Str×Value)):Prop where
 kin:loc.lookup ("kin":Str)=a_ (.ref kn)
 firm:loc.lookup ("firm":Str)=a_ (.ref fr)
 fresh:loc.lookup ("fresh":Str)=a_ (.int fresh 0)
 sent:loc.lookup ("sent":Str)=a_ (.ref sn)
 run:loc.lookup ("run":Str)=a_ (.ref rn)
 names:loc.lookup ("names":Str)=a_ (.ref nl)
theorem jh.put {kn fr sn:d_}(h:jh kn fr sn rn nl fresh loc)(x:Str)(v:c_)(hx:x∉["kin","firm","fresh","sent","run","names"].map (Ev ·):=by decide):jh kn fr sn rn nl fresh (aL x v loc):=by
 simp only [n_,Ga,f_,aj,Ez,GH]at hx;refine gz hx λh1 h2 h3 h4 h5 h6=>?_;clear hx;exact⟨by exact et h.kin (Ex h1),by exact et h.firm (Ex h2),by exact et h.fresh (Ex h3),by exact et h.sent (Ex h4),by exact et h.run (Ex h5),by exact et h.names (Ex h6)⟩
structure Cl (c1 c2 c3 c4 c5 c6:d_):Prop where
 n12:c1≠c2
 n13:c1≠c3
 n14:c1≠c4
 n15:c1≠c5
 n16:c1≠c6
 n23:c2≠c3
 n24:c2≠c4
 n25:c2≠c5
 n26:c2≠c6
 n34:c3≠c4
 n35:c3≠c5
 n36:c3≠c6
 n45:c4≠c5
 n46:c4≠c6
 n56:c5≠c6
structure Drawn (kin:b_ (b_ Nat))(bs:b_ Dm)(firm:b_ Int)(fresh:Int):Prop where
 k1:1<=kin.length
 k8:kin.length<=8
 kr:∀r∈kin,r.length<=2/\∀y∈r,y<kin.length
 hbl:bs.length=kin.length
 hfl:firm.length=2
 hfx:∀x∈firm, -1<=x/\x<kin.length
 hf0: -1<=fresh
 hf1:fresh<kin.length
set_option genInjectivity false
set_option genSizeOf false
structure dK where
 mn:d_
 cl:d_
 cells:b_ c_
 kn:d_
 ba:d_
 fr:d_
 rows:b_ d_
 kin:b_ (b_ Nat)
 bs:b_ Dm
 firm:b_ Int
 fresh:Int
 c1:d_
 c2:d_
 c3:d_
 c4:d_
 c5:d_
 c6:d_
 β:Bs
 z:d_
 gl:d_
 saves:d_
 st:d_
 sd:d_
 rn:d_
 rd:d_
 fl:b_ (Str×Value)
theorem C8:Dr dK:=Ax.elim λb=>⟨by constructor<;>first |exact b|exact default⟩
noncomputable def dK.no (F:dK):b_ d_:=[F.z,F.β.sent,F.saves]
structure jF (F:dK):Prop where
 na:∀a,a∈F.kn::F.ba::F.fr::F.cl::F.rows->a∉F.no
 D:Cl F.c1 F.c2 F.c3 F.c4 F.c5 F.c6
 dr:Drawn F.kin F.bs F.firm F.fresh
 h850:850<=F.β.dsA
 nzs:F.z≠F.β.sent
 nvz:F.saves≠F.z
 nvs:F.saves≠F.β.sent
 ngp:F.gl≠F.β.pl
 nge:F.gl≠F.β.em
 ngm:F.mn≠F.gl
 f1:F.fl.lookup ("counter":Str)=a_ (.ref F.β.c)
 f2:F.fl.lookup ("saves":Str)=a_ (.ref F.saves)
 f3:F.fl.lookup ("stash":Str)=a_ (.ref F.st)
structure eH (F:dK)(v3:m_ c_)(Z:ak):Prop where
 e:E0 F.mn F.cl F.cells F.kn F.ba F.fr F.kin F.bs F.firm F.c1 F.c2 F.c3 F.c4 F.c5 F.c6 v3 (a_ (.ref F.β.c)) (a_ (.ref F.β.hp)) Z
 z:Z F.z=a_ (.lst [])
 sn:Z F.β.sent=a_ (.lst [])
 sv:Z F.saves=a_ (.lst [])
 st:Z F.st=a_ (.inst 799 F.sd (gr F.β.hp F.gl))
 rn:Z F.rn=a_ (.inst 714 F.rd F.fl)
 knr:Z F.kn=a_ (.lst (F.rows.map .ref))
theorem eH.fx {F:dK}(h:eH F v3 Z)(hX:Fx [] Z Z'):eH F v3 Z':=
 ⟨h.e.fx hX,hX _ _ h.z ae ae ae ae aj,hX _ _ h.sn ae ae ae ae aj,hX _ _ h.sv ae ae ae ae aj,
  hX _ _ h.st ae ae ae ae aj,hX _ _ h.rn ae ae ae ae aj,hX _ _ h.knr ae ae ae ae aj⟩
theorem eH.fg {F:dK}(h:eH F v3 Z)(ok:jF F)(hX:Fg F.gl Z Z'){N:Nat}(hg:Z F.gl=a_ (.dic es N)):eH F v3 Z':=
 ⟨h.e.fg hX ok.ngm hg,hX _ _ h.z ae ae (ag h.z hg),hX _ _ h.sn ae ae (ag h.sn hg),hX _ _ h.sv ae ae (ag h.sv hg),
  hX _ _ h.st ae ae (ag h.st hg),hX _ _ h.rn ae ae (ag h.rn hg),hX _ _ h.knr ae ae (ag h.knr hg)⟩
theorem eH.new {F:dK}(h:eH F v3 Z){o:O}(hl:isNew Z l):eH F v3 (Z.set l o):=h.fx ((Fx.refl [] Z).new hl)
theorem eH.set3 {F:dK}(h:eH F v3 Z)(ok:jF F)(v:c_):eH F (a_ v) (Z.set F.c3 (.cel (a_ v))):=
 ⟨h.e.set3 v ok.D.n13 ok.D.n23 ok.D.n34.symm ok.D.n35.symm ok.D.n36.symm,ap (ag h.z h.e.x3) h.z,ap (ag h.sn h.e.x3) h.sn,ap (ag h.sv h.e.x3) h.sv,ap (ag h.st h.e.x3) h.st,ap (ag h.rn h.e.x3) h.rn,ap (ag h.knr h.e.x3) h.knr⟩
theorem eH.hno {F:dK}(h:eH F v3 Z):∀a∈F.no,∃xs,Z a=a_ (.lst xs):=λa ha=>by
 simp only [dK.no,f_,aj,Ez]at ha;rcases ha with rfl|rfl|rfl
 ·exact⟨_,h.z⟩
 ·exact⟨_,h.sn⟩
 ·exact⟨_,h.sv⟩
structure S3 (F:dK)(A:Nat->d_)(Mb:Nat->b_ d_)(Ms:b_ (Addr×Option Nat))(num:d_->Int)(last:Int)(cnt:Nat->Int)(L:b_ GE)(N:Nat)(Mt:Nat->b_ (Addr×Option Nat))(al nl:d_)(loc:b_ (Str×Value))(Z:ak):Prop where
 b:eH F (a_ (.ref al)) Z
 g:GS F.β F.kin.length A Mb Ms num (dE F.bs) last cnt F.z F.no F.gl L N Z
 p:BP F.kin.length A Ms num (F.kin.length+Ms.length:Nat)
 hl:((F.kin.length+Ms.length:Nat):Int)<=last
 k:KB F.kin.length Mb Ms F.kin Mt
 hal:Z al=a_ (.lst ((A' F.kin.length).map λp=>.ref (A p)))
 hnl:Z nl=a_ (.lst [.str cZ 0,.str ee 0])
 hloc:jh F.kn F.fr F.β.sent F.rn nl F.fresh loc
 nal:al∉F.no
 nnl:nl∉F.no
 sub:(L.map (λp=>p.nm)).Sublist [cZ,ee]\/(L.map (λp=>p.nm)).Sublist [ee,cZ]
noncomputable def dK.cel (F:dK):b_ (Str×Addr):=lR F.c1 F.c2 F.c3 F.c4 F.c5 F.c6
theorem AO {Ms:b_ (Addr×Option Nat)}(K:KB m Mb Ms kin Mt)(firm:b_ Int)(p:Nat):base kin firm [] p=firm.count (p:Int)+(bF Ms).count p:=by
 rw[uG];congr 1;have h1:∀l:b_ Nat,(∀q∈l,q<m)->bF (l.flatMap Mt)=l.flatMap (row kin):=λl=>by
  induction l with
  |nil=>intro _;rfl
  |cons q l ih=>
   intro hl;rw[DD,DD,uN,ih λq hq=>hl q (.tail _ hq),qI (K.tg q (hl q (.head _)))]
 rw[K.ms,h1 _ λq hq=>Dq.mp hq,List.count_flatMap];congr 1;refine GR λi=>?_;rw[k_,k_];by_cases hi:i<kin.length
 ·rw[D9 (by have:=K.km;walk_at "a"),w_ hi]
  show a_ (kin[i].count p)=a_ ((row kin i).count p);unfold row;rw[w_ hi];rfl
 ·rw[DS (by walk_at "a"),DS (by have:=K.km;simp;walk_at "bz")];rfl
theorem GS.more {β:Bs}{A:Nat->d_}{Ms:b_ (Addr×Option Nat)}{num:d_->Int}{bl:Nat->c_}{no:b_ d_}{L:b_ GE}{N:Nat}(G:GS β m A Mb Ms num bl last cnt z no gl L N Z)(hF:ai [] Z Z'):GS β m A Mb Ms num bl last cnt z no gl L N Z' where
 bd:=G.bd.more hF
 gl:=hF.get G.gl aj
 g e he:=by
  refine cS (G.g e he) λd wk e1=>?_;exact⟨d,wk,hF.get e1 aj⟩
 s e he:=by
  revert G hF;intros z gl last m Z Z' Mb cnt β A Ms num bl no L N e;refine xA (G.s e he) ?_;rintro⟨d,wk,v,e1,e2⟩ e3;exact⟨⟨d,wk,v,hF.get e1 aj,e2.frm λrf rd fl e=>hF.get e aj⟩,e3⟩
 num:=G.num
 ord:=G.ord
structure Cm (F:dK)(A:Nat->d_)(Mb:Nat->b_ d_)(Ms:b_ (Addr×Option Nat))(num:d_->Int)(i:Nat)(last:Int)(cnt:Nat->Int)(L:b_ GE)(N:Nat)(Z:ak):Prop where
 g:GS F.β F.kin.length A Mb Ms num (dE F.bs) last cnt F.z F.no F.gl L N Z
 hl:((F.kin.length+Ms.length:Nat):Int)<=last
 sub:(L.map (λp=>p.nm)).Sublist ([cZ,ee].take i)
 tg:∀e∈L,∃q,e.tg=a_ q/\q<F.kin.length/\(q:Int)∈F.firm
 cov:∀p:Nat,(p:Int)∈F.firm.take i->∃e∈L,e.tg=a_ p
 cnt:∀p,p<F.kin.length->cnt p=((bF Ms).count p+(F.firm.take i).count (p:Int):Nat)
theorem AP {F:dK}{N9:Nat}(ok:jF F)(b:eH F h_ Z)(h1:Z F.β.hp=a_ (.inst 225 F.β.dh (bN F.β.lim 0 F.z)))(h4:Z F.β.c=a_ (.inst 401 F.β.dc (dM F.β.hp F.β.dsA F.β.pl F.β.em)))(h5:Z F.β.pl=a_ (.dic [] F.β.np))(h6:Z F.β.em=a_ (.dic [] F.β.ne))(h7:Z F.β.dsA=a_ (.bm "list.append" F.β.sent))(h9:Z F.gl=a_ (.dic [] N9))
 (rest:∀A Mb Ms num last cnt L N Mt al nl e0 loc Z',S3 F A Mb Ms num last cnt L N Mt al nl loc Z'->e0∈L->e0.nm=cZ->loc.lookup ("kept":Str)=a_ (.ref e0.s)->(∀p,p<F.kin.length->cnt p=(base F.kin F.firm [] p:Nat))->(∀e∈L,∀q,e.tg=a_ q->q<F.kin.length/\(q:Int)∈F.firm)->(∀p:Nat,(p:Int)∈F.firm->∃e∈L,e.tg=a_ p)->
  au (aT (aJ KC 7) 60 60) ((cV KC 844).drop 9) (cR KC 844) ⟨loc,F.cel⟩ Z' (iz Q)):
 au (aT (aJ KC 7) 60 60) ((cV KC 844).drop 4) (cR KC 844) ⟨[("mine",.ref F.mn),("kin",.ref F.kn),("firm",.ref F.fr),("fresh",.int F.fresh 0),("sent",.ref F.β.sent),("run",.ref F.rn)],F.cel⟩ Z (iz Q):=by
 intros Z Q F N9;refine dm b.e.rows λrows KH Nb K1=>?_;intros rows;have J6:(rows.map (Di)).length=F.kin.length:=by rw[b',Nb]
 have k8:=ok.dr.k8;have hno:=b.hno;refine a8 (dD (cl:=[("heap",F.c5)]) rfl (aA rfl (af (aA rfl (af (aa (aB rfl rfl) (am (bH (gu KH (by walk_at "e") (am (fT (by walk_at "b") (by walk_at "f") λlr Kd=>?_)))))))))));intros lr;have B0:Bd F.β 0 (λU=>0) (λU=>[]) [] (λU=>0) (λU=>.none) 0 (λU=>0) F.z F.no (Z.set lr (.rng ((rows.map (Di)).length:Int))):=⟨ao Kd h4,ao Kd h5,ao Kd h6,ao Kd h7,ao Kd h1,λp hp=>absurd hp (Iu p),by simp⟩;have b1:=b.new (o:=.rng ((rows.map (Di)).length:Int)) Kd;have g1:=ao (o':=.rng ((rows.map (Di)).length:Int)) Kd h9;have Qm:(Z.set lr (.rng ((rows.map (Di)).length:Int))) lr=a_ (.rng (F.kin.length:Int)):=by rw[ad,J6]
 generalize (Z.set lr _)=Z1 at B0 b1 g1 Qm⊢;refine AH (xs:=[]) B0 Qm (by walk_at "o") (λa ha=>by refine xE (b1.hno a ha) λxs e=>?_;exact⟨_,e⟩) rfl b1.e.x5 rfl rfl rfl rfl rfl λZ2 A al B2 P2 VF Xw Qp=>fH rfl rfl (b1.fx VF).e.x3 ?_;intros Z2 A al;have nal:al∉F.no:=λhm=>by
  refine xE (b1.hno al hm) λxs e=>?_;exact aq Xw e rfl
 have b2:=b1.fx VF;have g2:=VF _ _ g1 ae ae ae ae aj;have b3:=b2.set3 ok (.ref al);have cJ:∃num,num=cD Z2:=⟨_,rfl⟩;refine xE cJ λnum LU=>?_;intros num;clear cJ;rw[<-LU]at B2 P2;have B3:=B2.upd (Mb':=λU=>[]) (bl':=λU=>.none) (last':=(F.kin.length:Int)) (cnt':=λU=>0) ((ai.refl [F.c3] Z2).set (o:=.cel (a_ (.ref al))) (.head _)) (λa ha=>by
  rw[g_]at ha;subst ha;exact .inr (.inr (.inr ⟨⟨_,b2.e.x3,ae,ae,ae,ae,ae⟩,ag b2.e.x3 B2.hpl,ag b2.e.x3 B2.hem,by exact aW⟩))) (ap (ag B2.hh b2.e.x3) B2.hh) (λp hp hm=>by
  refine ac (B2.kA hp) λo eo ko=>?_;exact absurd (g_.mp hm) (ag eo b2.e.x3 (by rw[ko];rfl))) (λU U U=>⟨rfl,rfl,rfl⟩)
 have PD:(Z2.set F.c3 (.cel (a_ (.ref al)))) al=a_ (.lst ((A' F.kin.length).map λp=>.ref (A p))):=ap (ag Qp b2.e.x3) Qp;have g3:(Z2.set F.c3 (.cel (a_ (.ref al)))) F.gl=a_ (.dic [] N9):=ap (ag g2 b2.e.x3) g2;generalize (Z2.set F.c3 _)=Z3 at b3 B3 PD g3⊢;clear B0 B2 b1 b2 g1 g2 VF Qp Qm LU KH K1;refine dm b3.e.rows λLi MI V1 U=>?_;intros Li;have UB:(Li.map (Di)).length=F.kin.length:=by rw[b',V1]
 refine eV (aA rfl (af (aA rfl (af (aa (aB rfl rfl) (am (bH (gu MI (by walk_at "e") (am (fT (by walk_at "b") (by walk_at "f") λVB Nt=>?_))))))))));have b4:=b3.new (o:=.rng ((Li.map (Di)).length:Int)) Nt;have B4:=B3.more ((ai.refl [] Z3).new (o:=.rng ((Li.map (Di)).length:Int)) Nt);have g4:=ao (o':=.rng ((Li.map (Di)).length:Int)) Nt g3;have No:=ao (o':=.rng ((Li.map (Di)).length:Int)) Nt PD;have ON:(Z3.set VB (.rng ((Li.map (Di)).length:Int))) VB=a_ (.rng (F.kin.length:Int)):=by rw[ad,UB]
 generalize (Z3.set VB _)=Z4 at B4 b4 g4 No ON⊢;refine AJ B4 P2 b4.e.rows rfl (by walk_at "o") ok.dr.kr b4.hno b4.e.hba ok.dr.hbl No ON rfl rfl rfl rfl b4.e.x3 b4.e.x4 b4.e.x6 rfl (λloc=>rfl) rfl rfl rfl rfl rfl rfl rfl rfl λVj Z5 Mb Ms Nh Mt LN ME B5 P5 K5 Ke=>?_;revert Nt B4 b4 g4 No ON;intros VB Z4 Vj Z5 Mb Ms Nh Mt;obtain⟨OI,Xu⟩:=Vj;intros OI Xu;dsimp only at LN ME;subst LN;have b5:=b4.fx Ke.x;have g5:=Ke _ _ g4 ae ae;have Tf:=Ke _ _ No ae ae;clear B3 B4 b3 b4 g3 g4 PD No Ke ON MI;refine a8 (fe (af (bJ (af (bJ (am ⟨by simp,λnl hnl=>aV rfl ?_⟩))))));intros nl;have nnl:nl∉F.no:=λhm=>by
  refine xE (b5.hno nl hm) λxs e=>?_;exact aq hnl e rfl
 have b6:=b5.new (o:=.lst [.str cZ 0,.str ee 0]) hnl;have B6:=B5.more ((ai.refl [] Z5).new (o:=.lst [.str cZ 0,.str ee 0]) hnl);have g6:=ao (o':=.lst [.str cZ 0,.str ee 0]) hnl g5;have PB:=ao (o':=.lst [.str cZ 0,.str ee 0]) hnl Tf;have QM:=ad Z5 nl (.lst [.str cZ 0,.str ee 0]);show au _ _ _ ⟨aL "names" (.ref nl) OI,F.cel⟩ (Z5.set nl (.lst [.str cZ 0,.str ee 0])) _;generalize (Z5.set nl _)=Z6 at b6 B6 g6 PB QM⊢;have L6:jh F.kn F.fr F.β.sent F.rn nl F.fresh (aL "names" (.ref nl) OI):=by
  refine⟨?_,?_,?_,?_,?_,by exact d6⟩ <;> (rw[dj,p_ (by decide),ME _ (by decide)];rfl)
 generalize aL "names" (.ref nl) OI=aa7 at L6⊢;clear ME B5 b5 g5 Tf;have G6:GS F.β F.kin.length A Mb Ms Nh (dE F.bs) ((F.kin.length+Ms.length:Nat):Int) (λp=>((bF Ms).count p:Nat)) F.z F.no F.gl [] N9 Z6:=⟨B6,g6,by exact aW,by exact aW,by exact aW,by simp⟩;refine eV (aA rfl (af (aK (am (fT (by decide) (by decide) λlt K7=>?_)))));intros lt;have b7:=b6.new (o:=.rng 2) K7;have Oy:ai [] Z6 (Z6.set lt (.rng 2)):=(ai.refl [] Z6).new K7;have G7:=G6.more Oy;have Nn:=Oy.get PB aj;have NF:=Oy.get QM aj;have NK:=ad Z6 lt (.rng 2);generalize (Z6.set lt _)=Z7 at b7 G7 Nn NF NK⊢;clear Oy G6 b6 B6 g6 PB QM;have M5:cZ≠ee:=by decide
 refine gp (fS NK) (by simp) rfl (λi JN Z'=>JN.cel=F.cel/\jh F.kn F.fr F.β.sent F.rn nl F.fresh JN.loc/\Fg F.gl Z7 Z'/\∃last cnt L N,Cm F A Mb Ms Nh i last cnt L N Z') ⟨rfl,L6,Fg.refl _ _,_,_,[],N9,⟨G7,IO _,by simp,by exact aW,by simp,by simp⟩⟩ (λi JN Z' hI=>?_) (λi y JN Z' hy hI Qz Kz=>?_) (λJN Z' hI=>?_)
 ·show Z' lt=Z7 lt
  exact(hI.2.2.1 _ _ NK ae ae (ag NK G7.gl)).trans NK.symm
 ·revert hy hI;intros i y JN Z' Qz
  refine dG hI λhc hL LY zz=>?_;clear hI;refine eK zz λlast cnt L N I=>?_;intros last cnt L N;clear zz;obtain⟨loc,cel⟩:=JN;intros loc cel;dsimp only at hc hL;subst hc;have hi:i<2:=by
   obtain⟨hl,_⟩:=Dg.mp hy;simpa using hl
  have Qt:y=vN i:=by
   rw[k_,D9 (by simpa using hi)]at hy;cases hy;rfl
  subst Qt;have kT:(aL "turn" (vN i) loc).lookup ("turn":Str)=a_ (vN i):=by exact d6
  have Ko:=hL.put "turn" (vN i);show au _ _ _ ⟨aL "turn" (vN i) loc,F.cel⟩ _ _;generalize aL "turn" (vN i) loc=NH at kT Ko⊢;have bi:=b7.fg ok LY G7.gl;have MC:=LY _ _ Nn ae ae (ag Nn G7.gl);have MX:=LY _ _ NF ae ae (ag NF G7.gl);refine xE (⟨_,w_ (by have:=ok.dr.hfl;walk_at "a")⟩:∃x,F.firm[i]? =a_ x) λx hx=>?_;intros x;have L7:=ok.dr.hfx x (B_ hx);refine xE (⟨_,w_ (by simpa using hi)⟩:∃s,[cZ,ee][i]? =a_ s) λPy OV=>?_;intros Py;have MS:∀ {Z:ak},Z F.fr=a_ (.lst (F.firm.map vI))->d5 Z (.ref F.fr) (.int (i:Int) 0) (.int x 0):=λe=>fh e (by walk_at "a") (by walk_at "W") (by rw[k_,Dh,hx];rfl);have gnl:∀ {Z:ak},Z nl=a_ (.lst [.str cZ 0,.str ee 0])->d5 Z (.ref nl) (.int (i:Int) 0) (.str Py 0):=λe=>fh e (by walk_at "a") (by walk_at "W") (by
   rw[Dh];have:([cZ,ee].map λs=>En s 0)[i]? =a_ (.str Py 0):=by rw[k_,OV];rfl
   exact this)
  have VJ:=gK hx;refine aO (aU (cQ (aa (aB rfl Ko.firm) (aa (aB rfl kT) ⟨_,MS bi.e.hfr,aK ⟨_,rfl,cG (λq=>?_) (λq=>?_)⟩⟩))))
  ·have q0:0<=x:=of_decide_eq_true q
   have PH:x.toNat<F.kin.length:=by walk_at "P"
   have ex:x=((x.toNat:Nat):Int):=by walk_at "x"
   have UV:∀e∈L,e.nm≠Py:=λe he h=>by
    have h1:=I.sub.subset (Do (f:=(λp=>p.nm)) he);rw[h]at h1;exact og (by simp[M5]) OV h1
   have Vs:L.length<=5:=by
    have:=I.sub.length_le;rw[b',EI]at this;simp at this;walk_at "o"
   refine bE (aX (aa (a7 rfl rfl bi.e.x4) (bZ I.g.bd.hc rfl rfl (af (aX (av (aa (aB rfl Ko.run) (az bi.rn ok.f3 (bZ bi.st rfl rfl (af (cQ (aa (aB rfl Ko.names) (aa (aB rfl kT) ⟨_,gnl MX,am (aF rfl (uP I.g bi.st UV Vs ok.ngp ok.nge I.hl λZ8 g s N8 G8 F8 hs=>af ?_))⟩)))))))))))));intros Z8 g s N8;have b8:=bi.fg ok F8 I.g.gl;have VT:=F8 _ _ MC ae ae (ag MC I.g.gl);refine aA rfl (af (ua (aa (a7 rfl rfl b8.e.x3) (cQ (aa (aB rfl Ko.firm) (aa (aB rfl kT) ⟨_,MS b8.e.hfr,_,by exact ex▸(fI VT PH (by walk_at "o")),am (d8 rfl rfl rfl λxr d T2=>nF (v:=.ref (A x.toNat)) (ad _ _ _) (λZ9 Nz Qj=>⟨rfl,am (aF rfl ?_)⟩) rfl)⟩))))));revert T2;intros xr d Z9;have Rg:=dO T2 Nz;have G9:=G8.more Rg;refine AL (e:=⟨Py,g,s,last+1,h_⟩) G9 rfl Qj PH (λp hp e=>P5.inj p _ hp PH e) λKr G10 K2=>⟨rfl,ay (ay (Kz .next _ _ ⟨rfl,Ko,?_,last+1+1,_,_,N8,⟨G10,by have:=I.hl;walk_at "X",?_,?_,?_,?_⟩⟩))⟩
   ·have hes:∃o,Z9 s=a_ o/\kd o=76:=by
     refine xA (G9.s ⟨Py,g,s,last+1,h_⟩ (by simp)) ?_;rintro⟨d,wk,v,e1,_⟩ _;exact⟨_,e1,rfl⟩
    have KT:∀ {a o},Z' a=a_ o->a≠s:=λe=>aq hs e;intro a o e k1 k2 n;have e':=LY a o e k1 k2 n;have e9:=Rg.get (F8 a o e' k1 k2 n) aj;refine K2.get e9 ?_;refine ac (G9.bd.kA PH) λoA eA kA=>?_;have:a≠A x.toNat:=cA e9 eA λw=>k1 (by rw[w,kA]);exact cJ (KT e') this
   ·rw[r_,gK OV]
    exact I.sub.append (List.Sublist.refl _)
   ·intro e he
    rcases s_.mp he with he|he
    ·exact I.tg e he
    ·rw[g_]at he
     subst he;exact⟨x.toNat,rfl,PH,by rw[<-ex];exact B_ hx⟩
   ·intro p hp
    rw[VJ]at hp;rcases s_.mp hp with hp|hp
    ·refine ac (I.cov p hp) λe he ht=>?_
     exact⟨e,y' _ he,ht⟩
    ·rw[g_]at hp
     exact⟨_,D_ _ (g_.mpr rfl),by show a_ x.toNat=a_ p;congr 1;walk_at "bx"⟩
   ·intro p hp
    rw[VJ,GQ];by_cases e:p=x.toNat
    ·subst e
     rw[z_ rfl,I.cnt _ hp, <-ex,Ge];walk_at "c"
    ·rw[p_ e,I.cnt _ hp,EJ.mpr (show(p:Int)∉[x] by simp;walk_at "Y")];rfl
  ·have q0:¬0<=x:=DM q
   refine ay (ay (Kz .next _ _ ⟨rfl,Ko,LY,last,cnt,L,N,⟨I.g,I.hl,?_,I.tg,?_,?_⟩⟩))
   ·rw[gK OV]
    exact I.sub.trans (List.sublist_append_left _ _)
   ·intro p hp
    rw[VJ]at hp;rcases s_.mp hp with hp|hp
    ·exact I.cov p hp
    ·rw[g_]at hp;walk_at "o"
   ·intro p hp
    rw[VJ,GQ,I.cnt _ hp,EJ.mpr (show(p:Int)∉[x] by simp;walk_at "o")];rfl
 intros JN Z';refine dG hI λhc hL LY zz=>?_;clear hI;refine eK zz λlast cnt L N I=>?_;intros last cnt L N;clear zz;obtain⟨loc,cel⟩:=JN;intros loc cel;dsimp only at hc hL;subst hc;have Ud:(((A' ((2:Int)).toNat).map vN)).length=2:=by simp
 rw[Ud]at I;intros loc;have Y0:F.firm.take 2=F.firm:=Dv (by have:=ok.dr.hfl;walk_at "a");have bi:=b7.fg ok LY G7.gl;have MC:=LY _ _ Nn ae ae (ag Nn G7.gl);have MX:=LY _ _ NF ae ae (ag NF G7.gl);have O2:(L.map (λp=>p.nm)).Sublist [cZ,ee]:=I.sub;have RW:L.Pairwise λe f=>e.nm≠f.nm:=by
  have:(L.map (λp=>p.nm)).Nodup:=O2.nodup (by simp[M5]);rwa[Ed,DL]at this
 have UY:∀p,p<F.kin.length->cnt p=(base F.kin F.firm [] p:Nat):=λp hp=>by
  rw[I.cnt p hp,Y0,AO K5 F.firm p];walk_at "I"
 have Mv:∀p:Nat,(p:Int)∈F.firm->∃e∈L,e.tg=a_ p:=λp hp=>I.cov p (by rw[Y0];exact hp);refine a8 (aX (av (aa (aB rfl hL.run) (az bi.rn ok.f3 (bZ bi.st rfl rfl (af (d9 (aa (aB rfl hL.names) (aK ⟨_,fh MX (by decide) (by decide) rfl,am (aF rfl ?_)⟩)))))))));by_cases hA:∃e∈L,e.nm=cZ
 ·refine ac hA λe0 LA Ov=>?_;intros e0;clear hA
  refine cS (I.g.g e0 LA) λd wk eg=>?_;refine qu bi.st I.g.gl (oq L) (by have:=ol LA RW;rw[Ov]at this;exact this) eg (aV rfl ?_);exact rest A Mb Ms Nh last cnt L N Mt al nl e0 _ Z' ⟨bi,I.g,P5,I.hl,K5,MC,MX,hL.put "kept" _,nal,nnl,.inl O2⟩ LA Ov (by exact d6) UY (λe he q hq=>by refine dm (I.tg e he) λq' e1 e2 e3=>?_;rw[hq]at e1;cases e1;exact⟨e2,e3⟩) Mv
 ·have UV:∀e∈L,e.nm≠cZ:=λe he h=>hA ⟨e,he,h⟩
  have Vs:L.length<=5:=by
   have:=O2.length_le;rw[b']at this;simp at this;walk_at "o"
  have Tc:(L.map (λp=>p.nm)).Sublist [ee]:=by
   have key:∀l:b_ Str,l.Sublist [cZ,ee]->cZ∉l->l.Sublist [ee]:=λl h hn=>by
    cases h with
    |cons _ h=>exact h
    |cons_cons _ h=>exact absurd (.head _) hn
   exact key _ O2 λhm=>by
    refine ac (i_.mp hm) λe he h=>?_;exact UV e he h
  refine uP I.g bi.st UV Vs ok.ngp ok.nge I.hl λZ8 g s N8 G8 F8 hs=>aV rfl ?_;have b8:=bi.fg ok F8 I.g.gl;refine rest A Mb Ms Nh _ cnt _ N8 Mt al nl ⟨cZ,g,s,last+1,h_⟩ _ Z8 ⟨b8,G8,P5,by have:=I.hl;walk_at "X",K5,F8 _ _ MC ae ae (ag MC I.g.gl),F8 _ _ MX ae ae (ag MX I.g.gl),hL.put "kept" _,nal,nnl,.inr (by rw[r_];exact Tc.append (List.Sublist.refl [cZ]))⟩ (by simp) rfl (by exact d6) UY (λe he q hq=>?_) λp hp=>?_
  ·rcases s_.mp he with he|he
   ·refine dm (I.tg e he) λq' e1 e2 e3=>?_
    rw[hq]at e1;cases e1;exact⟨e2,e3⟩
   ·rw[g_]at he
    subst he;exact(ns hq).elim
  ·refine ac (Mv p hp) λe he ht=>?_
   exact⟨e,y' _ he,ht⟩
structure S4 (F:dK)(A:Nat->d_)(Mb:Nat->b_ d_)(num:d_->Int)(L:b_ GE)(N:Nat)(Y:b_ Nat)(al nl:d_)(loc:b_ (Str×Value))(Z:ak):Prop where
 e:E0 F.mn F.cl F.cells F.kn F.ba F.fr F.kin F.bs F.firm F.c1 F.c2 F.c3 F.c4 F.c5 F.c6 (a_ (.ref al)) (a_ (.ref F.β.c)) (a_ (.ref F.β.hp)) Z
 sv:Z F.saves=a_ (.lst [])
 st:Z F.st=a_ (.inst 799 F.sd (gr F.β.hp F.gl))
 rn:Z F.rn=a_ (.inst 714 F.rd F.fl)
 gl:Z F.gl=a_ (.dic (fy L) N)
 fs:FS F.kin.length A Mb num (dE F.bs) F.kin F.firm (aD F.kin F.firm F.fresh (2*F.kin.length+4)).G L Z
 ys:Y.Pairwise (λa b=>a<b)
 ym:∀p,p∈Y↔p<F.kin.length/\eW F.kin F.firm p/\dE F.bs p≠ .none
 sn:Z F.β.sent=a_ (.lst ((((aD F.kin F.firm F.fresh (2*F.kin.length+4)).G.filter λq=> !(dE F.bs q== .none)).map A++Y.map A).map .ref))
 ar:∀p,p<F.kin.length->∃d wk ds its,Z (A p)=a_ (dN d (p+1) (base F.kin F.firm (aD F.kin F.firm F.fresh (2*F.kin.length+4)).G p:Nat) (dE F.bs p) wk ds (decide (p∈(aD F.kin F.firm F.fresh (2*F.kin.length+4)).G)) its)
 hal:Z al=a_ (.lst ((A' F.kin.length).map λp=>.ref (A p)))
 hnl:Z nl=a_ (.lst [.str cZ 0,.str ee 0])
 hloc:jh F.kn F.fr F.β.sent F.rn nl F.fresh loc
 hes:∀e∈L,(fy L).lookup (.str e.nm 0)=a_ (.ref e.g)
noncomputable def KN (F:dK)(Z Z':ak):Prop:=∀a o,Z a=a_ o->(kd o=1/\a∉F.no)\/kd o=4\/kd o=3\/kd o=724\/kd o=809->Z' a=a_ o
theorem KN.trans {F:dK}(h:KN F Z Z')(g:KN F Z' JO):KN F Z JO:=λa o e k=>g a o (h a o e k) k
theorem KN.frm {F:dK}{W:b_ d_}(hF:ai W Z Z')(hW:∀a∈W,(a∈F.no/\∃xs,Z a=a_ (.lst xs))\/∃o,Z a=a_ o/\kd o≠1/\kd o≠4/\kd o≠3/\kd o≠724/\kd o≠809):KN F Z Z':=λa o e k=>hF.get e λhm=>by
 revert hF hW;intros Z Z' F W a o;rcases hW a hm with ⟨h1,xs,h2⟩ |⟨o',e',k1,k2,k3,k4,k5⟩
 ·intros xs
  rw[e]at h2;cases h2;rcases k with ⟨_,q⟩ |q|q|q|q
  ·exact q h1
  all_goals exact absurd q ae
 ·rw[e]at e';cases e'
  rcases k with ⟨q,_⟩ |q|q|q|q
  ·exact k1 q
  ·exact k2 q
  ·exact k3 q
  ·exact k4 q
  ·exact k5 q
theorem eH.kn {F:dK}(b:eH F v3 Z)(ok:jF F)(k:KN F Z Z'):E0 F.mn F.cl F.cells F.kn F.ba F.fr F.kin F.bs F.firm F.c1 F.c2 F.c3 F.c4 F.c5 F.c6 v3 (a_ (.ref F.β.c)) (a_ (.ref F.β.hp)) Z':=by
 intros Z Z' v3 F;have hno:=ok.na;refine bW b.e.hmn λd Nm d0 d1 hmn=>?_;intros d Nm;refine dm b.e.rows λrows r1 r2 r3=>?_;intros rows;have T1:rows=F.rows:=by
  have:=b.knr;rw[r1]at this;exact List.map_inj_right (λa b h=>by injection h) |>.mp (De (congrArg (GA · iu) this))
 refine⟨⟨rows,k _ _ r1 (.inl ⟨rfl,hno _ (by exact .head _)⟩),r2,λi row e=>?_⟩,k _ _ b.e.hba (.inl ⟨rfl,hno _ (by exact .tail _ (.head _))⟩),k _ _ b.e.hfr (.inl ⟨rfl,hno _ (by exact .tail _ (.tail _ (.head _)))⟩),k _ _ b.e.x1 (.inr (.inl rfl)),k _ _ b.e.x2 (.inr (.inl rfl)),k _ _ b.e.x3 (.inr (.inl rfl)),k _ _ b.e.x4 (.inr (.inl rfl)),k _ _ b.e.x5 (.inr (.inl rfl)),k _ _ b.e.x6 (.inr (.inl rfl)),k _ _ b.e.hcl (.inl ⟨rfl,hno _ (by exact .tail _ (.tail _ (.tail _ (.head _))))⟩),d,Nm,d0,d1,k _ _ hmn (.inr (.inr (.inl rfl)))⟩;refine ac (r3 i row e) λa e1 e2=>?_;exact⟨a,e1,k _ _ e2 (.inl ⟨rfl,hno _ (by rw[T1]at e1;simp[B_ e1])⟩)⟩
theorem BP.up {A:Nat->d_}{Ms:b_ (Addr×Option Nat)}{num:d_->Int}(P:BP m A Ms num last)(h:last<=last'):BP m A Ms num last':=
 ⟨P.inj,P.numA,P.ord,λx hx=>⟨(P.rng x hx).1,Eu (P.rng x hx).2 h⟩⟩
theorem AQ {F:dK}{A:Nat->d_}{Ms:b_ (Addr×Option Nat)}{num:d_->Int}{L:b_ GE}{N:Nat}{e0:GE}(ok:jF F)(S:S3 F A Mb Ms num last cnt L N Mt al nl loc Z)(LA:e0∈L)(Ov:e0.nm=cZ)(T4:loc.lookup ("kept":Str)=a_ (.ref e0.s))
 (Lf:∀p,p<F.kin.length->cnt p=(base F.kin F.firm [] p:Nat)) (P3:∀e∈L,∀q,e.tg=a_ q->q<F.kin.length/\(q:Int)∈F.firm) (PY:∀p:Nat,(p:Int)∈F.firm->∃e∈L,e.tg=a_ p)
 (rest:∀Z' Y NH,S4 F A Mb num L N Y al nl NH Z'->NH.lookup ("kept":Str)=a_ (.ref e0.s)->au (aT (aJ KC 7) 60 60) ((cV KC 844).drop 13) (cR KC 844) ⟨NH,F.cel⟩ Z' (iz Q)):
 au (aT (aJ KC 7) 60 60) ((cV KC 844).drop 9) (cR KC 844) ⟨loc,F.cel⟩ Z (iz Q):=by
 intros al nl last Z loc Q Mb Mt cnt F A Ms num L N e0;have k8:=ok.dr.k8;have M5:cZ≠ee:=by decide
 have hL2:L.length<=2:=by
  rcases S.sub with h|h
  ·have:=h.length_le;simpa using this
  ·have:=h.length_le;simpa using this
 have RW:L.Pairwise λe f=>e.nm≠f.nm:=by
  have:(L.map (λp=>p.nm)).Nodup:=by
   rcases S.sub with h|h
   ·exact h.nodup (by simp[M5])
   ·exact h.nodup (by simp[M5.symm])
  rwa[Ed,DL]at this
 refine cS (S.g.g e0 LA) λdg0 gw0 NQ=>?_;intros dg0 gw0;have VG:(fy L).lookup (.str cZ 0)=a_ (.ref e0.g):=by have:=ol LA RW;rw[Ov]at this;exact this
 have QU:∀e∈L,∀f∈L,e=f\/e.gn+1<f.gn\/f.gn+1<e.gn:=by
  have h:=S.g.ord;revert h;generalize L=L';intro h;induction L' with
  |nil=>intro e he;exact(aj he).elim
  |cons x r ih=>
   rw[Du]at h;intro e he f hf;rcases f_.mp he with rfl|OS<;>rcases f_.mp hf with rfl|Rl
   ·exact .inl rfl
   ·exact .inr (.inl (h.1 f Rl))
   ·exact .inr (.inr (h.1 e OS))
   ·exact ih h.2 e OS f Rl
 refine a8 (aA rfl (af (aa (aB rfl S.hloc.run) (af (d9 (aa (aB rfl S.hloc.names) (aK ⟨_,fh S.hnl (by decide) (by decide) rfl,am (aF rfl (zG S.b.rn ok.f1 ok.f2 ok.f3 S.b.sv (by simp) S.b.st S.g.gl (oq L) VG S.g.bd.hc S.g.bd.hh NQ λZ1 sv put dp pw Mx hpt QX Yl Y4 M7 JQ Za5 VV Zau Zai eh eg=>aV rfl ?_))⟩)))))));intros Z1 sv put dp pw;have hW:∀a∈[F.β.hp,F.saves,e0.g],ic F.β F.kin.length A Ms F.no Z a:=λa ha=>by
  simp only [f_,aj,Ez]at ha;rcases ha with rfl|rfl|rfl
  ·exact .inr (.inl rfl)
  ·exact .inl ⟨by exact .tail _ (.tail _ (.head _)),_,S.b.sv⟩
  ·exact .inr (.inr (.inr ⟨⟨_,NQ,ae,ae,ae,ae,ae⟩,ag NQ S.g.bd.hpl,ag NQ S.g.bd.hem,λx hx=>iG NQ (S.g.bd.kS (a:=x.1) (tg:=x.2) hx) rfl⟩))
 have nA:∀p,p<F.kin.length->A p∉[F.β.hp,F.saves,e0.g]:=λp hp=>by
  refine ac (S.g.bd.kA hp) λo eo ko=>?_;exact eZ (ag eo S.g.bd.hh (by rw[ko];rfl)) (ag eo S.b.sv (by rw[ko];rfl)) (ag eo NQ (by rw[ko];rfl))
 have B1:=S.g.bd.upd (Mb':=Mb) (bl':=dE F.bs) (cnt':=cnt) JQ hW eh (λp hp hm=>absurd hm (nA p hp)) (λU U U=>⟨rfl,rfl,rfl⟩);have KY:∀ {a o},Z a=a_ o->kd o≠235->kd o≠152->a≠F.saves->Z1 a=a_ o:=λ{a o} e k1 k2 n1=>JQ.get e (by exact eZ (cA e S.g.bd.hh (λq=>k1 (q▸rfl))) n1 (cA e NQ (λq=>k2 (q▸rfl))));have U8:KN F Z Z1:=KN.frm JQ λa ha=>by
  simp only [f_,aj,Ez]at ha;rcases ha with rfl|rfl|rfl
  ·exact .inr ⟨_,S.g.bd.hh,ae,ae,ae,ae,ae⟩
  ·exact .inl ⟨by exact .tail _ (.tail _ (.head _)),_,S.b.sv⟩
  ·exact .inr ⟨_,NQ,ae,ae,ae,ae,ae⟩
 have pno:pw∉F.no:=λhm=>by
  refine xE (S.b.hno pw hm) λxs e=>?_;exact aq QX e rfl
 have Mg:∀x∈Ms,put≠x.1:=λx hx=>by
  refine ac (S.g.bd.kS (a:=x.1) (tg:=x.2) hx) λo eo U=>?_;exact(aq hpt eo).symm
 have K9:∀e∈L,∃d wk,Z1 e.g=a_ (.inst 142 d (ax e.gn 0 .none wk g' g' (dC e.nm (.ref (if e.gn=e0.gn then put else e.s))))):=λe he=>by
  rcases QU e he e0 LA with rfl|h|h
  ·exact⟨dg0,gw0,by exact(z_ rfl)▸eg⟩
  all_goals
   refine cS (S.g.g e he) λd wk e1=>?_;have ng:e.g≠e0.g:=cA e1 NQ λq=>by
    injection q with _ _ q
    unfold ax at q
    injection q with q _
    injection q with _ q
    injection q with q
    walk_at "o"
   refine⟨d,wk,?_⟩;rw[p_ (by walk_at "o")];exact JQ.get e1 (by exact eZ (ag e1 S.g.bd.hh) (ag e1 S.b.sv) ng)
 have KW:∀e∈L,(∃d wk k v,Z1 e.s=a_ (bU d (e.gn+1) k wk v)/\eB A Z1 e.tg v)/\(∀x∈Ms,e.s≠x.1)/\e.s≠put:=λe he=>by
  refine xA (S.g.s e he) ?_;rintro⟨d,wk,v,e1,e2⟩ e3;exact⟨⟨d,wk,1,v,KY e1 ae ae (ag e1 S.b.sv),e2.frm λrf rd fl e=>KY e ae ae (ag e S.b.sv)⟩,e3,aq hpt e1⟩
 have z1:Z1 F.z=a_ (.lst []):=KY S.b.z ae ae ok.nvz.symm;have sn1:Z1 F.β.sent=a_ (.lst []):=KY S.b.sn ae ae ok.nvs.symm;have E1:=S.b.kn ok U8;have bT:=U8 _ _ S.hal (.inl ⟨rfl,S.nal⟩);have Zbw:(aL "put" (.ref put) loc).lookup ("kept":Str)=a_ (.ref e0.s):=by rw[dj,p_ (by decide)];exact T4
 have pt1:(aL "put" (.ref put) loc).lookup ("put":Str)=a_ (.ref put):=by exact d6
 have L1:=S.hloc.put "put" (.ref put);show au _ _ _ ⟨aL "put" (.ref put) loc,F.cel⟩ _ _;generalize aL "put" (.ref put) loc=Ug at Zbw pt1 L1⊢;have hf0:=ok.dr.hf0;have hf1:=ok.dr.hf1;rw[FH]at VV;intros Ug;refine uH (λfm Z2=>fm=⟨Ug,F.cel⟩/\KN F Z Z2/\∃LE pv,Bd F.β F.kin.length A Mb Ms num (dE F.bs) (last+1) LE F.z F.no Z2/\Z2 put=a_ (bU dp (last+1) 1 pw pv)/\eB A Z2 (if 0<=F.fresh then a_ F.fresh.toNat else h_) pv/\Z2 pw=a_ (.lst [])/\
  (∀p,p<F.kin.length->LE p=((base F.kin F.firm [] p+(bF [(put,if 0<=F.fresh then a_ F.fresh.toNat else h_)]).count p:Nat):Int))/\Z2 F.z=a_ (.lst [])/\Z2 F.saves=a_ (.lst [.ref sv])/\Z2 sv=a_ (.tup [.str "scalar" 0,.ref e0.g,.ref e0.s])/\Z2 F.β.sent=a_ (.lst [])/\
  (∀e∈L,∃d wk,Z2 e.g=a_ (.inst 142 d (ax e.gn 0 .none wk g' g' (dC e.nm (.ref (if e.gn=e0.gn then put else e.s))))))/\(∀e∈L,(∃d wk k v,Z2 e.s=a_ (bU d (e.gn+1) k wk v)/\eB A Z2 e.tg v)/\(∀x∈Ms,e.s≠x.1)/\e.s≠put)) (λfm Z2 hK=>?_) (λkk=>?_)
 ·intros fm Z2
  refine kL hK ?_;clear hK;rintro rfl Ys LE pv B2 pt2 zz;intros LE pv;refine gz zz λWT pw2 J0 z2 TD zz=>?_;refine dG zz λsv2 Zbl Tv NA=>?_;clear zz;have E2:=S.b.kn ok Ys;have iO:=Ys _ _ S.hal (.inl ⟨rfl,S.nal⟩);have NS:F.z∈F.no:=by exact .head _
  have VW:al≠F.z:=λq=>S.nal (q▸NS);refine eV (aa (a7 rfl rfl E2.x3) (gp (cY iO) (by simp;walk_at "o") rfl (λi JN Z'=>JN.cel=F.cel/\jh F.kn F.fr F.β.sent F.rn nl F.fresh JN.loc/\JN.loc.lookup ("kept":Str)=a_ (.ref e0.s)/\ai [F.z] Z2 Z'/\Z' F.z=a_ (.lst ((((A' i).filter λp=>decide (LE p=0)).map A).map .ref))) ⟨rfl,L1,Zbw,ai.refl _ _,z2⟩ (λi JN Z' hI=>?_) (λi y JN Z' hy hI Qz Kz=>?_) (λJN Z' hI=>?_)))
  ·show Z' al=Z2 al
   rw[hI.2.2.2.1.get iO (by exact aE VW),iO]
  ·revert hy hI;intros i y JN Z' Qz
   refine im hI λhc hL Mc hF Ly=>?_;clear hI;obtain⟨J9,cel⟩:=JN;intros J9 cel;dsimp only at hc hL Mc;subst hc;have Pr:i<F.kin.length:=by
    obtain⟨hl,_⟩:=Dg.mp hy;simpa using hl
   have Qt:y=.ref (A i):=by
    rw[k_,D9 Pr]at hy;cases hy;rfl
   subst Qt;have kT:(aL "thing" (.ref (A i)) J9).lookup ("thing":Str)=a_ (.ref (A i)):=by exact d6
   have Ko:=hL.put "thing" (.ref (A i));have RM:(aL "thing" (.ref (A i)) J9).lookup ("kept":Str)=a_ (.ref e0.s):=by rw[dj,p_ (by decide)];exact Mc
   show au _ _ _ ⟨aL "thing" (.ref (A i)) J9,F.cel⟩ _ _;generalize aL "thing" (.ref (A i)) J9=MN at kT Ko RM⊢;have ne:∀ {a o},Z2 a=a_ o->(kd o==1)=g'->Z' a=a_ o:=λ{a o} e k=>hF.get e (by exact aE (ag e z2 k));refine eJ (B2.ar i Pr) λd wk its ea U=>?_;refine bE (aX (aa (a7 rfl rfl (ne E2.x4 rfl)) (bZ (ne B2.hc rfl) rfl rfl (af (aa (aB rfl kT) (am (aF rfl (y0 (ne B2.hc rfl) (ne B2.hh rfl) Ly (by have:=DE (λp=>decide (LE p=0)) (A' i);rw[Ej]at this;simp only [b'];walk_at "da") (ne ea rfl) rfl λZ3 JZ O7=>⟨rfl,ay (Kz .next _ _ ⟨rfl,Ko,RM,hF.trans JZ (by simp),?_⟩)⟩))))))));rw[O7,Iw,Em,r_,r_];by_cases e:LE i=0
   ·rw[z_ e,DO (by simpa using e)];rfl
   ·rw[p_ e,DP (by simpa using e)];simp
  ·intros JN Z'
   refine im hI λhc hL Mc hF Ly=>?_;clear hI;obtain⟨J9,cel⟩:=JN;intros J9 cel;dsimp only at hc hL Mc;subst hc;rw[show((A' F.kin.length).map λp=>Di (A p)).length=F.kin.length by simp]at Ly;intros J9;have Xy:(A' F.kin.length).filter (λp=>decide (LE p=0))=(bK F.kin F.firm F.fresh).E:=by
    refine Ju λp hp=>?_;have OR:=Dq.mp hp;rw[J0 p OR];by_cases MO:0<=F.fresh
    ·rw[z_ MO]
     show decide (((base F.kin F.firm [] p+[F.fresh.toNat].count p:Nat):Int)=0)=_;by_cases U3:p=F.fresh.toNat
     ·subst U3
      rw[Ge];exact(DQ (by walk_at "o")).trans (DQ (by walk_at "o")).symm
     ·rw[EJ.mpr (show p∉[F.fresh.toNat] by exact aE U3)]
      congr 1;exact propext ⟨λh=>⟨by walk_at "j",by walk_at "Y"⟩,λh=>by walk_at "o"⟩
    ·rw[p_ MO]
     show decide (((base F.kin F.firm [] p+[].count p:Nat):Int)=0)=_;congr 1;exact propext ⟨λh=>⟨by simpa using h,by walk_at "o"⟩,λh=>by exact congrArg _ h.1⟩
   rw[Xy]at Ly;intros J9;have kn3:KN F Z2 Z':=KN.frm hF λa ha=>.inl (by rw[g_]at ha;subst ha;exact⟨NS,_,z2⟩);have VC:=Ys.trans kn3;have ne:∀ {a o},Z2 a=a_ o->(kd o==1)=g'->Z' a=a_ o:=λ{a o} e k=>hF.get e (by exact aE (ag e z2 k));have B3:=B2.upd (Mb':=Mb) (bl':=dE F.bs) (last':=last+1) (cnt':=LE) hF (λa ha=>by rw[g_]at ha;subst ha;exact .inl ⟨NS,_,z2⟩) (ne B2.hh rfl) (λp hp hm=>by
    refine ac (B2.kA hp) λo eo ko=>?_;exact absurd (g_.mp hm) (ag eo z2 (by rw[ko];rfl))) (λU U U=>⟨rfl,rfl,rfl⟩)
   have LU:∀e∈L,((F.kin.length+Ms.length:Nat):Int)<e.gn/\e.gn+1<=last:=S.g.num;have LL:LP F.kin.length Mb num F.firm L:=⟨P3,PY,hL2,λp hp a ha e he=>by
    rw[S.k.mb p hp]at ha;refine ac (i_.mp ha) ?_;rintro x hx rfl;have:=(S.p.rng x (S.k.mem hp hx)).2;have:=(LU e he).1;walk_at "V",λe he=>by have:=(LU e he).1;walk_at "db",λe he f hf q=>by rcases QU e he f hf with h|h|h;exact h;walk_at "dc";walk_at "dd",λe he f hf q=>by rcases QU e he f hf with h|h|h;subst h;walk_at "o";walk_at "de";walk_at "df"⟩
   refine bE (aA rfl (af (aa (aB rfl hL.run) (am (aF rfl ?_)))));refine AG (fresh:=F.fresh) (e0:=e0) (put:=put) (pv:=pv) B3 (S.p.up (by have:=S.hl;walk_at "a")) S.k LL (λp hp=>by unfold dE;split<;>rfl) ok.h850 ⟨hf0,hf1⟩ (VC _ _ S.b.rn (.inr (.inr (.inr (.inl rfl))))) ok.f1 ok.f2 ok.f3 (hF.get TD (by exact aE ok.nvz)) (ne sv2 rfl) LA (VC _ _ S.b.st (.inr (.inr (.inr (.inr rfl))))) (VC _ _ S.g.gl (.inr (.inr (.inl rfl)))) (λe he=>ol he RW) (ne pt2 rfl) (WT.frm λrf rd fl e=>ne e rfl) (hF.get pw2 (by exact aE (λq=>pno (by rw[q];exact NS)))) pno Mg ⟨λx hx=>?_,?_,IO _⟩ Ly (hF.get Zbl (by exact aE ok.nzs.symm)) NS (by exact .tail _ (.head _)) (by exact .tail _ (.tail _ (.head _))) ok.nzs.symm ok.nvz ok.nvs (λe he=>?_) (λe he=>?_) J0 λZ5 Y Ke VM hFS Q8 NT YJ Yw=>⟨rfl,?_⟩
   ·have:=(S.p.rng x hx).2
    have:=S.hl;walk_at "dg"
   ·have:=S.hl;walk_at "dh"
   ·refine cS (Tv e he) λd wk e1=>?_
    exact⟨d,wk,ne e1 rfl⟩
   ·intros e
    refine bP (NA e he) ?_;rintro⟨d,wk,k,v,e1,e2⟩ e3 e4;exact⟨⟨d,wk,k,v,ne e1 rfl,e2.frm λrf rd fl e=>ne e rfl⟩,e3,e4⟩
   ·have kn5:KN F Z' Z5:=λa o e k=>by
     have kk:kd o=1\/kd o=4\/kd o=3\/kd o=724\/kd o=809:=k.imp And.left id;refine Ke a o e (by walk_at "v") (by walk_at "v") (by walk_at "v") (by walk_at "v") ?_ ?_ ?_
     ·rintro rfl
      rw[Ly]at e;cases e;rcases k with ⟨_,q⟩ |q|q|q|q
      ·exact q NS
      all_goals exact absurd q ae
     ·rintro rfl
      rw[hF.get Zbl (by exact aE ok.nzs.symm)]at e;cases e;rcases k with ⟨_,q⟩ |q|q|q|q
      ·exact q (by exact .tail _ (.head _))
      all_goals exact absurd q ae
     ·rintro rfl
      rw[hF.get TD (by exact aE ok.nvz)]at e;cases e;rcases k with ⟨_,q⟩ |q|q|q|q
      ·exact q (by exact .tail _ (.tail _ (.head _)))
      all_goals exact absurd q ae
    have Rf:=VC.trans kn5;exact rest Z5 Y J9 ⟨S.b.kn ok Rf,VM,Rf _ _ S.b.st (.inr (.inr (.inr (.inr rfl)))),Rf _ _ S.b.rn (.inr (.inr (.inr (.inl rfl)))),Rf _ _ S.g.gl (.inr (.inr (.inl rfl))),hFS,Q8,NT,YJ,Yw,Rf _ _ S.hal (.inl ⟨rfl,S.nal⟩),Rf _ _ S.hnl (.inl ⟨rfl,S.nnl⟩),hL,λe he=>ol he RW⟩ Mc
 ·refine aO (aU (aa (aB rfl L1.fresh) (aK ⟨_,rfl,cG (λq=>?_) (λq=>?_)⟩)))
  ·have q0:0<=F.fresh:=of_decide_eq_true q
   have K6:F.fresh.toNat<F.kin.length:=by walk_at "d"
   have ex:F.fresh=((F.fresh.toNat:Nat):Int):=by walk_at "x"
   refine bE (aX (aa (a7 rfl rfl E1.x4) (bZ B1.hc rfl rfl (af (aa (aB rfl pt1) (af (aA rfl (af (cQ (aa (a7 rfl rfl E1.x3) (aa (aB rfl L1.fresh) ⟨_,by exact ex▸(fI bT K6 (by walk_at "o")),am (d8 rfl rfl rfl λxr d T2=>nF (v:=.ref (A F.fresh.toNat)) (ad _ _ _) (λZ9 Nz Qj=>⟨rfl,am (aF rfl ?_)⟩) rfl)⟩)))))))))));revert T2;intros xr d Z9;have Rg:=dO T2 Nz;have B9:=B1.more Rg;have r9:∀ {a o},Z1 a=a_ o->Z9 a=a_ o:=λe=>Rg.get e aj;refine fL (B9.ar _ K6) λdq wq iq e1 e2 e3 e4 e5=>?_;intros dq wq iq;have Nr:=r9 Zau;refine tV B9.hc B9.hpl B9.hem Qj Nr e1 rfl (by simp[cX]) (ag Qj e1) (ag B9.hc e1) (ag Nr e1) λKr K2 Sn Xk=>⟨rfl,ay (kk _ Kr ⟨rfl,?_,(λp=>if p=F.fresh.toNat then cnt F.fresh.toNat+1 else cnt p),.ref xr,?_⟩)⟩
   ·intros Kr
    refine(U8.trans (KN.frm Rg (by exact aW))).trans (KN.frm K2 λa ha=>.inr ?_);intros a;rcases f_.mp ha with rfl|ha
    ·exact⟨_,Nr,ae,ae,ae,ae,ae⟩
    ·rw[g_]at ha
     subst ha;exact⟨_,e1,ae,ae,ae,ae,ae⟩
   ·intros Kr
    have ne:∀ {a o},Z1 a=a_ o->kd o≠76->kd o≠95->Kr a=a_ o:=λ{a o} e k1 k2=>K2.get (r9 e) (by exact cJ (cA (r9 e) Nr (λq=>k1 (q▸rfl))) (cA (r9 e) e1 (λq=>k2 (q▸rfl))));have ft:(if 0<=F.fresh then a_ F.fresh.toNat else h_)=a_ F.fresh.toNat:=z_ q0;have hW9:∀a∈[put,A F.fresh.toNat],ic F.β F.kin.length A Ms F.no Z9 a:=λa ha=>by
     rcases f_.mp ha with rfl|ha
     ·exact .inr (.inr (.inr ⟨⟨_,Nr,ae,ae,ae,ae,ae⟩,ag Nr B9.hpl,ag Nr B9.hem,Mg⟩))
     ·exact .inr (.inr (.inl ⟨_,K6,g_.mp ha⟩))
    have B10:=B9.upd (Mb':=Mb) (bl':=dE F.bs) (last':=last+1) (cnt':=λp=>if p=F.fresh.toNat then cnt F.fresh.toNat+1 else cnt p) K2 hW9 (ne B1.hh ae ae) (λp hp hm=>by
     rcases f_.mp hm with hm|hm
     ·refine ac (B9.kA hp) λo eo ko=>?_
      exact absurd hm (ag eo Nr (by exact ko▸rfl))
     ·have:=S.p.inj p _ hp K6 (g_.mp hm)
      subst this;refine⟨dq,wq,iq,?_,K2.get e2 (by exact cJ (ag e2 Nr) (ag e2 e1)),e3,K2.get e4 (by exact cJ (ag e4 Nr) (ag e4 e1)),e5⟩;dsimp only;rw[z_ rfl];exact Xk) (λp hp hm=>⟨p_ λe=>hm (by rw[e];exact .tail _ (.head _)),rfl,rfl⟩)
    have YG:Kr xr=a_ (.inst 162 d (gq (A F.fresh.toNat))):=K2.get Qj (by exact cJ (ag Qj Nr) (ag Qj e1));refine⟨B10,Sn,by rw[ft];exact⟨xr,d,rfl,YG⟩,ne Zai ae ae,λp hp=>?_,ne z1 ae ae,ne VV ae ae,ne Za5 ae ae,ne sn1 ae ae,λe he=>?_,λe he=>?_⟩
    ·rw[ft,jz]
     by_cases e:p=F.fresh.toNat
     ·subst e
      dsimp only;rw[z_ rfl,Lf _ K6,Hh];show _=((base F.kin F.firm [] F.fresh.toNat+(0+1):Nat):Int);walk_at "c"
     ·dsimp only
      rw[p_ e,Lf _ hp,IB (Ex e)];rfl
    ·refine cS (K9 e he) λd wk e1=>?_
     exact⟨d,wk,ne e1 ae ae⟩
    ·intros e
     refine bP (KW e he) ?_;rintro⟨d',wk,k,v,f1,f2⟩ f3 f4;exact⟨⟨d',wk,k,v,K2.get (r9 f1) (by exact cJ f4 (ag (r9 f1) e1)),f2.frm λrf rd fl e=>ne e ae ae⟩,f3,f4⟩
  ·have q0:¬0<=F.fresh:=DM q
   have ft:(if 0<=F.fresh then a_ F.fresh.toNat else h_)=h_:=p_ q0;refine ay (kk _ Z1 ⟨rfl,U8,cnt,.none,B1,Zau,by rw[ft];rfl,Zai,λp hp=>?_,z1,VV,Za5,sn1,K9,KW⟩);rw[ft,Lf p hp];rfl
theorem AR (xs:b_ Nat)(i:Nat):(xs.map vN).contains (vN i)=xs.contains i:=by
 induction xs with
 |nil=>rfl
 |cons x r ih=>rw[n_,DY,DY,qD,ih]
theorem uQ {xs:b_ Nat}{i:Nat}(h1:Z a=a_ (.lst (xs.map vN))):dI Z .In (vN i) (.ref a)=a_ (xs.contains i):=by
 unfold dI iR vN;dsimp only;rw[h1];dsimp only;rw[z_ (by rw[oi];rfl)];exact congrArg a_ (AR xs i)
theorem uR {xs:b_ Nat}{i:Nat}(h1:Z a=a_ (.lst (xs.map vN))):dI Z .NotIn (vN i) (.ref a)=a_ (!xs.contains i):=by
 have h:=uQ (i:=i) h1;unfold dI at h⊢;dsimp only at h⊢;rw[h];rfl
theorem lS {b:d_}(h1:Z a=a_ (.lst xs))(h2:Z b=a_ (.lst xs))(hi:xs.all bO=e_\/xs.all gP=e_):dI Z .NotEq (.ref a) (.ref b)=a_ g'/\dI Z .Eq (.ref a) (.ref b)=a_ e_:=by
 have hc:((xs.all bO&&xs.all bO)||(xs.all gP&&xs.all gP)||(xs.all gQ&&xs.all gQ))=e_:=by rcases hi with h|h<;>rw[h] <;>simp
 unfold dI jk;dsimp only [fN,fX,fP,Option.elim,GA];rw[h1,h2];dsimp only [iu,GA];rw[z_ hc,z_ hc];unfold oQ;dsimp only;rw[C'];exact⟨rfl,rfl⟩
theorem AS:∀ {l k:b_ Nat},l.Pairwise (λa b=>a<b)->k.Pairwise (λa b=>a<b)->(∀p,p∈l↔p∈k)->l=k:=λ{l k} hl hk h=>
 Gj (le:=(λa b=>a<=b)) (λU U U U a b=>Iv a b) (hl.imp Fo) (hk.imp Fo)
  ((FW (hl.imp Eb) (hk.imp Eb)).mpr h)
noncomputable def jc (kin:b_ (b_ Nat)):b_ (b_ Int):=kin.map λr=>r.map JE
theorem AT (M:gv (jc kin) (firm.filter λi=>decide (0<=i)) J8 []):∀p:Nat,(p:Int)∈J8↔eW kin firm p:=λp=>by
 constructor
 ·intro hp
  have:=M.least (λx=>0<=x/\eW kin firm x.toNat) (λx hx=>?_) (λx row hS hr y hy=>?_) (p:Int) (.inl hp)
  ·simpa using this.2
  ·have h1:=DA.mp hx
   have h2:0<=x:=of_decide_eq_true h1.2;exact⟨h2,.base (by rw[ES h2];exact h1.1)⟩
  ·unfold jc at hr
   rw[k_]at hr;refine ac (j_.mp hr) ?_;rintro r Lg rfl;refine ac (i_.mp hy) ?_;rintro z hz rfl;have K7:x.toNat<kin.length:=(Dg.mp Lg).1;exact⟨by show(0:Int)<=(z:Int);walk_at "a",.step K7 hS.2 (by show z∈row kin x.toNat;unfold row;rw[Lg];exact hz)⟩
 ·intro hR
  induction hR with
  |base h=>exact(M.cov _ (DA.mpr ⟨h,E_ (by walk_at "a")⟩)).elim id λq=>by exact(aj q).elim
  | @step p q hq _ hp ih=>
   have Lg:kin[q]? =a_ (row kin q):=by unfold row;rw[w_ hq];rfl
   refine(M.step (q:Int) ih ((row kin q).map JE) ?_ (p:Int) (i_.mpr ⟨p,hp,rfl⟩)).elim id λz=>by exact(aj z).elim
   rw[Dh];unfold jc;rw[k_,Lg];rfl
theorem AU (l:b_ Nat):l.map vN=(l.map JE).map vI:=by rw[C_];rfl
noncomputable def ou (v:c_):c_:=match v with |.int i _=>.int (i+1) 0|_=>.none
noncomputable def lT (bs:b_ Dm)(v:c_):Dm:=match v with |.int i _=>(bs[i.toNat]?).getD g'|_=>g'
theorem qK {p:Nat}:(!(dE bs p== .none))=(bs[p]?).getD g':=by
 unfold dE;cases(bs[p]?).getD g'<;>rfl
theorem FS.more {A:Nat->d_}{num:d_->Int}{bl:Nat->c_}{G:b_ Nat}{L:b_ GE}(F:FS m A Mb num bl kin firm G L Z)(hF:ai [] Z Z'):FS m A Mb num bl kin firm G L Z' where
 gl e he:=by
  refine cS (F.gl e he) λd wk e1=>?_;exact⟨d,wk,hF.get e1 aj⟩
 gs e he:=by
  refine dX (F.gs e he) λd wk k v e1 e2=>?_;exact⟨d,wk,k,v,hF.get e1 aj,e2.frm λrf rd fl e=>hF.get e aj⟩
 tg:=F.tg
 cov:=F.cov
 ar p hp hg:=by
  refine jM (F.ar p hp hg) λd k wk ds its e1 e2=>?_;exact⟨d,k,wk,ds,its,hF.get e1 aj,hF.get e2 aj⟩
 mb p hp hg i a ha:=by
  refine fW (F.mb p hp hg i a ha) λd k wk v q e1 e2 e3=>?_;exact⟨d,k,wk,v,q,hF.get e1 aj,e2,e3.frm λrf rd fl e=>hF.get e aj⟩
 ml:=F.ml
 km:=F.km
 kr:=F.kr
 blv:=F.blv
 alive:=F.alive
 step:=F.step
 m10:=F.m10
 l2:=F.l2
 n1:=F.n1
 n2:=F.n2
 n3:=F.n3
 n4:=F.n4
 n5:=F.n5
noncomputable def ow (Z:ak)(v:c_):c_:=match v with |.ref a=>.int (cD Z a) 0|_=>.none
noncomputable def lU (Z:ak)(x:Str)(v:c_):c_:=match v with
 |.ref a=>(match Z a with |some (.inst _ _ fl)=>(fl.lookup x).getD .none|_=>.none)
 |_=>.none
theorem AV {F:dK}{A:Nat->d_}{num:d_->Int}{L:b_ GE}{N:Nat}{Y:b_ Nat}{e0:GE}(ok:jF F)(S:S4 F A Mb num L N Y al nl loc Z)(LA:e0∈L)(Ov:e0.nm=cZ)(T4:loc.lookup ("kept":Str)=a_ (.ref e0.s))
 (hQ:∀Z' d N',0<=d->d<=200->Z' F.mn=a_ (.dic [(.str "cells" 0,.ref F.cl),(.str "deep" 0,.int d 0)] N')->Z' F.cl=a_ (.lst F.cells)->Q (.bool e_) Z'):
 au (aT (aJ KC 7) 60 60) ((cV KC 844).drop 13) (cR KC 844) ⟨loc,F.cel⟩ Z (iz Q):=by
 intros al nl Z loc Q Mb F A num L N Y e0;have k8:=ok.dr.k8;refine dm S.e.rows λrows KH Nb K1=>?_;intros rows;refine j8 (h3:=rfl) (h4:=rfl) (h1:=rfl) (h2:=rfl) (aA rfl (af (aa (aB rfl S.hloc.kin) (af (aa (aB rfl S.hloc.firm) (af (aa (aB rfl S.hloc.fresh) (am (aF rfl (Av ⟨rows,KH,Nb,K1⟩ (by walk_at "o") (λr hr=>(ok.dr.kr r hr).1) (λr hr=>(ok.dr.kr r hr).2) S.e.hfr (by have:=ok.dr.hfl;walk_at "o") ok.dr.hf0 ok.dr.hf1 λZ1 t g ct JQ ht hg hct=>nU ht rfl (fu (fH rfl rfl (JQ.get S.e.x2 aj) (fu (fH (u:=h_) rfl rfl ?_ (j9 ?_)))))))))))))))
 ·exact ap ok.D.n12 (JQ.get S.e.x1 aj)
 intros Z1 t g ct;have n12:=ok.D.n12;have y2:=JQ.get S.e.x2 aj;have y1:=JQ.get S.e.x1 aj;have keep:∀ {a o},Z a=a_ o->a≠F.c1->a≠F.c2->((Z1.set F.c2 (.cel (a_ (.ref g)))).set F.c1 (.cel (a_ (.ref ct)))) a=a_ o:=λ{a o} e q1 q2=>ap q1 (ap q2 (JQ.get e aj));have kk:∀ {a o},Z a=a_ o->(kd o==4)=g'->((Z1.set F.c2 (.cel (a_ (.ref g)))).set F.c1 (.cel (a_ (.ref ct)))) a=a_ o:=λ{a o} e k=>keep e (ag e S.e.x1 k) (ag e S.e.x2 k);have w1:((Z1.set F.c2 (.cel (a_ (.ref g)))).set F.c1 (.cel (a_ (.ref ct)))) F.c1=a_ (.cel (a_ (.ref ct))):=ad _ _ _;have w2:((Z1.set F.c2 (.cel (a_ (.ref g)))).set F.c1 (.cel (a_ (.ref ct)))) F.c2=a_ (.cel (a_ (.ref g))):=ap n12.symm (ad _ _ _);have w3:=keep S.e.x3 ok.D.n13.symm ok.D.n23.symm;have w6:=keep S.e.x6 ok.D.n16.symm ok.D.n26.symm;have wg:((Z1.set F.c2 (.cel (a_ (.ref g)))).set F.c1 (.cel (a_ (.ref ct)))) g=a_ _:=ap (ag hg y1) (ap (ag hg y2) hg);have Wg:((Z1.set F.c2 (.cel (a_ (.ref g)))).set F.c1 (.cel (a_ (.ref ct)))) ct=a_ _:=ap (ag hct y1) (ap (ag hct y2) hct);generalize ((Z1.set F.c2 _).set F.c1 _)=Z2 at keep kk w1 w2 w3 w6 wg Wg⊢;have V3:=kk KH rfl;refine a8 (aA rfl (af (aa (aB rfl S.hloc.kin) (af (aa (aB rfl S.hloc.firm) (am (aF rfl ?_)))))));refine zJ (kin:=jc F.kin) V3 (λi row e=>?_) (by unfold jc;rw[b'];walk_at "o") (λrow hr=>?_) (kk S.e.hfr rfl) (by have:=ok.dr.hfl;walk_at "a") (λx hx=>?_) λZ3 ml J8 M4 JZ MM M=>aV rfl ?_
 ·unfold jc at e
  rw[k_]at e;refine ac (j_.mp e) ?_;rintro r hr rfl;refine ac (K1 i r hr) λa e1 e2=>?_;exact⟨a,e1,by rw[<-AU];exact kk e2 rfl⟩
 ·unfold jc at hr⊢
  refine ac (i_.mp hr) ?_;rintro r Lg rfl;have:=ok.dr.kr r Lg;refine⟨by rw[b'];exact this.1,λy hy=>?_⟩;refine ac (i_.mp hy) ?_;rintro z hz rfl;rw[b'];exact⟨by show(0:Int)<=(z:Int);walk_at "a",this.2 z hz⟩
 ·have:=ok.dr.hfx x hx
  have:=ok.dr.k1;unfold jc;rw[b'];walk_at "o"
 intros Z3 ml J8;have Zbi:∀p:Nat,(p:Int)∈J8↔eW F.kin F.firm p:=AT M;have NG:∀x∈J8,0<=x:=λx hx=>(M.rng x (.inl hx)).1;have hmN:J8.map vI=(J8.map JI).map vN:=by
  rw[C_];refine Dp λx hx=>?_;show Dl x 0=Dl ((x.toNat:Nat):Int) 0;rw[ES (NG x hx)]
 rw[hmN,ur]at MM;have Za8:(J8.map JI).Nodup:=by
  rw[Ed,DL];refine EL (λ{a b} ha hb (q:a≠b) e=>?_) (Ed.mp M.nd);have:=NG a ha;have:=NG b hb;walk_at "o"
 have Me:=nX Za8;have Vw:∀p,p∈aH (J8.map JI)↔eW F.kin F.firm p:=λp=>by
  rw[(fw _).mem_iff,i_, <-Zbi];constructor
  ·rintro⟨x,hx,rfl⟩
   rw[ES (NG x hx)];exact hx
  ·intro hp;exact⟨_,hp,by simp⟩
 generalize aH (J8.map JI)=Mn at MM Me Vw;clear hmN Za8 Zbi NG M;have NY:∀p∈Mn,p<F.kin.length:=λp hp=>by
  cases(Vw p).mp hp with
  |base h=>
   have:=ok.dr.hfx _ h;walk_at "bm"
  |step hq _ O1=>
   refine ac (qJ O1) λr hr hy=>?_;exact(ok.dr.kr r hr).2 _ hy
 have SG:=lM (kin:=F.kin) (firm:=F.firm) (fresh:=F.fresh) (λr hr=>(ok.dr.kr r hr).2) ok.dr.hf1 (2*F.kin.length+4);generalize NX:(aD F.kin F.firm F.fresh (2*F.kin.length+4)).G=G at wg Wg SG;have Sar:=S.ar;have Ssn:=S.sn;have Sfs:=S.fs;rw[NX]at Sar Ssn Sfs;have OO:∀p∈G,p<F.kin.length:=λp hp=>SG.rg p (y' _ (by rw[NX];exact hp));have W0:G.Nodup:=by have:=(Dk.mp SG.nd).1;rwa[NX]at this
 have hGl:=i9 _ G W0 OO;have hMl:=i9 _ Mn (Me.imp Eb) NY;have hY:Y=Mn.filter λp=>(F.bs[p]?).getD g':=by
  refine AS S.ys (Me.filter _) λp=>?_;rw[S.ym p,DA,Vw p];constructor
  ·rintro⟨_,h1,h2⟩
   refine⟨h1,?_⟩;rw[<-qK,r'.mpr h2];rfl
  ·rintro⟨h1,h2⟩
   refine⟨NY p ((Vw p).mpr h1),h1,λe=>?_⟩;rw[<-qK,e]at h2;exact(ft h2).elim
 have k3:∀ {a o},Z a=a_ o->(kd o==4)=g'->Z3 a=a_ o:=λe k=>JZ.get (kk e k) aj;have v1:=JZ.get w1 aj;have v2:=JZ.get w2 aj;have v3:=JZ.get w3 aj;have v6:=JZ.get w6 aj;have vg:Z3 g=a_ (.lst (G.map vN)):=JZ.get wg aj;have vct:Z3 ct=a_ (.lst ((A' F.kin.length).map λp=>vN (base F.kin F.firm G p))):=JZ.get Wg aj;have val:=k3 S.hal rfl;have Yn:=k3 S.e.hba rfl;have LM:=S.hloc.put "met" (.ref ml);have Zbj:(aL "met" (.ref ml) loc).lookup ("kept":Str)=a_ (.ref e0.s):=by rw[dj,p_ (by decide)];exact T4
 have Wh:(aL "met" (.ref ml) loc).lookup ("met":Str)=a_ (.ref ml):=by exact d6
 show au _ _ _ ⟨aL "met" (.ref ml) loc,F.cel⟩ _ _;generalize aL "met" (.ref ml) loc=J9 at LM Zbj Wh⊢;have Wl:∀p,p<F.kin.length->∃bb,F.bs[p]? =a_ bb/\lT F.bs (vN p)=bb:=λp hp=>by
  have:p<F.bs.length:=by rw[ok.dr.hbl];exact hp
  refine⟨F.bs[p],w_ this,?_⟩;show(F.bs[((p:Int)).toNat]?).getD g'=_;rw[Dh,w_ this];rfl
 have hfm:∀l:b_ Nat,(((l.map vN).filter (lT F.bs)).map ou)=(l.filter λp=>(F.bs[p]?).getD g').map λp=>vN (p+1):=λl=>by
  rw[Hl,C_];congr 1
 have OL:∀ {Zx},ai [] Z3 Zx->∀p,p<F.kin.length->∃d wk ds its,Zx (A p)=a_ (dN d (p+1) (base F.kin F.firm G p:Nat) (dE F.bs p) wk ds (decide (p∈G)) its):=λ{Zx} OD p hp=>by
  refine eK (Sar p hp) λd wk ds its e=>?_;exact⟨d,wk,ds,its,OD.get (k3 e rfl) aj⟩
 have XM:ai [] Z3 Z3:=ai.refl _ _;refine a8 (bB (dD (cl:=[("arrays",F.c3),("blessed",F.c6)]) rfl (aa (a7 rfl rfl v2) (ew (lT F.bs) ou (cY vg) (by rw[b'];walk_at "a") rfl rfl (λy hy Qb hq=>?_) (λy hy hf Q hq=>?_) λl1 du=>?_))))
 ·refine ac (i_.mp hy) ?_;rintro p hp rfl
  intros Qb p;refine ac (Wl p (OO p hp)) λbb Tr R7=>?_;rw[R7]at hq;refine cI (oj (cQ (aa (bR rfl rfl v6) (aa (aB rfl rfl) ⟨.bool bb,fh Yn (by walk_at "a") (by have:=OO p hp;walk_at "g") (by rw[k_,Dh,Tr];rfl),fq ?_⟩))));cases bb with
  |true=>exact aZ rfl (dk hq)
  |false=>exact aM rfl hq
 ·refine ac (i_.mp hy) ?_;rintro p hp rfl
  refine eK (OL XM p (OO p hp)) λd wk ds its ex=>?_;exact av (cQ (aa (bR rfl rfl v3) (aa (aB rfl rfl) ⟨_,fI val (OO p hp) (by walk_at "o"),az ex rfl hq⟩)))
 intros l1;rw[hfm];have J1:ai [] Z3 (Z3.set l1 (.lst ((G.filter λp=>(F.bs[p]?).getD g').map λp=>vN (p+1)))):=(ai.refl _ _).new du;have s1:=ad Z3 l1 (.lst ((G.filter λp=>(F.bs[p]?).getD g').map λp=>vN (p+1)));generalize (Z3.set l1 _)=Z4 at J1 s1⊢;have g4:∀ {a o},Z3 a=a_ o->Z4 a=a_ o:=λe=>J1.get e aj;refine dD (cl:=[("arrays",F.c3),("blessed",F.c6)]) rfl (aa (aB rfl Wh) (ew (lT F.bs) ou (cY (g4 MM)) (by rw[b'];walk_at "a") rfl rfl (λy hy Qb hq=>?_) (λy hy hf Q hq=>?_) λl2 JX=>?_))
 ·refine ac (i_.mp hy) ?_;rintro p hp rfl
  intros Qb p;refine ac (Wl p (NY p hp)) λbb Tr R7=>?_;rw[R7]at hq;refine cI (oj (cQ (aa (bR rfl rfl (g4 v6)) (aa (aB rfl rfl) ⟨.bool bb,fh (g4 Yn) (by walk_at "a") (by have:=NY p hp;walk_at "g") (by rw[k_,Dh,Tr];rfl),fq ?_⟩))));cases bb with
  |true=>exact aZ rfl (dk hq)
  |false=>exact aM rfl hq
 ·refine ac (i_.mp hy) ?_;rintro p hp rfl
  refine eK (OL J1 p (NY p hp)) λd wk ds its ex=>?_;exact av (cQ (aa (bR rfl rfl (g4 v3)) (aa (aB rfl rfl) ⟨_,fI (g4 val) (NY p hp) (by walk_at "o"),az ex rfl hq⟩)))
 intros l2;rw[hfm, <-hY];have Nj:isNew Z4 l2:=JX;have Ke:ai [] Z4 (Z4.set l2 (.lst (Y.map λp=>vN (p+1)))):=(ai.refl _ _).new Nj;have s2:=ad Z4 l2 (.lst (Y.map λp=>vN (p+1)));have Yg:=ao (o':=.lst (Y.map λp=>vN (p+1))) Nj s1;generalize (Z4.set l2 _)=Z5 at Ke s2 Yg⊢;have hYl:Y.length<=10:=by
  rw[hY];have:=DE (λp=>(F.bs[p]?).getD g') Mn;walk_at "y"
 have abK:(G.filter λp=>(F.bs[p]?).getD g').length<=10:=by
  have:=DE (λp=>(F.bs[p]?).getD g') G;walk_at "y"
 refine lE Yg s2 (by rw[b',b'];walk_at "a") λl3 K3=>aV rfl ?_;intros l3;have Ks:ai [] Z3 (Z5.set l3 (.lst (((G.filter λp=>(F.bs[p]?).getD g').map λp=>vN (p+1))++Y.map λp=>vN (p+1)))):=(J1.trans Ke (by exact aW)).new K3;have s3:=ad Z5 l3 (.lst (((G.filter λp=>(F.bs[p]?).getD g').map λp=>vN (p+1))++Y.map λp=>vN (p+1)));have LD:=LM.put "due" (.ref l3);have kpD:(aL "due" (.ref l3) J9).lookup ("kept":Str)=a_ (.ref e0.s):=by rw[dj,p_ (by decide)];exact Zbj
 have Zag:(aL "due" (.ref l3) J9).lookup ("met":Str)=a_ (.ref ml):=by rw[dj,p_ (by decide)];exact Wh
 have Za9:(aL "due" (.ref l3) J9).lookup ("due":Str)=a_ (.ref l3):=by exact d6
 show au _ _ _ ⟨aL "due" (.ref l3) J9,F.cel⟩ _ _;generalize aL "due" (.ref l3) J9=MN at LD kpD Zag Za9⊢;generalize (Z5.set l3 _)=Z6 at Ks s3⊢;clear s1 s2 Yg J1 Ke g4 K3 JX du Nj;have g6:∀ {a o},Z3 a=a_ o->Z6 a=a_ o:=λe=>Ks.get e aj;have sn6:Z6 F.β.sent=a_ (.lst ((((G.filter λq=>(F.bs[q]?).getD g').map A++Y.map A).map .ref))):=by
  have:=g6 (k3 Ssn rfl);rw[show(λq=> !(dE F.bs q==DU))=λq=>(F.bs[q]?).getD g' from funext λq=>qK]at this;exact this
 have Qk:∀ {Zx},ai [] Z3 Zx->∀p,p<F.kin.length->cD Zx (A p)=p+1:=λ{Zx} OD p hp=>by
  refine eK (OL OD p hp) λd wk ds its e=>?_;unfold cD;rw[e];rfl
 have SN:∀p∈Y,p<F.kin.length:=λp hp=>((S.ym p).mp hp).1;have Ps:((((G.filter λq=>(F.bs[q]?).getD g').map A++Y.map A).map (Di)).filter λU=>e_).map (ow Z6)=((G.filter λp=>(F.bs[p]?).getD g').map λp=>vN (p+1))++Y.map λp=>vN (p+1):=by
  rw[DG.mpr λU U=>rfl,r_,r_,C_,C_,C_,C_];congr 1
  ·refine Dp λp hp=>?_
   show Dl (cD Z6 (A p)) 0=Dl ((p+1:Nat):Int) 0;rw[Qk Ks p (OO p (DA.mp hp).1)];rfl
  ·refine Dp λp hp=>?_
   show Dl (cD Z6 (A p)) 0=Dl ((p+1:Nat):Int) 0;rw[Qk Ks p (SN p hp)];rfl
 refine cS (Sfs.gl e0 LA) λdg wg' NQ=>?_;intros dg wg';refine dX (Sfs.gs e0 LA) λds0 ws0 ks0 vs0 OX U=>?_;intros ds0 ws0 ks0 vs0;refine aO (j3 (fo (aU (dD (cl:=[]) rfl (aa (aB rfl LD.sent) (ew (λU=>e_) (ow Z6) (cY sn6) (by simp;walk_at "a") rfl rfl (λy hy Qb hq=>dk hq) (λy hy hf Q hq=>?_) λl4 Pl=>?_))))))
 ·have Zbk:∃p,p<F.kin.length/\y=.ref (A p):=by
   refine ac (i_.mp hy) ?_;rintro a ha rfl;rcases s_.mp ha with h|h
   ·refine ac (i_.mp h) ?_;rintro p hp rfl
    exact⟨p,OO p (DA.mp hp).1,rfl⟩
   ·refine ac (i_.mp h) ?_;rintro p hp rfl
    exact⟨p,SN p hp,rfl⟩
  refine ac Zbk ?_;clear Zbk;rintro p hp rfl;refine eK (OL Ks p hp) λd wk ds its ex=>?_;refine av (aa (aB rfl rfl) (az ex rfl ?_));have hq:Q (.int (cD Z6 (A p)) 0) Z6:=hq;rw[Qk Ks p hp]at hq;exact hq
 intros l4;rw[Ps];have T5:((((G.filter λp=>(F.bs[p]?).getD g').map λp=>vN (p+1))++Y.map λp=>vN (p+1))).all bO=e_:=by
  rw[List.all_append,Ef,Ef,u_];exact⟨l_.mpr λU U=>rfl,l_.mpr λU U=>rfl⟩
 have OB:ai [] Z3 (Z6.set l4 (.lst (((G.filter λp=>(F.bs[p]?).getD g').map λp=>vN (p+1))++Y.map λp=>vN (p+1)))):=Ks.new Pl;have s4:=ad Z6 l4 (.lst (((G.filter λp=>(F.bs[p]?).getD g').map λp=>vN (p+1))++Y.map λp=>vN (p+1)));have Wr:=ao (o':=.lst (((G.filter λp=>(F.bs[p]?).getD g').map λp=>vN (p+1))++Y.map λp=>vN (p+1))) Pl s3;generalize (Z6.set l4 _)=Z7 at OB s4 Wr⊢;have g7:∀ {a o},Z3 a=a_ o->Z7 a=a_ o:=λe=>OB.get e aj;refine aa (aB rfl Za9) ⟨g',(lS s4 Wr (.inl T5)).1,aM rfl ?_⟩;have VG:(fy L).lookup (.str cZ 0)=a_ (.ref e0.g):=by have:=S.hes e0 LA;rw[Ov]at this;exact this
 refine fo (aU (av (aa (aB rfl LD.run) (az (g7 (k3 S.rn rfl)) ok.f2 (eU λl5 ME=>⟨_,uc (xs:=[]) (ao ME (g7 (k3 S.sv rfl))) (ad _ _ _),aM rfl ?_⟩)))));intros l5;have Qw:ai [] Z3 (Z7.set l5 (.lst [])):=OB.new ME;generalize (Z7.set l5 _)=Z8 at Qw⊢;have g8:∀ {a o},Z3 a=a_ o->Z8 a=a_ o:=λe=>Qw.get e aj;have eg8:=g8 (k3 NQ rfl);have Y2:=g8 (k3 OX rfl);refine fo (aU (av (aX (av (aa (aB rfl LD.run) (az (g8 (k3 S.rn rfl)) ok.f3 (bZ (g8 (k3 S.st rfl)) rfl rfl (af (d9 (aa (aB rfl LD.names) (aK ⟨_,fh (g8 (k3 S.hnl rfl)) (by decide) (by decide) rfl,am (aF rfl (qu (g8 (k3 S.st rfl)) (g8 (k3 S.gl rfl)) (oq L) VG eg8 (az Y2 rfl (av (aa (aB rfl kpD) (az Y2 rfl ⟨g',?_,aM rfl (nG (aM rfl (ay ?_)))⟩))))))⟩)))))))))))
 ·show a_ (!decide (e0.gn+1=e0.gn+1))=a_ g'
  simp
 clear s3 Wr s4 Ks OB g6 g7 sn6 Ps;have Rv:∀ {Zx},ai [] Z3 Zx->∀p,p<F.kin.length->lU Zx "is_freed" (.ref (A p))=.bool (decide (p∈G))/\lU Zx "count" (.ref (A p))=.int (base F.kin F.firm G p:Nat) 0:=λ{Zx} OD p hp=>by
  refine eK (OL OD p hp) λd wk ds its e=>?_;unfold lU;dsimp only;rw[e];exact⟨rfl,rfl⟩
 refine aO (aU (dD (cl:=[]) rfl (aa (a7 rfl rfl (g8 v3)) (ew (λU=>e_) (lU Z8 "is_freed") (cY (g8 val)) (by simp;walk_at "o") rfl rfl (λy hy Qb hq=>dk hq) (λy hy hf Q hq=>?_) λl6 hl6=>?_))))
 ·refine ac (i_.mp hy) ?_;rintro p hp rfl
  have hp:=Dq.mp hp;refine eK (OL Qw p hp) λd wk ds its ex=>?_;refine av (aa (aB rfl rfl) (az ex rfl ?_));rw[(Rv Qw p hp).1]at hq;exact hq
 intros l6;have hfr:(((A' F.kin.length).map λp=>Di (A p)).filter λU=>e_).map (lU Z8 "is_freed")=(A' F.kin.length).map λp=>E' (decide (p∈G)):=by
  rw[DG.mpr λU U=>rfl,C_];exact Dp λp hp=>(Rv Qw p (Dq.mp hp)).1
 rw[hfr];have Nz:ai [] Z3 (Z8.set l6 (.lst ((A' F.kin.length).map λp=>E' (decide (p∈G))))):=Qw.new hl6;have s6:=ad Z8 l6 (.lst ((A' F.kin.length).map λp=>E' (decide (p∈G))));generalize (Z8.set l6 _)=Z9 at Nz s6⊢;have g9:∀ {a o},Z3 a=a_ o->Z9 a=a_ o:=λe=>Nz.get e aj;have kn9:=g9 (k3 KH rfl);have hl:(rows.map (Di)).length=F.kin.length:=by rw[b',Nb]
 refine dD (cl:=[("gone",F.c2)]) rfl (aA rfl (af (aA rfl (af (aa (aB rfl LD.kin) (am (bH (gu kn9 (by walk_at "e") (am (fT (by walk_at "b") (by walk_at "f") λl7 Uu=>?_))))))))));intros l7;have Kk:ai [] Z9 (Z9.set l7 (.rng ((rows.map (Di)).length:Int))):=(ai.refl _ _).new Uu;have s7:(Z9.set l7 (.rng ((rows.map (Di)).length:Int))) l7=a_ (.rng (F.kin.length:Int)):=by rw[ad,hl]
 generalize (Z9.set l7 _)=Za at Kk s7⊢;have MB:ai [] Z3 Za:=Nz.trans Kk (by exact aW);have ga:∀ {a o},Z3 a=a_ o->Za a=a_ o:=λe=>MB.get e aj;refine ew (λU=>e_) (λv=>match v with |.int i _=>.bool (decide (i.toNat∈G)) |_=>.none) (fS s7) (by simp;walk_at "o") rfl rfl (λy hy Qb hq=>dk hq) (λy hy hf Q hq=>?_) λl8 RA=>?_
 ·refine ac (i_.mp hy) ?_;rintro p hp rfl
  refine lB (aa (aB rfl rfl) (aa (bR rfl rfl (ga v2)) ⟨_,uQ (ga vg),?_⟩));have hq:Q (.bool (decide (((p:Int)).toNat∈G))) Za:=hq;rw[Dh]at hq;rw[show G.contains p=decide (p∈G) by simp];exact hq
 intros l8;have hgo:(((A' ((F.kin.length:Int)).toNat).map vN).filter λU=>e_).map (λv=>match v with |.int i _=>E' (decide (i.toNat∈G)) |_=>.none)=(A' F.kin.length).map λp=>E' (decide (p∈G)):=by
  rw[DG.mpr λU U=>rfl,C_,Dh];rfl
 rw[hgo];have YW:=Kk.get s6 aj;refine⟨g',(lS (ao RA YW) (ad _ _ _) (.inr (by exact Ef.trans (l_.mpr λU U=>rfl)))).1,aM rfl (ay ?_)⟩;have QY:ai [] Z3 (Za.set l8 (.lst ((A' F.kin.length).map λp=>E' (decide (p∈G))))):=MB.new RA;generalize (Za.set l8 _)=Zb at QY⊢;clear s6 YW s7 Nz Kk MB Qw g9 ga kn9;have gb:∀ {a o},Z3 a=a_ o->Zb a=a_ o:=λe=>QY.get e aj;have knb:=gb (k3 KH rfl);refine aO (aU (dD (cl:=[("arrays",F.c3),("gone",F.c2)]) rfl (aA rfl (af (aA rfl (af (aa (aB rfl LD.kin) (am (bH (gu knb (by walk_at "e") (am (fT (by walk_at "b") (by walk_at "f") λl7 Uu=>?_))))))))))));revert Uu;revert l7;injections l7;intro Uu;have Kk:ai [] Zb (Zb.set l7 (.rng ((rows.map (Di)).length:Int))):=(ai.refl _ _).new Uu;have s7:(Zb.set l7 (.rng ((rows.map (Di)).length:Int))) l7=a_ (.rng (F.kin.length:Int)):=by rw[ad,hl]
 generalize (Zb.set l7 _)=Zc at Kk s7⊢;have Vl:ai [] Z3 Zc:=QY.trans Kk (by exact aW);have gc:∀ {a o},Z3 a=a_ o->Zc a=a_ o:=λe=>Vl.get e aj;refine ew (λv=>match v with |.int i _=> !G.contains i.toNat|_=>g') (λv=>match v with |.int i _=>vN (base F.kin F.firm G i.toNat) |_=>.none) (fS s7) (by simp;walk_at "o") rfl rfl (λy hy Qb hq=>?_) (λy hy hf Q hq=>?_) λl8 RA=>?_
 ·refine ac (i_.mp hy) ?_;rintro p hp rfl
  have hq:Qb (!G.contains ((p:Int)).toNat) Zc:=hq;rw[Dh]at hq;refine cI (aU (aa (aB rfl rfl) (aa (bR rfl rfl (gc v2)) ⟨_,uR (gc vg),cG (λq=>dk ?_) (λq=>?_)⟩)))
  ·rw[q]at hq;exact hq
  ·rw[q]at hq;exact hq
 ·refine ac (i_.mp hy) ?_;rintro p hp rfl
  have hp:p<F.kin.length:=by have:=Dq.mp hp;walk_at "o"
  refine eK (OL Vl p hp) λd wk ds its ex=>?_;have hq:Q (vN (base F.kin F.firm G ((p:Int)).toNat)) Zc:=hq;rw[Dh]at hq;exact av (cQ (aa (bR rfl rfl (gc v3)) (aa (aB rfl rfl) ⟨_,fI (gc val) hp (by walk_at "o"),az ex rfl hq⟩)))
 revert RA;revert l8;injections l8;intro RA;have Ux:ai [] Z3 (Zc.set l8 (.lst ((((A' ((F.kin.length:Int)).toNat).map vN).filter λv=>match v with |.int i _=> !G.contains i.toNat|_=>g').map λv=>match v with |.int i _=>vN (base F.kin F.firm G i.toNat) |_=>.none))):=Vl.new RA;have s8:=ad Zc l8 (.lst ((((A' ((F.kin.length:Int)).toNat).map vN).filter λv=>match v with |.int i _=> !G.contains i.toNat|_=>g').map λv=>match v with |.int i _=>vN (base F.kin F.firm G i.toNat) |_=>.none));generalize YM:((((A' ((F.kin.length:Int)).toNat).map vN).filter λv=>match v with |.int i _=> !G.contains i.toNat|_=>g').map λv=>match v with |.int i _=>vN (base F.kin F.firm G i.toNat) |_=>.none)=Lc at Ux s8⊢;generalize (Zc.set l8 _)=Zd at Ux s8⊢;have gd:∀ {a o},Z3 a=a_ o->Zd a=a_ o:=λe=>Ux.get e aj;have knd:=gd (k3 KH rfl);clear Kk s7 Vl gc;refine dD (cl:=[("counts",F.c1),("gone",F.c2)]) rfl (aA rfl (af (aA rfl (af (aa (aB rfl LD.kin) (am (bH (gu knd (by walk_at "e") (am (fT (by walk_at "b") (by walk_at "f") λl9 hl9=>?_))))))))));intros l9;have M0:ai [] Zd (Zd.set l9 (.rng ((rows.map (Di)).length:Int))):=(ai.refl _ _).new hl9;have s9:(Zd.set l9 (.rng ((rows.map (Di)).length:Int))) l9=a_ (.rng (F.kin.length:Int)):=by rw[ad,hl]
 generalize (Zd.set l9 _)=Ze at M0 s9⊢;have Wv:ai [] Z3 Ze:=Ux.trans M0 (by exact aW);have ge:∀ {a o},Z3 a=a_ o->Ze a=a_ o:=λe=>Wv.get e aj;refine ew (λv=>match v with |.int i _=> !G.contains i.toNat|_=>g') (λv=>match v with |.int i _=>vN (base F.kin F.firm G i.toNat) |_=>.none) (fS s9) (by simp;walk_at "o") rfl rfl (λy hy Qb hq=>?_) (λy hy hf Q hq=>?_) λYF SM=>?_
 ·refine ac (i_.mp hy) ?_;rintro p hp rfl
  have hq:Qb (!G.contains ((p:Int)).toNat) Ze:=hq;rw[Dh]at hq;refine cI (aU (aa (aB rfl rfl) (aa (bR rfl rfl (ge v2)) ⟨_,uR (ge vg),cG (λq=>dk ?_) (λq=>?_)⟩)))
  ·rw[q]at hq;exact hq
  ·rw[q]at hq;exact hq
 ·refine ac (i_.mp hy) ?_;rintro p hp rfl
  have hp:p<F.kin.length:=by have:=Dq.mp hp;walk_at "o"
  have hq:Q (vN (base F.kin F.firm G ((p:Int)).toNat)) Ze:=hq;rw[Dh]at hq;exact cQ (aa (bR rfl rfl (ge v1)) (aa (aB rfl rfl) ⟨_,fI (ge vct) hp (by walk_at "o"),hq⟩))
 intros YF;rw[YM];have Ur:Lc.all bO=e_:=by
  rw[<-YM,Ef];refine l_.mpr λv hv=>?_;refine ac (i_.mp (DA.mp hv).1) ?_;rintro p hp rfl
  rfl
 have Zb1:=M0.get s8 aj;refine⟨g',(lS (ao SM Zb1) (ad _ _ _) (.inl Ur)).1,aM rfl (ay ?_)⟩;have Uk:ai [] Z3 (Ze.set YF (.lst Lc)):=Wv.new SM;generalize (Ze.set YF _)=Zf at Uk⊢;have gf:∀ {a o},Z3 a=a_ o->Zf a=a_ o:=λe=>Uk.get e aj;clear s8 Zb1 s9 M0 Wv ge gd knd Ux;have Ff:FS F.kin.length A Mb num (dE F.bs) F.kin F.firm G L Zf:=by
  refine⟨λe he=>?_,λe he=>?_,Sfs.tg,Sfs.cov,λp hp hg=>?_,λp hp hg i a ha=>?_,Sfs.ml,Sfs.km,Sfs.kr,Sfs.blv,Sfs.alive,Sfs.step,Sfs.m10,Sfs.l2,Sfs.n1,Sfs.n2,Sfs.n3,Sfs.n4,Sfs.n5⟩
  ·refine cS (Sfs.gl e he) λd wk e1=>?_
   exact⟨d,wk,gf (k3 e1 rfl)⟩
  ·refine dX (Sfs.gs e he) λd wk k v e1 e2=>?_
   exact⟨d,wk,k,v,gf (k3 e1 rfl),e2.frm λrf rd fl e=>gf (k3 e rfl)⟩
  ·refine jM (Sfs.ar p hp hg) λd k wk ds its e1 e2=>?_
   exact⟨d,k,wk,ds,its,gf (k3 e1 rfl),gf (k3 e2 rfl)⟩
  ·refine fW (Sfs.mb p hp hg i a ha) λd k wk v q e1 e2 e3=>?_
   exact⟨d,k,wk,v,q,gf (k3 e1 rfl),e2,e3.frm λrf rd fl e=>gf (k3 e rfl)⟩
 refine a9 (lB (aA rfl (af (dD (cl:=[]) rfl (aA rfl (af (aa (aB rfl LD.run) (am (aF rfl (uK Ff (gf (k3 S.rn rfl)) ok.f3 (gf (k3 S.st rfl)) (gf (k3 S.gl rfl)) S.hes λZg lX X hlX LY hX UK mX=>?_))))))))));intros Zg lX X;have PV:ai [] Z3 Zg:=Uk.trans LY (by exact aW);have gg:∀ {a o},Z3 a=a_ o->Zg a=a_ o:=λe=>PV.get e aj;have hXp:∀x∈X,∃p,p<F.kin.length/\x=A p:=λx hx=>by
  refine dZ ((mX x).mp hx) λp hp U U e=>?_;exact⟨p,hp,e⟩
 have inj:∀p q,p<F.kin.length->q<F.kin.length->A p=A q->p=q:=λp q hp hq e=>by
  have h1:=Qk PV p hp;rw[e,Qk PV q hq]at h1;walk_at "o"
 have Xq:(Y.map A).Nodup:=by
  rw[Ed,DL];refine EL (λ{a b} ha hb (q:a<b) e=>?_) S.ys;have:=inj a b (SN a ha) (SN b hb) e;walk_at "L"
 have Mq:(Y.map A).Perm X:=(FW Xq UK).mpr λx=>by
  rw[mX,i_];constructor
  ·rintro⟨p,hp,rfl⟩
   refine bP ((S.ym p).mp hp) λh1 h2 h3=>?_;exact⟨p,h1,h2,h3,rfl⟩
  ·rintro⟨p,h1,h2,h3,rfl⟩
   exact⟨p,(S.ym p).mpr ⟨h1,h2,h3⟩,rfl⟩
 have UN:X.length<=10:=by rw[<-Mq.length_eq,b'];exact hYl
 refine ew (λU=>e_) (ow Zg) (cY hX) (by rw[b'];walk_at "o") rfl rfl (λy hy Qb hq=>dk hq) (λy hy hf Q hq=>?_) λVn X2=>?_
 ·refine ac (i_.mp hy) ?_;rintro x hx rfl
  refine ac (hXp x hx) ?_;rintro p hp rfl;refine eK (OL PV p hp) λd wk ds its ex=>?_;refine av (aa (aB rfl rfl) (az ex rfl ?_));have hq:Q (.int (cD Zg (A p)) 0) Zg:=hq;rw[Qk PV p hp]at hq;exact hq
 intros Vn;have hnX:((X.map (Di)).filter λU=>e_).map (ow Zg)=(X.map (cD Zg)).map vI:=by
  rw[DG.mpr λU U=>rfl,C_,C_];rfl
 rw[hnX];refine am (bH (qq (ad _ _ _) (ke _) (by simp;walk_at "o") λUP Wo=>?_));intros UP;have WD:dy ((X.map (cD Zg)).map vI)=Y.map λp=>vN (p+1):=by
  have h1:(Y.map λ(p:Nat)=>((p:Int)+1)).Perm (X.map (cD Zg)):=by
   have h2:=Mq.map (cD Zg);rw[C_]at h2;have h3:Y.map (cD Zg∘A)=Y.map λ(p:Nat)=>((p:Int)+1):=Dp λp hp=>Qk PV p (SN p hp);rw[h3]at h2;exact h2
  rw[qx h1 (by exact DL.mpr (S.ys.imp λq=>by walk_at "bn")),C_];refine Dp λp hp=>?_;show Dl ((p:Int)+1) 0=Dl ((p+1:Nat):Int) 0
  rfl
 rw[WD];have Xd:ai [] Z3 ((Zg.set Vn (.lst ((X.map (cD Zg)).map vI))).set UP (.lst (Y.map λp=>vN (p+1)))):=(PV.new X2).new Wo;have s12:=ad (Zg.set Vn (.lst ((X.map (cD Zg)).map vI))) UP (.lst (Y.map λp=>vN (p+1)));generalize ((Zg.set Vn _).set UP _)=Zh at Xd s12⊢;have gh:∀ {a o},Z3 a=a_ o->Zh a=a_ o:=λe=>Xd.get e aj;refine dD (cl:=[("arrays",F.c3),("blessed",F.c6)]) rfl (aa (aB rfl Zag) (ew (lT F.bs) ou (cY (gh MM)) (by rw[b'];walk_at "a") rfl rfl (λy hy Qb hq=>?_) (λy hy hf Q hq=>?_) λl13 P8=>?_))
 ·refine ac (i_.mp hy) ?_;rintro p hp rfl
  intros Qb p;refine ac (Wl p (NY p hp)) λbb Tr R7=>?_;rw[R7]at hq;refine cI (oj (cQ (aa (bR rfl rfl (gh v6)) (aa (aB rfl rfl) ⟨.bool bb,fh (gh Yn) (by walk_at "a") (by have:=NY p hp;walk_at "g") (by rw[k_,Dh,Tr];rfl),fq ?_⟩))));cases bb with
  |true=>exact aZ rfl (dk hq)
  |false=>exact aM rfl hq
 ·refine ac (i_.mp hy) ?_;rintro p hp rfl
  refine eK (OL Xd p (NY p hp)) λd wk ds its ex=>?_;exact av (cQ (aa (bR rfl rfl (gh v3)) (aa (aB rfl rfl) ⟨_,fI (gh val) (NY p hp) (by walk_at "o"),az ex rfl hq⟩)))
 rw[hfm, <-hY];refine⟨e_,(lS (ao P8 s12) (ad _ _ _) (.inl (by exact Ef.trans (l_.mpr λU U=>rfl)))).2,?_⟩;refine bW S.e.hmn λd Nm d0 d1 hmn=>?_;exact hQ _ d Nm d0 d1 (ao P8 (gh (k3 hmn rfl))) (ao P8 (gh (k3 S.e.hcl rfl)))
theorem AW {cl:d_}{N:Nat}(hm:Z mn=a_ (.dic [(.str "cells" 0,.ref cl),(.str "deep" 0,.int JV 0)] N))(hcl:Z cl=a_ (.lst cells))(Ki:∀v∈cells,∃i:Int,v=.int i 0)(J6:cells.length<=60)
 (h0:0<=JV) (h1:JV<=100) (hQ:∀Z' d N',0<=d->d<=200->Z' mn=a_ (.dic [(.str "cells" 0,.ref cl),(.str "deep" 0,.int d 0)] N')->Z' cl=a_ (.lst cells)->Q (.bool e_) Z'):aI KC (aJ KC 7) 1 844 [.ref mn] Z Q:=by
 intros mn JV Z cells Q cl N;refine⟨rfl,?_⟩;show∀c1,isNew Z c1->∀c2,isNew (Z.set c1 (.cel h_)) c2->∀c3,isNew ((Z.set c1 (.cel h_)).set c2 (.cel h_)) c3->∀c4,isNew (((Z.set c1 (.cel h_)).set c2 (.cel h_)).set c3 (.cel h_)) c4->∀c5,isNew ((((Z.set c1 (.cel h_)).set c2 (.cel h_)).set c3 (.cel h_)).set c4 (.cel h_)) c5->
  ∀c6,isNew (((((Z.set c1 (.cel h_)).set c2 (.cel h_)).set c3 (.cel h_)).set c4 (.cel h_)).set c5 (.cel h_)) c6->au _ _ _ ⟨[("mine",.ref mn)],lR c1 c2 c3 c4 c5 c6⟩ ((((((Z.set c1 (.cel h_)).set c2 (.cel h_)).set c3 (.cel h_)).set c4 (.cel h_)).set c5 (.cel h_)).set c6 (.cel h_)) _
 intro c1 JY c2 J0 c3 Kb c4 Kq c5 LN c6 MJ;revert JY J0 Kb Kq LN;intros c1 c2 c3 c4 c5 c6;have x1:((((((Z.set c1 (.cel h_)).set c2 (.cel h_)).set c3 (.cel h_)).set c4 (.cel h_)).set c5 (.cel h_)).set c6 (.cel h_)) c1=a_ (.cel h_):=ao MJ (ao LN (ao Kq (ao Kb (ao J0 (ad _ _ _)))));have x2:((((((Z.set c1 (.cel h_)).set c2 (.cel h_)).set c3 (.cel h_)).set c4 (.cel h_)).set c5 (.cel h_)).set c6 (.cel h_)) c2=a_ (.cel h_):=ao MJ (ao LN (ao Kq (ao Kb (ad _ _ _))));have x3:((((((Z.set c1 (.cel h_)).set c2 (.cel h_)).set c3 (.cel h_)).set c4 (.cel h_)).set c5 (.cel h_)).set c6 (.cel h_)) c3=a_ (.cel h_):=ao MJ (ao LN (ao Kq (ad _ _ _)));have x4:((((((Z.set c1 (.cel h_)).set c2 (.cel h_)).set c3 (.cel h_)).set c4 (.cel h_)).set c5 (.cel h_)).set c6 (.cel h_)) c4=a_ (.cel h_):=ao MJ (ao LN (ad _ _ _));have x5:((((((Z.set c1 (.cel h_)).set c2 (.cel h_)).set c3 (.cel h_)).set c4 (.cel h_)).set c5 (.cel h_)).set c6 (.cel h_)) c5=a_ (.cel h_):=ao MJ (ad _ _ _);have x6:((((((Z.set c1 (.cel h_)).set c2 (.cel h_)).set c3 (.cel h_)).set c4 (.cel h_)).set c5 (.cel h_)).set c6 (.cel h_)) c6=a_ (.cel h_):=ad _ _ _;have n12:c1≠c2:=aq J0 (ad _ _ _);have n13:c1≠c3:=aq Kb (ao J0 (ad _ _ _));have n23:c2≠c3:=aq Kb (ad _ _ _);have n14:c1≠c4:=aq Kq (ao Kb (ao J0 (ad _ _ _)));have n24:c2≠c4:=aq Kq (ao Kb (ad _ _ _));have n34:c3≠c4:=aq Kq (ad _ _ _);have n15:c1≠c5:=aq LN (ao Kq (ao Kb (ao J0 (ad _ _ _))));have n25:c2≠c5:=aq LN (ao Kq (ao Kb (ad _ _ _)));have n35:c3≠c5:=aq LN (ao Kq (ad _ _ _));have n45:c4≠c5:=aq LN (ad _ _ _);have n16:c1≠c6:=aq MJ (ao LN (ao Kq (ao Kb (ao J0 (ad _ _ _)))));have n26:c2≠c6:=aq MJ (ao LN (ao Kq (ao Kb (ad _ _ _))));have n36:c3≠c6:=aq MJ (ao LN (ao Kq (ad _ _ _)));have n46:c4≠c6:=aq MJ (ao LN (ad _ _ _));have n56:c5≠c6:=aq MJ (ad _ _ _);have K4:ai [] Z ((((((Z.set c1 (.cel h_)).set c2 (.cel h_)).set c3 (.cel h_)).set c4 (.cel h_)).set c5 (.cel h_)).set c6 (.cel h_)):=(((((((ai.refl [] Z).new JY).new J0).new Kb).new Kq).new LN).new MJ);generalize ((((((Z.set c1 _).set c2 _).set c3 _).set c4 _).set c5 _).set c6 _)=Z1 at x1 x2 x3 x4 x5 x6 K4⊢;have m1:=K4.get hm aj;refine j8 (h3:=rfl) (h4:=rfl) (h1:=rfl) (h2:=rfl) (aA rfl (af (aa rfl (am (aF rfl (Aw m1 (K4.get hcl aj) Ki J6 h0 h1 λZ2 t kn ba fr kin bs firm fresh D2 ht Lb Sf hk8 Yy hba hbl hfr hfl hfx hf0 hf1=>nU ht rfl (fu (aV rfl (fu (fH rfl rfl (D2.1.get x6 ?_) (fu (aV rfl (fu (aV rfl (j9 ?_)))))))))))))))
 ·exact aE (ag x6 m1)
 intros Z2 t kn ba fr kin bs firm fresh;have cm:∀ {a o},Z1 a=a_ o->(kd o==3)=g'->a∉[mn]:=λ{a o} e k=>by exact aE (ag e m1 k)
 have y6:=D2.1.get x6 (cm x6 rfl);have E1:E0 mn cl cells kn ba fr kin bs firm c1 c2 c3 c4 c5 c6 h_ h_ h_ (Z2.set c6 (.cel (a_ (.ref ba)))):=by
  refine eM D2 λJS d N d0 d1 hmn=>?_;clear D2;exact⟨Lb.set y6 ae,ap (ag hba y6) hba,ap (ag hfr y6) hfr,ap n16 (JS.get x1 (cm x1 rfl)),ap n26 (JS.get x2 (cm x2 rfl)),ap n36 (JS.get x3 (cm x3 rfl)),ap n46 (JS.get x4 (cm x4 rfl)),ap n56 (JS.get x5 (cm x5 rfl)),ad _ _ _,
   ap (ag (JS.get (K4.get hcl aj) (cm (K4.get hcl aj) rfl)) y6) (JS.get (K4.get hcl aj) (cm (K4.get hcl aj) rfl)),d,N,d0,d1,ap (ag hmn y6) hmn⟩
 show au _ _ _ ⟨[("mine",.ref mn),("kin",.ref kn),("firm",.ref fr),("fresh",.int fresh 0)],lR c1 c2 c3 c4 c5 c6⟩ _ _;generalize (Z2.set c6 _)=Z3 at E1⊢;clear Lb hba hfr x1 x2 x3 x4 x5 x6 y6 cm ht D2 m1 K4;refine j8 (h3:=rfl) (h4:=rfl) (h1:=rfl) (h2:=rfl) (fi (af (aA rfl (af (aA rfl (am (d8 rfl rfl rfl λlm XJ QP=>nK (ad _ _ _) λZ4 J1 Ut=>⟨rfl,am (d8 rfl rfl rfl λhp dh Pq=>tR (ad _ _ _) λZ5 z hz Ke Ot QC=>⟨rfl,af (eU λsn KT=>am ⟨by simp,λt2 Kh=>nU (ad _ _ _) rfl (fu (fH (u:=h_) rfl rfl ?_ (fu (aV rfl (j9 ?_)))))⟩)⟩)⟩)))))))
 ·have QQ:=dO QP J1
  have Ro:=dO Pq Ke;exact ao Kh (ao KT (Ro.get (QQ.get E1.x5 aj) aj))
 revert QP J1 Ut Pq hz Ke Ot QC KT;intros lm XJ Z4 hp dh Z5 z sn t2;have QQ:=dO QP J1;have Ro:=dO Pq Ke;have E2:=(((E1.frm QQ (by exact aW)).frm Ro (by exact aW)).new (o:=.lst []) KT).new (o:=.tup [.ref hp,.ref sn]) Kh;have E3:=E2.set5 (.ref hp) n15 n25 n35 n45 n56.symm;have b1:((((Z5.set sn (.lst [])).set t2 (.tup [.ref hp,.ref sn])).set c5 (.cel (a_ (.ref hp))))) hp=a_ (.inst 225 dh (bN lm 0 z)):=ap (ag (ao Kh (ao KT Ot)) E2.x5) (ao Kh (ao KT Ot));have b2:((((Z5.set sn (.lst [])).set t2 (.tup [.ref hp,.ref sn])).set c5 (.cel (a_ (.ref hp))))) z=a_ (.lst []):=ap (ag (ao Kh (ao KT QC)) E2.x5) (ao Kh (ao KT QC));have b3:((((Z5.set sn (.lst [])).set t2 (.tup [.ref hp,.ref sn])).set c5 (.cel (a_ (.ref hp))))) sn=a_ (.lst []):=ap (ag (ao Kh (ad Z5 sn (.lst []))) E2.x5) (ao Kh (ad Z5 sn (.lst [])));have nzs:z≠sn:=aq KT QC;refine dm E1.rows λrows r1 r2 r3=>?_;intros rows;have XY:∀ {a o},Z3 a=a_ o->(kd o==4)=g'->((((Z5.set sn (.lst [])).set t2 (.tup [.ref hp,.ref sn])).set c5 (.cel (a_ (.ref hp))))) a=a_ o:=λ{a o} e k=>by
  have e':=ao (o':=.tup [.ref hp,.ref sn]) Kh (ao (o':=.lst []) KT (Ro.get (QQ.get e aj) aj));exact ap (ag e' E2.x5 k) e'
 have rk:=XY r1 rfl;have XS:∀a,a∈kn::ba::fr::cl::rows->a≠z/\a≠sn/\∃xs,((((Z5.set sn (.lst [])).set t2 (.tup [.ref hp,.ref sn])).set c5 (.cel (a_ (.ref hp))))) a=a_ (.lst xs):=λa ha=>by
  have h3:∃xs,Z3 a=a_ (.lst xs):=by
   simp only [f_]at ha;rcases ha with rfl|rfl|rfl|rfl|ha
   ·exact⟨_,r1⟩
   ·exact⟨_,E1.hba⟩
   ·exact⟨_,E1.hfr⟩
   ·exact⟨_,E1.hcl⟩
   ·obtain⟨i,hi,rfl⟩:=FU.mp ha
    refine ac (r3 i kin[i] (w_ (by walk_at "a"))) λa' e1 e2=>?_;rw[w_ hi]at e1;cases e1;exact⟨_,e2⟩
  refine xE h3 λxs e=>?_;clear h3;exact⟨aq hz (ao Pq (QQ.get e aj)),aq KT (Ro.get (QQ.get e aj) aj),xs,XY e rfl⟩
 show au _ _ _ ⟨[("mine",.ref mn),("kin",.ref kn),("firm",.ref fr),("fresh",.int fresh 0),("sent",.ref sn)],lR c1 c2 c3 c4 c5 c6⟩ _ _;generalize ((((Z5.set sn _).set t2 _).set c5 _))=Z6 at E3 b1 b2 b3 rk XS⊢;clear XY r1 r3 E1 E2 QQ Ro J1 Ke Ot QC Ut KT Kh;refine a8 (aA rfl (af (aa (a7 rfl rfl E3.x5) (af (av (aa (aB rfl rfl) (AM b3 λbm VA=>am (d8 rfl rfl rfl λc dc hc=>zr (ad _ _ _) λZ7 pl em np ne hpl hem nep OB Zaq Sw Uy=>⟨rfl,fH (u:=h_) rfl rfl ?_ ?_⟩))))))))
 ·exact(dO hc OB).get (ao VA E3.x4) aj
 revert VA hc;intros bm c dc Z7 pl em np ne;have PK:ai [] Z6 Z7:=((ai.refl [] Z6).new VA).trans (dO hc OB) (by exact aW);have RQ:=(dO hc OB).get (ad Z6 bm (.bm "list.append" sn)) aj;have E4:=E3.frm PK (by exact aW);have E5:=E4.set4 (.ref c) n14 n24 n34 n45.symm n46.symm;have N5:∀ {a o},Z7 a=a_ o->(kd o==4)=g'->(Z7.set c4 (.cel (a_ (.ref c)))) a=a_ o:=λ{a o} e k=>ap (ag e E4.x4 k) e;have e1:=N5 (PK.get b1 aj) rfl;have e2:=N5 (PK.get b2 aj) rfl;have e3:=N5 (PK.get b3 aj) rfl;have e4:=N5 Zaq rfl;have e5:=N5 Sw rfl;have e6:=N5 Uy rfl;have e7:=N5 RQ rfl;have h850:850<=bm:=VA.2;have Zao:=N5 (PK.get rk aj) rfl;have Zah:∀a,a∈kn::ba::fr::cl::rows->a≠z/\a≠sn/\∃xs,(Z7.set c4 (.cel (a_ (.ref c)))) a=a_ (.lst xs):=λa ha=>by
  refine jH (XS a ha) λq1 q2 xs e=>?_;exact⟨q1,q2,xs,N5 (PK.get e aj) rfl⟩
 show au _ _ _ ⟨[("mine",.ref mn),("kin",.ref kn),("firm",.ref fr),("fresh",.int fresh 0),("sent",.ref sn)],lR c1 c2 c3 c4 c5 c6⟩ _ _;generalize (Z7.set c4 _)=Z8 at E5 e1 e2 e3 e4 e5 e6 e7 Zao Zah⊢;clear XS rk E3 E4 PK N5 OB Zaq Sw Uy RQ b1 b2 b3;refine a8 (aA rfl (af (aa (a7 rfl rfl E5.x5) (af (aa (a7 rfl rfl E5.x4) (af (aA rfl (af (aa (a7 rfl rfl E5.x5) (am (d8 rfl rfl rfl λst sd K8=>tS (ad _ _ _) λZ9 gl N9 hgl Nz Tm RP=>⟨rfl,af (aA rfl (am (d8 rfl rfl rfl λNW PI Mk=>nK (ad _ _ _) λKr K2 TW=>⟨rfl,am (d8 rfl rfl rfl λrn rd Oa=>tT (ad _ _ _) λKG a1 a2 a3 a4 a5 out J5 saves frames Km I11=>⟨rfl,aV rfl ?_⟩)⟩)))⟩)))))))))));revert K8 hgl Nz Tm RP Mk K2 TW Oa;intros st sd Z9 gl N9 NW PI Kr rn rd KG a1 a2 a3 a4 a5 out J5 saves frames Km;have Zba:=dO K8 Nz;have Ox:=dO Mk K2;have RR:=I11.at_;have Mx:=(I11.ls saves (.tail _ (.head _))).1;have Sj:=(I11.ls saves (.tail _ (.head _))).2;have QT:=dO Oa I11.F;clear I11;have hG:ai [] Z8 KG:=(Zba.trans Ox (by exact aW)).trans QT (by exact aW);have E6:=E5.frm hG (by exact aW);have f1:=hG.get e1 aj;have f2:=hG.get e2 aj;have f3:=hG.get e3 aj;have f4:=hG.get e4 aj;have f5:=hG.get e5 aj;have f6:=hG.get e6 aj;have f7:=hG.get e7 aj;have f8:=QT.get (Ox.get Tm aj) aj;have f9:=QT.get (Ox.get RP aj) aj;have ngp:gl≠pl:=(aq hgl (ao K8 e5)).symm;have nge:gl≠em:=(aq hgl (ao K8 e6)).symm;refine bW E5.hmn λdmn Nmn dm0 dm1 Yj=>?_;have ngm:mn≠gl:=aq hgl (ao K8 Yj);have NM:∀ {a o},Z8 a=a_ o->(Kr.set rn (.inst 714 rd [])) a=a_ o:=λe=>ao Oa (Ox.get (Zba.get e aj) aj);have nvz:saves≠z:=(aq Mx (NM e2)).symm;have nvs:saves≠sn:=(aq Mx (NM e3)).symm;have X7:=hG.get Zao aj
 let F:dK:={mn:=mn,cl:=cl,cells:=cells,kn:=kn,ba:=ba,fr:=fr,rows:=rows,kin:=kin,bs:=bs,firm:=firm,fresh:=fresh,c1:=c1,c2:=c2,c3:=c3,c4:=c4,c5:=c5,c6:=c6,β:=⟨c,hp,bm,sn,pl,em,lm,dc,dh,np,ne⟩,z:=z,gl:=gl,saves:=saves,st:=st,sd:=sd,rn:=rn,rd:=rd,fl:=dJ hp c st NW a1 a2 a3 a4 a5 out J5 saves frames Km}
 have ok:jF F:=⟨λa ha=>by
  refine jH (Zah a ha) λq1 q2 xs e=>?_;have q3:a≠saves:=aq Mx (NM e);show a∉[z,sn,saves];exact eZ q1 q2 q3,⟨n12,n13,n14,n15,n16,n23,n24,n25,n26,n34,n35,n36,n45,n46,n56⟩,⟨Sf,hk8,Yy,hbl,hfl,hfx,hf0,hf1⟩,h850,nzs,nvz,nvs,ngp,nge,ngm,rfl,rfl,rfl⟩
 have b:eH F h_ KG:=⟨E6,f2,f3,Sj,f8,RR,X7⟩;exact AP (F:=F) ok b f1 f4 f5 f6 f7 f9 λA Mb Ms num last cnt L N Mt al nl e0 loc Z' S LA Ov T4 Lf P3 PY=>AQ ok S LA Ov T4 Lf P3 PY λZ' Y NH S4' Mc=>AV ok S4' LA Ov Mc hQ
noncomputable abbrev dU:Fu:=⟨#[],{}⟩
theorem oy (b:d_):dU.get? b=h_:=IP (Hg _)
noncomputable abbrev aP (l:b_ Env):b_ d_:=l.filterMap (·.frame)
noncomputable def Ch (F:b_ d_)(e:d_)(H h:Fu):Prop:=∀b o,H.get? b=a_ o->b≠e->(b∉F->h.get? b=a_ o)/\∃sl,h.get? b=a_ {o with slots:=sl}
noncomputable def gM (H:Fu)(e C:d_)(d:m_ d_)(x:c_)(h:Fu):Prop:=
 ∃vs tb Pi M1,h.get? e=a_ {cls:=.ref C,dict:=d,data:=.fields vs}/\vs.size=6/\vs[1]? =a_ (.ref tb)/\H.get? tb=h_/\tb≠e/\h.get? tb=a_ Pi/\Pi.data=.fields M1/\M1[3]? =a_ x
theorem Ch.refl (F:b_ d_)(e:d_)(H:Fu):Ch F e H H:=λb o h U=>⟨λU=>h,o.slots,h⟩
theorem Ch.slots {F G:b_ d_}{e:d_}{H:Fu}(c:Ch F e H h)(x:Heap.SlotsOnly G h h')(hG:∀b∈G,b∈F):Ch F e H h':=λb o hb ne=>by
 refine gx (c b o hb ne) λc1 sl c2=>?_;refine⟨λhF=>(x.2.1 b λq=>hF (hG b q)).trans (c1 hF),?_⟩;refine xE (x.2.2 b _ c2) λsl' e'=>?_;exact⟨sl',e'⟩
theorem Ch.keep {F:b_ d_}{e:d_}{H:Fu}(c:Ch F e H h)(k:∀b o,b≠e->H.get? b≠h_->h.get? b=a_ o->h'.get? b=a_ o):Ch F e H h':=λb o hb ne=>by
 refine gx (c b o hb ne) λc1 sl c2=>?_;have hn:H.get? b≠h_:=by rw[hb];simp
 exact⟨λhF=>k b o ne hn (c1 hF),sl,k b _ ne hn c2⟩
section
variable{M:Model}{A:DJ}{E:c_->i'->Prop}{L e:d_}{d:m_ d_}{F:b_ d_}{H:Fu}
theorem uS {vs:Gc c_}{head:c_}{hadNext:Dm}{Q:IG->i'->Prop}(hfr:A.frames=a_ (env::outer))(hl:s.heap.FunFrames dU (env::outer))(hf:env.frame=a_ L)
 (he:s.heap.get? e=a_ {cls:=.ref C,dict:=d,data:=.fields vs}) (hz:vs.size=6) (c:Ch F e H s.heap) (hF:∀b∈aP (env::outer),b∈F) (hs:∀b,H.get? b≠h_->s.heap.get? b≠h_)
 (h:∀h',Ch F e H h'->gM H e C d (rawInt L) h'->h'.FunFrames dU (env::outer)->(∀b,s.heap.get? b≠h_->h'.get? b≠h_)->Q () {s with heap:=h'}):
 wpAny M A (do let a<-frameOf env;let pl<-entryPlaceOf L hadNext;let b<-EntryCells.newEntry head a .none (rawInt L) .none pl;setField (.ref e) 1 b) Q E s:=by
 intros C s env outer M A E L e d F H vs head hadNext Q;have Wa:e∉aP (env::outer):=λhm=>by
  refine gy (hl.mem hm) λU o ho hnf=>?_;rw[he]at ho;injection ho with ho;subst ho;exact hnf vs rfl
 refine wpAny_bind (wpAny_frameOf_fun hfr hl hf λh1 KW=>?_);intros h1;refine wpAny_bind (wpAny_entryPlaceOf λpl hpl=>?_);intros pl;unfold EntryCells.newEntry newFields;refine wpAny_bind (FM ?_ (hpl.sizeOk5 _ _ _ _ _));have N7:h1.get? e=a_ {cls:=.ref C,dict:=d,data:=.fields vs}:=(KW.2.1 e Wa).trans he;generalize Zak:({cls:=.type "traceback",dict:=h_,data:=.fields ([head,.ref L,.none,rawInt L,.none]++(if pl.isEmpty then List.replicate 6 DU else pl)).toArray}:Obj)=ot;have OS:=j' ot N7;refine II OS rfl (by walk_at "o") ?_;have sb:=D7 (h1.push ot) e (Et (·.setIfInBounds 1 (Di h1.objs.size)));have Pe:h1.objs.size≠e:=FZ (Dn N7);have k:∀b o,b≠e->h1.get? b=a_ o->((h1.push ot).update e (Et (·.setIfInBounds 1 (Di h1.objs.size)))).get? b=a_ o:=λb o nb eb=>(sb.2 b nb).trans (j' _ eb);refine h _ ((c.slots KW hF).keep λb o nb U eb=>k b o nb eb) ⟨vs.setIfInBounds 1 (.ref h1.objs.size),h1.objs.size,ot,_,DN _ OS rfl,by simpa using hz,?_,?_,Pe,?_,by exact congrArg _ Zak.symm,rfl⟩ ?_ ?_
 ·exact(FP (by walk_at "o"))
 ·cases q:H.get? h1.objs.size with
  |none=>rfl
  |some o=>
   have:=hs _ (by rw[q];simp);exact absurd (IP (by exact KW.1▸(DW _))) this
 ·refine(sb.2 _ Pe).trans (y_ _ ?_)
  rw[<-Zak];rfl
 ·refine(hl.of_slotsOnly KW).of_keeps λb o hb hd=>⟨o,k b o (λq=>?_) hb,rfl⟩
  subst q;rw[N7]at hb;cases hb;exact hd _ rfl
 ·intro b hb
  cases q:s.heap.get? b with
  |none=>exact absurd q hb
  |some o=>
   refine xE (KW.2.2 b o q) λsl e1=>?_;by_cases nb:b=e
   ·subst nb;rw[DN _ OS rfl];simp
   ·rw[k b _ nb e1];simp
theorem AX {vs:Gc c_}{Q:IG->i'->Prop}(hfr:A.frames=a_ (env::outer))(hl:s.heap.FunFrames dU (env::outer))(hf:env.frame=a_ L)
 (he:s.heap.get? e=a_ {cls:=.ref C,dict:=d,data:=.fields vs}) (hz:vs.size=6) (h1:vs[1]? =a_ .none) (c:Ch F e H s.heap) (hF:∀b∈aP (env::outer),b∈F) (hs:∀b,H.get? b≠h_->s.heap.get? b≠h_)
 (h:∀h',Ch F e H h'->gM H e C d (rawInt L) h'->h'.FunFrames dU (env::outer)->(∀b,s.heap.get? b≠h_->h'.get? b≠h_)->Q () {s with heap:=h'}):
 wpAny M A (JJ (.ref e) env) Q E s:=by
 unfold JJ;simp only [hf];refine wpAny_bind (IQ he rfl h1 ?_);rw[p_ (by decide)];exact uS hfr hl hf he hz c hF hs h
theorem AY {Q:IG->i'->Prop}(hfr:A.frames=a_ (env::outer))(hl:s.heap.FunFrames dU (env::outer))(hf:env.frame=a_ L)
 (x:gM H e C d .none s.heap) (c:Ch F e H s.heap) (hF:∀b∈aP (env::outer),b∈F) (hs:∀b,H.get? b≠h_->s.heap.get? b≠h_)
 (h:∀h',Ch F e H h'->gM H e C d (rawInt L) h'->h'.FunFrames dU (env::outer)->(∀b,s.heap.get? b≠h_->h'.get? b≠h_)->Q () {s with heap:=h'}):
 wpAny M A (JJ (.ref e) env) Q E s:=by
 intros C s env outer M A E L e d F H Q;refine dX x λvs tb Pi M1 he zz=>?_;intros vs tb Pi M1;clear x;refine gz zz λhz h1 hn Pe LW zz=>?_;refine xA zz λM' h3=>?_;clear zz;unfold JJ;simp only [hf];refine wpAny_bind (IQ he rfl h1 ?_);rw[z_ (show(Di tb !=DU)=e_ from by exact rfl)];refine wpAny_bind (IQ LW M' h3 ?_);rw[p_ (by rw[C9];intro q;exact(vx q).elim)];have sb:=D7 s.heap tb (Et (·.setIfInBounds 3 .none));have Q4:3<M1.size:=(E9.mp h3).1;refine wpAny_bind (II LW M' Q4 ?_);have k:∀b o,b≠tb->s.heap.get? b=a_ o->(s.heap.update tb (Et (·.setIfInBounds 3 .none))).get? b=a_ o:=λb o nb eb=>(sb.2 b nb).trans eb;refine uS (s:={s with heap:=s.heap.update tb (Et (·.setIfInBounds 3 .none))}) hfr (hl.of_keeps λb o hb hd=>⟨o,k b o (λq=>?_) hb,rfl⟩) hf (k e _ (Ex Pe) he) hz (c.keep λb o nb hb eb=>k b o (λq=>hb (q▸hn)) eb) hF ?_ λh' c' x' f' n'=>h h' c' x' f' λb hb=>n' b ?_
 ·subst q;rw[LW]at hb;cases hb;exact hd _ M'
 ·intro b hb
  cases q:s.heap.get? b with
  |none=>exact absurd q (hs b hb)
  |some o=>rw[k b o (λz=>hb (z▸hn)) q];simp
 ·cases q:s.heap.get? b with
  |none=>exact absurd q hb
  |some o=>
   by_cases nb:b=tb
   ·subst nb
    rw[DN _ LW (GX (Gw M' _))];simp
   ·rw[k b o nb q];simp
theorem uT {L':d_}{Q:IG->i'->Prop}{y:c_}(x:gM H e C d y s.heap)(c:Ch F e H s.heap)(hl:s.heap.FunFrames dU outer)
 (h:∀h',Ch F e H h'->gM H e C d .none h'->h'.FunFrames dU outer->(∀b,s.heap.get? b≠h_->h'.get? b≠h_)->Q () {s with heap:=h'}):wpAny M A (setFlight (.ref e) h_) Q E s:=by
 intros C s outer M A E e d F H Q y;refine dX x λvs tb Pi M1 he zz=>?_;intros vs tb Pi M1;clear x;refine gz zz λhz h1 hn Pe LW zz=>?_;refine xA zz λM' h3=>?_;clear zz;have Q4:3<M1.size:=(E9.mp h3).1;have sb:=D7 s.heap tb (Et (·.setIfInBounds 3 .none));have k:∀b o,b≠tb->s.heap.get? b=a_ o->(s.heap.update tb (Et (·.setIfInBounds 3 .none))).get? b=a_ o:=λb o nb eb=>(sb.2 b nb).trans eb;refine IR he rfl h1 LW M' Q4 (h _ (c.keep λb o nb hb eb=>k b o (λq=>hb (q▸hn)) eb) ⟨vs,tb,_,M1.setIfInBounds 3 .none,k e _ (Ex Pe) he,hz,h1,hn,Pe,DN _ LW (GX (Gw M' _)),Gw M' _,?_⟩ ?_ ?_)
 ·exact(FP Q4)
 ·refine hl.of_keeps λb o hb hd=>⟨o,k b o (λq=>?_) hb,rfl⟩
  subst q;rw[LW]at hb;cases hb;exact hd _ M'
 ·intro b hb
  cases q:s.heap.get? b with
  |none=>exact absurd q hb
  |some o=>
   by_cases nb:b=tb
   ·subst nb
    rw[DN _ LW (GX (Gw M' _))];simp
   ·rw[k b o nb q];simp
end
section
variable{B:aS}{A:DJ}
theorem uU {x i:d_}{d:m_ d_}(X:(KF w.params).In s.heap)(R:aN prog w Zb6 Z B s.heap)(q:Z x=a_ (.exc C d fr fl))(hi:cP.lookup C=a_ i):
 Hm (A_ prog w) s.heap (typeOf (.ref x)) (.ref C)/\Hm (A_ prog w) s.heap (isType (.ref x)) g'/\Hm (A_ prog w) s.heap (typeOf (.ref C)) (.type "type"):=by
 intros C fr Z fl Zb6 s prog w B x i d;refine bW (R.exc q) λox od I U U=>?_;refine dH (pL X hi) λnm qn N bs bm zz=>?_;refine dH zz λKp sn sub ab col zz=>?_;refine dH zz λdd k0 k1 k2 k3 zz=>?_;refine ac zz λk5 hC U=>?_;clear zz;refine xA (R.om _ _ q) ?_;rintro⟨vs,hx,hz,hf⟩-;refine⟨I.type,?_,?_⟩
 ·exact(Looks.ld (part:=a_ headPart) hx).andThen .now
 ·exact(Looks.ld (part:=a_ headPart) hC).andThen .now
theorem AZ {x:Str}{xp:Pos}{e i:d_}{d:m_ d_}{Q:Ih->i'->Prop}(D:aQ w Zb6 mg mb)(N:bL env sc)(S:St prog w Zb6 Zb9 env fm Z B s)(hA:A.handled=h_)
 (hx:cF x=e_) (hn:bM sc x fm Z=a_ (.ref e)) (he:Z e=a_ (.exc C d e_ fl)) (hi:cP.lookup C=a_ i) (h:Err (.ref e) s):wpAny (A_ prog w) A (exec (.Raise (a_ (.Name x xp)) h_ pos) env) Q Err s:=by
 intros C pos Z fl Zb6 Zb9 s fm sc mg mb env prog w Err B A x xp e i d Q;have X:=S.rep.in D;refine bP (uU X S.rep he hi) λL1 L2 L3=>?_;have F:=rS hi w.params;refine bW (S.rep.exc he) λox od I U U=>?_;revert U;revert I;revert ox od;injections ox od;intro _ I U;refine xA (S.rep.om _ _ he) ?_;rintro⟨vs,ho,hz,hf⟩-;intros vs;have L4:Hm (A_ prog w) s.heap (I_ (.ref e) (.type "BaseException")) e_:=I.type.andThen (JM X F.be);rw[arm_exec_Raise];refine wpAny_bind (I8 ?_);show wpAny _ A (raiseStmt env (a_ (do let v<-eval (.Name x xp) env;standAt pos;F9 v)) h_) _ _ s;unfold raiseStmt;dsimp only;refine wpAny_bind (wpAny_bind (Ey (gU D S N hx hn λu hu=>?_) (fF hx).1));intros u;have:=cU hu;subst this;refine wpAny_bind (I8 (wpAny_pure ?_));refine wpAny_bind (wpAny_pure ?_);refine wpAny_bind (Es ?_);unfold excFromValue isExcClass;refine wpAny_bind (wpAny_bind (L2.here ?_));simp only [Dt,Fj];refine wpAny_pure ?_;refine wpAny_bind (L4.here ?_);simp only [Gn];refine wpAny_pure ?_;refine wpAny_bind (L2.here ?_);simp only [Dt,Fj];unfold raisedInstance;refine wpAny_bind (wpAny_bind (L1.here (wpAny_bind (L3.here ?_))));simp only [C',Gn];refine wpAny_pure ?_;unfold setFlight;refine wpAny_bind (wpAny_bind (IQ ho rfl (hf rfl) ?_));rw[p_ (by decide)];exact wpAny_pure (wpAny_raiseNew_none hA h)
end
theorem A1 {L:d_}{m:Str->m_ c_}(hm:h.Ns L m)(k:∀o,h.get? L=a_ o->∃sl,h'.get? L=a_ {o with slots:=sl}):h'.Ns L m:=by
 refine eJ hm λo es ep e zz=>?_;clear hm;refine xA zz λhd r=>?_;clear zz;refine xE (k o e) λsl e'=>?_;exact⟨_,es,ep,e',hd,r⟩
section
variable{B:aS}{e:d_}{d:m_ d_}{F:b_ d_}{y:c_}
theorem aN.flight {B':aS}(R:aN prog w Zb6 Z B h)(he:Z e=a_ (.exc C d fr fl))(c:Ch F e h h')(x:gM h e C d y h')(hF:∀L∈F,¬own Z L/\Zb6.get? L=h_)
 (hB:∀b o,B' b=a_ o->¬own Z b/\h'.get? b=a_ o) (hb0:∀b o,Zb6.get? b=a_ o->h'.get? b=a_ o->B' b=a_ o):
 aN prog w Zb6 (Z.set e (.exc C d g' fl)) B' h':=by
 intros C fr Z fl Zb6 h h' prog w B e d F y B';have k:∀b o,b≠e->own Z b->h.get? b=a_ o->h'.get? b=a_ o:=λb o nb ob eb=>(c b o eb nb).1 λq=>(hF b q).1 ob;have hde:∀z,d=a_ z->z≠e:=λz hz q=>by
  have:=R.sep _ _ _ he hz;rw[q,he]at this;exact(sn this).elim
 have m:OM prog w h' e (.exc C d g' fl):=by
  refine dX x λvs tb Pi M1 h1 zz=>?_;clear x;refine xA zz λh2 U=>?_;clear zz;refine bP (R.om _ _ he) λU a1 a2=>?_;refine⟨⟨vs,h1,h2,λq=>(nomatch q)⟩,a1,λz hz=>?_⟩;refine aY (a2 z hz) λes n b1 b2=>?_;exact⟨es,n,k z _ (hde z hz) (gT he hz) b1,b2⟩
 have om:∀a o,(Z.set e (.exc C d g' fl)) a=a_ o->OM prog w h' a o:=by
  intro a o ea;by_cases q:a=e
  ·subst q;rw[ad]at ea;cases ea;exact m
  ·rw[bA _ _ q]at ea
   refine(R.om a o ea).keep λb o' hb eb=>k b o' ?_ ⟨a,o,ea,hb⟩ eb;rcases hb with rfl|hb
   ·exact q
   ·intro z
    have:=R.sep _ _ _ ea hb;rw[z,he]at this;exact(sn this).elim
 have bs:∀b o,Zb6.get? b=a_ o->h'.get? b=a_ o:=λb o eb=>by
  have hb:=R.apart _ _ (R.base _ _ eb);exact(c b o (R.get eb) λq=>hb (q▸dw he)).1 λq=>by exact(ns (((hF b q).2).symm.trans eb))
 refine⟨om,λb o eb=>(hB b o eb).2,λb o eb q=>(hB b o eb).1 ((iZ (o':=.exc C d g' fl) he rfl b).mp q),λb o eb=>hb0 b o eb (bs b o eb),?_,?_⟩
 ·intro a o z ea hz
  intros a o z;have hn:Z z=h_:=by
   by_cases q:a=e
   ·subst q;rw[ad]at ea;cases ea;exact R.sep _ _ _ he hz
   ·rw[bA _ _ q]at ea;exact R.sep _ _ _ ea hz
  rw[bA _ _ (λq=>by exact(sn (he.symm.trans (q▸hn))))];exact hn
 ·have f:∀ {a o z},(Z.set e (.exc C d g' fl)) a=a_ o->bD o=a_ z->∃o',Z a=a_ o'/\bD o'=a_ z:=by
   intro a o z ea hz;by_cases q:a=e
   ·subst q;rw[ad]at ea;cases ea;exact⟨_,he,hz⟩
   ·rw[bA _ _ q]at ea;exact⟨o,ea,hz⟩
  intro a o a' o' z ea hz ea' Ly;refine ac (f ea hz) λo1 e1 z1=>?_;refine ac (f ea' Ly) λo2 e2 z2=>?_;exact R.inj _ _ _ _ _ e1 z1 e2 z2
noncomputable def Bz (Zby:aS)(h:Fu):aS:=λb=>match Zby b with
 |some _=>h.get? b
 |none=>h_
theorem oz {Zby:aS}{b:d_}{o:Obj}(q:Bz Zby h b=a_ o):(∃o',Zby b=a_ o')/\h.get? b=a_ o:=by
 unfold Bz at q;split at q
 · (rename Zby b=_=>z;rename PySem.Obj=>o');exact⟨⟨o',z⟩,q⟩
 ·exact(ns q).elim
theorem lV {Zby:aS}{b:d_}{o o':Obj}(z:Zby b=a_ o')(q:h.get? b=a_ o):Bz Zby h b=a_ o:=by
 unfold Bz;rw[z];exact q
theorem qL {Zby:aS}{b:d_}(z:Zby b=h_):Bz Zby h b=h_:=by
 unfold Bz;rw[z]
theorem St.toBz (S:St prog w Zb6 Zb9 env fm Z B s):St prog w Zb6 Zb9 env fm Z (Bz B s.heap) s:=by
 refine⟨S.rep.less (λb o q=>?_) λb o q=>lV (S.rep.base _ _ q) (S.rep.get q),S.ns,S.free,qL S.priv,S.cel,S.same⟩;refine xA (oz q) ?_;rintro⟨o',z⟩ q;have:=S.rep.keep _ _ z;rw[q]at this;rw[this];exact z
theorem St.flight (S:St prog w Zb6 Zb9 env fm Z B s)(S':St prog w Zb6 Zb9 JR JN Z' (rst Z s.heap) s')(he:Z' e=a_ (.exc C d fr fl))(c:Ch F e s'.heap h')(x:gM s'.heap e C d y h')(hF:∀L∈F,¬own Z' L/\Zb6.get? L=h_)(hl:env.locals∈F):
 St prog w Zb6 Zb9 env fm (Z'.set e (.exc C d g' fl)) (Bz B h') {s' with heap:=h'}:=by
 refine ac S.ns λm hm hx=>?_;refine eJ hm λo es ep hL h2=>?_;clear hm;have hr:Internal.rst Z s.heap env.locals=a_ o:=d7 S.free hL;have k1:=S'.rep.keep _ _ hr;have n1:env.locals≠e:=λq=>(hF _ hl).1 (q▸dw he);refine gx (c _ _ k1 n1) λU sl k2=>?_;refine⟨S'.rep.flight he c x hF (λb o q=>?_) (λb o q q'=>lV (S.rep.base _ _ q) q'),⟨m,⟨_,es,ep,k2,h2⟩,hx⟩,λq=>(hF _ hl).1 ((iZ (o':=.exc C d g' fl) he rfl _).mp q),qL S.priv,S.cel,S'.same⟩;refine xA (oz q) ?_;rintro⟨o',z⟩ q;exact⟨S'.rep.apart _ _ (d7 (S.rep.apart _ _ z) (S.rep.keep _ _ z)),q⟩
end
section
set_option backward.match.sparseCases true
section
variable{B:aS}{A:DJ}
theorem A2 (h:fd.params=⟨[],[],h_,[],[],h_,[]⟩)(h1:fd.defaults=.none)(h2:fd.kwdefaults=.none):Gh fd ⟨[],[]⟩=F9 []:=by
 obtain⟨n,q,ps,b,sc,g,cl,d,k,dc,pm,an,c,ct,bi⟩:=fd;dsimp only at h h1 h2;subst h h1 h2
 kernel_rfl
theorem A3 {KR:DR}{body:b_ Gf}{q:Str}{R:Ja->i'->Prop}(D:aQ w Zb6 mg mb)(S:St prog w Zb6 Zb9 env fm Z B s)(LS:A.depth<Hy)
 (hf:Z f=a_ (.clo KR body cl q c)) (Mf:Z 819=a_ (.tab (a_ (p,q,c)))) (hk:KR.kind=.function) (Qc:KR.isCoroutine=g') (MW:KR.isGenerator=g') (LI:∀x∈KR.names,x.2≠ .cell) (Na:kindOf KR "told"≠a_ .local)
 (h:∀JR s',bL JR KR->St prog w Zb6 Zb9 JR ⟨[],cl⟩ Z (rst Z s.heap) s'->JR.frame=a_ JR.locals->JR.scope.kind≠ .module->JR.locals=s.heap.objs.size->(∀b o,s.heap.get? b=a_ o->s'.heap.get? b=a_ o)->
  wpAny (A_ prog w) (A.deeper JR) (execs body JR) (λfl s2=>R (.ok (.ret (match fl with |.ret v=>v|_=>.none))) s2)
   (λe s2=>wpAny (A_ prog w) (A.deeper JR) (leaving JR e) (λU s3=>R (.error e) s3) (λe' s3=>R (.error e') s3) s2) s'):
 Hr (A_ prog w) A (.call (.ref f) ⟨[],[]⟩) R s:=by
 refine dZ (S.rep.om _ _ hf) λfd ho hq VK zz=>?_;refine gz zz λhdf MK hb LB hg zz=>?_;refine bP zz λNI LH Pj=>?_;clear zz;refine jK (S.rep.om _ _ Mf) λU oc vs t zz=>?_;refine bP zz λhc hd hv=>?_;clear zz;refine GV (fd:=fd) (body:=body) LS ho rfl (by rw[LB];exact Qc) (by rw[LB];exact MW) hb ⟨c,oc,vs,t,LH,hc,hd,by exact hq▸hv⟩ ?_;have Nc:=A2 VK hdf MK;rw[Nc,LB,hg,NI,hq,Pj];refine wpAny_pure (IS LI (λx hx=>by exact(aj hx).elim) (λh1 VO sb=>?_) hk);have keep:∀b o,s.heap.get? b=a_ o->h1.get? b=a_ o:=λb o e=>(sb.2 b (Eb (Dn e))).trans (j' _ e);have nl:¬own Z s.heap.objs.size:=S.rep.notSize;have nr:rst Z s.heap s.heap.objs.size=h_:=by
  cases e:rst Z s.heap s.heap.objs.size with
  |none=>rfl
  |some x=>exact absurd (Dn (j0 e).2) (DH _)
 have S1:St prog w Zb6 Zb9 (newEnv KR s.heap.objs.size mainGlobals cl (q++".<locals>.") (a_ f) fd.code h_ E7) ⟨[],cl⟩ Z (rst Z s.heap) {s with heap:=h1,toks:=s.toks+([]:b_ (Str×Value)).length}:=by
  refine⟨S.rep.rst.ext keep,⟨_,VO,λy v hy=>by exact(ns hy).elim⟩,nl,nr,λU U e=>e,S.same⟩
 have EO:bL (newEnv KR s.heap.objs.size mainGlobals cl (q++".<locals>.") (a_ f) fd.code h_ E7) KR:=
  ⟨hk,rfl,rfl,λy z=>z,λy z=>z,λy z=>.inl z,λy z=>z,λz=>absurd z Na⟩
 refine⟨(S.rep.lim D).keeps keep,Jo (h _ _ EO S1 rfl (by show KR.kind≠_;rw[hk];decide) rfl keep)⟩
end
end
noncomputable def uV (B:TT)(S:ST)(f:d_)(Z:ak)(Qn:ak->Prop)(Qe:d_->d_->b_ (Str×Value)->ak->Prop):Prop:=
 ∃KR Op t x xp rp ip cl q c p,Z f=a_ (.clo KR (Op++[.If t [.Raise (a_ (.Name x xp)) h_ rp] [] ip]) cl q c)/\Z 819=a_ (.tab (a_ (p,q,c)))/\
  KR.kind=.function/\KR.isCoroutine=g'/\KR.isGenerator=g'/\(∀x∈KR.names,x.2≠ .cell)/\kindOf KR "told"≠a_ .local/\cF x=e_/\
  au S Op KR ⟨[],cl⟩ Z λfl fm Z=>fl=.next/\B t KR fm Z λb Z=>if b=e_ then(∃e C d Mo i,bM KR x fm Z=a_ (.ref e)/\Z e=a_ (.exc C d e_ Mo)/\cP.lookup C=a_ i/\Qe e C Mo (Z.set e (.exc C d g' Mo)))else Qn Z
section
variable{B:aS}{A:DJ}{d:Nat}
theorem qM {post:b_ Gf}{K:Fm->ak->Prop}{Q:Ih->i'->Prop}(HS:fR qt prog w Zb6 Zb9 d St')(N:bL env sc)(hA:a0 qt d A)(k:∀fm Z s,K fm Z->St prog w Zb6 Zb9 env fm Z B s->wpAny (A_ prog w) A (execs post env) Q Err s):
 ∀ (Op:b_ Gf) {fm:Fm} {Z:ak} {s:i'},au St' Op sc fm Z (λfl fm Z=>fl=.next/\K fm Z)->St prog w Zb6 Zb9 env fm Z B s->wpAny (A_ prog w) A (execs (Op++post) env) Q Err s
 | [],fm,Z,s,h,S=>k fm Z s h.2 S
 |e::r,fm,Z,s,h,S=>by
  refine Eg (HS h N S hA λfl Ll Z1 s1 h1 S1=>?_);cases fl with
  |next=>exact qM HS N hA k r h1 S1
  |brk=>exact absurd h1.1 (by simp[mW])
  |cont=>exact absurd h1.1 (by simp[mW])
  |ret v=>exact absurd h1.1 (by simp[mW])
structure Cn (prog:Fc)(w:Ew)(Zb6:Fu)(Zb9:i')(l:b_ Env)(Zby:aS)(F:b_ d_)(e C:d_)(d:m_ d_)(fl:b_ (Str×Value))(Z1:ak)(s3 s':i'):Prop where
 st:∃KP LX,St prog w Zb6 Zb9 KP LX Z1 Zby s3
 at_:Z1 e=a_ (.exc C d e_ fl)
 ch:Ch F e s3.heap s'.heap
 ex:gM s3.heap e C d .none s'.heap
 ff:s'.heap.FunFrames dU l
 le:∀b,s3.heap.get? b≠h_->s'.heap.get? b≠h_
 sh:s'={s3 with heap:=s'.heap}
 no:∀L∈F,¬own Z1 L/\Zb6.get? L=h_
theorem kz {l:b_ Env}(hl:h.FunFrames dU l)(k:∀b∈aP l,∀o,h.get? b=a_ o->∃o',h'.get? b=a_ o'/\o'.data=o.data):h'.FunFrames dU l:=by
 intros h h' l;induction l with
 |nil=>trivial
 |cons c r ih=>
  intros c r;refine bP hl ?_;clear hl;rintro hk ⟨L,o,hf,hn,ho,hd⟩ hr;have hL:L∈aP (c::r):=by unfold aP;rw[D8,hf];exact .head _
  refine ac (k L hL o ho) λo' Pf Ru=>?_;refine⟨hk,⟨L,o',hf,hn,Pf,λvs=>Ru▸hd vs⟩,ih hr λb hb=>k b ?_⟩;unfold aP;rw[D8,hf];exact .tail _ hb
theorem A4 {Qn:ak->Prop}{Qe:d_->d_->b_ (Str×Value)->ak->Prop}(D:aQ w Zb6 mg mb)(HS:fR qt prog w Zb6 Zb9 d St')(HB:fc qt prog w Zb6 Zb9 d Bt)(S:St prog w Zb6 Zb9 env fm Z B s)(hA:a0 qt (d+1) A)(hh:A.handled=h_)
 (hfr:A.frames=a_ (env::outer)) (MO:s.heap.FunFrames dU (env::outer)) (hef:env.frame=a_ env.locals) (hno:∀L∈aP (env::outer),¬own Z L/\Zb6.get? L=h_)
 (h:uV Bt St' f Z Qn Qe):
 wpAny (A_ prog w) A (call (.ref f) []) (λu s'=>u=.none/\∃Z',Qn Z'/\St prog w Zb6 Zb9 env fm Z' B s')
  (λev s'=>∃e C d fl Z1 s3 i,ev=.ref e/\Qe e C fl (ak.set Z1 e (.exc C d g' fl))/\cP.lookup C=a_ i/\Cn prog w Zb6 Zb9 (env::outer) (rst Z s.heap) (s.heap.objs.size::aP (env::outer)) e C d fl Z1 s3 s') s:=by
 intros f qt Z Zb6 Zb9 s St' fm mg mb env prog w Bt outer B A d Qn Qe;refine dH h ?_;clear h;rintro KR Op t x xp zz;intros KR Op t x xp;refine dH zz λrp ip cl q c zz=>?_;revert zz;revert rp ip cl q c;injections rp ip cl q c;intro zz;refine dZ zz λp hf Mf hk zz=>?_;intros p;refine gz zz λQc MW LI Na hx h=>?_;clear zz;refine FB (A3 D S hA.room hf Mf hk Qc MW LI Na λKP s2 N2 S2 Rl hk2 JX Zbc=>?_);intros KP s2;have Rd:a0 qt d (A.deeper KP):=hA.deeper KP;refine qM HS N2 Rd (K:=λfm Z=>Bt t KR fm Z λb Z=>if b=e_ then(∃e C d Mo i,bM KR x fm Z=a_ (.ref e)/\Z e=a_ (.exc C d e_ Mo)/\cP.lookup C=a_ i/\Qe e C Mo (Z.set e (.exc C d g' Mo)))else Qn Z) (λLZ Z3 s3 h3 S3=>?_) Op h S2;intros LZ Z3 s3;refine Eg (wpAny_If (HB h3 N2 S3 Rd λb Z4 s4 h4 S4=>?_));intros b Z4 s4;cases b with
 |false=>
  simp only [Dt,Fj]at h4⊢;exact Fh (Fh ⟨rfl,Z4,h4,S.back S4⟩)
 |true=>
  simp only [Gn]at h4⊢;refine fW h4 λe C d' Mo i hn he zz=>?_;revert zz;revert he;revert hn;revert e C d' Mo i;injections e C d' Mo i;intro hn he zz;clear h4;refine xA zz λhi hq=>?_;clear zz;refine Eg (AZ D N2 S4 hh hx hn he hi ?_);have Yu:∀L∈aP (env::outer),¬own Z4 L:=λL hL=>by
   refine gy (MO.mem hL) λU o ho U=>?_;exact S4.rep.apart _ _ (d7 (hno L hL).1 ho)
  have Si:s4.heap.FunFrames dU (KP::env::outer):=by
   refine ac S4.ns ?_;rintro mm ⟨o,es,ep,ho,hd,_⟩ _;refine⟨hk2,⟨KP.locals,o,Rl,oy _,ho,λvs z=>by rw[hd]at z;cases z⟩,kz MO λL hL o ho=>⟨o,S4.rep.keep _ _ (d7 (hno L hL).1 ho),rfl⟩⟩
  refine xA (S4.rep.om _ _ he) ?_;rintro⟨vs,VZ,X6,hf4⟩-;intros vs;have hF:∀b∈aP (KP::env::outer),b∈s.heap.objs.size::aP (env::outer):=λb hb=>by
   unfold aP at hb;rw[D8,Rl]at hb;rcases f_.mp hb with rfl|hb
   ·exact JX▸(.head _)
   ·exact .tail _ hb
  have VU:(A.deeper KP).frames=a_ (KP::env::outer):=by
   show A.frames.map (KP:: ·)=_;rw[hfr];rfl
  unfold leaving;refine wpAny_bind (AX (H:=s4.heap) VU Si Rl VZ X6 (hf4 rfl) (.refl _ _ _) hF (λU z=>z) λh5 c5 x5 f5 n5=>?_);refine uT (s:={s4 with heap:=h5}) (L':=0) x5 c5 f5.2.2 λh6 c6 x6 f6 n6=>?_;refine⟨e,C,d',Mo,Z4,s4,i,rfl,hq,hi,⟨⟨KP,_,S4⟩,he,c6,x6,f6,λb hb=>n6 b (n5 b hb),rfl,λL hL=>?_⟩⟩;rcases f_.mp hL with rfl|hL
  ·refine⟨JX▸S4.free,?_⟩
   cases z:Zb6.get? s.heap.objs.size with
   |none=>rfl
   |some o=>exact absurd (Dn (S.rep.get z)) (DH _)
  ·exact⟨Yu L hL,(hno L hL).2⟩
end
noncomputable def lW (C D:d_):Dm:=C==D||D==557
theorem A5 (P:DF):(cP.all λp=>cP.all λq=>exmOne (KF P) (.ref p.1) (.ref q.1)==a_ (lW p.1 q.1))=e_:=by kernel_rfl
theorem A6 {D i j:d_}(h1:cP.lookup C=a_ i)(h2:cP.lookup D=a_ j)(P:DF):exmOne (KF P) (.ref C) (.ref D)=a_ (lW C D):=
 C9.mp (l_.mp (l_.mp (A5 P) (C,i) (dP h1)) (D,j) (dP h2))
noncomputable def lY (S:ST)(sc:DR)(e C:d_)(fm:Fm)(Z:ak)(Q:bC):b_ I9->Prop
 | []=>False
 |.ExceptHandler t nm body _::r=>∃cn p D j,t=a_ (.Name cn p)/\kindOf sc cn=a_ .globalImplicit/\cF cn=e_/\G cn=a_ (.ref D)/\cP.lookup D=a_ j/\body≠[]/\
  (if lW C D=e_ then(match nm with
   |none=>au S body sc fm Z λfl U Z=>∃v,fl=.ret v/\Q v Z
   |some n=>kindOf sc n=a_ .local/\au S body sc ⟨aL n (.ref e) fm.loc,fm.cel⟩ Z λfl U Z=>∃v,fl=.ret v/\Q v Z)else lY S sc e C fm Z Q r)
section
variable{B:aS}{A:DJ}{d:Nat}{H:Fu}{e:d_}{y:c_}
theorem a0.mark {v:m_ c_}(x:a0 qt d A):a0 e_ d (A.mark v):=⟨λq=>(nomatch q),x.dp,x.un⟩
theorem St.tbOff {tb:d_}(S:St prog w Zb6 Zb9 env fm Z B s)(k:∀b o,b≠tb->s.heap.get? b=a_ o->h'.get? b=a_ o)(n1:¬own Z tb)(n2:B tb=h_)(n3:env.locals≠tb):St prog w Zb6 Zb9 env fm Z B {s with heap:=h'}:=by
 refine⟨S.rep.chg (λb=>b=tb) (λb o nb eb=>k b o nb eb) (λb q=>by rw[q];exact n1) (λb q=>by exact q▸n2),?_,S.free,S.priv,S.cel,S.same⟩;refine ac S.ns ?_;rintro m ⟨o,es,ep,e1,r⟩ hl;exact⟨m,⟨o,es,ep,k _ _ n3 e1,r⟩,hl⟩
theorem St.flightOff {Q:IG->i'->Prop}(S:St prog w Zb6 Zb9 env fm Z B s)(x:gM H e C dd y s.heap)(hH:∀b,own Z b\/B b≠h_\/b=env.locals->H.get? b≠h_)
 (h:∀h',St prog w Zb6 Zb9 env fm Z B {s with heap:=h'}->Q () {s with heap:=h'}):wpAny (A_ prog w) A (setFlight (.ref e) h_) Q Err s:=by
 refine dX x λvs tb Pi M1 he zz=>?_;clear x;refine gz zz λhz h1 hn Pe LW zz=>?_;refine xA zz λM' h3=>?_;clear zz;have Q4:3<M1.size:=(E9.mp h3).1;have sb:=D7 s.heap tb (Et (·.setIfInBounds 3 .none));refine IR he rfl h1 LW M' Q4 (h _ (S.tbOff (tb:=tb) (λb o nb eb=>(sb.2 b nb).trans eb) (λq=>hH tb (.inl q) hn) ?_ λq=>hH tb (.inr (.inr q.symm)) hn));cases q:B tb with
 |none=>rfl
 |some o=>exact absurd hn (hH tb (.inr (.inl (by rw[q];simp))))
theorem St.nameOff {n:Str}{Q:IG->i'->Prop}(S:St prog w Zb6 Zb9 env fm Z B s)(N:bL env sc)(hk:kindOf sc n=a_ .local)
 (h:∀s',St prog w Zb6 Zb9 env ⟨[],fm.cel⟩ Z B s'->Q () s'):wpAny (A_ prog w) A (do bindName env n .none;unbindBehindTheSuite env n pos) Q Err s:=by
 refine ac S.ns λm hm hl=>?_;refine wpAny_nameGoes (N.kl _ hk) hm (by exact N.kind▸rfl) λh' m' PJ sb=>h _ ?_;refine⟨S.rep.chg (λb=>b=env.locals) (λb o nb eb=>(sb.2 b nb).trans eb) (λb q=>by rw[q];exact S.free) (λb q=>by exact q▸S.priv),⟨m',PJ,λx v hx=>by cases hx⟩,S.free,S.priv,S.cel,S.same⟩
theorem uW {i:d_}{Q:bC}(D:aQ w Zb6 mg mb)(HS:fR e_ prog w Zb6 Zb9 d Sq)(N:bL env sc)(hA:a0 qt d A)(hH:∀b,own Z b\/B b≠h_\/b=env.locals->H.get? b≠h_)(he:∃fr fl,Z e=a_ (.exc C dd fr fl))(hi:cP.lookup C=a_ i):
 ∀ (hs:b_ I9) {s:i'},lY Sq sc e C fm Z Q hs->St prog w Zb6 Zb9 env fm Z B s->gM H e C dd y s.heap->
 wpAny (A_ prog w) A (handleBy (.ref e) env hs) (λfl s'=>∃v Z',fl=.ret v/\Q (er v) Z'/\St prog w Zb6 Zb9 env ⟨[],fm.cel⟩ Z' B s') Err s
 | [],s,h,S,x=>h.elim
 |.ExceptHandler t nm body pos::r,s,h,S,x=>by
  refine dX h ?_;clear h;rintro cn p Dc j rfl zz;refine gz zz λhk Pu hg hj Oe h=>?_;clear zz;refine cS he λfr fl Rq=>?_;clear he;refine cS (List.exists_cons_of_ne_nil Oe) ?_;rintro b0 MA rfl;have X:=S.rep.in D;have LT:=(uU X S.rep Rq hi).1;refine wpAny_handleBy_cons (codeAny_handlers_test (Ey (jq D S.rep N hk hg λu hu=>?_) (fF Pu).1)) (by intro q;exact(vx q).elim);have:=cU hu;subst this;refine(exm_one X LT (A6 hi hj w.params)).here ?_;by_cases c:lW C Dc=e_
  ·rw[c]at h⊢
   simp only [Gn]at h⊢;cases nm with
   |none=>
    refine codeAny_handlers_suite (S.flightOff x hH λh' S'=>?_);revert D HS N hA hH hi S x hk Pu hg hj Rq Oe X LT hu c h;intros C qt Z Zb6 Zb9 Sq fm sc mg mb env prog w Err dd B A d H e y i Q pos s cn Dc j fr fl b0 MA h';refine i6 HS N hA.mark (λf LX Z2 s2 z2 S2=>?_) (b0::MA) h S';intros f LX Z2 s2;refine ac z2 λv hv hq=>?_;clear z2;cases f<;>first |(cases hv;done) |skip
    rename PySem.Value=>v'
    cases hv;refine ac S2.ns λm hm hl=>?_;exact⟨v',Z2,rfl,hq,⟨S2.rep,⟨m,hm,λx v hx=>by exact(ns hx).elim⟩,S2.free,S2.priv,S.cel,S2.same⟩⟩
   |some n=>
    revert D HS N hA hH hi S x hk Pu hg hj Rq Oe X LT hu c;intros C qt Z Zb6 Zb9 Sq fm sc mg mb env prog w Err dd B A d H e y i Q pos s cn Dc j fr fl b0 MA n;refine xA h ?_;clear h;rintro KH h;refine codeAny_handlers_suite_as (S.flightOff x hH λh' S'=>?_);intros h';refine gi S' N (k:=λLX Z2=>LX=⟨aL n (.ref e) fm.loc,fm.cel⟩/\Z2=Z) (by unfold dv;rw[KH];exact⟨rfl,rfl⟩) λLX Z2 s2 hq S2=>?_;refine xA hq ?_;clear hq;rintro rfl rfl;refine i6 HS N hA.mark (λf LZ Z3 s3 z3 S3=>?_) (b0::MA) h S2;refine ac z3 λv hv hq=>?_;clear z3;cases f<;>first |(cases hv;done) |skip
    rename PySem.Value=>v'
    cases hv;refine S3.nameOff N KH λs4 S4=>⟨v',Z3,rfl,hq,⟨S4.rep,S4.ns,S4.free,S4.priv,S.cel,S4.same⟩⟩
  ·have c':lW C Dc=g':=by simpa using c
   rw[c']at h⊢;simp only [Dt,Fj]at h⊢;exact uW D HS N hA hH ⟨fr,fl,Rq⟩ hi r h S x
end
section
set_option backward.match.sparseCases true
noncomputable abbrev fU:DR:=cR KC 669
noncomputable def lZ:b_ I9:=match cV KC 669 with
 |.Try _ hs _ _ _::_=>hs
 |_=>[]
theorem uX (P:DF):hO (KF P) 669=e_:=by kernel_rfl
theorem A7 (P:DF)(S:Js)(a b:c_):(cB KC 669).map (λfd=>peek (KF P) S (Gh fd ⟨[a,b],[]⟩))=a_ (a_ ([("run",a),("work",b)]:b_ (Str×Value))):=by kernel_rfl
theorem A8:(fU.names.all λx=>x.2 != .cell)=e_:=by kernel_rfl
theorem A9:kindOf fU "run"=a_ .local:=by kernel_rfl
theorem uY:kindOf fU "work"=a_ .local:=by kernel_rfl
theorem Ba:∃p1 p2 p3 p4 k p5 p6 h0 hs,cV KC 669=[.Try [.Expr (.Call (.Name "work" p1) [] [] p2) p3] (h0::hs) [] [] p4,.Return (a_ (.Constant (.int 0) k p5)) p6]/\lZ=h0::hs:=⟨_,_,_,_,_,_,_,_,_,rfl,rfl⟩
section
variable{B:aS}{A:DJ}{d:Nat}{H:Fu}{e:d_}{y:c_}
theorem Bb {r f:c_}{R:Ja->i'->Prop}(D:aQ w Zb6 mg mb)(S:St prog w Zb6 Zb9 env fm Z B s)(LS:A.depth<Hy)
 (h:∀JR s',bL JR fU->St prog w Zb6 Zb9 JR ⟨[("run",er r),("work",er f)],[]⟩ Z (rst Z s.heap) s'->JR.frame=a_ JR.locals->JR.scope.kind≠ .module->JR.locals=s.heap.objs.size->(∀b o,s.heap.get? b=a_ o->s'.heap.get? b=a_ o)->
  wpAny (A_ prog w) (A.deeper JR) (execs (cV KC 669) JR) (λfl s2=>R (.ok (.ret (match fl with |.ret v=>v|_=>.none))) s2)
   (λe s2=>wpAny (A_ prog w) (A.deeper JR) (leaving JR e) (λU s3=>R (.error e) s3) (λe' s3=>R (.error e') s3) s2) s'):
 Hr (A_ prog w) A (.call (.ref 669) ⟨[r,f],[]⟩) R s:=by
 intros Z Zb6 Zb9 s fm mg mb env prog w B A r f R;have hs:=uX w.params;have Kg:∃fd,cB KC 669=a_ fd:=Ds.mp (by kernel_rfl);refine xE Kg λfd hf0=>?_;intros fd;clear Kg;have hf1:=ly (D:=KD w.params) hf0;unfold hO at hs;rw[show cB (KF w.params) 669=a_ fd from hf1]at hs;simp only [u_,Fi,C9,Ei,G5,l_]at hs;refine xA hs ?_;clear hs;rintro⟨⟨⟨⟨⟨⟨⟨⟨⟨⟨⟨h1,h2⟩,h3⟩,h4⟩,h5⟩,h6⟩,h7⟩,h8⟩,UL⟩,h9⟩,VL⟩,U4⟩ UX;have X:=S.rep.in D;have hl:∃oc od Lq,(KF w.params).lookup 669=a_ ⟨oc,od,.func fd,Lq⟩:=by
  have:=hf1;exact j1 this
 refine jI hl ?_;clear hl;rintro oc od Lq hl;intros oc od Lq;have KM:fd.body=.stmts (cV KC 669):=by
  unfold cV lx;rw[hf0];dsimp only;split at h1
  ·rename _=FT _=>q;exact q
  ·exact(ft h1).elim
 have LB:fU=fd.scope:=by show cR KC 669=_;unfold cR;rw[hf0]
 have Tq:∀S,peek (KF w.params) S (Gh fd ⟨[r,f],[]⟩)=a_ ([("run",r),("work",f)]:b_ (Str×Value)):=λS=>by
  have:=A7 w.params S r f;rw[hf0,Go]at this;exact De this
 refine GV (fd:=fd) (body:=cV KC 669) LS (X _ _ hl) rfl h7 h8 KM (codeRec_of X h5) ((kp_binds X Tq) _ _ _ _ ?_);rw[h2,h3,h4, <-LB];rw[<-LB]at h6;have LI:∀x∈fU.names,x.2≠ .cell:=λx hx=>by
  have:=l_.mp A8 x hx;rwa[FA]at this
 refine IS LI (λx hx=>?_) (λZa0 VO sb=>?_) h6
 ·rcases f_.mp hx with rfl|hx
  ·exact A9
  ·rcases f_.mp hx with rfl|hx
   ·exact uY
   ·exact(aj hx).elim
 intros Za0;have keep:∀b o,s.heap.get? b=a_ o->Za0.get? b=a_ o:=λb o e=>(sb.2 b (Eb (Dn e))).trans (j' _ e);have nl:¬own Z s.heap.objs.size:=S.rep.notSize;have nr:rst Z s.heap s.heap.objs.size=h_:=by
  cases e:rst Z s.heap s.heap.objs.size with
  |none=>rfl
  |some x=>exact absurd (Dn (j0 e).2) (DH _)
 have EO:bL (newEnv fU s.heap.objs.size mainGlobals [] (fd.qualname++".<locals>.") (a_ 669) fd.code h_ E7) fU:=
  ⟨h6,rfl,rfl,λy z=>z,λy z=>z,λy z=>.inl z,λy z=>z,λz=>absurd z (by decide+kernel)⟩
 refine⟨(S.rep.lim D).keeps keep,Jo (h _ _ EO ⟨S.rep.rst.ext keep,⟨_,VO,λx v hx=>?_⟩,nl,nr,λU U e=>e,S.same⟩ rfl (by show fU.kind≠_;rw[h6];decide) rfl keep)⟩;intros x v;rw[v_]at hx;split at hx
 ·rename _=e_=>q;cases hx;rw[C9.mp q];exact⟨r,rfl,rfl⟩
 ·rename _=g'=>q
  rw[v_]at hx;split at hx
  ·rename _=e_=>q';cases hx;rw[C9.mp q'];exact⟨f,rfl,rfl⟩
  ·exact(ns hx).elim
end
end
noncomputable def oB (B:TT)(S Sq:ST):Wf:=λvs Z Q=>∃r f,vs=[r,.ref f]/\uV B S f Z (λZ=>Q (.int 0 0) Z) λe C _ Z=>lY Sq fU e C ⟨[("run",r),("work",.ref f)],[]⟩ Z Q lZ
noncomputable def Up (Zby:aS)(F:b_ d_)(h:Fu):Prop:=∀b o,Zby b=a_ o->(b∉F->h.get? b=a_ o)/\∃sl,h.get? b=a_ {o with slots:=sl}
section
variable{B:aS}{A:DJ}{d:Nat}
theorem qN {JU:Env}{F:b_ d_}{LX:Fm}{Z2:ak}{h6:Fu}{s2:i'}(S:St prog w Zb6 Zb9 env fm Z B s)(S2:St prog w Zb6 Zb9 JU LX Z2 (Bz (rst Z s.heap) h6) s2)(U:Up (rst Z s.heap) F h6):
 St prog w Zb6 Zb9 env fm Z2 (Bz B s2.heap) s2/\Up B F s2.heap/\∀L o,¬own Z L->s.heap.get? L=a_ o->∃sl,s2.heap.get? L=a_ {o with slots:=sl}:=by
 intros Z Zb6 Zb9 s fm env prog w B JU F LX Z2 h6 s2;have Vd:∀b o,rst Z s.heap b=a_ o->∃sl,s2.heap.get? b=a_ {o with slots:=sl}/\h6.get? b=a_ {o with slots:=sl}/\¬own Z2 b/\(b∉F->{o with slots:=sl}=o):=λb o z=>by
  refine gx (U b o z) λu1 sl u2=>?_;have q:=lV z u2;exact⟨sl,S2.rep.keep _ _ q,u2,S2.rep.apart _ _ q,λnb=>by rw[u1 nb]at u2;exact(De u2).symm⟩
 have WU:∀b o,B b=a_ o->rst Z s.heap b=a_ o:=λb o z=>d7 (S.rep.apart _ _ z) (S.rep.keep _ _ z);refine ac S.ns λm hm hx=>?_;have PJ:=hm;refine eJ hm λoL es ep hL h2=>?_;clear hm;have hrL:rst Z s.heap env.locals=a_ oL:=d7 S.free hL;refine dZ (Vd _ _ hrL) λslL e2 _ nL _=>?_;refine⟨⟨S2.rep.less (λb o q=>?_) (λb o q=>?_),⟨m,A1 PJ λo q=>?_,hx⟩,nL,qL S.priv,S.cel,S2.same⟩,λb o z=>?_,λL o nL' ho=>?_⟩
 ·refine xA (oz q) ?_;rintro⟨o',z⟩ q
  refine dm (Vd _ _ (WU _ _ z)) λsl e1 e3 _=>?_;rw[q]at e1;rw[e1];exact lV (WU _ _ z) e3
 ·exact lV (S.rep.base _ _ q) (S2.rep.get q)
 ·rw[hL]at q;cases q;exact⟨slL,e2⟩
 ·refine dZ (Vd _ _ (WU _ _ z)) λsl e1 _ _ e4=>?_
  exact⟨λnb=>by rw[e1,e4 nb],sl,e1⟩
 ·refine ac (Vd L o (d7 nL' ho)) λsl e1 _=>?_
  exact⟨sl,e1⟩
theorem Bc {vs:b_ c_}(D:aQ w Zb6 mg mb)(HS:fR g' prog w Zb6 Zb9 d Ss)(HB:fc g' prog w Zb6 Zb9 d Bt)(HQ:fR e_ prog w Zb6 Zb9 d Sq)(S:St prog w Zb6 Zb9 env fm Z B s)(hA:a0 g' (d+2) A)
 (hfr:A.frames=a_ (env::outer)) (MO:s.heap.FunFrames dU (env::outer)) (hef:env.frame=a_ env.locals) (hno:∀L∈aP (env::outer),¬own Z L/\Zb6.get? L=h_) (hW:oB Bt Ss Sq (vs.map er) Z Q):
 wpAny (A_ prog w) A (call (.ref 669) vs) (λu s'=>∃Z',Q (er u) Z'/\St prog w Zb6 Zb9 env fm Z' (Bz B s'.heap) s'/\s'.heap.FunFrames dU (env::outer)/\Up B (aP (env::outer)) s'.heap) Err s:=by
 intros Z Zb6 Zb9 s Sq Ss fm mg mb env Q prog w Bt Err outer B A d vs;refine aY hW ?_;clear hW;rintro r0 f hv hW;intros r0 f;refine bW (pM hv) ?_;rintro r f' rfl rfl Ok;intros r f';have:=cU Ok;subst this;refine FB (Bb D S hA.room λJU s1 N1 S1 hf1 Sf du TU=>?_);intros JU s1;refine dH Ba λp1 p2 p3 p4 k zz=>?_;intros p1 p2 p3 p4 k;refine dX zz λp5 p6 h0 hs KM Xl=>?_;intros p5 p6 h0 hs;clear zz;rw[KM];have Nd:a0 g' (d+1) (A.deeper JU):=hA.deeper JU;have Ka:(A.deeper JU).handled=h_:=Nd.hd rfl;have Lz:(A.deeper JU).frames=a_ (JU::env::outer):=by
  show A.frames.map (JU:: ·)=_;rw[hfr];rfl
 have W3:s1.heap.FunFrames dU (JU::env::outer):=by
  refine ac S1.ns ?_;rintro mm ⟨o,es,ep,ho,hd,_⟩ _;exact⟨Sf,⟨JU.locals,o,hf1,oy _,ho,λvs z=>by rw[hd]at z;cases z⟩,kz MO λL hL o ho=>⟨o,TU _ _ ho,rfl⟩⟩
 have Rk:aP (JU::env::outer)=JU.locals::aP (env::outer):=by unfold aP;rw[D8,hf1]
 have YE:∀L∈aP (JU::env::outer),¬own Z L/\Zb6.get? L=h_:=λL hL=>by
  rw[Rk]at hL;rcases f_.mp hL with rfl|hL
  ·refine⟨S1.free,?_⟩
   cases z:Zb6.get? JU.locals with
   |none=>rfl
   |some o=>have:=S1.priv;rw[d7 (S.rep.apart _ _ (S.rep.base _ _ z)) (S.rep.get z)]at this;exact(sn this).elim
  ·exact hno L hL
 have up0:∀ {h6:Fu},(∀b o,rst Z s.heap b=a_ o->h6.get? b=a_ o)->Up (rst Z s.heap) (aP (env::outer)) h6:=λk b o z=>⟨λ_=>k b o z,o.slots,k b o z⟩;have Y':cF "work"=e_:=by decide+kernel
 have hcl:∃KR b cl q c,Z f=a_ (.clo KR b cl q c):=by
  refine dH hW λKR Op t x xp zz=>?_;clear hW;refine dH zz λrp ip cl q c zz=>?_;refine ac zz λp hf _=>?_;clear zz;exact⟨_,_,_,_,_,hf⟩
 refine Eg (wpAny_Try_except (Eg (wpAny_Expr (Call_ (Ey (gU D S1 N1 Y' (v:=.ref f) (by unfold bM;rw[show kindOf fU "work"=a_ .local from uY];rfl) λu hu=>?_) (fF Y').1) rfl) (by unfold interactive;rw[N1.kind];rfl) (lw rfl))));intros u;have:=cU hu;subst this;have Yu:FnAt f s1.heap:=by
  refine dH hcl λKR b cl q c hc=>?_;clear hcl;refine ac (S1.rep.om _ _ hc) λfd ho _=>?_;exact⟨_,_,fd,_,ho⟩
 refine callWith_F0 Yu ?_;refine EQ (A4 D HS HB S1 Nd Ka Lz W3 hf1 YE hW) (λu s2 h2=>?_) (λev s2 h2=>?_)
 ·intros u s2
  refine gy h2 ?_;clear h2;rintro rfl Z2 hq S2;refine Fh (Fh (Eg (GP (Gv ?_))));have S3:St prog w Zb6 Zb9 JU ⟨[("run",er r),("work",.ref f)],[]⟩ Z2 (Bz (rst Z s.heap) s2.heap) {s2 with toks:=s2.toks+1}:=(S2.tok (s2.toks+1)).toBz;have U:=up0 (h6:=s2.heap) λb o z=>S2.rep.keep _ _ z;refine bP (qN S S3 U) λb1 b2 b3=>?_;exact⟨Z2,hq,b1,kz MO λL hL o ho=>(b3 L o (hno L hL).1 ho).elim λsl q=>⟨_,q,rfl⟩,b2⟩
 ·intros ev s2
  refine dH h2 λe C d' fl Z3 zz=>?_;intros e C d' fl Z3;clear h2;refine eY zz ?_;clear zz;rintro s3 i rfl hq hi Fl;intros s3 i;refine cS Fl.st λKP LX S3=>?_;intros KP LX;have hF:∀b∈aP (JU::env::outer),b∈s1.heap.objs.size::aP (JU::env::outer):=λb hb=>.tail _ hb;refine AY Lz Fl.ff hf1 Fl.ex Fl.ch hF Fl.le λh5 c5 x5 f5 n5=>?_;intros h5;refine uT (s:={s2 with heap:=h5}) (L':=0) x5 c5 f5 λh6 c6 x6 f6 n6=>?_;intros h6;have hl:JU.locals∈s1.heap.objs.size::aP (JU::env::outer):=by rw[Rk];exact .tail _ (.head _)
  have S4:=S1.flight S3 Fl.at_ c6 x6 Fl.no hl;have sh:=Fl.sh;have e4:({{s2 with heap:=h5}with heap:=h6}:i')={s3 with heap:=h6}:=by exact sh▸rfl
  rw[e4];have H3:∀b o,rst Z s.heap b=a_ o->s3.heap.get? b=a_ o:=λb o z=>S3.rep.keep _ _ (d7 (S1.rep.apart _ _ z) (S1.rep.keep _ _ z));have hH:∀b,own (Z3.set e (.exc C d' g' fl)) b\/Bz (rst Z s.heap) h6 b≠h_\/b=JU.locals->s3.heap.get? b≠h_:=by
   rintro b (q|q|rfl)
   ·refine xE (S3.rep.there ((iZ (o':=.exc C d' g' fl) Fl.at_ rfl b).mp q)) λx hx=>?_
    rw[hx];simp
   ·cases z:Bz (rst Z s.heap) h6 b with
    |none=>exact absurd z q
    |some o=>
     refine xA (oz z) ?_;rintro⟨o',z'⟩-;rw[H3 _ _ z'];simp
   ·refine ac S1.ns ?_;rintro m ⟨o,es,ep,hL, -⟩-
    rw[S3.rep.keep _ _ (d7 S1.free hL)];simp
  rw[<-Xl];refine EQ (uW (H:=s3.heap) (e:=e) (Err:=λ_ _=>False) D HQ N1 (Nd.le (EV d)) hH ⟨g',fl,ad _ _ _⟩ hi lZ hq S4 x6) (λfl2 s7 h7=>?_) λ_ _ q=>q.elim
  ·refine bW h7 ?_;clear h7;rintro v Z7 rfl hq7 S7
   have U:Up (rst Z s.heap) (aP (env::outer)) h6:=λb o z=>by
    have ne:b≠e:=λq=>S3.rep.apart _ _ (d7 (S1.rep.apart _ _ z) (S1.rep.keep _ _ z)) (q▸dw Fl.at_);refine gx (c6 b o (H3 _ _ z) ne) λc1 sl c2=>?_;refine⟨λnb=>c1 λq=>?_,sl,c2⟩;rcases f_.mp q with q|q
    ·have:=Dn (S1.rep.keep _ _ z);rw[q]at this;exact DH _ this
    ·rw[Rk]at q
     rcases f_.mp q with q|q
     ·have:=S1.priv;rw[<-q,z]at this;exact(sn this).elim
     ·exact nb q
   refine bP (qN S S7 U) λb1 b2 b3=>?_;exact⟨Z7,hq7,b1,kz MO λL hL o ho=>(b3 L o (hno L hL).1 ho).elim λsl q=>⟨_,q,rfl⟩,b2⟩
end
noncomputable abbrev fJ:DR:=cR KC 824
noncomputable def oD:b_ Gf:=(cV KC 824).take 7
noncomputable def qO:b_ Expr:=match (cV KC 824).drop 7 with
 |.Return (a_ (.BoolOp _ (_::r) _)) _::_=>r
 |_=>[]
theorem uZ (P:DF):hO (KF P) 824=e_:=by kernel_rfl
theorem Be (P:DF)(S:Js)(a:c_):(cB KC 824).map (λfd=>peek (KF P) S (Gh fd ⟨[a],[]⟩))=a_ (a_ ([("mine",a)]:b_ (Str×Value))):=by kernel_rfl
theorem Bf:kindOf fJ "mine"=a_ .local:=by kernel_rfl
theorem Bg:kindOf fJ "guarded_program"=a_ .globalImplicit:=by kernel_rfl
theorem Bh:∃p1 p2 p3 p4 p5 p6 p7 p8 e2 e3,cV KC 824=oD++[.Return (a_ (.BoolOp .And [.Compare (.Call (.Name "guarded_program" p1) [.Name "run" p2,.Name "work" p3] [] p4) [.Eq] [.Name "code" p5] p6,e2,e3] p7)) p8]/\qO=[e2,e3]:=⟨_,_,_,_,_,_,_,_,_,_,rfl,rfl⟩
structure Co (P:DF)(f:d_)(fd:H_):Prop where
 hl:∃oc od Lq,(KF P).lookup f=a_ ⟨oc,od,.func fd,Lq⟩
 hb:fd.body=.stmts (cV KC f)
 clo:fd.closure=[]
 gl:fd.globals=mainGlobals
 bi:fd.builtins=E7
 cd:codeIn (KF P) fd.code fd.qualname=e_
 kd:fd.scope.kind=.function
 co:fd.scope.isCoroutine=g'
 ge:fd.scope.isGenerator=g'
 nd:(fd.scope.names.map (λp=>p.1)).Nodup
 h8:kindOf fd.scope "told"=a_ .local->fd.code=.ref 823/\fd.qualname="_law_program_right"
 sc:cR KC f=fd.scope
 kp:Il (KF P) (.ref f)=e_
theorem oE {P:DF}(hs:hO (KF P) f=e_)(hf0:cB KC f=a_ fd):Co P f fd:=by
 intros f fd P;have hf1:=ly (D:=KD P) hf0;unfold hO at hs;rw[show cB (KF P) f=a_ fd from hf1]at hs;simp only [u_,Fi,C9,Ei,G5,l_]at hs;refine xA hs ?_;clear hs;rintro⟨⟨⟨⟨⟨⟨⟨⟨⟨⟨⟨h1,h2⟩,h3⟩,h4⟩,h5⟩,h6⟩,h7⟩,h8⟩,UL⟩,h9⟩,VL⟩,U4⟩ UX;refine⟨?_,?_,h2,h3,h4,h5,h6,h7,h8,h9,λq=>by simpa[q]using UL,by unfold cR;exact hf0▸rfl,UX⟩
 ·have:=hf1
  exact j1 this
 ·unfold cV lx
  rw[hf0];dsimp only;split at h1
  ·rename _=FT _=>q;exact q
  ·exact(ft h1).elim
noncomputable def u6 (T:a6)(Sq:ST)(k n:Nat):Wf:=λvs Z Q=>∃v,vs=[v]/\lq fJ [("mine",v)] Z λfm Z=>au (aT T k n) oD fJ fm Z λfl fm Z=>fl=.next/\
 ∃r wk,bM fJ "run" fm Z=a_ r/\bM fJ "work" fm Z=a_ wk/\oB (aw T k).2 (aT T k n) Sq [r,wk] Z λu Z=>
  ∃cd b,bM fJ "code" fm Z=a_ cd/\dI Z .Eq u cd=a_ b/\if b=e_ then kZ (aw T k).1 qO fJ fm Z Q else Q (.bool g') Z
section
variable{B:aS}{A:DJ}{T:a6}{d:Nat}
theorem Bi {mn:c_}{outer:b_ Env}{Q:bC}(D:aQ w Zb6 mg mb)(HT:eQ g' prog w Zb6 Zb9 d T)(HQ:fR e_ prog w Zb6 Zb9 (d+1) Sq)(S:St prog w Zb6 Zb9 env fm Z B s)(hA:a0 g' (d+4) A)
 (hfr:A.frames=a_ (env::outer)) (MO:s.heap.FunFrames dU (env::outer)) (hno:∀L∈aP (env::outer),¬own Z L/\Zb6.get? L=h_) (hW:u6 T Sq k n [er mn] Z Q):
 wpAny (A_ prog w) A (call (.ref 824) [mn]) (λu s'=>∃Z',Q (er u) Z'/\St prog w Zb6 Zb9 env fm Z' (Bz B s'.heap) s'/\Up B (aP (env::outer)) s'.heap/\s'.heap.FunFrames dU (env::outer)) Err s:=by
 intros n k Z Zb6 Zb9 s Sq fm mg mb env prog w Err B A T d mn outer Q;refine ac hW ?_;clear hW;rintro v hv hW;intros v;cases hv;have Kg:∃fd,cB KC 824=a_ fd:=Ds.mp (by kernel_rfl);refine xE Kg λfd hf0=>?_;intros fd;clear Kg;have F:=oE (uZ w.params) hf0;refine jI F.hl λoc od Lq hl=>?_;intros oc od Lq;have LB:fJ=fd.scope:=F.sc;refine dH Bh λp1 p2 p3 p4 p5 zz=>?_;intros p1 p2 p3 p4 p5;refine jM zz λp6 p7 p8 e2 e3 KM hpe=>?_;intros p6 p7 p8 e2 e3;clear zz;refine FB (pJ D S.rep S.same hA.room (bs:=[("mine",mn)]) hl F.hb F.clo F.gl F.bi (codeRec_of (S.rep.in D) F.cd) F.kd F.co F.ge F.nd F.h8 (λS=>?_) (by simp) (λx hx=>?_) (by exact LB▸hW) λJU Ll Z1 s1 N1 S1 hf1 h1=>?_)
 ·have:=Be w.params S mn
  rw[hf0,Go]at this;exact De this
 ·rcases f_.mp hx with rfl|hx
  ·exact LB.symm▸(.inl Bf)
  ·exact(aj hx).elim
 intros JU Ll Z1 s1;rw[<-LB]at N1 h1;have Nd:a0 g' (d+3) (A.deeper JU):=hA.deeper JU;have Rd:a0 g' (d+1) (A.deeper JU):=Nd.le (by walk_at "o");have HS:fR g' prog w Zb6 Zb9 (d+1) (aT T k n):=nt D HT k n;have HE:dB g' prog w Zb6 Zb9 (d+1) (aw T k).1:=(@i5 _ _ _ _ _ _ _ _ _ D HT k).1;have HB:fc g' prog w Zb6 Zb9 (d+1) (aw T k).2:=(@i5 _ _ _ _ _ _ _ _ _ D HT k).2;have Lz:(A.deeper JU).frames=a_ (JU::env::outer):=by
  show A.frames.map (JU:: ·)=_;rw[hfr];rfl
 have Rk:aP (JU::env::outer)=JU.locals::aP (env::outer):=by unfold aP;rw[D8,hf1]
 rw[KM];refine qM HS N1 Rd (λLZ Z3 s3 h3 S3=>?_) oD h1 S1;intros LZ Z3 s3;refine bW h3 λr wk hr U6 hg=>?_;intros r wk;clear h3;have WN:s3.heap.FunFrames dU (JU::env::outer):=by
  refine ac S3.ns ?_;rintro mm ⟨o,es,ep,ho,hd,_⟩ _;refine⟨by rw[N1.kind];decide,⟨JU.locals,o,hf1,oy _,ho,λvs z=>by rw[hd]at z;cases z⟩,kz MO λL hL o ho=>⟨o,S3.rep.keep _ _ (d7 (hno L hL).1 ho),rfl⟩⟩
 have Xh:∀L∈aP (JU::env::outer),¬own Z3 L/\Zb6.get? L=h_:=λL hL=>by
  rw[Rk]at hL;rcases f_.mp hL with rfl|hL
  ·refine⟨S3.free,?_⟩
   cases z:Zb6.get? JU.locals with
   |none=>rfl
   |some o=>have:=S1.priv;rw[d7 (S.rep.apart _ _ (S.rep.base _ _ z)) (S.rep.get z)]at this;exact(sn this).elim
  ·refine gy (MO.mem hL) λ_ o ho _=>?_
   exact⟨S3.rep.apart _ _ (d7 (hno L hL).1 ho),(hno L hL).2⟩
 have PA:cF "guarded_program"=e_:=by decide+kernel
 have NU:cF "run"=e_:=by decide+kernel
 have W1:cF "work"=e_:=by decide+kernel
 have XW:cF "code"=e_:=by decide+kernel
 have hu:(A.deeper JU).units+64<IF:=by have:=Rd.un;show(A.deeper JU).units+64<9900;walk_at "z"
 refine Eg (GP (Jd (wpAny_Compare1 (Call_ (Ey (jq D S3.rep N1 Bg (v:=.ref 669) (by kernel_rfl) λu LV=>?_) (fF PA).1) rfl) rfl)));intros u;have:=cU LV;subst this;have VX:Il (KF w.params) (.ref 669)=e_:=(oE (uX w.params) (Ds.mp (show(cB KC 669).isSome=e_ by kernel_rfl)).choose_spec).kp;refine IK (P:=λh=>∃k,(k=GM\/k=FR\/k=Fp)/\Hm (A_ prog w) h (IJ (.ref 669)) k) rfl (λh hp=>hp) ?_;refine evalArgs_plain (IX (Ey (gU D S3 N1 NU hr λu1 Sl=>?_) (fF NU).1) rfl);intros u1;refine IX (Ey (gU D S3 N1 W1 U6 λu2 hu2=>?_) (fF W1).1) rfl;intros u2;refine args_nil ⟨Jr VX _ (S3.rep.in D),?_⟩;refine EQ (Bc (vs:=[u1,u2]) D HS HB HQ S3 Nd Lz WN hf1 Xh (by rw[n_,n_,Sl,hu2];exact hg)) (λu s4 h4=>?_) λ_ _ q=>q;intros u s4;refine dZ h4 ?_;clear h4;rintro Z4 ⟨cd,b,LH,hb,hq⟩ S4 Si up4;intros Z4 cd b;refine Ey (gU D S4 N1 XW LH λu5 hu5=>?_) (fF XW).1;intros u5;have Kw:∀ {uu:c_} {Z5:ak} {s5:i'},Q (er uu) Z5->St prog w Zb6 Zb9 JU LZ Z5 (Bz (rst Z s.heap) s4.heap) s5->∃Z',Q (er uu) Z'/\St prog w Zb6 Zb9 env fm Z' (Bz B s5.heap) s5/\Up B (aP (env::outer)) s5.heap/\s5.heap.FunFrames dU (env::outer):=λ{uu Z5 s5} hq S5=>by
  have U:Up (rst Z s.heap) (aP (env::outer)) s4.heap:=λb o z=>by
   refine xA (up4 b o z) λc1 c2=>?_;refine⟨λnb=>c1 λq=>?_,c2⟩;rw[Rk]at q;rcases f_.mp q with q|q
   ·have:=S1.priv;rw[<-q,z]at this;exact(sn this).elim
   ·exact nb q
  refine bP (qN S S5 U) λb1 b2 b3=>?_;exact⟨Z5,hq,b1,b2,kz MO λL hL o ho=>(b3 L o (hno L hL).1 ho).elim λsl q=>⟨_,q,rfl⟩⟩
 refine pD S4 hu (by exact hu5▸hb) λs5 S5=>?_;intros s5;refine FO ?_;cases b with
 |false=>
  simp only [Dt,Fj]at hq⊢;exact Kw (uu:=.bool g') hq S5
 |true=>
  simp only [Gn]at hq⊢;rw[hpe]at hq;refine pR HE N1 Rd (λuu Z6 s6 hq6 S6=>?_) [e2,e3] hq S5;exact Kw hq6 S6
end
noncomputable def kB:b_ (Addr×Nat):=[(690,7),(554,2),(574,2),(593,3),(612,2),(631,2),(817,3),(28,1),(236,1),(243,1),(662,1),(250,1),(643,2),(264,1)]
theorem Bj (P:DF):(kB.all λp=>hO (KF P) p.1)=e_:=by kernel_rfl
theorem Bk:(kB.all λp=>(cB KC p.1).isSome&&decide (p.2<=7))=e_:=by kernel_rfl
theorem Bl (h:vs.length<=7):[vs.getD 0 .none,vs.getD 1 .none,vs.getD 2 .none,vs.getD 3 .none,vs.getD 4 .none,vs.getD 5 .none,vs.getD 6 .none].take vs.length=vs:=by
 rcases vs with _|⟨a,_|⟨b,_|⟨c,_|⟨d,_|⟨e,_|⟨f,_|⟨g,_|⟨i,vs⟩⟩⟩⟩⟩⟩⟩⟩ <;>first |rfl|(simp at h)
theorem Bm (P:DF)(S:Js)(a b c d e f g:c_):kB.map (λp=>(cB KC p.1).map λfd=>peek (KF P) S (Gh fd ⟨[a,b,c,d,e,f,g].take p.2,[]⟩))=kB.map (λp=>a_ (a_ (gH KC p.1 ([a,b,c,d,e,f,g].take p.2)))):=by kernel_rfl
noncomputable def iI (l:b_ (Addr×Nat))(T:a6):a6:=λf=>match l.lookup f with
 |some n=>a_ (aI KC T n f)
 |none=>T f
noncomputable def ma:a6:=iI [(690,7),(554,2)] (aJ KC 3)
noncomputable def u7:a6:=iI [(574,2),(593,3),(612,2),(631,2)] ma
noncomputable def TX:a6:=iI [(817,3)] u7
noncomputable def q0:a6:=λf=>if f=28 then a_ λU U U=>False else h_
noncomputable def oF:a6:=iI [(28,1),(236,1),(243,1),(662,1)] q0
noncomputable def oG:a6:=iI [(250,1),(643,2)] oF
noncomputable def TQ:a6:=iI [(264,1)] oG
section
variable{T:a6}{d:Nat}
theorem u8 (D:aQ w Zb6 mg mb)(HT:eQ qt prog w Zb6 Zb9 d T)(hm:(f,n)∈kB):Il (KF w.params) (.ref f)=e_/\gm qt prog w Zb6 Zb9 (d+2) f (aI KC T n f):=by
 have hs:=l_.mp (Bj w.params) (f,n) hm;have hc:=l_.mp Bk (f,n) hm;rw[u_,Ei]at hc;refine xE (Ds.mp hc.1) λfd Kg=>?_;refine⟨(oE hs Kg).kp,tz D HT hs hc.1 λvs hn S fd Kg=>?_⟩;have h:=HZ.mp (Bm w.params S (vs.getD 0 .none) (vs.getD 1 .none) (vs.getD 2 .none) (vs.getD 3 .none) (vs.getD 4 .none) (vs.getD 5 .none) (vs.getD 6 .none)) (f,n) hm;dsimp only at h;rw[<-hn]at h;rw[Bl (by rw[hn];exact hc.2),Kg,Go]at h;exact De h
theorem kC (D:aQ w Zb6 mg mb)(HT:eQ qt prog w Zb6 Zb9 d T){l:b_ (Addr×Nat)}(hl:(l.all λp=>kB.contains p)=e_):eQ qt prog w Zb6 Zb9 (d+2) (iI l T):=by
 refine⟨λz=>HT.1 ?_,λf W h=>?_⟩
 ·unfold iI at z
  split at z
  ·exact(sn z).elim
  ·exact z
 ·unfold iI at h
  split at h
  ·rename EA f l=_=>q
   cases h;have hm:=l_.mp hl _ (dP q);rw[Fd]at hm;exact u8 D HT hm
  ·refine xA (HT.2 f W h) λa b=>?_
   exact⟨a,b.le (by walk_at "a")⟩
theorem qP (D:aQ w Zb6 mg mb):eQ g' prog w Zb6 Zb9 12 TX:=kC D (kC D (kC D (nB D 3) (by decide+kernel)) (by decide+kernel)) (by decide+kernel)
theorem Bn (D:aQ w Zb6 mg mb):eQ e_ prog w Zb6 Zb9 6 TQ:=by
 have h0:eQ e_ prog w Zb6 Zb9 0 q0:=by
  refine⟨λz=>(absurd z (by simp[q0])),λf W h=>?_⟩;by_cases q:f=28
  ·subst q;cases h;exact⟨(u8 (qt:=g') (prog:=prog) (Zb9:=Zb9) D (nB D 0) (n:=1) (by decide+kernel)).1,λS hA hW=>hW.elim⟩
  ·exact(ns ((p_ q).symm.trans h)).elim
 exact kC D (kC D (kC D h0 (by decide+kernel)) (by decide+kernel)) (by decide+kernel)
end
section
variable{T:a6}
theorem dF {x:Str}(hz:x.length+y.length<=1000)(h:Q (.str (x++y) 0) Z):gC Z .Add (.str x 0) (.str y 0) Q:=⟨rfl,hz,h⟩
theorem Bo {x:Str}{MV:c_}{e:Expr}(hn:bM sc x fm Z=a_ MV)(h:(aw T k).1 e sc fm Z λv Z=>jo op MV v λu=>dv sc x u fm Z λfm Z=>au (aT T k (n+1)) r sc fm Z Qs)(h1:cF x=e_:=by rfl):
 au (aT T k (n+1)) (.AugAssign (.Name x p) op e pos::r) sc fm Z Qs:=.inl ⟨_,_,rfl,h1,MV,hn,h⟩
theorem u9 {x:Str}(h0:0<=i)(h1:i<2^62)(h2:(GY x i).isSome=e_):d5 Z (.str x 0) (.int i 0) (.str (ID x i) 0):=by
 refine .inl ?_;unfold iQ;dsimp only;exact(z_ ⟨h0,h1,h2⟩)
theorem mc {cn:Str}{D:EB}{b:Dm}(h1:bM sc "isinstance" fm Z=a_ (.builtin "isinstance"))(h3:bM sc vn fm Z=a_ v)(h2:bM sc cn fm Z=a_ (.type D))(hb:jl Z v D=a_ b)(h:Qb b Z)(hm:cF vn=e_:=by rfl)(hn:cF cn=e_:=by rfl):
 (aw T (n+3)).2 (.Call (.Name "isinstance" p1) [.Name vn p2,.Name cn p3] [] p) sc fm Z Qb:=
 ⟨rfl,aA h1 (af (aa h3 (af (aa h2 (am (bH ⟨kU,rfl,.inr ⟨_,rfl,_,hb,h⟩⟩)) hn)) hm))⟩
end
noncomputable def iJ (i:Int):Str:=ID "0123456789" i
theorem Bp:∀i:HO 10,(iJ (i.val:Int)).length=1/\(GY "0123456789" (i.val:Int)).isSome=e_:=by decide+kernel
theorem va (h0:0<=i)(h1:i<10):(iJ i).length=1/\(GY "0123456789" i).isSome=e_:=by
 have:=Bp ⟨i.toNat,by walk_at "d"⟩;rwa[show((⟨i.toNat,by walk_at "d"⟩:HO 10).val:Int)=i by show(i.toNat:Int)=i;walk_at "F"]at this
noncomputable def numS (i:Int):Str:=Ev (toString i)
noncomputable def md (k:Int)(t:Str):Str:=if 9<k then(if 9<k/10 then iJ (k/10/10 % 10)++(iJ (k/10 % 10)++t)else iJ (k/10 % 10)++t)else t
theorem Bq:∀i:HO 300,md (i.val:Int) (iJ ((i.val:Int) % 10))=numS (i.val:Int):=by decide+kernel
theorem Br (h0:0<=i)(h1:i<300):md i (iJ (i % 10))=numS i:=by
 have:=Bq ⟨i.toNat,by walk_at "d"⟩;rwa[show((⟨i.toNat,by walk_at "d"⟩:HO 300).val:Int)=i by show(i.toNat:Int)=i;walk_at "F"]at this
theorem vb:d5 Z (.str "0123456789" 0) (.int (i % 10) 0) (.str (iJ (i % 10)) 0):=u9 (Gq _ (by decide)) (by walk_at "o") (va (Gq _ (by decide)) (HK _ (by decide))).2
theorem qQ (i:Int):(iJ (i % 10)).length=1:=(va (Gq _ (by decide)) (HK _ (by decide))).1
theorem vc (h0:0<=i)(h1:i<300)(h:Q (.str (numS i) 0) Z):aI KC q0 1 28 [.int i 0] Z Q:=by
 intros i Z Q;refine⟨rfl,?_⟩;show au _ _ _ ⟨[("n",.int i 0)],[]⟩ _ _;refine aO (aU (aa rfl (aK ⟨decide (i<0),rfl,aM (DQ (by walk_at "cu")) (ay ?_)⟩)));refine a8 (lG (aa rfl (bB (aa rfl (aK (i8 (by decide) ⟨_,vb,aV rfl ?_⟩))))));refine j7 (lH (λm fm Z'=>Z'=Z/\∃k t,fm=⟨[("n",.int k 0),("text",.str t 0)],[]⟩/\m=k.toNat/\0<=k/\k<300/\t.length+k.toNat<=400/\md k t=numS i) i.toNat ⟨rfl,i,_,rfl,rfl,h0,h1,by rw[qQ];walk_at "o",Br h0 h1⟩ ?_);rintro m fm Z' ⟨rfl,k,t,rfl,rfl,k0,k1,hl,hk⟩ Qz Kz;revert h k0 k1 hl hk;intros Z' k t Qz;refine aU (aa rfl (aK ⟨decide (9<k),rfl,cG (λq=>?_) λq=>?_⟩))
 ·have q:9<k:=of_decide_eq_true q
  refine Bo rfl (aK ⟨by decide,by decide,aV rfl ?_⟩);refine a8 (bB (lG (aa rfl (bB (aa rfl (aK (i8 (by decide) ⟨_,vb,aa rfl (dF (by rw[qQ];walk_at "cv") (aV rfl (ay (Kz .next _ _ ⟨(k/10).toNat,by walk_at "o",rfl,k/10,_,rfl,rfl,by walk_at "o",by walk_at "o",?_,?_⟩))))⟩)))))))
  ·rw[x_,qQ];walk_at "o"
  ·rw[<-hk]
   unfold md;rw[z_ q];by_cases q2:9<k/10
   ·rw[z_ q2,z_ q2,p_ (show¬9<k/10/10 by walk_at "o")]
   ·exact(p_ q2).trans (p_ q2).symm
 ·have q:¬9<k:=DM q
  refine a9 (aa rfl ?_);have:t=numS i:=by rw[<-hk];unfold md;exact(p_ q).symm
  rw[this];exact h
section
variable{T:a6}
theorem Bu {i:Int}{e:Expr}(h:(aw T n).1 e sc fm Z λv Z=>∃i,v=.int i 0/\Q (.int (-i) 0) Z):(aw T (n+1)).1 (.UnaryOp .USub e p) sc fm Z Q:=⟨rfl,h⟩
theorem Bv {e:Expr}(h:(aw T n).1 e sc fm Z λv Z=>(aw T n).1 u sc fm Z λw Z=>mI Z v w Q):(aw T (n+1)).1 (.Subscript e (.Slice (a_ u) h_ h_ p1) p) sc fm Z Q:=.inr (.inr ⟨_,_,rfl,h⟩)
theorem jd {x:d_}{d:m_ d_}{a:Str}(h1:Z x=a_ (.exc C d fr fl))(h3:fl.lookup a=a_ v)(h:Q v Z)(h2:gO C a=e_:=by first |rfl|assumption)(h4:ej v=e_:=by first |rfl|assumption):gF Z (.ref x) a Q:=by
 unfold gF;dsimp only;rw[h1];refine⟨v,?_,h⟩;unfold fM;dsimp only;rw[h1];dsimp only;rw[z_ h2,h3];exact z_ h4
theorem Bw {o:Expr}(hs:iU sc o=a_ (.type "Exception"))(h:eP (aw T n).1 args sc fm Z λvs Z=>∃x v C d fr fl,vs=[.ref x,v]/\Z x=a_ (.exc C d fr fl)/\(cP.lookup C).isSome=e_/\Q .none Z)
 (hp:(Kc.endLine==pos.line)=e_:=by rfl) (hl:args.length<30:=by decide) (ha:args.all dL=e_:=by rfl):
 (aw T (n+1)).1 (.Call (.Attribute o "__init__" Kc) args [] pos) sc fm Z Q:=⟨rfl,.inr ⟨_,_,_,rfl,hp,hl,.inl ⟨_,hs,.inr ⟨rfl,rfl,ha,by
 have e:(λ(vs:b_ c_) (Z:ak)=>c9 T (.builtin "Exception.__init__") vs Z Q)=λvs Z=>∃x v C d fr fl,vs=[.ref x,v]/\Z x=a_ (.exc C d fr fl)/\(cP.lookup C).isSome=e_/\Q .none Z:=by
  funext vs Z
  refine propext ⟨λh=>?_,λh=>⟨.inr rfl,oY,rfl,h⟩⟩;refine gy h ?_;clear h;rintro -W hW h;cases hW;exact h
 rw[e];exact h⟩⟩⟩⟩
theorem Bx {x:d_}{a:Str}{kk:ak->Prop}(h1:Z x=a_ (.exc C h_ fr []))(h2:gO C a=e_)(h:∀d,isNew Z d->kk (Z.set x (.exc C (a_ d) fr [(a,v)]))):ir Z (.ref x) a v kk:=
 .inr ⟨x,C,h_,fr,[],rfl,h1,h2,by decide,λd hd=>h d hd⟩
theorem me {x:d_}{a:Str}{kk:ak->Prop}(h1:Z x=a_ (.exc C (a_ d) fr fl))(h2:gO C a=e_)(h3:fl.length<40)(h:kk (Z.set x (.exc C (a_ d) fr (aL a v fl)))):ir Z (.ref x) a v kk:=
 .inr ⟨x,C,a_ d,fr,fl,rfl,h1,h2,h3,h⟩
theorem iK {i:d_}{W:Wf}(h0:T C=h_)(h2:jT C=h_)(h3:cP.lookup C=a_ i)(h1:T i=a_ W)(hl:vs.length<=10)(h:∀x,isNew Z x->W (.ref x::vs) (Z.set x (.exc C h_ e_ [])) λv Z'=>v=.none/\Q (.ref x) Z'):c9 T (.ref C) vs Z Q:=by
 intros C Z vs Q T i W;unfold c9;dsimp only;rw[h0];dsimp only;rw[h2];dsimp only;rw[h3];exact⟨W,h1,hl,h⟩
end
theorem By (h:Q (.str "1" 0) Z):aI KC q0 1 243 [.int 1 0] Z Q:=by
 intros Z Q;refine⟨rfl,?_⟩;show au _ _ _ ⟨[("number",.int 1 0)],[]⟩ _ _;refine a8 (lG (aa rfl (bB (aa rfl (aK (i8 (by decide) ⟨_,u9 (by decide) (by decide) (by decide+kernel),aV rfl ?_⟩))))));refine j7 (lH (λm fm Z'=>Z'=Z/\fm=⟨[("number",.int 1 0),("text",.str "1" 0)],[]⟩) 0 ⟨rfl,rfl⟩ ?_);rintro m fm Z' ⟨rfl,rfl⟩ Qz Kz;exact aU (aa rfl (aK ⟨g',rfl,aM rfl (a9 (aa rfl h))⟩))
theorem BA (ht:Z t=a_ (.inst 85 d fl))(h:Q (.str "ARRAY" 0) Z):aI KC q0 1 236 [.ref t] Z Q:=by
 refine⟨rfl,?_⟩;show au _ _ _ ⟨[("thing",.ref t)],[]⟩ _ _;exact aO (bX rfl rfl rfl (cH ht rfl rfl) (aZ rfl (a9 (bJ h))))
noncomputable def qR (wk its:d_):b_ (Str×Value):=ax 1 0 (.str "Box" 0) wk g' g' (cX its)
theorem BB {r td:d_}(hr:Z r=a_ (.inst 162 d [("target",.ref t),("is_weak",.bool g')]))(ht:Z t=a_ (.inst 85 td (qR wk its)))(h:Q (.str "Box=ARRAY(0x1)" 0) Z):aI KC oF 1 250 [.ref r] Z Q:=by
 intros d wk t its Z Q r td;refine⟨rfl,?_⟩;show au _ _ _ ⟨[("ref",.ref r)],[]⟩ _ _;refine a8 (bB (bB (bB (aA rfl (af (av (aa rfl (az hr rfl (am (aF rfl (BA ht (bJ (dF (by decide+kernel) (aA rfl (af (av (av (aa rfl (az hr rfl (az ht rfl (am (aF rfl (By (dF (by decide+kernel) (bJ (dF (by decide+kernel) (aV rfl ?_)))))))))))))))))))))))))));refine aO (aU (av (av (aa rfl (az hr rfl (az ht rfl (bI ⟨e_,rfl,aZ rfl (a9 (bB (bB (av (av (aa rfl (az hr rfl (az ht rfl (bJ (dF (by decide+kernel) (aa rfl (dF (by decide+kernel) ?_))))))))))))⟩)))))));exact h
noncomputable def fK (line:Int):Str:=" at line "++numS line++(".\n":Str)
noncomputable def mf (x:Str):Dm:=PySem.Txt.slice x (a_ (-1)) h_==("\n":Str)
noncomputable def jD (x:Str)(line:Int):Str:=if mf x=e_ then x else x++fK line
theorem mh (h0:0<=i)(h1:i<300):(numS i).length<=3/\Ea (numS i)=e_:=by
 have:∀i:HO 300,(numS (i.val:Int)).length<=3/\Ea (numS (i.val:Int))=e_:=by decide+kernel
 have:=this ⟨i.toNat,by walk_at "d"⟩;rwa[show((⟨i.toNat,by walk_at "d"⟩:HO 300).val:Int)=i by show(i.toNat:Int)=i;walk_at "F"]at this
theorem qS {x:Str}(hx:x.length<=100)(h0:0<=line)(h1:line<300)(h:Q (.str (jD x line) 0) Z):aI KC oF 2 643 [.str x 0,.int line 0] Z Q:=by
 intros line Z Q x;refine⟨rfl,?_⟩;show au _ _ _ ⟨[("value",.str x 0),("line",.int line 0)],[]⟩ _ _;refine aO (fG (mc rfl rfl rfl rfl (aZ rfl (aU (Bv (aa rfl (Bu (i:=1) (aK ⟨1,rfl,.inr ⟨x, -1,rfl,rfl,by walk_at "o",bJ ⟨!mf x,rfl,?_⟩⟩⟩))))))));have l3:=mh h0 h1;unfold jD at h;cases q:mf x with
 |true=>
  rw[q,z_ rfl]at h;exact aM rfl (aM rfl (ay (a9 (aa rfl h))))
 |false=>
  rw[q,p_ (by decide)]at h;refine aZ rfl ?_;dsimp only [fQ];refine aZ rfl (a9 (bB (bB (bB (aa rfl (bJ (dF (by show _+9<=_;walk_at "a") (aA rfl (af (aa rfl (am (aF rfl (vc h0 h1 (dF ?_ (bJ (dF ?_ ?_))))))))))))))))
  ·rw[x_];show _+9+_<=_;walk_at "cw"
  ·rw[x_,x_];show _+9+_+2<=_;walk_at "cx"
  ·show Q (.str (x++(" at line ":Str)++numS line++(".\n":Str)) 0) Z
   have:x++(" at line ":Str)++numS line++(".\n":Str)=x++fK line:=by unfold fK;rw[GT,GT,GT]
   rw[this];exact h
theorem vd (hv:jl Z v "str"=a_ g')(he:er v=v)(h:Q v Z):aI KC oF 2 643 [v,.int line 0] Z Q:=by
 refine⟨rfl,?_⟩;show au _ _ _ ⟨[("value",er v),("line",.int line 0)],[]⟩ _ _;rw[he];exact aO (fG (mc rfl rfl rfl hv (aM rfl (aM rfl (ay (a9 (aa rfl h)))))))
theorem BC {e:d_}{d:m_ d_}{kd lb:Str}(he:Z e=a_ (.exc 596 d fr fl))(h1:fl.lookup ("kind":Str)=a_ (.str kd 0))(h2:fl.lookup ("label":Str)=a_ (.str lb 0))(l1:kd.length<=10)(l2:lb.length<=10)
 (h:Q (.str (if lb=""then "Can't \""++kd++"\" outside a loop block"else "Label not found for \""++kd++" "++lb++"\"") 0) Z):aI KC q0 1 662 [.ref e] Z Q:=by
 intros fr Z fl Q e d kd lb;refine⟨rfl,?_⟩;show au _ _ _ ⟨[("jump",.ref e)],[]⟩ _ _;refine aO (aU (av (aa rfl (jd he h2 (bJ ⟨!(lb==""),rfl,cG (λq=>?_) λq=>?_⟩)))))
 ·have q:¬lb="":=by simpa using q
  rw[p_ q]at h;refine a9 (bB (bB (bB (bB (bJ (av (aa rfl (jd he h1 (dF ?_ (bJ (dF ?_ (av (aa rfl (jd he h2 (dF ?_ (bJ (dF ?_ h)))))))))))))))))
  ·show 21+_<=_;walk_at "a"
  ·rw[x_];show 21+_+1<=_;walk_at "G"
  ·rw[x_,x_];show 21+_+1+_<=_;walk_at "cy"
  ·rw[x_,x_,x_];show 21+_+1+_+1<=_;walk_at "bi"
 ·have q:lb="":=by simpa using q
  rw[z_ q]at h;refine ay (a9 (bB (bB (bJ (av (aa rfl (jd he h1 (dF ?_ (bJ (dF ?_ h))))))))))
  ·show 7+_<=_;walk_at "a"
  ·rw[x_];show 7+_+22<=_;walk_at "G"
inductive jG (Z:ak)(line:Int):c_->Str->Prop
 |txt (x s:Str) (h:x.length<=100) (hs:jD x line=s):jG Z line (.str x 0) s
 |num (i:Int) (h0:0<=i) (h1:i<300):jG Z line (.int i 0) (numS i)
 |box (r d t td wk its:d_) (hr:Z r=a_ (.inst 162 d [("target",.ref t),("is_weak",.bool g')])) (ht:Z t=a_ (.inst 85 td (qR wk its))):jG Z line (.ref r) "Box=ARRAY(0x1)"
theorem BD {x:Str}(h:Q (.str x 0) Z):aI KC oG 1 264 [.str x 0] Z Q:=by
 intros Z Q x;refine⟨rfl,?_⟩;show au _ _ _ ⟨[("value",.str x 0)],[]⟩ _ _;refine aO (aU (aa rfl (bI ⟨g',rfl,aM rfl (ay ?_)⟩)));refine aO (mc rfl rfl rfl rfl (aM rfl (ay ?_)));refine aO (bX rfl rfl rfl rfl (aM rfl (ay ?_)));exact a9 (aa rfl h)
theorem BE (h0:0<=i)(h1:i<300)(h:Q (.str (numS i) 0) Z):aI KC oG 1 264 [.int i 0] Z Q:=by
 intros i Z Q;refine⟨rfl,?_⟩;show au _ _ _ ⟨[("value",.int i 0)],[]⟩ _ _;refine aO (aU (aa rfl (bI ⟨g',rfl,aM rfl (ay ?_)⟩)));refine aO (mc rfl rfl rfl rfl (aZ rfl ?_));exact a9 (aA rfl (af (aa rfl (am (aF rfl (vc h0 h1 h))))))
theorem ve {x:d_}{D:EB}(h:Z x=a_ (.inst C d fl))(hD:(D=="int"||D=="str")=e_)(hC:(cN.lookup C).isSome=e_):jl Z (.ref x) D=a_ g':=by
 unfold jl;rw[z_ hD];dsimp only;rw[h];exact z_ hC
theorem BF {r td:d_}(hr:Z r=a_ (.inst 162 d [("target",.ref t),("is_weak",.bool g')]))(ht:Z t=a_ (.inst 85 td (qR wk its)))(h:Q (.str "Box=ARRAY(0x1)" 0) Z):aI KC oG 1 264 [.ref r] Z Q:=by
 intros d wk t its Z Q r td;refine⟨rfl,?_⟩;show au _ _ _ ⟨[("value",.ref r)],[]⟩ _ _;refine aO (aU (aa rfl (bI ⟨g',rfl,aM rfl (ay ?_)⟩)));refine aO (mc rfl rfl rfl (ve hr rfl rfl) (aM rfl (ay ?_)));refine aO (bX rfl rfl rfl (cH hr rfl rfl) (aZ rfl ?_));exact a9 (aA rfl (af (aa rfl (am (aF rfl (BB hr ht h))))))
theorem oH {x:d_}(h:Z x=a_ (.exc C h_ e_ []))(hC:gO C "text"=e_)(hi:(cP.lookup C).isSome=e_)(hv:er v=v)(hq:∀d,isNew Z d->Q .none (Z.set x (.exc C (a_ d) e_ [("text",v)]))):aI KC (aJ KC 3) 2 554 [.ref x,v] Z Q:=by
 intros C Z v Q x;refine⟨rfl,?_⟩;show au _ _ _ ⟨[("self",.ref x),("text",er v)],[]⟩ _ _;rw[hv];refine bE (Bw rfl (af (aa rfl (af (aa rfl (am ⟨x,v,C,h_,e_,[],rfl,h,hi,rfl,?_⟩))))));exact cC (aa rfl (aa rfl (Bx h hC λd hd=>ay (hq d hd))))
theorem mi {x:d_}(h:Z x=a_ (.exc 577 h_ e_ []))(hv:er v=v)(hq:∀d,isNew Z d->Q .none (Z.set x (.exc 577 (a_ d) e_ [("text",.str "died" 0),("value",v)]))):aI KC ma 2 574 [.ref x,v] Z Q:=by
 refine⟨rfl,?_⟩;show au _ _ _ ⟨[("self",.ref x),("value",er v)],[]⟩ _ _;rw[hv];refine bE (jw rfl rfl (af (aa rfl (af (bJ (am (aF rfl (oH h rfl rfl rfl λd hd=>⟨rfl,?_⟩))))))));refine cC (aa rfl (aa rfl (me (ad _ _ _) rfl (by decide) ?_)));rw[gI];exact ay (hq d hd)
theorem BG {x:d_}(h:Z x=a_ (.exc 615 h_ e_ []))(hv:er v=v)(hq:∀d,isNew Z d->Q .none (Z.set x (.exc 615 (a_ d) e_ [("text",.str "no sub to return from" 0),("value",v)]))):aI KC ma 2 612 [.ref x,v] Z Q:=by
 refine⟨rfl,?_⟩;show au _ _ _ ⟨[("self",.ref x),("value",er v)],[]⟩ _ _;rw[hv];refine bE (jw rfl rfl (af (aa rfl (af (bJ (am (aF rfl (oH h rfl rfl rfl λd hd=>⟨rfl,?_⟩))))))));refine cC (aa rfl (aa rfl (me (ad _ _ _) rfl (by decide) ?_)));rw[gI];exact ay (hq d hd)
theorem BH {x:d_}(h:Z x=a_ (.exc 634 h_ e_ []))(hv:er v=v)(hq:∀d,isNew Z d->Q .none (Z.set x (.exc 634 (a_ d) e_ [("text",.str "exit" 0),("code",v)]))):aI KC ma 2 631 [.ref x,v] Z Q:=by
 refine⟨rfl,?_⟩;show au _ _ _ ⟨[("self",.ref x),("code",er v)],[]⟩ _ _;rw[hv];refine bE (jw rfl rfl (af (aa rfl (af (bJ (am (aF rfl (oH h rfl rfl rfl λd hd=>⟨rfl,?_⟩))))))));refine cC (aa rfl (aa rfl (me (ad _ _ _) rfl (by decide) ?_)));rw[gI];exact ay (hq d hd)
theorem vf {x:d_}{kd lb:Str}(h:Z x=a_ (.exc 596 h_ e_ []))(hq:∀d,isNew Z d->Q .none (Z.set x (.exc 596 (a_ d) e_ [("text",.str "no such loop" 0),("kind",.str kd 0),("label",.str lb 0)]))):aI KC ma 3 593 [.ref x,.str kd 0,.str lb 0] Z Q:=by
 refine⟨rfl,?_⟩;show au _ _ _ ⟨[("self",.ref x),("kind",.str kd 0),("label",.str lb 0)],[]⟩ _ _;refine bE (jw rfl rfl (af (aa rfl (af (bJ (am (aF rfl (oH h rfl rfl rfl λd hd=>⟨rfl,?_⟩))))))));refine cC (aa rfl (aa rfl (me (ad _ _ _) rfl (of_decide_eq_true rfl) ?_)));rw[gI];refine cC (aa rfl (aa rfl (me (ad _ _ _) rfl (of_decide_eq_true rfl) ?_)));rw[gI];exact ay (hq d hd)
noncomputable def je (KJ:d_)(line:Int):b_ (Str×Value):=[("pad",.ref KJ),("args",.none),("want",.int 0 0),("code",.none),("package",.str "main" 0),("line",.int line 0)]
theorem BI {x:d_}(h:Z x=a_ (.inst 693 d []))(hq:Q .none (Z.set x (.inst 693 d (je KJ line)))):aI KC (aJ KC 3) 7 690 [.ref x,.ref KJ,.none,.int 0 0,.none,.str "main" 0,.int line 0] Z Q:=by
 refine⟨rfl,?_⟩;show au _ _ _ ⟨("self",.ref x)::je KJ line,[]⟩ _ _;refine cC (aa rfl (aa rfl (cW h ?_)))
 iterate 5 refine cC (aa rfl (aa rfl (qa ?_)))
 exact ay hq
theorem ij {x:Str}(hx:Ea x=e_)(hy:Ea y=e_):Ea (x++y)=e_:=by
 unfold Ea at *;rw[show(x++y).cps=x.cps++y.cps from rfl,Array.all_append,hx,hy];rfl
noncomputable def qT (kd lb:Str):Str:=if lb=""then "Can't \""++kd++"\" outside a loop block"else "Label not found for \""++kd++" "++lb++"\""
inductive Lv (fr:Dm)(Z:ak)(line:Int):c_->Int->b_ Str->Prop
 |ends:Lv fr Z line .none 0 []
 |die (e d:d_) (t v:c_) (s:Str) (h:Z e=a_ (.exc 577 (a_ d) fr [("text",t),("value",v)])) (hv:jG Z line v s):Lv fr Z line (.ref e) 255 [s]
 |loop (e d:d_) (t:c_) (kd lb s:Str) (h:Z e=a_ (.exc 596 (a_ d) fr [("text",t),("kind",.str kd 0),("label",.str lb 0)])) (h1:kd.length<=10) (h2:lb.length<=10) (hs:jD (qT kd lb) line=s):Lv fr Z line (.ref e) 255 [s]
 |sub (e d:d_) (t v:c_) (s:Str) (h:Z e=a_ (.exc 615 (a_ d) fr [("text",t),("value",v)])) (hs:jD "Can't return outside a subroutine" line=s):Lv fr Z line (.ref e) 255 [s]
 |exit (e d:d_) (t:c_) (i:Int) (h:Z e=a_ (.exc 634 (a_ d) fr [("text",t),("code",.int i 0)])):Lv fr Z line (.ref e) i []
noncomputable def vh:O->Dm
 |.tab _=>e_
 |_=>g'
noncomputable def vi:O->Dm
 |.inst ..=>e_
 |.exc ..=>e_
 |_=>g'
theorem jG.mono {s:Str}(x:jG Z line v s)(k:∀a o,vi o=e_->Z a=a_ o->Z' a=a_ o):jG Z' line v s:=by
 cases x with
 |txt x s h hs=>exact .txt x s h hs
 |num i h0 h1=>exact .num i h0 h1
 |box r d t td wk its hr ht=>exact .box r d t td wk its (k _ _ rfl hr) (k _ _ rfl ht)
theorem Lv.mono {c:Int}{f:c_}(x:Lv fr Z line f c told)(k:∀a o,vi o=e_->Z a=a_ o->Z' a=a_ o):Lv fr Z' line f c told:=by
 intros line fr Z Z' told c f;cases x with
 |ends=>exact .ends
 |die e d t v s h hv=>exact .die e d t v s (k _ _ rfl h) (hv.mono k)
 |loop e d t kd lb s h h1 h2 hs=>exact .loop e d t kd lb s (k _ _ rfl h) h1 h2 hs
 |sub e d t v s h hs=>exact .sub e d t v s (k _ _ rfl h) hs
 |exit e d t i h=>exact .exit e d t _ (k _ _ rfl h)
section
variable{T:a6}
theorem vj (h0:0<=i)(h1:i<300)(h:Q (.str (numS i) 0) Z):c9 T (.type "str") [.int i 0] Z Q:=⟨i,rfl,.inl ⟨rfl,h0,Int.lt_trans h1 (by decide),h⟩⟩
theorem BJ (h1:0<j)(h2:j<1000000)(h:Q (.int (i/j) 0) Z):gC Z .FloorDiv (.int i 0) (.int j 0) Q:=⟨h1,h2,h⟩
end
theorem BK (h0:0<=line)(h1:line<300):(fK line).length<=20/\Ea (fK line)=e_:=by
 have:=mh h0 h1;unfold fK;refine⟨?_,ij (ij (by decide+kernel) this.2) (by decide+kernel)⟩;rw[x_,x_];show 9+_+2<=_;walk_at "u"
theorem mj {x:Str}(h:mf x=g'):jD x line=x++fK line:=p_ (by rw[h];decide)
theorem BN {x:Str}(h:mf x=e_):jD x line=x:=z_ h
theorem BO {cl lim:d_}{N:Nat}(hm:Z mn=a_ (.dic [(.str "cells" 0,.ref cl),(.str "deep" 0,.int JV 0)] N))(hcl:Z cl=a_ (.lst cells))(Ki:∀v∈cells,∃i:Int,v=.int i 0)(J6:cells.length<=60)
 (h0:0<=JV) (h1:JV<900) (hh:Z hp=a_ (.inst 225 dh (bN lim 0 z))) (l0:0<=line) (l1:line<90)
 (h:∀Z' t l f code told N',ai [mn,hp] Z Z'->Z' mn=a_ (.dic [(.str "cells" 0,.ref cl),(.str "deep" 0,.int (JV+1+1) 0)] N')->Z' t=a_ (.tup [f,.int code 0,.ref l])->Z' l=a_ (.lst (told.map λs=>.str s 0))->Lv e_ Z' line f code told->(∀s∈told,Ea s=e_)->isNew Z l->Q (.ref t) Z'):
 aI KC u7 3 817 [.ref mn,.ref hp,.int line 0] Z Q:=by
 intros z hp dh mn line JV Z cells Q cl lim N;have WQ:mn≠hp:=by exact ag hm hh
 have jO:cl≠mn:=by exact ag hcl hm
 refine⟨rfl,?_⟩;show au _ _ _ ⟨[("mine",.ref mn),("heap",.ref hp),("line",.int line 0)],[]⟩ _ _;refine j8 (h3:=rfl) (h4:=rfl) (h1:=rfl) (h2:=rfl) (fi (af (aA rfl (af (aa rfl (af (aK (am (aF rfl (nR hm hcl Ki J6 h0 (by walk_at "a") (by decide) (by decide) λZ1 N1 My F1 m1 w0 w1=>?_))))))))));intros Z1 N1 My;refine af (aA rfl (af (aa rfl (af (aK (am (aF rfl (nR m1 (F1.get hcl (by exact aE jO)) Ki J6 (by walk_at "a") (by walk_at "a") (by decide) (by decide) λZ2 N2 num F2 m2 n0 n1=>am ⟨of_decide_eq_true rfl,λt ht=>ub (ad _ _ _) rfl (fu (aV rfl (fu (aV rfl (j9 ?_)))))⟩))))))));revert F2 m2 n0 n1;intros Z2 N2 num t;have F3:ai [mn,hp] Z (Z2.set t (.tup [.int My 0,.int num 0])):=((F1.trans F2 (by exact bT (.inl (.head _)))).more (by simp)).new ht;have m3:=ao (o':=.tup [.int My 0,.int num 0]) ht m2;have h3:=ao (o':=.tup [.int My 0,.int num 0]) ht (F2.get (F1.get hh (by exact aE WQ.symm)) (by exact aE WQ.symm));generalize Z2.set t _=Z3 at F3 m3 h3⊢;refine a8 (bB (bB (bJ (aA rfl (af (aa rfl (am (vj l0 (by walk_at "a") (dF ?_ (bJ (dF ?_ (aV rfl ?_))))))))))))
 ·have:=mh l0 (by walk_at "a":line<300);show 9+_<=_;walk_at "h"
 ·have:=mh l0 (by walk_at "a":line<300);rw(config:={}) [x_];show 9+_+2<=_;walk_at "u"
 show au _ _ _ ⟨[("mine",.ref mn),("heap",.ref hp),("line",.int line 0),("number",.int num 0),("way",.int My 0),("tail",.str (fK line) 0)],[]⟩ _ _;have al:=BK l0 (by walk_at "a":line<300);have Kw:∀ {Z4:ak} {l t:d_} {f:c_} {code:Int} {told:b_ Str},ai [mn,hp] Z Z4->Z4 mn=a_ (.dic [(.str "cells" 0,.ref cl),(.str "deep" 0,.int (JV+1+1) 0)] N2)->isNew Z4 l->isNew (Z4.set l (.lst (told.map λs=>.str s 0))) t->Lv e_ Z4 line f code told->(∀s∈told,Ea s=e_)->(∃o,Z4 hp=a_ o)->
  Q (.ref t) ((Z4.set l (.lst (told.map λs=>.str s 0))).set t (.tup [f,.int code 0,.ref l])):=λ{Z4 l t f code told} F hm hl ht L ok Sk=>
  h _ t l f code told _ ((F.new hl).new ht) (ao ht (ao hl hm)) (ad _ _ _) (ao ht (ad _ _ _)) (L.mono λa o U e=>ao ht (ao hl e)) ok (F.isNew hl λa ha=>by
   simp only [f_,aj,Ez]at ha;rcases ha with rfl|rfl
   ·exact⟨_,hm⟩
   ·exact Sk)
 have mk:∀ {x d C:d_} {fl:b_ (Str×Value)},isNew Z3 x->isNew (Z3.set x (.exc C h_ e_ [])) d->ai [mn,hp] Z ((Z3.set x (.exc C h_ e_ [])).set x (.exc C (a_ d) e_ fl))/\((Z3.set x (.exc C h_ e_ [])).set x (.exc C (a_ d) e_ fl)) mn=a_ (.dic [(.str "cells" 0,.ref cl),(.str "deep" 0,.int (JV+1+1) 0)] N2)/\∃o,((Z3.set x (.exc C h_ e_ [])).set x (.exc C (a_ d) e_ fl)) hp=a_ o:=λ{x d C fl} hx hd=>by
  rw(config:={}) [gI];exact⟨F3.new hx,ao hx m3,_,ao hx h3⟩
 refine aO (aU (aa rfl (aK ⟨decide (My=1),rfl,cG (λU=>?_) λU=>ay ?_⟩)))
 ·refine a9 (fi (af (aA rfl (af (bJ (am (iK rfl rfl rfl rfl (of_decide_eq_true rfl) λx hx=>mi (ad _ _ _) rfl λd hd=>⟨rfl,af (aK (af (fe (af (bB (bJ (aa rfl (dF (by show 7+_<=_;walk_at "h") (am ⟨of_decide_eq_true rfl,λl hl=>am ⟨of_decide_eq_true rfl,λt ht=>?_⟩⟩)))))))))⟩)))))))
  revert hl;revert hd;revert hx;revert ht;revert x d l t;injections x d l t;intro ht hx hd hl;obtain⟨a,b,c⟩:=mk hx hd;exact Kw (told:=["no good"++fK line]) a b hl ht (.die x d _ _ _ (ad _ _ _) (.txt _ _ (by decide+kernel) (mj (by decide+kernel)))) (by simpa using ij (by decide+kernel) al.2) c
 refine aO (aU (aa rfl (aK ⟨decide (My=2),rfl,cG (λU=>?_) λU=>ay ?_⟩)))
 ·refine a9 (fi (af (aA rfl (af (bJ (am (iK rfl rfl rfl rfl (of_decide_eq_true rfl) λx hx=>mi (ad _ _ _) rfl λd hd=>⟨rfl,af (aK (af (fe (af (bJ (am ⟨of_decide_eq_true rfl,λl hl=>am ⟨of_decide_eq_true rfl,λt ht=>?_⟩⟩))))))⟩)))))))
  revert hl;revert hd;revert hx;revert ht;revert x d l t;injections x d l t;intro ht hx hd hl;obtain⟨a,b,c⟩:=mk hx hd;exact Kw (told:=["no good\n"]) a b hl ht (.die x d _ _ _ (ad _ _ _) (.txt _ _ (by decide+kernel) (BN (by decide+kernel)))) (by simpa using (by decide+kernel)) c
 refine aO (aU (aa rfl (aK ⟨decide (My=3),rfl,cG (λU=>?_) λU=>ay ?_⟩)))
 ·refine a9 (fi (af (aA rfl (af (bJ (am (iK rfl rfl rfl rfl (of_decide_eq_true rfl) λx hx=>mi (ad _ _ _) rfl λd hd=>⟨rfl,af (aK (af (fe (af (aa rfl (am ⟨of_decide_eq_true rfl,λl hl=>am ⟨of_decide_eq_true rfl,λt ht=>?_⟩⟩))))))⟩)))))))
  revert hl;revert hd;revert hx;revert ht;revert x d l t;injections x d l t;intro ht hx hd hl;obtain⟨a,b,c⟩:=mk hx hd;exact Kw (told:=[fK line]) a b hl ht (.die x d _ _ _ (ad _ _ _) (.txt _ _ (by decide+kernel) ((mj (by decide+kernel)).trans (PySem.Str.empty_append _)))) (by simpa using al.2) c
 refine aO (aU (aa rfl (aK ⟨decide (My=4),rfl,cG (λU=>?_) λU=>ay ?_⟩)))
 ·refine a8 (aX (aa rfl (bZ h3 rfl rfl (am (aF rfl (tC h3 λZ4 th td wk its Um U6 S8 n1 n2 n3 F4 t4 Zbb Un Sk=>aV rfl ?_))))))
  revert Sk;revert Un;revert Zbb;revert t4;revert F4;revert n3;revert n2;revert n1;revert S8;revert U6;revert Um;revert Z4 th td wk its;injections Z4 th td wk its;intro Um U6 S8 n1 n2 n3 F4 t4 Zbb Un Sk;refine bE (aA rfl (af (aa rfl (af (bJ (am (aF rfl (qi t4 (by decide+kernel) (of_decide_eq_true rfl) rfl λZ5 F5 t5=>⟨rfl,?_⟩))))))));intros Z5;have nm:mn≠th:=aq Um m3;have nh:hp≠th:=aq Um h3;have m5:=F5.get (F4.get m3 (by exact aE WQ)) (by exact aE nm);have h5:=F5.get Sk (by exact aE nh);refine a9 (fi (af (aA rfl (af (aA rfl (af (aa rfl (am (d8 rfl rfl rfl λrr rd T1=>nF (hv:=rfl) (ad _ _ _) λZ6 F6 r6=>⟨rfl,am (iK rfl rfl rfl rfl (of_decide_eq_true rfl) λx hx=>mi (ad _ _ _) rfl λd hd=>⟨rfl,af (aK (af (fe (af (bJ (am ⟨of_decide_eq_true rfl,λl hl=>am ⟨of_decide_eq_true rfl,λt ht=>?_⟩⟩))))))⟩)⟩)))))))));have F7:=dO T1 F6;have m6:=F7.get m5 aj;have t6:=F7.get t5 aj;rw(config:={}) [gI]at ht hl⊢;refine Kw (told:=["Box=ARRAY(0x1)"]) ?_ (ao hx m6) hl ht (.die x d _ _ _ (ad _ _ _) (.box rr rd th td wk its (ao hx r6) (ao hx t6))) (by simpa using (by decide+kernel)) ⟨_,ao hx (F7.get h5 aj)⟩;refine(((F3.trans F4 (by exact bT (by first |exact .inl (.head _) |exact .inl (.tail _ (.head _)) |exact .inr (by assumption)))).trans F5 ?_).trans F7 (by exact aW)).new hx;intro a ha;cases g_.mp ha;refine .inr (F3.isNew Um λa ha=>?_).1;simp only [f_,aj,Ez]at ha;rcases ha with rfl|rfl
  ·exact⟨_,m3⟩
  ·exact⟨_,h3⟩
 refine aO (aU (aa rfl (aK ⟨decide (My=5),rfl,cG (λU=>?_) λU=>ay ?_⟩)))
 ·obtain⟨w,hw,Wk⟩:∃w:Str,([.str "next" 0,.str "last" 0,.str "redo" 0]:b_ c_)[(num % 3).toNat]? =a_ (.str w 0)/\(w="next"\/w="last"\/w="redo"):=by
   have:num % 3=0\/num % 3=1\/num % 3=2:=by walk_at "o"
   rcases this with e|e|e<;>rw(config:={}) [e]
   ·exact⟨_,rfl,.inl rfl⟩
   ·exact⟨_,rfl,.inr (.inl rfl)⟩
   ·exact⟨_,rfl,.inr (.inr rfl)⟩
  intros w;have Vt:w.length<=10/\Ea w=e_:=by rcases Wk with rfl|rfl|rfl<;>decide+kernel
  refine a8 (lG (fe (af (bJ (af (bJ (af (bJ (am ⟨of_decide_eq_true rfl,λll YB=>bB (aa rfl (aK (i8 (by decide) ⟨_,fh (ad _ _ _) (Gq _ (by decide)) (by walk_at "o") hw,aV rfl ?_⟩)))⟩)))))))));intros ll;have F4:=F3.new (o:=.lst [.str "next" 0,.str "last" 0,.str "redo" 0]) YB;have m4:=ao (o':=.lst [.str "next" 0,.str "last" 0,.str "redo" 0]) YB m3;have h4:=ao (o':=.lst [.str "next" 0,.str "last" 0,.str "redo" 0]) YB h3;show au _ _ _ ⟨[("mine",.ref mn),("heap",.ref hp),("line",.int line 0),("number",.int num 0),("way",.int My 0),("tail",.str (fK line) 0),("word",.str w 0)],[]⟩ _ _;generalize Z3.set ll _=Z4 at F4 m4 h4⊢;refine aO (aU (bB (bB (aa rfl (aK (BJ (by decide) (by decide) (aK (i8 (by decide) (aK ⟨decide (num/3 % 2=1),rfl,cG (λU=>?_) λU=>ay ?_⟩)))))))))
  ·refine a9 (fi (af (aA rfl (af (aa rfl (af (bJ (am (iK rfl rfl rfl rfl (of_decide_eq_true rfl) λx hx=>vf (ad _ _ _) λd hd=>⟨rfl,af (aK (af (fe (af (bB (bB (bB (bJ (aa rfl (dF (by show 7+_<=_;walk_at "h") (bJ (dF (by rw(config:={}) [x_];show 7+_+22<=_;walk_at "u") (aa rfl (dF (by rw(config:={}) [x_,x_];show 7+_+22+_<=_;walk_at "be") (am ⟨of_decide_eq_true rfl,λl hl=>am ⟨of_decide_eq_true rfl,λt ht=>?_⟩⟩)))))))))))))))⟩)))))))))
   revert hl;revert hd;revert hx;revert ht;revert x d l t;injections x d l t;intro ht hx hd hl;rw(config:={}) [gI]at hl ht⊢;exact Kw (told:=["Can't \""++w++"\" outside a loop block"++fK line]) (F4.new hx) (ao hx m4) hl ht (.loop x d _ _ _ _ (ad _ _ _) Vt.1 (by decide+kernel) (by rcases Wk with rfl|rfl|rfl<;>exact mj (by decide+kernel))) (by simpa using ij (ij (ij (by decide+kernel) Vt.2) (by decide+kernel)) al.2) ⟨_,ao hx h4⟩
  ·refine a9 (fi (af (aA rfl (af (aa rfl (af (bJ (am (iK rfl rfl rfl rfl (of_decide_eq_true rfl) λx hx=>vf (ad _ _ _) λd hd=>⟨rfl,af (aK (af (fe (af (bB (bB (bB (bJ (aa rfl (dF (by show 21+_<=_;walk_at "h") (bJ (dF (by rw(config:={}) [x_];show 21+_+3<=_;walk_at "u") (aa rfl (dF (by rw(config:={}) [x_,x_];show 21+_+3+_<=_;walk_at "be") (am ⟨of_decide_eq_true rfl,λl hl=>am ⟨of_decide_eq_true rfl,λt ht=>?_⟩⟩)))))))))))))))⟩)))))))))
   revert hl;revert hd;revert hx;revert ht;revert x d l t;injections x d l t;intro ht hx hd hl;rw(config:={}) [gI]at hl ht⊢;exact Kw (told:=["Label not found for \""++w++" L\""++fK line]) (F4.new hx) (ao hx m4) hl ht (.loop x d _ _ _ _ (ad _ _ _) Vt.1 (by decide+kernel) (by rcases Wk with rfl|rfl|rfl<;>exact mj (by decide+kernel))) (by simpa using ij (ij (ij (by decide+kernel) Vt.2) (by decide+kernel)) al.2) ⟨_,ao hx h4⟩
 refine aO (aU (aa rfl (aK ⟨decide (My=6),rfl,cG (λU=>?_) λU=>ay ?_⟩)))
 ·refine a9 (fi (af (aA rfl (af (aa rfl (am (iK rfl rfl rfl rfl (of_decide_eq_true rfl) λx hx=>BG (ad _ _ _) rfl λd hd=>⟨rfl,af (aK (af (fe (af (bB (bJ (aa rfl (dF (by show 33+_<=_;walk_at "h") (am ⟨of_decide_eq_true rfl,λl hl=>am ⟨of_decide_eq_true rfl,λt ht=>?_⟩⟩)))))))))⟩)))))))
  obtain⟨a,b,c⟩:=mk hx hd;exact Kw (told:=["Can't return outside a subroutine"++fK line]) a b hl ht (.sub x d _ _ _ (ad _ _ _) (mj (by decide+kernel))) (by simpa using ij (by decide+kernel) al.2) c
 refine aO (aU (aa rfl (aK ⟨decide (My=7),rfl,cG (λU=>?_) λU=>ay ?_⟩)))
 ·refine a9 (fi (af (aA rfl (af (aa rfl (am (iK rfl rfl rfl rfl (of_decide_eq_true rfl) λx hx=>BH (ad _ _ _) rfl λd hd=>⟨rfl,af (aa rfl (af (eU λl hl=>am ⟨of_decide_eq_true rfl,λt ht=>?_⟩)))⟩)))))))
  obtain⟨a,b,c⟩:=mk hx hd;exact Kw (told:=[]) a b hl ht (.exit x d _ _ (ad _ _ _)) (by simp) c
 refine aO (aU (aa rfl (aK ⟨decide (My=8),rfl,cG (λU=>?_) λU=>ay ?_⟩)))
 ·refine a9 (fi (af (aA rfl (af (aa rfl (am (iK rfl rfl rfl rfl (of_decide_eq_true rfl) λx hx=>mi (ad _ _ _) rfl λd hd=>⟨rfl,af (aK (af (fe (af (aA rfl (af (aa rfl (am (vj n0 n1 (am ⟨of_decide_eq_true rfl,λl hl=>am ⟨of_decide_eq_true rfl,λt ht=>?_⟩⟩))))))))))⟩)))))))
  obtain⟨a,b,c⟩:=mk hx hd;exact Kw (told:=[numS num]) a b hl ht (.die x d _ _ _ (ad _ _ _) (.num num n0 n1)) (by simpa using (mh n0 n1).2) c
 refine a9 (fi (af (bI (af (aK (af (eU λl hl=>am ⟨of_decide_eq_true rfl,λt ht=>?_⟩)))))));exact Kw (told:=[]) F3 m3 hl ht .ends (by simp) ⟨_,h3⟩
theorem Lv.fly {c:Int}{e:d_}{d:m_ d_}(L:Lv e_ Z line (.ref e) c told)(h:Z e=a_ (.exc C d e_ fl)):Lv g' (Z.set e (.exc C d g' fl)) line (.ref e) c told:=by
 intros C line Z fl told c e d;cases L with
 |die _ d t v s h' hv=>
  intros d t v s;rw[h]at h';cases h';refine .die e d t v s (ad _ _ _) ?_;cases hv with
  |txt x s hx hs=>exact .txt x s hx hs
  |num i h0 h1=>exact .num i h0 h1
  |box r d t td wk its hr ht=>exact .box r d t td wk its (ap (λq=>by exact ag hr h rfl q) hr) (ap (λq=>by exact ag ht h rfl q) ht)
 |loop _ d t kd lb s h' h1 h2 hs=>intros d t kd lb s;rw[h]at h';cases h';exact .loop e d t kd lb s (ad _ _ _) h1 h2 hs
 |sub _ d t v s h' hs=>intros d t v s;rw[h]at h';cases h';exact .sub e d t v s (ad _ _ _) hs
 |exit _ d t i h'=>intros d t;rw[h]at h';cases h';exact .exit e d t _ (ad _ _ _)
noncomputable def BQ (Z:ak)(J5:d_):b_ Str->ak
 | []=>Z
 |told=>Z.set J5 (.lst (told.map λs=>.str s 0))
theorem BR {e aP fm:d_}{d:m_ d_}{code:Int}{f:c_}(L:Lv g' Z line (.ref e) code told)(he:Z e=a_ (.exc C d g' fl))(l0:0<=line)(l1:line<90)
 (hr:Z rn=a_ (.inst 714 rd rl)) (r1:rl.lookup ("err":Str)=a_ (.ref J5)) (r2:rl.lookup ("frames":Str)=a_ (.ref aP)) (herr:Z J5=a_ (.lst [])) (hfrs:Z aP=a_ (.lst [.ref fm])) (hfm:Z fm=a_ (.inst 693 pd (je KJ line)))
 (h:Q (.int code 0) (BQ Z J5 told)):lY (aT TQ 60 60) fU e C ⟨[("run",.ref rn),("work",f)],[]⟩ Z Q lZ:=by
 intros C rd rn KJ J5 pd line Z fl rl Q told e aP fm d code f;have fs:d5 Z (.ref aP) (.int 0 0) (.ref fm):=fh hfrs (by decide) (by decide) rfl;cases L with
 |die _ d t v s h' hv=>
  intros d t v s;rw[he]at h';cases h';refine⟨_,_,_,_,rfl,rfl,rfl,rfl,rfl,Eh _ _,aZ rfl ⟨rfl,?_⟩⟩;cases hv with
  |txt x s hx hs=>
   intros x;subst hs;refine bE (aX (av (aa rfl (az hr r1 (dY herr rfl (af (aA rfl (af (aA rfl (af (av (aa rfl (jd he rfl (af (av (d9 (av (aa rfl (az hr r2 (aK ⟨_,fs,az hfm rfl (am (aF rfl (qS hx l0 (by walk_at "a") (am (aF rfl (BD (am (bH (eR herr (by decide) ⟨rfl,?_⟩)))))))))⟩))))))))))))))))))));exact a9 (aK ⟨_,rfl,h⟩)
  |num i i0 i1=>
   intros i;refine bE (aX (av (aa rfl (az hr r1 (dY herr rfl (af (aA rfl (af (aA rfl (af (av (aa rfl (jd he rfl (af (av (d9 (av (aa rfl (az hr r2 (aK ⟨_,fs,az hfm rfl (am (aF rfl (vd rfl rfl (am (aF rfl (BE i0 i1 (am (bH (eR herr (by decide) ⟨rfl,?_⟩)))))))))⟩))))))))))))))))))));exact a9 (aK ⟨_,rfl,h⟩)
  |box r d t td wk its Oj ht=>
   intros r d t td wk its;refine bE (aX (av (aa rfl (az hr r1 (dY herr rfl (af (aA rfl (af (aA rfl (af (av (aa rfl (jd he rfl (af (av (d9 (av (aa rfl (az hr r2 (aK ⟨_,fs,az hfm rfl (am (aF rfl (vd (ve Oj rfl rfl) rfl (am (aF rfl (BF Oj ht (am (bH (eR herr (by decide) ⟨rfl,?_⟩)))))))))⟩))))))))))))))))))));exact a9 (aK ⟨_,rfl,h⟩)
 |loop _ d t kd lb s h' h1 h2 hs=>
  intros d t kd lb s;rw[he]at h';cases h';subst hs;have l60:(qT kd lb).length<=100:=by
   unfold qT;split
   ·rw[x_,x_];show 7+_+22<=_;walk_at "G"
   ·rw[x_,x_,x_,x_];show 21+_+1+_+1<=_;walk_at "bi"
  refine⟨_,_,_,_,rfl,rfl,rfl,rfl,rfl,Eh _ _,aM rfl ⟨_,_,_,_,rfl,rfl,rfl,rfl,rfl,Eh _ _,aZ rfl ⟨rfl,?_⟩⟩⟩;refine bE (aX (av (aa rfl (az hr r1 (dY herr rfl (af (aA rfl (af (aA rfl (af (aa rfl (am (aF rfl (BC he rfl rfl h1 h2 (af (av (d9 (av (aa rfl (az hr r2 (aK ⟨_,fs,az hfm rfl (am (aF rfl (qS l60 l0 (by walk_at "a") (am (bH (eR herr (by decide) ⟨rfl,?_⟩))))))⟩)))))))))))))))))))));exact a9 (aK ⟨_,rfl,h⟩)
 |sub _ d t v s h' hs=>
  intros d t v s;rw[he]at h';cases h';subst hs;refine⟨_,_,_,_,rfl,rfl,rfl,rfl,rfl,Eh _ _,aM rfl ⟨_,_,_,_,rfl,rfl,rfl,rfl,rfl,Eh _ _,aM rfl ⟨_,_,_,_,rfl,rfl,rfl,rfl,rfl,Eh _ _,aZ rfl ?_⟩⟩⟩;refine bE (aX (av (aa rfl (az hr r1 (dY herr rfl (af (aA rfl (af (bJ (af (av (d9 (av (aa rfl (az hr r2 (aK ⟨_,fs,az hfm rfl (am (aF rfl (qS (by decide+kernel) l0 (by walk_at "a") (am (bH (eR herr (by decide) ⟨rfl,?_⟩))))))⟩))))))))))))))));exact a9 (aK ⟨_,rfl,h⟩)
 |exit _ d t i h'=>
  intros d t;rw[he]at h';cases h';refine⟨_,_,_,_,rfl,rfl,rfl,rfl,rfl,Eh _ _,aM rfl ⟨_,_,_,_,rfl,rfl,rfl,rfl,rfl,Eh _ _,aM rfl ⟨_,_,_,_,rfl,rfl,rfl,rfl,rfl,Eh _ _,aM rfl ⟨_,_,_,_,rfl,rfl,rfl,rfl,rfl,Eh _ _,aZ rfl ⟨rfl,?_⟩⟩⟩⟩⟩;exact a9 (av (aa rfl (jd he rfl ⟨_,rfl,h⟩)))
noncomputable def qU:b_ Gf:=match (cV KC 824).drop 6 with
 |.FunctionDef _ _ b _ _ _ _ _ _ _::_=>b
 |_=>[]
noncomputable def qV:DR:=match (cV KC 824).drop 6 with
 |.FunctionDef _ _ _ _ _ _ s _ _ _::_=>s
 |_=>default
noncomputable def mo:Pos:=match (cV KC 824).drop 6 with
 |.FunctionDef _ _ _ _ _ _ _ _ _ p::_=>p
 |_=>default
noncomputable def qW (t:m_ (Pos×Str×Addr)):Prop:=∀p q c,t=a_ (p,q,c)->p.line=mo.line/\p.col=mo.col/\q=qn "work"
structure iN (rn rd J5 aP fm pd KJ:d_)(rl:b_ (Str×Value))(line:Int)(Z:ak):Prop where
 hr:Z rn=a_ (.inst 714 rd rl)
 r1:rl.lookup ("err":Str)=a_ (.ref J5)
 r2:rl.lookup ("frames":Str)=a_ (.ref aP)
 herr:Z J5=a_ (.lst [])
 hfrs:Z aP=a_ (.lst [.ref fm])
 hfm:Z fm=a_ (.inst 693 pd (je KJ line))
theorem iN.mono {aP fm:d_}(R:iN rn rd J5 aP fm pd KJ rl line Z)(k:∀a o,vh o=g'->Z a=a_ o->Z' a=a_ o):iN rn rd J5 aP fm pd KJ rl line Z':=
 ⟨k _ _ rfl R.hr,R.r1,R.r2,k _ _ rfl R.herr,k _ _ rfl R.hfrs,k _ _ rfl R.hfm⟩
theorem BS {b:d_}(h1:Z a=a_ (.lst (told.map λs=>.str s 0)))(h2:Z b=a_ (.lst (told.map λs=>.str s 0)))(ok:∀s∈told,Ea s=e_):dI Z .Eq (.ref a) (.ref b)=a_ e_:=by
 have:(told.map λs=>(.str s 0:c_)).all gQ=e_:=by
  rw[Ef];exact l_.mpr λs hs=>ok s hs
 show jk Z .Eq (.ref a) (.ref b)=a_ e_;unfold jk;dsimp only [fN,fX,fP,Option.elim,GA];rw[h1,h2];dsimp only [iu,GA];rw[z_ (by rw[this];simp)];show a_ ((told.map λs=>(.str s 0:c_))==_)=_;rw[C']
theorem BU {aP fm dn:d_}{code:Int}{fv:c_}(R:iN rn rd J5 aP fm pd KJ rl line Z)(l0:0<=line)(l1:line<90)
 (L:Lv e_ Z line fv code told) (hf:Z f=a_ (.clo qV qU [("line",c1),("fault",c2),("done",c3)] (qn "work") c)) (ht:Z 819=a_ (.tab (a_ (p,qn "work",c)))) (x1:Z c1=a_ (.cel (a_ (.int line 0)))) (x2:Z c2=a_ (.cel (a_ fv))) (x3:Z c3=a_ (.cel (a_ (.ref dn)))) (hd:Z dn=a_ (.lst []))
 (n1:J5≠dn) (n2:aP≠dn) (n3:J5≠aP)
 (h:∀Z',(∀a o,kd o≠7->a≠dn->a≠J5->Z a=a_ o->Z' a=a_ o)->Z' 819=a_ (.tab (a_ (p,qn "work",c)))->Z' dn=a_ (.lst [.int line 0])->Z' J5=a_ (.lst (told.map λs=>.str s 0))->Q (.int code 0) Z'):
 oB (aw TX 60).2 (aT TX 60 60) (aT TQ 60 60) [.ref rn,.ref f] Z Q:=by
 intros c f rd rn c3 c1 KJ c2 J5 pd line p Z rl Q told aP fm dn code fv;have d1:c1≠dn:=ag x1 hd;have d2:c2≠dn:=ag x2 hd;have k9:∀a o,a≠dn->Z a=a_ o->(Z.set dn (.lst [.int line 0])) a=a_ o:=λa o ne e=>ap ne e;have y2:=k9 _ _ d2 x2;have R9:iN rn rd J5 aP fm pd KJ rl line (Z.set dn (.lst [.int line 0])):=⟨k9 _ _ (ag R.hr hd) R.hr,R.r1,R.r2,k9 _ _ n1 R.herr,k9 _ _ n2 R.hfrs,k9 _ _ (ag R.hfm hd) R.hfm⟩;have t9:=k9 _ _ (ag ht hd) ht;have UJ:(Z.set dn (.lst [.int line 0])) dn=a_ (.lst [.int line 0]):=ad _ _ _;have L9:Lv e_ (Z.set dn (.lst [.int line 0])) line fv code told:=L.mono λa o k ea=>k9 _ _ (λq=>by rw[q,hd]at ea;cases ea;exact(ft k).elim) ea;refine⟨.ref rn,f,rfl,qV,qU.take 1,_,"fault",_,_,_,_,_,c,p,hf,ht,rfl,rfl,rfl,by decide+kernel,by decide+kernel,rfl,?_⟩;refine bE (aX (aa (bR rfl rfl x3) (dY hd rfl (af (aa (bR rfl rfl x1) (am (bH (eR hd (by decide) ⟨rfl,?_⟩))))))));refine ay ⟨rfl,?_⟩;show(aw TX 60).2 _ _ _ (Z.set dn (.lst [.int line 0])) _;generalize Z.set dn _=Z9 at k9 y2 R9 t9 UJ L9⊢;clear L hf ht x1 x2 x3;have body:∀ {e C:d_} {d:m_ d_} {fl:b_ (Str×Value)},fv=.ref e->Z9 e=a_ (.exc C d e_ fl)->lY (aT TQ 60 60) fU e C ⟨[("run",.ref rn),("work",.ref f)],[]⟩ (Z9.set e (.exc C d g' fl)) Q lZ:=λ{e C d fl} q he=>by
  subst q;have ne:∀ {a o},kd o≠7->Z9 a=a_ o->a≠e:=λ{a o} k ea q=>by rw[q,he]at ea;cases ea;exact k rfl
  have Lr:∀ {a o},kd o≠7->Z9 a=a_ o->(Z9.set e (.exc C d g' fl)) a=a_ o:=λk ea=>ap (ne k ea) ea;have TA:(819:d_)≠e:=λq=>by rw[<-q,t9]at he;cases he
  refine BR (L9.fly he) (ad _ _ _) l0 l1 (Lr ae R9.hr) R.r1 R.r2 (Lr ae R9.herr) (Lr ae R9.hfrs) (Lr ae R9.hfm) ?_;have er:J5≠e:=ne ae R9.herr;cases told with
  |nil=>exact h _ (λa o k n1 n2 ea=>Lr k (k9 _ _ n1 ea)) (ap TA t9) (Lr ae UJ) (Lr ae R9.herr)
  |cons s r=>
   refine h _ (λa o k n1 n2 ea=>ap n2 (Lr k (k9 _ _ n1 ea))) (ap (λq=>by exact ag t9 R9.herr rfl q) (ap TA t9)) (ap (Ex n1) (Lr ae UJ)) (ad _ _ _)
 cases L9 with
 |ends=>exact aU (aa (bR rfl rfl y2) (bI ⟨g',rfl,aM rfl (h Z9 (λa o U n1 U ea=>k9 _ _ n1 ea) t9 UJ R9.herr)⟩))
 |die e d t v s he hv=>exact aU (aa (bR rfl rfl y2) (bI ⟨e_,rfl,aZ rfl ⟨e,_,_,_,_,bR rfl rfl y2,he,rfl,body rfl he⟩⟩))
 |loop e d t k l s he h1 h2 hs=>exact aU (aa (bR rfl rfl y2) (bI ⟨e_,rfl,aZ rfl ⟨e,_,_,_,_,bR rfl rfl y2,he,rfl,body rfl he⟩⟩))
 |sub e d t v s he hs=>exact aU (aa (bR rfl rfl y2) (bI ⟨e_,rfl,aZ rfl ⟨e,_,_,_,_,bR rfl rfl y2,he,rfl,body rfl he⟩⟩))
 |exit e d t i he=>exact aU (aa (bR rfl rfl y2) (bI ⟨e_,rfl,aZ rfl ⟨e,_,_,_,_,bR rfl rfl y2,he,rfl,body rfl he⟩⟩))
theorem BV {x:d_}(h:Z x=a_ (.inst 401 d []))
 (h1:∀Z',ai [x] Z Z'->Q .none Z'):aI KC (aJ KC 0) 3 323 [.ref x,.ref hp,.none] Z Q:=by
 intros d hp Z Q x;refine⟨rfl,?_⟩;show au _ _ _ ⟨[("self",.ref x),("heap",.ref hp),("destroy",.none)],[]⟩ _ _;refine cC (aa rfl (aa rfl (cW h ?_)));refine cC (aa rfl (aa rfl (qa ?_)));refine cC (j2 λl m hl=>aa rfl (cW (ao hl (ad _ _ _)) ?_));refine cC (j2 λl' m' KA=>aa rfl (cW (ao KA (ad _ _ _)) ?_));exact ay (h1 _ ((((((ai.refl [x] Z).set (.head _)).new hl).set (.head _)).new KA).set (.head _)))
theorem BW {k:Dm->Prop}(h:k e_):fA Z (.bool e_) k:=h
theorem BX {cl:d_}{N:Nat}{tb:m_ (Pos×Str×Addr)}(hm:Z mn=a_ (.dic [(.str "cells" 0,.ref cl),(.str "deep" 0,.int JV 0)] N))(hcl:Z cl=a_ (.lst cells))(Ki:∀v∈cells,∃i:Int,v=.int i 0)(J6:cells.length<=60)
 (h0:0<=JV) (h1:JV<800) (RU:Z 819=a_ (.tab tb)) (LW:qW tb)
 (hQ:∀Z' N' US,Z' mn=a_ (.dic [(.str "cells" 0,.ref cl),(.str "deep" 0,.int (JV+1+1+1) 0)] N')->Z' cl=a_ (.lst cells)->Z' 819=a_ (.tab US)->qW US->Q (.bool e_) Z'):
 u6 TX (aT TQ 60 60) 60 60 [.ref mn] Z Q:=by
 intros mn JV Z cells Q cl N tb;refine⟨.ref mn,rfl,?_⟩;show∀c1,isNew Z c1->∀c2,isNew (Z.set c1 (.cel h_)) c2->∀c3,isNew ((Z.set c1 (.cel h_)).set c2 (.cel h_)) c3->au (aT TX 60 60) oD fJ ⟨[("mine",.ref mn)],[("line",c1),("fault",c2),("done",c3)]⟩ (((Z.set c1 (.cel h_)).set c2 (.cel h_)).set c3 (.cel h_)) _;intro c1 JY c2 J0 c3 Kb;revert JY J0;intros c1 c2 c3;have x1:(((Z.set c1 (.cel h_)).set c2 (.cel h_)).set c3 (.cel h_)) c1=a_ (.cel h_):=ao Kb (ao J0 (ad _ _ _));have x2:(((Z.set c1 (.cel h_)).set c2 (.cel h_)).set c3 (.cel h_)) c2=a_ (.cel h_):=ao Kb (ad _ _ _);have x3:(((Z.set c1 (.cel h_)).set c2 (.cel h_)).set c3 (.cel h_)) c3=a_ (.cel h_):=ad _ _ _;have n12:c1≠c2:=aq J0 (ad _ _ _);have n13:c1≠c3:=aq Kb (ao J0 (ad _ _ _));have n23:c2≠c3:=aq Kb (ad _ _ _);have F0:ai [] Z (((Z.set c1 (.cel h_)).set c2 (.cel h_)).set c3 (.cel h_)):=((((ai.refl [] Z).new JY).new J0).new Kb);generalize (((Z.set c1 _).set c2 _).set c3 _)=Z1 at x1 x2 x3 F0⊢;refine a8 (aA rfl (af (aA rfl (am (d8 rfl rfl rfl λlm XJ QP=>nK (ad _ _ _) λZ2 F2 NW=>⟨rfl,am (d8 rfl rfl rfl λhp dh Pq=>tR (ad _ _ _) λZ3 z hz F3 Zaw z3=>⟨rfl,aV rfl ?_⟩)⟩)))));revert QP F2 NW Pq;intros lm XJ Z2 hp dh Z3 z;have G3:ai [] Z1 Z3:=(dO QP F2).trans (dO Pq F3) (by exact aW);clear F2 NW QP F3 z3;refine a8 (aA rfl (af (aa rfl (af (aA rfl (af (aa rfl (af (bI (am (d8 rfl rfl rfl λct dc hct=>BV (ad _ _ _) λZ4 F4=>⟨rfl,?_⟩)))))))))));revert hct;intros ct dc Z4;refine af (aA rfl (af (aa rfl (am (d8 rfl rfl rfl λst sd K8=>tS (ad _ _ _) λZ5 gl Ng hgl F5 st5 gl5=>⟨rfl,?_⟩)))));revert K8;intros st sd Z5 gl Ng;refine af (aA rfl (am (d8 rfl rfl rfl λNW PI Mk=>nK (ad _ _ _) λZ6 F6 YU=>⟨rfl,am (d8 rfl rfl rfl λrn rd Oa=>tT (ad _ _ _) λZ7 a1 a2 a3 a4 a5 out J5 saves aP Km I=>⟨rfl,aV rfl ?_⟩)⟩)));revert Mk F6 YU Oa;intros NW PI Z6 rn rd Z7 a1 a2 a3 a4 a5 out J5 saves aP Km;have G6:ai [] Z1 Z6:=((G3.trans (dO hct F4) (by exact aW)).trans (dO K8 F5) (by exact aW)).trans (dO Mk F6) (by exact aW);have G7:ai [] Z1 Z7:=G6.trans (dO Oa I.F) (by exact aW);have Y1:Z7 hp=a_ (.inst 225 dh (bN lm 0 z)):=(((dO hct F4).trans (dO K8 F5) (by exact aW)).trans (dO Mk F6) (by exact aW)).trans (dO Oa I.F) (by exact aW) |>.get Zaw aj;have Xb:=I.at_;have UC:=I.ls J5 (.tail _ (.tail _ (.head _)));have Sv:=I.ls aP (.head _);have nef:J5≠aP:=by
  rintro rfl;exact(DK.mp I.nd).1 (.tail _ (.head _))
 have m7:=G7.get (F0.get hm aj) aj;have W':=G7.get (F0.get hcl aj) aj;have cle:cl≠J5:=aq UC.1 (ao Oa (G6.get (F0.get hcl aj) aj));have clf:cl≠aP:=aq Sv.1 (ao Oa (G6.get (F0.get hcl aj) aj))
 replace UC:=UC.2
 replace Sv:=Sv.2
 have Zbf:=G7.get (F0.get RU aj) aj;have y1:=G7.get x1 aj;have y2:=G7.get x2 aj;have y3:=G7.get x3 aj;clear I G6 G7 F4 F5 F6 G3 hct K8 Mk Oa Zaw st5 gl5 YU x1 x2 x3 F0 hm hcl RU Pq hz hgl JY J0 Kb;have r1:(dJ hp ct st NW a1 a2 a3 a4 a5 out J5 saves aP Km).lookup ("err":Str)=a_ (.ref J5):=rfl;have r2:(dJ hp ct st NW a1 a2 a3 a4 a5 out J5 saves aP Km).lookup ("frames":Str)=a_ (.ref aP):=rfl;generalize dJ hp ct st NW a1 a2 a3 a4 a5 out J5 saves aP Km=rl at r1 r2 Xb;refine a8 (aA rfl (af (aa rfl (af (aK (am (aF rfl (nR m7 W' Ki J6 h0 (by walk_at "a") (by decide) (by decide) λZ8 N8 line F8 m8 l0 l1=>fH rfl rfl (F8.get y1 (by exact aE (ag y1 m7))) ?_))))))));intros Z8 N8 line;have k8:∀ {a o},kd o≠3->kd o≠4->Z7 a=a_ o->(Z8.set c1 (.cel (a_ (.int line 0)))) a=a_ o:=λ{a o} n3 n4 e=>by
  have na:a∉[mn]:=by exact aE (cA e m7 λq=>n3 (by rw[q];rfl))
  have e8:=F8.get e na;exact ap (cA e (y1) λq=>n4 (by rw[q];rfl)) e8
 have Vh:=ap (ag m8 (F8.get y1 (by exact aE (ag y1 m7)))) (o':=.cel (a_ (.int line 0))) m8;have z1:(Z8.set c1 (.cel (a_ (.int line 0)))) c1=a_ (.cel (a_ (.int line 0))):=ad _ _ _;have z2:=ap (o':=.cel (a_ (.int line 0))) n12.symm (F8.get y2 (by exact aE (ag y2 m7)));have z3:=ap (o':=.cel (a_ (.int line 0))) n13.symm (F8.get y3 (by exact aE (ag y3 m7)));have Vf:=k8 ae ae Y1;have Sg:=k8 ae ae Xb;have Yr:=k8 ae ae UC;have M2:=k8 ae ae Sv;have XD:=k8 ae ae W';have UO:=k8 ae ae Zbf;clear k8 F8 m7 W' Zbf Y1 Xb UC Sv y1 y2 y3 m8;generalize (Z8.set c1 _)=Z9 at Vh z1 z2 z3 Vf Sg Yr M2 XD UO⊢;refine bE (aX (av (aa rfl (az Sg r2 (dY M2 rfl (af (aA rfl (af (eU λKJ Nl=>af (bI (af (aK (af (bI (af (bJ (af (aa (a7 rfl rfl (ao Nl z1)) (am (d8 rfl rfl rfl λfm fd hfm=>BI (ad _ _ _) ⟨rfl,?_⟩))))))))))))))))))));revert Nl;intros KJ fm fd;rw[gI];have k9:∀ {a o},Z9 a=a_ o->((Z9.set KJ (.lst [])).set fm (.inst 693 fd (je KJ line))) a=a_ o:=λe=>ao hfm (ao Nl e);refine am (bH (eR (k9 M2) (by decide) ⟨rfl,?_⟩));have VE:fm≠aP:=(aq hfm (ao Nl M2)).symm;have Lr:∀ {a o},a≠aP->Z9 a=a_ o->(((Z9.set KJ (.lst [])).set fm (.inst 693 fd (je KJ line))).set aP (.lst [.ref fm])) a=a_ o:=λn e=>ap n (k9 e);have m10:=Lr (ag Vh M2) Vh;have NP:=Lr clf XD;have w1:=Lr (ag z1 M2) z1;have w2:=Lr (ag z2 M2) z2;have w3:=Lr (ag z3 M2) z3;have OU:=Lr (ag Vf M2) Vf;have PC:=Lr (ag UO M2) UO;have R10:iN rn rd J5 aP fm fd KJ rl line (((Z9.set KJ (.lst [])).set fm (.inst 693 fd (je KJ line))).set aP (.lst [.ref fm])):=⟨Lr (ag Sg M2) Sg,r1,r2,Lr nef Yr,ad _ _ _,ap VE (ad _ _ _)⟩;clear Lr k9 Vh z1 z2 z3 Vf Sg Yr M2 XD UO VE hfm Nl;show au _ _ _ _ (((Z9.set KJ (.lst [])).set fm (.inst 693 fd (je KJ line))).set aP (.lst [.ref fm])) _;generalize (((Z9.set KJ _).set fm _).set aP _)=Kr at m10 NP w1 w2 w3 OU PC R10⊢;refine j8 (h3:=rfl) (h4:=rfl) (h1:=rfl) (h2:=rfl) (aA rfl (af (aa rfl (af (aa rfl (af (aa (a7 rfl rfl w1) (am (aF rfl (BO m10 NP Ki J6 (by walk_at "a") (by walk_at "a") OU l0 l1 λKG t tl fv code told N11 F11 gA Zaz Ts L ok Px=>?_))))))))));intros KG t tl fv code told N11;have n11:∀ {a o},kd o≠3->o≠ .inst 225 dh (bN lm 0 z)->Kr a=a_ o->a∉[mn,hp]:=λ{a o} k1 k2 e=>by
  simp only [f_,aj,Ez,GH];exact⟨cA e m10 λq=>k1 (by exact congrArg _ q),cA e OU k2⟩
 have NZ:∀ {a o},kd o≠3->o≠ .inst 225 dh (bN lm 0 z)->Kr a=a_ o->KG a=a_ o:=λk1 k2 e=>F11.get e (n11 k1 k2 e);have v2:=NZ ae (by simp) w2;refine nU Zaz rfl (fu (fH rfl rfl v2 (fu (aV rfl (fu (aV rfl (j9 ?_)))))));have v1:=NZ ae (by simp) w1;have v3:=NZ ae (by simp) w3;have Ua:=NZ ae (by simp) NP;have Sy:=NZ ae (by simp) PC;have R11:iN rn rd J5 aP fm fd KJ rl line KG:=⟨NZ ae gS R10.hr,r1,r2,NZ ae gS R10.herr,NZ ae gS R10.hfrs,NZ ae gS R10.hfm⟩;have Xm:J5≠tl:=aq Px R10.herr;have acQ:aP≠tl:=aq Px R10.hfrs;have ncl:cl≠tl:=aq Px NP;clear NZ n11 F11 Zaz m10 NP w1 w2 w3 OU PC R10 Px;have Ob:∀ {a o},kd o≠4->KG a=a_ o->(KG.set c2 (.cel (a_ fv))) a=a_ o:=λ{a o} k e=>ap (cA e v2 λq=>k (by rw[q];rfl)) e;have u1:=ap (o':=.cel (a_ fv)) n12 v1;have u2:(KG.set c2 (.cel (a_ fv))) c2=a_ (.cel (a_ fv)):=ad _ _ _;have u3:=ap (o':=.cel (a_ fv)) n23.symm v3;have Yh:=Ob ae gA;have OP:=Ob ae Ua;have Qo:=Ob ae Sy;have OT:=Ob ae Ts;have R12:iN rn rd J5 aP fm fd KJ rl line (KG.set c2 (.cel (a_ fv))):=⟨Ob ae R11.hr,r1,r2,Ob ae R11.herr,Ob ae R11.hfrs,Ob ae R11.hfm⟩
 replace L:Lv e_ (KG.set c2 (.cel (a_ fv))) line fv code told:=L.mono λa o k e=>Ob (λq=>by cases o<;>first |(exact(ft k).elim;done) |(exact absurd q ae)) e
 clear Ob v1 v2 v3 Ua Sy Ts R11 gA;generalize (KG.set c2 _)=Ln at u1 u2 u3 Yh OP Qo OT R12 L⊢;refine a8 (eU λdn Q7=>fH rfl rfl (ao Q7 u3) ?_);intros dn;have M5:∀ {a o},Ln a=a_ o->a≠dn:=λe=>aq Q7 e;have Oc:∀ {a o},kd o≠4->Ln a=a_ o->((Ln.set dn (.lst [])).set c3 (.cel (a_ (.ref dn)))) a=a_ o:=λ{a o} k e=>ap (cA e u3 λq=>k (by rw[q];rfl)) (ao Q7 e);have q1:=ap (o':=.cel (a_ (.ref dn))) n13 (ao (o':=.lst []) Q7 u1);have q2:=ap (o':=.cel (a_ (.ref dn))) n23 (ao (o':=.lst []) Q7 u2);have q3:((Ln.set dn (.lst [])).set c3 (.cel (a_ (.ref dn)))) c3=a_ (.cel (a_ (.ref dn))):=ad _ _ _;have Ve:=Oc ae Yh;have TV:=Oc ae OP;have NL:=Oc ae Qo;have SD:=Oc ae OT;have MF:((Ln.set dn (.lst [])).set c3 (.cel (a_ (.ref dn)))) dn=a_ (.lst []):=ap (M5 u3).symm (ad _ _ _);have R13:iN rn rd J5 aP fm fd KJ rl line ((Ln.set dn (.lst [])).set c3 (.cel (a_ (.ref dn)))):=⟨Oc ae R12.hr,r1,r2,Oc ae R12.herr,Oc ae R12.hfrs,Oc ae R12.hfm⟩
 replace L:Lv e_ ((Ln.set dn (.lst [])).set c3 (.cel (a_ (.ref dn)))) line fv code told:=L.mono λa o k e=>Oc (λq=>by cases o<;>first |(exact(ft k).elim;done) |(exact absurd q ae)) e
 have d1:=M5 R12.herr;have d2:=M5 R12.hfrs;have d3:=M5 OT;have d4:=M5 OP;clear Oc M5 u1 u2 u3 Yh OP Qo OT R12 Q7;show au _ _ _ ⟨[("mine",.ref mn),("heap",.ref hp),("run",.ref rn),("code",.int code 0),("told",.ref tl)],[("line",c1),("fault",c2),("done",c3)]⟩ _ _;generalize ((Ln.set dn _).set c3 _)=Ol at q1 q2 q3 Ve TV NL SD MF R13 L⊢;have Kw:∀ {Ls:ak} {f c:d_} {p:Pos},p.line=mo.line->p.col=mo.col->Ls f=a_ (.clo qV qU [("line",c1),("fault",c2),("done",c3)] (qn "work") c)->Ls 819=a_ (.tab (a_ (p,qn "work",c)))->(∀a o,vh o=g'->Ol a=a_ o->Ls a=a_ o)->
  ∃r wk,bM fJ "run" ⟨[("mine",.ref mn),("heap",.ref hp),("run",.ref rn),("code",.int code 0),("told",.ref tl),("work",.ref f)],[("line",c1),("fault",c2),("done",c3)]⟩ Ls=a_ r/\bM fJ "work" ⟨[("mine",.ref mn),("heap",.ref hp),("run",.ref rn),("code",.int code 0),("told",.ref tl),("work",.ref f)],[("line",c1),("fault",c2),("done",c3)]⟩ Ls=a_ wk/\
   oB (aw TX 60).2 (aT TX 60 60) (aT TQ 60 60) [r,wk] Ls λu Z=>∃cd b,bM fJ "code" ⟨[("mine",.ref mn),("heap",.ref hp),("run",.ref rn),("code",.int code 0),("told",.ref tl),("work",.ref f)],[("line",c1),("fault",c2),("done",c3)]⟩ Z=a_ cd/\dI Z .Eq u cd=a_ b/\
    if b=e_ then kZ (aw TX 60).1 qO fJ ⟨[("mine",.ref mn),("heap",.ref hp),("run",.ref rn),("code",.int code 0),("told",.ref tl),("work",.ref f)],[("line",c1),("fault",c2),("done",c3)]⟩ Z Q else Q (.bool g') Z:=λ{Ls f c p} e1 e2 hf ht k=>by
  refine⟨_,_,rfl,rfl,BU (R13.mono k) l0 l1 (L.mono λa o q e=>k a o (by cases o<;>first |rfl|exact(ft q).elim) e) hf ht (k _ _ rfl q1) (k _ _ rfl q2) (k _ _ rfl q3) (k _ _ rfl MF) d1 d2 nef λZ' k' Qa Ru Rq=>⟨_,e_,rfl,?_,aZ rfl ?_⟩⟩
  ·show a_ (decide (code=code))=_
   exact congrArg _ (E_ rfl)
  have kk:∀ {a o},kd o≠7->a≠dn->a≠J5->Ol a=a_ o->Z' a=a_ o:=λ{a o} h7 n1 n2 e=>k' a o h7 n1 n2 (k a o (by cases o<;>first |rfl|exact absurd rfl h7) e);have p1:=kk ae (ag R13.hr MF) (ag R13.hr R13.herr) R13.hr;refine lB (av (aa rfl (az p1 r1 (aa rfl ⟨e_,BS Rq (kk ae d3 Xm.symm SD) ok,?_⟩))));refine BW ?_;refine aZ rfl ?_;refine lB (aa (a7 rfl rfl (kk ae (ag q3 MF) (ag q3 R13.herr) q3)) (fe (af (aa (a7 rfl rfl (kk ae (ag q1 MF) (ag q1 R13.herr) q1)) (am ⟨of_decide_eq_true rfl,λl hl=>⟨e_,?_,?_⟩⟩)))))
  ·exact(lS (ao hl Ru) (ad _ _ _) (.inl rfl)).2
  ·exact hQ _ _ _ (ao hl (kk ae (ag Ve MF) (ag Ve R13.herr) Ve)) (ao hl (kk ae d4 cle TV)) (ao hl Qa) λp' q' c' e=>by cases e;exact⟨e1,e2,rfl⟩
 refine⟨rfl,rfl,rfl,rfl,rfl,rfl,rfl,rfl,_,tb,rfl,NL,?_⟩;cases tb with
 |none=>
  intro f c hf hc nfc;intros f c;refine aV rfl (ay ⟨rfl,Kw (p:=mo) rfl rfl (ad _ _ _) (ap (λq=>by exact(ns (hf.1.symm.trans (q▸NL)))) (ad _ _ _)) λa o k e=>ap (λq=>by exact(ns (hf.1.symm.trans (q▸e)))) (ap (λq=>by rw[q,NL]at e;cases e;exact absurd k (by decide)) e)⟩)
 |some t=>
  obtain⟨p,q,c⟩:=t;refine bP (LW p q c rfl) λe1 e2 e3=>?_;subst e3;refine⟨e1,e2,rfl,λf hf=>?_⟩;exact aV rfl (ay ⟨rfl,Kw e1 e2 (ad _ _ _) (ao hf NL) λa o k e=>ao hf e⟩)
noncomputable abbrev jf:DR:=cR KC 849
noncomputable def vk:Expr:=match cV KC 849 with
 |.Assign _ (.Dict _ (v::_) _) _::_=>v
 |_=>.Constant .none 0 p0
theorem BY:(match cB KC 849 with
 |some fd=>(match fd.body with |.stmts _=>e_|_=>g')&&fd.closure.isEmpty&&fd.globals==mainGlobals&&fd.builtins==E7&&fd.scope.kind== .function&& !fd.scope.isCoroutine&& !fd.scope.isGenerator&& !(kindOf fd.scope "told"==a_ .local)&&decide ((fd.scope.names.map (λp=>p.1)).Nodup)
 |none=>g')=e_:=by kernel_rfl
theorem BZ (P:DF)(S:Js)(a:c_):(cB KC 849).map (λfd=>peek (KF P) S (Gh fd ⟨[a],[]⟩))=a_ (a_ ([("script",a)]:b_ (Str×Value))):=by kernel_rfl
theorem B7:kindOf jf "script"=a_ .local:=by kernel_rfl
theorem B8:∃p1 p2 p3 p6 p7 p8 p9 QG QI q1 q2 q3 q4 q5 q6 q7 q8,cV KC 849=[.Assign [.Name "mine" p1] (.Dict [a_ (.Constant (.str "cells") 0 p2),a_ (.Constant (.str "deep") 0 p3)] [vk,.Constant (.int 0) 0 p6] p7) p8,
 .Return (a_ (.BoolOp .And [.Call (.Name "_law_program_right" p9) [.Name "mine" QG] [] QI,.Call (.Name "_law_end_right" q1) [.Name "mine" q2] [] q3,.Call (.Name "_law_program_right" q4) [.Name "mine" q5] [] q6] q7)) q8]:=
 ⟨_,_,_,_,_,_,_,_,_,_,_,_,_,_,_,_,_,rfl⟩
noncomputable def qX (E:ET)(a:d_)(xs:b_ c_):ET:=λe sc fm Z Q=>
 (∃x p1 k k0 p3 p2 p,e=.Subscript (.Name x p1) (.Slice h_ (a_ (.Constant (.int k) k0 p3)) h_ p2) p/\cF x=e_/\kindOf sc x=a_ .local/\fm.loc.lookup x=a_ (.ref a)/\0<=k/\∀l,isNew Z l->Q (.ref l) (Z.set l (.lst (xs.take k.toNat))))\/E e sc fm Z Q
noncomputable def qY (E:ET)(B:TT)(a:d_)(xs:b_ c_):ET:=λe sc fm Z Q=>
 (∃elt x p it KU cs pos,e=.ListComp elt [⟨.Name x p,it,KU,0⟩] cs pos/\dL it=e_/\jW cs=e_/\ob (iW cs fm) λcl=>qX E a xs it sc fm Z λv Z=>iv (qX E a xs) B elt x KU cs cl v Z Q)\/E e sc fm Z Q
noncomputable def kD (i:Int):Int:=(if i<0 then -i else i) % 1000000000
noncomputable def iL (i:Int):c_:=.int i 0
section
variable{B:aS}{A:DJ}{E:ET}{d:Nat}
theorem Ca (D:aQ w Zb6 mg mb)(HE:dB g' prog w Zb6 Zb9 d E)(ha:Zb6.IsList a vs.toArray)(hz:vs.length<=1000):dB g' prog w Zb6 Zb9 d (qX E a (vs.map er)):=by
 intros a vs Zb6 Zb9 mg mb prog w E d;intro e sc fm Z Q h env B s A Err R N S hA K;revert h;intros e sc fm Z Q env B s A Err R;rcases h with ⟨x,p1,k,k0,p3,p2,p,rfl,hd,hk,hl,k0',h⟩ |h
 ·intros x p1 k k0 p3 p2 p
  refine pQ (Ey (gU D S N hd (v:=.ref a) (by unfold bM;rw[hk];exact hl) λu hu=>?_) (fF hd).1);have:=cU hu;subst this;refine sW (Gv ?_);have S1:=S.tok (s.toks+1);refine dm ha λo ho hc zz=>?_;clear ha;refine xE zz λn hda=>?_;clear zz;have M6:s.heap.get? a=a_ o:=S.rep.get ho;refine⟨"list",_,GL.lookup,⟨_,j' _ M6,hc⟩,?_⟩;refine H7 (st:=h_) (items:=vs.toArray) (lo:=h_) (hi:=a_ k) ⟨o,j' _ M6,hc,n,hda⟩ ⟨_,y_ _ rfl,rfl,rfl⟩ .none (.int k _) .none (by simp) ?_ (by rw[DB];simp;walk_at "o");have S3:=S1.grow (h':=s.heap.push {cls:=.type "slice",data:=.fields #[.none,.int k s.toks,.none]}) (s.toks+1) λb o eb=>j' _ eb;refine K _ _ _ (h _ (S3.rep.isNew D)) (S3.new _ rfl ⟨_,_,y_ _ rfl,?_⟩);refine xE (Fz k0') ?_;rintro j rfl;rw[slicePick_upto'];simp
 ·exact HE h N S hA K
theorem Cb (D:aQ w Zb6 mg mb)(HE:dB g' prog w Zb6 Zb9 d E)(HB:fc g' prog w Zb6 Zb9 d Bt)(ha:Zb6.IsList a vs.toArray)(hz:vs.length<=1000):dB g' prog w Zb6 Zb9 d (qY E Bt a (vs.map er)):=by
 intro e sc fm Z Q h env B s A Err R N S hA K;rcases h with ⟨elt,x,px,it,KU,cs,pos,rfl,hp,M3,cl,Lx,h⟩ |h
 ·rw[eval_ListComp]
  show wpAny _ A (comprehension _ cs env _ (newList []) g' (eval it env) h_) _ Err s;refine pV rfl D (Ca D HE ha hz) HB N S hA M3 hp Lx h (λD' C Z5 s5 ob m hq S5 OG hn=>?_);refine⟨m,hn,λh' hs=>?_⟩;refine dG (S5.show' OG S.rep.base) λS6 n1 eC n3=>?_;exact K _ _ _ hq (S6.but s5.toks (λb o nb eb=>(hs.2 b nb).trans eb) n1 OG n3)
 ·exact HE h N S hA K
theorem vm {ns:b_ Int}(h:Hs vs ns):vs.map er=ns.map iL:=by
 induction h with
 |nil=>rfl
 |cons n t _ ih=>rw[n_,n_,ih];rfl
theorem Cc {ns:b_ Int}(hn:ns.length<=63)(h:∀Z' l,ai [] Z Z'->Z' l=a_ (.lst (((ns.take 50).map kD).map iL))->Q (.ref l) Z'):qY (aw TX 60).1 (aw TX 60).2 a (ns.map iL) vk jf ⟨[("script",.ref a)],[]⟩ Z Q:=by
 intros a Z Q ns;refine .inl ⟨_,_,_,_,_,_,_,rfl,rfl,rfl,[],rfl,.inl ⟨_,_,_,_,_,_,_,rfl,rfl,rfl,rfl,by decide,λl0 M6=>?_⟩⟩;intros l0;refine ew (λU=>e_) (λv=>match v with |.int i _=>iL (kD i) |v=>v) (cY (ad _ _ _)) (by simp;walk_at "bh") rfl rfl (λy hy Qb hq=>hq) (λy hy U Q hq=>?_) λl hl=>?_
 ·refine ac (i_.mp (Ep hy)) ?_;rintro i-rfl
  intros Q i;refine .inr (bB (aA rfl (af (aa rfl (am (bH ⟨oZ,rfl,_,rfl,?_⟩))))));exact bB (aK (aK ⟨rfl,rfl,i8 (by decide) hq⟩))
 ·refine h _ l (((ai.refl [] Z).new M6).new hl) ?_
  rw[ad,DG.mpr λU U=>rfl,show(50:Int).toNat=50 from rfl, <-List.map_take,C_,C_]
  rfl
noncomputable def jg (Z:ak)(a:d_):ak:=λb=>if b=a then h_ else Z b
open Classical in
noncomputable def kE (B:aS)(a:d_)(o:O)(h:Fu):aS:=λb=>if b=a\/bD o=a_ b then h.get? b else B b
theorem kF {oc:O}(e:jg Z a c=a_ oc):c≠a/\Z c=a_ oc:=by
 unfold jg at e;split at e
 ·exact(ns e).elim
 ·rename Not _=>q;exact⟨q,e⟩
theorem vo {oc:O}(n:c≠a)(e:Z c=a_ oc):jg Z a c=a_ oc:=by
 unfold jg;exact((p_ n).trans e)
theorem vp {b:d_}(x:own (jg Z a) b):own Z b:=x.elim λc x=>x.elim λoc x=>⟨c,oc,(kF x.1).2,x.2⟩
theorem mq {b:d_}(q:b=a\/bD o=a_ b):kE B a o h b=h.get? b:=z_ q
theorem mr {b:d_}(q:¬ (b=a\/bD o=a_ b)):kE B a o h b=B b:=p_ q
theorem aN.drop (R:aN prog w Zb6 Z B h)(ha:Z a=a_ o):aN prog w Zb6 (jg Z a) (kE B a o h) h:=by
 refine⟨λb ob e=>R.om b ob (kF e).2,λb ob e=>?_,λb ob e hb=>?_,λb ob e=>?_,λc oc d e hd=>?_,λc oc c' QR d e hd e' Ru=>R.inj _ _ _ _ _ (kF e).2 hd (kF e').2 Ru⟩
 ·by_cases q:b=a\/bD o=a_ b
  ·rwa[mq q]at e
  ·rw[mr q]at e;exact R.keep _ _ e
 ·by_cases q:b=a\/bD o=a_ b
  ·refine aY hb λc oc e1 hc=>?_;clear hb
   refine xA (kF e1) λn e2=>?_;clear e1;rcases q with q|q
   ·subst q
    rcases hc with hc|hc
    ·exact n hc.symm
    ·exact(ns ((R.sep _ _ _ e2 hc).symm.trans ha))
   ·rcases hc with hc|hc
    ·subst hc;rw[R.sep _ _ _ ha q]at e2;exact(ns e2).elim
    ·exact n (R.inj _ _ _ _ _ e2 hc ha q)
  ·rw[mr q]at e;exact R.apart _ _ e (vp hb)
 ·by_cases q:b=a\/bD o=a_ b
  ·exact(mq q).trans (R.get e)
  ·exact(mr q).trans (R.base _ _ e)
 ·unfold jg
  split
  ·rfl
  ·exact R.sep _ _ _ (kF e).2 hd
theorem St.drop (S:St prog w Zb6 Zb9 env fm Z B s)(ha:Z a=a_ o):St prog w Zb6 Zb9 env fm (jg Z a) (kE B a o s.heap) s:=by
 refine⟨S.rep.drop ha,S.ns,λx=>S.free (vp x),?_,S.cel,S.same⟩;rw[mr,S.priv];rintro(q|q)
 ·exact S.free (q▸dw ha)
 ·exact S.free (gT ha q)
theorem St.undrop (S:St prog w Zb6 Zb9 env fm Z B s)(ha:Z a=a_ o)(S':St prog w Zb6 Zb9 env fm Z' (kE B a o s.heap) s'):St prog w Zb6 Zb9 env fm (Z'.set a o) B s':=by
 intros a Z Z' Zb6 Zb9 s s' fm o env prog w B;have m:=S.rep.om _ _ ha;have bb:∀b ob,B b=a_ ob->kE B a o s.heap b=a_ ob:=λb ob e=>by
  by_cases q:b=a\/bD o=a_ b
  ·exact(mq q).trans (S.rep.keep _ _ e)
  ·exact(mr q).trans e
 have nb:∀ {b},(b=a\/bD o=a_ b)->¬own Z' b/\B b=h_:=λ{b} q=>by
  refine xE (m.there q) λx hx=>?_;refine⟨S'.rep.apart b x ((mq q).trans hx),?_⟩;cases e:B b with
  |none=>rfl
  |some y=>exact absurd ⟨a,o,ha,q⟩ (S.rep.apart _ _ e)
 have R:=S'.rep.less bb S.rep.base;refine⟨R.adopt (nb (.inl rfl)).1 (nb (.inl rfl)).2 (λd hd=>⟨(nb (.inr hd)).1,(nb (.inr hd)).2,λq=>by have:=S.rep.sep _ _ _ ha hd;rw[q,ha]at this;exact(sn this).elim⟩) (m.keep λb ob q e=>S'.rep.keep b ob ((mq q).trans e)),S'.ns,?_,S.priv,S.cel,S'.same⟩;rintro⟨c,oc,e,hb⟩;intros c oc;by_cases q:c=a
 ·subst q
  rw[ad]at e;cases e;exact S.free ⟨c,o,ha,hb⟩
 ·rw[bA _ _ q]at e
  exact S'.free ⟨c,oc,e,hb⟩
theorem Cd (N:bL env sc)(S:St prog w Zb6 Zb9 env fm Z B s)(hf:env.frame=a_ env.locals):s.heap.FunFrames dU [env]:=by
 refine ac S.ns ?_;rintro mm ⟨o,es,ep,ho,hd,_⟩ _;exact⟨by rw[N.kind];decide,⟨env.locals,o,hf,oy _,ho,λvs z=>by rw[hd]at z;cases z⟩,trivial⟩
noncomputable def kH (mn:d_)(ns:b_ Int)(JV:Int)(Z:ak):Prop:=∃cl N tb,Z mn=a_ (.dic [(.str "cells" 0,.ref cl),(.str "deep" 0,.int JV 0)] N)/\Z cl=a_ (.lst (((ns.take 50).map kD).map iL))/\Z 819=a_ (.tab tb)/\qW tb
theorem vq (ns:b_ Int):∀v∈((ns.take 50).map kD).map iL,∃i:Int,v=.int i 0:=λv hv=>by
 refine ac (i_.mp hv) ?_;rintro i-rfl;exact⟨i,rfl⟩
theorem vr (ns:b_ Int):(((ns.take 50).map kD).map iL).length<=60:=by simp;walk_at "bh"
theorem vz {u:c_}(h:er u=.bool e_):u=.bool e_:=wr h
theorem vA {mn:d_}{ns:b_ Int}(D:aQ w Zb6 mg mb)(N:bL env jf)(hf:env.frame=a_ env.locals)(hb:Zb6.get? env.locals=h_)(hA:a0 g' 20 A)(hfr:A.frames=a_ [env])(hl:fm=⟨[("script",.ref a),("mine",.ref mn)],[]⟩)
 (S:St prog w Zb6 Zb9 env fm Z B s) (O:kH mn ns JV Z) (d0:0<=JV) (d1:JV<800):wpAny (A_ prog w) A (eval (.Call (.Name "_law_program_right" p1) [.Name "mine" p2] [] p3) env) (λu s'=>u=.bool e_/\∃Z' B',kH mn ns (JV+1+1+1) Z'/\St prog w Zb6 Zb9 env fm Z' B' s') Err s:=by
 refine kM O λcl M tb hm hcl ht LW=>?_;clear O;have PA:cF "_law_program_right"=e_:=by decide+kernel
 have NU:cF "mine"=e_:=by decide+kernel
 refine Call_ (Ey (jq D S.rep N (show kindOf jf "_law_program_right"=_ by kernel_rfl) (v:=.ref 824) (by kernel_rfl) λu LV=>?_) (fF PA).1) rfl;have:=cU LV;subst this;have Yq:Il (KF w.params) (.ref 824)=e_:=(oE (uZ w.params) (Ds.mp (show(cB KC 824).isSome=e_ by kernel_rfl)).choose_spec).kp;refine IK (P:=λh=>∃k,(k=GM\/k=FR\/k=Fp)/\Hm (A_ prog w) h (IJ (.ref 824)) k) rfl (λh hp=>hp) ?_;refine evalArgs_plain (IX (Ey (gU D S N NU (v:=.ref mn) (by subst hl;kernel_rfl) λu1 Sl=>?_) (fF NU).1) rfl);refine args_nil ⟨Jr Yq _ (S.rep.in D),?_⟩;refine EQ (Bi (mn:=u1) (outer:=[]) (k:=60) (n:=60) (Sq:=aT TQ 60 60) (Q:=λv Z'=>v=.bool e_/\kH mn ns (JV+1+1+1) Z') D (qP D) (λ{U U U U U} h {U U U U U U} N S hA K=>nt D (Bn D) 60 60 h N S (hA.le (by walk_at "a")) K) S (hA.le (by walk_at "a")) hfr (Cd N S hf) (λL hL=>?_) ?_) (λu s' h'=>?_) λU U q=>q
 ·have:L=env.locals:=by
   have e:aP [env]=[env.locals]:=by unfold aP;rw[D8,hf];rfl
   rw[e]at hL;exact g_.mp hL
  subst this;exact⟨S.free,hb⟩
 ·exact Sl▸(BX hm hcl (vq ns) (vr ns) d0 d1 ht LW λZ' N' US a1 a2 a3 a4=>⟨rfl,cl,N',US,a1,a2,a3,a4⟩)
 ·refine dZ h' ?_;clear h';rintro Z' ⟨e,O'⟩ S'- -
  exact⟨vz e,Z',_,O',S'⟩
theorem Ce {ns:b_ Int}(D:aQ w Zb6 mg mb)(N:bL env jf)(hA:a0 g' 20 A)(hl:fm=⟨[("script",.ref a),("mine",.ref mn)],[]⟩)
 (S:St prog w Zb6 Zb9 env fm Z B s) (O:kH mn ns JV Z) (d0:0<=JV) (d1:JV<=100):wpAny (A_ prog w) A (eval (.Call (.Name "_law_end_right" p1) [.Name "mine" p2] [] p3) env) (λu s'=>u=.bool e_/\∃Z' d,kH mn ns d Z'/\0<=d/\d<=200/\St prog w Zb6 Zb9 env fm Z' B s') Err s:=by
 refine kM O λcl M tb hm hcl ht LW=>?_;clear O;have PA:cF "_law_end_right"=e_:=by decide+kernel
 have NU:cF "mine"=e_:=by decide+kernel
 have hc:=(nB (prog:=prog) (Zb9:=Zb9) D 8).2 844 _ rfl;refine Call_ (Ey (jq D S.rep N (show kindOf jf "_law_end_right"=_ by kernel_rfl) (v:=.ref 844) (by kernel_rfl) λu LV=>?_) (fF PA).1) rfl;have:=cU LV;subst this;refine IK (P:=λh=>∃k,(k=GM\/k=FR\/k=Fp)/\Hm (A_ prog w) h (IJ (.ref 844)) k) rfl (λh hp=>hp) ?_;refine evalArgs_plain (IX (Ey (gU D S N NU (v:=.ref mn) (by subst hl;kernel_rfl) λu1 Sl=>?_) (fF NU).1) rfl);refine args_nil ⟨Jr hc.1 _ (S.rep.in D),?_⟩;have n1:mn≠819:=by exact ag hm ht
 have n2:cl≠819:=by exact ag hcl ht
 refine gm.call hc.2 (vs:=[u1]) (Q:=λv Z'=>v=.bool e_/\∃d N',0<=d/\d<=200/\Z' mn=a_ (.dic [(.str "cells" 0,.ref cl),(.str "deep" 0,.int d 0)] N')/\Z' cl=a_ (.lst (((ns.take 50).map kD).map iL))) (S.drop ht) (hA.le (by walk_at "a")) ?_ λu Z' s' h' S'=>?_
 ·rw[n_,Sl]
  exact AW (vo n1 hm) (vo n2 hcl) (vq ns) (vr ns) d0 d1 λZ' d N' a1 a2 a3 a4=>⟨rfl,d,N',a1,a2,a3,a4⟩
 ·refine eM h' λe d N' b1 b2 zz=>?_;clear h';refine xA zz λb3 b4=>?_;clear zz
  exact⟨vz e,Z'.set 819 (.tab tb),d,⟨cl,N',tb,ap n1 b3,ap n2 b4,ad _ _ _,LW⟩,b1,b2,S.undrop ht S'⟩
end
section
variable{B:aS}{A:DJ}{E:ET}{d:Nat}
theorem Cf {ns:b_ Int}(D:aQ w Zb6 mg mb)(R:aN prog w Zb6 Z B s.heap)(hs:mM Zb9 s)(hA:a0 g' 21 A)(hfr:A.frames=a_ [])(ha:Zb6.IsList a vs.toArray)(hi:Hs vs ns)(hn:ns.length<=63)(ht:Z 819=a_ (.tab h_))(QB:∀fd,cB KC 849=a_ fd->s.heap.CodeRec fd.code fd.qualname):
 Hr (A_ prog w) A (.call (.ref 849) ⟨[.ref a],[]⟩) (λr s'=>r=.ok (.ret (.bool e_))/\∃Z' B' tb,aN prog w Zb6 Z' B' s'.heap/\mM Zb9 s'/\Z' 819=a_ (.tab tb)) s:=by
 intros a Z vs Zb6 Zb9 s mg mb prog w B A ns;have Kg:∃fd,cB KC 849=a_ fd:=Ds.mp (by kernel_rfl);refine xE Kg λfd hf0=>?_;intros fd;clear Kg;have F:=BY;rw[hf0]at F;simp only [u_,Fi,C9,Ei,G5]at F;refine xA F ?_;clear F;rintro⟨⟨⟨⟨⟨⟨⟨f1,f2⟩,f3⟩,f4⟩,f5⟩,f6⟩,f7⟩,f8⟩ f9;have hl:∃oc od Lq,(KF w.params).lookup 849=a_ ⟨oc,od,.func fd,Lq⟩:=by
  have:=ly (D:=KD w.params) hf0;exact j1 this
 refine jI hl ?_;clear hl;rintro oc od Lq hl;intros oc od Lq;have hfb:fd.body=.stmts (cV KC 849):=by
  unfold cV lx;rw[hf0];dsimp only;split at f1
  · (rename _=FT _=>q;rename b_ _=>b);exact q▸rfl
  ·exact(ft f1).elim
 have LB:jf=fd.scope:=by show cR KC 849=_;unfold cR;rw[hf0]
 refine dH B8 λp1 p2 p3 p6 p7 zz=>?_;intros p1 p2 p3 p6 p7;refine dH zz λp8 p9 QG QI q1 zz=>?_;revert zz;revert p8 p9 QG QI q1;injections p8 p9 QG QI q1;intro zz;refine dH zz λq2 q3 q4 q5 q6 zz=>?_;revert zz;revert q2 q3 q4 q5 q6;injections q2 q3 q4 q5 q6;intro zz;refine cS zz λq7 q8 KM=>?_;intros q7 q8;clear zz;refine pJ D R hs hA.room (bs:=[("script",.ref a)]) (V:=λfm Z1=>fm=⟨[("script",.ref a)],[]⟩/\Z1=Z) hl hfb f2 f3 f4 (QB fd hf0) f5 f6 f7 f9 (λq=>by rw[q]at f8;simp at f8) (λS=>?_) (by simp) (λx hx=>?_) ?_ λJU Ll Z1 s1 N1 S1 hf1 h1=>?_
 ·have:=BZ w.params S (.ref a)
  rw[hf0,Go]at this;exact De this
 ·rcases f_.mp hx with rfl|hx
  ·exact LB.symm▸(.inl B7)
  ·exact(aj hx).elim
 ·exact LB.symm▸(⟨by kernel_rfl,rfl⟩)
 intros JU Ll Z1 s1;rw[<-LB]at N1;refine xA h1 ?_;clear h1;rintro rfl rfl;have Nd:a0 g' 20 (A.deeper JU):=hA.deeper JU;have Lz:(A.deeper JU).frames=a_ [JU]:=by
  show A.frames.map (JU:: ·)=_;rw[hfr];rfl
 have hb:Zb6.get? JU.locals=h_:=by
  cases z:Zb6.get? JU.locals with
  |none=>rfl
  |some o=>have:=S1.priv;rw[d7 (R.apart _ _ (R.base _ _ z)) (R.get z)]at this;exact(sn this).elim
 have HE:dB g' prog w Zb6 Zb9 13 (aw TX 60).1:=(@i5 _ _ _ _ _ _ _ _ _ D (qP D) 60).1;have HB:fc g' prog w Zb6 Zb9 13 (aw TX 60).2:=(@i5 _ _ _ _ _ _ _ _ _ D (qP D) 60).2;have hz:vs.length<=1000:=by
  have:=congrArg GB (vm hi);rw[b',b']at this;walk_at "a"
 have HC:dB g' prog w Zb6 Zb9 13 (qY (aw TX 60).1 (aw TX 60).2 a (ns.map iL)):=by rw[<-vm hi];exact Cb D HE HB ha hz
 rw[KM];refine Eg (H2 (sX (Q:=λv Z'=>∃mn,v=.ref mn/\kH mn ns 0 Z') D HC N1 S1 (Nd.le (by walk_at "a")) (by decide+kernel) ?_ λu Z2 s2 h2 S2=>?_))
 ·exact Cc hn λZ' l F hl=>.inr (aK λd N hd=>⟨d,rfl,l,N,h_,ad _ _ _,ao hd hl,ao hd (F.get ht aj),λp q c e=>by cases e⟩)
 intros u Z2 s2;refine ac h2 λmn hu O=>?_;intros mn;clear h2;have:=cU hu;subst this;refine gi S2 N1 (k:=λfm Z'=>fm=⟨[("script",.ref a),("mine",.ref mn)],[]⟩/\Z'=Z2) (by unfold dv;rw[show kindOf jf "mine"=a_ .local from by kernel_rfl];exact⟨rfl,rfl⟩) λLZ Z3 s3 h3 S3=>?_;intros LZ Z3 s3;refine xA h3 ?_;clear h3;rintro PW rfl;refine Eg (GP (Jd (EQ (vA D N1 hf1 hb Nd Lz PW S3 O (by decide) (by decide)) (λu s4 h4=>?_) λU U q=>q)));intros u s4;refine oI h4 ?_;clear h4;rintro rfl Z4 B4 O4 S4;intros Z4 B4;refine FO ?_;rw[z_ rfl];refine Jd (EQ (Ce D N1 Nd PW S4 O4 (by decide) (by decide)) (λu s5 h5=>?_) λU U q=>q);refine eM h5 ?_;clear h5;rintro rfl Z5 d O5 d0 zz;refine xA zz λd1 S5=>?_;clear zz;refine FO ?_;rw[z_ rfl];refine BoolOp_one (EQ (vA D N1 hf1 hb Nd Lz PW S5 O5 d0 (by walk_at "a")) (λu s6 h6=>?_) λU U q=>q);revert O5 d0 d1 S5;intros s5 Z5 d u s6;refine oI h6 ?_;clear h6;rintro rfl Z6 B6 ⟨cl,N,tb, -, -,ht6, -⟩ S6;exact⟨rfl,Z6,B6,tb,S6.rep,S6.same,ht6⟩
end
section
section
set_option backward.match.sparseCases true
set_option maxHeartbeats 4000000
theorem Cg {h:Fu}{p:Fc}{loose:b_ Str}{PM:ExcName->m_ c_}{mg mb:Str->m_ c_}(hT:TabsAt ([(823,819)]:b_ (Addr×Addr)) h)(T:Top p loose PM mg mb h):(Jv h [(823,819)]).BuiltinsAt mg 819:=by
 obtain⟨bm,ob,e1,e2,e3,e4,e5,e6⟩:=T.bmain;have e7:(Jv h [(823,819)]).get? bm=a_ ob:=ghost_get hT e3 (λq=>by rw[q]at e4;cases e4);refine⟨bm,ob,e1,e2,?_,?_,e7,e4,e5,e6⟩
 ·rintro rfl
  obtain⟨o,es,ep,f1,f2, -⟩:=T.g;rw[e3]at f1;cases f1;rw[e6]at f2;cases f2
 ·rintro rfl
  rw[hideAll_none _ (Do (g_.mpr rfl))]at e7;cases e7
theorem Ci {w:Ew}{h:Fu}{mg:Str->m_ c_}{fa:d_}{o:Obj}{Zaa:H_}{nm:Str}(X:(KF w.params).In h)(g:h.Ns mainGlobals mg)(hq:(cB KC 849).map (·.qualname)=a_ nm)(QZ:mg "law"=a_ (.ref fa))(ho:h.get? fa=a_ o)(hd:o.data=.func Zaa)(LH:h.CodeRec Zaa.code nm):∀fd,cB KC 849=a_ fd->h.CodeRec fd.code fd.qualname:=λfd hf=>by
 have e:=mg_of (n:="law") (v:=.ref 849) X g (by kernel_rfl);rw[QZ]at e;cases e;have q:=ly (D:=KD w.params) hf;refine jI (j1 q) λoc od Lq q2=>?_
 ·have:=X _ _ q2
  rw[ho]at this;cases this;cases hd;rw[hf]at hq;cases hq;exact LH
theorem Cj {w:Ew}{Zca:i'}{mg mb:Str->m_ c_}{fa a:d_}{vs:b_ c_}{ns:b_ Int}{pp:Fc}{loose:b_ Str}{PM Pv:ExcName->m_ c_}{args:b_ WData}{cl:Str->m_ d_}
 (X:(KF w.params).In Zca.heap) (hT:TabsAt ([(823,819)]:b_ (Addr×Addr)) Zca.heap) (T:Top pp loose PM mg mb Zca.heap) (QZ:mg "law"=a_ (.ref fa)) (hg:Zca.gens= #[]) (hl:Zca.heap.IsList a vs.toArray) (hi:Hs vs ns) (hn:ns.length<=63) (hp:Rw.claim.post args (.bool e_) args=e_) (hr:∀a x,Rw.claim.raises a x=g') (QB:∀fd,cB KC 849=a_ fd->Zca.heap.CodeRec fd.code fd.qualname):
 wpAny (A_ Rw.prog w) callerA (call (.ref fa) [.ref a]) (λv s'=>GoodWG Rw.claim cl Pv args Zca (.ok (.ret v)) s') (λe s'=>GoodWG Rw.claim cl Pv args Zca (.error e) s') Zca:=by
 have hfa:fa=849:=by
  have e:=mg_of (n:="law") (v:=.ref 849) X T.g (by kernel_rfl);rw[QZ]at e;cases e;rfl
 subst hfa;have D:aQ w (Jv Zca.heap [(823,819)]) mg mb:=⟨ghost_K hT X (by kernel_rfl),ghost_ns hT T.g,ghost_ns hT T.b,(ghost_top hT T).nolimit,T.builtins,Cg hT T⟩;have OK:(Jv Zca.heap [(823,819)]).get? 819=h_:=hideAll_none _ (Do (g_.mpr rfl));have R:aN Rw.prog w (Jv Zca.heap [(823,819)]) (λb=>if b=819 then a_ (.tab h_)else h_) (Jv Zca.heap [(823,819)]).get? Zca.heap:=by
  have at_:∀ {b:d_} {o:O},(if b=819 then a_ (O.tab h_)else h_)=a_ o->b=819/\o=.tab h_:=λ{b o} e=>by
   split at e
   ·rename b=_=>q;cases e;exact⟨q,rfl⟩
   ·cases e
  refine⟨λb o e=>?_,λb o e=>of_hideAll _ e,λb o e q=>?_,λb o e=>e,λc o d e hd=>?_,λc o c' o' d e hd e' Ru=>?_⟩
  ·obtain⟨rfl,rfl⟩:=at_ e
   exact(hT _ (.head _)).2
  ·obtain⟨c,oc,e',hb⟩:=q
   obtain⟨rfl,rfl⟩:=at_ e';rcases hb with rfl|hb
   ·rw[OK]at e;cases e
   ·cases hb
  ·obtain⟨rfl,rfl⟩:=at_ e;cases hd
  ·obtain⟨rfl,rfl⟩:=at_ e;cases hd
 refine enter_call (kn_post hT hr (codeAny_mono (Cf (Zb9:=Zca) D R ⟨rfl,rfl,rfl⟩ ⟨λU=>rfl,by decide,by decide⟩ rfl (ghost_list hT hl) hi hn (z_ rfl) QB) λr s' h=>?_));obtain⟨rfl,Z',B',tb,R',⟨g1,g2,g3⟩,ht⟩:=h;refine⟨⟨.inl ⟨.bool e_,.bool e_,[],rfl,hr _,.bool _,hp,λU=>⟨.nil,λU q=>(nomatch q)⟩⟩,λb o e=>R'.get e,g3,g1.trans hg⟩,?_,trivial⟩;have m:=R'.om _ _ ht;cases tb with
 |none=>exact⟨_,m⟩
 |some t=>exact⟨_,m.1⟩
theorem J:PySem.Challenge.rw_qd0148_01.Holds:=by
 refine holds_law rt λrt=>?_;refine holds_open (r:=Rw) (q:=vw) (loose:=kN) (Xt:=XT) (XP:=XL vw []) (Yf:=Hook.obs Hk) (Ya:=Hook.val Hk) (YP:=Hook.says Hk) (N:=20000) du (Hook.of Hk) (Hook.keeps Hk) (λs e=>xl_of s (IT.mp e).1) XL.keeps (by rfl) (by rfl) (by rfl) (λs e=>recFacts_of (IT.mp e).2) (by rfl) (by first |assumption |decide+kernel) (by decide+kernel) ⟨rfl,rfl,rfl,rfl,rfl,by decide+kernel⟩ ?hw ?hc
 case hw=>w_witness2
 case hc=>
  intro w Zb9 Zca mg mb G Y fa o pm cd SP dV kV ho hd LH hD QZ hg args aba as XK Yc hrd hwl Ub;have X:=km_in_of Y;have hT8:=km_tabs_of Y;have T:=G.T;have QB:∀fd,cB KC 849=a_ fd->Zca.heap.CodeRec fd.code fd.qualname:=Ci X T.g (by kernel_rfl) QZ ho hd LH;clear ho hd LH hD G Y;have hT9:TabsAt ([(823,819)]:b_ (Addr×Addr)) Zca.heap:=Hc.mpr ⟨⟨codeHd_of_K (c:=823) (P:=819) X (by kernel_rfl),hT8 819 (.head _)⟩,λU h=>(nomatch h)⟩
  wrow_args XK Yc hrd hwl Ub
  (rename _=>htr;rename Not _=>J6;rename PySem.W.ReadsAllW _ _ _ _ _ _=>hRW;rename PyProof.Rows.IntsAre _ _=>hI;rename PySem.Reads _ _ _ _=>hR;rename PySem.W.Well _ _ _ _=>hW;rename PySem.ReadsAll _ _ _ _=>Tp;rename PySem.Heap.IsList _ _ _=>hL)
  exact Cj X hT9 T QZ hg hL hI (by omega) (by wrow_post) (λU U=>rfl) QB
end
end
end Mine.Internal
theorem PySem.Challenge.cw_qd0148_01_holds : PySem.Challenge.rw_qd0148_01.Holds :=
 Mine.Internal.J
