import PyProof.Rows.All
import Wide.All
import OpenK.AllK
import Wide.FinOn
import PyProof.TupleOfSeq
import KE.KLam
import KE.KRevIter
import PyProof.FString5
import KE.KLcTest
import KE.KSortTup
import PySem.Challenge.RW_pc0155_01
open PySem PySem.W PySem.W.X PySem.Spec PySem.Calls PyProof.Rows PySem.SeqAt
set_option Elab.async false
set_option maxRecDepth 100000
set_option maxHeartbeats 4000000
set_option linter.all false
set_option bootstrap.genMatcherCode false
set_option genSizeOf false
set_option genInjectivity false
set_option backward.match.sparseCases false
open _root_.Array renaming size_push->VF,getElem?_eq_some_iff->zd,getElem?_setIfInBounds_ne->zc,getElem?_eq_getElem->IG,toList_append->Vt,toArray_toList->Vk
open _root_.Bool renaming and_eq_true_iff->aM,and_eq_true->hG,eq_iff_iff->tK,or_eq_true->vR,xor_false->tX,xor_true->CU,or_eq_true_iff->CT,false_eq_true->pG,or_eq_false_iff->VN,or_false->I_,not_eq_true->VI,and_true->I8,false_ne_true->k6,not_eq_true'->q9,or_true->vZ
open _root_.Except.ok renaming inj->y7
open _root_.Int renaming ofNat_lt->e8,not_lt->Ke,toNat_of_nonneg->I5,toNat_natCast->CJ,natCast_nonneg->y6,ofNat_le->nN
open _root_.List renaming getElem?_map->eS,getElem?_append_left->dp,getElem?_eq_some_iff->aX,prefix_refl->yW,map_append->j_,prefix_append->Co,length_take->gL,append_nil->dM,map_take->Kf,take_of_length_le->k7,getElem?_take_of_lt->wc,getElem?_eq_getElem->dw,not_mem_nil->q_,mem_singleton->b_,mem_flatMap->eE,getElem_of_mem->tT,mem_of_getElem?->eP,mem_cons->bY,mem_append->hU,mem_map->pv,getElem?_append_right->iF,flatMap_append->yX,mem_append_left->vW,mem_append_right->fb,flatMap_cons->nM,flatMap_nil->T6,cons_append->vV,append_assoc->aH,nodup_append->jE,take_append_drop->pj,mem_take_iff_getElem->T5,mem_drop_iff_getElem->T4,nodup_cons->dE,mem_map_of_mem->pd,getElem?_set_self->d0,getElem?_set_ne->bW,set_append_right->vU,map_set->Cv,ext_getElem?->q5,flatMap_def->T3,length_set->ef,nil_sublist->T2,lookup_cons->f5,length_cons->qZ,getElem?_concat_length->bx,all_cons->o8,isEmpty_iff->g_,isPrefixOf_iff_prefix->TZ,drop_zero->Ck,map_cons->gO,find?_cons_of_neg->VW,contains_cons->CV,length_append->bz,findIdx?_cons->zh,find?_cons->Kb,findIdx?_eq_some_iff_getElem->zg,getElem_mem->CS,take_sublist->VQ,take_succ_cons->VO,any_cons->Ka,all_eq_true->iJ,contains_iff_mem->tW,size_toArray->ja,foldl_cons->VH,length_map->f7,dropLast_cons_cons->VG,map_nil->CO,map_fst_zip->CN,map_snd_zip->I6,drop_of_length_le->VD,filterMap_cons->CM,set_cons_zero->IZ,set_cons_succ->IY,length_singleton->zb,reverse_cons->wa,length_reverse->IU,getElem?_toArray->IP,getElem?_eq_none_iff->pC,length_range->IL,getElem_range->Vz,getElem?_zipWith->Vy,length_drop->IF,forIn_cons->IB,zip_nil_right->Vv,isEmpty_nil->Vu,getElem?_eq_none->v7,filterMap_cons_some->Vp,find?_some->Iz,drop_eq_nil_of_le->Vn,drop_eq_getElem_cons->y9,zip_append->Iw,nil_append->Iu,length_nil->tP,filter_cons->Iq,take_length->Ip,take_left'->mn,suffix_cons->ml,getElem?_cons_zero->yZ,set_append_left->q6,suffix_refl->Cz,set_set->pq,count_cons_self->Vj,map_reverse->Io,sum_reverse->Vh,reverse_append->Vg,flatten_append->Vf,reverse_singleton->Ve,flatten_singleton->Vd,length_take_le->Va,map_inj_left->T_,mem_of_find?_eq_some->T9,forall_mem_cons->vX,any_toArray->T8
open _root_.List.IsPrefix renaming trans->o_
open _root_.List.Nodup renaming sublist->VR
open _root_.List.Sublist renaming append->tM,refl->nK
open _root_.List.cons renaming injEq->Cq,inj->Ir
open _root_.Nat renaming not_lt->fG,le_refl->aG,lt_irrefl->iG,sub_self->jF,le_of_not_lt->Cy,eq_of_beq_eq_true->Ij,le_trans->ak,add_min_add_right->Ig,le_max_left->jD,le_max_right->jC,min_le_left->vT,min_le_right->tJ,le_of_succ_le_succ->tI,not_succ_le_zero->yT,lt_of_le_of_lt->e_,le_add_right->cL,zero_le->dc,le_succ->i_,add_right_comm->vS,le_add_left->j9,add_le_add_left->tY,succ_le_succ->cg,sub_add_cancel->pF,add_le_add_right->f9,ne_of_gt->kf,lt_trans->pE,lt_of_lt_of_le->dN,le_of_eq->eR,ne_of_lt->dG,min_eq_left->mq,min_eq_right->VE,not_le->I4,pos_of_ne_zero->VC,le_of_lt->fH,lt_succ_self->eQ,succ_ne_self->IJ,lt_succ_of_lt->pA,le_succ_of_le->jG,succ_pos->iI,add_sub_cancel_left->tQ,add_assoc->v9,add_sub_cancel'->IE,lt_add_of_pos_right->Iy,zero_add->fy,le_of_ble_eq_true->bh,pow_le_pow_right->q8,le_of_lt_succ->CF,ble_eq_true_of_le->y0,add_sub_cancel->Iv,add_comm->v5,not_lt_zero->hJ,lt_of_succ_lt_succ->iH,add_le_add->tO,pow_pos->Il,pow_succ->Ik,le_of_succ_le->vY,max_le->yY,lt_or_eq_of_le->Vc,lt_add_of_pos_left->Vb,ne_of_beq_eq_false->tN
open _root_.Nat.succ renaming inj->I7
open _root_.Ne renaming symm->nO
open _root_.Option renaming map_eq_some_iff->eO,bind_eq_some_iff->f6,map_eq_none_iff->IM,isNone_iff_eq_none->CG,bind_some->Vl,map_map->Vi
open _root_.Option.some renaming inj->aU,injEq->Kc
open _root_.Prod.mk renaming inj->eD
open _root_.PyProof.Rows renaming listUpdate_at->CD,get?_update_seq->It,size_push'->CB
open _root_.PySem renaming wpAny_items_nil->nJ,wpAny_items_cons->ka,wpAny_BinOp->yV,wpAny_isTrue_Compare1->Cu,wpAny_truthy_bool->o9,wpAny_bind->au,wpAny_standAt->mj,wpAny_holding->gM,wpAny_pure->a_,wpAny_Constant_int->Ii,wpAny_Constant_str->Ih,wpAny_Name->yU,wpAny_loadName_cell->Ct,wpAny_rule->Cm,strKind_is->zj,typeIs_str->zi,wpAny_mono->fI,wpAny_newObj_type->tU,wpAny_setField->ze,wpAny_field->jH,wpAny_execs_nil->pD,wpAny_execs_cons->kb,wpAny_storeName_local->I1,wpAny_Assign_Name->I0,plainObj_wpAny_Assign_Attribute->IX,codeAny_builtin->CK,wpAny_handled->IW,wpAny_throw->za,wpAny_specialOf->IV,wpAny_assign_Name->tS,codeAny_forLoop_any->IQ,wpAny_For->v_,wpAny_pyIter_list->IK,wpAny_pyIter_enum->II,codeAny_call_function->Vw,wpAny_newFunctionEnv_cells->ID,wpAny_call->y_,codeAny_mono->IC,builtinLookup_eq_fast->Vs,lookup_relabel_local->y8,wpAny_comprehension_free->Vm,sizeLine_eq->q7
open _root_.PySem.Around renaming frames_deeper->Vx,under_plainId->Vr
open _root_.PySem.F renaming slot_str_getitem->VV,slot_tuple_getitem->VU,slot_list_getitem->VT,slot_dict_getitem->VS,slot_str_join->CP,type_str_join->VM,slot_list_pop->VL,slot_dict_get->VK,plainAttrs_str->VJ,plain_list_iadd->Vq
open _root_.PySem.Heap renaming lt_size->cS,get?_push_of_some->bD,get?_push_size->gN,dictOf_iff->Kh,get?_update_self->kc,get?_update_ne->dq,get?_update_other->VA,get?_push_at->CI,size_push->CH,size_update->CC
open _root_.PySem.Heap.IsSliceOf renaming new->VB
open _root_.PySem.Heap.SameBut renaming update->tV
open _root_.PySem.IsL renaming update->I9
open _root_.PySem.Obj renaming isFreed_of_fields->CL,data_mapFields->wb,cls_mapFields->I3
open _root_.PySem.P renaming le_str->Vo
open _root_.PySem.SeqAt.RcNeAt renaming int_int->T1
open _root_.PySem.StrLaws renaming subAt_eq->VX
open _root_.PySem.W renaming nameX_L->tL,looks_findIn->CQ
open _root_.PySem.W.Fast renaming te8326940854005059898->T7
open _root_.PySem.W.Looks renaming of_pure->zf
namespace Mine
theorem opq {P : Prop} (h : ∀ Q : Prop, (P → Q) → Q) : P := h P id
theorem ck {α : Type u} {a : α} {P : Prop} (h : none = some a) : P := nomatch h
theorem Mc {α : Type u} {a : α} {P : Prop} (h : some a = none) : P := nomatch h
@[elab_as_elim] theorem rwl {α : Sort u} {a b : α} {motive : α → Prop} (h : a = b) (x : motive b) : motive a := h ▸ x
theorem e02{aN bg:Prop}{Q:Prop}(h:aN∧bg)(r:aN→bg→Q):Q:=r h.1 h.2
theorem e03{aN bg bK:Prop}{Q:Prop}(h:aN∧bg∧bK)(r:aN→bg→bK→Q):Q:=r h.1 h.2.1 h.2.2
theorem e04{aN bg bK cM:Prop}{Q:Prop}(h:aN∧bg∧bK∧cM)(r:aN→bg→bK→cM→Q):Q:=r h.1 h.2.1 h.2.2.1 h.2.2.2
theorem e05{aN bg bK cM eX:Prop}{Q:Prop}(h:aN∧bg∧bK∧cM∧eX)(r:aN→bg→bK→cM→eX→Q):Q:=r h.1 h.2.1 h.2.2.1 h.2.2.2.1 h.2.2.2.2
theorem e06{aN bg bK cM eX lF:Prop}{Q:Prop}(h:aN∧bg∧bK∧cM∧eX∧lF)(r:aN→bg→bK→cM→eX→lF→Q):Q:=r h.1 h.2.1 h.2.2.1 h.2.2.2.1 h.2.2.2.2.1 h.2.2.2.2.2
theorem e11{bV:Sort _}{aN:bV→Prop}{Q:Prop}(h:∃ a,aN a)(r:∀ a,aN a→Q):Q:=h.elim r
theorem e12{bV:Sort _}{aN bg:bV→Prop}{Q:Prop}(h:∃ a,aN a∧bg a)(r:∀ a,aN a→bg a→Q):Q:=h.elim fun a x=>e02 x (r a)
theorem e13{bV:Sort _}{aN bg bK:bV→Prop}{Q:Prop}(h:∃ a,aN a∧bg a∧bK a)(r:∀ a,aN a→bg a→bK a→Q):Q:=h.elim fun a x=>e03 x (r a)
theorem e14{bV:Sort _}{aN bg bK cM:bV→Prop}{Q:Prop}(h:∃ a,aN a∧bg a∧bK a∧cM a)(r:∀ a,aN a→bg a→bK a→cM a→Q):Q:=h.elim fun a x=>e04 x (r a)
theorem e15{bV:Sort _}{aN bg bK cM eX:bV→Prop}{Q:Prop}(h:∃ a,aN a∧bg a∧bK a∧cM a∧eX a)(r:∀ a,aN a→bg a→bK a→cM a→eX a→Q):Q:=h.elim fun a x=>e05 x (r a)
theorem e16{bV:Sort _}{aN bg bK cM eX lF:bV→Prop}{Q:Prop}(h:∃ a,aN a∧bg a∧bK a∧cM a∧eX a∧lF a)(r:∀ a,aN a→bg a→bK a→cM a→eX a→lF a→Q):Q:=h.elim fun a x=>e06 x (r a)
theorem e21{bV du:Sort _}{aN:bV→du→Prop}{Q:Prop}(h:∃ a b,aN a b)(r:∀ a b,aN a b→Q):Q:=h.elim fun a x=>e11 x (r a)
theorem e22{bV du:Sort _}{aN bg:bV→du→Prop}{Q:Prop}(h:∃ a b,aN a b∧bg a b)(r:∀ a b,aN a b→bg a b→Q):Q:=h.elim fun a x=>e12 x (r a)
theorem e23{bV du:Sort _}{aN bg bK:bV→du→Prop}{Q:Prop}(h:∃ a b,aN a b∧bg a b∧bK a b)(r:∀ a b,aN a b→bg a b→bK a b→Q):Q:=h.elim fun a x=>e13 x (r a)
theorem e24{bV du:Sort _}{aN bg bK cM:bV→du→Prop}{Q:Prop}(h:∃ a b,aN a b∧bg a b∧bK a b∧cM a b)(r:∀ a b,aN a b→bg a b→bK a b→cM a b→Q):Q:=h.elim fun a x=>e14 x (r a)
theorem e25{bV du:Sort _}{aN bg bK cM eX:bV→du→Prop}{Q:Prop}(h:∃ a b,aN a b∧bg a b∧bK a b∧cM a b∧eX a b)(r:∀ a b,aN a b→bg a b→bK a b→cM a b→eX a b→Q):Q:=h.elim fun a x=>e15 x (r a)
theorem e26{bV du:Sort _}{aN bg bK cM eX lF:bV→du→Prop}{Q:Prop}(h:∃ a b,aN a b∧bg a b∧bK a b∧cM a b∧eX a b∧lF a b)(r:∀ a b,aN a b→bg a b→bK a b→cM a b→eX a b→lF a b→Q):Q:=h.elim fun a x=>e16 x (r a)
theorem e31{bV du gf:Sort _}{aN:bV→du→gf→Prop}{Q:Prop}(h:∃ a b c,aN a b c)(r:∀ a b c,aN a b c→Q):Q:=h.elim fun a x=>e21 x (r a)
theorem e32{bV du gf:Sort _}{aN bg:bV→du→gf→Prop}{Q:Prop}(h:∃ a b c,aN a b c∧bg a b c)(r:∀ a b c,aN a b c→bg a b c→Q):Q:=h.elim fun a x=>e22 x (r a)
theorem e33{bV du gf:Sort _}{aN bg bK:bV→du→gf→Prop}{Q:Prop}(h:∃ a b c,aN a b c∧bg a b c∧bK a b c)(r:∀ a b c,aN a b c→bg a b c→bK a b c→Q):Q:=h.elim fun a x=>e23 x (r a)
theorem e34{bV du gf:Sort _}{aN bg bK cM:bV→du→gf→Prop}{Q:Prop}(h:∃ a b c,aN a b c∧bg a b c∧bK a b c∧cM a b c)(r:∀ a b c,aN a b c→bg a b c→bK a b c→cM a b c→Q):Q:=h.elim fun a x=>e24 x (r a)
theorem e35{bV du gf:Sort _}{aN bg bK cM eX:bV→du→gf→Prop}{Q:Prop}(h:∃ a b c,aN a b c∧bg a b c∧bK a b c∧cM a b c∧eX a b c)(r:∀ a b c,aN a b c→bg a b c→bK a b c→cM a b c→eX a b c→Q):Q:=h.elim fun a x=>e25 x (r a)
theorem e36{bV du gf:Sort _}{aN bg bK cM eX lF:bV→du→gf→Prop}{Q:Prop}(h:∃ a b c,aN a b c∧bg a b c∧bK a b c∧cM a b c∧eX a b c∧lF a b c)(r:∀ a b c,aN a b c→bg a b c→bK a b c→cM a b c→eX a b c→lF a b c→Q):Q:=h.elim fun a x=>e26 x (r a)
theorem e41{bV du gf rK:Sort _}{aN:bV→du→gf→rK→Prop}{Q:Prop}(h:∃ a b c d,aN a b c d)(r:∀ a b c d,aN a b c d→Q):Q:=h.elim fun a x=>e31 x (r a)
theorem e51{bV du gf rK wq:Sort _}{aN:bV→du→gf→rK→wq→Prop}{Q:Prop}(h:∃ a b c d e,aN a b c d e)(r:∀ a b c d e,aN a b c d e→Q):Q:=h.elim fun a x=>e41 x (r a)
theorem e61{bV du gf rK wq De:Sort _}{aN:bV→du→gf→rK→wq→De→Prop}{Q:Prop}(h:∃ a b c d e f,aN a b c d e f)(r:∀ a b c d e f,aN a b c d e f→Q):Q:=h.elim fun a x=>e51 x (r a)
theorem e71{bV du gf rK wq De Wg:Sort _}{aN:bV→du→gf→rK→wq→De→Wg→Prop}{Q:Prop}(h:∃ a b c d e f g,aN a b c d e f g)(r:∀ a b c d e f g,aN a b c d e f g→Q):Q:=h.elim fun a x=>e61 x (r a)
def ag0 (a : List Lean.Syntax) (st : List Lean.Syntax) (w : String) : List Lean.Syntax :=
  let r := (w.drop 1).toString
  let n := w.front.toNat
  if n == 39 then .atom .none r :: st
  else if n == 35 then Lean.mkIdent r.toName :: st
  else if n == 36 then a.getD r.toNat! .missing :: st
  else .node .none r.toName (st.take (n - 48)).reverse.toArray :: st.drop (n - 48)
def Ta (a : List Lean.Syntax) : List String → List Lean.Syntax → Lean.Syntax
  | [], st => st.headD .missing
  | w :: ws, st => Ta a ws (ag0 a st w)
def S_ : List String → String → String
  | a :: b :: r, t => S_ r (t.replace a b)
  | _, t => t
def gI (t : String) (a : List Lean.Syntax) : Lean.Syntax :=
  Ta a ((S_ ("ALT;SEQ 2group;SEQ;1T.tacticSeq1Indented 1T.tacticSeq;HOLE;'? '_ 2E.syntheticHole;LP;'( # 1hygieneInfo 2E.hygienicLParen;RP;') 3E.paren;T.;Lean.Parser.Tactic.;E.;Lean.Parser.Term.".splitOn ";") t).splitOn " ") []
end Mine
local macro_rules (kind := Lean.Parser.Tactic.cases)
| s =>
  let h := s[1][0][1]
  if h.isIdent && s[1].getNumArgs == 1 && s[1][0][0].isNone && s[2].isNone then
    let m := fun (l : String) p => (l.splitOn " ").map fun n => Mine.gI p [h, Lean.mkIdent n.toName, s[3]]
    let as := m "Mine.V.casesOn List.casesOn Option.casesOn Nat.casesOn Bool.casesOn PySem.Expr.casesOn PySem.Stmt.casesOn PySem.Const.casesOn Mine.Cell.casesOn Mine.Loc.casesOn Mine.Tok.casesOn Mine.Cl.casesOn Mine.Fl.casesOn Except.casesOn Mine.E.casesOn Mine.C.casesOn Mine.D.casesOn Mine.Lf.casesOn Mine.PE.casesOn PySem.Operator.casesOn PySem.CmpOp.casesOn PySem.Value.casesOn" "'| 'induction 0null $0 2T.elimTarget 1null 'using $1 2null 0null $2 5T.induction 1null ALT" ++ m "_" "'| 'cases 0null LP $0 RP 2T.elimTarget 1null 0null $2 4T.cases 1null ALT"
    let as := if s[3].isNone then Mine.gI "'| '( 'guard_hyp $0 ': 1Lean.Parser.colonR 1Lean.Parser.colon '_ 1E.hole '= '_ 1E.hole 3«term_=_» 2null 0null 4T.guardHyp '; $1 3null SEQ ') 3T.paren 1null ALT" [h, .node .none `Lean.Parser.Tactic.first #[.atom .none "first", Lean.mkNullNode (m "Mine.nosm Mine.smno" "'| 'exact $1 $0 1null 2E.app 2T.exact 1null ALT" ++ m "Bool.ctorIdx List.ctorIdx Except.ctorIdx Mine.V.ctorIdx PySem.Value.ctorIdx" "'| 'exact #False.elim #noConfusion_of_Nat $1 $0 2null 2E.app 1null 2E.app 2T.exact 1null ALT" ++ m "_" "'| 'subst $0 1null 2T.subst 1null ALT" ++ m "_" "'| 'replace $0 1E.letId 0null 0null ':= #Option.some.inj $0 1null 2E.app 5E.letIdDecl 1E.letDecl 2T.replace '; 'subst $0 1null 2T.subst 3null ALT" ++ m "_" "'| 'cases 0null LP $0 RP 2T.elimTarget 1null 0null 0null 4T.cases 1null ALT").toArray]] :: as else as
    pure (.node .none `Lean.Parser.Tactic.first #[.atom .none "first", Lean.mkNullNode as.toArray])
  else Lean.Macro.throwUnsupported
local macro_rules (kind := Lean.Parser.Tactic.rwSeq)
| s =>
  let l := s[3][0][1]
  let at_ := l.isOfKind `Lean.Parser.Tactic.locationHyp && l[0].getNumArgs == 1
  if s[3].isNone || at_ then
    let ts := s[2][1].getSepArgs.toList.map fun r =>
      let b := Mine.gI "LP $0 '.. 1E.ellipsis 1null 2E.app RP" [r[1]]
      let w := fun x => if r[0].isNone then x else Mine.gI "LP #Eq.symm $0 1null 2E.app RP" [x]
      Mine.gI ((if at_ then "'first '| 'refine LP HOLE ': '_ 1E.hole '→ '_ 1E.hole 3E.arrow 1null ') 5E.typeAscription LP $0 '▸ $4 1null 3E.subst RP 1null 2E.app 2T.refine '; 'clear $4 1null 2T.clear '; 'intro $4 1null 2T.intro 5null ALT '| 'refine LP HOLE ': '_ 1E.hole '→ '_ 1E.hole 3E.arrow 1null ') 5E.typeAscription LP $1 '▸ $4 1null 3E.subst RP 1null 2E.app 2T.refine '; 'clear $4 1null 2T.clear '; 'intro $4 1null 2T.intro 5null ALT"
        else "'first '| 'refine #Mine.rwl $0 HOLE 2null 2E.app 2T.refine 1null ALT '| 'refine #Mine.rwl $1 HOLE 2null 2E.app 2T.refine 1null ALT") ++ " '| 'rewrite 0null 1T.optConfig '[ $2 1null '] 3T.rwRuleSeq $3 4T.rewriteSeq 1null ALT 3null 2T.first") [w r[1], w b, r, s[3], l[0][0]]
    pure (Mine.gI "'( $0 SEQ ') 3T.paren" [Lean.mkNullNode (ts.flatMap (fun t => [t, .atom .none ";"]) ++ [Mine.gI "'try 'with_reducible 'rfl 1T.tacticRfl 1null SEQ 2T.withReducible 1null SEQ 2T.tacticTry_" []]).toArray])
  else Lean.Macro.throwUnsupported
local macro_rules (kind := Lean.Parser.Tactic.tacticHave__)
| s =>
  let d := s[2][0]
  if d.isOfKind `Lean.Parser.Term.letIdDecl && d[4].isIdent && d[0][0].isIdent && d[1].isNone && !d[2].isNone then
    let r := fun x => "'( 'refine LP HOLE ': $0 '→ '_ 1E.hole 3E.arrow 1null ') 5E.typeAscription $1 1null 2E.app 2T.refine '; " ++ x
    pure (Mine.gI ("'first '| " ++ (if d[4].getId == d[0][0].getId then r "'clear $1 1null 2T.clear '; 'intro $2 1null 2T.intro 5null SEQ ') 3T.paren 1null ALT '| " else "'fail 0null 2T.fail 1null ALT '| ") ++ r "'intro $2 1null 2T.intro 3null SEQ ') 3T.paren 1null ALT 2null 2T.first") [d[2][0][1], d[4], d[0][0]])
  else Lean.Macro.throwUnsupported
local macro_rules (kind := Lean.Parser.Tactic.show)
| s =>
  pure (Mine.gI "'first '| 'refine LP HOLE ': $0 1null ') 5E.typeAscription 2T.refine 1null ALT '| 'change $0 0null 3T.change 1null ALT 2null 2T.first" [s[1]])
local macro_rules (kind := Lean.Parser.Tactic.obtain)
| s =>
  let p := s[1][0][0][0]
  let e := s[3][1][0]
  if s[2].isNone && p.isOfKind `Lean.Parser.Tactic.rcasesPat.tuple then
    let ps := p[1].getSepArgs.toList.map fun x => x[0]
    let n := ps.length
    let q := ps.map fun m => if m[0].getNumArgs == 1 then Mine.gI "$0 1T.rintroPat.one" [m[0][0]] else Mine.gI "'( $0 0null 2T.rcasesPatLo ') 3T.rcasesPat.paren 1T.rintroPat.one" [m]
    let c := "HOLE 2null 2E.app 2T.refine '; " ++ (if e.isIdent then "'try 'clear $1 1null 2T.clear 1null SEQ 2T.tacticTry_ " else "'skip 1T.skip ") ++ "'; 'rintro $2 0null 3T.rintro "
    let g := fun j k =>
      let d := ["'| 'refine $0 $1 ", c]
      let w := Lean.mkIdent (s!"Mine.e{j}{k}").toName
      if j + k == n then Mine.gI (String.join d ++ "5null ALT") [w, e, Lean.mkNullNode q.toArray]
      else
        let m := j + k - 1
        Mine.gI (String.join d ++ "'; 'obtain '⟨ $3 '⟩ 3T.rcasesPat.tuple 1null 1T.rcasesPatMed 1null 0null ':= #h_9 1null 2null 4T.obtain 7null ALT") [w, e, Lean.mkNullNode (q.take m ++ [Mine.gI "#h_9 1T.rcasesPat.one 1T.rintroPat.one" []]).toArray, Lean.mkNullNode (((ps.drop m).flatMap fun x => [.atom .none ",", Mine.gI "$0 0null 2T.rcasesPatLo" [x]]).drop 1).toArray]
    let as := if n < 2 then [] else ((List.range n).filter fun j => j ≤ 3 && n - j ≤ 6 || j + 1 == n && j ≤ 7).map (fun j => g j (n - j)) ++ ([7, 6, 5, 4].filter (· + 1 < n)).map (g · 1) ++ ([0, 1, 2, 3].filter (· + 6 < n)).map (g · 6)
    let o := if 5 ≤ n then "'| 'refine #Mine.opq 'fun '_ 1E.hole #k_9 2null 0null '=> HOLE 4E.basicFun 2E.fun 1null 2E.app 2T.refine '; R '; 'all_goals '( 'refine #k_9 HOLE 1null 2E.app 2T.refine '; 'clear #k_9 1null 2T.clear 3null SEQ ') 3T.paren 1null SEQ 2T.allGoals 5null ALT" else "'| R 1null ALT"
    pure (Mine.gI "'first $0 2T.first" [Lean.mkNullNode (as ++ [Mine.gI (o.replace "R" "'rcases 0null $0 2T.elimTarget 1null 'with $1 0null 2T.rcasesPatLo 2null 3T.rcases") [e, s[1][0]], Mine.gI "'| 'rcases 0null $0 2T.elimTarget 1null 'with $1 0null 2T.rcasesPatLo 2null 3T.rcases 1null ALT" [e, s[1][0]]]).toArray])
  else Lean.Macro.throwUnsupported
local macro_rules
| `(⋯) => `(by decide)
namespace Mine
noncomputable section
abbrev VP:=Value->Shared->Prop
theorem nf{P:Prop}(h:false=true):P:=nomatch h

inductive Cl where
 |token|reader|fu
 deriving DecidableEq
inductive Bi where
 |len|abs|min|sum|list|tuple|str|rT|nV|nW|pS|cX|lP|dictGet
 deriving DecidableEq
inductive Dd where
 |add|sub|mul|fdiv|mod|pow
inductive zu where
 |eq|ne|lt|le|gt|ge|isIn|ig|dR|sM
inductive Qk where
 |v|w|u|m|x|t|s
 deriving DecidableEq
inductive Kd where
 |word|num|sign
 deriving DecidableEq
inductive Rs where
 |eq|lt|gt|le|ge|ne
 deriving DecidableEq
inductive Sd where
 |A|n5|m5|Z|nB|pr
 deriving DecidableEq
inductive Cw where
 |rq|rI|rJ
inductive Sw where
 |ri|rA|hV
inductive V where
 |none
 |bool (b:Bool)
 |int (i:Int)
 |str (l:List Nat)
 |tup (l:List V)
 |obj (c:Cl) (l:List V)
 |ref (i:Nat)
 |fn (a:Nat)
 |bi (n:Bi)
 |cz (ks:List (List Nat)) (vs:List V)
 |gZ (ks:List Int) (vs:List V)
 |eC (l:List V)
 |lam
 |fE
inductive Cell where
 |lst (l:List V)
 |ins (c:Cl) (l:List V)
 |exc
 |raw
 |dead
 |tab
abbrev LC:=List Cell
set_option genCtorIdx false
structure Nm where
 i:Nat
 deriving DecidableEq
noncomputable def bT(i:Nat):Nm:=⟨i⟩
def Nm.kind:Nm:=bT 0
def Nm.worth:Nm:=bT 1
def Nm.at_:Nm:=bT 2
def Nm.AV:Nm:=bT 3
def Nm.reader:Nm:=bT 4
def Nm.isNamed:Nm:=bT 5
def Nm.depth:Nm:=bT 6
def Nm.last:Nm:=bT 7
def Nm.tokens:Nm:=bT 8
def Nm.named:Nm:=bT 9
def Nm.peek:Nm:=bT 10
def Nm.fault:Nm:=bT 11
def Nm.take:Nm:=bT 12
def Nm.gU:Nm:=bT 13
def Nm.isWord:Nm:=bT 14
def Nm.skip:Nm:=bT 15
def Nm.oneOf:Nm:=bT 16
def Nm.word:Nm:=bT 17
def Nm.isName:Nm:=bT 18
def Nm.name:Nm:=bT 19
def Nm.isSign:Nm:=bT 20
def Nm.lC:Nm:=bT 21
def Nm.needSign:Nm:=bT 22
def Nm.isNumber:Nm:=bT 23
def Nm.signed:Nm:=bT 24
def Nm.octets:Nm:=bT 25
def Nm.either:Nm:=bT 26
def Nm.both:Nm:=bT 27
def Nm.turned:Nm:=bT 28
def Nm.single:Nm:=bT 29
def Nm.rL:Nm:=bT 30
def Nm.u3:Nm:=bT 31
def Nm.rR:Nm:=bT 32
def Nm.zT:Nm:=bT 33
def Nm.Af:Nm:=bT 34
def Nm.se:Nm:=bT 35
def Nm.zU:Nm:=bT 36
def Nm.upper:Nm:=bT 37
def Nm.split:Nm:=bT 38
def Nm.join:Nm:=bT 39
def Nm.index:Nm:=bT 40
def Nm.append:Nm:=bT 41
def Nm.pop:Nm:=bT 42
def Nm.get:Nm:=bT 43
noncomputable def nmT:List Str:=[Str.ofString "kind",Str.ofString "worth",Str.ofString "at",Str.ofString "is_in_a",Str.ofString "reader",Str.ofString "is_named",Str.ofString "depth",Str.ofString "last",Str.ofString "tokens",Str.ofString "named",Str.ofString "peek",Str.ofString "fault",Str.ofString "take",Str.ofString "is_kind",Str.ofString "is_word",Str.ofString "skip",Str.ofString "one_of",Str.ofString "word",Str.ofString "is_name",Str.ofString "name",Str.ofString "is_sign",Str.ofString "skip_sign",Str.ofString "need_sign",Str.ofString "is_number",Str.ofString "signed",Str.ofString "octets",Str.ofString "either",Str.ofString "both",Str.ofString "turned",Str.ofString "single",Str.ofString "unbracketed",Str.ofString "in_brackets",Str.ofString "subject_of_last",Str.ofString "sign_of_last",Str.ofString "predicate",Str.ofString "relation",Str.ofString "sign_here",Str.ofString "upper",Str.ofString "split",Str.ofString "join",Str.ofString "index",Str.ofString "append",Str.ofString "pop",Str.ofString "get"]
noncomputable def Nm.s(n:Nm):Str:=nmT.getD n.i ⟨#[]⟩
noncomputable def Bi.v:Bi->Value
 |.len=>.builtin "len"|.abs=>.builtin "abs"|.min=>.builtin "min"|.sum=>.builtin "sum"|.list=>.type "list"|.tuple=>.type "tuple"|.str=>.type "str"
 |.rT=>.builtin "str.upper"|.nV=>.builtin "str.split"|.nW=>.builtin "str.join"|.pS=>.builtin "str.index"
 |.cX=>.builtin "list.append"|.lP=>.builtin "list.pop"|.dictGet=>.builtin "dict.get"
theorem V.int.inj(h:V.int a=.int b):a=b:=V.noConfusion h id
theorem V.str.inj(h:V.str a=.str b):a=b:=V.noConfusion h id
theorem V.tup.inj(h:V.tup a=.tup b):a=b:=V.noConfusion h id
theorem V.ref.inj(h:V.ref a=.ref b):a=b:=V.noConfusion h id
noncomputable abbrev S(l:List Nat):Str:=⟨l.toArray⟩
abbrev Im:=Addr->Option Obj
inductive Loc where
 |lst (a:Addr)
 |ins (a d:Addr)
 |exc (e:Addr)
 |raw (a:Addr) (o:Obj)
 |dead (a:Addr)
 |tab (a:Addr) (ps:Array Value) (pos:Pos) (q:Str)
noncomputable def Loc.ctorIdx(x:Loc):Nat:=x.casesOn (fun _=>0) (fun _ _=>1) (fun _=>2) (fun _ _=>3) (fun _=>4) fun _ _ _ _=>5
noncomputable def Loc.addr:Loc->Addr
 |.lst a=>a
 |.ins a _=>a
 |.exc e=>e
 |.raw a _=>a
 |.dead a=>a
 |.tab a _ _ _=>a
noncomputable def Loc.aK:Loc->List Addr
 |.lst a=>[a]
 |.ins _ d=>[d]
 |.exc e=>[e]
 |.raw a _=>[a]
 |.dead _=>[]
 |.tab a _ _ _=>[a]
def cK(U:List Loc):List Addr:=U.flatMap Loc.aK
noncomputable def bG:Cl->Addr
 |.token=>164
 |.fu=>477
 |.reader=>719
noncomputable abbrev d_:Addr:=72
noncomputable def ec:Cl->List Nm
 |.token=>[.kind,.worth,.at_,.AV]
 |.fu=>[.reader,.isNamed,.depth,.last]
 |.reader=>[.tokens,.at_,.named]
structure GI where
 prog:Program
 w:World
 H:Heap
 gens:Array GenState
 os:OsState
 zq:Im->Addr->Prop
 tabs:List Loc
 codeOk:Scope->Value->Str->Prop
 K:Frag
 Oo:∀ {I I':Im}{a:Addr},(∀ b o,I b=some o->I' b=some o)->zq I a->zq I' a
inductive mu(I:Im)(a:Addr)(vs:List Value):Prop
 |mk (o n:_) (h1:I a=some o) (h2:o.cls=.type "tuple") (h3:o.data=.seq vs.toArray n)
noncomputable def fK:List Nm->List Value->List DictEntry->Prop
 |[],[],[]=>True
 |nm :: ns,w :: ws,e :: es=>(∃ tk,e.key=.str nm.s tk)/\e.val=w/\fK ns ws es
 |_,_,_=>False
theorem vC:∀ {es:List DictEntry},¬fK (nm :: ns) [] es
 |[],h=>h
 |_ :: _,h=>h
theorem BQ:∀ {es:List DictEntry},¬fK [] (w :: ws) es
 |[],h=>h
 |_ :: _,h=>h
theorem Hl:fK (nm :: ns) (w :: ws) (e :: es)=((∃ tk,e.key=.str nm.s tk)/\e.val=w/\fK ns ws es):=rfl
mutual
noncomputable def ao(G:GI)(I:Im)(U:List Loc):V->Value->Prop
 |.none,v=>v=.none
 |.bool b,v=>v=.bool b
 |.int i,v=>∃ t,v=.int i t
 |.str l,v=>∃ t,v=.str (S l) t
 |.tup l,v=>∃ a vs,v=.ref a/\mu I a vs/\av G I U l vs
 |.obj c l,v=>∃ a d vs es n,v=.ref a/\I a=some (instObj (bG c) d)/\I d=some (dictOf es n)/\fK (ec c) vs es/\av G I U l vs
 |.ref i,v=>∃ l,U[i]?=some l/\v=.ref l.addr
 |.fn a,v=>v=.ref a
 |.bi n,v=>v=n.v
 |.cz ks l,v=>∃ a o bq,v=.ref a/\I a=some o/\(a==sysModules)=false/\o.IsDictOf (strKind G.prog G.w) bq/\bq.map (·.1)=ks.map S/\av G I U l (bq.map (·.2))
 |.gZ ks l,v=>∃ a o bq,v=.ref a/\I a=some o/\(a==sysModules)=false/\o.IsDictOf (intKind G.prog G.w) bq/\bq.map (·.1)=ks/\av G I U l (bq.map (·.2))
 |.eC l,v=>∃ a vs n,v=.ref a/\I a=some (listOf vs.toArray n)/\av G I U l vs
 |.lam,v=>∃ a,v=.ref a/\G.zq I a
 |.fE,_=>True
noncomputable def av(G:GI)(I:Im)(U:List Loc):List V->List Value->Prop
 |[],vs=>vs=[]
 |x :: r,vs=>∃ v ws,vs=v :: ws/\ao G I U x v/\av G I U r ws
end
theorem gm:av G I U [] vs=(vs=[]):=rfl
theorem gn:av G I U (x :: r) vs=∃ v ws,vs=v :: ws/\ao G I U x v/\av G I U r ws:=rfl
theorem wZ(h:ao G I U x v):av G I U [x] [v]:=Exists.intro v ⟨[],rfl,h,rfl⟩
theorem Ek(h:ao G I U x v)(h':ao G I U y u):av G I U [x,y] [v,u]:=Exists.intro v ⟨[u],rfl,h,wZ h'⟩
def aC(I I':Im):Prop:=∀ a o,I a=some o->I' a=some o
theorem aC.refl(I:Im):aC I I:=fun _ _ e=>e
theorem aC.trans(x:aC I I')(y:aC I' I''):aC I I'':=fun a o e=>y a o (x a o e)
theorem mu.mono(h:aC I I'):mu I a vs->mu I' a vs:=fun ⟨o,n,e,r,q⟩=>⟨o,n,h a o e,r,q⟩
def fz(U aT:List Loc):Prop:=U.map Loc.addr<+:aT.map Loc.addr
theorem fz.get{U aT:List Loc}(h:fz U aT){i:Nat}{l:Loc}(e:U[i]?=some l):∃ l',aT[i]?=some l'/\l'.addr=l.addr:=by
 obtain⟨t,ht⟩:=h;have e1:(U.map Loc.addr)[i]?=some l.addr:=by rw[eS,e];rfl
 have e2:(aT.map Loc.addr)[i]?=some l.addr:=by
  rw[<-ht,dp (aX.mp e1).1];exact e1
 rw[eS]at e2;exact eO.mp e2
structure aA(U aT:List Loc):Prop where
 ad:fz U aT
 raw:∀ (i:Nat) (a:Addr) (o:Obj),U[i]?=some (.raw a o)->aT[i]?=some (.raw a o)
theorem aA.refl(U:List Loc):aA U U:=⟨yW _,fun _ _ _ h=>h⟩
theorem aA.trans(x:aA a b)(y:aA b c):aA a c:=⟨o_ x.ad y.ad,fun i p o h=>y.raw i p o (x.raw i p o h)⟩
theorem aA.app(a b:List Loc):aA a (a++b):=⟨by unfold fz;rw[j_];exact Co _ _,fun i p o h=>by
 rw[dp (aX.mp h).1];exact h⟩
theorem aA.len(x:aA a b):a.length<=b.length:=by
 have:=List.IsPrefix.length_le x.ad;simpa using this
theorem aA.get{U aT:List Loc}(h:aA U aT){i:Nat}{l:Loc}(e:U[i]?=some l):∃ l',aT[i]?=some l'/\l'.addr=l.addr:=h.ad.get e
theorem aA.take(h:aA U aT):aA U (aT.take U.length)/\(aT.take U.length).length=U.length:=by
 have hl:=h.len;refine⟨⟨?_,fun i a o e=>?_⟩,by rw[gL];lia⟩
 ·obtain⟨t,ht⟩:=h.ad;refine⟨[],?_⟩;rw[dM,Kf,<-ht,List.take_append_of_le_length (by simp),k7 (by simp)]
 ·rw[wc (aX.mp e).1];exact h.raw i a o e
mutual
theorem ao.cV{G:GI}{I I':Im}{U aT:List Loc}(h:aC I I')(hp:fz U aT):∀ {x:V}{v:Value},ao G I U x v->ao G I' aT x v
 |.none,_=>fun e=>e
 |.bool _,_=>fun e=>e
 |.int _,_=>fun e=>e
 |.str _,_=>fun e=>e
 |.tup l,v=>fun e=>by
  obtain⟨a,vs,rfl,ht,hr⟩:=e;exact Exists.intro a ⟨vs,rfl,ht.mono h,av.cV h hp hr⟩
 |.obj c l,v=>fun e=>by
  obtain⟨a,d,vs,es,n,rfl,h1,h2,h3,hr⟩:=e;exact Exists.intro a ⟨d,vs,es,n,rfl,h _ _ h1,h _ _ h2,h3,av.cV h hp hr⟩
 |.ref i,v=>fun e=>by
  obtain⟨l,hl,rfl⟩:=e;obtain⟨l',h1,h2⟩:=hp.get hl;exact⟨l',h1,by rw[h2]⟩
 |.fn _,_=>fun e=>e
 |.bi _,_=>fun e=>e
 |.cz ks l,v=>fun e=>by
  obtain⟨a,o,bq,rfl,h1,h2,h3,h4,h5⟩:=e;exact Exists.intro a ⟨o,bq,rfl,h _ _ h1,h2,h3,h4,av.cV h hp h5⟩
 |.gZ ks l,v=>fun e=>by
  obtain⟨a,o,bq,rfl,h1,h2,h3,h4,h5⟩:=e;exact Exists.intro a ⟨o,bq,rfl,h _ _ h1,h2,h3,h4,av.cV h hp h5⟩
 |.eC l,v=>fun e=>by
  obtain⟨a,vs,n,rfl,h1,h2⟩:=e;exact Exists.intro a ⟨vs,n,rfl,h _ _ h1,av.cV h hp h2⟩
 |.lam,v=>fun e=>by
  obtain⟨a,rfl,hl⟩:=e;exact Exists.intro a ⟨rfl,G.Oo h hl⟩
 |.fE,_=>fun _=>True.intro
theorem av.cV(h:aC I I')(hp:fz U aT):∀ {l:List V}{vs:List Value},av G I U l vs->av G I' aT l vs
 |[],_=>fun e=>e
 |x :: r,vs=>fun e=>by
  obtain⟨v,ws,rfl,h1,h2⟩:=e;exact Exists.intro v ⟨ws,rfl,ao.cV h hp h1,av.cV h hp h2⟩
end
theorem ao.mono(h:aC I I')(hp:aA U aT)(r:ao G I U x v):ao G I' aT x v:=r.cV h hp.ad
theorem av.mono(h:aC I I')(hp:aA U aT)(r:av G I U x v):av G I' aT x v:=r.cV h hp.ad
mutual
noncomputable def low(k:Nat):V->Bool
 |.ref i=>decide (i<k)
 |.tup l=>lows k l
 |.obj _ l=>lows k l
 |.cz _ l=>lows k l
 |.gZ _ l=>lows k l
 |.eC l=>lows k l
 |_=>true
noncomputable def lows(k:Nat):List V->Bool
 |[]=>true
 |x :: r=>low k x&&lows k r
end
theorem cN:lows k (x :: r)=(low k x&&lows k r):=rfl
mutual
theorem ao.cut{G:GI}{I:Im}{U aT:List Loc}(hp:aA U aT):∀ {x:V}{v:Value},ao G I aT x v->low U.length x=true->ao G I U x v
 |.none,_=>fun e _=>e
 |.bool _,_=>fun e _=>e
 |.int _,_=>fun e _=>e
 |.str _,_=>fun e _=>e
 |.tup l,v=>fun e b=>by
  obtain⟨a,vs,rfl,ht,hr⟩:=e;exact Exists.intro a ⟨vs,rfl,ht,av.cut hp hr b⟩
 |.obj c l,v=>fun e b=>by
  obtain⟨a,d,vs,es,n,rfl,h1,h2,h3,hr⟩:=e;exact Exists.intro a ⟨d,vs,es,n,rfl,h1,h2,h3,av.cut hp hr b⟩
 |.ref i,v=>fun e b=>by
  obtain⟨l,hl,rfl⟩:=e;have b:=of_decide_eq_true (show decide (i<U.length)=true from b);obtain⟨l',h1,h2⟩:=hp.get (dw b);rw[hl]at h1;cases h1;exact Exists.intro _ ⟨dw b,by rw[h2]⟩
 |.fn _,_=>fun e _=>e
 |.bi _,_=>fun e _=>e
 |.cz ks l,v=>fun e b=>by
  obtain⟨a,o,bq,rfl,h1,h2,h3,h4,h5⟩:=e;exact Exists.intro a ⟨o,bq,rfl,h1,h2,h3,h4,av.cut hp h5 b⟩
 |.gZ ks l,v=>fun e b=>by
  obtain⟨a,o,bq,rfl,h1,h2,h3,h4,h5⟩:=e;exact Exists.intro a ⟨o,bq,rfl,h1,h2,h3,h4,av.cut hp h5 b⟩
 |.eC l,v=>fun e b=>by
  obtain⟨a,vs,n,rfl,h1,h2⟩:=e;exact Exists.intro a ⟨vs,n,rfl,h1,av.cut hp h2 b⟩
 |.lam,v=>fun e _=>e
 |.fE,_=>fun _ _=>True.intro
theorem av.cut(hp:aA U aT):∀ {l:List V}{vs:List Value},av G I aT l vs->lows U.length l=true->av G I U l vs
 |[],_=>fun e _=>e
 |x :: r,vs=>fun e b=>by
  obtain⟨v,ws,rfl,h1,h2⟩:=e;have b:=aM.mp b;exact Exists.intro v ⟨ws,rfl,ao.cut hp h1 b.1,av.cut hp h2 b.2⟩
end
mutual
theorem ao.low:∀ {x:V}{v:Value},ao G I U x v->Mine.low U.length x=true
 |.none,_=>fun _=>rfl
 |.bool _,_=>fun _=>rfl
 |.int _,_=>fun _=>rfl
 |.str _,_=>fun _=>rfl
 |.tup l,v=>fun e=>by
  obtain⟨a,vs,rfl,ht,hr⟩:=e;exact av.low hr
 |.obj c l,v=>fun e=>by
  obtain⟨a,d,vs,es,n,rfl,h1,h2,h3,hr⟩:=e;exact av.low hr
 |.ref i,v=>fun e=>by
  obtain⟨l,hl,rfl⟩:=e;exact decide_eq_true (aX.mp hl).1
 |.fn _,_=>fun _=>rfl
 |.bi _,_=>fun _=>rfl
 |.cz ks l,v=>fun e=>by
  obtain⟨a,o,bq,rfl,h1,h2,h3,h4,h5⟩:=e;exact av.low h5
 |.gZ ks l,v=>fun e=>by
  obtain⟨a,o,bq,rfl,h1,h2,h3,h4,h5⟩:=e;exact av.low h5
 |.eC l,v=>fun e=>by
  obtain⟨a,vs,n,rfl,h1,h2⟩:=e;exact av.low h2
 |.lam,_=>fun _=>rfl
 |.fE,_=>fun _=>rfl
theorem av.low:∀ {l:List V}{vs:List Value},av G I U l vs->lows U.length l=true
 |[],_=>fun _=>rfl
 |x :: r,vs=>fun e=>by
  obtain⟨v,ws,rfl,h1,h2⟩:=e;exact aM.mpr ⟨ao.low h1,av.low h2⟩
end
def sE(i:Nat):Cell->Bool
 |.lst l=>lows i l
 |.ins _ l=>lows i l
 |_=>true
inductive kj(I:Im):Value->Prop
 |nil:kj I .none
 |cons {a:Addr}{o:Obj}{vs:Array Value}{v:Value}:I a=some o->o.data=.fields vs->vs[2]?=some v->kj I v->kj I (.ref a)
theorem kj.mono(h:aC I I')(x:kj I v):kj I' v:=by
 induction x with
 |nil=>exact .nil
 |cons e d g _ ih=>exact .cons (h _ _ e) d g ih
def dj(h:Heap)(T:Addr):Prop:=∃ oT ts,h.get? T=some oT/\oT.cls=.type "traceback"/\oT.data=.fields ts/\3<ts.size
def CW(G:GI)(h:Heap)(v:Value):Prop:=v=.none∨∃ T,v=.ref T/\G.H.objs.size<=T/\dj h T
inductive ExcAt(G:GI)(I:Im)(h:Heap)(e:Addr):Prop
 |mk (oe vs a0 v1 v2:_) (h1:h.get? e=some oe) (h2:oe.cls=.ref d_) (h3:oe.data=.fields vs) (h4:vs[0]?=some a0) (h5:vs[1]?=some v1) (h6:CW G h v1) (h7:vs[2]?=some v2) (h8:kj I v2)
inductive CX(I:Im)(h:Heap)(P:Addr)(jP:Array Value)(pos:Pos)(q:Str):Prop
 |mk (ps more:_) (h1:h.get? P=some ({ cls:=.none,data:=.fields ps }:Obj)) (h2:ps=jP++more) (h3:TriplesOk ps.toList) (h4:(codeAmong pos ps.toList=none∨∃ c' oc vs t,codeAmong pos ps.toList=some (.ref c')/\I c'=some oc/\oc.data=.fields vs/\vs[1]?=some (.str q t)))
def k_(o:Obj):Prop:=¬(o.cls=.type "traceback"/\∃ ts,o.data=.fields ts)
theorem k_.of(h:o.cls≠.type "traceback"):k_ o:=fun x=>h x.1
def fc(G:GI)(I:Im)(U:List Loc)(h:Heap):Loc->Cell->Prop
 |.lst a,.lst l=>∃ vs n,h.get? a=some (listOf vs.toArray n)/\av G I U l vs
 |.ins a d,.ins c l=>I a=some (instObj (bG c) d)/\∃ vs es n,h.get? d=some (dictOf es n)/\fK ((ec c).take l.length) vs es/\av G I U l vs
 |.exc e,.exc=>ExcAt G I h e
 |.raw a o,.raw=>h.get? a=some o/\k_ o
 |.dead _,.raw=>True
 |.dead _,.dead=>True
 |.tab a ps pos q,.tab=>CX I h a ps pos q
 |_,_=>False
def CellsOk(G:GI)(I:Im)(U:List Loc)(h:Heap)(J:List Cell):Prop:=J.length=U.length/\∀ (i:Nat) (l:Loc) (c:Cell),U[i]?=some l->J[i]?=some c->fc G I U h l c
structure Cx where
 cn:Str
 cs:Scope
 fa:Addr
 cd:Value
 cl:List (Str×Addr)
 L:Addr
 A:Around
 outer:List Env
 fr:List (Addr×Obj)
 cv:List (Option V)
 de:List Loc
noncomputable abbrev Cx.env(c:Cx):Env:=envX c.cn c.cs c.L c.fa c.cd c.cl
noncomputable def wm:List Env->List (Addr×Obj)->Prop
 |[],[]=>True
 |e :: es,p :: ps=>(e.frame=some p.1/\e.scope.kind≠.module/\∃ en n,p.2.data=.dict en n)/\wm es ps
 |_,_=>False
structure cx(c:Cx):Prop where
 kind:c.cs.kind=.function
 frames:c.A.frames=some (c.env :: c.outer)
 guards:c.A.guards=some []
 nodup:(c.cs.names.map (·.1)).Nodup
 outer:wm c.outer c.fr
 cells:∀ x,c.cs.names.lookup x=some .cell->(c.cl.lookup x).isSome=true
def gb(G:GI)(I:Im)(U:List Loc)(cs:Scope)(m:Str->Option Value)(lv:List (Option V)):Prop:=
 ∀ (i:Nat) (x:V),lv[i]?=some (some x)->∃ nm k v,cs.names[i]?=some (nm,k)/\m nm=some v/\ao G I U x v
def owned(c:Cx)(U:List Loc):List Addr:=c.L :: (c.fr.map (·.1)++cK U)
structure St(G:GI)(c:Cx)(I:Im)(U:List Loc)(J:List Cell)(lv:List (Option V))(s:Shared):Prop where
 im:∀ a o,I a=some o->s.heap.get? a=some o
 h0:∀ a o,G.H.get? a=some o->I a=some o
 above:G.H.objs.size<=c.L
 loc:∃ m,s.heap.Ns c.L m/\gb G I U c.cs m lv
 dW:∀ p∈c.fr,∃ sl,s.heap.get? p.1=some { p.2 with slots:=sl }
 cells:CellsOk G I U s.heap J
 nd:(owned c U).Nodup
 fresh:∀ a∈owned c U,I a=none
 fV:∀ (i:Nat) (y:V),c.cv[i]?=some (some y)->∃ x k a v o,c.cs.names[i]?=some (x,k)/\c.cl.lookup x=some a/\I a=some o/\o.data=.cell (some v)/\ao G I c.de y v
 pre:aA c.de U
 gx:∀ v,c.A.handled=some v->(∃ (i:Nat) (e:Addr),v=.ref e/\U[i]?=some (Loc.exc e))∨(v≠.none/\kj I v)
 fh:∀ a o,G.H.objs.size<=a->I a=some o->k_ o
 cN:∀ (i:Nat) (y:Cell),J[i]?=some y->sE i y=true
 tabs:G.tabs<+:U
 fi:∀ l∈G.tabs,∃ a ps pos q,l=Loc.tab a ps pos q
 code:G.codeOk c.cs c.cd c.cn
 gens:s.gens=G.gens
 os:s.os=G.os
section
variable {G:GI}{c:Cx}{I I':Im}{U aT:List Loc}{J J':LC}{lv aJ:List (Option V)}{s:Shared}
theorem CW.mono(ht:∀ T,dj h T->dj h' T)(x:CW G h v):CW G h' v:=by
 rcases x with rfl|⟨T,rfl,h1,h2⟩
 ·exact .inl rfl
 ·exact .inr ⟨T,rfl,h1,ht T h2⟩
theorem dj.keeps(k:∀ a o,h.get? a=some o->h'.get? a=some o)(T:Addr)(x:dj h T):dj h' T:=
 let ⟨oT,ts,h1,h2⟩:=x;⟨oT,ts,k _ _ h1,h2⟩
theorem ExcAt.mono(hI:aC I I')(hk:∀ o,h.get? e=some o->h'.get? e=some o)(ht:∀ T,dj h T->dj h' T)(x:ExcAt G I h e):ExcAt G I' h' e:=by
 obtain⟨oe,vs,a0,v1,v2,h1,h2,h3,h4,h5,h6,h7,h8⟩:=x;exact⟨oe,vs,a0,v1,v2,hk _ h1,h2,h3,h4,h5,h6.mono ht,h7,h8.mono hI⟩
theorem fc.el{h:Heap}{P:Loc->Cell->Prop}(lst:∀ a l vs n,h.get? a=some (listOf vs.toArray n)->av G I U l vs->P (.lst a) (.lst l))
  (ins:∀ a d c l vs es n,I a=some (instObj (bG c) d)->h.get? d=some (dictOf es n)->fK ((ec c).take l.length) vs es->av G I U l vs->P (.ins a d) (.ins c l)) (exc:∀ e,ExcAt G I h e->P (.exc e) .exc)
  (raw:∀ a o,h.get? a=some o->k_ o->P (.raw a o) .raw) (dr:∀ a,P (.dead a) .raw) (dd:∀ a,P (.dead a) .dead) (tab:∀ a ps pos q,CX I h a ps pos q->P (.tab a ps pos q) .tab) {l:Loc}{x:Cell} (q:fc G I U h l x):P l x:=by
 cases l<;>cases x<;>first|exact False.elim q|exact dr _|exact dd _|exact exc _ q|exact tab _ _ _ _ q|exact raw _ _ q.1 q.2|skip
 ·obtain⟨vs,n,h1,h2⟩:=q;exact lst _ _ vs n h1 h2
 ·obtain⟨h0,vs,es,n,h1,h2,h3⟩:=q;exact ins _ _ _ _ vs es n h0 h1 h2 h3
theorem fc.cV{h h':Heap}(hI:aC I I')(hp:fz U aT)(ht:∀ T,dj h T->dj h' T){l:Loc}{x:Cell}(hk:∀ a∈l.aK,∀ o,h.get? a=some o->h'.get? a=some o)(x':fc G I U h l x):fc G I' aT h' l x:=by
 revert hk;refine fc.el (P:=fun l x=>(∀ a∈l.aK,∀ o,h.get? a=some o->h'.get? a=some o)->fc G I' aT h' l x) ?_ ?_ ?_ ?_ (fun _ _=>trivial) (fun _ _=>trivial) ?_ x'
 ·exact fun a l vs n h1 h2 hk=>⟨vs,n,hk a (.head _) _ h1,h2.cV hI hp⟩
 ·exact fun a d c l vs es n h0 h1 h2 h3 hk=>⟨hI _ _ h0,vs,es,n,hk d (.head _) _ h1,h2,h3.cV hI hp⟩
 ·exact fun e x hk=>ExcAt.mono hI (hk e (.head _)) ht x
 ·exact fun a o h1 h2 hk=>⟨hk a (.head _) _ h1,h2⟩
 ·intro a ps pos q cu hk;obtain⟨p,more,h1,h2,h3,h4⟩:=cu;refine⟨p,more,hk a (.head _) _ h1,h2,h3,h4.imp id ?_⟩;intro cu;obtain⟨c',oc,vs,t,e1,e2,e3,e4⟩:=cu;exact⟨c',oc,vs,t,e1,hI _ _ e2,e3,e4⟩
theorem fc.mono(hI:aC I I')(hp:aA U aT)(ht:∀ T,dj h T->dj h' T)(hk:∀ a∈l.aK,∀ o,h.get? a=some o->h'.get? a=some o)(c:fc G I U h l x):fc G I' aT h' l x:=c.cV hI hp.ad ht hk
theorem fc.there{h:Heap}{l:Loc}{x:Cell}(x':fc G I U h l x):∀ a∈l.aK,∃ o,h.get? a=some o/\k_ o:=by
 refine fc.el (P:=fun l _=>∀ a∈l.aK,∃ o,h.get? a=some o/\k_ o) ?_ ?_ ?_ ?_ (fun _ _ hb=>absurd hb q_) (fun _ _ hb=>absurd hb q_) ?_ x'
 ·exact fun a l vs n h1 _ b hb=>b_.mp hb▸⟨_,h1,.of (by simp)⟩
 ·exact fun a d c l vs es n _ h1 _ _ b hb=>b_.mp hb▸⟨_,h1,.of (by simp)⟩
 ·intro e cu b hb;obtain⟨oe,vs,a0,v1,v2,h1,h2,_⟩:=cu;exact b_.mp hb▸⟨_,h1,.of (by rw[h2];simp)⟩
 ·exact fun a o h1 h2 b hb=>b_.mp hb▸⟨_,h1,h2⟩
 ·intro a ps pos q cu b hb;obtain⟨_,_,h1,_⟩:=cu;exact b_.mp hb▸⟨_,h1,.of (by simp)⟩
theorem CellsOk.there(x:CellsOk G I U h J)(ha:a∈cK U):∃ o,h.get? a=some o/\k_ o:=by
 obtain⟨l,hl,hd⟩:=eE.mp ha;obtain⟨i,hi,e⟩:=tT hl;have kQ:i<J.length:=by rw[x.1];exact hi
 exact(x.2 i l J[i] (by rw[dw hi,e]) (dw kQ)).there a hd
theorem CellsOk.mono(hI:aC I I')(ht:∀ T,dj h T->dj h' T)(hk:∀ a∈cK U,∀ o,h.get? a=some o->h'.get? a=some o)(x:CellsOk G I U h J):CellsOk G I' U h' J:=
 ⟨x.1,fun i l y hl hy=>(x.2 i l y hl hy).mono hI (aA.refl _) ht fun a ha=>hk a (eE.mpr ⟨l,eP hl,ha⟩)⟩
theorem V6(hn:h.Ns L m)(ht:dj h T):T≠L:=by
 rintro rfl
 obtain⟨o,es,ep,ho,hd,_⟩:=hn;obtain⟨oT,ts,h1,_,h2,_⟩:=ht;rw[ho]at h1;cases h1;rw[hd]at h2;cases h2
theorem gb.cV(hI:aC I I')(hp:fz U aT)(x:gb G I U cs m lv):gb G I' aT cs m lv:=fun i y e=>
 by obtain⟨nm,k,v,h1,h2,h3⟩:=x i y e;exact⟨nm,k,v,h1,h2,h3.cV hI hp⟩
theorem gb.mono(hI:aC I I')(hp:aA U aT)(x:gb G I U cs m lv):gb G I' aT cs m lv:=x.cV hI hp.ad
theorem St.lt(x:St G c I U J lv s)(ha:a∈owned c U):a<s.heap.objs.size:=by
 rcases bY.mp ha with rfl|ha
 ·obtain⟨m,hn,_⟩:=x.loc;exact hn.lt
 ·rcases hU.mp ha with ha|ha
  ·obtain⟨p,hp,rfl⟩:=pv.mp ha;obtain⟨sl,e⟩:=x.dW p hp;exact cS e
  ·obtain⟨o,e,_⟩:=x.cells.there ha;exact cS e
theorem St.mX(x:St G c I U J lv s)(ha:s.heap.objs.size<=a):I a=none:=by
 cases e:I a with
 |none=>rfl
 |some o=>exact absurd (cS (x.im a o e)) (fG.mpr ha)
theorem St.keep(x:St G c I U J lv s)(k:∀ a o,s.heap.get? a=some o->h'.get? a=some o):St G c I U J lv { s with heap:=h',toks:=tk } where
 im a o e:=k a o (x.im a o e)
 h0:=x.h0
 above:=x.above
 loc:=by
  obtain⟨m,⟨o,es,ep,ho,r⟩,hl⟩:=x.loc;exact⟨m,⟨o,es,ep,k _ _ ho,r⟩,hl⟩
 dW p hp:=let ⟨sl,e⟩:=x.dW p hp;⟨sl,k _ _ e⟩
 cells:=x.cells.mono (aC.refl I) (dj.keeps k) fun a _ o e=>k a o e
 nd:=x.nd
 fresh:=x.fresh
 fV:=x.fV
 pre:=x.pre
 gx:=x.gx
 fh:=x.fh
 cN:=x.cN
 tabs:=x.tabs
 fi:=x.fi
 code:=x.code
 gens:=x.gens
 os:=x.os
theorem St.toks(x:St G c I U J lv s):St G c I U J lv { s with toks:=tk }:=x.keep fun _ _ e=>e
noncomputable def upd(I:Im)(a:Addr)(o:Obj):Im:=fun b=>if b=a then some o else I b
theorem jM(I:Im)(a:Addr)(o:Obj):upd I a o a=some o:=if_pos rfl
theorem fe(h:I a=none):aC I (upd I a o):=fun b p e=>by
 unfold upd;rw[if_neg (fun q=>by rw[q,h]at e;cases e)];exact e
theorem St.VY(x:St G c I U J lv s)(hI:I a=none)(ho:s.heap.get? a=some o)(hn:a∉owned c U)(hb:k_ o):St G c (upd I a o) U J lv s where
 im b p e:=by
  unfold upd at e;split at e
  ·rename_i q;cases e;rw[q];exact ho
  ·exact x.im b p e
 h0 b p e:=fe hI _ _ (x.h0 b p e)
 above:=x.above
 loc:=by obtain⟨m,kL,hl⟩:=x.loc;exact⟨m,kL,hl.mono (fe hI) (aA.refl _)⟩
 dW:=x.dW
 cells:=x.cells.mono (fe hI) (fun _ h=>h) fun _ _ _ e=>e
 nd:=x.nd
 fresh b hb:=by
  unfold upd;rw[if_neg (fun (q:b=a)=>hn (q▸hb))];exact x.fresh b hb
 fV n y e:=by
  obtain⟨x',k',a',v,o',h0,h1,h2,h3,h4⟩:=x.fV n y e;exact⟨x',k',a',v,o',h0,h1,fe hI _ _ h2,h3,h4.mono (fe hI) (aA.refl _)⟩
 pre:=x.pre
 gx v hv:=(x.gx v hv).imp id fun q=>⟨q.1,q.2.mono (fe hI)⟩
 fh b p hs e:=by
  unfold upd at e;split at e
  ·cases e;exact hb
  ·exact x.fh b p hs e
 cN:=x.cN
 tabs:=x.tabs
 fi:=x.fi
 code:=x.code
 gens:=x.gens
 os:=x.os
theorem St.ra(x:St G c I U J lv s)(hI:I a=none)(ho:s.heap.get? a=some o)(hn:a∉owned c U)(hb:o.cls≠.type "traceback"):St G c (upd I a o) U J lv s:=x.VY hI ho hn (.of hb)
theorem St.new(x:St G c I U J lv s):I s.heap.objs.size=none/\s.heap.objs.size∉owned c U:=
 ⟨x.mX (aG _),fun h=>absurd (x.lt h) (iG _)⟩
theorem St.push(x:St G c I U J lv s)(hf:o.isFreed=false)(hb:o.cls≠.type "traceback"):St G c (upd I s.heap.objs.size o) U J lv { s with heap:=s.heap.push o,toks:=tk }:=
 (x.keep (tk:=tk) fun _ _ e=>bD o e).ra x.new.1 (gN _ hf) x.new.2 hb
theorem St.sz(x:St G c I U J lv s):aC I (upd I s.heap.objs.size o):=fe x.new.1
theorem St.grow(x:St G c I U J lv s)(hd:(owned c (U++[l])).Nodup)(hI:∀ a∈l.aK,I a=none)(hc:fc G I (U++[l]) s.heap l y)(hw:sE U.length y=true):St G c I (U++[l]) (J++[y]) lv s where
 im:=x.im
 h0:=x.h0
 above:=x.above
 loc:=by obtain⟨m,kL,hl⟩:=x.loc;exact⟨m,kL,hl.mono (aC.refl _) (aA.app _ _)⟩
 dW:=x.dW
 cells:=by
  refine⟨by simp[x.cells.1],fun i l' y' hl hy=>?_⟩;by_cases hi:i<U.length
  ·rw[dp hi]at hl;rw[dp (by rw[x.cells.1];exact hi)]at hy;exact(x.cells.2 i l' y' hl hy).mono (aC.refl _) (aA.app _ _) (fun _ h=>h) fun _ _ _ e=>e
  ·have kQ:i=U.length:=by
    have:=(aX.mp hl).1;simp at this;lia
   subst kQ;rw[iF (aG _),jF]at hl;rw[<-x.cells.1,iF (aG _),jF]at hy;cases hl;cases hy;exact hc
 nd:=hd
 fresh a ha:=by
  unfold owned cK at ha;rw[yX]at ha;rcases bY.mp ha with rfl|ha
  ·exact x.fresh _ (.head _)
  ·rcases hU.mp ha with ha|ha
   ·exact x.fresh _ (.tail _ (vW _ ha))
   ·rcases hU.mp ha with ha|ha
    ·exact x.fresh _ (.tail _ (fb _ ha))
    ·simp only[nM,T6,dM]at ha;exact hI a ha
 fV:=x.fV
 pre:=x.pre.trans (aA.app _ _)
 gx v hv:=by
  rcases x.gx v hv with ⟨i,e,h1,h2⟩|q
  ·exact .inl ⟨i,e,h1,by rw[dp (aX.mp h2).1];exact h2⟩
  ·exact .inr q
 fh:=x.fh
 cN i z e:=by
  by_cases hi:i<J.length
  ·rw[dp hi]at e;exact x.cN i z e
  ·have kQ:i=J.length:=by
    have:=(aX.mp e).1;simp at this;lia
   subst kQ;rw[iF (aG _),jF]at e;cases e;rw[x.cells.1];exact hw
 tabs:=o_ x.tabs (Co _ _)
 fi:=x.fi
 code:=x.code
 gens:=x.gens
 os:=x.os
theorem EF(c:Cx)(U:List Loc)(l:Loc):owned c (U++[l])=owned c U++l.aK:=by
 unfold owned cK;simp only[yX,nM,T6,dM,vV,aH]
theorem St.lL(x:St G c I U J lv s)(h1:l.aK.Nodup)(h2:∀ a∈l.aK,a∉owned c U):(owned c (U++[l])).Nodup:=by
 rw[EF];exact jE.mpr ⟨x.nd,h1,fun a ha b hb q=>h2 b hb (q▸ha)⟩
theorem St.newList(x:St G c I U J lv s)(hr:av G I U l vs) :
  St G c I (U++[.lst s.heap.objs.size]) (J++[.lst l]) lv { s with heap:=s.heap.push (listOf vs.toArray n),toks:=tk }:=by
 have x':=x.keep (tk:=tk) fun _ _ e=>bD (listOf vs.toArray n) e;refine x'.grow (x'.lL (by simp[Loc.aK]) fun a ha=>?_) (fun a ha=>?_) ⟨vs,n,gN _ rfl,hr.mono (aC.refl _) (aA.app _ _)⟩ hr.low
 ·simp only[Loc.aK,b_]at ha;subst ha;exact x.new.2
 ·simp only[Loc.aK,b_]at ha;subst ha;exact x.new.1
theorem oi{U:List Loc}(h:(cK U).Nodup):∀ {i j:Nat}{l l':Loc}{a:Addr},U[i]?=some l->U[j]?=some l'->a∈l.aK->a∈l'.aK->i=j:=by
 intro i j l l' a hi hj hl cD;rcases Nat.lt_trichotomy i j with dJ|rfl|dJ
 ·exfalso;obtain⟨h1,e1⟩:=aX.mp hi;obtain⟨h2,e2⟩:=aX.mp hj;have sp:U=U.take j++U.drop j:=(pj j U).symm;rw[sp]at h;unfold cK at h;rw[yX]at h;have:=(jE.mp h).2.2 a (eE.mpr ⟨l,by rw[<-e1];exact T5.mpr ⟨i,by lia,rfl⟩,hl⟩) a
   (eE.mpr ⟨l',by rw[<-e2];exact T4.mpr ⟨0,by lia,by simp⟩,cD⟩)
  exact this rfl
 ·rfl
 ·exfalso;obtain⟨h1,e1⟩:=aX.mp hi;obtain⟨h2,e2⟩:=aX.mp hj;have sp:U=U.take i++U.drop i:=(pj i U).symm;rw[sp]at h;unfold cK at h;rw[yX]at h;have:=(jE.mp h).2.2 a (eE.mpr ⟨l',by rw[<-e2];exact T5.mpr ⟨j,by lia,rfl⟩,cD⟩) a
   (eE.mpr ⟨l,by rw[<-e1];exact T4.mpr ⟨0,by lia,by simp⟩,hl⟩)
  exact this rfl
theorem St.om(x:St G c I U J lv s):(cK U).Nodup:=by
 have:=x.nd;unfold owned at this;exact((jE.mp (dE.mp this).2).2.1)
theorem St.Ea(x:St G c I U J lv s)(hl:U[i]?=some l)
  (k:∀ a o,a≠c.L->a∉l.aK->s.heap.get? a=some o->h'.get? a=some o) (hn:∃ m,h'.Ns c.L m/\gb G I U c.cs m lv) (hc:fc G I U h' l y) (hw:sE i y=true):St G c I U (J.set i y) lv { s with heap:=h',toks:=tk }:=by
 have hm:∀ a∈l.aK,a∈cK U:=fun a ha=>eE.mpr ⟨l,eP hl,ha⟩;have nI:∀ a o,I a=some o->a∉l.aK:=fun a o e ha=>by
  have:=x.fresh a (.tail _ (fb _ (hm a ha)));rw[e]at this;cases this
 have nd:=x.nd;unfold owned at nd;have nL:∀ a∈cK U,a≠c.L:=fun a ha q=>(dE.mp nd).1 (fb _ (q▸ha));have nLI:∀ a o,I a=some o->a≠c.L:=fun a o e q=>by have:=x.fresh c.L (.head _);rw[<-q,e]at this;cases this
 have nLF:∀ p∈c.fr,p.1≠c.L:=fun p hp q=>(dE.mp nd).1 (vW _ (q▸pd hp));have nF:∀ p∈c.fr,p.1∉l.aK:=fun p hp ha=>(jE.mp (dE.mp nd).2).2.2 p.1 (pd hp) p.1 (hm _ ha) rfl
 have ht:∀ T,dj s.heap T->dj h' T:=fun T ⟨oT,ts,h1,h2,h3⟩=>⟨oT,ts,k T oT (V6 x.loc.choose_spec.1 ⟨oT,ts,h1,h2,h3⟩) (fun hT=>by
  obtain⟨o,e1,e2⟩:=x.cells.there (hm T hT)
  rw[h1]at e1;cases e1;exact e2 ⟨h2,ts,h3.1⟩) h1,h2,h3⟩
 refine⟨fun a o e=>k a o (nLI a o e) (nI a o e) (x.im a o e),x.h0,x.above,hn,fun p hp=>?_,⟨by simp[x.cells.1],fun j l' y' cD A4=>?_⟩,x.nd,x.fresh,x.fV,x.pre,x.gx,x.fh,fun j z e=>?_,x.tabs,x.fi,x.code,x.gens,x.os⟩
 ·obtain⟨sl,e⟩:=x.dW p hp;exact⟨sl,k _ _ (nLF p hp) (nF p hp) e⟩
 ·by_cases dJ:i=j
  ·subst dJ;rw[hl]at cD;cases cD;have hi:i<J.length:=by rw[x.cells.1];exact(aX.mp hl).1
   rw[d0 hi]at A4;cases A4;exact hc
  ·rw[bW dJ]at A4;refine(x.cells.2 j l' y' cD A4).mono (aC.refl _) (aA.refl _) ht fun a ha o e=>k a o (nL a (eE.mpr ⟨l',eP cD,ha⟩)) (fun q=>dJ ?_) e;exact oi x.om hl cD q ha
 ·by_cases dJ:i=j
  ·subst dJ;rw[d0 (by have:=(aX.mp e).1;simpa using this)]at e;cases e;exact hw
  ·rw[bW dJ]at e;exact x.cN j z e
theorem St.setCell(x:St G c I U J lv s)(hl:U[i]?=some l)
  (k:∀ a o,a∉l.aK->s.heap.get? a=some o->h'.get? a=some o) (hc:fc G I U h' l y) (hw:sE i y=true):St G c I U (J.set i y) lv { s with heap:=h',toks:=tk }:=by
 refine x.Ea hl (fun a o _ h1 h2=>k a o h1 h2) ?_ hc hw;have nd:=x.nd;unfold owned at nd;obtain⟨m,⟨o,es,ep,ho,r⟩,cQ⟩:=x.loc;exact⟨m,⟨o,es,ep,k _ _ (fun ha=>(dE.mp nd).1 (fb _ (eE.mpr ⟨l,eP hl,ha⟩))) ho,r⟩,cQ⟩
theorem NG{α:Type}{l:List α}(h:l.Nodup){i j:Nat}(hi:i<l.length)(hj:j<l.length)(e:l[i]=l[j]):i=j:=(List.getElem_inj h).mp e
theorem gb.store{cs:Scope}{m:Str->Option Value}{i:Nat}{nm:Str}{kd:NameKind}{y:V}{v:Value}(nd:(cs.names.map (·.1)).Nodup)(hi:cs.names[i]?=some (nm,kd))(hr:ao G I U y v)(x:gb G I U cs m lv) :
  gb G I U cs (fun z=>if z=nm then some v else m z) (lv.set i (some y)):=by
 intro j z e;by_cases dJ:i=j
 ·subst dJ;obtain⟨h1,h2⟩:=aX.mp e;have h1':i<lv.length:=by simpa using h1
  rw[d0 h1']at e;cases e;exact⟨nm,kd,v,hi,if_pos rfl,hr⟩
 ·rw[bW dJ]at e;obtain⟨xk,k',v',h1,h2,h3⟩:=x j z e;refine⟨xk,k',v',h1,?_,h3⟩;show(if xk=nm then some v else m xk)=some v';rw[if_neg]
  ·exact h2
  ·rintro rfl
   have e1:(cs.names.map (·.1))[i]?=some xk:=by rw[eS,hi];rfl
   have e2:(cs.names.map (·.1))[j]?=some xk:=by rw[eS,h1];rfl
   obtain⟨q1,r1⟩:=aX.mp e1;obtain⟨q2,r2⟩:=aX.mp e2;exact dJ (NG nd q1 q2 (r1.trans r2.symm))
theorem St.AP(x:St G c I U J lv s)(k:∀ a o,a≠c.L->s.heap.get? a=some o->h'.get? a=some o)(hn:∃ m,h'.Ns c.L m/\gb G I U c.cs m aJ):St G c I U J aJ { s with heap:=h',toks:=tk }:=by
 have NM:=x.nd;unfold owned at NM;have nL:=(dE.mp NM).1;refine⟨fun a o e=>k a o (fun q=>?_) (x.im a o e),x.h0,x.above,hn,fun p hp=>?_,x.cells.mono (aC.refl _) (fun T hT=>let ⟨oT,ts,h1,h2⟩:=id hT;⟨oT,ts,k T oT (V6 x.loc.choose_spec.1 hT) h1,h2⟩) fun a ha o e=>k a o (fun q=>nL (fb _ (q▸ha))) e,x.nd,x.fresh,x.fV,x.pre,x.gx,x.fh,x.cN,x.tabs,x.fi,x.code,x.gens,x.os⟩
 ·have:=x.fresh c.L (.head _);rw[q,this]at e;cases e
 ·obtain⟨sl,e⟩:=x.dW p hp;exact⟨sl,k _ _ (fun q=>nL (vW _ (q▸pd hp))) e⟩
theorem St.frame(x:St G c I U J lv s):∃ m,Fr G.H c.L s.heap m/\gb G I U c.cs m lv:=
 let ⟨m,hn,hl⟩:=x.loc;⟨m,⟨hn,fun b o e=>x.im b o (x.h0 b o e),x.above⟩,hl⟩
noncomputable def gK(H:Heap)(L:Addr)(h:Heap):List (Addr×Obj):=(List.range h.objs.size).filterMap fun a=>match h.get? a with
 |some o=>if a≠L/\H.get? a=none then some (a,o) else none
 |none=>none
theorem vQ:(a,o)∈gK H L h↔h.get? a=some o/\a≠L/\H.get? a=none:=by
 unfold gK;rw[List.mem_filterMap];constructor
 ·intro cu;obtain⟨b,hb,e⟩:=cu;split at e
  ·rename_i o' ho;split at e
   ·rename_i q;cases e;exact⟨ho,q⟩
   ·cases e
  ·cases e
 ·intro cu;obtain⟨h1,h2,h3⟩:=cu;exact⟨a,List.mem_range.mpr (cS h1),by simp only[h1];rw[if_pos ⟨h2,h3⟩]⟩
theorem Ie(H:Heap)(L:Addr)(h:Heap):News H L h (gK H L h):=fun p hp=>by
 obtain⟨a,o⟩:=p;exact vQ.mp hp
theorem OK(F:Fr H L h m)(F':Fr H L h' m')(N:News H L h' (gK H L h)):∀ a o,a≠L->h.get? a=some o->h'.get? a=some o:=fun a o n e=>by
 cases q:H.get? a with
 |none=>exact(N _ (vQ.mpr ⟨e,n,q⟩)).1
 |some o'=>
  have:=F.keep a o' q;rw[e]at this;cases this;exact F'.keep a o q
theorem St.Fx(x:St G c I U J lv s)(F:Fr G.H c.L s.heap m)(hl:gb G I U c.cs m lv)(F':Fr G.H c.L h' m)(N:News G.H c.L h' (gK G.H c.L s.heap)):St G c I U J lv { s with heap:=h',toks:=tk }:=
 x.AP (OK F F' N) ⟨m,F'.ns,hl⟩
theorem St.DE(x:St G c I U J lv s)(hl:U[i]?=some l)(hn:∀ a ps pos q,l≠.tab a ps pos q):G.tabs<+:U.set i l':=by
 obtain⟨t,ht⟩:=x.tabs;have hi:G.tabs.length<=i:=by
  refine Cy fun h=>?_;rw[<-ht,dp h]at hl;obtain⟨a,ps,pos,q,e⟩:=x.fi l (eP hl);exact hn _ _ _ _ e
 rw[<-ht,vU _ _ hi];exact Co _ _
theorem St.uA(x:St G c I U J lv s)(hl:U[i]?=some (.raw a o))(hs:Heap.SameBut a s.heap h')(ho:h'.get? a=some o')(hc:k_ o')(ba:c.de.length<=i) :
  St G c I (U.set i (.raw a o')) J lv { s with heap:=h',toks:=tk }/\fz U (U.set i (.raw a o')):=by
 have hi:=(aX.mp hl).1;have ha:a∈cK U:=eE.mpr ⟨_,eP hl,by simp[Loc.aK]⟩;have le:fz U (U.set i (.raw a o')):=by
  unfold fz;rw[Cv];have:(U.map Loc.addr).set i (Loc.addr (.raw a o'))=U.map Loc.addr:=by
   apply q5;intro j;by_cases q:i=j
   ·subst q;rw[d0 (by simpa using hi),eS,hl];rfl
   ·rw[bW q]
  rw[this];exact yW _
 have dd:cK (U.set i (.raw a o'))=cK U:=by
  unfold cK;rw[T3,T3,Cv];congr 1;apply q5;intro j;by_cases q:i=j
  ·subst q;rw[d0 (by simpa using hi),eS,hl];rfl
  ·rw[bW q]
 have oo:owned c (U.set i (.raw a o'))=owned c U:=by unfold owned;rw[dd]
 have hI:∀ b p,I b=some p->b≠a:=fun b p e q=>by
  have:=x.fresh a (.tail _ (fb _ ha));rw[<-q,e]at this;cases this
 have nd:=x.nd;unfold owned at nd;have hL:c.L≠a:=fun q=>(dE.mp nd).1 (fb _ (q▸ha));have hF:∀ p∈c.fr,p.1≠a:=fun p hp q=>(jE.mp (dE.mp nd).2).2.2 p.1 (pd hp) a ha q;have kp:∀ b p,b≠a->s.heap.get? b=some p->h'.get? b=some p:=fun b p n e=>(hs.2 b n).trans e;obtain⟨m,⟨oL,es,ep,dT,r⟩,cQ⟩:=x.loc
 have kt:∀ T,dj s.heap T->dj h' T:=fun T ⟨oT,ts,h1,h2,h3⟩=>⟨oT,ts,kp T oT (fun q=>by
  obtain⟨p,e1,e2⟩:=x.cells.there ha
  rw[q,e1]at h1;cases h1;exact e2 ⟨h2,ts,h3.1⟩) h1,h2,h3⟩
 refine⟨⟨fun b p e=>kp b p (hI b p e) (x.im b p e),x.h0,x.above,⟨m,⟨oL,es,ep,kp _ _ hL dT,r⟩,cQ.cV (aC.refl _) le⟩,fun p hp=>?_,⟨by rw[ef];exact x.cells.1,fun j l y cD hy=>?_⟩,by rw[oo];exact x.nd,by rw[oo];exact x.fresh,x.fV,⟨o_ x.pre.ad le,fun j p q hj=>by rw[bW (by have:=(aX.mp hj).1;lia)];exact x.pre.raw j p q hj⟩,fun v hv=>?_,x.fh,x.cN,x.DE hl (by simp),x.fi,x.code,x.gens,x.os⟩,le⟩
 ·obtain⟨sl,e⟩:=x.dW p hp;exact⟨sl,kp _ _ (hF p hp) e⟩
 ·by_cases q:i=j
  ·subst q;rw[d0 hi]at cD;cases cD;have lW:=x.cells.2 i _ y hl hy;cases y<;>try exact False.elim lW
   exact⟨ho,hc⟩
  ·rw[bW q]at cD;refine(x.cells.2 j l y cD hy).cV (aC.refl _) le kt fun b hb p e=>kp b p (fun e2=>q ?_) e;exact oi x.om hl cD (by simp[Loc.aK]) (e2▸hb)
 ·rcases x.gx v hv with ⟨j,e,h1,h2⟩|q
  ·refine .inl ⟨j,e,h1,?_⟩;by_cases q:i=j
   ·subst q;rw[hl]at h2;cases h2
   ·rw[bW q];exact h2
  ·exact .inr q
theorem St.Sy(x:St G c I U J lv s)(hl:U[i]?=some (.raw a o))(hs:∀ b p,b≠a->s.heap.get? b=some p->h'.get? b=some p)(ba:c.de.length<=i) :
  St G c I (U.set i (.dead a)) J lv { s with heap:=h',toks:=tk }/\fz U (U.set i (.dead a)):=by
 have hi:=(aX.mp hl).1;have ha:a∈cK U:=eE.mpr ⟨_,eP hl,by simp[Loc.aK]⟩;have le:fz U (U.set i (.dead a)):=by
  unfold fz;rw[Cv];have:(U.map Loc.addr).set i (Loc.addr (.dead a))=U.map Loc.addr:=by
   apply q5;intro j;by_cases q:i=j
   ·subst q;rw[d0 (by simpa using hi),eS,hl];rfl
   ·rw[bW q]
  rw[this];exact yW _
 have sub:(owned c (U.set i (.dead a))).Sublist (owned c U):=by
  unfold owned;refine List.Sublist.cons₂ _ (tM (nK _) ?_);have key:∀ (l:List Loc) (i:Nat),(cK (l.set i (.dead a))).Sublist (cK l):=by
   intro l;induction l with
   |nil=>intro i;exact nK _
   |cons x r ih=>
    intro i;cases i with
    |zero=>
     show(List.flatMap Loc.aK (Loc.dead a :: r)).Sublist (List.flatMap Loc.aK (x :: r));rw[nM,nM];exact tM (T2 _) (nK _)
    |succ i=>
     show(List.flatMap Loc.aK (x :: r.set i (.dead a))).Sublist (List.flatMap Loc.aK (x :: r));rw[nM,nM];exact tM (nK _) (ih i)
  exact key U i
 have hI:∀ b p,I b=some p->b≠a:=fun b p e q=>by
  have:=x.fresh a (.tail _ (fb _ ha));rw[<-q,e]at this;cases this
 have nd:=x.nd;unfold owned at nd;have hL:c.L≠a:=fun q=>(dE.mp nd).1 (fb _ (q▸ha));have hF:∀ p∈c.fr,p.1≠a:=fun p hp q=>(jE.mp (dE.mp nd).2).2.2 p.1 (pd hp) a ha q;have kp:∀ b p,b≠a->s.heap.get? b=some p->h'.get? b=some p:=hs;obtain⟨m,⟨oL,es,ep,dT,r⟩,cQ⟩:=x.loc
 have kt:∀ T,dj s.heap T->dj h' T:=fun T ⟨oT,ts,h1,h2,h3⟩=>⟨oT,ts,kp T oT (fun q=>by
  obtain⟨p,e1,e2⟩:=x.cells.there ha
  rw[q,e1]at h1;cases h1;exact e2 ⟨h2,ts,h3.1⟩) h1,h2,h3⟩
 refine⟨⟨fun b p e=>kp b p (hI b p e) (x.im b p e),x.h0,x.above,⟨m,⟨oL,es,ep,kp _ _ hL dT,r⟩,cQ.cV (aC.refl _) le⟩,fun p hp=>?_,⟨by rw[ef];exact x.cells.1,fun j l y cD hy=>?_⟩,x.nd.sublist sub,fun b hb=>x.fresh b (sub.subset hb),x.fV,⟨o_ x.pre.ad le,fun j p q hj=>by rw[bW (by have:=(aX.mp hj).1;lia)];exact x.pre.raw j p q hj⟩,fun v hv=>?_,x.fh,x.cN,x.DE hl (by simp),x.fi,x.code,x.gens,x.os⟩,le⟩
 ·obtain⟨sl,e⟩:=x.dW p hp;exact⟨sl,kp _ _ (hF p hp) e⟩
 ·by_cases q:i=j
  ·subst q;rw[d0 hi]at cD;cases cD;have lW:=x.cells.2 i _ y hl hy;cases y<;>try exact False.elim lW
   exact trivial
  ·rw[bW q]at cD;refine(x.cells.2 j l y cD hy).cV (aC.refl _) le kt fun b hb p e=>kp b p (fun e2=>q ?_) e;exact oi x.om hl cD (by simp[Loc.aK]) (e2▸hb)
 ·rcases x.gx v hv with ⟨j,e,h1,h2⟩|q
  ·refine .inl ⟨j,e,h1,?_⟩;by_cases q:i=j
   ·subst q;rw[hl]at h2;cases h2
   ·rw[bW q];exact h2
  ·exact .inr q
theorem St.EX(x:St G c I U J lv s)(hf:o.isFreed=false)(hc:o.cls≠.type "traceback") :
  St G c I (U++[.raw s.heap.objs.size o]) (J++[.raw]) lv { s with heap:=s.heap.push o,toks:=tk }:=by
 have x':=x.keep (tk:=tk) (h':=s.heap.push o) fun _ _ e=>bD _ e;refine x'.grow (x'.lL (by simp[Loc.aK]) fun a ha=>?_) (fun a ha=>?_) ⟨gN _ hf,.of hc⟩ rfl
 ·simp only[Loc.aK,b_]at ha;subst ha;exact x.new.2
 ·simp only[Loc.aK,b_]at ha;subst ha;exact x.new.1
end
inductive PE where
 |none
 |bool (b:Bool)
 |int (i:Int)
 |str (l:List Nat)
 |loc (i:Nat)
 |cvar (i:Nat)
 |glob (v:V)
 |tup (l:List PE)
 |list (l:List PE)
 |bin (o:Dd) (a b:PE)
 |neg (a:PE)
 |not (a:PE)
 |and (l:List PE)
 |or (l:List PE)
 |cmp (o:zu) (a b:PE)
 |o4 (a b c:PE)
 |ite (t a b:PE)
 |idx (a i:PE)
 |sl (a lo hi:PE)
 |attr (a:PE) (n:Nm)
 |call (f:PE) (as:List PE)
 |ai (a:PE) (n:Nm) (as:List PE)
 |nE (ks:List (List Nat)) (vs:List V)
 |qO (ks:List Int) (vs:List V)
 |joinRev (sep:List Nat) (a:PE)
 |oy
 |tv
 |ou
 |nX (a b:PE)
 |BY (a b:PE)
 |yF (a b:PE)
inductive Fl where
 |next
 |ret (v:V)
inductive PS where
 |assign (i:Nat) (e:PE)
 |iE (is:List Nat) (e:PE)
 |setattr (o:PE) (n:Nm) (e:PE)
 |pW (o i e:PE)
 |aE (t:PE) (a b:List PS)
 |fP (t:PE) (b:List PS)
 |oW (i:Nat) (e:PE) (b:List PS)
 |forR (i:Nat) (lo hi:PE) (b:List PS)
 |qI (i j:Nat) (e:PE) (b:List PS)
 |ti (i j:Nat) (e:PE) (b:List PS)
 |ret (e:PE)
 |expr (e:PE)
 |raise (e:PE)
 |nU (b:List PS) (i:Nat) (h:List PS)
 |pO (b:List PS) (i:Nat) (e:PE)
 |ur
 |xt (b:List PS)
abbrev Ev(α:Type):=LC->Option (Except Nat α×LC)
abbrev LV:=List (Option V)
abbrev Ex:=LV->LC->Option (Except Nat Fl×LV×LC)
noncomputable def Ev.ret{α:Type}(a:α):Ev α:=fun J=>some (.ok a,J)
noncomputable def Ev.bind{α β:Type}(m:Ev α)(f:α->Ev β):Ev β:=fun J=>match m J with
 |some (.ok a,J')=>f a J'
 |some (.error i,J')=>some (.error i,J')
 |none=>none
noncomputable def Ev.fail{α:Type}:Ev α:=fun _=>none
mutual
noncomputable def cU:V->Bool
 |.none=>true
 |.int _=>true
 |.str _=>true
 |.tup l=>fS l
 |_=>false
noncomputable def fS:List V->Bool
 |[]=>true
 |x :: r=>cU x&&fS r
end
mutual
noncomputable def cZ:V->Nat
 |.tup l=>iD l+1
 |_=>0
noncomputable def iD:List V->Nat
 |[]=>0
 |x :: r=>max (cZ x) (iD r)
end
mutual
noncomputable def dz:V->V->Bool
 |.none,.none=>true
 |.int a,.int b=>decide (a=b)
 |.str a,.str b=>decide (a=b)
 |.tup a,.tup b=>mz a b
 |_,_=>false
noncomputable def mz:List V->List V->Bool
 |[],[]=>true
 |x :: r,y :: t=>dz x y&&mz r t
 |_,_=>false
end
def tu(x y:V):Option Bool:=match x,y with
 |.bool a,.bool b=>some (a==b)
 |.str a,.str b=>some (decide (a=b))
 |.int a,.int b=>some (decide (a=b))
 |x,y=>if cU x&&cU y&&decide (min (cZ x) (cZ y)<=90) then some (dz x y) else none
noncomputable def small(i:Int):Bool:=decide (i.natAbs<2 ^ 62)
noncomputable def short{α:Type}(l:List α):Bool:=decide (l.length<=1048576)
noncomputable def cH(sub l:List Nat):Bool:=match l with
 |[]=>sub.isEmpty
 |x :: r=>sub.isPrefixOf (x :: r)||cH sub r
theorem iC{c:Prop}[Decidable c]{α:Type}{f:c->Option α}{a:α}(h:(if h:c then f h else none)=some a):∃ hc:c,f hc=some a:=by
 by_cases hc:c
 ·exact⟨hc,(dif_pos hc).symm.trans h⟩
 ·exact ck ((dif_neg hc).symm.trans h)
noncomputable def Ib(x:V):Option Bool:=if h:x.ctorIdx=1 then V.bool.elim x h some else none
theorem aiE(h:Ib x=some i):x=.bool i:=
 let ⟨hc,h⟩:=iC h
 V.bool.elim (motive_1:=fun x=>∀ hc:x.ctorIdx=1,V.bool.elim x hc some=some i->x=.bool i) x hc (fun j _ h=>congrArg V.bool (aU h)) hc h
noncomputable def tF(x:V):Option Int:=if h:x.ctorIdx=2 then V.int.elim x h some else none
theorem Ia(h:tF x=some i):x=.int i:=
 let ⟨hc,h⟩:=iC h
 V.int.elim (motive_1:=fun x=>∀ hc:x.ctorIdx=2,V.int.elim x hc some=some i->x=.int i) x hc (fun j _ h=>congrArg V.int (aU h)) hc h
noncomputable def Cg(x:V):Option (List Nat):=if h:x.ctorIdx=3 then V.str.elim x h some else none
theorem TM(h:Cg x=some i):x=.str i:=
 let ⟨hc,h⟩:=iC h
 V.str.elim (motive_1:=fun x=>∀ hc:x.ctorIdx=3,V.str.elim x hc some=some i->x=.str i) x hc (fun j _ h=>congrArg V.str (aU h)) hc h
noncomputable def yP(x:V):Option Nat:=if h:x.ctorIdx=6 then V.ref.elim x h some else none
theorem H_(h:yP x=some i):x=.ref i:=
 let ⟨hc,h⟩:=iC h
 V.ref.elim (motive_1:=fun x=>∀ hc:x.ctorIdx=6,V.ref.elim x hc some=some i->x=.ref i) x hc (fun j _ h=>congrArg V.ref (aU h)) hc h
noncomputable def yO(x:V):Option (List V):=if h:x.ctorIdx=4 then V.tup.elim x h some else none
theorem TL(h:yO x=some i):x=.tup i:=
 let ⟨hc,h⟩:=iC h
 V.tup.elim (motive_1:=fun x=>∀ hc:x.ctorIdx=4,V.tup.elim x hc some=some i->x=.tup i) x hc (fun j _ h=>congrArg V.tup (aU h)) hc h
noncomputable def i9(x:Cell):Option (List V):=if h:x.ctorIdx=0 then Cell.lst.elim x h some else none
theorem Ci(h:i9 x=some i):x=.lst i:=
 let ⟨hc,h⟩:=iC h
 Cell.lst.elim (motive:=fun x=>∀ hc:x.ctorIdx=0,Cell.lst.elim x hc some=some i->x=.lst i) x hc (fun j _ h=>congrArg Cell.lst (aU h)) hc h
noncomputable def qY(x:Cell):Option (Cl×List V):=if h:x.ctorIdx=1 then Cell.ins.elim x h (fun c l=>some (c,l)) else none
theorem TO(h:qY x=some i):x=.ins i.1 i.2:=
 let ⟨hc,h⟩:=iC h
 Cell.ins.elim (motive:=fun x=>∀ hc:x.ctorIdx=1,Cell.ins.elim x hc (fun c l=>some (c,l))=some i->x=.ins i.1 i.2) x hc (fun c l _ h=>aU h▸rfl) hc h
theorem yN{α:Type}{o:Option Cell}{f:Cell->Option α}{a:α}(h:o.bind f=some a):∃ x,o=some x/\f x=some a:=f6.mp h
noncomputable def uY(x:V):Bool:=Nat.beq x.ctorIdx 0
theorem ad8(h:uY x=true):x=.none:=V.none.elim (motive_1:=fun x=>x=.none) x (Ij h) rfl
noncomputable def lQ(x:V):Bool:=Nat.beq x.ctorIdx 13
def aF{α:Type}(b:Bool)(m:Ev α):Ev α:=match b with
 |true=>m
 |false=>Ev.fail
def aS{α β:Type}(o:Option α)(f:α->Ev β):Ev β:=match o with
 |some a=>f a
 |none=>Ev.fail
def cT{α:Type}(x:V)(f:Int->Ev α):Ev α:=aS (tF x) f
def onStr{α:Type}(x:V)(f:List Nat->Ev α):Ev α:=aS (Cg x) f
def Aj{α:Type}(x:V)(f:Bool->Ev α):Ev α:=aS (Ib x) f
def iP{α:Type}(x:V)(f:Nat->Ev α):Ev α:=aS (yP x) f
def uH{α:Type}(x:V)(m:Ev α):Ev α:=aF (uY x) m
def bt{α:Type}(i:Nat)(f:List V->Ev α):Ev α:=fun J=>aS (J[i]?.bind i9) f J
def mY(l:List V):Ev V:=aF (short l) fun J=>some (.ok (.ref J.length),J++[.lst l])
def EL{α:Type}(as:List V)(f:V->List V->Ev α):Ev α:=match as with
 |[]=>Ev.fail
 |x :: r=>f x r
def on0{α:Type}(as:List V)(m:Ev α):Ev α:=match as with
 |[]=>m
 |_ :: _=>Ev.fail
def mW{α:Type}(as:List V)(f:V->Ev α):Ev α:=EL as fun x r=>on0 r (f x)
def oa{α:Type}(as:List V)(f:V->V->Ev α):Ev α:=EL as fun x r=>mW r (f x)
def Np{α:Type}(as:List V)(f:V->V->V->Ev α):Ev α:=EL as fun x r=>oa r (f x)
def VZ(x y:V):Ev V:=match x with
 |.int a=>cT y fun b=>Ev.ret (.int (a+b))
 |.str a=>onStr y fun b=>aF (short (a++b)) (Ev.ret (.str (a++b)))
 |.ref i=>iP y fun j=>bt i fun a=>bt j fun b=>mY (a++b)
 |_=>Ev.fail
def c_(o:Dd)(x y:V):Ev V:=match o with
 |.add=>VZ x y
 |.sub=>cT x fun a=>cT y fun b=>Ev.ret (.int (a-b))
 |.mul=>cT x fun a=>cT y fun b=>aF (small a||small b) (Ev.ret (.int (a*b)))
 |.fdiv=>cT x fun a=>cT y fun b=>aF (decide (0<b/\b<1073741824)) (Ev.ret (.int (a / b)))
 |.mod=>cT x fun a=>cT y fun b=>aF (decide (0<b)) (Ev.ret (.int (a % b)))
 |.pow=>cT x fun a=>cT y fun b=>aF (decide (small a=true/\0<=b/\b<=1000000)) (Ev.ret (.int (a ^ b.toNat)))
def ir(x:V)(l:List V):Option Bool:=if fS l&&cU x&&decide (min (iD l) (cZ x)<=90) then some (l.any fun y=>dz y x) else none
def A2(x y:V)(n:Bool):Ev V:=match y with
 |.str b=>onStr x fun a=>Ev.ret (.bool (cH a b ^^ n))
 |.tup l=>aS (ir x l) fun b=>Ev.ret (.bool (b ^^ n))
 |.ref i=>aF (!n) (bt i fun l=>aS (ir x l) fun b=>Ev.ret (.bool b))
 |.cz ks _=>onStr x fun a=>Ev.ret (.bool (ks.contains a ^^ n))
 |_=>Ev.fail
def bj(o:zu)(x y:V):Ev V:=match o with
 |.eq=>aS (tu x y) fun b=>Ev.ret (.bool b)
 |.ne=>aS (tu x y) fun b=>Ev.ret (.bool !b)
 |.lt=>cT x fun a=>cT y fun b=>Ev.ret (.bool (decide (a<b)))
 |.le=>cT x fun a=>cT y fun b=>Ev.ret (.bool (decide (a<=b)))
 |.gt=>cT x fun a=>cT y fun b=>Ev.ret (.bool (decide (a>b)))
 |.ge=>cT x fun a=>cT y fun b=>Ev.ret (.bool (decide (a≥b)))
 |.dR=>uH y (aF (!lQ x) (Ev.ret (.bool (uY x))))
 |.sM=>uH y (aF (!lQ x) (Ev.ret (.bool !(uY x))))
 |.isIn=>A2 x y false
 |.ig=>A2 x y true
noncomputable def getD(ks:List (List Nat))(vs:List V)(k:List Nat):Option V:=match ks,vs with
 |a :: ks,v :: vs=>if a=k then some v else getD ks vs k
 |_,_=>none
noncomputable def GG(ks:List Int)(vs:List V)(k:Int):Option V:=match ks,vs with
 |a :: ks,v :: vs=>if a=k then some v else GG ks vs k
 |_,_=>none
noncomputable def iu(i:Int):Bool:=decide (0<=i/\i<1048576)
def eM(a i:V):Ev V:=match a with
 |.tup l=>cT i fun i=>aF (iu i) (aS l[i.toNat]? Ev.ret)
 |.str l=>cT i fun i=>aF (iu i) (aS l[i.toNat]? fun v=>Ev.ret (.str [v]))
 |.ref j=>cT i fun i=>bt j fun l=>aF (iu i) (aS l[i.toNat]? Ev.ret)
 |.cz ks vs=>onStr i fun k=>aS (getD ks vs k) Ev.ret
 |.gZ ks vs=>cT i fun k=>aS (GG ks vs k) Ev.ret
 |_=>Ev.fail
noncomputable def cut{α:Type}(l:List α)(lo hi:Nat):List α:=(l.take hi).drop lo
def qV(v:V)(d:Nat):Option Nat:=match v with
 |.none=>some d
 |.int i=>if iu i then some i.toNat else none
 |_=>none
def mV{α:Type}(v:V)(d:Nat)(f:Nat->Ev α):Ev α:=aS (qV v d) f
def dA(a lo hi:V):Ev V:=match a with
 |.str l=>mV lo 0 fun x=>mV hi l.length fun y=>aF (short l) (Ev.ret (.str (cut l x y)))
 |.tup l=>cT lo fun i=>uH hi (aF (decide (1<=i/\i<=l.length/\short l=true)) (Ev.ret (.tup (l.drop i.toNat))))
 |.ref i=>bt i fun l=>mV lo 0 fun x=>mV hi l.length fun y=>aF (short l) fun J=>some (.ok (.ref J.length),J++[.lst (cut l x y)])
 |.eC l=>mV lo 0 fun x=>mV hi l.length fun y=>aF (short l) fun J=>some (.ok (.ref J.length),J++[.lst (cut l x y)])
 |_=>Ev.fail
def dX(c:Cl)(n:Nm):Option Nat:=(ec c).findIdx? (·==n)
def Ce(J:LC)(a:V)(n:Nm):Option V:=match a with
 |.obj c l=>match dX c n with
  |some k=>l[k]?
  |none=>none
 |.ref i=>match J[i]?.bind qY with
  |some (c,l)=>match dX c n with
   |some k=>l[k]?
   |none=>none
  |none=>none
 |_=>none
def bB(x:V)(n:Nm):Ev V:=fun J=>aS (Ce J x n) (fun v=>aF (!lQ v) (Ev.ret v)) J
def gh(x:V):Ev Bool:=match x with
 |.none=>Ev.ret false
 |.bool b=>Ev.ret b
 |.int i=>Ev.ret (decide (i≠0))
 |.str l=>aF (short l) (Ev.ret !l.isEmpty)
 |.ref i=>bt i fun l=>aF (short l) (Ev.ret !l.isEmpty)
 |_=>Ev.fail
def BX:List (Nm×Nat):=[(.either,404),(.both,411),(.turned,418),(.single,425),(.rL,432),(.u3,439),(.rR,446),(.zT,453),(.Af,460),(.se,467),(.zU,474)]
def Ab:List (Nm×Nat):=[(.peek,573),(.fault,587),(.take,594),(.gU,602),(.isWord,609),(.skip,616),(.oneOf,630),(.word,637),(.isName,645),(.name,652),(.isSign,667),(.lC,674),(.needSign,681),(.isNumber,688),(.signed,695),(.octets,716)]
noncomputable def m8:Cl->Nm->Option Nat
 |.token=>fun _=>none
 |.reader=>fun n=>Ab.lookup n
 |.fu=>fun n=>BX.lookup n
theorem Fc:∀ {l:List (Nm×Nat)},l.lookup n=some a->n∈l.map (·.1)
 |[]=>fun h=>ck h
 |(m,b) :: l=>fun h=>by
  rw[f5]at h;cases e:n==m with
  |true=>rw[eq_of_beq e];exact .head _
  |false=>rw[e]at h;exact .tail _ (Fc h)
theorem NT(h:m8 c n=some a):n∈(Ab++BX).map (·.1):=by
 rw[j_];cases c with
 |token=>exact ck h
 |reader=>exact vW _ (Fc h)
 |fu=>exact fb _ (Fc h)
noncomputable def DS(n:Nm):Option Bi:=if n=.upper then some .rT else if n=.split then some .nV else if n=.join then some .nW else if n=.index then some .pS else none
noncomputable def xp(n:Nm):Option Bi:=if n=.append then some .cX else if n=.pop then some .lP else none
noncomputable def Hr(n:Nm):Option Bi:=if n=.get then some .dictGet else none
noncomputable def yJ(o:Option Bi):Option (V×Bool):=o.map fun b=>(.bi b,true)
def xD(c:Cl)(l:List V)(n:Nm):Option (V×Bool):=match dX c n with
 |some k=>match l[k]? with
  |some v=>if lQ v then none else some (v,false)
  |none=>none
 |none=>(m8 c n).map fun a=>(.fn a,true)
def yG(o:Option Cell)(n:Nm):Option (V×Bool):=match o with
 |some (.lst _)=>yJ (xp n)
 |some (.ins c l)=>xD c l n
 |_=>none
def bU(J:LC)(x:V)(n:Nm):Option (V×Bool):=match x with
 |.str _=>yJ (DS n)
 |.cz _ _=>yJ (Hr n)
 |.ref i=>yG J[i]? n
 |_=>none
noncomputable def kH(sep:List Nat):List (List Nat)->List Nat
 |[]=>[]
 |[x]=>x
 |x :: r=>x++sep++kH sep r
noncomputable def strsOf:List V->Option (List (List Nat))
 |[]=>some []
 |x :: r=>(Cg x).bind fun s=>(strsOf r).map (s :: ·)
noncomputable def oB:List V->Option (List Int)
 |[]=>some []
 |x :: r=>(tF x).bind fun s=>(oB r).map (s :: ·)
noncomputable def lB:List (List Nat×List (List Nat)):=[([79,82],[[79,82]]),([65,78,68],[[65,78,68]]),([65,76,76],[[65,76,76]]),([79,70,32,73,78],[[79,70],[73,78]]),([79,70],[[79,70]]),([73,78],[[73,78]]),
 ([73,83],[[73,83]]),([78,79,84],[[78,79,84]]),([84,79],[[84,79]]),([84,72,65,78],[[84,72,65,78]])]
noncomputable def Dn:List (List Nat×List Nat):=[([111,114],[79,82]),([97,110,100],[65,78,68])]
noncomputable def ER:List (Int×List Nat):=[(1,[49]),(5,[53])]
noncomputable def ym:List Nat:=[48,49,50,51,52,53,54,55,56,57]
def ac5(as:List V):Ev V:=mW as fun x=>match x with
 |.str l=>aF (short l) (Ev.ret (.int l.length))
 |.tup l=>aF (short l) (Ev.ret (.int l.length))
 |.ref i=>bt i fun l=>aF (short l) (Ev.ret (.int l.length))
 |_=>Ev.fail
def aiS(as:List V):Ev V:=mW as fun x=>cT x fun i=>Ev.ret (.int i.natAbs)
def Ay(as:List V):Ev V:=oa as fun x y=>cT x fun a=>cT y fun b=>Ev.ret (.int (if b<a then b else a))
def Lz(as:List V):Ev V:=mW as fun x=>iP x fun i=>bt i fun l=>aS (oB l) fun ns=>Ev.ret (.int ns.sum)
def listE(as:List V):Ev V:=mW as fun x=>match x with
 |.tup l=>mY l
 |.ref i=>bt i mY
 |_=>Ev.fail
def Xi(as:List V):Ev V:=mW as fun x=>iP x fun i=>bt i fun l=>aF (short l) (Ev.ret (.tup l))
def XZ(as:List V):Ev V:=mW as fun x=>cT x fun i=>aS (ER.lookup i) fun l=>Ev.ret (.str l)
def WR(as:List V):Ev V:=mW as fun x=>onStr x fun l=>aS (Dn.lookup l) fun l=>Ev.ret (.str l)
def Yb(as:List V):Ev V:=oa as fun x y=>onStr x fun l=>onStr y fun m=>aF (decide (m=[32])) (aS (lB.lookup l) fun ws J=>some (.ok (.ref J.length),J++[.lst (ws.map V.str)]))
noncomputable def qk(sep:List Nat)(ws:List (List Nat)):Bool:=decide ((ws.map List.length).sum+ws.length*sep.length<=1048576)
def adY(as:List V):Ev V:=oa as fun x y=>onStr x fun sep=>iP y fun i=>bt i fun l=>aS (strsOf l) fun ws=>aF (qk sep ws) (Ev.ret (.str (kH sep ws)))
noncomputable def Q9(m:List Nat):Option Nat:=match m with
 |[]=>none
 |c :: r=>if r.isEmpty=true/\48<=c/\c<=57 then some c else none
def aeb(as:List V):Ev V:=oa as fun x y=>onStr x fun l=>onStr y fun m=>aF (decide (l=ym)) (aS (Q9 m) fun c=>Ev.ret (.int ((c:Int)-48)))
noncomputable def uv(i:Nat)(l:List V)(v:V):Ev V:=fun J=>some (.ok v,J.set i (.lst l))
def aiI(as:List V):Ev V:=oa as fun x v=>iP x fun i=>bt i fun l=>aF (short l&&low i v) (uv i (l++[v]) .none)
def abI(as:List V):Ev V:=mW as fun x=>iP x fun i=>bt i fun l=>aF (short l) (aS l.getLast? fun v=>uv i l.dropLast v)
def afl(as:List V):Ev V:=Np as fun x y d=>match x with
 |.cz ks vs=>onStr y fun k=>match getD ks vs k with
  |some v=>Ev.ret v
  |none=>aF (!(ks.contains k)) (Ev.ret d)
 |_=>Ev.fail
def cw:Bi->List V->Ev V
 |.len=>ac5
 |.abs=>aiS
 |.min=>Ay
 |.sum=>Lz
 |.list=>listE
 |.tuple=>Xi
 |.str=>XZ
 |.rT=>WR
 |.nV=>Yb
 |.nW=>adY
 |.pS=>aeb
 |.cX=>aiI
 |.lP=>abI
 |.dictGet=>afl
def m_(sep:List Nat)(x:V):Ev V:=iP x fun i=>bt i fun l=>aF (short l) (aS (strsOf l.reverse) fun ws=>aF (qk sep ws) (Ev.ret (.str (kH sep ws))))
mutual
noncomputable def dat:V->PyData
 |.int i=>.int i
 |.str l=>.str (S l)
 |.tup l=>.tuple (Hs l)
 |_=>.none
noncomputable def Hs:List V->List PyData
 |[]=>[]
 |x :: r=>dat x :: Hs r
end
noncomputable def isTup:V->Bool
 |.tup _=>true
 |_=>false
noncomputable def Zp(d:PyData):Bool:=d.showable&&!d.hasDict&&Nat.ble d.depth 90&&(d.leavesShort 100&&Nat.ble d.weight 10000)
def pV(x:V):Bool:=isTup x&&Zp (dat x)
def mD(x y:V):Ev V:=iP x fun i=>iP y fun j=>bt i fun a=>bt j fun b=>aF (fS a&&mz a b&&Nat.ble (iD a) 90&&a.all pV&&Nat.blt a.length 64) (Ev.ret (.bool false))
noncomputable def m9(found:List V):List V->Option (List V)
 |[]=>some []
 |x :: r=>(ir x found).bind fun b=>(m9 found r).bind fun l=>some (if b then l else x :: l)
def yE(x y:V):Ev V:=iP x fun i=>iP y fun j=>bt i fun a=>bt j fun b=>aF (short a) (aS (m9 b a) fun l J=>some (.ok (.ref J.length),J++[.lst l]))
abbrev ay:=Nat->List V->Ev V
def cI:ay:=fun _ _=>Ev.fail
def mi(O:ay)(f:V)(as:List V):Ev V:=match f with
 |.fn a=>if a<1000000 then O a as else Ev.fail
 |.bi .min=>O 1000000 as
 |.bi .sum=>O 1000001 as
 |.bi n=>cw n as
 |.lam=>O 1000002 as
 |_=>Ev.fail
def E6(O:ay)(x:V)(n:Nm)(m:Ev (List V)):Ev V:=fun J=>aS (bU J x n) (fun p=>m.bind fun vs=>mi O p.1 (cond p.2 (x :: vs) vs)) J
mutual
noncomputable def aO(O:ay)(lv:LV)(cv:LV):PE->Ev V
 |.none=>Ev.ret .none
 |.bool b=>Ev.ret (.bool b)
 |.int i=>Ev.ret (.int i)
 |.str l=>Ev.ret (.str l)
 |.loc i=>aS (lv[i]?.join) Ev.ret
 |.cvar i=>aS (cv[i]?.join) Ev.ret
 |.glob v=>Ev.ret v
 |.tup l=>(oY O lv cv l).bind fun vs=>aF (short vs) (Ev.ret (.tup vs))
 |.list l=>(oY O lv cv l).bind mY
 |.bin o a b=>(aO O lv cv a).bind fun x=>(aO O lv cv b).bind fun y=>c_ o x y
 |.neg a=>(aO O lv cv a).bind fun x=>cT x fun i=>Ev.ret (.int (-i))
 |.not a=>(aO O lv cv a).bind fun x=>(gh x).bind fun b=>Ev.ret (.bool !b)
 |.and l=>evalAnd O lv cv l
 |.or l=>evalOr O lv cv l
 |.cmp o a b=>(aO O lv cv a).bind fun x=>(aO O lv cv b).bind fun y=>bj o x y
 |.o4 _ _ _=>Ev.fail
 |.ite t a b=>(dh O lv cv t).bind fun r=>cond r (aO O lv cv a) (aO O lv cv b)
 |.idx a i=>(aO O lv cv a).bind fun x=>(aO O lv cv i).bind fun y=>eM x y
 |.sl a lo hi=>(aO O lv cv a).bind fun x=>(aO O lv cv lo).bind fun y=>(aO O lv cv hi).bind fun z=>dA x y z
 |.attr a n=>(aO O lv cv a).bind fun x=>bB x n
 |.call f as=>(aO O lv cv f).bind fun g=>(oY O lv cv as).bind fun vs=>mi O g vs
 |.ai a n as=>(aO O lv cv a).bind fun x=>E6 O x n (oY O lv cv as)
 |.nE ks vs=>Ev.ret (.cz ks vs)
 |.qO ks vs=>Ev.ret (.gZ ks vs)
 |.joinRev sep a=>(aO O lv cv a).bind fun x=>m_ sep x
 |.oy=>Ev.ret .fE
 |.tv=>Ev.ret .fE
 |.ou=>Ev.ret .lam
 |.nX a b=>(aO O lv cv a).bind fun x=>(aO O lv cv b).bind fun y=>mD x y
 |.BY a b=>(aO O lv cv a).bind fun x=>(aO O lv cv b).bind fun y=>yE x y
 |.yF _ _=>Ev.fail
noncomputable def oY(O:ay)(lv:LV)(cv:LV):List PE->Ev (List V)
 |[]=>Ev.ret []
 |e :: r=>(aO O lv cv e).bind fun x=>(oY O lv cv r).bind fun xs=>Ev.ret (x :: xs)
noncomputable def evalAnd(O:ay)(lv:LV)(cv:LV):List PE->Ev V
 |[]=>Ev.fail
 |e :: r=>match r with
  |[]=>aO O lv cv e
  |_ :: _=>(aO O lv cv e).bind fun x=>(gh x).bind fun b=>cond b (evalAnd O lv cv r) (Ev.ret x)
noncomputable def evalOr(O:ay)(lv:LV)(cv:LV):List PE->Ev V
 |[]=>Ev.fail
 |e :: r=>match r with
  |[]=>aO O lv cv e
  |_ :: _=>(aO O lv cv e).bind fun x=>(gh x).bind fun b=>cond b (Ev.ret x) (evalOr O lv cv r)
noncomputable def dh(O:ay)(lv:LV)(cv:LV):PE->Ev Bool
 |.not a=>(dh O lv cv a).bind fun b=>Ev.ret !b
 |.and l=>zH O lv cv l
 |.or l=>zG O lv cv l
 |.ite _ _ _=>Ev.fail
 |.cmp o a b=>((aO O lv cv a).bind fun x=>(aO O lv cv b).bind fun y=>bj o x y).bind fun z=>Aj z Ev.ret
 |.bool b=>Ev.ret b
 |.o4 a b c=>(aO O lv cv a).bind fun x=>(aO O lv cv b).bind fun y=>onStr x fun p=>onStr y fun q=>cond (decide (q<p)) (Ev.ret false) ((aO O lv cv c).bind fun z=>onStr z fun r=>Ev.ret (!decide (r<q)))
 |.loc i=>(aS (lv[i]?.join) Ev.ret).bind gh
 |.attr a n=>((aO O lv cv a).bind fun x=>bB x n).bind gh
 |.call f as=>((aO O lv cv f).bind fun g=>(oY O lv cv as).bind fun vs=>mi O g vs).bind gh
 |.ai a n as=>((aO O lv cv a).bind fun x=>E6 O x n (oY O lv cv as)).bind gh
 |.nX a b=>((aO O lv cv a).bind fun x=>(aO O lv cv b).bind fun y=>mD x y).bind gh
 |_=>Ev.fail
noncomputable def zH(O:ay)(lv:LV)(cv:LV):List PE->Ev Bool
 |[]=>Ev.ret true
 |e :: r=>(dh O lv cv e).bind fun b=>cond b (zH O lv cv r) (Ev.ret false)
noncomputable def zG(O:ay)(lv:LV)(cv:LV):List PE->Ev Bool
 |[]=>Ev.ret false
 |e :: r=>(dh O lv cv e).bind fun b=>cond b (Ev.ret true) (zG O lv cv r)
end
section
set_option backward.match.sparseCases true
def aiV(L:Addr)(h:Heap)(v:Value):Prop:=v=.none∨∃ T oT ts,v=.ref T/\h.get? T=some oT/\oT.data=.fields ts/\(ts[3]?=some .none∨ts[3]?=some (rawInt L))
def zr(L:Addr)(h:Heap)(e:Addr):Prop:=∀ oe vs v1,h.get? e=some oe->oe.data=.fields vs->vs[1]?=some v1->aiV L h v1
noncomputable abbrev GI.M(G:GI):Model:=model G.prog G.w
structure bH(G:GI):Prop where
 K:G.K.In G.H
 big:sysModules<G.H.objs.size
 lim:G.H.NoLimit
 lam:∃ mg:Str->Option Value,G.H.Ns mainGlobals mg/\∀ P,G.H.get? P=none->G.H.BuiltinsAt mg P
 top:∃ (loose:List Str) (mg mb:Str->Option Value),TopRead G.prog loose mg mb G.H
structure Z(G:GI)(c:Cx)(J:LC)(lv:LV) where
 I:Im
 U:List Loc
 s:Shared
 st:St G c I U J lv s
structure Z.Le{G:GI}{c:Cx}{J J':LC}{lv aJ:LV}(z:Z G c J lv)(z':Z G c J' aJ):Prop where
 im:aC z.I z'.I
 loc:aA z.U z'.U
 sh:∃ h tk,z'.s={ z.s with heap:=h,toks:=tk }
theorem gR{s s' mG:Shared}(a:∃ h tk,s'={ s with heap:=h,toks:=tk })(b:∃ h tk,mG={ s' with heap:=h,toks:=tk }):∃ h tk,mG={ s with heap:=h,toks:=tk }:=by
 obtain⟨_,_,rfl⟩:=a;obtain⟨_,_,rfl⟩:=b;exact⟨_,_,rfl⟩
theorem Zu{s s':Shared}(a:∃ h tk,s'={ s with heap:=h,toks:=tk }){h:Heap}{tk:Nat}:∃ h' gF,({ s' with heap:=h,toks:=tk }:Shared)={ s with heap:=h',toks:=gF }:=gR a ⟨h,tk,rfl⟩
abbrev mv(α β:Type):=Im->List Loc->α->β->Prop
abbrev rh:mv Bool Bool:=fun _ _ a b=>b=a
abbrev Out(α:Type):=Option (Except Nat α×LC)
section
variable {G:GI}{c:Cx}{J J' aj:LC}{lv aJ fT:LV}{α β γ δ:Type}{Rep:mv α β}{z:Z G c J lv}{o:Out α}{Q:β->Shared->Prop}{E:VP}{I:Im}{U:List Loc}{P:Prop}
theorem Z.Le.refl(z:Z G c J lv):z.Le z:=⟨aC.refl _,aA.refl _,_,_,rfl⟩
theorem Z.Le.trans{z:Z G c J lv}(a:z.Le z1)(b:z1.Le z2):z.Le z2:=
 ⟨a.im.trans b.im,a.loc.trans b.loc,gR a.sh b.sh⟩
theorem Z.Le.rep{z:Z G c J lv}(l:z.Le z1)(r:ao G z.I z.U x v):ao G z1.I z1.U x v:=r.mono l.im l.loc
theorem Z.Le.MO{z:Z G c J lv}(l:z.Le z1)(r:av G z.I z.U x v):av G z1.I z1.U x v:=r.mono l.im l.loc
noncomputable abbrev Z.go(z:Z G c J lv){h:Heap}{tk:Nat}{I:Im}{U:List Loc}(st:St G c I U J' aJ { z.s with heap:=h,toks:=tk }):Z G c J' aJ:=⟨I,U,{ z.s with heap:=h,toks:=tk },st⟩
theorem Z.ez{z:Z G c J lv}{h:Heap}{tk:Nat}{I:Im}{U:List Loc}{st:St G c I U J' aJ { z.s with heap:=h,toks:=tk }}(a:aC z.I I)(b:aA z.U U):z.Le (z.go st):=⟨a,b,h,tk,rfl⟩
def eT(z:Z G c J lv)(i:Nat)(v:Value):Prop:=∃ e,v=.ref e/\z.U[i]?=some (.exc e)/\zr c.L z.s.heap e
def KO(Rep:mv α β)(z:Z G c J lv)(o:Out α)(Q:β->Shared->Prop)(E:VP):Prop:=match o with
 |none=>False
 |some (.ok x,J')=>∀ b (z':Z G c J' lv),z.Le z'->Rep z'.I z'.U x b->Q b z'.s
 |some (.error i,J')=>∀ e (z':Z G c J' lv),z.Le z'->eT z' i e->E e z'.s
theorem KO.shift{z1:Z G c J' lv}(h:KO Rep z o Q E)(l:z.Le z1):KO Rep z1 o Q E:=
 match o with
 |none=>h
 |some (.ok _,_)=>fun b z' l' r=>h b z' (l.trans l') r
 |some (.error _,_)=>fun b z' l' r=>h b z' (l.trans l') r
theorem cy{Rep1:mv γ δ}{m:Ev γ}{f:γ->Ev α}{Q1:δ->Shared->Prop}
  (kv:KO Rep z (m.bind f J) Q E) (run:KO Rep1 z (m J) Q1 E->P)
  (h:∀ x aa b (z1:Z G c aa lv),z.Le z1->Rep1 z1.I z1.U x b->KO Rep z1 (f x aa) Q E->Q1 b z1.s):P:=by
 refine run ?_;unfold Ev.bind at kv;cases e:m J with
 |none=>rw[e]at kv;exact kv
 |some q=>
  obtain⟨r,aa⟩:=q;rw[e]at kv;cases r with
  |ok x=>exact fun b z' l r=>h x aa b z' l r (kv.shift l)
  |error i=>exact kv
theorem KO.done(kv:KO Rep z (some (.ok x,J)) Q E)(r:Rep z.I z.U x b):Q b { z.s with toks:=tk }:=
 kv b (z.go (h:=z.s.heap) z.st.toks) (Z.ez (aC.refl _) (aA.refl _)) r
theorem KO.eN(kv:KO Rep z (some (.ok x,J)) Q E)(r:Rep z.I z.U x b):Q b z.s:=kv b z (.refl z) r
theorem KO.new{J':LC}(kv:KO Rep z (some (.ok x,J')) Q E){I:Im}{U:List Loc}(st:St G c I U J' lv { z.s with heap:=h,toks:=tk })(i:aC z.I I)(l:aA z.U U)(r:Rep I U x b):Q b { z.s with heap:=h,toks:=tk }:=
 kv b (z.go st) (Z.ez i l) r
theorem KO.bool{Q:VP}(kv:KO (ao G) z (some (.ok (.bool b),J)) Q E)(e:b'=b):Q (.bool b') { z.s with toks:=tk }:=kv.done (congrArg Value.bool e)
theorem KO.iZ{Q:VP}(kv:KO (ao G) z (some (.ok (.bool b),J)) Q E)(e:b'=b):Q (.bool b') z.s:=kv.eN (congrArg Value.bool e)
theorem KO.int{Q:VP}(kv:KO (ao G) z (some (.ok (.int i),J)) Q E)(e:j=i):Q (.int j t) { z.s with toks:=tk }:=kv.done (Exists.intro t (by rw[e]))
theorem KO.str{Q:VP}(kv:KO (ao G) z (some (.ok (.str l),J)) Q E):Q (.str (S l) t) { z.s with toks:=tk }:=kv.done (Exists.intro t rfl)
theorem cG(kv:KO Rep z (aF b m aj) Q E)(h:b=true->KO Rep z (m aj) Q E->P):P:=by
 cases b with
 |true=>exact h rfl kv
 |false=>exact kv.elim
theorem dk{o:Option γ}(kv:KO Rep z (aS o f aj) Q E)(h:∀ a,o=some a->KO Rep z (f a aj) Q E->P):P:=by
 cases o with
 |none=>exact kv.elim
 |some a=>exact h a rfl kv
theorem jr{P:Value->Prop}(kv:KO Rep z (cT x f aj) Q E)(rv:ao G I U x v)(h:∀ i t,KO Rep z (f i aj) Q E->P (.int i t)):P v:=
 dk kv fun i e kv=>by obtain rfl:=Ia e;obtain⟨t,rfl⟩:=rv;exact h _ t kv
theorem iq{P:Value->Prop}(kv:KO Rep z (onStr x f aj) Q E)(rv:ao G I U x v)(h:∀ l t,KO Rep z (f l aj) Q E->P (.str (S l) t)):P v:=
 dk kv fun i e kv=>by obtain rfl:=TM e;obtain⟨t,rfl⟩:=rv;exact h _ t kv
theorem adL{P:Value->Prop}(kv:KO Rep z (Aj x f aj) Q E)(rv:ao G I U x v)(h:∀ b,KO Rep z (f b aj) Q E->P (.bool b)):P v:=
 dk kv fun i e kv=>by obtain rfl:=aiE e;have rv:_=_:=rv;subst rv;exact h _ kv
theorem AK{P:Value->Prop}(kv:KO Rep z (uH x m aj) Q E)(rv:ao G I U x v)(h:KO Rep z (m aj) Q E->P .none):P v:=
 cG kv fun e kv=>by obtain rfl:=ad8 e;have rv:_=_:=rv;subst rv;exact h kv
theorem oz(kv:KO Rep z (iP x f aj) Q E){P:V->Prop}(h:∀ i,KO Rep z (f i aj) Q E->P (.ref i)):P x:=
 dk kv fun i e kv=>by obtain rfl:=H_ e;exact h _ kv
theorem TN{i:Nat}{l:List V}(h:J[i]?.bind i9=some l):J[i]?=some (.lst l):=by
 obtain⟨y,e,h⟩:=f6.mp h;obtain rfl:=Ci h;exact e
theorem DR:∀ {l:List V}{xs:List (List Nat)},strsOf l=some xs->l=xs.map V.str
 |[],xs=>fun h=>by obtain rfl:=aU h;rfl
 |v :: r,xs=>fun h=>by
  obtain⟨s,e,h⟩:=f6.mp h;obtain⟨l,h1,rfl⟩:=eO.mp h;rw[TM e,DR h1];rfl
theorem Fw:∀ {l:List V}{xs:List Int},oB l=some xs->l=xs.map V.int
 |[],xs=>fun h=>by obtain rfl:=aU h;rfl
 |v :: r,xs=>fun h=>by
  obtain⟨s,e,h⟩:=f6.mp h;obtain⟨l,h1,rfl⟩:=eO.mp h;rw[Ia e,Fw h1];rfl
theorem d8(h:J[i]?=some (.lst l)):bt i f J=f l J:=by show aS (J[i]?.bind i9) f J=_;rw[h];rfl
structure LstAt(z:Z G c J lv)(i:Nat)(l:List V)(a:Addr)(vs:List Value)(n:Nat):Prop where
 dB:J[i]?=some (.lst l)
 gV:z.U[i]?=some (.lst a)
 ho:z.s.heap.get? a=some (listOf vs.toArray n)
 rs:av G z.I z.U l vs
theorem LstAt.is(h:LstAt z i l a vs n):z.s.heap.IsList a vs.toArray:=⟨_,h.ho,rfl,n,rfl⟩
theorem av.length{I:Im}{U:List Loc}:∀ {l:List V}{vs:List Value},av G I U l vs->vs.length=l.length
 |[],_=>fun e=>by have e:_=_:=e;subst e;rfl
 |x :: r,_=>fun e=>by obtain⟨v,ws,rfl,_,h⟩:=e;simp only[qZ,av.length h]
theorem LstAt.size(h:LstAt z i l a vs n):vs.toArray.size=l.length:=by simp[h.rs.length]
theorem Z.lst(z:Z G c J lv)(h:J[i]?=some (.lst l))(rv:ao G z.I z.U (.ref i) v):∃ a vs n,v=.ref a/\LstAt z i l a vs n:=by
 obtain⟨lo,hr,rfl⟩:=rv;have hc:=z.st.cells.2 i lo _ hr h;cases lo<;>try exact False.elim hc
 rename_i a;obtain⟨vs,n,h1,h2⟩:=hc;exact⟨a,vs,n,rfl,h,hr,h1,h2⟩
theorem iS{P:Value->Prop}(kv:KO Rep z (bt i f J) Q E)(rv:ao G z.I z.U (.ref i) v)(h:∀ l a vs n,LstAt z i l a vs n->KO Rep z (f l J) Q E->P (.ref a)):P v:=by
 refine dk kv fun l hl kv=>?_;obtain⟨a,vs,n,rfl,q⟩:=z.lst (TN hl) rv;exact h l a vs n q kv
theorem oA{P:List Value->Prop}(kv:KO Rep z (mW as f aj) Q E)(rs:av G I U as vs)(h:∀ x v,ao G I U x v->KO Rep z (f x aj) Q E->P [v]):P vs:=by
 cases as with
 |nil=>exact kv.elim
 |cons x r=>cases r with
  |cons=>exact kv.elim
  |nil=>obtain⟨v,ws,rfl,r,rfl⟩:=rs;exact h x v r kv
theorem qi{P:List Value->Prop}(kv:KO Rep z (oa as f aj) Q E)(rs:av G I U as vs)(h:∀ x y v u,ao G I U x v->ao G I U y u->KO Rep z (f x y aj) Q E->P [v,u]):P vs:=by
 cases as with
 |nil=>exact kv.elim
 |cons x r=>
  obtain⟨v,ws,rfl,rx,rs⟩:=rs;exact oA (P:=fun ws=>P (v :: ws)) kv rs fun y u ru kv=>h x y v u rx ru kv
theorem adK{P:List Value->Prop}(kv:KO Rep z (Np as f aj) Q E)(rs:av G I U as vs)(h:∀ x y x' v u v',ao G I U x v->ao G I U y u->ao G I U x' v'->KO Rep z (f x y x' aj) Q E->P [v,u,v']):P vs:=by
 cases as with
 |nil=>exact kv.elim
 |cons x r=>
  obtain⟨v,ws,rfl,rx,rs⟩:=rs;exact qi (P:=fun ws=>P (v :: ws)) kv rs fun y y' u u' ru ru' kv=>h x y y' v u u' rx ru ru' kv
end
def f_(c:Cx)(k:Nat):Prop:=c.A.depth+3*k+20<990/\c.A.units+16*k+100<9900/\(0<k->c.A.handled=none)
structure Ready(c:Cx)(k:Nat)(cs:Scope):Prop where
 cs:c.cs=cs
 ok:cx c
 rm:f_ c k
section
variable (G:GI)(O:ay)(k:Nat)(cs:Scope)
def SE(e:Expr)(pe:PE):Prop:=
 ∀ (c:Cx) J lv (z:Z G c J lv) Q E,Ready c k cs->KO (ao G) z (aO O lv c.cv pe J) Q E->wpAny G.M c.A (eval e c.env) Q E z.s
def ST(e:Expr)(pe:PE):Prop:=
 ∀ (c:Cx) J lv (z:Z G c J lv) Q E,Ready c k cs->KO rh z (dh O lv c.cv pe J) Q E->wpAny G.M c.A (isTrue e c.env (eval e c.env)) Q E z.s
def SL(es:List Expr)(dv:List PE):Prop:=
 ∀ (c:Cx) (pos:Pos) J lv (z:Z G c J lv) Q E,Ready c k cs->KO (av G) z (oY O lv c.cv dv J) Q E->wpAny G.M c.A (spliced (backTo pos (starEach es c.env))) Q E z.s
def S2(tree:Value->Value->Sem Value)(f:V->V->Ev V):Prop:=
 ∀ (c:Cx) J lv (z:Z G c J lv) x y v u Q E,f_ c k->ao G z.I z.U x v->ao G z.I z.U y u->KO (ao G) z (f x y J) Q E->wpAny G.M c.A (tree v u) Q E z.s
def zk:Prop:=
 ∀ (c:Cx) J lv (z:Z G c J lv) x v Q E,ao G z.I z.U x v->KO rh z (gh x J) Q E->wpAny G.M c.A (truthy v) Q E z.s
def zp(es:List Expr)(dv:List PE):Prop:=
 ∀ (c:Cx) J lv (z:Z G c J lv) Q E,Ready c k cs->KO rh z (zH O lv c.cv dv J) Q E->wpAny G.M c.A (allTrue .And es c.env) Q E z.s
def zl(es:List Expr)(dv:List PE):Prop:=
 ∀ (c:Cx) J lv (z:Z G c J lv) Q E,Ready c k cs->KO rh z (zG O lv c.cv dv J) Q E->wpAny G.M c.A (allTrue .Or es c.env) Q E z.s
def zo(es:List Expr)(dv:List PE):Prop:=
 ∀ (c:Cx) pos J lv (z:Z G c J lv) Q E,Ready c k cs->KO (ao G) z (evalAnd O lv c.cv dv J) Q E->wpAny G.M c.A (boolOp pos .And (evalEach es c.env)) Q E z.s
def zm(es:List Expr)(dv:List PE):Prop:=
 ∀ (c:Cx) pos J lv (z:Z G c J lv) Q E,Ready c k cs->KO (ao G) z (evalOr O lv c.cv dv J) Q E->wpAny G.M c.A (boolOp pos .Or (evalEach es c.env)) Q E z.s
end
noncomputable def iU(e:Expr)(n:Nat):Bool:=Nat.beq e.ctorIdx n
def eH(e:Expr):Bool:=!iU e 22
section
variable {G:GI}{O:ay}{k:Nat}{cs:Scope}
theorem gQ{rest:List Expr}(h:eH e=true):starEach (e :: rest) env=(false,eval e env) :: starEach rest env:=by
 cases e<;>first|rfl|cases h
theorem L7:SL G O k cs [] []:=fun c pos J lv z Q E rd kv=>nJ (kv.eN rfl)
theorem YC(he:SE G O k cs e pe)(hs:SL G O k cs es dv)(hu:eH e=true):SL G O k cs (e :: es) (pe :: dv):=
 fun c pos J lv z Q E rd kv=>by
 refine ka ?_ (gQ hu);refine cy kv (he c _ _ z _ _ rd) fun x aa v z1 l1 rv bb=>?_;refine cy bb (hs c pos _ _ z1 _ _ rd) fun xs aj vs z2 l2 ux eA=>?_;exact eA.eN (Exists.intro v ⟨vs,rfl,l2.rep rv,ux⟩)
theorem YJ{o:Dd}(ha:SE G O k cs l a)(hb:SE G O k cs rr b)(hp:S2 G k (binaryOp op) (c_ o)) :
  SE G O k cs (.BinOp l op rr pos) (.bin o a b):=fun c J lv z Q E rd kv=>by
 refine yV ?_;refine cy kv (ha c _ _ z _ _ rd) fun x aa v z1 l1 rv bb=>?_;refine cy bb (hb c _ _ z1 _ _ rd) fun y aj u z2 l2 ru eA=>?_;exact hp c _ _ z2 x y v u Q E rd.rm (l2.rep rv) ru eA
theorem YE{o:zu}(ha:SE G O k cs l a)(hb:SE G O k cs rr b)(hp:S2 G k (compareOp op) (bj o))(hm:behindInMarks op rr=false) :
  SE G O k cs (.Compare l [op] [rr] pos) (.cmp o a b):=fun c J lv z Q E rd kv=>by
 refine wpAny_Compare1 ?_ hm;refine cy kv (ha c _ _ z _ _ rd) fun x aa v z1 l1 rv bb=>?_;refine cy bb (hb c _ _ z1 _ _ rd) fun y aj u z2 l2 ru eA=>?_;exact hp c _ _ z2 x y v u Q E rd.rm (l2.rep rv) ru eA
theorem Ev.bind_assoc{α β γ:Type}(m:Ev α)(f:α->Ev β)(g:β->Ev γ):(m.bind f).bind g=m.bind fun x=>(f x).bind g:=by
 funext J;unfold Ev.bind;cases m J with
 |none=>rfl
 |some q=>obtain⟨r,aa⟩:=q;cases r<;>rfl
theorem YD{o:zu}(ha:SE G O k cs l a)(hb:SE G O k cs rr b)(hp:S2 G k (compareOp op) (bj o))(hm:behindInMarks op rr=false) :
  ST G O k cs (.Compare l [op] [rr] pos) (.cmp o a b):=fun c J lv z Q E rd kv=>by
 refine Cu ?_ hm;have kv:KO rh z (((aO O lv c.cv a).bind fun x=>((aO O lv c.cv b).bind fun y=>bj o x y).bind fun z=>Aj z Ev.ret) J) Q E:=by rw[<-Ev.bind_assoc];exact kv
 refine cy kv (ha c _ _ z _ _ rd) fun x aa v z1 l1 rv bb=>?_;rw[Ev.bind_assoc]at bb;refine cy bb (hb c _ _ z1 _ _ rd) fun y aj u z2 l2 ru eA=>?_;refine cy eA (hp c _ _ z2 x y v u _ _ rd.rm (l2.rep rv) ru) fun t bo vt z3 l3 rt Fu=>?_;exact adL (P:=fun vt=>wpAny G.M c.A (truthy vt) Q E z3.s) Fu rt fun b kv=>o9 (kv.eN rfl)
theorem Yv(ht:ST G O k cs t pt)(h1:SE G O k cs b1 p1)(h2:SE G O k cs b2 p2) :
  SE G O k cs (.IfExp t b1 b2 pos) (.ite pt p1 p2):=fun c J lv z Q E rd kv=>by
 refine wpAny_IfExp ?_;refine cy kv (ht c _ _ z _ _ rd) fun x aa v z1 l1 rv bb=>?_;subst rv;cases v with
 |true=>exact h1 c _ _ z1 Q E rd bb
 |false=>exact h2 c _ _ z1 Q E rd bb
theorem Yl(h:ST G O k cs x px):ST G O k cs (.UnaryOp .Not x pos) (.not px):=fun c J lv z Q E rd kv=>by
 refine wpAny_isTrue_Not ?_;refine cy kv (h c _ _ z _ _ rd) fun x aa v z1 l1 rv bb=>?_;exact bb.eN (congrArg _ rv)
theorem Ym(h:SE G O k cs x px)(ht:zk G):SE G O k cs (.UnaryOp .Not x pos) (.not px):=fun c J lv z Q E rd kv=>by
 refine wpAny_UnaryOp ?_;refine cy kv (h c _ _ z _ _ rd) fun y aa v z1 l1 rv bb=>?_;refine cy bb (fun k=>not_value (ht c _ _ z1 y v _ _ rv k)) fun b aj t z2 l2 rt eA=>?_;exact eA.iZ (congrArg _ rt)
theorem Ye(h:SE G O k cs e pe)(ht:zk G)
  (he:∀ env whole,isTrue e env whole=(do let v <-whole;standAt e.pos;holding [v] (truthy v)))
  (hp:∀ lv cv,dh O lv cv pe=(aO O lv cv pe).bind gh):ST G O k cs e pe:=fun c J lv z Q E rd kv=>by
 rw[hp]at kv;refine wpAny_isTrue_value ?_ (he _ _);refine cy kv (h c _ _ z _ _ rd) fun y aa v z1 l1 rv bb=>?_;exact ht c _ _ z1 y v _ _ rv bb
theorem YH:ST G O k cs (.Constant (.bool b) kk pos) (.bool b):=fun c J lv z Q E rd kv=>
 wpAny_isTrue_value (wpAny_Constant_bool (o9 (kv.eN rfl)))
theorem aiv:zp G O k cs [] []:=fun c J lv z Q E rd kv=>wpAny_allTrue_And_nil (kv.eN rfl)
theorem aiy(he:ST G O k cs e pe)(hs:zp G O k cs es dv):zp G O k cs (e :: es) (pe :: dv):=fun c J lv z Q E rd kv=>by
 refine wpAny_allTrue_And_cons ?_;refine cy kv (he c _ _ z _ _ rd) fun x aa v z1 l1 rv bb=>?_;subst rv;cases v with
 |true=>exact hs c _ _ z1 Q E rd bb
 |false=>exact bb.eN rfl
theorem ab6:zl G O k cs [] []:=fun c J lv z Q E rd kv=>wpAny_allTrue_Or_nil (kv.eN rfl)
theorem ab7(he:ST G O k cs e pe)(hs:zl G O k cs es dv):zl G O k cs (e :: es) (pe :: dv):=fun c J lv z Q E rd kv=>by
 refine wpAny_allTrue_Or_cons ?_;refine cy kv (he c _ _ z _ _ rd) fun x aa v z1 l1 rv bb=>?_;subst rv;cases v with
 |false=>exact hs c _ _ z1 Q E rd bb
 |true=>exact bb.eN rfl
theorem YM(h:zp G O k cs es dv):ST G O k cs (.BoolOp .And es pos) (.and dv):=fun c J lv z Q E rd kv=>wpAny_isTrue_BoolOp (h c _ _ z Q E rd kv)
theorem Yj(h:zl G O k cs es dv):ST G O k cs (.BoolOp .Or es pos) (.or dv):=fun c J lv z Q E rd kv=>wpAny_isTrue_BoolOp (h c _ _ z Q E rd kv)
theorem af7(h:SE G O k cs e pe)(ht:zk G)(hs:zo G O k cs (e2 :: es) (p2 :: dv)):zo G O k cs (e :: e2 :: es) (pe :: p2 :: dv):=
 fun c pos J lv z Q E rd kv=>by
 show wpAny _ _ (do
  let v <-eval e c.env
  standAt pos
  let t <-holding [v] (truthy v)
  match BoolOp.And,t with
  |.And,false|.Or,true=>pure v
  |_,_=>boolOp pos .And (evalEach (e2 :: es) c.env)) Q E z.s
 refine au ?_;refine cy kv (h c _ _ z _ _ rd) fun y aa v z1 l1 rv bb=>?_;refine au (mj (au (gM ?_)));refine cy bb (ht c _ _ z1 y v _ _ rv) fun b aj t z2 l2 rt eA=>?_;subst rt;cases t with
 |false=>exact a_ (eA.eN (l2.rep rv))
 |true=>exact hs c pos _ _ z2 Q E rd eA
theorem afW(h:SE G O k cs e pe)(ht:zk G)(hs:zm G O k cs (e2 :: es) (p2 :: dv)):zm G O k cs (e :: e2 :: es) (pe :: p2 :: dv):=
 fun c pos J lv z Q E rd kv=>by
 show wpAny _ _ (do
  let v <-eval e c.env
  standAt pos
  let t <-holding [v] (truthy v)
  match BoolOp.Or,t with
  |.And,false|.Or,true=>pure v
  |_,_=>boolOp pos .Or (evalEach (e2 :: es) c.env)) Q E z.s
 refine au ?_;refine cy kv (h c _ _ z _ _ rd) fun y aa v z1 l1 rv bb=>?_;refine au (mj (au (gM ?_)));refine cy bb (ht c _ _ z1 y v _ _ rv) fun b aj t z2 l2 rt eA=>?_;subst rt;cases t with
 |true=>exact a_ (eA.eN (l2.rep rv))
 |false=>exact hs c pos _ _ z2 Q E rd eA
theorem af6(h:SE G O k cs e pe):zo G O k cs [e] [pe]:=fun c pos J lv z Q E rd kv=>h c _ _ z Q E rd kv
theorem afV(h:SE G O k cs e pe):zm G O k cs [e] [pe]:=fun c pos J lv z Q E rd kv=>h c _ _ z Q E rd kv
theorem YN(h:zo G O k cs es dv):SE G O k cs (.BoolOp .And es pos) (.and dv):=fun c J lv z Q E rd kv=>h c pos _ _ z Q E rd kv
theorem Yk(h:zm G O k cs es dv):SE G O k cs (.BoolOp .Or es pos) (.or dv):=fun c J lv z Q E rd kv=>h c pos _ _ z Q E rd kv
theorem Yo(h:SE G O k cs x px):SE G O k cs (.UnaryOp .USub x pos) (.neg px):=fun c J lv z Q E rd kv=>by
 refine wpAny_UnaryOp ?_;refine cy kv (h c _ _ z _ _ rd) fun y aa v z1 l1 rv bb=>?_;exact jr (P:=fun v=>wpAny G.M c.A (unaryOp .USub v) Q E z1.s) bb rv fun i t kv=>PyProof.Rows.neg_int (kv.int rfl)
theorem join_some{α:Type}{o:Option (Option α)}{a:α}(h:o.join=some a):o=some (some a):=by
 cases o with
 |none=>cases h
 |some x=>exact congrArg some h
theorem Yn:SE G O k cs (.Constant .none kk pos) .none:=fun c J lv z Q E rd kv=>wpAny_Constant_none (kv.eN rfl)
theorem YI:SE G O k cs (.Constant (.bool b) kk pos) (.bool b):=fun c J lv z Q E rd kv=>wpAny_Constant_bool (kv.iZ rfl)
theorem Yw:SE G O k cs (.Constant (.int i) kk pos) (.int i):=fun c J lv z Q E rd kv=>Ii (kv.int rfl)
theorem Yh(e:x=S l):SE G O k cs (.Constant (.str x) kk pos) (.str l):=fun c J lv z Q E rd kv=>Ih (by rw[e];exact kv.str)
theorem Yr(hn:cs.names[i]?=some (x,kd))(hx:cs.names.lookup x=some .local)(hd:(x==Str.ofString "__debug__")=false):SE G O k cs (.Name x pos) (.loc i):=
 fun c J lv z Q E rd kv=>by
 refine dk kv fun y h1 kv=>?_;obtain⟨m,F,hl⟩:=z.st.frame;obtain⟨nm,k',v,h2,h3,h4⟩:=hl i y (join_some h1);rw[rd.cs,hn]at h2;cases h2;exact tL F h3 (kv.eN h4) rd.ok.kind (by rw[Env.kindOf];show c.cs.names.lookup x=_;rw[rd.cs,hx]) hd
theorem L9(hn:cs.names[i]?=some (x,kd))(hx:cs.names.lookup x=some .cell∨cs.names.lookup x=some .free)(hd:(x==Str.ofString "__debug__")=false)(j0:(x==Str.ofString "__classdict__")=false):SE G O k cs (.Name x pos) (.cvar i):=
 fun c J lv z Q E rd kv=>by
 refine dk kv fun y h1 kv=>?_;obtain⟨x',k',a,v,o,h2,h3,h4,h5,h6⟩:=z.st.fV i y (join_some h1);rw[rd.cs,hn]at h2;cases h2;have q:=kv.eN (h6.mono (aC.refl _) z.st.pre);rcases hx with hx|hx
 ·exact yU (Ct rd.ok.kind (by rw[Env.kindOf];show c.cs.names.lookup x=_;rw[rd.cs,hx]) h3 ⟨o,z.st.im _ _ h4,h5⟩ q) hd
 ·exact yU (wpAny_loadName_free rd.ok.kind (by rw[Env.kindOf];show c.cs.names.lookup x=_;rw[rd.cs,hx]) h3 ⟨o,z.st.im _ _ h4,h5⟩ q j0) hd
def C7(G:GI)(x:Str)(y:V):Prop:=∃ v,nsIn G.K mainGlobals x=some (some v)/\∀ I U,aC (fun a=>G.H.get? a) I->ao G I U y v
theorem Yy(g:bH G)(hy:C7 G x y)(hx:cs.names.lookup x=some .globalImplicit)(hd:(x==Str.ofString "__debug__")=false):SE G O k cs (.Name x pos) (.glob y):=
 fun c J lv z Q E rd kv=>by
 obtain⟨v,h1,h2⟩:=hy;obtain⟨loose,mg,mb,T⟩:=g.top;obtain⟨m,F,hl⟩:=z.st.frame;exact nameX_K F g.K T h1 (kv.eN (h2 _ _ z.st.h0)) rd.ok.kind (by rw[Env.kindOf];show c.cs.names.lookup x=_;rw[rd.cs,hx]) hd
theorem YK(g:bH G)(hy:nsIn G.K mainGlobals x=some none)(hb:bootBuiltins x=some n.v)(hm:x≠Str.ofString "__name__")(hx:cs.names.lookup x=some .globalImplicit)(hd:(x==Str.ofString "__debug__")=false) :
  SE G O k cs (.Name x pos) (.glob (.bi n)):=
 fun c J lv z Q E rd kv=>by
 obtain⟨loose,mg,mb,T⟩:=g.top;obtain⟨m,F,hl⟩:=z.st.frame;exact nameX_B F g.K T hy hb hm (kv.eN rfl) rd.ok.kind (by rw[Env.kindOf];show c.cs.names.lookup x=_;rw[rd.cs,hx]) hd
theorem ji{α:Type}{l:List α}(h:short l=true):l.length<=sizeLine:=by
 unfold short at h;have:=of_decide_eq_true h;exact ak this ⋯
theorem Yg(h:SL G O k cs es dv):SE G O k cs (.Tuple es kk pos) (.tup dv):=fun c J lv z Q E rd kv=>by
 refine wpAny_Tuple ?_;refine cy kv (h c pos _ _ z _ _ rd) fun vs aa v z1 l1 rv bb=>?_;refine cG bb fun hs bb=>?_;refine⟨by rw[rv.length];exact ji hs,?_⟩;refine bb.new (z1.st.push (o:={ cls:=.type "tuple",data:=.seq v.toArray }) rfl (by simp)) z1.st.sz (aA.refl _) ?_;exact Exists.intro _ ⟨v,rfl,⟨_,_,jM _ _ _,rfl,rfl⟩,rv.mono z1.st.sz (aA.refl _)⟩
theorem OG{c:Cx}{J:LC}{lv:LV}{z:Z G c J lv}{Q:VP}{E:VP}(kv:KO (ao G) z (mY l J) Q E)(rv:av G z.I z.U l vs){P:Prop}
  (h:short l=true->Q (.ref z.s.heap.objs.size) { z.s with heap:=z.s.heap.push (listOf vs.toArray n),toks:=tk }->P):P:=by
 refine cG kv fun hs kv=>h hs ?_;refine kv.new (z.st.newList rv) (aC.refl _) (aA.app _ _) ?_;exact Exists.intro _ ⟨by rw[z.st.cells.1];exact bx,rfl⟩
theorem L8(h:SL G O k cs es dv):SE G O k cs (.List es pos) (.list dv):=fun c J lv z Q E rd kv=>by
 refine wpAny_List ?_;refine cy kv (h c pos _ _ z _ _ rd) fun vs aa v z1 l1 rv bb=>?_;exact OG bb rv fun hs q=>⟨by rw[rv.length];exact ji hs,q⟩
end
end
section
variable {G:GI}{I:Im}{U:List Loc}
theorem WN(y:V):dz .none y=true↔V.none=y:=by cases y<;>first|exact⟨fun _=>rfl,fun _=>rfl⟩|exact⟨fun h=>nf h,fun h=>V.noConfusion h⟩
mutual
theorem ue:∀ {x y:V},cU x=true->(dz x y=true↔x=y)
 |.none,y=>fun h=>WN y
 |.int a,y=>fun h=>by cases y<;>first|exact⟨fun h=>congrArg V.int (of_decide_eq_true h),fun h=>decide_eq_true (V.int.inj h)⟩|exact⟨fun h=>nf h,fun h=>V.noConfusion h⟩
 |.str a,y=>fun h=>by cases y<;>first|exact⟨fun h=>congrArg V.str (of_decide_eq_true h),fun h=>decide_eq_true (V.str.inj h)⟩|exact⟨fun h=>nf h,fun h=>V.noConfusion h⟩
 |.tup a,y=>fun h=>by
  cases y<;>first|exact⟨fun q=>congrArg V.tup ((wy h).mp q),fun q=>(wy h).mpr (V.tup.inj q)⟩|exact⟨fun h=>nf h,fun h=>V.noConfusion h⟩
 |.bool _,_=>fun h=>nf h
 |.obj _ _,_=>fun h=>nf h
 |.ref _,_=>fun h=>nf h
 |.fn _,_=>fun h=>nf h
 |.bi _,_=>fun h=>nf h
 |.cz _ _,_=>fun h=>nf h
 |.gZ _ _,_=>fun h=>nf h
 |.eC _,_=>fun h=>nf h
 |.lam,_=>fun h=>nf h
 |.fE,_=>fun h=>nf h
theorem wy:∀ {x y:List V},fS x=true->(mz x y=true↔x=y)
 |[],y=>fun h=>by cases y with
  |nil=>exact⟨fun _=>rfl,fun _=>rfl⟩
  |cons=>exact⟨fun h=>nf h,fun h=>(nomatch h)⟩
 |a :: r,y=>fun h=>by
  cases y with
  |nil=>exact⟨fun h=>nf h,fun h=>(nomatch h)⟩
  |cons b t=>
   have h':=aM.mp (show(cU a&&fS r)=true from h);show(dz a b&&mz r t)=true↔_;rw[hG,ue h'.1,wy h'.2,Cq]
end
theorem CZ:S a=S b↔a=b:=by
 constructor
 ·intro h;have:(S a).cps.toList=(S b).cps.toList:=by rw[h]
  simpa using this
 ·rintro rfl;rfl
inductive Pl(G:GI)(I:Im)(U:List Loc):V->Value->Prop
 |none:Pl G I U .none .none
 |int (i:Int) (t:Nat):Pl G I U (.int i) (.int i t)
 |str (l:List Nat) (t:Nat):Pl G I U (.str l) (.str (S l) t)
 |tup (l:List V) (a:Addr) (vs:List Value) (h:mu I a vs) (r:av G I U l vs) (k:fS l=true):Pl G I U (.tup l) (.ref a)
theorem qa(h:cU x=true)(r:ao G I U x v):Pl G I U x v:=by
 cases x with
 |none=>have r:_=_:=r;subst r;exact .none
 |int i=>obtain⟨t,rfl⟩:=r;exact .int i t
 |str l=>obtain⟨t,rfl⟩:=r;exact .str l t
 |tup l=>obtain⟨a,vs,rfl,ht,hr⟩:=r;exact .tup l a vs ht hr h
 |_=>exact nf h
theorem mu.one(h:mu I a vs)(h':mu I a ws):vs=ws:=by
 obtain⟨o,n,e1,e2,e3⟩:=h;obtain⟨o',n',f1,f2,f3⟩:=h';rw[e1]at f1;cases f1;rw[e3]at f3
 injection f3 with f3 _
 simpa using congrArg Array.toList f3
mutual
theorem w5:∀ {x y:V}{v:Value},cU x=true->cU y=true->ao G I U x v->ao G I U y v->x=y
 |.none,y,v=>fun h h' r r'=>by
  have r:_=_:=r;subst r;cases qa h' r';rfl
 |.int a,y,v=>fun h h' r r'=>by
  obtain⟨t,rfl⟩:=r;cases qa h' r';rfl
 |.str a,y,v=>fun h h' r r'=>by
  obtain⟨t,rfl⟩:=r;have q:=qa h' r';generalize hs:S a=s at q;cases q with
  |str b t=>rw[CZ.mp hs]
 |.tup a,y,v=>fun h h' r r'=>by
  obtain⟨p,vs,rfl,ht,hr⟩:=r;cases qa h' r' with
  |tup b p ws nj u_ k=>rw[ML h k hr (ht.one nj▸u_)]
 |.bool _,_,_=>fun h _ _ _=>nf h
 |.obj _ _,_,_=>fun h _ _ _=>nf h
 |.ref _,_,_=>fun h _ _ _=>nf h
 |.fn _,_,_=>fun h _ _ _=>nf h
 |.bi _,_,_=>fun h _ _ _=>nf h
 |.cz _ _,_,_=>fun h _ _ _=>nf h
 |.gZ _ _,_,_=>fun h _ _ _=>nf h
 |.eC _,_,_=>fun h _ _ _=>nf h
 |.lam,_,_=>fun h _ _ _=>nf h
 |.fE,_,_=>fun h _ _ _=>nf h
theorem ML:∀ {x y:List V}{vs:List Value},fS x=true->fS y=true->av G I U x vs->av G I U y vs->x=y
 |[],y,vs=>fun h h' r r'=>by
  have r:_=_:=r;subst r;cases y with
  |nil=>rfl
  |cons b t=>obtain⟨_,_,e,_⟩:=r';cases e
 |a :: l,y,vs=>fun h h' r r'=>by
  obtain⟨v,ws,rfl,r1,r2⟩:=r;cases y with
  |nil=>have r':_=_:=r';cases r'
  |cons b t=>
   obtain⟨_,_,e,r3,r4⟩:=r';cases e;have k:=aM.mp (show(cU a&&fS l)=true from h);have k':=aM.mp (show(cU b&&fS t)=true from h');rw[w5 k.1 k'.1 r1 r3,ML k.2 k'.2 r2 r4]
end
def uJ(xs ys:List V)(j:Nat):Bool:=match xs[j]?,ys[j]? with
 |some x,some y=>dz x y
 |_,_=>false
theorem acn(ex:xs[j]?=some x)(ey:ys[j]?=some y):uJ xs ys j=dz x y:=by show(match xs[j]?,ys[j]? with|some x,some y=>dz x y|_,_=>false)=_;rw[ex,ey]
theorem Nz:∀ (xs ys:List V),((List.range (min xs.length ys.length)).all (uJ xs ys)&&xs.length==ys.length)=mz xs ys
 |[],[]=>rfl
 |[],y :: t=>rfl
 |x :: r,[]=>rfl
 |x :: r,y :: t=>by
  show _=(dz x y&&mz r t);rw[<-Nz r t,qZ,qZ];rw[Ig,List.range_succ_eq_map,o8,List.all_map];have:(uJ (x :: r) (y :: t)∘Nat.succ)=uJ r t:=rfl;rw[this];have:(r.length+1==t.length+1)=(r.length==t.length):=by simp
  rw[this,Bool.and_assoc];rfl
theorem av.get:∀ {l:List V}{vs:List Value},av G I U l vs->∀ {j:Nat} (h:j<vs.length),∃ x,l[j]?=some x/\ao G I U x vs[j]
 |[],vs,r,j=>fun h=>by have r:_=_:=r;subst r;cases h
 |x :: l,vs,r,j=>fun h=>by
  obtain⟨v,ws,rfl,r1,r2⟩:=r;cases j with
  |zero=>exact⟨x,rfl,r1⟩
  |succ j=>
   obtain⟨y,e,r3⟩:=r2.get (j:=j) (by simpa using h);exact⟨y,by simpa using e,by simpa using r3⟩
theorem sq:∀ {l:List V},fS l=true->∀ {j:Nat}{x:V},l[j]?=some x->cU x=true
 |[],_,j,x=>fun e=>by simp at e
 |y :: l,h,j,x=>fun e=>by
  have k:=aM.mp (show(cU y&&fS l)=true from h);cases j with
  |zero=>cases e;exact k.1
  |succ j=>exact sq k.2 (by simpa using e)
theorem yC:∀ {l:List V}{j:Nat}{x:V},l[j]?=some x->cZ x<=iD l
 |[],j,x=>fun e=>by simp at e
 |y :: l,j,x=>fun e=>by
  cases j with
  |zero=>cases e;exact jD _ _
  |succ j=>exact ak (yC (l:=l) e) (jC _ _)
theorem fJ{s:Shared}(im:∀ a o,I a=some o->s.heap.get? a=some o){a:Addr}{vs:List Value}(h:mu I a vs):s.heap.IsTuple a vs.toArray:=
 let ⟨o,n,e1,e2,e3⟩:=h;⟨o,im _ _ e1,e2,n,e3⟩
theorem str_beq(a b:List Nat):(S a==S b)=dz (.str a) (.str b):=by show(S a==S b)=decide (a=b);rw[tK,beq_iff_eq,decide_eq_true_eq,CZ]
theorem Hk(h:RcAt A s v u b)(hf:∀ x t,v≠.float x t)(hs:v=u->b=true):EqAt A s v u b:=fun prog w E Q hq=>by
 unfold eqBool;refine gM ?_;refine wpAny_ite_split (fun xZ=>?_) (fun _=>?_)
 ·have e:=hs (eq_of_beq xZ);subst e;exact au (Cm (a_ hq))
 ·cases v<;>first|exact au (h prog w E _ (o9 hq))|exact absurd rfl (hf _ _)
theorem EU(h:cU x=true)(r:ao G I U x v):∀ y t,v≠.float y t:=by
 intro y t e;subst e;cases x<;>first|exact Bool.noConfusion h|(have r:_=_:=r;cases r;done)|(obtain⟨_,r⟩:=r;cases r;done)|(obtain⟨_,_,r,_⟩:=r;cases r;done)
theorem agl(h:min (cZ (.tup a)) (cZ (.tup b))<=d+1)(h1:cZ x<=iD a)(h2:cZ y<=iD b):min (cZ x) (cZ y)<=d:=by
 have h:min (iD a+1) (iD b+1)<=d+1:=h;rw[Ig]at h;exact ak (Nat.le_min.mpr ⟨ak (vT _ _) h1,ak (tJ _ _) h2⟩) (tI h)
theorem aa7{x y:V}{A:Around}{s:Shared}{v u:Value}(px:Pl G I U x v)(py:Pl G I U y u)(hd:min (cZ x) (cZ y)<=0)(im:∀ a o,I a=some o->s.heap.get? a=some o)(hu:A.units<cLine):RcAt A s v u (dz x y)/\RcNeAt A s v u (!dz x y):=by
 cases px with
 |none=>cases py with
  |none=>exact⟨.none_none,.none_none⟩
  |int i t=>exact⟨.none_int _ _,.none_int _ _⟩
  |str l t=>exact⟨.none_str _ _,.none_str _ _⟩
  |tup l a vs h r k=>exact⟨.none_tuple (fJ im h) hu,.none_tuple (fJ im h) hu⟩
 |int i t=>cases py with
  |none=>exact⟨.int_none _ _,.int_none _ _⟩
  |int i t=>exact⟨RcAt.int_int _ _ _ _,T1 _ _ _ _⟩
  |str l t=>exact⟨.int_str _ _ _ _,.int_str _ _ _ _⟩
  |tup l a vs h r k=>exact⟨.int_tuple _ _ (fJ im h) hu,.int_tuple _ _ (fJ im h) hu⟩
 |str a t=>cases py with
  |none=>exact⟨.str_none _ _,.str_none _ _⟩
  |int i t=>exact⟨.str_int _ _ _ _,.str_int _ _ _ _⟩
  |str b t'=>have e:=str_beq a b;exact⟨e▸.str_str _ _ _ _,e▸.str_str _ _ _ _⟩
  |tup l a vs h r k=>exact⟨.str_tuple _ _ (fJ im h) hu,.str_tuple _ _ (fJ im h) hu⟩
 |tup l a vs h r k=>cases py with
  |none=>exact⟨.tuple_none (fJ im h) hu,.tuple_none (fJ im h) hu⟩
  |int i t=>exact⟨.tuple_int _ _ (fJ im h) hu,.tuple_int _ _ (fJ im h) hu⟩
  |str b t'=>exact⟨.tuple_str _ _ (fJ im h) hu,.tuple_str _ _ (fJ im h) hu⟩
  |tup b q ws h' r' k'=>exact absurd (show min (iD l+1) (iD b+1)<=0 from hd) (by rw[Ig];exact yT _)
theorem Eo:∀ (d:Nat) {x y:V}{A:Around}{s:Shared}{v u:Value},min (cZ x) (cZ y)<=d->cU x=true->cU y=true->ao G I U x v->ao G I U y u->(∀ a o,I a=some o->s.heap.get? a=some o) ->
  A.units+d<cLine->RcAt A s v u (dz x y)/\RcNeAt A s v u (!dz x y):=by
 intro d;induction d with
 |zero=>
  intro x y A s v u hd hx hy rx ry im hu;exact aa7 (qa hx rx) (qa hy ry) hd im hu
 |succ d ih=>
  intro x y A s v u hd hx hy rx ry im hu;have Po:A.units<cLine:=e_ (cL _ _) hu;by_cases h0:min (cZ x) (cZ y)<=0
  ·exact ih (ak h0 (dc _)) hx hy rx ry im (e_ (i_ _) hu)
  ·have px:=qa hx rx;have py:=qa hy ry;cases px with
   |tup a p vs ht hr hx=>cases py with
    |tup b q ws nj u_ hy=>
     have he:∀ j (h1:j<vs.toArray.size) (h2:j<ws.toArray.size),EqAt A.in1 s vs.toArray[j] ws.toArray[j] (uJ a b j):=by
      intro j h1 h2;obtain⟨x,ex,rx⟩:=hr.get (j:=j) (by simpa using h1);obtain⟨y,ey,ry⟩:=u_.get (j:=j) (by simpa using h2);have kx:=sq hx ex;have ky:=sq hy ey;have d1:=yC ex;have d2:=yC ey;have hn:uJ a b j=dz x y:=acn ex ey;rw[hn];refine Hk (ih (x:=x) (y:=y) (agl hd d1 d2) kx ky rx ry im (by rw[show A.in1.units=A.units+1 from rfl,vS];exact hu)).1 (EU kx rx) fun e=>?_
      exact(ue kx).mpr (w5 (v:=vs[j]'(by simpa using h1)) kx ky rx ((show vs[j]'(by simpa using h1)=ws[j]'(by simpa using h2) from e)▸ry))
     show RcAt A s _ _ (mz a b)/\RcNeAt A s _ _ (!mz a b);rw[<-Nz,<-hr.length,<-u_.length];exact⟨RcAt.tuples (fJ im ht) (fJ im nj) Po he,RcNeAt.tuples (fJ im ht) (fJ im nj) Po he⟩
    |_=>exact absurd (tJ _ _) h0
   |_=>exact absurd (vT _ _) h0
end
theorem hY(l:List Nat):(S l).length=l.length:=by simp[Str.length]
theorem aiT(a b:List Nat):S a++S b=S (a++b):=by
 show(⟨(S a).cps++(S b).cps⟩:Str)=S (a++b);simp
theorem D6{α:Type}{l:List α}(h:short l=true):l.length<2 ^ 62:=e_ (of_decide_eq_true h) ⋯
theorem D5{α:Type}{l:List α}(h:short l=true):(l.length:Int)<2 ^ 63:=Int.lt_trans (e8.mpr (D6 h)) ⋯
theorem Ml{α:Type}{l:List α}(h:short l=true):¬(l.length:Int)≥2 ^ 63:=Int.not_le.mpr (Int.lt_trans (e8.mpr (D6 h)) ⋯)
section
variable {G:GI}{O:ay}{k:Nat}{cs:Scope}
theorem zA:zk G:=fun c J lv z x v Q E rv kv=>by
 cases x with
 |none=>have rv:_=_:=rv;subst rv;exact truthy_none (kv.done rfl)
 |bool b=>have rv:_=_:=rv;subst rv;exact o9 (kv.eN rfl)
 |int i=>
  obtain⟨t,rfl⟩:=rv;refine PyProof.Rows.truthy_int ?_;have:(i != 0)=decide (i≠0):=by by_cases hi:i=0<;>simp[hi]
  rw[this];exact kv.eN rfl
 |str l=>
  obtain⟨t,rfl⟩:=rv;refine cG kv fun hs kv=>P.truthy_str (by rw[hY];exact Ml hs) ?_;have:(((S l).length:Int) != 0)=!l.isEmpty:=by rw[hY];cases l<;>rfl
  rw[this];exact kv.done rfl
 |ref i=>
  refine iS (P:=fun v=>wpAny G.M c.A (truthy v) Q E z.s) kv rv fun l a vs n hl kv=>?_;refine cG kv fun hs kv=>?_;refine wpAny_truthy_list hl.is (by rw[hl.size];exact D5 hs) ?_;have:vs.toArray.isEmpty=l.isEmpty:=by have:=hl.rs.length;cases l<;>cases vs<;>first|rfl|cases this
  rw[this];exact kv.done rfl
 |_=>exact kv.elim
theorem R5{c:Cx}{J:LC}{lv:LV}(z:Z G c J lv){x y:V}{v u:Value}{b:Bool}(rm:f_ c k)(rx:ao G z.I z.U x v)(ry:ao G z.I z.U y u)(e:tu x y=some b) :
  RcAt c.A z.s v u b/\RcNeAt c.A z.s v u (!b):=by
 have pl:∀ {x y:V}{b:Bool},ao G z.I z.U x v->ao G z.I z.U y u->(if cU x&&cU y&&decide (min (cZ x) (cZ y)<=90) then some (dz x y) else none)=some b->RcAt c.A z.s v u b/\RcNeAt c.A z.s v u (!b):=fun {x y b} rx ry e=>by
  split at e
  ·rename_i h;cases e;have h1:=aM.mp h;have h2:=aM.mp h1.1;exact Eo 90 (of_decide_eq_true h1.2) h2.1 h2.2 rx ry z.st.im (by have:=rm.2.1;show c.A.units+90<9900;lia)
  ·cases e
 cases x with
 |bool a=>cases y with
  |bool d=>
   cases e;have rx:_=_:=rx;have ry:_=_:=ry;subst rx ry;exact⟨RcAt.bool_bool _ _,RcNeAt.bool_bool _ _⟩
  |_=>cases e
 |str a=>cases y with
  |str d=>cases e;obtain⟨t,rfl⟩:=rx;obtain⟨t',rfl⟩:=ry;have e:(S a==S d)=decide (a=d):=str_beq a d;exact⟨e▸RcAt.str_str _ _ _ _,e▸RcNeAt.str_str _ _ _ _⟩
  |_=>exact pl rx ry e
 |int a=>cases y with
  |int d=>cases e;obtain⟨t,rfl⟩:=rx;obtain⟨t',rfl⟩:=ry;exact⟨RcAt.int_int _ _ _ _,T1 _ _ _ _⟩
  |_=>exact pl rx ry e
 |_=>exact pl rx ry e
theorem MD:S2 G k (compareOp .Eq) (bj .eq):=fun c J lv z x y v u Q E rm rx ry kv=>dk kv fun b e kv=>(R5 z rm rx ry e).1 _ _ E Q (kv.iZ rfl)
theorem aai:S2 G k (compareOp .NotEq) (bj .ne):=fun c J lv z x y v u Q E rm rx ry kv=>dk kv fun b e kv=>(R5 z rm rx ry e).2 _ _ E Q (kv.iZ rfl)
theorem nY{tree:Value->Value->Sem Value}{f:Int->Int->Ev V}(h:∀ (c:Cx) J lv (z:Z G c J lv) a b t t' Q E,KO (ao G) z (f a b J) Q E->wpAny G.M c.A (tree (.int a t) (.int b t')) Q E z.s):S2 G k tree (fun x y=>cT x fun a=>cT y fun b=>f a b):=
 fun c J lv z x y v u Q E rm rx ry kv=>jr (P:=fun v=>wpAny G.M c.A (tree v u) Q E z.s) kv rx fun a t kv=>jr (P:=fun u=>wpAny G.M c.A (tree _ u) Q E z.s) kv ry fun b t' kv=>h c _ _ z a b t t' Q E kv
theorem aak:S2 G k (compareOp .Lt) (bj .lt):=nY fun c J lv z a b t t' Q E kv=>lt_int (kv.iZ rfl)
theorem aal:S2 G k (compareOp .LtE) (bj .le):=nY fun c J lv z a b t t' Q E kv=>le_int (kv.iZ rfl)
theorem aaq:S2 G k (compareOp .Gt) (bj .gt):=nY fun c J lv z a b t t' Q E kv=>gt_int (kv.iZ rfl)
theorem aar:S2 G k (compareOp .GtE) (bj .ge):=nY fun c J lv z a b t t' Q E kv=>ge_int (kv.iZ rfl)
theorem ao.shape(r:ao G I U x v)(hj:(!lQ x)=true):handedIn v=true/\(v==.none)=uY x:=by
 cases x
 ·have r:_=_:=r;subst r;exact⟨rfl,rfl⟩
 ·have r:_=_:=r;subst r;exact⟨rfl,rfl⟩
 ·obtain⟨t,rfl⟩:=r;exact⟨rfl,rfl⟩
 ·obtain⟨t,rfl⟩:=r;exact⟨rfl,rfl⟩
 ·obtain⟨t,_,rfl,_⟩:=r;exact⟨rfl,rfl⟩
 ·obtain⟨t,_,_,_,_,rfl,_⟩:=r;exact⟨rfl,rfl⟩
 ·obtain⟨t,_,rfl⟩:=r;exact⟨rfl,rfl⟩
 ·have r:_=_:=r;subst r;exact⟨rfl,rfl⟩
 ·rename_i n;have r:_=_:=r;subst r;cases n<;>first|exact⟨rfl,rfl⟩|exact⟨by decide +kernel,rfl⟩
 ·obtain⟨t,_,_,rfl,_⟩:=r;exact⟨rfl,rfl⟩
 ·obtain⟨t,_,_,rfl,_⟩:=r;exact⟨rfl,rfl⟩
 ·obtain⟨t,_,_,rfl,_⟩:=r;exact⟨rfl,rfl⟩
 ·obtain⟨t,rfl,_⟩:=r;exact⟨rfl,rfl⟩
 ·cases hj
theorem ao.isNone(r:ao G I U x v)(hj:(!lQ x)=true):(v==.none)=uY x:=(r.shape hj).2
theorem aan:S2 G k (compareOp .Is) (bj .dR):=fun c J lv z x y v u Q E rm rx ry kv=>
 AK (P:=fun u=>wpAny G.M c.A (compareOp .Is v u) Q E z.s) kv ry fun kv=>cG kv fun hj kv=>is_none (kv.iZ (rx.isNone hj))
theorem aam:S2 G k (compareOp .IsNot) (bj .sM):=fun c J lv z x y v u Q E rm rx ry kv=>
 AK (P:=fun u=>wpAny G.M c.A (compareOp .IsNot v u) Q E z.s) kv ry fun kv=>cG kv fun hj kv=>isNot_none (kv.iZ (by rw[rx.isNone hj]))
end
section
variable {G:GI}{O:ay}{k:Nat}{cs:Scope}
theorem OZ(sub:List Nat):∀ l:List Nat,cH sub l=true↔∃ i,i+sub.length<=l.length/\(l.drop i).take sub.length=sub
 |[]=>by
  constructor
  ·intro h;have:sub=[]:=g_.mp h;subst this;exact⟨0,by simp⟩
  ·intro cu;obtain⟨i,h1,_⟩:=cu;exact g_.mpr (List.eq_nil_of_length_eq_zero (Nat.eq_zero_of_le_zero (ak (j9 _ i) h1)))
 |x :: r=>by
  rw[show cH sub (x :: r)=(sub.isPrefixOf (x :: r)||cH sub r) from rfl,vR,OZ sub r];constructor
  ·rintro (h|⟨i,h1,h2⟩)
   ·have:=TZ.mp h;obtain⟨t,e⟩:=this;refine⟨0,by rw[<-e];simp,?_⟩;rw[Ck,<-e];simp
   ·exact⟨i+1,by simp;lia,by simpa using h2⟩
  ·intro cu;obtain⟨i,h1,h2⟩:=cu;cases i with
   |zero=>
    left;rw[Ck]at h2;exact TZ.mpr (h2▸List.take_prefix _ _)
   |succ i=>right;exact⟨i,by simp at h1;lia,by simpa using h2⟩
theorem Nt(sub l:List Nat):(!(Builtin.Str.occurrences (S l) (S sub) 0 (S l).length 1).isEmpty)=cH sub l:=by
 rw[tK,StrLaws.found_iff,OZ];constructor
 ·intro cu;obtain⟨i,h1,h2⟩:=cu;rw[VX]at h2;refine⟨i,by simpa[hY]using h1,by simpa[hY]using h2⟩
 ·intro cu;obtain⟨i,h1,h2⟩:=cu;refine⟨i,by simpa[hY]using h1,?_⟩;rw[VX];simpa[hY]using h2
theorem w_:∀ {bq:List (Str×Value)}{ks:List (List Nat)}{vs:List V},bq.map (·.1)=ks.map S->av G I U vs (bq.map (·.2))->∀ x,
  (valueAt bq (S x)).isSome=ks.contains x/\∀ y,getD ks vs x=some y->∃ v,valueAt bq (S x)=some v/\ao G I U y v
 |[],ks,vs=>fun h1 h2 x=>by
  cases ks with
  |nil=>exact⟨rfl,fun y e=>ck e⟩
  |cons=>cases h1
 |(a,v) :: r,ks,vs=>fun h1 h2 x=>by
  cases ks with
  |nil=>cases h1
  |cons b ks=>
   simp only[gO,Cq]at h1;obtain⟨rfl,h1⟩:=h1;cases vs with
   |nil=>have h2:_=_:=h2;cases h2
   |cons z vs=>
    obtain⟨v',ws,e,r1,r2⟩:=h2;cases e;have ih:=w_ h1 r2 x;by_cases hx:b=x
    ·obtain rfl:=hx.symm;refine⟨by simp[valueAt],fun y e=>?_⟩;cases (if_pos rfl).symm.trans e;exact⟨v,by simp[valueAt],r1⟩
    ·have hS:¬(S b=S x):=fun e=>hx (CZ.mp e);have hv:valueAt ((S b,v) :: r) (S x)=valueAt r (S x):=by unfold valueAt;rw[VW (by simpa using hS)]
     refine⟨?_,fun y e=>?_⟩
     ·rw[hv,ih.1];simp[CV,nO hx]
     ·rw[hv];exact ih.2 y ((if_neg hx).symm.trans e)
theorem Ng:∀ {bq:List (Int×Value)}{ks:List Int}{vs:List V},bq.map (·.1)=ks->av G I U vs (bq.map (·.2))->∀ x,
  ∀ y,GG ks vs x=some y->∃ v,valueAt bq x=some v/\ao G I U y v
 |[],ks,vs=>fun h1 h2 x=>by
  cases ks with
  |nil=>exact fun y e=>ck e
  |cons=>cases h1
 |(a,v) :: r,ks,vs=>fun h1 h2 x=>by
  cases ks with
  |nil=>cases h1
  |cons b ks=>
   simp only[gO,Cq]at h1;obtain⟨rfl,h1⟩:=h1;cases vs with
   |nil=>have h2:_=_:=h2;cases h2
   |cons z vs=>
    obtain⟨v',ws,e,r1,r2⟩:=h2;cases e;have ih:=Ng h1 r2 x;intro y e;by_cases hx:a=x
    ·subst hx;cases (if_pos rfl).symm.trans e;exact⟨v,by simp[valueAt],r1⟩
    ·have hv:valueAt ((a,v) :: r) x=valueAt r x:=by unfold valueAt;rw[VW (by simpa using hx)]
     rw[hv];exact ih y ((if_neg hx).symm.trans e)
theorem Z.cz(z:Z G c J lv)(r:ao G z.I z.U (.cz ks vs) v) :
  ∃ a bq,v=.ref a/\(a==sysModules)=false/\z.s.heap.DictOf (strKind G.prog G.w) a bq/\bq.map (·.1)=ks.map S/\av G z.I z.U vs (bq.map (·.2)):=by
 obtain⟨a,o,bq,rfl,h1,h2,h3,h4,h5⟩:=r;exact⟨a,bq,rfl,h2,Kh.mpr ⟨o,z.st.im _ _ h1,h3⟩,h4,h5⟩
theorem Z.gZ(z:Z G c J lv)(r:ao G z.I z.U (.gZ ks vs) v) :
  ∃ a bq,v=.ref a/\(a==sysModules)=false/\z.s.heap.DictOf (intKind G.prog G.w) a bq/\bq.map (·.1)=ks/\av G z.I z.U vs (bq.map (·.2)):=by
 obtain⟨a,o,bq,rfl,h1,h2,h3,h4,h5⟩:=r;exact⟨a,bq,rfl,h2,Kh.mpr ⟨o,z.st.im _ _ h1,h3⟩,h4,h5⟩
theorem Z.tup(z:Z G c J lv)(r:ao G z.I z.U (.tup l) v):∃ a vs,v=.ref a/\z.s.heap.IsTuple a vs.toArray/\av G z.I z.U l vs:=by
 obtain⟨a,vs,rfl,ht,hr⟩:=r;exact⟨a,vs,rfl,fJ z.st.im ht,hr⟩
theorem AZ{I:Im}{U:List Loc}{A:Around}{s:Shared}{x:V}{l:List V}{v:Value}{vs:List Value}{b:Bool}(hu:A.units+95<cLine)(im:∀ a o,I a=some o->s.heap.get? a=some o)
  (rx:ao G I U x v) (rl:av G I U l vs) (e:ir x l=some b):∃ f:Value->Bool,(∀ y,y∈vs.toArray->EqAt A.in1 s y v (f y))/\vs.toArray.any f=b:=by
 classical
 unfold ir at e;split at e
 ·rename_i hc;cases e;simp only[hG,decide_eq_true_eq]at hc;obtain⟨⟨h1,h2⟩,h3⟩:=hc;refine⟨fun u=>decide (∃ y,cU y=true/\ao G I U y u/\dz y x=true),fun u hu'=>?_,?_⟩
  ·have hm:u∈vs:=by simpa using hu'
   obtain⟨j,hj,rfl⟩:=tT hm;obtain⟨y,ey,ry⟩:=rl.get hj;have ky:=sq h1 ey;have dy:=yC ey;have:decide (∃ y,cU y=true/\ao G I U y vs[j]/\dz y x=true)=dz y x:=by
    rw[tK,decide_eq_true_eq];exact⟨fun ⟨y',a1,a2,a3⟩=>by rw[w5 ky a1 ry a2];exact a3,fun h=>⟨y,ky,ry,h⟩⟩
   show EqAt A.in1 s vs[j] v (decide (∃ y,cU y=true/\ao G I U y vs[j]/\dz y x=true));rw[this];refine Hk (Eo 90 (ak (Nat.le_min.mpr ⟨ak (vT _ _) dy,tJ _ _⟩) h3) ky h2 ry rx im (e_ (tY (show 91<=95 by decide) A.units) hu)).1 (EU ky ry) fun e=>?_;rw[e]at ry;exact(ue ky).mpr (w5 ky h2 ry rx)
  ·rw[tK,Array.any_eq_true,List.any_eq_true];constructor
   ·intro cu;obtain⟨j,hj,h⟩:=cu;have gH:j<vs.length:=by simpa using hj
    obtain⟨y,ey,ry⟩:=rl.get gH;have ky:=sq h1 ey;simp only[decide_eq_true_eq]at h;obtain⟨y',a1,a2,a3⟩:=h;have a2':ao G I U y' vs[j]:=by simpa using a2
    rw[w5 a1 ky a2' ry]at a3;exact⟨y,eP ey,a3⟩
   ·intro cu;obtain⟨y,hy,h⟩:=cu;obtain⟨j,hj,rfl⟩:=tT hy;have gH:j<vs.length:=by rw[rl.length];exact hj
    obtain⟨y,ey,ry⟩:=rl.get gH;rw[dw hj]at ey;cases ey;have ky:=sq h1 (dw hj);exact⟨j,by simpa using gH,by simp only[decide_eq_true_eq];exact⟨_,ky,by simpa using ry,h⟩⟩
 ·cases e
theorem zy(rm:f_ c k):c.A.units+95<cLine:=by
 have:=rm.2.1;show c.A.units+95<9900;lia
theorem aao:S2 G k (compareOp .In) (bj .isIn):=fun c J lv z x y v u Q E rm rx ry kv=>by
 have kv:KO (ao G) z (A2 x y false J) Q E:=kv;cases y with
 |str b=>
  obtain⟨t',rfl⟩:=ry;exact iq (P:=fun v=>wpAny G.M c.A (compareOp .In v _) Q E z.s) kv rx fun a t kv=>P.in_str (kv.iZ (by rw[Nt,tX]))
 |tup l=>
  obtain⟨a,vs,rfl,ht,hr⟩:=z.tup ry;refine dk kv fun b e kv=>?_;obtain⟨f,hf,e3⟩:=AZ (zy rm) z.st.im rx hr e;exact in_tupleAt f ht hf (kv.iZ (by rw[e3,tX]))
 |ref i=>
  have kv:KO (ao G) z (bt i (fun l=>aS (ir x l) fun b=>Ev.ret (.bool b)) J) Q E:=kv;refine iS (P:=fun u=>wpAny G.M c.A (compareOp .In v u) Q E z.s) kv ry fun l a vs n hl kv=>dk kv fun b e kv=>?_;obtain⟨f,hf,e3⟩:=AZ (zy rm) z.st.im rx hl.rs e;exact in_listAt f hl.is hf (kv.iZ e3)
 |cz ks vs=>
  obtain⟨a,bq,rfl,h1,h2,h3,h4⟩:=z.cz ry;refine iq (P:=fun v=>wpAny G.M c.A (compareOp .In v _) Q E z.s) kv rx fun x t kv=>?_;refine wpAny_in_of (zj G.prog G.w (S x) t) h1 h2.mapOf ?_;rw[(w_ h3 h4 x).1];exact kv.bool (tX _).symm
 |_=>exact kv.elim
theorem aah:S2 G k (compareOp .NotIn) (bj .ig):=fun c J lv z x y v u Q E rm rx ry kv=>by
 have kv:KO (ao G) z (A2 x y true J) Q E:=kv;cases y with
 |str b=>
  obtain⟨t',rfl⟩:=ry;exact iq (P:=fun v=>wpAny G.M c.A (compareOp .NotIn v _) Q E z.s) kv rx fun a t kv=>P.notIn_str (kv.iZ (by rw[Nt,CU]))
 |tup l=>
  obtain⟨a,vs,rfl,ht,hr⟩:=z.tup ry;refine dk kv fun b e kv=>?_;obtain⟨f,hf,e3⟩:=AZ (zy rm) z.st.im rx hr e;exact notIn_tupleAt f ht hf (kv.iZ (by rw[e3,CU]))
 |cz ks vs=>
  obtain⟨a,bq,rfl,h1,h2,h3,h4⟩:=z.cz ry;refine iq (P:=fun v=>wpAny G.M c.A (compareOp .NotIn v _) Q E z.s) kv rx fun x t kv=>?_;refine wpAny_notIn_of (zj G.prog G.w (S x) t) h1 h2.mapOf ?_;rw[(w_ h3 h4 x).1];exact kv.bool (CU _).symm
 |_=>exact kv.elim
theorem av.append:∀ {a b:List V}{vs ws:List Value},av G I U a vs->av G I U b ws->av G I U (a++b) (vs++ws)
 |[],b,vs,ws=>fun h h'=>by have h:_=_:=h;subst h;exact h'
 |x :: a,b,vs,ws=>fun h h'=>by
  obtain⟨v,us,rfl,h1,h2⟩:=h;simp only[vV,gm,gn];exact⟨v,us++ws,rfl,h1,av.append h2 h'⟩
theorem aiO{A:Around}{E:VP}{s:Shared}{l b:Addr}{vs ws:List Value}{n n2:Nat}{Q:VP}(ho:s.heap.get? l=some (listOf vs.toArray n))(PC:s.heap.get? b=some (listOf ws.toArray n2))
  (h:Q (.ref s.heap.objs.size) { s with heap:=s.heap.push (listOf (vs++ws).toArray 0) })
  (hsz:vs.length+ws.length<=sizeLine):wpAny G.M A (binaryOp .Add (.ref l) (.ref b)) Q E s:=by
 have e:vs.toArray++ws.toArray=(vs++ws).toArray:=by simp
 refine concat_meets ⟨_,ho,rfl⟩ ⟨_,PC,rfl⟩ noFill_list_add seq_list_add PySem.F.slot_list_add PySem.F.entry_list_add (PySem.F.args_list_add_2 _ _) (list_addW l b vs.toArray ws.toArray n n2 none none #[] #[] (by simpa using hsz)) ⟨ho,PC,?_⟩;rw[e];exact h
theorem Me(h:small i=true):i.natAbs<2 ^ 62:=of_decide_eq_true h
theorem ME:S2 G k (binaryOp .Add) (c_ .add):=fun c J lv z x y v u Q E rm rx ry kv=>by
 have kv:KO (ao G) z (VZ x y J) Q E:=kv;cases x with
 |int a=>
  obtain⟨t,rfl⟩:=rx;exact jr (P:=fun u=>wpAny G.M c.A (binaryOp .Add _ u) Q E z.s) kv ry fun b t' kv=>add_int (kv.int rfl)
 |str a=>
  obtain⟨t,rfl⟩:=rx;refine iq (P:=fun u=>wpAny G.M c.A (binaryOp .Add _ u) Q E z.s) kv ry fun b t' kv=>cG kv fun hs kv=>?_;refine add_str (fun t' tk=>?_) (by rw[hY,hY,<-bz];exact ji hs);rw[aiT];exact kv.str
 |ref i=>
  refine oz kv (P:=fun y=>ao G z.I z.U y u->_) (fun j kv ry=>?_) ry;refine iS (P:=fun v=>wpAny G.M c.A (binaryOp .Add v u) Q E z.s) kv rx fun a p vs n ha kv=>?_;refine iS (P:=fun u=>wpAny G.M c.A (binaryOp .Add _ u) Q E z.s) kv ry fun b q ws n' hb kv=>?_;exact OG kv (av.append ha.rs hb.rs) fun hs q=>aiO ha.ho hb.ho q (by rw[ha.rs.length,hb.rs.length,<-bz];exact ji hs)
 |_=>exact kv.elim
theorem aag:S2 G k (binaryOp .Sub) (c_ .sub):=nY fun c J lv z a b t t' Q E kv=>sub_int (kv.int rfl)
theorem Mf(h:small i=true):Builtin.Int.intBits i<=64:=by
 have:=Me h;exact intBits_le_64 (by lia) (by lia)
theorem aaj:S2 G k (binaryOp .Mult) (c_ .mul):=nY fun c J lv z a b t t' Q E kv=>cG kv fun hs kv=>
 mul_int (kv.int rfl) ((CT.mp hs).elim (fun h=>.of_left (Mf h)) fun h=>.of_right (Mf h))
theorem MC:S2 G k (binaryOp .FloorDiv) (c_ .fdiv):=nY fun c J lv z a b t t' Q E kv=>cG kv fun hs kv=>by
 have hs:=of_decide_eq_true hs;refine AutoIntOps.floordiv_1 (by simp;lia) (by rw[PyProof.noPylong_small (by lia)];simp) ?_;exact kv.int (Int.fdiv_eq_ediv_of_nonneg _ (by lia))
theorem MB:S2 G k (binaryOp .Mod) (c_ .mod):=nY fun c J lv z a b t t' Q E kv=>cG kv fun hs kv=>
 mod_int (Int.ne_of_gt (of_decide_eq_true hs)) (kv.int (Int.fmod_eq_emod_of_nonneg _ (Int.le_of_lt (of_decide_eq_true hs))))
theorem MA:S2 G k (binaryOp .Pow) (c_ .pow):=nY fun c J lv z a b t t' Q E kv=>cG kv fun hs kv=>by
 have hs:=of_decide_eq_true hs;have:=Me hs.1;exact pow_int_small hs.2.1 hs.2.2 (by lia) (kv.int rfl)
theorem pP{A:Around}{E:VP}{s:Shared}{value slice:Expr}{o i:Value}{T id:String}{Q:VP}(hT:s.TypeIs o T)
  (hl:typeLookup (.type T) "__getitem__"=pure (some (.builtin id))) (hg:wpAny G.M A (getItem o i) Q E s):wpAny G.M A (subscriptTail value slice o i) Q E s:=by
 have:∃ ops,subscripted slice false o i=operate ops (getItem o i):=by
  cases slice<;>first|exact⟨_,rfl⟩|(rename_i l u c p;cases c<;>exact⟨_,rfl⟩)
 obtain⟨ops,hs⟩:=this;exact tail_any hT hl hg hs
theorem A3(h:iu i=true):0<=i/\i<1048576:=of_decide_eq_true h
theorem Mp(h:0<=i)(hn:i.toNat<n):seqIndex? i n=some i.toNat:=by
 show(if (decide (0<=if i<0 then i+n else i)&&decide ((if i<0 then i+n else i)<n))=true then some (if i<0 then i+n else i).toNat else none)=_;rw[if_neg (Ke.mpr h),decide_eq_true h,decide_eq_true ((Int.toNat_lt h).mp hn)];rfl
theorem aap(value slice:Expr):S2 G k (subscriptTail value slice) eM:=fun c J lv z x y v u Q E rm rx ry kv=>by
 cases x with
 |str l=>
  obtain⟨t,rfl⟩:=rx;refine jr (P:=fun u=>wpAny G.M c.A (subscriptTail value slice _ u) Q E z.s) kv ry fun i t' kv=>cG kv fun hi kv=>dk kv fun y e kv=>?_;have hi:=A3 hi;refine pP (zi _ _ _) VV.lookup (PyProof.Rows.getItem_str (i:=i) (c:=y) ?_ ?_ ?_)
  ·simp;lia
  ·rw[hY,Mp hi.1 (aX.mp e).1];simpa using e
  ·exact kv.str
 |tup l=>
  obtain⟨a,vs,rfl,ht,hr⟩:=z.tup rx;refine jr (P:=fun u=>wpAny G.M c.A (subscriptTail value slice _ u) Q E z.s) kv ry fun i t' kv=>cG kv fun hi kv=>dk kv fun y e kv=>?_;have hi:=A3 hi;have aP:i.toNat<vs.length:=by rw[hr.length];exact(aX.mp e).1
  obtain⟨z',e',rz⟩:=hr.get aP;rw[e]at e';cases e';exact pP (IsTup.typeIs ht) VU.lookup (PyProof.Rows.getItem_tuple (j:=i.toNat) (x:=vs[i.toNat]) ht (by lia) (by lia) (Mp hi.1 (by simpa using aP)) (by simp[aP]) (kv.eN rz))
 |ref j=>
  refine jr (P:=fun u=>wpAny G.M c.A (subscriptTail value slice v u) Q E z.s) kv ry fun i t' kv=>?_;refine iS (P:=fun v=>wpAny G.M c.A (subscriptTail value slice v _) Q E z.s) kv rx fun l a vs n hl kv=>cG kv fun hi kv=>dk kv fun y e kv=>?_;have hi:=A3 hi;have aP:i.toNat<vs.length:=by rw[hl.rs.length];exact(aX.mp e).1
  obtain⟨z',e',rz⟩:=hl.rs.get aP;rw[e]at e';cases e';exact pP hl.is.typeIs VT.lookup (wpAny_getItem_list (x:=vs[i.toNat]) hl.is hi.1 (by lia) (by simp[aP]) (kv.eN rz))
 |cz ks vs=>
  obtain⟨a,bq,rfl,h1,h2,h3,h4⟩:=z.cz rx;refine iq (P:=fun u=>wpAny G.M c.A (subscriptTail value slice _ u) Q E z.s) kv ry fun x t kv=>dk kv fun y e kv=>?_;obtain⟨v',e',rz⟩:=(w_ h3 h4 x).2 y e;exact pP h2.mapOf.typeIs VS.lookup (wpAny_getItem_of (zj G.prog G.w (S x) t) h2.mapOf e' (kv.done rz))
 |gZ ks vs=>
  obtain⟨a,bq,rfl,h1,h2,h3,h4⟩:=z.gZ rx;refine jr (P:=fun u=>wpAny G.M c.A (subscriptTail value slice _ u) Q E z.s) kv ry fun x t kv=>dk kv fun y e kv=>?_;obtain⟨v',e',rz⟩:=Ng h3 h4 x y e;exact pP h2.mapOf.typeIs VS.lookup (wpAny_getItem_of (intKind_is G.prog G.w x t) h2.mapOf e' (kv.done rz))
 |_=>exact kv.elim
theorem Yx(ha:SE G O k cs a pa)(hi:SE G O k cs i pi):SE G O k cs (.Subscript a i pos) (.idx pa pi):=fun c J lv z Q E rd kv=>by
 refine Subscript_ ?_;refine cy kv (ha c _ _ z _ _ rd) fun x aa v z1 l1 rv bb=>?_;refine cy bb (hi c _ _ z1 _ _ rd) fun y aj u z2 l2 ru eA=>?_;exact aap a i c _ _ z2 x y v u Q E rd.rm (l2.rep rv) ru eA
end
structure t5(K:Frag):Prop where
 get:∀ (c:Cl) (n:Str),plainGet K (bG c) n=true
 dict:∀ c,hasDictIn K (bG c)=true
 fld:∀ c n,n∈ec c->findIn K (.ref (bG c)) n.s=some none
 set:∀ c,findIn K (.ref (bG c)) (Str.ofString "__setattr__")=some (some (.builtin "object.__setattr__"))
 over:∀ c,plainOver K (bG c)=true
 Lq:∀ c n,n∈ec c->takerIn K (bG c) n.s=some none
 ai:∀ c n a,m8 c n=some a->findIn K (.ref (bG c)) n.s=some (some (.ref a))/\isFn K (.ref a)=true
section
variable {G:GI}{O:ay}{k:Nat}{cs:Scope}
theorem Z.sI(g:bH G)(z:Z G c J lv):G.K.In z.s.heap:=fun a o e=>z.st.im _ _ (z.st.h0 _ _ (g.K a o e))
theorem uW{tk:Tok}{a b:Str}{v:Value}(h:v=.str a tk):v.isStr b=(a==b):=by subst h;rfl
theorem afy(c:Cl):((ec c).map Nm.s).Nodup:=by cases c<;>decide
theorem Sf:∀ {ns:List Nm}{vs:List Value}{es:List DictEntry},(ns.map Nm.s).Nodup->fK ns vs es->∀ {n:Nm}{j:Nat},ns.findIdx? (·==n)=some j ->
  ∃ v e,vs[j]?=some v/\es.find? (fun e=>e.key.isStr n.s)=some e/\e.val=v
 |[],_,_,_,_,n,j=>fun h=>by simp at h
 |nm :: ns,[],es,_,h,_,_=>fun _=>absurd h vC
 |nm :: ns,_ :: _,[],_,h,_,_=>fun _=>False.elim h
 |nm :: ns,w :: ws,e :: es,nd,h,n,j=>fun hj=>by
  obtain⟨⟨tk,hk⟩,hv,hr⟩:=h;rw[gO,dE]at nd;rw[zh]at hj;by_cases hn:nm=n
  ·subst hn;simp only[beq_self_eq_true,if_true,Kc]at hj;subst hj;exact⟨w,e,rfl,by rw[Kb,uW hk];simp,hv⟩
  ·have:(nm==n)=false:=by simpa using hn
   rw[this]at hj;simp only[pG,if_false]at hj;obtain⟨j',gH,rfl⟩:=eO.mp hj;obtain⟨v,e',h1,h2,h3⟩:=Sf nd.2 hr gH;refine⟨v,e',by simpa using h1,?_,h3⟩;rw[Kb,uW hk];have aY:(nm.s==n.s)=false:=by
    rw[beq_eq_false_iff_ne];intro q;refine nd.1 ?_;rw[q];obtain⟨aP,hb,_⟩:=zg.mp gH;have:ns[j']=n:=by simpa using hb
    exact pv.mpr ⟨n,by rw[<-this];exact CS _,rfl⟩
   rw[aY];exact h2
theorem GR(c:Cl)(m:Nat):(((ec c).take m).map Nm.s).Nodup:=by
 exact VR ((VQ _ _).map _) (afy c)
theorem Q7{ns:List Nm}{n:Nm}:∀ {m j:Nat},ns.findIdx? (·==n)=some j->j<m->(ns.take m).findIdx? (·==n)=some j:=by
 induction ns with
 |nil=>intro m j h;simp at h
 |cons a r ih=>
  intro m j h hj;cases m with
  |zero=>lia
  |succ m=>
   rw[VO,zh];rw[zh]at h;split
   ·rename_i q;rw[q]at h;simpa using h
   ·rename_i q;simp only[q,pG,if_false]at h;obtain⟨j',h1,rfl⟩:=eO.mp h;rw[ih h1 (by lia)];rfl
theorem afY(h:fK ((ec c).take m) vs es)(hn:dX c n=some j)(hj:j<m):∃ v,vs[j]?=some v/\getL n.s es=some (some v):=by
 obtain⟨v,e,h1,h2,h3⟩:=Sf (GR c m) h (Q7 hn hj);exact⟨v,h1,by unfold getL;rw[h2];simp only[h3]⟩
theorem R_:∀ {ns:List Nm}{vs:List Value}{es:List DictEntry},fK ns vs es->∀ {n:Str},(ns.map Nm.s).contains n=false->es.find? (fun e=>e.key.isStr n)=none/\es.any (·.refKey)=false
 |[],[],[],_,n=>fun _=>⟨rfl,rfl⟩
 |[],_ :: _,es,h,_=>fun _=>absurd h BQ
 |[],[],_ :: _,h,_=>fun _=>False.elim h
 |nm :: ns,[],es,h,_=>fun _=>absurd h vC
 |nm :: ns,_ :: _,[],h,_=>fun _=>False.elim h
 |nm :: ns,w :: ws,e :: es,h,n=>fun hc=>by
  obtain⟨⟨tk,hk⟩,hv,hr⟩:=h;rw[gO,CV,VN]at hc;have ih:=R_ hr hc.2;refine⟨?_,?_⟩
  ·rw[Kb,uW hk,show(nm.s==n)=(n==nm.s) by rw[tK,beq_iff_eq,beq_iff_eq];exact eq_comm,hc.1];exact ih.1
  ·rw[Ka,ih.2,I_];unfold DictEntry.refKey;rw[hk]
theorem ao.handed(r:ao G I U x v)(hj:(!lQ x)=true):handedIn v=true:=(r.shape hj).1
theorem Sb:∀ {ns:List Nm}{vs:List Value}{es:List DictEntry},fK ns vs es->ns.length<=vs.length
 |[],_,_=>fun _=>dc _
 |nm :: ns,[],es=>fun h=>absurd h vC
 |nm :: ns,_ :: _,[]=>fun h=>False.elim h
 |nm :: ns,w :: ws,e :: es=>fun h=>by
  exact cg (Sb h.2.2)
inductive rC(G:GI)(I:Im)(U:List Loc)(h:Heap)(v:Value)(c:Cl)(l:List V):Prop
 |mk (a d vs es n:_) (h1:v=.ref a) (h2:h.get? a=some (instObj (bG c) d)) (h3:h.get? d=some (dictOf es n)) (h4:fK ((ec c).take l.length) vs es) (h5:av G I U l vs)
theorem rC.at(x:rC G I U h v c l):∃ a d vs es n,v=.ref a/\fK ((ec c).take l.length) vs es/\av G I U l vs/\InstAt h a (instObj (bG c) d) (bG c) (some (dictOf es n)):=
 let ⟨a,d,vs,es,n,e,h1,h2,h3,h4⟩:=x;⟨a,d,vs,es,n,e,h3,h4,⟨h1,rfl,rfl,h2⟩⟩
theorem Z.ins(z:Z G c J lv)(h:J[i]?=some (.ins cl l))(r:ao G z.I z.U (.ref i) v):rC G z.I z.U z.s.heap v cl l:=by
 obtain⟨lo,hl,rfl⟩:=r;have hc:=z.st.cells.2 i lo _ hl h;cases lo<;>try exact False.elim hc
 rename_i a d;obtain⟨h0,vs,es,n,h1,h2,h3⟩:=hc;exact⟨a,d,vs,es,n,rfl,z.st.im _ _ h0,h1,h2,h3⟩
theorem Z.obj(z:Z G c J lv)(r:ao G z.I z.U (.obj cl l) v):rC G z.I z.U z.s.heap v cl l:=by
 obtain⟨a,d,vs,es,n,rfl,h1,h2,h3,h4⟩:=r;have e:(ec cl).take l.length=ec cl:=by
  rw[<-h4.length];exact k7 (Sb h3)
 exact⟨a,d,vs,es,n,rfl,z.st.im _ _ h1,z.st.im _ _ h2,by rw[e];exact h3,h4⟩
theorem ait(z:Z G c J lv)(r:ao G z.I z.U x v)(e:Ce J x n=some y) :
  ∃ cl l j,rC G z.I z.U z.s.heap v cl l/\dX cl n=some j/\l[j]?=some y:=by
 have key:∀ {cl l},rC G z.I z.U z.s.heap v cl l->(match dX cl n with|some k=>l[k]?|none=>none)=some y->∃ cl l j,rC G z.I z.U z.s.heap v cl l/\dX cl n=some j/\l[j]?=some y:=fun {cl l} hi e=>by
  split at e
  ·rename_i j hj;exact⟨cl,l,j,hi,hj,e⟩
  ·cases e
 cases x<;>first|exact ck e|exact key (z.obj r) e|skip
 rename_i i;have e:(match J[i]?.bind qY with|some (c,l)=>(match dX c n with|some k=>l[k]?|none=>none)|none=>none)=some y:=e;cases hq:J[i]?.bind qY with
 |none=>rw[hq]at e;cases e
 |some q=>
  rw[hq]at e;obtain⟨x,hx,h2⟩:=yN hq;exact key (z.ins (TO h2▸hx) r) e
theorem GS(h:dX c n=some j):n∈ec c:=by
 obtain⟨aP,hb,_⟩:=zg.mp h;have:(ec c)[j]=n:=by simpa using hb
 rw[<-this];exact CS _
theorem QL(g:bH G)(ko:t5 G.K)(z:Z G c J lv){expr:Bool}
  (hi:rC G z.I z.U z.s.heap v cl l) (hj:dX cl n=some j) (hy:l[j]?=some y) (hn:(!lQ y)=true) (h:∀ u,ao G z.I z.U y u->Q u { z.s with toks:=z.s.toks+1 }):wpAny G.M c.A (getAttr v n.s expr) Q E z.s:=by
 obtain⟨a,d,vs,es,m,rfl,he,hr,IA⟩:=hi.at;obtain⟨u,h1,h2⟩:=afY he hj (aX.mp hy).1;obtain⟨aP,e⟩:=aX.mp h1;obtain⟨y',h3,h4⟩:=hr.get aP;rw[hy]at h3;cases h3;rw[e]at h4;obtain⟨mm,F,hl⟩:=z.st.frame;exact get_own F g.K IA (ko.get cl n.s) (ko.dict cl) (ko.fld cl n (GS hj)) rfl h2 (h4.handed hn) (h u h4)
theorem YL(g:bH G)(ko:t5 G.K)(h:SE G O k cs e pe)(hx:x=n.s)
  (hb:∀ env,attributeBase e x env (eval e env)=eval e env):SE G O k cs (.Attribute e x pos) (.attr pe n):=fun c J lv z Q E rd kv=>by
 subst hx;refine Attribute_any_ ?_ (by rw[arm_eval_Attribute,hb]);refine cy kv (h c _ _ z _ _ rd) fun y aa v z1 l1 rv bb=>?_;refine dk bb fun y hy kv=>cG kv fun hn kv=>?_;obtain⟨cl,l,j,hi,hj,hy⟩:=ait z1 rv hy;exact QL g ko z1 hi hj hy hn fun u ru=>kv.done ru
end
section
variable {G:GI}{O:ay}{k:Nat}{cs:Scope}
def uD(e:Expr):Bool:=if h:e.ctorIdx=16 then Expr.Call.elim e h fun f as ks _=>!(iU f 23&&as.isEmpty&&ks.isEmpty) else true
theorem TC{whole:Sem Value}(h:uD o=true):attributeBase o x env whole=whole:=by
 cases o with
 |Call f as ks p=>cases f<;>first|rfl|(cases as<;>first|rfl|(cases ks<;>first|rfl|exact nf h))
 |_=>rfl
theorem TP(h:es.all eH=true):(backTo pos (starEach es env)).any (·.1)=false:=by
 induction es with
 |nil=>rfl
 |cons e es ih=>
  rw[o8,hG]at h;rw[gQ h.1];show(false||(backTo pos (starEach es env)).any (·.1))=false;rw[ih h.2];rfl
theorem aiG(h:es.all eH=true):(backTo pos (starEach es env)).all (fun x=>!x.1)=true:=by
 induction es with
 |nil=>rfl
 |cons e es ih=>
  rw[o8,hG]at h;rw[gQ h.1];show(true&&(backTo pos (starEach es env)).all (fun x=>!x.1))=true;rw[ih h.2];rfl
theorem afS(hu:es.all eH=true)
  (h:wpAny M A (spliced (backTo pos (starEach es env))) (fun vs s'=>Q ⟨vs,[]⟩ s') E s):wpAny M A (evalArgs f true (backTo pos (starEach es env)) []) Q E s:=by
 cases es with
 |nil=>
  unfold evalArgs;show wpAny M A (spliced []>>=_) Q E s;refine au (fI (show wpAny M A (spliced []) _ E s from h) (fun vs s' h'=>?_) fun _ _ x=>x);refine gM ?_;exact au (a_ (au (a_ (a_ h'))))
 |cons e es=>
  rw[o8,hG]at hu;rw[gQ hu.1]at h ⊢;exact evalArgs_plain h
def rB(prog:Program)(w:World)(h:Heap)(v:Value):Prop:=∃ kp,(kp=Keeper.frame∨kp=Keeper.machine∨kp=Keeper.boundFrame)/\Looks (model prog w) h (keeperOf v) kp
def ki(G:GI)(O:ay)(k:Nat):Prop:=
 ∀ (c:Cx) J lv (z:Z G c J lv) x v xs vs Q E,cx c->f_ c k->ao G z.I z.U x v->av G z.I z.U xs vs->KO (ao G) z (mi O x xs J) Q E ->
  rB G.prog G.w z.s.heap v/\wpAny G.M c.A (call v vs) Q E z.s
theorem nH{first:List Value}{pos pos':Pos}(hu:es.all eH=true)
  (h:wpAny M A (spliced (backTo pos (starEach es env))) (fun vs mC=>(∃ kp,(kp=Keeper.frame∨kp=Keeper.machine∨kp=Keeper.boundFrame)/\Looks M mC.heap (keeperOf f) kp)/\wpAny M A (call f (first++vs)) Q E mC) E s) :
  wpAny M A (callWith pos' f first (backTo pos (starEach es env)) []) Q E s:=
 callWith_of (P:=fun h=>∃ kp,(kp=Keeper.frame∨kp=Keeper.machine∨kp=Keeper.boundFrame)/\Looks M h (keeperOf f) kp) (by rw[TP hu];rfl) (fun _ x=>x) (afS hu h)
def Av(e:Expr):Bool:=!iU e 20
theorem Hb{args:List Expr}(h:Av f=true):eval (.Call f args [] pos) env=(do callWith pos (<-eval f env) [] (backTo pos (starEach args env)) []):=by
 cases f<;>first|rfl|cases h
theorem YF{args:List Expr}(sc:ki G O k)(hf:SE G O k cs f pf)(ha:SL G O k cs args Ey)(hn:Av f=true)(hu:args.all eH=true) :
  SE G O k cs (.Call f args [] pos) (.call pf Ey):=fun c J lv z Q E rd kv=>by
 rw[Hb hn];refine au ?_;refine cy kv (hf c _ _ z _ _ rd) fun x aa v z1 l1 rv bb=>?_;refine nH hu ?_;refine cy bb (ha c pos _ _ z1 _ _ rd) fun xs aj vs z2 l2 ux eA=>?_;exact sc c _ _ z2 x v xs vs Q E rd.ok rd.rm (l2.rep rv) ux eA
theorem E4{name:Str}{apos pos:Pos}{args:List Expr}(hb:uD o=true)(hu:args.all eH=true)(hl:args.length<30)(qB:(apos.endLine==pos.line)=true)
  (h:wpAny G.M A (eval o env) (fun ov mC=>∀ pl,wpAny G.M A (getMethod ov name pl) (fun fx mB=>wpAny G.M A (callWith pos fx.1 fx.2 (backTo pos (starEach args env)) []) Q E mB) E mC) E s) :
  wpAny G.M A (eval (.Call (.Attribute o name apos) args [] pos) env) Q E s:=by
 have aeR:methodCallForm (args.length+([]:List Keyword).length) (backTo pos (starEach args env)) (backToKw pos (keywordEach [] env))=true:=by
  unfold methodCallForm;rw[aiG hu];show(true&&true&&decide (args.length+0+0<30))=true;simp;omega
 have aeD:methodCallPos true o env apos pos=pure pos:=by unfold methodCallPos;simp[qB]
 rw[arm_eval_Call,TC hb];refine au (fI h (fun ov mC dS=>?_) fun _ _ e=>e);refine au (mj ?_);unfold methodCall;rw[aeR];refine au (gM (fI (dS _) (fun fx mB xF=>?_) fun _ _ x=>x));exact au (wpAny_of_eq aeD xF)
def V2(G:GI):Prop:=
 ∀ (c:Cx) J lv (z:Z G c J lv) x v n p pl (Q:Value×List Value->Shared->Prop) E,ao G z.I z.U x v->bU J x n=some p ->
  (∀ fv tk,ao G z.I z.U p.1 fv->Q (fv,cond p.2 [v] []) { z.s with toks:=tk })->wpAny G.M c.A (getMethod v n.s pl) Q E z.s
abbrev Z.tick{c:Cx}{J:LC}{lv:LV}(z:Z G c J lv)(tk:Nat):Z G c J lv:=z.go (h:=z.s.heap) (z.st.toks (tk:=tk))
theorem Z.AE(z:Z G c J lv)(tk:Nat):z.Le (z.tick tk):=Z.ez (aC.refl _) (aA.refl _)
theorem Yq{name:Str}{apos pos:Pos}{args:List Expr}(sc:ki G O k)(sm:V2 G)(ho:SE G O k cs o po)(ha:SL G O k cs args Ey)
  (hx:name=n.s) (hb:uD o=true) (hu:args.all eH=true) (hl:args.length<30) (qB:(apos.endLine==pos.line)=true) :
  SE G O k cs (.Call (.Attribute o name apos) args [] pos) (.ai po n Ey):=fun c J lv z Q E rd kv=>by
 subst hx;refine E4 hb hu hl qB ?_;refine cy kv (ho c _ _ z _ _ rd) fun x aa v z1 l1 rv bb=>fun pl=>?_;refine dk bb fun p hm bb=>sm c _ _ z1 x v n p pl _ _ rv hm fun fv tk rf=>nH hu ?_;refine cy (z:=z1.tick tk) (bb.shift (z1.AE tk)) (ha c pos _ _ (z1.tick tk) _ _ rd) fun xs aj vs z2 l2 ux eA=>?_;refine sc c _ _ z2 p.1 fv _ _ Q E rd.ok rd.rm (l2.rep rf) ?_ eA
 cases p.2 with
 |true=>exact Exists.intro v ⟨vs,rfl,l2.rep rv,ux⟩
 |false=>exact ux
theorem acK{E:VP}{s:Shared}{A:Around}{x C:Addr}{ox:Obj}{od:Option Obj}{name:Str}{pl:Sem Bool}{Q:Value×List Value->Shared->Prop}{K:Frag}(X:K.In s.heap)(I:InstAt s.heap x ox C od)
  (hg:plainGet K C name=true) (hf:findIn K (.ref C) name=some none) (h:wpAny G.M A (getAttr (.ref x) name) (fun v s'=>Q (v,[]) s') E s):wpAny G.M A (getMethod (.ref x) name pl) Q E s:=by
 have aeY:=PySem.F.canon_object_ga;unfold getMethod specialOf;refine au (au (I.type.here ((CQ X (plainGet_of hg).1).here ?_)));dsimp only;rw[aeY,if_neg ⋯];refine au (au (I.type.here ((CQ X (plainGet_of hg).2).here ?_)));refine au (au (I.type.here ((CQ X hf).here ?_)));dsimp only;exact au (fI h (fun v s' q=>a_ q) fun _ _ x=>x)
theorem HU(h:yJ o=some p):∃ b,o=some b/\p=(.bi b,true):=by
 obtain⟨b,h1,h2⟩:=eO.mp h;exact⟨b,h1,h2.symm⟩
theorem XY(h:DS n=some b):∃ id,b.v=.builtin id/\Slot "str" n.s id/\typeOf (.builtin id)=pure (.type "method_descriptor"):=by
 unfold DS at h;split at h
 ·rename_i e;subst e;cases h;exact⟨_,rfl,PySem.F.slot_str_upper,PySem.F.type_str_upper⟩
 split at h
 ·rename_i e;obtain rfl:=e.symm;cases h;exact⟨_,rfl,PySem.F.slot_str_split,PySem.F.type_str_split⟩
 split at h
 ·rename_i e;subst e;cases h;exact⟨_,rfl,CP,VM⟩
 split at h
 ·rename_i e;subst e;cases h;exact⟨_,rfl,PySem.F.slot_str_index,PySem.F.type_str_index⟩
 cases h
theorem acR(h:xp n=some b):∃ id,b.v=.builtin id/\Slot "list" n.s id/\typeOf (.builtin id)=pure (.type "method_descriptor"):=by
 unfold xp at h;split at h
 ·rename_i e;subst e;cases h;exact⟨_,rfl,PySem.F.slot_list_append,PySem.F.type_list_append⟩
 split at h
 ·rename_i e;subst e;cases h;exact⟨_,rfl,VL,PySem.F.type_list_pop⟩
 cases h
theorem agn(h:Hr n=some b):∃ id,b.v=.builtin id/\Slot "dict" n.s id/\typeOf (.builtin id)=pure (.type "method_descriptor"):=by
 unfold Hr at h;split at h
 ·rename_i e;subst e;cases h;exact⟨_,rfl,VK,PySem.F.type_dict_get⟩
 cases h
theorem acM(h:m8 cl n=some a):((ec cl).map Nm.s).contains n.s=false:=by
 have key:∀ c:Cl,((Ab++BX).map (·.1)).all (fun n=>!((ec c).map Nm.s).contains n.s)=true:=fun c=>by cases c<;>decide +kernel
 simpa using iJ.mp (key cl) n (NT h)
theorem acL(g:bH G)(ko:t5 G.K):V2 G:=fun c J lv z x v n p pl Q E rv hm h=>by
 cases x with
 |str l=>
  obtain⟨b,hb,rfl⟩:=HU hm;obtain⟨id,e,sl,ty⟩:=XY hb;obtain⟨t,rfl⟩:=rv;exact PySem.getMethod_builtin (zi z.s _ t) VJ sl ty (fun a e=>by cases e) (h (.builtin id) z.s.toks e.symm)
 |cz ks vs=>
  obtain⟨b,hb,rfl⟩:=HU hm;obtain⟨id,e,sl,ty⟩:=agn hb;obtain⟨a,bq,rfl,h1,h2,h3,h4⟩:=z.cz rv;exact getMethod_builtin h2.mapOf.typeIs PySem.F.plainAttrs_dict sl ty h2.mapOf.noDict (h (.builtin id) z.s.toks e.symm)
 |ref i=>
  have hm:yG J[i]? n=some p:=hm;cases hc:J[i]? with
  |none=>rw[hc]at hm;cases hm
  |some y=>
  rw[hc]at hm;cases y with
  |lst l=>
   obtain⟨b,hb,rfl⟩:=HU hm;obtain⟨id,e,sl,ty⟩:=acR hb;obtain⟨a,vs,m,rfl,hl⟩:=z.lst hc rv;exact getMethod_builtin hl.is.typeIs PySem.F.plainAttrs_list sl ty (fun a e=>by cases e;exact⟨_,hl.ho,rfl⟩) (h (.builtin id) z.s.toks e.symm)
  |ins cl l=>
   have hi:=z.ins hc rv;obtain⟨a,d,vs,es,m,rfl,he,hr,IA⟩:=hi.at;obtain⟨mm,F,cD⟩:=z.st.frame;have hm:xD cl l n=some p:=hm;unfold xD at hm;split at hm
   ·rename_i j hj;split at hm
    ·rename_i y hy;split at hm
     ·cases hm
     ·rename_i hn;cases hm;exact acK (z.sI g) IA (ko.get cl n.s) (ko.fld cl n (GS hj)) (QL g ko z hi hj hy (by simpa using hn) fun u ru=>h u (z.s.toks+1) ru)
    ·cases hm
   ·obtain⟨a',ha,e⟩:=eO.mp hm;cases e;obtain⟨k1,k2⟩:=ko.ai cl n a' ha;refine method_inst F g.K IA (ko.get cl n.s) k1 k2 ?_ (h _ z.s.toks rfl);have lW:=acM ha;have hc:(((ec cl).take l.length).map Nm.s).contains n.s=false:=by
     rw[<-VI,tW]at lW ⊢;exact fun h=>lW ((VQ _ _).map _ |>.subset h)
    obtain⟨q1,q2⟩:=R_ he hc;unfold getL;rw[q1,q2];rfl
  |_=>cases hm
 |_=>cases hm
end
section
variable {G:GI}{O:ay}{k:Nat}{cs:Scope}
def jb(G:GI)(k:Nat)(n:Bi):Prop:=
 (n=.min∨n=.sum->0<k)->∀ (c:Cx) J lv (z:Z G c J lv) xs vs Q E,f_ c k->av G z.I z.U xs vs->KO (ao G) z (cw n xs J) Q E->wpAny G.M c.A (call n.v vs) Q E z.s
theorem av.one(h:av G I U [x] vs):∃ v,vs=[v]/\ao G I U x v:=by
 obtain⟨v,ws,rfl,h1,rfl⟩:=h;exact⟨v,rfl,h1⟩
theorem St.aix(st:St G c I U J lv s)(hr:av G I U l vs)
  (k:∀ a o,s.heap.get? a=some o->h'.get? a=some o) (ho:h'.get? s.heap.objs.size=some (listOf vs.toArray n)):St G c I (U++[.lst s.heap.objs.size]) (J++[.lst l]) lv { s with heap:=h',toks:=tk }:=by
 have x':=st.keep (tk:=tk) k;refine x'.grow (x'.lL (by simp[Loc.aK]) fun a ha=>?_) (fun a ha=>?_) ⟨vs,n,ho,hr.mono (aC.refl _) (aA.app _ _)⟩ hr.low
 ·simp only[Loc.aK,b_]at ha;subst ha;exact st.new.2
 ·simp only[Loc.aK,b_]at ha;subst ha;exact st.new.1
theorem St.aiw(st:St G c I U J lv s)(hr:av G I U l vs)
  (F:Fr G.H c.L s.heap m) (hl:gb G I U c.cs m lv) (F':Fr G.H c.L h' m) (N:News G.H c.L h' (gK G.H c.L s.heap)) (ho:h'.get? s.heap.objs.size=some (listOf vs.toArray n)):St G c I (U++[.lst s.heap.objs.size]) (J++[.lst l]) lv { s with heap:=h',toks:=tk }:=by
 have x':=st.Fx (tk:=tk) F hl F' N;refine x'.grow (x'.lL (by simp[Loc.aK]) fun a ha=>?_) (fun a ha=>?_) ⟨vs,n,ho,hr.mono (aC.refl _) (aA.app _ _)⟩ hr.low
 ·simp only[Loc.aK,b_]at ha;subst ha;exact st.new.2
 ·simp only[Loc.aK,b_]at ha;subst ha;exact st.new.1
theorem St.Em(st:St G c I U J lv s):ao G I (U++[.lst a]) (.ref J.length) (.ref a):=by
 exact Exists.intro _ ⟨by rw[st.cells.1];exact bx,rfl⟩
theorem ah1:jb G k .len:=fun hk c J lv z xs vs Q E rm rx kv=>by
 refine oA (P:=fun vs=>wpAny G.M c.A (call Bi.len.v vs) Q E z.s) kv rx fun x v rv kv=>?_;cases x with
 |str l=>
  obtain⟨t,rfl⟩:=rv;refine cG kv fun hs kv=>P.len_str (by rw[hY];exact Ml hs) ?_;rw[hY];exact kv.int rfl
 |tup l=>
  obtain⟨a,vs,rfl,ht,hr⟩:=z.tup rv;exact cG kv fun hs kv=>PyProof.Rows.len_tuple ht (by rw[ja,hr.length];exact D5 hs) (kv.int (by rw[ja,hr.length]))
 |ref i=>exact iS (P:=fun v=>wpAny G.M c.A (call Bi.len.v [v]) Q E z.s) kv rv fun l a vs n hl kv=>cG kv fun hs kv=>call_len_list hl.is (by rw[hl.size];exact D5 hs) (kv.int (by rw[hl.size]))
 |_=>exact kv.elim
theorem ais:jb G k .abs:=fun hk c J lv z xs vs Q E rm rx kv=>
 oA (P:=fun vs=>wpAny G.M c.A (call Bi.abs.v vs) Q E z.s) kv rx fun x v rv kv=>jr (P:=fun v=>wpAny G.M c.A (call Bi.abs.v [v]) Q E z.s) kv rv fun i t kv=>call_abs_int fun u tk=>kv.int (by split<;>omega)
theorem ahY:jb G k .min:=fun hk c J lv z xs vs Q E rm rx kv=>
 qi (P:=fun vs=>wpAny G.M c.A (call Bi.min.v vs) Q E z.s) kv rx fun x y v u rv ru kv=>jr (P:=fun v=>wpAny G.M c.A (call Bi.min.v [v,u]) Q E z.s) kv rv fun i t kv=>jr (P:=fun u=>wpAny G.M c.A (call Bi.min.v [_,u]) Q E z.s) kv ru fun j t' kv=>
  min_two_ints (rm.2.2 (hk (.inl rfl))) fun h' tk kk=>kv.new (z.st.keep kk) (aC.refl _) (aA.refl _) (by split<;>exact Exists.intro _ rfl)
theorem O7:∀ {ns:List Int}{vs:List Value},av G I U (ns.map V.int) vs->∃ xs:List (Int×Tok),vs=xs.map (fun p=>Value.int p.1 p.2)/\xs.map (·.1)=ns
 |[],vs=>fun h=>by have h:_=_:=h;subst h;exact⟨[],rfl,rfl⟩
 |i :: r,vs=>fun h=>by
  obtain⟨v,ws,rfl,⟨t,rfl⟩,h2⟩:=h;obtain⟨xs,rfl,rfl⟩:=O7 h2;exact⟨(i,t) :: xs,rfl,rfl⟩
theorem adP(h:av G I U l vs)(e:oB l=some ns):∃ xs:List (Int×Tok),vs=xs.map (fun p=>Value.int p.1 p.2)/\xs.map (·.1)=ns:=O7 (Fw e▸h)
theorem ahq:jb G k .sum:=fun hk c J lv z xs vs Q E rm rx kv=>by
 refine oA (P:=fun vs=>wpAny G.M c.A (call Bi.sum.v vs) Q E z.s) kv rx fun x v rv kv=>?_;refine oz kv (P:=fun x=>ao G z.I z.U x v->_) (fun i kv rv=>?_) rv;refine iS (P:=fun v=>wpAny G.M c.A (call Bi.sum.v [v]) Q E z.s) kv rv fun l a vs n hl kv=>dk kv fun ns e kv=>?_;obtain⟨xs,rfl,rfl⟩:=adP hl.rs e;have h3:=hl.is;have e3:(xs.map (fun p=>Value.int p.1 p.2)).toArray=intItems xs.toArray:=by simp[intItems]
 rw[e3]at h3;refine sum_intListG (rm.2.2 (hk (.inr rfl))) h3 fun h' tk t' kk=>?_;refine kv.new (z.st.keep kk) (aC.refl _) (aA.refl _) ?_;refine Exists.intro t' ?_;congr 1;rw[preSum_eq,k7 (by simp)]
theorem OF{c:Cx}{J:LC}{lv:LV}{z:Z G c J lv}{l:List V}{vs:List Value}{n tk:Nat}{h':Heap}{Q:VP}{E:VP}(kv:KO (ao G) z (some (.ok (.ref J.length),J++[.lst l])) Q E)(rv:av G z.I z.U l vs)
  (k:∀ a o,z.s.heap.get? a=some o->h'.get? a=some o) (ho:h'.get? z.s.heap.objs.size=some (listOf vs.toArray n)):Q (.ref z.s.heap.objs.size) { z.s with heap:=h',toks:=tk }:=
 kv.new (z.st.aix rv k ho) (aC.refl _) (aA.app _ _) z.st.Em
theorem ahZ:jb G k .list:=fun hk c J lv z xs vs Q E rm rx kv=>by
 refine oA (P:=fun vs=>wpAny G.M c.A (call Bi.list.v vs) Q E z.s) kv rx fun x v rv kv=>?_;cases x with
 |tup l=>
  obtain⟨a,vs,rfl,⟨o,h1,h2,n,h3⟩,hr⟩:=z.tup rv;exact cG kv fun hs kv=>call_list_seq (hsz:=by rw[ja,hr.length];exact ji hs) a (.inr rfl) h1 h2 h3 fun h' c' hk hD=>OF kv hr hk hD
 |ref i=>
  exact iS (P:=fun v=>wpAny G.M c.A (call Bi.list.v [v]) Q E z.s) kv rv fun l a vs n hl kv=>cG kv fun hs kv=>call_list_seq (hsz:=by rw[hl.size];exact ji hs) a (.inl rfl) hl.ho rfl rfl fun h' c' hk hD=>OF kv hl.rs hk hD
 |_=>exact kv.elim
theorem ahn:jb G k .tuple:=fun hk c J lv z xs vs Q E rm rx kv=>by
 refine oA (P:=fun vs=>wpAny G.M c.A (call Bi.tuple.v vs) Q E z.s) kv rx fun x v rv kv=>?_;refine oz kv (P:=fun x=>ao G z.I z.U x v->_) (fun i kv rv=>?_) rv;refine iS (P:=fun v=>wpAny G.M c.A (call Bi.tuple.v [v]) Q E z.s) kv rv fun l a vs n hl kv=>cG kv fun hs kv=>?_;refine PySem.call_tuple_list hl.is (hsz:=by rw[hl.size];exact ji hs) fun h' hk=>?_;have jN:=z.st.keep (tk:=z.s.toks) hk
 refine kv.new (jN.push (o:={ cls:=.type "tuple",data:=.seq vs.toArray }) rfl (by simp)) jN.sz (aA.refl _) ?_;exact Exists.intro _ ⟨vs,rfl,⟨_,_,jM _ _ _,rfl,rfl⟩,hl.rs.mono jN.sz (aA.refl _)⟩
theorem lookup_mem{α β:Type}[BEq α][LawfulBEq α]:∀ {l:List (α×β)}{a:α}{b:β},l.lookup a=some b->(a,b)∈l
 |[],_,_=>fun h=>by cases h
 |(x,y) :: r,a,b=>fun h=>by
  rw[f5]at h;split at h
  ·rename_i e;cases h;rw[beq_iff_eq]at e;subst e;exact .head _
  ·exact .tail _ (lookup_mem h)
theorem ack:∀ p∈ER,p.1.natAbs.log2<1920/\Str.ofString (toString p.1)=S p.2:=by
 intro p hp;simp only[ER,bY,q_,or_false]at hp;rcases hp with rfl|rfl<;>exact⟨by decide,by decide +kernel⟩
theorem aht:jb G k .str:=fun hk c J lv z xs vs Q E rm rx kv=>by
 refine oA (P:=fun vs=>wpAny G.M c.A (call Bi.str.v vs) Q E z.s) kv rx fun x v rv kv=>jr (P:=fun v=>wpAny G.M c.A (call Bi.str.v [v]) Q E z.s) kv rv fun i t kv=>dk kv fun l e kv=>?_;obtain⟨q1,q2⟩:=ack _ (lookup_mem e);refine P.str_of_int q1 ?_;rw[q2];exact kv.str
theorem WQ:∀ p∈Dn,(S p.1).length<=5592405/\Txt.upper (S p.1)=S p.2:=by
 intro p hp;simp only[Dn,bY,q_,or_false]at hp;rcases hp with rfl|rfl<;>exact⟨by decide,by decide +kernel⟩
theorem ahk:jb G k .rT:=fun hk c J lv z xs vs Q E rm rx kv=>by
 refine oA (P:=fun vs=>wpAny G.M c.A (call Bi.rT.v vs) Q E z.s) kv rx fun x v rv kv=>iq (P:=fun v=>wpAny G.M c.A (call Bi.rT.v [v]) Q E z.s) kv rv fun l t kv=>dk kv fun l' e kv=>?_;obtain⟨q1,q2⟩:=WQ _ (lookup_mem e);refine SCL.upper q1 fun _=>?_;rw[q2];exact kv.str
theorem afD(c:Nat)(h1:48<=c)(h2:c<=57):Builtin.Str.occurrences (S ym) (S [c]) 0 (S ym).length 1=[c-48]:=by
 have key:∀ i:Fin 10,Builtin.Str.occurrences (S ym) (S [i.1+48]) 0 (S ym).length 1=[i.1]:=by decide +kernel
 have:=key ⟨c-48,by omega⟩;rwa[show(c-48)+48=c from pF h1]at this
theorem afF(h:Q9 m=some c):m=[c]/\48<=c/\c<=57:=by
 cases m with
 |nil=>cases h
 |cons d r=>
  have h:(if r.isEmpty=true/\48<=d/\d<=57 then some d else none)=some c:=h;split at h
  ·rename_i q;cases h;rw[g_.mp q.1];exact⟨rfl,q.2⟩
  ·cases h
theorem aik:jb G k .pS:=fun hk c J lv z xs vs Q E rm rx kv=>by
 refine qi (P:=fun vs=>wpAny G.M c.A (call Bi.pS.v vs) Q E z.s) kv rx fun x y v u rv ru kv=>iq (P:=fun v=>wpAny G.M c.A (call Bi.pS.v [v,u]) Q E z.s) kv rv fun l t kv=>iq (P:=fun u=>wpAny G.M c.A (call Bi.pS.v [_,u]) Q E z.s) kv ru fun m t' kv=>?_;refine cG kv fun hl kv=>dk (z:=z) kv fun d e eA=>?_;obtain⟨rfl,h1,h2⟩:=afF e;rw[of_decide_eq_true hl];exact SC.index (afD d h1 h2) (KO.int eA (Int.ofNat_sub h1))
theorem LM:∀ {l:List (Str×Tok)}{ws:List (List Nat)},l.map (·.1)=ws.map S->av G I U (ws.map V.str) (strValues l)
 |[],ws=>fun h=>by
  cases ws with
  |nil=>simp[gm,gn,strValues]
  |cons=>cases h
 |(x,t) :: r,ws=>fun h=>by
  cases ws with
  |nil=>cases h
  |cons a ws=>
   simp only[gO,Cq]at h;obtain⟨rfl,h⟩:=h;simp only[gO,gm,gn,strValues];exact⟨_,_,rfl,Exists.intro _ rfl,LM h⟩
theorem X_:∀ p∈lB,Txt.split (S p.1) (S [32])=p.2.map S:=by
 intro p hp;simp only[lB,bY,q_,or_false]at hp;rcases hp with rfl|rfl|rfl|rfl|rfl|rfl|rfl|rfl|rfl|rfl<;>decide +kernel
theorem split_len:∀ p∈lB,p.1.length<=10:=by decide
theorem ahu:jb G k .nV:=fun hk c J lv z xs vs Q E rm rx kv=>by
 refine qi (P:=fun vs=>wpAny G.M c.A (call Bi.nV.v vs) Q E z.s) kv rx fun x y v u rv ru kv=>iq (P:=fun v=>wpAny G.M c.A (call Bi.nV.v [v,u]) Q E z.s) kv rv fun l t kv=>iq (P:=fun u=>wpAny G.M c.A (call Bi.nV.v [_,u]) Q E z.s) kv ru fun m t' kv=>?_;refine cG kv fun hm kv=>dk kv fun ws e kv=>?_;have hw:=lookup_mem e;rw[of_decide_eq_true hm];obtain⟨m,F,hl⟩:=z.st.frame
 refine splitN1 F (Ie G.H c.L z.s.heap) ⋯ (fun l' h' kk cD F' N'=>?_) (by rw[hY];exact ak (f9 (split_len _ hw) 2) ⋯);rw[X_ _ hw]at cD;exact kv.new (z.st.aiw (LM cD) F hl F' (fun p hp=>N' p (.tail _ hp)) (N' _ (.head _)).1) (aC.refl _) (aA.app _ _) z.st.Em
theorem LJ:∀ {ws:List (List Nat)}{vs:List Value},av G I U (ws.map V.str) vs->StrsAre vs (ws.map S)
 |[],vs=>fun h=>by have h:_=_:=h;subst h;exact .nil
 |i :: r,vs=>fun h=>by
  obtain⟨v,us,rfl,⟨t,rfl⟩,h2⟩:=h;exact .cons _ _ (LJ h2)
theorem LL(h:av G I U l vs)(e:strsOf l=some ws):StrsAre vs (ws.map S):=LJ (DR e▸h)
theorem QG(sep:List Nat):∀ (ws:List (List Nat)) (a:List Nat),((ws.map S).foldl (fun acc p=>acc++(S sep).cps++p.cps) a.toArray)=(ws.foldl (fun acc p=>acc++sep++p) a).toArray
 |[]=>fun a=>rfl
 |x :: r=>fun a=>by
  simp only[gO,VH];rw[show a.toArray++(S sep).cps++(S x).cps=(a++sep++x).toArray by simp];exact QG sep r _
theorem QX(sep:List Nat):∀ (ws:List (List Nat)) (x:List Nat),ws.foldl (fun acc p=>acc++sep++p) x=kH sep (x :: ws)
 |[]=>fun x=>rfl
 |y :: r=>fun x=>by
  rw[VH,QX sep r];have:∀ (r:List (List Nat)) (a b:List Nat),kH sep ((a++b) :: r)=a++kH sep (b :: r):=by
   intro r a b;cases r with
   |nil=>rfl
   |cons=>show a++b++sep++_=a++(b++sep++_);rw[aH a b sep,aH]
  rw[this r (x++sep) y];rfl
theorem OM(sep:List Nat)(ws:List (List Nat)):Txt.join (S sep) (ws.map S)=S (kH sep ws):=by
 cases ws with
 |nil=>rfl
 |cons x r=>
  show(⟨((r.map S)).foldl (fun acc p=>acc++(S sep).cps++p.cps) x.toArray⟩:Str)=_;rw[QG];exact congrArg S (QX sep r x)
theorem Ly(ws:List (List Nat)):((ws.map S).map (·.length)).sum=(ws.map List.length).sum:=by
 rw[List.map_map];rfl
theorem ah9:jb G k .nW:=fun hk c J lv z xs vs Q E rm rx kv=>by
 refine qi (P:=fun vs=>wpAny G.M c.A (call Bi.nW.v vs) Q E z.s) kv rx fun x y v u rv ru kv=>iq (P:=fun v=>wpAny G.M c.A (call Bi.nW.v [v,u]) Q E z.s) kv rv fun sep t kv=>?_;refine oz kv (P:=fun y=>ao G z.I z.U y u->_) (fun i kv ru=>?_) ru;refine iS (P:=fun u=>wpAny G.M c.A (call Bi.nW.v [_,u]) Q E z.s) kv ru fun l a vs n hl kv=>dk kv fun ws e kv=>cG kv fun hs kv=>?_
 refine join_list hl.is (LL hl.rs e) (by rw[Ly,f7,hY];exact ak (of_decide_eq_true hs) ⋯) fun t' kk=>?_;rw[OM];exact kv.str
theorem set_list(st:St G c I U J lv s)(hl:U[i]?=some (.lst a))(hr:av G I U l vs)
  (hs:Heap.SameBut a s.heap h') (ho:h'.get? a=some (listOf vs.toArray n)) (hw:lows i l=true):St G c I U (J.set i (.lst l)) lv { s with heap:=h',toks:=tk }:=
 st.setCell hl (fun b o hb e=>(hs.2 b (by simpa[Loc.aK]using hb)).trans e) ⟨vs,n,ho,hr⟩ hw
theorem E_:∀ {a b:List V},lows i a=true->lows i b=true->lows i (a++b)=true
 |[],b=>fun _ h=>h
 |x :: r,b=>fun h h'=>by
  simp only[vV,cN,hG]at h ⊢;exact⟨h.1,E_ h.2 h'⟩
theorem N6:∀ {a:List V},lows i a=true->lows i a.dropLast=true
 |[]=>fun _=>rfl
 |[x]=>fun _=>rfl
 |x :: y :: r=>fun h=>by
  simp only[cN,hG]at h;rw[VG];simp only[cN,hG];refine⟨h.1,?_⟩;exact N6 (a:=y :: r) (by simp only[cN,hG];exact h.2)
theorem TH:jb G k .cX:=fun hk c J lv z xs vs Q E rm rx kv=>by
 refine qi (P:=fun vs=>wpAny G.M c.A (call Bi.cX.v vs) Q E z.s) kv rx fun x y v u rv ru kv=>?_;refine oz kv (P:=fun x=>ao G z.I z.U x v->_) (fun i kv rv=>?_) rv;refine iS (P:=fun v=>wpAny G.M c.A (call Bi.cX.v [v,u]) Q E z.s) kv rv fun l a vs n hl kv=>cG kv fun hs kv=>?_;obtain⟨hs,sU⟩:=aM.mp hs;refine wpAny_call_entry slot_list_append hl.is.typeIs entry_list_append ?_ (args_list_append _ _)
 show wpAny _ _ (updateSeq a (·.push u)>>=fun _=>ret .none) _ _ z.s;have hz:(vs.toArray.push u).size<=16777217:=by rw[VF,hl.size];exact ak (cg (of_decide_eq_true hs)) ⋯
 refine au (wpAny_updateSeq hl.ho rfl (a_ ⟨.none,rfl,?_⟩) (by rw[hl.size];exact ji hs) hz);have hu:=I9 (items:=vs.toArray) (n:=n) hl.ho (·.push u);refine kv.new (tk:=z.s.toks) (set_list z.st hl.gV (av.append hl.rs (ws:=[u]) (wZ ru)) (tV ..) (n:=n+1) ?_ (E_ (z.st.cN _ _ hl.dB) ((I8 _).trans sU))) (aC.refl _) (aA.refl _) rfl
 rw[if_neg (by simp)]at hu;rw[hu];simp
theorem av.snoc:∀ {l:List V}{vs:List Value}{y:V},av G I U l vs->l.getLast?=some y->∃ us u,vs=us++[u]/\av G I U l.dropLast us/\ao G I U y u
 |[],_,_=>fun _ e=>by simp at e
 |[x],vs,y=>fun h e=>by
  simp only[List.getLast?_singleton,Kc]at e;subst e;obtain⟨v,rfl,h1⟩:=h.one;exact⟨[],v,rfl,by simp[gm,gn],h1⟩
 |x :: z :: r,vs,y=>fun h e=>by
  obtain⟨v,ws,rfl,h1,h2⟩:=h;have qH:av G I U (z :: r) ws:=h2;rw[List.getLast?_cons_cons]at e;obtain⟨us,u,rfl,h3,h4⟩:=av.snoc qH e;exact⟨v :: us,u,rfl,by rw[VG];exact Exists.intro v ⟨us,rfl,h1,h3⟩,h4⟩
theorem ahR:jb G k .lP:=fun hk c J lv z xs vs Q E rm rx kv=>by
 refine oA (P:=fun vs=>wpAny G.M c.A (call Bi.lP.v vs) Q E z.s) kv rx fun x v rv kv=>?_;refine oz kv (P:=fun x=>ao G z.I z.U x v->_) (fun i kv rv=>?_) rv;refine iS (P:=fun v=>wpAny G.M c.A (call Bi.lP.v [v]) Q E z.s) kv rv fun l a vs n hl kv=>cG kv fun hs kv=>dk kv fun y e kv=>?_;obtain⟨us,u,rfl,h4,h5⟩:=hl.rs.snoc e;have hz:(us++[u]).toArray.size<=sizeLine:=by rw[hl.size];exact ji hs
 have hk:(us++[u]).toArray.size-1=us.length:=by simp
 have hy:(us++[u]).toArray[(us++[u]).toArray.size-1]?=some u:=by rw[hk];simp
 refine call_meets VL ⟨_,hl.ho,rfl⟩ PySem.F.entry_list_pop (PySem.F.args_list_pop_1 _) (PySem.MeetsSeq.list_pop_last a _ n u hy hz) ⟨hl.ho,?_⟩;have hu:=I9 (items:=(us++[u]).toArray) (n:=n) hl.ho (fun xs=>xs.eraseIdxIfInBounds ((us++[u]).toArray.size-1));have he:(us++[u]).toArray.eraseIdxIfInBounds ((us++[u]).toArray.size-1)=us.toArray:=by
  rw[hk];rw[PySem.W.kl_erase,dM]
 refine kv.new (tk:=z.s.toks) (set_list z.st hl.gV h4 (tV ..) (n:=n+1) ?_ (N6 (z.st.cN _ _ hl.dB))) (aC.refl _) (aA.refl _) h5;rw[he]at hu;rw[hu,if_neg (by simp)]
theorem ain:jb G k .dictGet:=fun hk c J lv z xs vs Q E rm rx kv=>by
 refine adK (P:=fun vs=>wpAny G.M c.A (call Bi.dictGet.v vs) Q E z.s) kv rx fun x y d v u t r1 r2 r3 kv=>?_;cases x with
 |cz ks ws=>
  obtain⟨a,bq,rfl,h1,h2,h3,h4⟩:=z.cz r1;refine iq (P:=fun u=>wpAny G.M c.A (call Bi.dictGet.v [_,u,t]) Q E z.s) kv r2 fun x t' kv=>?_;have hp:=w_ h3 h4 x;refine call_meetsIn VK h2.mapOf.typeIs PySem.F.entry_dict_get (PySem.F.args_dict_get_3 _ _ _) (meets_dict_get_default (strKind G.prog G.w) a (zj G.prog G.w (S x) t') h1 t) ⟨_,h2.mapOf,?_⟩;cases e:getD ks ws x with
  |some y=>
   rw[e]at kv;obtain⟨z',e1,rz⟩:=hp.2 y e;rw[e1];exact kv.done rz
  |none=>
   rw[e]at kv;refine cG kv fun hc kv=>?_;have:valueAt bq (S x)=none:=Option.not_isSome_iff_eq_none.mp (by rw[hp.1];simpa using hc);rw[this];exact kv.done r3
 |_=>exact kv.elim
theorem Tn:∀ n,jb G k n
 |.len=>ah1
 |.abs=>ais
 |.min=>ahY
 |.sum=>ahq
 |.list=>ahZ
 |.tuple=>ahn
 |.str=>aht
 |.rT=>ahk
 |.nV=>ahu
 |.nW=>ah9
 |.pS=>aik
 |.cX=>TH
 |.lP=>ahR
 |.dictGet=>ain
theorem To(h:Heap)(n:Bi):rB G.prog G.w h n.v:=by
 refine⟨.machine,.inr (.inl rfl),?_⟩;cases n<;>exact zf rfl
end
section
variable {G:GI}{O:ay}{k:Nat}{cs:Scope}
def pI(G:GI)(cs:Scope)(e:Expr)(y:V):Prop:=
 ∀ (c:Cx) J lv (z:Z G c J lv) (Q:VP) E,c.cs=cs->cx c->(∀ u tk,ao G z.I z.U y u->Q u { z.s with toks:=tk })->wpAny G.M c.A (eval e c.env) Q E z.s
theorem adg:pI G cs (.Constant (.int i) kk pos) (.int i):=fun c J lv z Q E hc ok h=>
 Ii (h _ _ (Exists.intro _ rfl))
theorem ada(e:x=S l):pI G cs (.Constant (.str x) kk pos) (.str l):=fun c J lv z Q E hc ok h=>
 Ih (h _ _ (Exists.intro _ (by rw[e])))
theorem Og(g:bH G)(hy:C7 G x y)(hx:cs.names.lookup x=some .globalImplicit)(hd:(x==Str.ofString "__debug__")=false):pI G cs (.Name x pos) y:=
 fun c J lv z Q E hc ok h=>by
 obtain⟨v,h1,h2⟩:=hy;obtain⟨loose,mg,mb,T⟩:=g.top;obtain⟨m,F,hl⟩:=z.st.frame;exact nameX_K F g.K T h1 (h v z.s.toks (h2 _ _ z.st.h0)) ok.kind (by rw[Env.kindOf];show c.cs.names.lookup x=_;rw[hc,hx]) hd
inductive lg(G:GI)(cs:Scope):List Expr->List V->Prop
 |nil:lg G cs [] []
 |cons {e:Expr}{es:List Expr}{y:V}{ys:List V}:pI G cs e y->lg G cs es ys->lg G cs (e :: es) (y :: ys)
theorem adf(hk:lg G cs ks xs):∀ {vs:List Expr}{ys:List V},lg G cs vs ys->ks.length=vs.length ->
  ∀ (c:Cx) pos J lv (z:Z G c J lv) (Q:List (Value×Value)->Shared->Prop) E,c.cs=cs->cx c ->
  (∀ ps tk,av G z.I z.U xs (ps.map (·.1))->av G z.I z.U ys (ps.map (·.2))->Q ps { z.s with toks:=tk })->wpAny G.M c.A (evalPairs (pairTrees (ks.map some) vs c.env pos)) Q E z.s:=by
 induction hk with
 |nil=>
  intro vs ys hv hl c pos J lv z Q E hc ok h;cases hv with
  |nil=>exact pairTrees_nil_walk (h [] z.s.toks (by simp only[CO,gm,gn]) (by simp only[CO,gm,gn]))
  |cons=>cases hl
 |cons a r ih=>
  intro vs ys hv hl c pos J lv z Q E hc ok h;cases hv with
  |nil=>cases hl
  |cons b t=>
   refine pairTrees_cons_walk (a c _ _ z _ _ hc ok fun u tk ru=>b c _ _ (z.tick tk) _ _ hc ok fun v gF rv=>?_);refine ih t (I7 hl) c pos _ _ (z.tick gF) _ _ hc ok fun ps uh h1 h2=>h _ uh ?_ ?_
   ·simp only[gO,gm,gn];exact⟨_,_,rfl,ru,h1⟩
   ·simp only[gO,gm,gn];exact⟨_,_,rfl,rv,h2⟩
theorem S0{κ ι:Type}[DecidableEq κ]{knd:PySem.KeyKind G.prog G.w κ}{g:ι->κ}{f:ι->V}(hf:∀ {I U x v},ao G I U (f x) v->knd.is (g x) v=true):∀ {ks:List ι}{ps:List (Value×Value)}{I:Im}{U:List Loc},av G I U (ks.map f) (ps.map (·.1))->Carries knd ps ((ks.map g).zip (ps.map (·.2)))
 |[],[],I,U=>fun h=>trivial
 |[],_ :: _,I,U=>fun h=>by simp only[CO,gm,gn,gO,reduceCtorEq]at h
 |a :: ks,[],I,U=>fun h=>by simp only[CO,gm,gn,gO]at h;obtain⟨_,_,e,_⟩:=h;cases e
 |a :: ks,p :: ps,I,U=>fun h=>by
  simp only[gO,gm,gn]at h;obtain⟨v,ws,e,h1,h2⟩:=h;cases e;exact⟨hf h1,rfl,S0 hf h2⟩
theorem Z.NF(g:bH G)(z:Z G c J lv):(z.s.heap.objs.size==sysModules)=false:=
 beq_eq_false_iff_ne.mpr (kf (pE (dN g.big z.st.above) (z.st.lt (a:=c.L) (.head _))))
theorem Sv{κ ι:Type}[DecidableEq κ](knd:PySem.KeyKind G.prog G.w κ){g:ι->κ}{f:ι->V}(hf:∀ {I U x v},ao G I U (f x) v->knd.is (g x) v=true){ks:List Expr}{vs:List Expr}{xs:List ι}{ys:List V}{pos:Pos}(hk:lg G cs ks (xs.map f))(hv:lg G cs vs ys)(hl:ks.length=vs.length)(h0:ks≠[])(ye:ks.length<=15)(nd:(xs.map g).Nodup)
  {c:Cx}{J:LC}{lv:LV} (z:Z G c J lv) {Q:VP}{E:VP} (hc:c.cs=cs) (ok:cx c)
  (h:∀ (o:Obj) bq (z':Z G c J lv),z.Le z'->z'.I z.s.heap.objs.size=some o->o.IsDictOf knd bq->bq.map (·.1)=xs.map g->av G z'.I z'.U ys (bq.map (·.2))->Q (.ref z.s.heap.objs.size) z'.s):wpAny G.M c.A (eval (.Dict (ks.map some) vs pos) c.env) Q E z.s:=by
 refine wpAny_Dict_walk (knd:=knd) (by simp) (by rw[f7];exact hl) (by simpa using h0) (by rw[f7];exact ye) ?_;refine adf hk hv hl c pos _ _ (z.go (h:=z.s.heap.push { cls:=.type "dict",data:=.dict #[] }) (tk:=z.s.toks) (z.st.keep fun _ _ e=>bD _ e)) _ _ hc ok fun ps tk h1 h2=>?_;refine⟨_,S0 hf h1,Heap.DictOf.new _,fun h' hd hs=>?_⟩;have hlen:(xs.map g).length=(ps.map (·.2)).length:=by have:=h1.length;simp only[f7]at this ⊢;exact this.symm
 have hz:((xs.map g).zip (ps.map (·.2))).map (·.1)=xs.map g:=CN (eR hlen);have hz2:((xs.map g).zip (ps.map (·.2))).map (·.2)=ps.map (·.2):=I6 (eR hlen.symm);rw[merged_nil_of_nodup _ (by rw[hz];exact nd)]at hd;obtain⟨o,ho,Qc⟩:=Kh.mp hd;have kk:∀ a o',z.s.heap.get? a=some o'->h'.get? a=some o':=fun a o' e=>
  (hs.2 a (dG (cS e))).trans (bD _ e)
 have Wj:=(z.st.keep (tk:=tk+ps.length) kk).ra z.st.new.1 ho z.st.new.2 (by obtain⟨_,_,he,_⟩:=Qc;rw[he.1];simp);exact h o _ (z.go Wj) (Z.ez (fe z.st.new.1) (aA.refl _)) (jM _ _ _) Qc hz (by rw[hz2];exact h2.mono (fe z.st.new.1) (aA.refl _))
theorem acs{l:List (List Nat)}(h:l.Nodup):(l.map S).Nodup:=by
 unfold List.Nodup at *;rw[List.pairwise_map];exact h.imp fun aY e=>aY (CZ.mp e)
theorem YA(g:bH G)(hk:lg G cs ks (xs.map V.str))(hv:lg G cs vs ys)(hl:ks.length=vs.length)(h0:ks≠[])(ye:ks.length<=15)(nd:xs.Nodup) :
  SE G O k cs (.Dict (ks.map some) vs pos) (.nE xs ys):=fun c J lv z Q E rd kv=>
 Sv (PySem.strKind G.prog G.w) (g:=S) (f:=V.str) (fun r=>by obtain⟨t,rfl⟩:=r;exact zj _ _ _ t) hk hv hl h0 ye (acs nd) z rd.cs rd.ok fun o bq z' l h1 h2 h3 h4=>
  kv _ z' l (Exists.intro _ ⟨o,bq,rfl,h1,z.NF g,h2,h3,h4⟩)
theorem YB(g:bH G)(hk:lg G cs ks (xs.map V.int))(hv:lg G cs vs ys)(hl:ks.length=vs.length)(h0:ks≠[])(ye:ks.length<=15)(nd:xs.Nodup) :
  SE G O k cs (.Dict (ks.map some) vs pos) (.qO xs ys):=fun c J lv z Q E rd kv=>
 Sv (PySem.intKind G.prog G.w) (g:=id) (f:=V.int) (fun r=>by obtain⟨t,rfl⟩:=r;exact intKind_is _ _ _ t) hk hv hl h0 ye (by rw[List.map_id];exact nd) z rd.cs rd.ok fun o bq z' l h1 h2 h3 h4=>
  kv _ z' l (Exists.intro _ ⟨o,bq,rfl,h1,z.NF g,h2,by rw[h3,List.map_id],h4⟩)
theorem Yz:SE G O k cs (.Dict [] [] pos) .tv:=fun c J lv z Q E rd kv=>
 wpAny_Dict_empty (kv.new (z.st.keep fun _ _ e=>bD _ e) (aC.refl _) (aA.refl _) True.intro)
def SP(G:GI)(O:ay)(k:Nat)(cs:Scope)(e:Option Expr)(pe:PE):Prop:=
 ∀ (c:Cx) J lv (z:Z G c J lv) Q E,Ready c k cs->KO (ao G) z (aO O lv c.cv pe J) Q E->wpAny G.M c.A (evalPart e c.env) Q E z.s
theorem abU:SP G O k cs none .none:=fun c J lv z Q E rd kv=>by
 rw[evalPart_none];exact a_ (kv.eN rfl)
theorem abT(h:SE G O k cs e pe):SP G O k cs (some e) pe:=h
theorem av.drop:∀ {l:List V}{vs:List Value} (n:Nat),av G I U l vs->av G I U (l.drop n) (vs.drop n)
 |l,vs,0=>fun h=>by simpa using h
 |[],vs,n+1=>fun h=>by have h:_=_:=h;subst h;simp[gm,gn]
 |x :: l,vs,n+1=>fun h=>by
  obtain⟨v,ws,rfl,h1,h2⟩:=h;simpa using av.drop n h2
theorem av.take:∀ {l:List V}{vs:List Value} (n:Nat),av G I U l vs->av G I U (l.take n) (vs.take n)
 |l,vs,0=>fun h=>by simp[gm,gn]
 |[],vs,n+1=>fun h=>by have h:_=_:=h;subst h;simp[gm,gn]
 |x :: l,vs,n+1=>fun h=>by
  obtain⟨v,ws,rfl,h1,h2⟩:=h;simp only[VO,gm,gn];exact⟨v,_,rfl,h1,av.take n h2⟩
theorem av.YU(a b:Nat)(h:av G I U l vs):av G I U (Mine.cut l a b) (Mine.cut vs a b):=(h.take b).drop a
inductive pL(d:Nat):Value->Nat->Prop
 |none:pL d .none d
 |int (n:Nat) (t:Tok):pL d (.int (n:Int) t) n
theorem uU{α β:Type}{c:Cx}{J:LC}{lv:LV}{Rep:mv α β}{z:Z G c J lv}{Q:β->Shared->Prop}{E:VP}{I:Im}{U:List Loc}{x:V}{v:Value}{d:Nat}{f:Nat->Ev α}{P:Value->Prop}
  (kv:KO Rep z (mV x d f J) Q E) (r:ao G I U x v) (h:∀ n v,pL d v n->KO Rep z (f n J) Q E->P v):P v:=by
 refine dk kv fun n e kv=>?_;cases x with
 |none=>have r:_=_:=r;cases e;subst r;exact h d _ .none kv
 |int i=>
  have e:(if iu i then some i.toNat else none)=some n:=e;split at e
  ·rename_i hi;have hi:=A3 hi;cases e;obtain⟨t,rfl⟩:=r;have:=h i.toNat (.int (i.toNat:Int) t) (.int _ _) kv;rwa[I5 hi.1]at this
  ·cases e
 |_=>cases e
noncomputable def BW{α:Type}(l:List α)(a b:Nat):List α:=(l.drop (min a l.length)).take (min b l.length-min a l.length)
theorem Hu{α:Type}(l:List α)(a b:Nat):BW l a b=cut l a b:=by
 unfold cut BW;rw[List.drop_take];rcases Nat.le_total a l.length with h|h
 ·rw[mq h];rcases Nat.le_total b l.length with h'|h'
  ·rw[mq h']
  ·rw[VE h',k7 (by simp),k7 (by simp;omega)]
 ·rw[VE h,VD (aG _),VD h];simp
theorem pL.str(h:pL d v n):∃ p:Option (Int×Tok),v=partValue p/\((p=Option.none/\n=d)∨∃ t,p=some ((n:Int),t)):=by
 rcases h with _|⟨_,t⟩
 ·exact⟨Option.none,rfl,.inl ⟨rfl,rfl⟩⟩
 ·exact⟨some (_,t),rfl,.inr ⟨t,rfl⟩⟩
theorem pL.lst(h:pL d v n):∃ p:Option Int,IsPart v p/\((p=Option.none/\n=d)∨p=some (n:Int)):=by
 rcases h with _|⟨_,t⟩
 ·exact⟨Option.none,.none,.inl ⟨rfl,rfl⟩⟩
 ·exact⟨some _,.int _ _,.inr rfl⟩
theorem XX{n a b:Nat}{lo hi:Option Int}(h1:(lo=none/\a=0)∨lo=some (a:Int))(h2:(hi=none/\b=n)∨hi=some (b:Int)) :
  Builtin.Str.strSliceIndices lo hi 1 n=(List.range (min b n-min a n)).map (min a n+·):=by
 rw[<-sliceRange_one];unfold Builtin.Str.strSliceIndices;have e1:∀ x:Nat,max (0:Int) (min ((if (x:Int)<0 then (x:Int)+n else x)) n)=((min x n:Nat):Int):=by
  intro x;rw[if_neg (by omega)];omega
 rcases h1 with ⟨rfl,rfl⟩|rfl<;>rcases h2 with ⟨rfl,rfl⟩|rfl<;>simp only[show(1:Int)>0 by decide,if_true,e1,Nat.zero_min,Nat.min_self]<;>rfl
theorem str_slice{x:List Nat}{t:Tok}{a b:Nat}{l u:Option (Int×Tok)}{s:Shared}{Q:VP}(h1:(l=none/\a=0)∨∃ t,l=some ((a:Int),t))(h2:(u=none/\b=x.length)∨∃ t,u=some ((b:Int),t))(hs:short x=true)
  (h:∀ t tk,Q (.str (S (Mine.cut x a b)) t) { s with toks:=tk }):(sliceMade (S x) t l u none).post Q s:=by
 have hp:slicePicked (S x) l u none=(List.range (min b x.length-min a x.length)).map (min a x.length+·):=by
  unfold slicePicked;rw[hY];refine XX ?_ ?_
  ·rcases h1 with ⟨rfl,rfl⟩|⟨t,rfl⟩
   ·exact .inl ⟨rfl,rfl⟩
   ·exact .inr rfl
  ·rcases h2 with ⟨rfl,rfl⟩|⟨t,rfl⟩
   ·exact .inl ⟨rfl,rfl⟩
   ·exact .inr rfl
 have hf:(slicePicked (S x) l u none).filterMap ((S x).cps[·]?)=Mine.cut x a b:=by
  rw[hp,pick_run];exact Hu x a b
 unfold sliceMade;split
 ·rename_i hc;have hlen:min b x.length-min a x.length=x.length:=by
   rw[hp]at hc;simpa[hY]using hc
  have e:Mine.cut x a b=x:=by
   rw[<-Hu];unfold BW;rw[hlen];have:min a x.length=0∨x.length=0:=by
    by_cases hm:min a x.length=0
    ·exact .inl hm
    ·exact .inr (Nat.eq_zero_of_not_pos fun hn=>absurd (ak (eR hlen.symm) (Nat.sub_le_sub_right (tJ b _) _)) (I4.mpr (Nat.sub_lt hn (VC hm))))
   rcases this with h0|h0
   ·rw[h0,Ck,k7 (aG _)]
   ·have:x=[]:=List.length_eq_zero_iff.mp h0;subst this;simp
  have:=h t s.toks;rw[e]at this;exact this
 ·rw[hf];refine⟨?_,h _ _⟩;show(S (Mine.cut x a b)).length<=sizeLine;rw[hY];have h1:=ji hs;have:(Mine.cut x a b).length<=x.length:=by unfold Mine.cut;simp;omega
  omega
theorem ac2{vs:List Value}{a b:Nat}{lo hi:Option Int}(h1:(lo=none/\a=0)∨lo=some (a:Int))(h2:(hi=none/\b=vs.length)∨hi=some (b:Int)):slicePick vs.toArray lo hi none=(Mine.cut vs a b).toArray:=by
 rw[slicePick_plain,<-Hu];unfold BW;rcases h1 with ⟨rfl,rfl⟩|rfl<;>rcases h2 with ⟨rfl,rfl⟩|rfl<;>simp[clipAt_nat]
theorem Mg{c:Cx}{J:LC}{lv:LV}(z:Z G c J lv){ad:Addr}{vs:List Value}{l:List V}{a b:Nat}{u t:Value}{value:Expr}{lo hi:Option Expr}{p:Pos}{Q:VP}{E:VP}(h3:z.s.heap.IsList ad vs.toArray)(hr:av G z.I z.U l vs)(hs:short l=true)(hu:pL 0 u a)(ht:pL l.length t b)
  (kv:KO (ao G) z (some (.ok (.ref J.length),J++[.lst (Mine.cut l a b)])) Q E):wpAny G.M c.A (subscriptTail value (.Slice lo hi none p) (.ref ad) (.ref z.s.heap.objs.size)) Q E { z.s with heap:=z.s.heap.push { cls:=.type "slice",data:=.fields #[u,t,.none] } }:=by
 have x1:=z.st.keep (tk:=z.s.toks) (h':=z.s.heap.push { cls:=.type "slice",data:=.fields #[u,t,.none] }) fun _ _ e=>bD _ e;obtain⟨q1,e1,g1⟩:=hu.lst;obtain⟨q2,e2,g2⟩:=ht.lst;have s_:=h3.push { cls:=.type "slice",data:=.fields #[u,t,.none] };refine pP s_.typeIs VT.lookup (wpAny_getItem_list_slice s_ (VB ..) e1 e2 .none (by simp) ?_ (by rw[ja,hr.length];exact ji hs))
 rw[ac2 g1 (by rw[hr.length];exact g2)];exact kv.new (tk:=z.s.toks) (x1.newList (hr.YU a b)) (aC.refl _) (aA.app _ _) x1.Em
theorem YW(value:Expr){lo hi:Option Expr}{p:Pos}{c:Cx}{J:LC}{lv:LV}(z:Z G c J lv){x y y':V}{v u t:Value}{Q:VP}{E:VP}(rx:ao G z.I z.U x v)(ry:ao G z.I z.U y u)(rz:ao G z.I z.U y' t)(kv:KO (ao G) z (dA x y y' J) Q E) :
  wpAny G.M c.A (subscriptTail value (.Slice lo hi none p) v (.ref z.s.heap.objs.size)) Q E { z.s with heap:=z.s.heap.push { cls:=.type "slice",data:=.fields #[u,t,.none] } }:=by
 have x1:∀ o:Obj,St G c z.I z.U J lv { z.s with heap:=z.s.heap.push o,toks:=z.s.toks }:=fun o=>z.st.keep (tk:=z.s.toks) (h':=z.s.heap.push o) fun _ _ e=>bD _ e;cases x with
 |str l=>
  obtain⟨tt,rfl⟩:=rx;refine uU (P:=fun u=>wpAny G.M c.A (subscriptTail value (.Slice lo hi none p) _ (.ref z.s.heap.objs.size)) Q E { z.s with heap:=z.s.heap.push { cls:=.type "slice",data:=.fields #[u,t,.none] } }) kv ry fun a u hu kv=>?_;refine uU (P:=fun t=>wpAny G.M c.A (subscriptTail value (.Slice lo hi none p) _ (.ref z.s.heap.objs.size)) Q E { z.s with heap:=z.s.heap.push { cls:=.type "slice",data:=.fields #[u,t,.none] } }) kv rz fun b t ht kv=>cG kv fun hs kv=>?_
  obtain⟨q1,rfl,g1⟩:=hu.str;obtain⟨q2,rfl,g2⟩:=ht.str;refine pP (zi _ _ _) VV.lookup (wpAny_getItem_str_slice (l:=q1) (u:=q2) (st:=none) ⟨_,gN _ rfl,rfl,rfl⟩ rfl (str_slice g1 g2 hs fun t' tk=>?_));exact kv.new ((x1 _).toks (tk:=tk)) (aC.refl _) (aA.refl _) (Exists.intro _ rfl)
 |tup l=>
  obtain⟨a,vs,rfl,ht,hr⟩:=z.tup rx;refine jr (P:=fun u=>wpAny G.M c.A (subscriptTail value (.Slice lo hi none p) _ (.ref z.s.heap.objs.size)) Q E { z.s with heap:=z.s.heap.push { cls:=.type "slice",data:=.fields #[u,t,.none] } }) kv ry fun i tt kv=>?_;refine AK (P:=fun t=>wpAny G.M c.A (subscriptTail value (.Slice lo hi none p) _ (.ref z.s.heap.objs.size)) Q E { z.s with heap:=z.s.heap.push { cls:=.type "slice",data:=.fields #[_,t,.none] } }) kv rz fun kv=>cG kv fun hs kv=>?_
  have hs:=of_decide_eq_true hs;have nj:IsTup (z.s.heap.push { cls:=.type "slice",data:=.fields #[.int i tt,.none,.none] }) a vs.toArray:=IsTup.keeps ht fun _ _ e=>bD _ e;have hi:i=((i.toNat:Nat):Int):=(I5 (Int.le_trans ⋯ hs.1)).symm;rw[hi]at nj ⊢;refine pP nj.typeIs VU.lookup (getItem_tuple_from (a:=i.toNat) nj (VB ..) (by omega) (by have:=hr.length;simp;omega) ?_ (by rw[ja,hr.length];exact ji hs.2.2))
  have x2:=x1 { cls:=.type "slice",data:=.fields #[.int ((i.toNat:Nat):Int) tt,.none,.none] };refine kv.new (tk:=z.s.toks) (x2.push (o:={ cls:=.type "tuple",data:=.seq (vs.drop i.toNat).toArray }) rfl (by simp)) x2.sz (aA.refl _) ?_;exact Exists.intro _ ⟨vs.drop i.toNat,rfl,⟨_,_,jM _ _ _,rfl,rfl⟩,(hr.drop _).mono x2.sz (aA.refl _)⟩
 |ref i=>
  refine iS (P:=fun v=>wpAny G.M c.A (subscriptTail value (.Slice lo hi none p) v (.ref z.s.heap.objs.size)) Q E { z.s with heap:=z.s.heap.push { cls:=.type "slice",data:=.fields #[u,t,.none] } }) kv rx fun l ad vs n hl kv=>?_;refine uU (P:=fun u=>wpAny G.M c.A (subscriptTail value (.Slice lo hi none p) _ (.ref z.s.heap.objs.size)) Q E { z.s with heap:=z.s.heap.push { cls:=.type "slice",data:=.fields #[u,t,.none] } }) kv ry fun a u hu kv=>?_
  refine uU (P:=fun t=>wpAny G.M c.A (subscriptTail value (.Slice lo hi none p) _ (.ref z.s.heap.objs.size)) Q E { z.s with heap:=z.s.heap.push { cls:=.type "slice",data:=.fields #[u,t,.none] } }) kv rz fun b t ht kv=>cG kv fun hs kv=>?_;exact Mg z hl.is hl.rs hs hu ht kv
 |eC l=>
  obtain⟨ad,vs,n,rfl,h1,h2⟩:=rx;refine uU (P:=fun u=>wpAny G.M c.A (subscriptTail value (.Slice lo hi none p) _ (.ref z.s.heap.objs.size)) Q E { z.s with heap:=z.s.heap.push { cls:=.type "slice",data:=.fields #[u,t,.none] } }) kv ry fun a u hu kv=>?_;refine uU (P:=fun t=>wpAny G.M c.A (subscriptTail value (.Slice lo hi none p) _ (.ref z.s.heap.objs.size)) Q E { z.s with heap:=z.s.heap.push { cls:=.type "slice",data:=.fields #[u,t,.none] } }) kv rz fun b t ht kv=>cG kv fun hs kv=>?_
  exact Mg z ⟨_,z.st.im _ _ h1,rfl,n,rfl⟩ h2 hs hu ht kv
 |_=>exact kv.elim
theorem Yi{a:Expr}{lo hi:Option Expr}{p pos:Pos}{pa pl ph:PE}(ha:SE G O k cs a pa)(hl:SP G O k cs lo pl)(hh:SP G O k cs hi ph) :
  SE G O k cs (.Subscript a (.Slice lo hi none p) pos) (.sl pa pl ph):=fun c J lv z Q E rd kv=>by
 refine Subscript_ ?_;refine cy kv (ha c _ _ z _ _ rd) fun x aa v z1 l1 rv bb=>?_;refine wpAny_Slice ?_;refine cy bb (hl c _ _ z1 _ _ rd) fun y aj u z2 l2 ru eA=>?_;refine cy eA (hh c _ _ z2 _ _ rd) fun y' bo t z3 l3 rt Fu=>?_;rw[evalPart_none];exact a_ (YW a z3 (l3.rep (l2.rep rv)) (l3.rep ru) rt Fu)
end
noncomputable def oV(c:Cx):List Addr:=c.L :: c.fr.map (·.1)
structure jJ(G:GI)(c:Cx)(e:Addr)(h h':Heap):Prop where
 rest:∀ a o,a≠e->a∉oV c->¬(G.H.objs.size<=a/\dj h a)->h.get? a=some o->h'.get? a=some o
 tb:∀ T,dj h T->dj h' T
 fr:∀ a∈oV c,∀ o,h.get? a=some o->∃ sl,h'.get? a=some { o with slots:=sl }
section
variable {G:GI}{c:Cx}{I:Im}{U:List Loc}{J:LC}{lv:LV}{s:Shared}
theorem jJ.refl:jJ G c e h h:=⟨fun _ _ _ _ _ x=>x,fun _ x=>x,fun _ _ o x=>⟨o.slots,x⟩⟩
theorem St.GL(x:St G c I U J lv s)(ha:a∈oV c):I a=none:=by
 refine x.fresh a ?_;rcases bY.mp ha with rfl|ha
 ·exact .head _
 ·exact .tail _ (vW _ ha)
theorem St.GN(x:St G c I U J lv s)(ha:a∈oV c):a∉cK U:=by
 have nd:=x.nd;unfold owned at nd;rcases bY.mp ha with rfl|ha
 ·exact fun h=>(dE.mp nd).1 (fb _ h)
 ·exact fun h=>(jE.mp (dE.mp nd).2).2.2 a ha a h rfl
theorem St.exc(x:St G c I U J lv s){i:Nat}(hl:U[i]?=some (.exc e)):J[i]?=some .exc/\ExcAt G I s.heap e:=by
 have hi:i<J.length:=by rw[x.cells.1];exact(aX.mp hl).1
 have hc:=x.cells.2 i _ _ hl (dw hi);rw[dw hi];cases hy:J[i]<;>rw[hy]at hc<;>try exact False.elim hc
 exact⟨rfl,hc⟩
theorem St.xx(x:St G c I U J lv s){i:Nat}(hl:U[i]?=some (.exc e))(kx:jJ G c e s.heap h')(hx:ExcAt G I h' e):St G c I U J lv { s with heap:=h',toks:=tk }:=by
 have he:e∈cK U:=eE.mpr ⟨_,eP hl,by simp[Loc.aK]⟩;have heI:I e=none:=x.fresh e (.tail _ (fb _ he));refine⟨fun a o ea=>?_,x.h0,x.above,?_,fun p hp=>?_,⟨x.cells.1,fun j l y cD hy=>?_⟩,x.nd,x.fresh,x.fV,x.pre,x.gx,x.fh,x.cN,x.tabs,x.fi,x.code,x.gens,x.os⟩
 ·refine kx.rest a o (fun q=>by rw[q,heI]at ea;cases ea) (fun q=>by rw[x.GL q]at ea;cases ea) (fun ⟨h1,oT,ts,h2,h3,h4⟩=>?_) (x.im a o ea);rw[x.im a o ea]at h2;cases h2;exact x.fh a _ h1 ea ⟨h3,ts,h4.1⟩
 ·obtain⟨m,⟨o,es,ep,ho,r⟩,cQ⟩:=x.loc;obtain⟨sl,e1⟩:=kx.fr c.L (.head _) o ho;exact⟨m,⟨_,es,ep,e1,r⟩,cQ⟩
 ·obtain⟨sl,e1⟩:=x.dW p hp;obtain⟨D3,e2⟩:=kx.fr p.1 (.tail _ (pd hp)) _ e1;exact⟨D3,e2⟩
 ·by_cases dJ:i=j
  ·subst dJ;rw[hl]at cD;cases cD;obtain⟨e1,_⟩:=x.exc hl;rw[hy]at e1;cases e1;exact hx
  ·have hc:=x.cells.2 j l y cD hy;refine hc.mono (aC.refl _) (aA.refl _) kx.tb fun a ha o eo=>kx.rest a o (fun q=>?_) (fun q=>?_) (fun ⟨_,oT,ts,h2,h3,h4⟩=>?_) eo
   ·subst q;exact dJ (oi x.om hl cD (by simp[Loc.aK]) ha)
   ·exact x.GN q (eE.mpr ⟨l,eP cD,ha⟩)
   ·obtain⟨o',e1,e2⟩:=hc.there a ha;rw[h2]at e1;cases e1;exact e2 ⟨h3,ts,h4.1⟩
inductive iL(h:Heap)(e:Addr)(v:Value):Prop
 |mk (oe vs T oT ts:_) (h1:h.get? e=some oe) (h2:oe.data=.fields vs) (h3:vs[1]?=some (.ref T)) (h4:h.get? T=some oT) (h5:oT.data=.fields ts) (h6:ts[3]?=some v)
theorem iL.vw{h:Heap}{e L:Addr}{v:Value}(x:iL h e v)(hv:v=.none∨v=rawInt L):zr L h e:=by
 obtain⟨oe,vs,T,oT,ts,h1,h2,h3,h4,h5,h6⟩:=x;intro jQ zx v1 e1 e2 e3;rw[h1]at e1;cases e1;rw[h2]at e2;cases e2;rw[h3]at e3;cases e3;refine .inr ⟨T,oT,ts,rfl,h4,h5,?_⟩;rcases hv with rfl|rfl
 ·exact .inl h6
 ·exact .inr h6
theorem St.QN(ok:cx c)(x:St G c I U J lv s)(ho:wm c.outer c.fr):s.heap.FunFrames G.H (c.env :: c.outer):=by
 have hn:∀ a,I a=none->G.H.get? a=none:=fun a ha=>by
  cases q:G.H.get? a with
  |none=>rfl
  |some o=>have:=x.h0 a o q;rw[ha]at this;cases this
 have key:∀ (es:List Env) (ps:List (Addr×Obj)),wm es ps->(∀ p∈ps,p∈c.fr)->s.heap.FunFrames G.H es:=by
  intro es;induction es with
  |nil=>intro ps _ _;trivial
  |cons e es ih=>
   intro ps P6 hm;cases ps with
   |nil=>exact P6.elim
   |cons p ps=>
    obtain⟨⟨h1,h2,en,n,h3⟩,h4⟩:=P6;obtain⟨sl,e1⟩:=x.dW p (hm p (.head _));refine⟨h2,⟨p.1,_,h1,hn _ (x.GL (.tail _ (pd (hm p (.head _))))),e1,fun vs q=>?_⟩,ih ps h4 fun q hq=>hm q (.tail _ hq)⟩;have q':p.2.data=.fields vs:=q;rw[h3]at q';cases q'
 obtain⟨m,⟨o,es,ep,dT,hd,r⟩,cQ⟩:=x.loc;exact⟨by show c.cs.kind≠_;rw[ok.kind];simp,⟨c.L,o,rfl,hn _ (x.GL (.head _)),dT,fun vs q=>by rw[hd]at q;cases q⟩,key _ _ ho fun _ h=>h⟩
theorem afq(h:wm l ps):l.filterMap (·.frame)=ps.map (·.1):=by
 induction l generalizing ps with
 |nil=>cases ps with
  |nil=>rfl
  |cons=>exact h.elim
 |cons e es ih=>
  cases ps with
  |nil=>exact h.elim
  |cons p ps=>
   obtain⟨⟨h1,_⟩,h4⟩:=h;rw[CM,h1,ih h4];rfl
theorem afX(ok:cx c):(c.env :: c.outer).filterMap (·.frame)=oV c:=by
 rw[CM];show c.L :: _=_;rw[afq ok.outer];rfl
theorem zI(ok:cx c)(x:St G c I U J lv s)(ht:dj s.heap T):T∉oV c:=by
 intro hm;obtain⟨oT,ts,h1,h2,h3,h4⟩:=ht;rcases bY.mp hm with rfl|hm
 ·obtain⟨m,⟨o,es,ep,dT,hd,r⟩,cQ⟩:=x.loc;rw[dT]at h1;cases h1;rw[hd]at h3;cases h3
 ·obtain⟨p,hp,rfl⟩:=pv.mp hm;obtain⟨sl,e1⟩:=x.dW p hp;rw[e1]at h1;cases h1;have:∀ (es:List Env) (ps:List (Addr×Obj)),wm es ps->∀ p∈ps,∃ en n,p.2.data=.dict en n:=by
   intro es;induction es with
   |nil=>intro ps hf p hp;cases ps with
    |nil=>cases hp
    |cons=>exact hf.elim
   |cons e es ih=>
    intro ps hf p hp;cases ps with
    |nil=>exact hf.elim
    |cons q ps=>
     obtain⟨⟨_,_,en,n,h⟩,hr⟩:=hf;rcases bY.mp hp with rfl|hp
     ·exact⟨en,n,h⟩
     ·exact ih ps hr p hp
  obtain⟨en,n,h⟩:=this _ _ ok.outer p hp;have s_:p.2.data=.fields ts:=h3;rw[h]at s_;cases s_
theorem dj.set(x:dj h T)(f:Array Value->Array Value)(hf:∀ a,(f a).size=a.size):dj (h.update a (Obj.mapFields f)) T:=by
 obtain⟨oT,ts,h1,h2,h3,h4⟩:=x;by_cases q:T=a
 ·subst q;refine⟨_,_,kc _ h1 (CL (wb h3 _)),?_,wb h3 _,by rw[hf];exact h4⟩;rw[I3];exact h2
 ·exact⟨oT,ts,by rw[dq _ _ _ _ q];exact h1,h2,h3,h4⟩
theorem D_(i:Nat)(v:Value)(a:Array Value):(a.setIfInBounds i v).size=a.size:=by simp
theorem jJ.trans(x:jJ G c e h h1)(y:jJ G c e h1 h2):jJ G c e h h2:=by
 refine⟨fun a o n1 n2 n3 e1=>?_,fun T hT=>y.tb T (x.tb T hT),fun a ha o e1=>?_⟩
 ·have e2:=x.rest a o n1 n2 n3 e1;refine y.rest a o n1 n2 (fun ⟨g1,oT,ts,g2,g3⟩=>n3 ⟨g1,oT,ts,?_,g3⟩) e2;rw[e2]at g2;cases g2;exact e1
 ·obtain⟨sl,e2⟩:=x.fr a ha o e1;obtain⟨D3,e3⟩:=y.fr a ha _ e2;exact⟨D3,e3⟩
theorem Sj{M:Model}{head:Value}{ae8:Bool}{Q:Unit->Shared->Prop}{E:VP}(ok:cx c)(hl:s.heap.FunFrames G.H (c.env :: c.outer))(hL:c.L<s.heap.objs.size)(ae9:G.H.objs.size<=c.L)
  (XB:∀ T,dj s.heap T->T∉oV c)
  (xT:e∉oV c) (he:s.heap.get? e=some oe) (hd:oe.data=.fields vs) (hsz:1<vs.size) (oO:oe.cls≠.type "traceback")
  (h:∀ h' T,jJ G c e s.heap h'->G.H.objs.size<=T->dj h' T->iL h' e (rawInt c.L)->(∃ jQ,h'.get? e=some jQ/\jQ.cls=oe.cls/\jQ.data=.fields (vs.setIfInBounds 1 (.ref T)))->Q () { s with heap:=h' }) :
  wpAny M c.A (do let a <-frameOf c.env;let pl <-entryPlaceOf c.L ae8;let b <-EntryCells.newEntry head a .none (rawInt c.L) .none pl;setField (.ref e) 1 b) Q E s:=by
 refine au (wpAny_frameOf_fun ok.frames hl rfl fun dS oH=>?_);rw[afX ok]at oH;refine au (wpAny_entryPlaceOf fun pl Bj=>?_);unfold EntryCells.newEntry newFields;refine au (tU ?_ (Bj.sizeOk5 _ _ _ _ _));have P_:dS.get? e=some oe:=(oH.2.1 e xT).trans he;have Bt:=bD (h:=dS) { cls:=.type "traceback",dict:=none,data:=.fields ([head,.ref c.L,.none,rawInt c.L,.none]++(if pl.isEmpty then List.replicate 6 Value.none else pl)).toArray } P_
 refine ze Bt hd hsz ?_;have x_:dS.objs.size≠e:=kf (cS P_);have Gk:=wb hd (·.setIfInBounds 1 (Value.ref dS.objs.size));have P9:=kc (Obj.mapFields (·.setIfInBounds 1 (Value.ref dS.objs.size))) Bt (CL Gk)
 have Qo:=(VA (dS.push { cls:=.type "traceback",dict:=none,data:=.fields ([head,.ref c.L,.none,rawInt c.L,.none]++(if pl.isEmpty then List.replicate 6 Value.none else pl)).toArray })
  (Obj.mapFields (·.setIfInBounds 1 (Value.ref dS.objs.size))) (nO x_)).trans (gN dS rfl)
 have keep:∀ b o,b≠e->dS.get? b=some o ->
   ((dS.push { cls:=.type "traceback",dict:=none,data:=.fields ([head,.ref c.L,.none,rawInt c.L,.none]++(if pl.isEmpty then List.replicate 6 Value.none else pl)).toArray }).update e (Obj.mapFields (·.setIfInBounds 1 (Value.ref dS.objs.size)))).get? b=some o:=
  fun b o BB hb=>by
   rw[VA _ _ (nO BB)];exact bD _ hb
 have ba:G.H.objs.size<=dS.objs.size:=by rw[oH.1];exact ak ae9 (fH hL)
 have hlen:3<(([head,.ref c.L,.none,rawInt c.L,.none]:List Value)++(if pl.isEmpty then List.replicate 6 Value.none else pl)).toArray.size:=by simp
 refine h _ dS.objs.size ⟨fun a o n1 n2 _ ea=>keep a o n1 ((oH.2.1 a n2).trans ea),fun T hT=>?_,fun a ha o ea=>?_⟩ ba ⟨_,_,Qo,rfl,rfl,hlen⟩ ?_ ⟨_,P9,I3 _ _,Gk⟩
 ·obtain⟨oT,ts,h1,h2,h3,h4⟩:=id hT;refine⟨oT,ts,keep T oT (fun q=>?_) ((oH.2.1 T (XB T hT)).trans h1),h2,h3,h4⟩;subst q;rw[he]at h1;cases h1;exact oO h2
 ·obtain⟨sl,e1⟩:=oH.2.2 a o ea;exact⟨sl,keep a _ (fun q=>xT (q▸ha)) e1⟩
 ·exact⟨_,_,dS.objs.size,_,_,P9,Gk,by simp[hsz],Qo,rfl,by simp⟩
theorem aco{M:Model}{i:Nat}{Q:Unit->Shared->Prop}{E:VP}(ok:cx c)(st:St G c I U J lv s)(hl:U[i]?=some (.exc e))(fl:zr c.L s.heap e)
  (h:∀ h',jJ G c e s.heap h'->ExcAt G I h' e->iL h' e (rawInt c.L)->Q () { s with heap:=h' }):wpAny M c.A (noteFrame (.ref e) c.env) Q E s:=by
 obtain⟨dB,oe,vs,a0,v1,v2,he,fm,hd,h0,h1,iw,h2,nq⟩:=st.exc hl;have vh:e∈cK U:=eE.mpr ⟨_,eP hl,by simp[Loc.aK]⟩;have xT:e∉oV c:=fun q=>st.GN q vh;have FQ:1<vs.size:=(zd.mp h1).1;have oO:oe.cls≠.type "traceback":=by rw[fm];simp
 have fin:∀ (h':Heap) (T:Addr),G.H.objs.size<=T->dj h' T->(∃ jQ,h'.get? e=some jQ/\jQ.cls=oe.cls/\jQ.data=.fields (vs.setIfInBounds 1 (.ref T)))->ExcAt G I h' e:=by
  intro h' T g1 g2 cu;obtain⟨jQ,g3,g4,g5⟩:=cu;exact⟨jQ,_,a0,.ref T,v2,g3,g4.trans fm,g5,by rw[zc ⋯];exact h0,by simp[FQ],.inr ⟨T,rfl,g1,g2⟩,by rw[zc ⋯];exact h2,nq⟩
 have fL:c.env.frame=some c.L:=rfl;unfold noteFrame;simp only[fL];refine au (jH he hd h1 ?_);rcases iw with rfl|⟨T,rfl,s8,nr⟩
 ·rw[if_neg ⋯];exact Sj ok (st.QN ok ok.outer) (st.lt (.head _)) st.above (fun T hT=>zI ok st hT) xT he hd FQ oO fun h' T k1 k2 k3 k4 k5=>h h' k1 (fin h' T k2 k3 k5) k4
 ·have oQ:=fl oe vs _ he hd h1;rcases oQ with oQ|⟨T',oT,ts,q,hT,Bv,hm⟩
  ·cases oQ
  cases q;rw[if_pos (show(Value.ref T != Value.none)=true from by simp)];rcases hm with hm|hm
  ·refine au (jH hT Bv hm ?_);rw[if_neg (show ¬((Value.none==rawInt c.L)=true) from by simp[rawInt])];refine au (ze hT Bv (zd.mp hm).1 ?_);have x_:e≠T:=by
    rintro rfl
    obtain⟨Nu,K_,g1,g2,_⟩:=nr;rw[he]at g1;cases g1;exact oO g2
   have Gv:=zI ok st nr;have kx:jJ G c e s.heap (s.heap.update T (Obj.mapFields (·.setIfInBounds 3 Value.none))):=by
    refine⟨fun a o n1 n2 n3 ea=>?_,fun T' ya=>ya.set _ (D_ 3 .none),fun a ha o ea=>⟨o.slots,?_⟩⟩
    ·rw[dq _ _ _ _ (fun (q:a=T)=>n3 (by subst q;exact⟨s8,nr⟩))];exact ea
    ·rw[dq _ _ _ _ (fun (q:a=T)=>Gv (q▸ha))];exact ea
   have lV:(s.heap.update T (Obj.mapFields (·.setIfInBounds 3 Value.none))).get? e=some oe:=by rw[dq _ _ _ _ x_];exact he
   have FN:ExcAt G I (s.heap.update T (Obj.mapFields (·.setIfInBounds 3 Value.none))) e:=⟨oe,vs,a0,.ref T,v2,lV,fm,hd,h0,h1,.inr ⟨T,rfl,s8,kx.tb T nr⟩,h2,nq⟩;have jN:=st.xx (tk:=s.toks) hl kx FN;exact Sj ok (jN.QN ok ok.outer) (jN.lt (.head _)) st.above (fun T hT=>zI ok jN hT) xT lV hd FQ oO fun h' T k1 k2 k3 k4 k5=>h h' (kx.trans k1) (fin h' T k2 k3 k5) k4
  ·refine au (jH hT Bv hm ?_);rw[if_pos (show(rawInt c.L==rawInt c.L)=true from by simp)];exact a_ (h s.heap jJ.refl ⟨oe,vs,a0,.ref T,v2,he,fm,hd,h0,h1,.inr ⟨T,rfl,s8,nr⟩,h2,nq⟩ ⟨oe,vs,T,oT,ts,he,hd,h1,hT,Bv,hm⟩)
theorem Q5{M:Model}{i:Nat}{Q:Unit->Shared->Prop}{E:VP}(ok:cx c)(st:St G c I U J lv s)(hl:U[i]?=some (.exc e))(hm:iL s.heap e v0)
  (h:∀ h',jJ G c e s.heap h'->ExcAt G I h' e->iL h' e (fr.elim .none fun f=>rawInt f)->Q () { s with heap:=h' }):wpAny M c.A (setFlight (.ref e) fr) Q E s:=by
 obtain⟨dB,oe,vs,a0,v1,v2,he,fm,hd,h0,h1,iw,h2,nq⟩:=st.exc hl;obtain⟨jQ,zx,T,oT,ts,g1,g2,g3,g4,g5,g6⟩:=hm;rw[he]at g1;cases g1;rw[hd]at g2;cases g2;rw[h1]at g3;cases g3;rcases iw with q|⟨T',q,s8,nr⟩
 ·cases q
 cases q;have oO:oe.cls≠.type "traceback":=by rw[fm];simp
 have x_:e≠T:=by
  rintro rfl
  obtain⟨Nu,K_,q1,q2,_⟩:=nr;rw[he]at q1;cases q1;exact oO q2
 have Gv:=zI ok st nr;have Pq:3<ts.size:=(zd.mp g6).1;unfold setFlight;refine au (jH he hd h1 ?_);rw[if_pos (show(Value.ref T != Value.none)=true from by simp)];have kx:jJ G c e s.heap (s.heap.update T (Obj.mapFields (·.setIfInBounds 3 (fr.elim Value.none fun f=>rawInt f)))):=by
  refine⟨fun a o n1 n2 n3 ea=>?_,fun T' ya=>ya.set _ (D_ 3 _),fun a ha o ea=>⟨o.slots,?_⟩⟩
  ·rw[dq _ _ _ _ (fun (q:a=T)=>n3 (by subst q;exact⟨s8,nr⟩))];exact ea
  ·rw[dq _ _ _ _ (fun (q:a=T)=>Gv (q▸ha))];exact ea
 have lV:(s.heap.update T (Obj.mapFields (·.setIfInBounds 3 (fr.elim Value.none fun f=>rawInt f)))).get? e=some oe:=by rw[dq _ _ _ _ x_];exact he
 refine ze g4 g5 Pq (h _ kx ⟨oe,vs,a0,.ref T,v2,lV,fm,hd,h0,h1,.inr ⟨T,rfl,s8,kx.tb T nr⟩,h2,nq⟩ ?_);exact⟨oe,vs,T,_,_,lV,hd,h1,kc _ g4 (CL (wb g5 _)),wb g5 _,by simp[Pq]⟩
theorem iL.field(hm:iL h e v0):∃ oe vs T,h.get? e=some oe/\oe.data=.fields vs/\vs[1]?=some (.ref T):=by
 obtain⟨oe,vs,T,oT,ts,h1,h2,h3,_⟩:=hm;exact⟨oe,vs,T,h1,h2,h3⟩
section
variable {M:Model}{z:Z G c J lv}{i:Nat}{v:Value}{E:VP}{Q:Unit->Shared->Prop}
theorem eT.xj(ok:cx c)(er:eT z i v)
  (h:∀ e (z':Z G c J lv),z.Le z'->v=.ref e->eT z' i v->iL z'.s.heap e (rawInt c.L)->Q () z'.s):wpAny M c.A (noteFrame v c.env) Q E z.s:=by
 obtain⟨e,rfl,hl,fl⟩:=er;exact aco ok z.st hl fl fun h' kx hx hm=>h e (z.go (z.st.xx (tk:=z.s.toks) hl kx hx)) (Z.ez (aC.refl _) (aA.refl _)) rfl ⟨e,rfl,hl,hm.vw (.inr rfl)⟩ hm
theorem eT.vv{e:Addr}{v0:Value}{fr:Option Addr}(ok:cx c)(er:eT z i (.ref e))(hm:iL z.s.heap e v0)(hf:fr=none∨fr=some c.L)
  (h:∀ (z':Z G c J lv),z.Le z'->eT z' i (.ref e)->iL z'.s.heap e (fr.elim .none fun f=>rawInt f)->Q () z'.s):wpAny M c.A (setFlight (.ref e) fr) Q E z.s:=by
 obtain⟨e',q,hl,fl⟩:=er;cases q;refine Q5 ok z.st hl hm fun h' kx hx qz=>h (z.go (z.st.xx (tk:=z.s.toks) hl kx hx)) (Z.ez (aC.refl _) (aA.refl _)) ⟨e,rfl,hl,qz.vw ?_⟩ qz;rcases hf with rfl|rfl
 ·exact .inl rfl
 ·exact .inr rfl
theorem eT.loop(ok:cx c)(er:eT z i v)(h:∀ (z':Z G c J lv),z.Le z'->eT z' i v->E v z'.s):notedBy M c.A c.env (cameBackBy M c.A c.env E) v z.s:=by
 refine er.xj ok fun e z1 l1 he Hi hm=>?_;subst he;obtain⟨oe,vs,T,g1,g2,g3⟩:=hm.field;refine au (jH g1 g2 g3 ?_);rw[if_neg (show ¬((Value.ref T==Value.none)=true) from by simp)];exact Hi.vv ok hm (.inr rfl) fun z2 l2 yx _=>h z2 (l1.trans l2) yx
end
end
abbrev rk:=Option (Except Nat Fl×LV×LC)
noncomputable def Ex.ev{α:Type}(m:Ev α)(f:α->Ex):Ex:=fun lv J=>match m J with
 |some (.ok a,J')=>f a lv J'
 |some (.error i,J')=>some (.error i,lv,J')
 |none=>none
noncomputable def Ex.seq(m f:Ex):Ex:=fun lv J=>match m lv J with
 |none=>none
 |some (r,aJ,J')=>match r with
  |.error i=>some (.error i,aJ,J')
  |.ok fl=>match fl with
   |.next=>f aJ J'
   |.ret v=>some (.ok (.ret v),aJ,J')
noncomputable def Ex.next:Ex:=fun lv J=>some (.ok .next,lv,J)
noncomputable def Ex.ret(v:V):Ex:=fun lv J=>some (.ok (.ret v),lv,J)
noncomputable def Ex.fail:Ex:=fun _ _=>none
noncomputable def Ex.set(i:Nat)(v:V):Ex:=fun lv J=>if i<lv.length then some (.ok .next,lv.set i (some v),J) else none
noncomputable def Ex.sets:List Nat->List V->Ex
 |[],vs=>match vs with
  |[]=>Ex.next
  |_ :: _=>Ex.fail
 |i :: is,vs=>match vs with
  |v :: vs=>Ex.seq (Ex.set i v) (Ex.sets is vs)
  |[]=>Ex.fail
noncomputable def mU{α:Type}(i:Nat)(f:Cl->List V->Ev α):Ev α:=fun J=>match J[i]?.bind qY with
 |some (c,l)=>f c l J
 |none=>none
noncomputable def w6(i:Nat)(c:Cl)(l:List V)(j:Nat)(v:V):Ev Unit:=fun J=>if j<l.length then some (.ok (),J.set i (.ins c (l.set j v))) else if j=l.length then some (.ok (),J.set i (.ins c (l++[v]))) else none
def ic(o:V)(n:Nm)(v:V):Ev Unit:=iP o fun i=>mU i fun c l=>aS (dX c n) fun j=>aF (low i v) (w6 i c l j v)
def pX(o i v:V):Ev Unit:=iP o fun j=>cT i fun i=>bt j fun l=>aF (decide (0<=i/\i<l.length/\short l=true/\low j v=true)) fun J=>some (.ok (),J.set j (.lst (l.set i.toNat v)))
noncomputable def dH(t:LV->Ev Bool)(b:Ex):Nat->Ex
 |0=>Ex.fail
 |n+1=>fun lv J=>Ex.ev (t lv) (fun r=>cond r (Ex.seq b (dH t b n)) Ex.next) lv J
abbrev Nx:=Nat->LC->Option (Option V)
def iQ(j:Nat):Nx:=fun n J=>match J[j]?.bind i9 with
 |some l=>if short l then some l[n]? else none
 |none=>none
noncomputable def oh(vs:List V):Nx:=fun n _=>some vs[n]?
def eI(j:Nat):Nx:=fun n J=>match J[j]?.bind i9 with
 |some l=>if short l then some ((l[n]?).map fun v=>V.tup [.int n,v]) else none
 |none=>none
inductive Tg where
 |one (i:Nat)
 |two (i j:Nat)
def zz(v:V)(f:List V->Ex):Ex:=match yO v with
 |some vs=>f vs
 |none=>Ex.fail
def SJ(f:V->List V->Ex)(l:List V):Ex:=match l with
 |[]=>Ex.fail
 |a :: r=>f a r
def Nh(v:V)(f:V->V->Ex):Ex:=zz v (SJ fun a=>SJ fun b r=>cond r.isEmpty (f a b) Ex.fail)
def zF(t:Tg)(v:V):Ex:=match t with
 |.one i=>Ex.set i v
 |.two i j=>Nh v fun a b=>Ex.sets [i,j] [a,b]
noncomputable def cR(nx:Nx)(tg:Tg)(b:Ex):Nat->Nat->Ex
 |0,_=>Ex.fail
 |f+1,n=>fun lv J=>match nx n J with
  |some (some v)=>Ex.seq (zF tg v) (Ex.seq b (cR nx tg b f (n+1))) lv J
  |some none=>some (.ok .next,lv,J)
  |none=>none
noncomputable def jm(m:Nat)(f:Ex):Ex:=fun lv J=>f lv (J++List.replicate m .raw)
noncomputable def isExc(J:LC)(i:Nat):Bool:=J[i]?.any fun x=>Nat.beq x.ctorIdx 2
def jO(v:V)(f:Nat->Ex):Ex:=match yP v with
 |some j=>f j
 |none=>Ex.fail
def iz(b:Bool)(f:Ex):Ex:=match b with
 |true=>f
 |false=>Ex.fail
def xC(v:V)(f:Int->Ex):Ex:=match tF v with
 |some i=>f i
 |none=>Ex.fail
noncomputable def jR(j:Nat)(f:Ex):Ex:=fun lv J=>match J[j]?.bind i9 with
 |some _=>f lv J
 |none=>none
def FA(v:V)(f:Nx->Ex):Ex:=match v with
 |.ref j=>jR j (f (iQ j))
 |.tup vs=>f (oh vs)
 |.str l=>iz (l.all fun n=>decide (n<128)) (f (oh (l.map fun c=>V.str [c])))
 |_=>Ex.fail
def Er(i:Nat):Ex:=fun lv J=>iz (isExc J i) (fun lv J=>some (.error i,lv,J)) lv J
noncomputable def Ex.catch(m:Ex)(h:Nat->Ex):Ex:=fun lv J=>match m lv J with
 |none=>none
 |some (r,aJ,J')=>match r with
  |.ok f=>some (.ok f,aJ,J')
  |.error j=>h j aJ J'
noncomputable def uw(i j:Nat)(f:Ex):Ex:=fun lv J=>f (lv.set i (some (.ref j))) J
def lY(j:Nat)(f:Ex):Ex:=fun lv J=>iz (isExc J j) f lv J
noncomputable def gone(i:Nat)(m:Ex):Ex:=fun lv J=>match m lv J with
 |none=>none
 |some (r,aJ,J')=>match r with
  |.ok f=>some (.ok f,aJ.set i none,J')
  |.error _=>none
noncomputable def Ex.BP{α:Type}(m:Ev α)(f:α->Ex):Ex:=fun lv J=>match m J with
 |none=>none
 |some (r,J')=>match r with
  |.ok a=>f a lv J'
  |.error _=>none
def uy(i j:Nat)(m:Ev V):Ex:=Ex.BP m fun x=>jO x fun n=>lY j (lY n fun lv J=>some (.error n,lv.set i none,if n=j then J else J.set j .dead))
noncomputable def MZ(a b:Int):List V:=(List.range (b-a).toNat).map fun (n:Nat)=>V.int (a+(n:Int))
noncomputable def EP{α:Type}(o:Out α):Out α:=match o with
 |none=>none
 |some (r,J')=>match r with
  |.ok v=>some (.ok v,J')
  |.error _=>none
def sv{α:Type}(m:Ev α):Ev α:=fun J=>EP (m J)
def EK{α:Type}(x:V)(f:List V->Ev α):Ev α:=aS (yO x) f
noncomputable def kz(O:ay):List V->V->Ev V
 |[],j=>Ev.ret j
 |p :: r,j=>(sv (O 784 [p])).bind fun x=>(yE x j).bind fun y=>(c_ .add j y).bind fun j'=>kz O r j'
noncomputable def xh(o:Out V):rk:=match o with
 |none=>none
 |some (r,J')=>match r with
  |.ok v=>some (.ok (.ret v),[],J')
  |.error _=>none
def zR(O:ay)(l:List V):Ev V:=fun J=>kz O l (.ref J.length) (J++[.lst [],.raw])
def rV(O:ay):Ex:=fun lv J=>iz (Nat.ble 3 lv.length) (fun lv J=>xh ((aS (lv[0]?.join) fun x=>(dA x (.int 1) .none).bind fun y=>EK y (zR O)) J)) lv J
noncomputable def fY(t:Nat):Nat->List V->List V
 |_,[]=>[]
 |i,x :: r=>if t / 2 ^ i % 2=1 then x :: fY t (i+1) r else fY t (i+1) r
def Fn(f:List V->Ex)(o:Option Cell):Ex:=match o with
 |some (.lst l)=>f l
 |_=>Ex.fail
def Fj(f:List V->Ex)(o:Option V):Ex:=match o with
 |some x=>jO x fun j lv J=>Fn f J[j]? lv J
 |none=>Ex.fail
def uS(f:List V->Ex):Ex:=fun lv J=>Fj f (lv[7]?.join) lv J
def xr(m Ap:Ex)(t:Nat)(l:List V):Ex:=iz (Nat.ble l.length 30) fun lv J=>iz (Nat.ble 10 lv.length) (fun lv J=>Ex.seq m Ap (lv.set 9 (some (.ref J.length))) (J++[.lst (fY t 0 l),.raw,.raw,.raw])) lv J
noncomputable def ot(m:Ex):Nat->Nat->Ex
 |0,_=>Ex.next
 |n+1,t=>uS (xr m (ot m n (t+1)) t)
def AF(m:Ex):Ex:=uS fun l=>iz (Nat.ble l.length 30) fun lv J=>ot m (min 32 (2 ^ l.length)) 0 lv (J++[.raw])
mutual
noncomputable def yu(F:Nat)(O:ay)(cv:LV):PS->Ex
 |.assign i e=>fun lv J=>Ex.ev (aO O lv cv e) (Ex.set i) lv J
 |.iE is e=>fun lv J=>Ex.ev (aO O lv cv e) (fun v=>zz v (Ex.sets is)) lv J
 |.setattr o n e=>fun lv J=>Ex.ev (aO O lv cv e) (fun v=>Ex.ev (aO O lv cv o) fun ov=>Ex.ev (ic ov n v) fun _=>Ex.next) lv J
 |.pW o i e=>fun lv J=>Ex.ev (aO O lv cv e) (fun v=>Ex.ev (aO O lv cv o) fun ov=>Ex.ev (aO O lv cv i) fun iv=>Ex.ev (pX ov iv v) fun _=>Ex.next) lv J
 |.aE t a b=>fun lv J=>Ex.ev (dh O lv cv t) (fun r=>cond r (aD F O cv a) (aD F O cv b)) lv J
 |.fP t b=>dH (fun lv=>dh O lv cv t) (aD F O cv b) F
 |.oW i e b=>fun lv J=>Ex.ev (aO O lv cv e) (fun v=>FA v fun nx=>jm 1 (cR nx (.one i) (aD F O cv b) F 0)) lv J
 |.forR i lo hi b=>fun lv J=>Ex.ev (aO O lv cv lo) (fun x=>Ex.ev (aO O lv cv hi) fun y=>xC x fun a=>xC y fun b'=>iz (decide (0<=a/\a<=b'/\b'<1048576)) (jm 1 (cR (oh (MZ a b')) (.one i) (aD F O cv b) F 0))) lv J
 |.qI i x e b=>fun lv J=>Ex.ev (aO O lv cv e) (fun v=>jO v fun j=>jR j <| jm 2 (cR (eI j) (.two i x) (aD F O cv b) F 0)) lv J
 |.ti i x e b=>fun lv J=>Ex.ev (aO O lv cv e) (fun v=>jO v fun j=>jR j <| jm 1 (cR (iQ j) (.two i x) (aD F O cv b) F 0)) lv J
 |.ret e=>fun lv J=>Ex.ev (aO O lv cv e) Ex.ret lv J
 |.expr e=>fun lv J=>Ex.ev (aO O lv cv e) (fun _=>Ex.next) lv J
 |.raise e=>fun lv J=>Ex.ev (aO O lv cv e) (fun v=>jO v Er) lv J
 |.nU b i h=>Ex.catch (aD F O cv b) fun j=>uw i j (lY j (gone i (aD F cI cv h)))
 |.pO b i e=>Ex.catch (aD F O cv b) fun j=>uw i j (lY j fun lv=>uy i j (aO cI lv cv e) lv)
 |.ur=>rV O
 |.xt b=>AF (aD F O cv b)
noncomputable def aD(F:Nat)(O:ay)(cv:LV):List PS->Ex
 |[]=>Ex.next
 |p :: r=>Ex.seq (yu F O cv p) (aD F O cv r)
end
def Ko(G:GI)(I:Im)(U:List Loc):Fl->Flow->Prop
 |.next,f=>f=.next
 |.ret v,f=>∃ u,f=.ret u/\ao G I U v u
section
variable {G:GI}{c:Cx}{J J':LC}{lv aJ:LV}{z:Z G c J lv}{o:rk}{Q:Flow->Shared->Prop}{E:VP}{P:Prop}
def KX(z:Z G c J lv)(o:rk)(Q:Flow->Shared->Prop)(E:VP):Prop:=match o with
 |none=>False
 |some (.ok x,aJ,J')=>∀ f (z':Z G c J' aJ),z.Le z'->Ko G z'.I z'.U x f->Q f z'.s
 |some (.error i,aJ,J')=>∀ e (z':Z G c J' aJ),z.Le z'->eT z' i e->E e z'.s
theorem KX.shift(h:KX z o Q E)(l:z.Le z1):KX z1 o Q E:=
 match o with
 |none=>h
 |some (.ok _,_,_)=>fun b z' l' r=>h b z' (l.trans l') r
 |some (.error _,_,_)=>fun b z' l' r=>h b z' (l.trans l') r
theorem fU{γ δ:Type}{Rep1:mv γ δ}{m:Ev γ}{f:γ->Ex}{Q1:δ->Shared->Prop}(kv:KX z (Ex.ev m f lv J) Q E)(run:KO Rep1 z (m J) Q1 E->P)
  (h:∀ x aa b (z1:Z G c aa lv),z.Le z1->Rep1 z1.I z1.U x b->KX z1 (f x lv aa) Q E->Q1 b z1.s):P:=by
 refine run ?_;unfold Ex.ev at kv;cases e:m J with
 |none=>rw[e]at kv;exact kv
 |some q=>
  obtain⟨r,aa⟩:=q;rw[e]at kv;cases r with
  |ok x=>exact fun b z' l r=>h x aa b z' l r (kv.shift l)
  |error i=>exact kv
theorem Fs(kv:KX z0 (Ex.seq m f lv J) Q E)(l0:z0.Le z)(run:KX z (m lv J) Q1 E->P)
  (hn:∀ bA aa (z1:Z G c aa bA),z.Le z1->KX z0 (f bA aa) Q E->Q1 .next z1.s) (hr:∀ u s,Q (.ret u) s->Q1 (.ret u) s):P:=by
 refine run ?_;unfold Ex.seq at kv;cases e:m lv J with
 |none=>rw[e]at kv;exact kv
 |some q=>
  obtain⟨r,bA,aa⟩:=q;rw[e]at kv;cases r with
  |error i=>exact fun e z1 l er=>kv e z1 (l0.trans l) er
  |ok x=>cases x with
   |next=>intro f z1 l rf;have rf:f=.next:=rf;subst rf;exact hn bA aa z1 l kv
   |ret v=>intro f z1 l rf;have q:=kv f z1 (l0.trans l) rf;obtain⟨u,rfl,ru⟩:=rf;exact hr u _ q
theorem Oy(kv:KX z (Ex.seq m f lv J) Q E)(run:KX z (m lv J) Q1 E->P)
  (hn:∀ bA aa (z1:Z G c aa bA),z.Le z1->KX z1 (f bA aa) Q E->Q1 .next z1.s) (hr:∀ u s,Q (.ret u) s->Q1 (.ret u) s):P:=
 Fs kv (.refl z) run (fun bA aa z1 l k=>hn bA aa z1 l (k.shift l)) hr
theorem KX.loop(ok:cx c)(h:KX z o Q E):KX z o Q (fun v s=>notedBy M c.A c.env (cameBackBy M c.A c.env E) v s):=
 match o with
 |none=>h
 |some (.ok _,_,_)=>h
 |some (.error _,_,_)=>fun e z' l er=>er.loop ok fun jL l' Hj=>h e jL (l.trans l') Hj
theorem KO.loop{α β:Type}{Rep:mv α β}{o:Out α}{Q:β->Shared->Prop}{M:Model}(ok:cx c)(h:KO Rep z o Q E):KO Rep z o Q (fun v s=>notedBy M c.A c.env (cameBackBy M c.A c.env E) v s):=
 match o with
 |none=>h
 |some (.ok _,_)=>h
 |some (.error _,_)=>fun e z' l er=>er.loop ok fun jL l' Hj=>h e jL (l.trans l') Hj
theorem KX.next(kx:KX z (some (.ok .next,lv,J)) Q E):Q .next { z.s with toks:=tk }:=kx .next (z.tick tk) (z.AE tk) rfl
theorem KX.next'(kx:KX z (some (.ok .next,lv,J)) Q E):Q .next z.s:=kx .next z (.refl z) rfl
theorem KX.ret(kx:KX z (some (.ok (.ret x),lv,J)) Q E)(r:ao G z.I z.U x v):Q (.ret v) z.s:=kx _ z (.refl z) ⟨v,rfl,r⟩
end
section
variable (G:GI)(F:Nat)(O:ay)(k:Nat)(cs:Scope)
def SS(st:Stmt)(ps:PS):Prop:=
 ∀ (c:Cx) J lv (z:Z G c J lv) Q E,Ready c k cs->KX z (yu F O c.cv ps lv J) Q E->wpAny G.M c.A (exec st c.env) Q E z.s
def eg(ss:List Stmt)(gp:List PS):Prop:=
 ∀ (c:Cx) J lv (z:Z G c J lv) Q E,Ready c k cs->KX z (aD F O c.cv gp lv J) Q E->wpAny G.M c.A (execs ss c.env) Q E z.s
end
section
variable {G:GI}{F:Nat}{O:ay}{k:Nat}{cs:Scope}
theorem L0:eg G F O k cs [] []:=fun c J lv z Q E rd kx=>pD kx.next'
theorem X5{st:Stmt}{ss:List Stmt}{ps:PS}{gp:List PS}(h:SS G F O k cs st ps)(hs:eg G F O k cs ss gp):eg G F O k cs (st :: ss) (ps :: gp):=
 fun c J lv z Q E rd kx=>by
 refine kb ?_;exact Oy kx (h c _ _ z _ _ rd) (fun bA aa z1 l aL=>hs c _ _ z1 Q E rd aL) fun u s q=>q
theorem Z9(ht:ST G O k cs t pt)(ha:eg G F O k cs a pa)(hb:eg G F O k cs b pb):SS G F O k cs (.If t a b pos) (.aE pt pa pb):=
 fun c J lv z Q E rd kx=>by
 refine wpAny_If ?_;refine fU kx (ht c _ _ z _ _ rd) fun x aa v z1 l1 rv aL=>?_;subst rv;cases v with
 |true=>exact ha c _ _ z1 Q E rd aL
 |false=>exact hb c _ _ z1 Q E rd aL
theorem Z7(h:SE G O k cs e pe):SS G F O k cs (.Return (some e) pos) (.ret pe):=fun c J lv z Q E rd kx=>by
 refine wpAny_Return_some ?_;exact fU kx (h c _ _ z _ _ rd) fun x aa v z1 l1 rv aL=>aL.ret rv
def oj(e:Expr):Bool:=!(iU e 8||iU e 9||iU e 10)
theorem rQ(h:oj e=true)(t:Option Expr)(n:Nat)(env:Env):swapsWith e t n env=pure false:=by
 cases e<;>first|rfl|cases h
theorem aad(h:SE G O k cs e pe)(hn:oj e=true)(hk:cs.kind=.function):SS G F O k cs (.Expr e pos) (.expr pe):=fun c J lv z Q E rd kx=>by
 refine wpAny_Expr_any ?_ (by unfold interactive;show _=false;simp[rd.cs,hk]) (rQ hn _ _ _);exact fU kx (h c _ _ z _ _ rd) fun x aa v z1 l1 rv aL=>aL.next
theorem wI{c:Cx}{J:LC}{lv:LV}{z:Z G c J lv}{E:VP}{Q:Unit->Shared->Prop}(ok:cx c)(hi:c.cs.names[i]?=some (x,.local))(hx:c.cs.names.lookup x=some .local)
  (r:ao G z.I z.U y v) (h:∀ (z':Z G c J (lv.set i (some y))),z.Le z'->Q () z'.s):wpAny G.M A (storeName c.env x v) Q E z.s:=by
 obtain⟨m,hn,hl⟩:=id z.st.loc;refine I1 (by rw[Env.kindOf];exact hx) hn (fun h' kL hs=>h (z.go (tk:=z.s.toks+1) (z.st.AP (fun a o n e=>(hs.2 a n).trans e) ⟨_,kL,hl.store ok.nodup hi r⟩)) (Z.ez (aC.refl _) (aA.refl _))) (by show(c.cs.kind==.class||(c.cs.kind==.module&&_))=false;rw[ok.kind];rfl)
theorem Ox{c:Cx}{J:LC}{lv:LV}{z:Z G c J lv}{Q:Flow->Shared->Prop}{E:VP}(kx:KX z (Ex.set i y lv J) Q E)(z':Z G c J (lv.set i (some y)))(l:z.Le z'):Q .next z'.s:=by
 unfold Ex.set at kx;split at kx
 ·exact kx .next z' l rfl
 ·exact kx.elim
theorem aaf{pos' pos:Pos}(h:SE G O k cs e pe)(hn:oj e=true)(hi:cs.names[i]?=some (x,.local))(hx:cs.names.lookup x=some .local):SS G F O k cs (.Assign [.Name x pos'] e pos) (.assign i pe):=
 fun c J lv z Q E rd kx=>by
 refine I0 ?_ (rQ hn _ _ _);exact fU kx (h c _ _ z _ _ rd) fun y aa v z1 l1 rv aL=>wI rd.ok (by rw[rd.cs];exact hi) (by rw[rd.cs];exact hx) rv fun z' l=>Ox aL z' l
end
section
variable {G:GI}{F:Nat}{O:ay}{k:Nat}{cs:Scope}
theorem KS:∀ {l:List (Addr×Obj)},(l.map (·.1)).Nodup->(d,o)∈l->∃ l',Upd d o o' l l'/\(d,o')∈l'/\∀ p∈l,p.1≠d->p∈l'
 |[]=>fun _ h=>nomatch h
 |p :: r=>fun nd h=>by
  rw[gO,dE]at nd;rcases bY.mp h with rfl|h
  ·refine⟨(d,o') :: r,.head fun q hq (e:q.1=d)=>nd.1 (pv.mpr ⟨q,hq,e⟩),.head _,fun q hq n=>?_⟩;rcases bY.mp hq with rfl|hq
   ·exact absurd rfl n
   ·exact .tail _ hq
  ·obtain⟨l',h1,h2,h3⟩:=KS nd.2 h;have aY:p.1≠d:=fun e=>nd.1 (e▸pd (f:=fun (x:Addr×Obj)=>x.1) h);refine⟨p :: l',.tail aY h1,.tail _ h2,fun q hq n=>?_⟩;rcases bY.mp hq with rfl|hq
   ·exact .head _
   ·exact .tail _ (h3 q hq n)
theorem aiM(H:Heap)(L:Addr)(h:Heap):((gK H L h).map (·.1)).Nodup:=by
 unfold gK;rw[List.map_filterMap]
 have:∀ (l:List Nat),l.Nodup->(l.filterMap fun a=>Option.map (fun (x:Addr×Obj)=>x.1) (match h.get? a with
   |some o=>if a≠L/\H.get? a=none then some (a,o) else none
   |none=>none)).Nodup/\∀ b∈(l.filterMap fun a=>Option.map (fun (x:Addr×Obj)=>x.1) (match h.get? a with
   |some o=>if a≠L/\H.get? a=none then some (a,o) else none
   |none=>none)),b∈l:=by
  intro l;induction l with
  |nil=>intro _;exact⟨List.nodup_nil,fun b hb=>hb⟩
  |cons a r ih=>
   intro nd;rw[dE]at nd;obtain⟨h1,h2⟩:=ih nd.2;rw[CM];split
   ·exact⟨h1,fun b hb=>.tail _ (h2 b hb)⟩
   ·rename_i b e;have hb:b=a:=by
     obtain⟨x,e1,e2⟩:=eO.mp e;split at e1
     ·split at e1
      ·cases e1;exact e2.symm
      ·cases e1
     ·cases e1
    subst hb;refine⟨dE.mpr ⟨fun hm=>nd.1 (h2 _ hm),h1⟩,fun z hz=>?_⟩;rcases bY.mp hz with rfl|hz
    ·exact .head _
    ·exact .tail _ (h2 z hz)
 exact(this _ List.nodup_range).1
theorem R9:∀ {ns:List Nm}{vs:List Value}{es:List DictEntry},(ns.map Nm.s).Nodup->fK ns vs es->∀ {n:Nm}{j:Nat},ns.findIdx? (·==n)=some j ->
  fK ns (vs.set j v) (putL n.s iW (.str n.s tk) v es)
 |[],_,_,_,_,n,j=>fun h=>by simp at h
 |nm :: ns,[],es,_,h,_,_=>fun _=>absurd h vC
 |nm :: ns,_ :: _,[],_,h,_,_=>fun _=>False.elim h
 |nm :: ns,w :: ws,e :: es,nd,h,n,j=>fun hj=>by
  obtain⟨⟨gF,hk⟩,hv,hr⟩:=h;rw[gO,dE]at nd;rw[zh]at hj;by_cases hn:nm=n
  ·subst hn;simp only[beq_self_eq_true,if_true,Kc]at hj;subst hj;simp only[putL,uW hk,beq_self_eq_true,if_true,IZ,Hl];exact⟨⟨gF,hk⟩,trivial,hr⟩
  ·have:(nm==n)=false:=by simpa using hn
   rw[this]at hj;simp only[pG,if_false]at hj;obtain⟨j',gH,rfl⟩:=eO.mp hj;have aY:(nm.s==n.s)=false:=by
    rw[beq_eq_false_iff_ne];intro q;refine nd.1 ?_;rw[q];obtain⟨aP,hb,_⟩:=zg.mp gH;have:ns[j']=n:=by simpa using hb
    exact pv.mpr ⟨n,by rw[<-this];exact CS _,rfl⟩
   simp only[putL,uW hk,aY,pG,if_false,IY,Hl];exact⟨⟨gF,hk⟩,hv,R9 nd.2 hr gH⟩
theorem Sg:∀ {ns:List Nm}{vs:List Value}{es:List DictEntry},fK ns vs es->∀ {n:Nm},(ns.map Nm.s).contains n.s=false ->
  fK (ns++[n]) (vs++[v]) (putL n.s iW (.str n.s tk) v es)
 |[],[],[],_,n=>fun _=>⟨⟨tk,rfl⟩,rfl,trivial⟩
 |[],_ :: _,es,h,_=>fun _=>absurd h BQ
 |[],[],_ :: _,h,_=>fun _=>False.elim h
 |nm :: ns,[],es,h,_=>fun _=>absurd h vC
 |nm :: ns,_ :: _,[],h,_=>fun _=>False.elim h
 |nm :: ns,w :: ws,e :: es,h,n=>fun hc=>by
  obtain⟨⟨gF,hk⟩,hv,hr⟩:=h;rw[gO,CV,VN]at hc;have aY:(nm.s==n.s)=false:=by
   rw[show(nm.s==n.s)=(n.s==nm.s) by rw[tK,beq_iff_eq,beq_iff_eq];exact eq_comm];exact hc.1
  simp only[putL,uW hk,aY,pG,if_false,vV,Hl];exact⟨⟨gF,hk⟩,hv,Sg hr hc.2⟩
theorem M7(name:Str)(iW:Int)(key v:Value):∀ es:List DictEntry,(putL name iW key v es).length<=es.length+1
 |[]=>by simp[putL]
 |e :: r=>by
  simp only[putL];split
  ·simp
  ·have:=M7 name iW key v r;simp;omega
theorem Sa:∀ {ns:List Nm}{vs:List Value}{es:List DictEntry},fK ns vs es->es.length=ns.length
 |[],[],[]=>fun _=>rfl
 |[],_ :: _,es=>fun h=>absurd h BQ
 |[],[],_ :: _=>fun h=>False.elim h
 |nm :: ns,[],es=>fun h=>absurd h vC
 |nm :: ns,_ :: _,[]=>fun h=>False.elim h
 |nm :: ns,w :: ws,e :: es=>fun h=>by
  exact congrArg Nat.succ (Sa h.2.2)
theorem av.pX:∀ {l:List V}{vs:List Value} (j:Nat),av G I U l vs->ao G I U y u->av G I U (l.set j y) (vs.set j u)
 |[],vs=>fun j h r=>by have h:_=_:=h;subst h;simp[gm,gn]
 |x :: l,vs=>fun j h r=>by
  obtain⟨v,ws,rfl,h1,h2⟩:=h;cases j with
  |zero=>simp only[IZ,gm,gn];exact⟨_,_,rfl,r,h2⟩
  |succ j=>simp only[IY,gm,gn];exact⟨_,_,rfl,h1,av.pX j h2 r⟩
theorem E9:∀ {l:List V} (j:Nat),lows i l=true->low i y=true->lows i (l.set j y)=true
 |[],j=>fun h _=>rfl
 |x :: l,0=>fun h r=>by simp only[cN,hG,IZ]at h ⊢;exact⟨r,h.2⟩
 |x :: l,j+1=>fun h r=>by simp only[cN,hG,IY]at h ⊢;exact⟨h.1,E9 j h.2 r⟩
theorem Q6(h:dX c n=some j):(ec c).take (j+1)=(ec c).take j++[n]:=by
 obtain⟨aP,hb,_⟩:=zg.mp h;have vm:(ec c)[j]=n:=by simpa using hb
 rw[List.take_add_one,dw aP,vm];rfl
theorem afx(h:dX c n=some j):(((ec c).take j).map Nm.s).contains n.s=false:=by
 have h1:=GR c (j+1);rw[Q6 h,j_]at h1;rw[<-VI,tW];intro hm;exact(jE.mp h1).2.2 _ hm n.s (by simp) rfl
theorem afz(c:Cl):(ec c).length<=4:=by cases c<;>decide
theorem Se:∀ {ns:List Nm}{vs:List Value}{es:List DictEntry},fK ns vs es->es.any (·.refKey)=false
 |[],[],[]=>fun _=>rfl
 |[],_ :: _,es=>fun h=>absurd h BQ
 |[],[],_ :: _=>fun h=>False.elim h
 |nm :: ns,[],es=>fun h=>by cases es<;>exact False.elim h
 |nm :: ns,_ :: _,[]=>fun h=>False.elim h
 |nm :: ns,w :: ws,e :: es=>fun h=>by
  obtain⟨⟨tk,hk⟩,_,hr⟩:=h;rw[Ka,Se hr,I_];unfold DictEntry.refKey;rw[hk]
theorem afk(h:es.any (·.refKey)=false):(getL n es).isSome=true:=by
 unfold getL;split
 ·rfl
 ·rw[h];rfl
theorem OH{α β:Type}{c:Cx}{J gc:LC}{lv:LV}{Rep:mv α β}{z:Z G c gc lv}{Q:β->Shared->Prop}{E:VP}{i:Nat}{f:Cl->List V->Ev α}{P:Prop}(kv:KO Rep z (mU i f J) Q E)(h:∀ cl l,J[i]?=some (.ins cl l)->KO Rep z (f cl l J) Q E->P):P:=by
 have kv:KO Rep z (match J[i]?.bind qY with|some (c,l)=>f c l J|none=>none) Q E:=kv;cases hq:J[i]?.bind qY with
 |none=>rw[hq]at kv;exact kv.elim
 |some q=>
  rw[hq]at kv;obtain⟨x,hx,h2⟩:=yN hq;exact h _ _ (TO h2▸hx) kv
abbrev Kn:mv Unit Unit:=fun _ _ _ _=>True
theorem abe{c:Cx}{J:LC}{lv:LV}{z:Z G c J lv}{i:Nat}{cl:Cl}{l:List V}{j:Nat}{n:Nm}{y:V}{v:Value}{a d:Addr}{vs:List Value}{es:List DictEntry}{h':Heap}{tk:Nat}{iW:Int}{t:Tok}{nn:Nat}{Q:Unit->Shared->Prop}{E:VP}(kv:KO Kn z (w6 i cl l j y J) Q E)
  (hl:J[i]?=some (.ins cl l)) (cQ:z.U[i]?=some (.ins a d)) (hj:dX cl n=some j) (qA:low i y=true) (h0:z.I a=some (instObj (bG cl) d)) (h2:fK ((ec cl).take l.length) vs es) (h3:av G z.I z.U l vs) (rv:ao G z.I z.U y v)
  (kk:∀ a' o',a'≠c.L->a'∉(Loc.ins a d).aK->z.s.heap.get? a'=some o'->h'.get? a'=some o') (hn:∃ m,h'.Ns c.L m/\gb G z.I z.U c.cs m lv) (hd:h'.get? d=some (dictOf (putL n.s iW (.str n.s t) v es) nn)):Q () { z.s with heap:=h',toks:=tk }:=by
 unfold w6 at kv;split at kv
 ·rename_i Bq;refine kv.new (b:=()) (z.st.Ea (y:=.ins cl (l.set j y)) cQ kk hn ⟨h0,vs.set j v,_,_,hd,?_,av.pX j h3 rv⟩ (E9 j (z.st.cN _ _ hl) qA)) (aC.refl _) (aA.refl _) trivial;rw[ef];exact R9 (GR cl _) h2 (Q7 hj Bq)
 ·split at kv
  ·rename_i Bq;refine kv.new (b:=()) (z.st.Ea (y:=.ins cl (l++[y])) cQ kk hn ⟨h0,vs++[v],_,_,hd,?_,av.append h3 (ws:=[v]) (wZ rv)⟩ (E_ (z.st.cN _ _ hl) ((I8 _).trans qA))) (aC.refl _) (aA.refl _) trivial;rw[bz,zb,<-Bq,Q6 hj];rw[<-Bq]at h2;exact Sg h2 (afx hj)
  ·exact kv.elim
theorem ZH(g:bH G)(ko:t5 G.K){c:Cx}{J:LC}{lv:LV}{z:Z G c J lv}{o y:V}{n:Nm}{ov v:Value}{Q:Unit->Shared->Prop}{E:VP}
  (ro:ao G z.I z.U o ov) (rv:ao G z.I z.U y v) (kv:KO Kn z (ic o n y J) Q E):wpAny G.M c.A (setAttr ov n.s v) Q E z.s:=by
 refine oz kv (P:=fun o=>ao G z.I z.U o ov->_) (fun i kv ro=>?_) ro;refine OH kv fun cl l hl kv=>dk kv fun j hj kv=>cG kv fun qA kv=>?_;obtain⟨lo,cQ,rfl⟩:=ro;have hc:=z.st.cells.2 i lo _ cQ hl;cases lo<;>try exact False.elim hc
 rename_i a d;obtain⟨h0,vs,es,m0,h1,h2,h3⟩:=hc;have IA:InstAt z.s.heap a (instObj (bG cl) d) (bG cl) (some (dictOf es m0)):=⟨z.st.im _ _ h0,rfl,rfl,h1⟩;obtain⟨m,Fm,sV⟩:=z.st.frame;have Qf:d∈cK z.U:=eE.mpr ⟨_,eP cQ,by simp[Loc.aK]⟩;have xW:d≠c.L:=fun q=>by
  have nd:=z.st.nd;unfold owned at nd;exact(dE.mp nd).1 (fb _ (q▸Qf))
 have Gn:z.I d=none:=z.st.fresh d (.tail _ (fb _ Qf));have hdH:G.H.get? d=none:=by
  cases q:G.H.get? d with
  |none=>rfl
  |some o=>have:=z.st.h0 d o q;rw[Gn]at this;cases this
 have aeJ:(d,dictOf es m0)∈gK G.H c.L z.s.heap:=vQ.mpr ⟨h1,xW,hdH⟩;have hes:es.length<=4:=by rw[Sa h2,gL];exact ak (tJ _ _) (afz cl)
 obtain⟨acx,Uu,fF,bF⟩:=KS (o':=dictOf (putL n.s (PyData.keyHash G.w.params n.s) (.str n.s (z.s.toks+1)) v es) (putN n.s es m0)) (aiM G.H c.L z.s.heap) aeJ;refine set_dict Fm g.K (Ie G.H c.L z.s.heap) IA rfl (ko.set cl) (ko.over cl) (ko.Lq cl n (GS hj)) (ko.dict cl) (afk (Se h2)) rfl Uu (ak (M7 _ _ _ _ _) (ak (cg hes) ⋯)) fun h' F' N'=>?_
 refine abe kv hl cQ hj qA h0 h2 h3 rv (fun a' o' n1 n2 e1=>?_) ⟨m,F'.ns,sV⟩ (N' _ fF).1;cases q:G.H.get? a' with
 |none=>exact(N' _ (bF _ (vQ.mpr ⟨e1,n1,q⟩) (by simpa[Loc.aK]using n2))).1
 |some o2=>
  have:=z.st.im _ _ (z.st.h0 a' o2 q);rw[e1]at this;cases this;exact F'.keep a' o' q
theorem Z6{pos' pos:Pos}(g:bH G)(ko:t5 G.K)(he:SE G O k cs e pe)(ho:SE G O k cs o po)(hn:oj e=true)(hx:x=n.s) :
  SS G F O k cs (.Assign [.Attribute o x pos'] e pos) (.setattr po n pe):=fun c J lv z Q E rd kx=>by
 subst hx;refine IX ?_ (rQ hn _ _ _);refine fU kx (he c _ _ z _ _ rd) fun y aa v z1 l1 rv aL=>?_;refine fU aL (ho c _ _ z1 _ _ rd) fun y' aj u z2 l2 ru eL=>?_;exact fU eL (ZH g ko (z:=z2) ru (l2.rep rv)) fun _ bo _ z3 l3 _ gT=>gT.next'
theorem Z5{pos' pos:Pos}(he:SE G O k cs e pe)(ho:SE G O k cs o po)(hi:SE G O k cs i pi)(hn:oj e=true) :
  SS G F O k cs (.Assign [.Subscript o i pos'] e pos) (.pW po pi pe):=fun c J lv z Q E rd kx=>by
 refine wpAny_Assign_Subscript ?_ (rQ hn _ _ _);refine fU kx (he c _ _ z _ _ rd) fun y aa v z1 l1 rv aL=>?_;refine fU aL (ho c _ _ z1 _ _ rd) fun y' aj u z2 l2 ru eL=>?_;refine fU eL (hi c _ _ z2 _ _ rd) fun x bo t z3 l3 rt gT=>?_;have ru:=l3.rep ru;have rv:=l3.rep (l2.rep rv);refine fU (Rep1:=Kn) gT (fun kv=>?_) fun _ dP _ z4 l4 _ kx4=>kx4.next';refine oz kv (P:=fun y'=>ao G z3.I z3.U y' u->_) (fun jj kv ru=>?_) ru
 refine jr (P:=fun t=>wpAny G.M c.A (setItem u t v) _ E z3.s) kv rt fun ii tt kv=>?_;refine iS (P:=fun u=>wpAny G.M c.A (setItem u _ v) _ E z3.s) kv ru fun l a vs n hl kv=>cG kv fun hc kv=>?_;have hc:=of_decide_eq_true hc;have hlen:=hl.rs.length;refine ki_setAt hl.ho hc.1 (by have:=D6 hc.2.2.1;omega) (by simp[hlen];omega) ?_;have hu:=I9 (items:=vs.toArray) (n:=n) hl.ho (·.setIfInBounds ii.toNat v)
 rw[if_pos (by simp)]at hu;refine kv.new (b:=()) (tk:=z3.s.toks) (set_list z3.st hl.gV (av.pX ii.toNat hl.rs rv) (tV ..) (n:=n) ?_ (E9 _ (z3.st.cN _ _ hl.dB) hc.2.2.2)) (aC.refl _) (aA.refl _) trivial;rw[hu];congr 1;simp[W.listOf]
end
theorem Si:entryFor table "proto.unchain"=some Builtin.«proto.unchain»:=entryFor_of_fast (by kernel_rfl)
inductive Reach(h:Heap):Value->Value->Prop
 |refl (v:Value):Reach h v v
 |step {a:Addr}{o:Obj}{vs:Array Value}{x v:Value}:h.get? a=some o->o.data=.fields vs->vs[2]?=some x->Reach h x v->Reach h (.ref a) v
theorem Reach.snoc(r:Reach h v (.ref a))(h1:h.get? a=some o)(h2:o.data=.fields vs)(h3:vs[2]?=some x):Reach h v x:=by
 generalize hw:Value.ref a=w at r;induction r with
 |refl v=>subst hw;exact .step h1 h2 h3 (.refl _)
 |step g1 g2 g3 _ ih=>exact .step g1 g2 g3 (ih hw)
theorem abd(args:Args):(Code.builtin "proto.unchain" args).quiet=true:=Code.quiet_builtin args (by decide +kernel)
theorem Wt(ho:s.heap.get? a=some o)
  (hd:o.data=.fields vs) (hi:i<vs.size) (h:Q () { s with heap:=s.heap.update a (Obj.mapFields (·.setIfInBounds i x)) }):wpAny M A (updateField a i x) Q E s:=by
 have:=ze (M:=M) (A:=A) (E:=E) (i:=i) (x:=x) (Q:=Q) ho hd hi h;simpa only[setField]using this
section
variable {prog:Program}{w:World}{G:GI}
theorem WX(im:∀ a o,I a=some o->s.heap.get? a=some o)(he:I e=none)(hR:R (.ok (.ret .none)) s)(ch:kj I v2) :
  ∀ (a:Addr) (o:Obj) (vs:Array Value),s.heap.get? a=some o->o.data=.fields vs->vs[2]?=some v2->∀ (wJ:Value) (b:Bool),Reach s.heap wJ (.ref a) ->
   codeAny (model prog w) A (.builtin "proto.unchain" ⟨[.ref e,.ref a,wJ,.bool b],[]⟩) R s:=by
 induction ch with
 |nil=>
  intro a o vs h1 h2 h3 wJ b hr;refine CK Si ?_;show wpAny _ _ (field (.ref a) 2>>=_) _ _ s;refine au (jH h1 h2 h3 ?_);rw[if_pos (by rfl)];exact a_ hR
 |@cons a' o' zx v' g1 g2 g3 _ ih=>
  intro a o vs h1 h2 h3 wJ b hr;refine CK Si ?_;show wpAny _ _ (field (.ref a) 2>>=_) _ _ s;refine au (jH h1 h2 h3 ?_);rw[if_neg (show ¬((Value.ref a'==Value.none)=true) from by simp)];have aY:a'≠e:=fun q=>by rw[q,he]at g1;cases g1
  rw[if_neg (show ¬((Value.ref a'==Value.ref e)=true) from by simpa using aY)];refine wpAny_ite_split (fun _=>?_) (fun _=>?_)
  ·exact au (Cm (a_ hR))
  ·have fin:∀ sl,Reach s.heap sl (.ref a')->wpAny (model prog w) (A.under (.builtin "proto.unchain" ⟨[.ref e,.ref a,wJ,.bool b],[]⟩)) (again (.builtin "proto.unchain" ⟨[.ref e,.ref a',sl,.bool !b],[]⟩))
     (fun fin s'=>match fin with|.done f=>R (.ok f) s'|.again c'=>c'.quiet=true/\codeAny (model prog w) A c' R s') (fun e s'=>R (.error e) s') s:=fun sl jV=>
    a_ (And.intro (abd _) (ih a' o' zx (im _ _ g1) g2 g3 sl _ jV))
   cases b with
   |false=>exact au (a_ (fin _ (hr.snoc h1 h2 h3)))
   |true=>
    rw[if_pos rfl];cases hr with
    |refl=>exact au (jH h1 h2 h3 (fin _ (.refl _)))
    |step q1 q2 q3 q4=>exact au (jH q1 q2 q3 (fin _ (q4.snoc h1 h2 h3)))
def rD(A:Around)(I:Im)(h:Heap):Prop:=∀ v,A.handled=some v->∃ e oe vs v2,v=.ref e/\h.get? e=some oe/\oe.data=.fields vs/\vs[2]?=some v2/\kj I v2
theorem St.aW(st:St G c I U J lv s):rD c.A I s.heap:=fun v hv=>by
 rcases st.gx v hv with ⟨i,e,h1,h2⟩|⟨hn,hc⟩
 ·obtain⟨_,oe,vs,a0,v1,v2,g1,g2,g3,g4,g5,g6,g7,g8⟩:=st.exc h2;exact⟨e,oe,vs,v2,h1,g1,g3,g7,g8⟩
 ·cases hc with
  |nil=>exact absurd rfl hn
  |cons g1 g2 g3 g4=>exact⟨_,_,_,_,rfl,st.im _ _ g1,g2,g3,g4⟩
theorem M4{α:Type}{A:Around}{I:Im}{s:Shared}{e:Addr}{oe:Obj}{vs:Array Value}{Q:α->Shared->Prop}{E:VP}(im:∀ a o,I a=some o->s.heap.get? a=some o)(hk:rD A I s.heap)(he:I e=none)
  (h1:s.heap.get? e=some oe) (h2:oe.data=.fields vs) (h3:2<vs.size) (aY:A.handled≠some (.ref e))
  (h:∀ h' v2,Heap.SameBut e s.heap h'->(A.handled=none->v2=none/\h'=s.heap)->(∀ v,A.handled=some v->v2=some v)->(∀ x,v2=some x->h'=s.heap.update e (Obj.mapFields (·.setIfInBounds 2 x)))->E (.ref e) { s with heap:=h' }) :
  wpAny (model prog w) A (raiseNew (.ref e):Sem α) Q E s:=by
 unfold raiseNew;refine au (IW ?_);cases hh:A.handled with
 |none=>exact au (a_ (za (h s.heap none (Heap.SameBut.refl ..) (fun _=>⟨rfl,rfl⟩) (fun v q=>by rw[hh]at q;cases q) (fun x q=>by cases q))))
 |some v=>
  obtain⟨b,ob,us,v2,rfl,g1,g2,g3,g4⟩:=hk v hh;have BB:b≠e:=fun q=>aY (by rw[hh,q]);show wpAny _ _ (if (Value.ref b != Value.ref e)=true then _ else _) _ _ s;rw[if_pos (show(Value.ref b != Value.ref e)=true from by simpa using BB)];refine au (gM (wpAny_runValue (WX im he ?_ g4 b ob us g1 g2 g3 (.ref b) false (.refl _))));refine au (Wt (i:=2) (x:=.ref b) h1 h2 h3 (za ?_))
  exact h _ (some (.ref b)) (tV ..) (fun q=>by rw[hh]at q;cases q) (fun v q=>by rw[hh]at q;cases q;rfl) fun x q=>by cases q;rfl
theorem rD.keep(hk:rD A I h)(hb:Heap.ExtBut it h h')(hit:A.handled≠some (.ref it)):rD A I h':=fun v hv=>by
 obtain⟨e,oe,vs,v2,rfl,h1,h2⟩:=hk v hv;exact⟨e,oe,vs,v2,rfl,hb e oe (fun q=>hit (by rw[hv,q])) h1,h2⟩
theorem next_end{A:Around}{E:VP}{s:Shared}{I:Im}{it t:Addr}{i:Nat}{items:Array Value}{Q:Option Value->Shared->Prop}(im:∀ a o,I a=some o->s.heap.get? a=some o)(hk:rD A I s.heap)(hiI:I it=none)
  (PZ:A.handled≠some (.ref it)) (hit:IsTupIter s.heap it t i) (ht:IsTup s.heap t items) (hx:items[i]?=none)
  (hQ:∀ h',Heap.ExtBut it s.heap h'->Q none { s with heap:=h' }):wpAny (model prog w) A (pyNext (.ref it)) Q E s:=by
 obtain⟨o,ho,hc,hd⟩:=id hit;obtain⟨ol,hol,_,nl,gx⟩:=ht;unfold pyNext
 refine au (wpAny_attempt (wpAny_callSpecial?_slot (name:=Str.ofString "__next__") hit.typeIs slot_tupleiter_next
  (wpAny_call_entry slot_tupleiter_next hit.typeIs entry_tupleiter_next ?_ (args_tupleiter_next _))))
 show wpAny _ _ (field (.ref it) 0>>=_) _ _ s;refine au (jH ho hd (x:=.ref t) rfl ?_);show wpAny _ _ (if (Value.ref t==Value.none)=true then _ else _) _ _ s;rw[if_neg (show ¬((Value.ref t==Value.none)=true) from k6)];show wpAny _ _ (field (.ref it) 1>>=_) _ _ s;refine au (jH ho hd (x:=.int i 0) rfl ?_);show wpAny _ _ (seqItems? (.ref t)>>=_) _ _ s;refine au (wpAny_seqItems hol gx ?_)
 simp only[CJ,hx];refine au (Cm (au (ze ho hd (by simp) ?_)));show wpAny _ _ (newExc (.type "StopIteration") []>>=_) _ _ _;refine au ?_;simp only[newExc,newTuple];refine au (tU ?_ (by size_fits));refine au (m:=firstArgMember _ _) (wpAny_of_eq (a:=Value.none) (by first|rfl|(simp only[firstArgMember];rfl)) ?_);refine tU ?_ (by size_fits)
 have x1:Heap.ExtBut it s.heap (s.heap.update it (Obj.mapFields (·.setIfInBounds 0 Value.none))):=(tV ..).extBut;have x2:=x1.push { cls:=.type "tuple",data:=.seq #[] };have Pd:∀ a o,I a=some o->((s.heap.update it (Obj.mapFields (·.setIfInBounds 0 Value.none))).push { cls:=.type "tuple",data:=.seq #[] }).get? a=some o:=fun a o e=>x2 a o (fun q=>by rw[q,hiI]at e;cases e) (im a o e);have fresh:∀ h1:Heap,(∀ a o,I a=some o->h1.get? a=some o)->I h1.objs.size=none:=fun h1 k=>by
  cases q:I h1.objs.size with
  |none=>rfl
  |some o=>exact absurd (cS (k _ _ q)) (iG _)
 have sW:=hk.keep x2 PZ;have afo:∀ h1:Heap,rD A I h1->A.handled≠some (.ref h1.objs.size):=fun h1 k q=>by
  obtain⟨e,oe,vs,v2,e1,e2,_⟩:=k _ q;cases e1;exact absurd (cS e2) (iG _)
 refine M4 (I:=I) (fun a o e=>bD _ (Pd a o e)) (sW.keep (it:=it) (fun b o _ e=>bD _ e) PZ) (fresh _ Pd) (gN _ rfl) rfl (by simp;lia) (afo _ sW) fun h' v2 hs h1 h2 h3=>?_;have fm:∃ oe,h'.get? ((s.heap.update it (Obj.mapFields (·.setIfInBounds 0 Value.none))).push { cls:=.type "tuple",data:=.seq #[] }).objs.size=some oe/\oe.cls=.type "StopIteration":=by
  cases hh:A.handled with
  |none=>
   rw[(h1 hh).2];exact⟨_,gN _ rfl,rfl⟩
  |some v=>
   rw[h3 v (h2 v hh)];exact⟨_,kc _ (gN _ rfl) rfl,rfl⟩
 obtain⟨oe,g1,g2⟩:=fm;refine au (wpAny_isInstance (T:="StopIteration") (b:=true) ⟨_,g1,g2⟩ isSubtype_stop ?_);refine a_ (hQ _ fun b o hb e=>?_);have:=(x2 b o hb e);exact(hs.2 b (dG (cS this))).trans (bD _ this)
theorem Dp{items:Array Value}(im:∀ a o,I a=some o->s.heap.get? a=some o)(hk:rD A I s.heap)(ht:IsTup s.heap t items)
  (hQ:∀ h',(∀ b o,s.heap.get? b=some o->h'.get? b=some o)->Q items.toList { s with heap:=h' }):wpAny (model prog w) A (unpackItems (.ref t) items.size none) Q E s:=by
 have aP:t≠s.heap.objs.size:=by obtain⟨o,ho,_⟩:=ht;exact dG (cS ho)
 unfold unpackItems;refine au ?_;unfold notIterableAtAll;refine au (IV ht.typeIs slot_tuple_iter.lookup ?_);refine a_ ?_;simp only[pG,if_false];refine au (gM (iter_tuple ht ?_));refine au (gM (draw_tuple aP items.size 0 _ _ ⟨_,gN _ rfl,rfl,rfl⟩ (ht.push _) (by lia) fun dS aeN oH=>?_));have iY:List.take items.size (List.drop 0 items.toList)=items.toList:=by
  rw[Ck];exact k7 (by simp)
 rw[iY];rw[if_neg (by simp)];have aew:IsTup dS t items:=(ht.push _).extBut oH.extBut aP;have kp:∀ b o,s.heap.get? b=some o->dS.get? b=some o:=fun b o e=>(oH.2 b (dG (cS e))).trans (bD _ e);have hI:I s.heap.objs.size=none:=by
  cases q:I s.heap.objs.size with
  |none=>rfl
  |some o=>exact absurd (cS (im _ _ q)) (iG _)
 have hH:A.handled≠some (.ref s.heap.objs.size):=fun q=>by
  obtain⟨e,oe,vs,v2,e1,e2,_⟩:=hk _ q;cases e1;exact absurd (cS e2) (iG _)
 refine au (gM (next_end (I:=I) (fun a o e=>kp a o (im a o e)) (hk.keep (it:=s.heap.objs.size) (fun b o _ e=>kp b o e) hH) hI hH aeN aew (by simp) fun xF Bt=>?_));simp only[Option.isSome_none,pG,if_false];exact a_ (hQ xF fun b o e=>Bt b o (dG (cS e)) (kp b o e))
end
section
variable {G:GI}{F:Nat}{O:ay}{k:Nat}{cs:Scope}
inductive h9(cs:Scope):List Nat->List Str->Prop
 |nil:h9 cs [] []
 |cons {i:Nat}{is:List Nat}{x:Str}{xs:List Str}:cs.names[i]?=some (x,.local)->cs.names.lookup x=some .local->h9 cs is xs->h9 cs (i :: is) (x :: xs)
theorem h9.len(h:h9 cs is xs):is.length=xs.length:=by
 induction h with
 |nil=>rfl
 |cons _ _ _ ih=>exact congrArg (·+1) ih
noncomputable def iN:List Nat->List V->LV->LV
 |i :: is,v :: vs,lv=>iN is vs (lv.set i (some v))
 |_,_,lv=>lv
theorem AG{P:Prop}:∀ {is:List Nat}{vs:List V}{lv:LV},KX z0 (Ex.sets is vs lv J) Q E->(is.length=vs.length->KX z0 (some (.ok .next,iN is vs lv,J)) Q E->P)->P
 |[],[],lv=>fun kx h=>h rfl kx
 |[],_ :: _,lv=>fun kx h=>kx.elim
 |_ :: _,[],lv=>fun kx h=>kx.elim
 |i :: is,v :: vs,lv=>fun kx h=>by
  have kx:KX z0 (Ex.seq (Ex.set i v) (Ex.sets is vs) lv J) Q E:=kx;unfold Ex.seq Ex.set at kx;split at kx
  ·exact kx.elim
  ·rename_i r aJ J' e;split at e
   ·cases e;exact AG (is:=is) (vs:=vs) kx fun hl q=>h (congrArg (·+1) hl) q
   ·cases e
theorem Mo:∀ {a b:List Nat}{x y:List V}{lv:LV},a.length=x.length->iN (a++b) (x++y) lv=iN b y (iN a x lv)
 |[],b,[],y,lv=>fun h=>rfl
 |i :: a,b,v :: x,y,lv=>fun h=>by
  show iN (a++b) (x++y) (lv.set i (some v))=_;rw[Mo (by simpa using h)];rfl
 |[],_,_ :: _,_,_=>fun h=>by cases h
 |_ :: _,_,[],_,_=>fun h=>by cases h
theorem Mn:∀ {is:List Nat}{vs:List V}{i:Nat}{v:V}{lv:LV},i∉is->iN is vs (lv.set i (some v))=(iN is vs lv).set i (some v)
 |[],_,i,v,lv=>fun h=>by cases ‹List V›<;>rfl
 |j :: is,[],i,v,lv=>fun h=>rfl
 |j :: is,u :: vs,i,v,lv=>fun h=>by
  show iN is vs ((lv.set i (some v)).set j (some u))=_;rw[List.set_comm _ _ (fun (e:i=j)=>h (by rw[e];exact .head _))];exact Mn fun hm=>h (.tail _ hm)
theorem Mm:∀ {is:List Nat}{vs:List V}{lv:LV},is.Nodup->is.length=vs.length->iN is.reverse vs.reverse lv=iN is vs lv
 |[],[],lv=>fun _ _=>rfl
 |i :: is,v :: vs,lv=>fun nd h=>by
  rw[dE]at nd;rw[wa,wa,Mo (by simpa using h),Mm nd.2 (by simpa using h)];show(iN is vs lv).set i (some v)=iN is vs (lv.set i (some v));rw[Mn nd.1]
 |[],_ :: _,_=>fun _ h=>by cases h
 |_ :: _,[],_=>fun _ h=>by cases h
theorem h9.reverse(h:h9 cs is xs):h9 cs is.reverse xs.reverse:=by
 have app:∀ {a:List Nat}{x:List Str}{b:List Nat}{y:List Str},h9 cs a x->h9 cs b y->h9 cs (a++b) (x++y):=by
  intro a x b y h1 h2;induction h1 with
  |nil=>exact h2
  |cons g1 g2 _ ih=>exact .cons g1 g2 ih
 induction h with
 |nil=>exact .nil
 |cons g1 g2 _ ih=>rw[wa,wa];exact app ih (.cons g1 g2 .nil)
inductive we(G:GI)(A:Around)(env:Env):List (Value->Sem Unit)->List Str->Prop
 |nil:we G A env [] []
 |cons {f:Value->Sem Unit}{fs:List (Value->Sem Unit)}{x:Str}{xs:List Str}:(∀ (v:Value) (Q:Unit->Shared->Prop) (E:VP) (s:Shared),wpAny G.M A (storeName env x v) Q E s->wpAny G.M A (f v) Q E s) ->
   we G A env fs xs->we G A env (f :: fs) (x :: xs)
theorem LQ(ok:cx c)(hc:c.cs=cs)(hp:h9 cs is xs):∀ {fs:List (Value->Sem Unit)},we G c.A c.env fs xs ->
  ∀ {vs:List V}{us:List Value}{lv} (z:Z G c J lv),av G z.I z.U vs us->is.length=vs.length ->
  (∀ (z':Z G c J (iN is vs lv)),z.Le z'->Q () z'.s)->wpAny G.M c.A (assignInOrder fs us) Q E z.s:=by
 induction hp with
 |nil=>
  intro fs hf vs us lv z r hl h;cases hf;cases vs with
  |nil=>
   have r:_=_:=r;subst r;exact a_ (h z (.refl z))
  |cons=>cases hl
 |cons g1 g2 rest ih=>
  intro fs hf vs us lv z r hl h;cases hf with
  |cons hf fr=>
  cases vs with
  |nil=>cases hl
  |cons v vs=>
   obtain⟨u,ws,rfl,r1,r2⟩:=r;refine au (gM (hf u _ _ _ (wI ok (by rw[hc];exact g1) (by rw[hc];exact g2) r1 fun z1 l1=>?_)));exact ih fr z1 (l1.MO r2) (I7 hl) fun z' l=>h z' (l1.trans l)
noncomputable def namesOf:List Expr->Option (List Str)
 |[]=>some []
 |.Name x _ :: r=>(namesOf r).map (x :: ·)
 |_=>none
theorem NN(h:namesOf (e :: r)=some xs):∃ x p ys,e=.Name x p/\namesOf r=some ys/\x :: ys=xs:=by
 cases e<;>first|exact ck h|skip
 obtain⟨ys,h1,h2⟩:=eO.mp h;exact⟨_,_,ys,rfl,h1,h2⟩
theorem TJ(h:namesOf es=some xs)(env:Env) :
  we G A env ((assignEach es env).map (·.2)) xs/\(assignEach es env).findIdx? (·.1)=none/\(assignEach es env).length=xs.length:=by
 induction es generalizing xs with
 |nil=>
  cases h;exact⟨.nil,rfl,rfl⟩
 |cons e r ih=>
  obtain⟨x,p,ys,rfl,h1,rfl⟩:=NN h;obtain⟨k1,k3,k4⟩:=ih h1;have e1:assignEach (.Name x p :: r) env=(false,assign (.Name x p) env) :: assignEach r env:=rfl;rw[e1];exact⟨.cons (fun v Q E s q=>tS q) k1,by rw[zh];simp[k3],by simp[k4]⟩
theorem Td:∀ xs:List Str,we G A env (xs.map fun x=>bindName env x) xs
 |[]=>.nil
 |x :: xs=>.cons (fun v Q E s q=>bindName_ q) (Td xs)
theorem av.rev:∀ {vs:List V}{us:List Value},av G I U vs us->av G I U vs.reverse us.reverse
 |[],us=>fun h=>by have h:_=_:=h;subst h;simp only[List.reverse_nil,gm,gn]
 |x :: r,us=>fun h=>by
  obtain⟨u,ws,rfl,g1,g2⟩:=h;rw[wa,wa];exact av.append (av.rev g2) (ws:=[u]) (wZ g1)
theorem Fq{c:Cx}{J J':LC}{lv aJ:LV}{z:Z G c J lv}{v:V}{f:List V->Ex}{Q:Flow->Shared->Prop}{E:VP}{P:V->Prop}(kx:KX z (zz v f aJ J') Q E)(h:∀ vs,KX z (f vs aJ J') Q E->P (.tup vs)):P v:=by
 have kx:KX z ((match yO v with|some vs=>f vs|none=>Ex.fail) aJ J') Q E:=kx;cases hv:yO v with
 |none=>rw[hv]at kx;exact kx.elim
 |some l=>rw[hv]at kx;rw[TL hv];exact h _ kx
theorem KU{c:Cx}{J:LC}{lv:LV}{z:Z G c J lv}{elts:List Expr}{xs:List Str}{is:List Nat}{kk:Nat}{et:Pos}{vs:List V}{v:Value}{Q:Unit->Shared->Prop}{E:VP}(ok:cx c)(hc:c.cs=cs)(hn:namesOf elts=some xs)(hp:h9 cs is xs)
  (rv:ao G z.I z.U (.tup vs) v) (hl:is.length=vs.length) (h:∀ (z':Z G c J (iN is vs lv)),z.Le z'->Q () z'.s):wpAny G.M c.A (assign (.Tuple elts kk et) c.env v) Q E z.s:=by
 obtain⟨a,us,rfl,ht,hr⟩:=z.tup rv;obtain⟨k1,k3,k4⟩:=TJ (G:=G) (A:=c.A) hn c.env;have hlen:us.toArray.size=(assignEach elts c.env).length:=by rw[k4,<-hp.len,hl,ja,hr.length]
 show wpAny _ _ (do standAt et;unpack (.ref a) (assignEach elts c.env)) _ _ _;refine au (mj ?_);unfold unpack;rw[k3,<-hlen];refine au (gM (Dp z.st.im z.st.aW ht fun h' hk=>?_));exact LQ ok hc hp k1 (z.go (z.st.keep (tk:=z.s.toks) hk)) (us:=us) hr hl fun z' l=>h z' ((Z.ez (aC.refl _) (aA.refl _)).trans l)
theorem aae{elts:List Expr}{xs:List Str}{is:List Nat}{kk:Nat}{et pos:Pos}{e:Expr}{pe:PE}(h:SE G O k cs e pe)(hn:namesOf elts=some xs)(hp:h9 cs is xs)(nd:is.Nodup)(hnc:oj e=true)
  (hw:∀ env:Env,env.scope=cs->swappedStores [.Tuple elts kk et] e env=pure none∨swappedStores [.Tuple elts kk et] e env=pure (some xs)) :
  SS G F O k cs (.Assign [.Tuple elts kk et] e pos) (.iE is pe):=fun c J lv z Q E rd kx=>by
 have Bb:swapsWithSole [.Tuple elts kk et] e pos.line c.env=pure false:=by
  show swapsWith e (some (.Tuple elts kk et)) pos.line c.env=pure false;exact rQ hnc _ _ _
 rcases hw c.env rd.cs with hw|hw
 ·refine Assign_Tuple ?_ Bb hw;refine fU kx (h c _ _ z _ _ rd) fun y aa v z1 l1 rv aL=>?_;refine Fq aL (P:=fun y=>ao G z1.I z1.U y v->_) (fun vs aL rv=>AG aL fun hl aL=>?_) rv;exact KU rd.ok rd.cs hn hp rv hl fun z' l=>aL .next z' l rfl
 ·refine Assign_Tuple_swapped ?_ Bb hw;refine fU kx (h c _ _ z _ _ rd) fun y aa v z1 l1 rv aL=>?_;refine Fq aL (P:=fun y=>ao G z1.I z1.U y v->_) (fun vs aL rv=>AG aL fun hl aL=>?_) rv;obtain⟨a,us,rfl,ht,hr⟩:=z1.tup rv;have hlen:us.toArray.size=xs.length:=by rw[<-hp.len,hl,ja,hr.length]
  rw[<-hlen];refine Dp z1.st.im z1.st.aW ht fun h' hk=>?_;rw[<-Mm nd hl]at aL;exact LQ rd.ok rd.cs hp.reverse (Td xs.reverse) (z1.go (z1.st.keep (tk:=z1.s.toks) hk)) (us:=us.reverse) hr.rev (by rw[IU,IU];exact hl) fun z2 l2=>aL .next z2 ((Z.ez (aC.refl _) (aA.refl _)).trans l2) rfl
theorem Z2(ht:ST G O k cs t pt)(hb:eg G F O k cs b pb):SS G F O k cs (.While t b [] pos) (.fP pt pb):=
 fun c J lv z Q E rd kx=>by
 refine wpAny_While ?_;refine codeAny_whileLoop (fun n s1=>∃ (aa:LC) (bA:LV) (z1:Z G c aa bA),s1=z1.s/\KX z1 (dH (fun lv=>dh O lv c.cv pt) (aD F O c.cv pb) n bA aa) Q E) ?_ F ⟨J,lv,z,rfl,kx⟩;intro n s1 cu;obtain⟨aa,bA,z1,rfl,aL⟩:=cu;cases n with
 |zero=>exact aL.elim
 |succ n=>
  refine fU aL (fun k=>ht c _ _ z1 _ _ rd (k.loop rd.ok)) fun r aj v z2 l2 rv eL=>?_;subst rv;cases v with
  |false=>exact pD eL.next'
  |true=>exact Oy eL (fun k=>hb c _ _ z2 _ _ rd (k.loop rd.ok)) (fun N3 bo z3 l3 gT=>⟨n,eQ n,bo,N3,z3,rfl,gT⟩) fun u s q=>q
end
section
set_option backward.match.sparseCases true
section
variable {G:GI}{F:Nat}{O:ay}{k:Nat}{cs:Scope}
def Dc(ls:Nat)(U aT:List Loc):Prop:=fz U aT/\∀ i<ls,aT[i]?=U[i]?
theorem Dc.le(h:Dc ls U aT)(h0:aA de U)(hl:de.length<=ls):aA de aT:=
 ⟨o_ h0.ad h.1,fun i a o e=>by
  rw[h.2 i (dN (aX.mp e).1 hl)];exact h0.raw i a o e⟩
structure nR{c:Cx}{J:LC}{lv:LV}(ls:Nat)(z z':Z G c J lv):Prop where
 im:aC z.I z'.I
 bl:Dc ls z.U z'.U
 sh:∃ h tk,z'.s={ z.s with heap:=h,toks:=tk }
theorem nR.le{c:Cx}{gc J:LC}{cW lv:LV}{ls:Nat}{z0:Z G c gc cW}{z z':Z G c J lv}(h:nR ls z z')(h0:z0.Le z)(hl:z0.U.length<=ls):z0.Le z':=
 ⟨h0.im.trans h.im,h.bl.le h0.loc hl,gR h0.sh h.sh⟩
def V1{G:GI}{c:Cx}{J:LC}{lv:LV}(z:Z G c J lv)(it:Value)(lu:Expr)(ls:Nat)(P:Im->List Loc->Prop)(v:V)(Q:Option Value->Shared->Prop)(E:VP):Prop:=
 ∀ u z',nR ls z z' ->
  (∀ (Q2:Unit->Shared->Prop),(∀ z2,nR ls z' z2->P z2.I z2.U->ao G z2.I z2.U v u->Q2 () z2.s)->wpAny G.M c.A (letOwnedTupleGo lu it u) Q2 E z'.s)->Q (some u) z'.s
structure nQ(G:GI)(it:Value)(nx:Nx)(lu:Expr)(c:Cx)(ls:Nat)(P:Nat->Im->List Loc->Prop):Prop where
 mono:∀ n I I' U aT,P n I U->aC I I'->aA U aT->P n I' aT
 done:∀ n J lv (z:Z G c J lv) (Q:Option Value->Shared->Prop) E,c.A.handled=none->P n z.I z.U->nx n J=some none ->
  (∀ z',nR ls z z'->Q none z'.s)->wpAny G.M c.A (pyNext it) Q E z.s
 turn:∀ n J lv (z:Z G c J lv) v (Q:Option Value->Shared->Prop) E,c.A.handled=none->P n z.I z.U->nx n J=some (some v) ->
  V1 z it lu ls (P (n+1)) v Q E->wpAny G.M c.A (pyNext it) Q E z.s
def tZ(G:GI)(cs:Scope)(t:Expr)(tg:Tg):Prop:=
 ∀ (c:Cx) J lv (z:Z G c J lv) v u (Q:Shared->Prop) E E',c.cs=cs->cx c->ao G z.I z.U v u->KX z (zF tg v lv J) (fun fl s=>fl=.next->Q s) E->wpAny G.M c.A (assign t c.env u) (fun _=>Q) E' z.s
theorem Lj(hi:cs.names[i]?=some (x,.local))(hx:cs.names.lookup x=some .local):tZ G cs (.Name x pos) (.one i):=fun c J lv z v u Q E E' hc ok rv kx=>
 tS (wI ok (by rw[hc];exact hi) (by rw[hc];exact hx) rv fun z' l=>Ox kx z' l rfl)
theorem adJ{c:Cx}{J J':LC}{lv aJ:LV}{z:Z G c J lv}{v:V}{f:V->V->Ex}{Q:Flow->Shared->Prop}{E:VP}{P:V->Prop}(kx:KX z (Nh v f aJ J') Q E)(h:∀ a b,KX z (f a b aJ J') Q E->P (.tup [a,b])):P v:=by
 refine Fq kx fun l kx=>?_;cases l with
 |nil=>exact kx.elim
 |cons a l=>cases l with
  |nil=>exact kx.elim
  |cons b l=>cases l with
   |nil=>exact h a b kx
   |cons _ _=>exact kx.elim
theorem Li{p1 p2 et:Pos}(hp:h9 cs [i,j] [x,y]):tZ G cs (.Tuple [.Name x p1,.Name y p2] kk et) (.two i j):=fun c J lv z v u Q E E' hc ok rv kx=>by
 refine adJ kx (P:=fun v=>ao G z.I z.U v u->_) (fun a b kx rv=>AG kx fun hl kx=>?_) rv;exact KU ok hc rfl hp rv rfl fun z' l=>kx .next z' l rfl rfl
theorem QP{c:Cx}{gc:LC}{cW:LV}{z0:Z G c gc cW}{t:Expr}{b:List Stmt}{it:Value}{nx:Nx}{tg:Tg}{pb:List PS}{ls:Nat}{P:Nat->Im->List Loc->Prop}{Q:Flow->Shared->Prop}{E:VP}
  (rd:Ready c k cs) (hh:c.A.handled=none) (hit:nQ G it nx t c ls P) (lT:tZ G cs t tg) (hb:eg G F O k cs b pb) (dU:z0.U.length<=ls)
  {aa:LC}{bA:LV}{z1:Z G c aa bA} (l1:z0.Le z1) (hP:P 0 z1.I z1.U) (kx:KX z0 (cR nx tg (aD F O c.cv pb) F 0 bA aa) Q E) :
  codeAny G.M c.A (.forLoop t it b [] c.env) (fun r s'=>match r with|.ok f=>Q f s'|.error e=>cameBackBy G.M c.A c.env E e s') z1.s:=by
 refine IQ (fun f s1=>∃ (n:Nat) (aj:LC) (fT:LV) (z2:Z G c aj fT),s1=z2.s/\z0.Le z2/\P n z2.I z2.U/\KX z0 (cR nx tg (aD F O c.cv pb) f n fT aj) Q E) ?_ F ⟨0,aa,bA,z1,rfl,l1,hP,kx⟩;intro f s1 cu;obtain⟨n,aj,fT,z2,rfl,l2,Qs,aL⟩:=cu;cases f with
 |zero=>exact aL.elim
 |succ f=>
  have aL:KX z0 (match nx n aj with|some (some v)=>Ex.seq (zF tg v) (Ex.seq (aD F O c.cv pb) (cR nx tg (aD F O c.cv pb) f (n+1))) fT aj|some none=>some (.ok .next,fT,aj)|none=>none) Q E:=aL;cases eB:nx n aj with
  |none=>rw[eB]at aL;exact aL.elim
  |some o=>
  rw[eB]at aL;cases o with
  |some v=>
   refine hit.turn n aj fT z2 v _ _ hh Qs eB fun u z3 b3 sZ=>sZ _ fun z4 b4 hP4 pZ=>?_;have l4:=b4.le (b3.le l2 dU) dU;refine Fs aL l4 (fun k=>lT c _ _ z4 v u _ _ _ rd.cs rd.ok pZ k) (fun lv5 ia z5 l5 kx5 _=>?_) (fun u s q e=>nomatch e);refine Fs kx5 (l4.trans l5) (fun k=>hb c _ _ z5 _ _ rd (k.loop rd.ok)) (fun lv6 cF z6 l6 kx6=>?_) fun u s q=>q;exact⟨f,eQ f,n+1,cF,lv6,z6,rfl,l4.trans (l5.trans l6),hit.mono _ _ _ _ _ hP4 (l5.trans l6).im (l5.trans l6).loc,kx6⟩
  |none=>exact hit.done n aj fT z2 _ _ hh Qs eB fun z3 b3=>pD (aL .next z3 (b3.le l2 dU) rfl)
theorem ab2(ho:s.heap.get? r=some o)(hc:o.cls=.type T)
  (hT:["enumerate","zip","dict_itemiterator","dict_reverseitemiterator","odict_iterator","itertools.zip_longest","itertools.pairwise"].contains T=false) (h:Q () s):wpAny M A (letOwnedTupleGo lu (.ref r) u) Q E s:=by
 unfold letOwnedTupleGo
 have key:wpAny M A (do
   let (.ref r,.ref a):=((Value.ref r:Value),u)|return
   let o <-load r
   match o.cls,o.data with
   |.type n,.fields vs=>
    if ["enumerate","zip","dict_itemiterator","dict_reverseitemiterator","odict_iterator","itertools.zip_longest","itertools.pairwise"].contains n&&vs[0]?==some (rawInt a) then
     rule "for.unpacks-the-owned-tuple"
     updateField r 0 .none
   |_,_=>pure ()) Q E s:=by
  cases u with
  |ref a=>
   refine au (wpAny_load ho ?_);rw[hc];cases o.data<;>first
    |(dsimp only;rw[hT];exact a_ h)
    |exact a_ h
  |_=>exact a_ h
 cases lu<;>first|exact a_ h|exact key
theorem Z.raw{c:Cx}{J:LC}{lv:LV}(z:Z G c J lv){i:Nat}{a:Addr}{o:Obj}(h:z.U[i]?=some (.raw a o)):z.s.heap.get? a=some o:=by
 have hi:i<J.length:=by rw[z.st.cells.1];exact(aX.mp h).1
 have hc:=z.st.cells.2 i _ _ h (dw hi);cases hy:J[i]<;>rw[hy]at hc<;>try exact False.elim hc
 exact hc.1
theorem Tq(h:ls<=i)(ha:fz U (U.set i l)):Dc ls U (U.set i l):=⟨ha,fun j hj=>by rw[bW (kf (dN hj h))]⟩
theorem xy{c:Cx}{J:LC}{lv:LV}{z:Z G c J lv}{ls ix:Nat}{it:Addr}{o:Obj}{h':Heap}{tk:Nat}{Q:Option Value->Shared->Prop}(dU:ls<=ix)(ba:c.de.length<=ix)(h1:z.U[ix]?=some (.raw it o))(he:∀ b p,b≠it->z.s.heap.get? b=some p->h'.get? b=some p)
  (h:∀ z',nR ls z z'->Q none z'.s):Q none { z.s with heap:=h',toks:=tk }:=
 let q:=z.st.Sy (tk:=tk) h1 he ba
 h (z.go q.1) ⟨aC.refl _,Tq dU q.2,_,_,rfl⟩
theorem AS{c:Cx}{J:LC}{lv:LV}{z:Z G c J lv}{ls ix:Nat}{it:Addr}{o o':Obj}{h':Heap}{tk:Nat}{T:String}{lu:Expr}{v:V}{u:Value}{P':Im->List Loc->Prop}{Q:Option Value->Shared->Prop}{E:VP}(dU:ls<=ix)(ba:c.de.length<=ix)(h1:z.U[ix]?=some (.raw it o))
  (hs:Heap.SameBut it z.s.heap h') (ho:h'.get? it=some o') (hc:o'.cls=.type T) (hT:(T=="traceback")=false) (hO:["enumerate","zip","dict_itemiterator","dict_reverseitemiterator","odict_iterator","itertools.zip_longest","itertools.pairwise"].contains T=false) (rv:ao G z.I z.U v u)
  (hP:(z.U.set ix (.raw it o'))[ix]?=some (.raw it o')->fz z.U (z.U.set ix (.raw it o'))->P' z.I (z.U.set ix (.raw it o')))
  (h:V1 z (.ref it) lu ls P' v Q E):Q (some u) { z.s with heap:=h',toks:=tk }:=by
 obtain⟨s1,s2⟩:=z.st.uA (tk:=tk) h1 hs ho (.of (by rw[hc];intro e;cases e;cases hT)) ba;refine h u (z.go s1) ⟨aC.refl _,Tq dU s2,_,_,rfl⟩ fun Q2 hq=>ab2 ho hc hO ?_;exact hq (z.go s1) ⟨aC.refl _,⟨yW _,fun _ _=>rfl⟩,_,_,rfl⟩ (hP (d0 (aX.mp h1).1) s2) (rv.cV (aC.refl _) s2)
theorem GF{I:Im}{U:List Loc}{l:List V}{vs:List Value}{n:Nat}(r:av G I U l vs)(h:l[n]?=none):vs.toArray[n]?=none:=by
 rw[IP,pC,r.length];exact pC.mp h
theorem Nw(h:iQ j n J=some v):∃ xs,J[j]?=some (.lst xs)/\v=xs[n]?:=by
 have h:(match J[j]?.bind i9 with|some l=>if short l then some l[n]? else none|none=>none)=some v:=h;cases hq:J[j]?.bind i9 with
 |none=>rw[hq]at h;cases h
 |some xs=>
  rw[hq]at h;obtain⟨x,hx,h2⟩:=yN hq;by_cases hs:short xs=true
  ·exact⟨xs,Ci h2▸hx,(aU ((if_pos hs).symm.trans h)).symm⟩
  ·exact ck ((if_neg hs).symm.trans h)
inductive PL(it l:Addr)(ix j:Nat)(n:Nat)(I:Im)(U:List Loc):Prop
 |mk (o lo:_) (h1:U[ix]?=some (.raw it o)) (h2:o.cls=.type "list_iterator") (h3:o.data=.fields #[.ref l,.int (n:Int) 0]) (h4:U[j]?=some lo) (h5:lo.addr=l)
theorem OQ(aY:j≠ix)(dU:ls<=ix)(ba:c.de.length<=ix):nQ G (.ref it) (iQ j) lu c ls (PL it l ix j) where
 mono n I I' U aT:=fun cu hI hp=>by
  obtain⟨o,lo,h1,h2,h3,h4,h5⟩:=cu;obtain⟨Ff,g1,g2⟩:=hp.get h4;exact⟨o,Ff,hp.raw _ _ _ h1,h2,h3,g1,g2.trans h5⟩
 done n J lv z Q E hh hP hn h:=by
  obtain⟨o,lo,h1,h2,h3,h4,rfl⟩:=hP;obtain⟨xs,hx,hn⟩:=Nw hn;obtain⟨a,vs,m,e,hl⟩:=z.lst (v:=.ref lo.addr) hx (Exists.intro lo ⟨h4,rfl⟩);cases e;refine wpAny_pyNext_list_end hh ⟨o,z.raw h1,h2,h3⟩ hl.is (GF hl.rs hn.symm) fun h' he=>xy dU ba h1 he h
 turn n J lv z v Q E hh hP hn h:=by
  obtain⟨o,lo,h1,h2,h3,h4,rfl⟩:=hP;obtain⟨xs,hx,hn⟩:=Nw hn;obtain⟨a,vs,m,e,hl⟩:=z.lst (v:=.ref lo.addr) hx (Exists.intro lo ⟨h4,rfl⟩);cases e;have aP:n<vs.length:=by rw[hl.rs.length];exact(aX.mp hn.symm).1
  obtain⟨y,e1,ry⟩:=hl.rs.get aP;rw[<-hn]at e1;cases e1;refine wpAny_pyNext_list_item (x:=vs[n]) ⟨o,z.raw h1,h2,h3⟩ hl.is (by simp[aP]) fun h' jY hs=>?_;obtain⟨o',q1,q2,q3⟩:=jY;exact AS (tk:=z.s.toks) (P':=PL it lo.addr ix j (n+1)) dU ba h1 hs q1 q2 ⋯ ⋯ ry (fun g _=>⟨o',lo,g,q2,q3,by rw[bW (nO aY)];exact h4,rfl⟩) h
inductive PT(G:GI)(it t:Addr)(ix:Nat)(vs:List V)(n:Nat)(I:Im)(U:List Loc):Prop
 |mk (o us:_) (h1:U[ix]?=some (.raw it o)) (h2:o.cls=.type "tuple_iterator") (h3:o.data=.fields #[.ref t,.int (n:Int) 0]) (h4:mu I t us) (h5:av G I U vs us)
theorem OO(dU:ls<=ix)(ba:c.de.length<=ix):nQ G (.ref it) (oh vs) lu c ls (PT G it t ix vs) where
 mono n I I' U aT:=fun cu hI hp=>by obtain⟨o,us,h1,h2,h3,h4,h5⟩:=cu;exact⟨o,us,hp.raw _ _ _ h1,h2,h3,h4.mono hI,h5.mono hI hp⟩
 done n J lv z Q E hh hP hn h:=by
  obtain⟨o,us,h1,h2,h3,ht,h5⟩:=hP;refine next_tuple_end hh ⟨o,z.raw h1,h2,h3⟩ (fJ z.st.im ht) ?_ fun h' he=>xy dU ba h1 he h;exact GF h5 (aU hn)
 turn n J lv z v Q E hh hP hn h:=by
  obtain⟨o,us,h1,h2,h3,ht,h5⟩:=hP;have hn:vs[n]?=some v:=aU hn;have aP:n<us.length:=by rw[h5.length];exact(aX.mp hn).1
  obtain⟨y,e1,ry⟩:=h5.get aP;rw[hn]at e1;cases e1;refine next_tuple_item (x:=us[n]) ⟨o,z.raw h1,h2,h3⟩ (fJ z.st.im ht) (by simp[aP]) fun h' jY hs=>?_;obtain⟨o',g1,g2,g3⟩:=jY;exact AS (tk:=z.s.toks) (P':=PT G it t ix vs (n+1)) dU ba h1 hs g1 g2 ⋯ ⋯ ry (fun g s2=>⟨o',us,g,g2,g3,ht,h5.cV (aC.refl _) s2⟩) h
inductive V5(it:Addr)(ix:Nat)(l:List Nat)(t:Tok)(n:Nat)(I:Im)(U:List Loc):Prop
 |mk (o:_) (h1:U[ix]?=some (.raw it o)) (h2:o.cls=.type "str_ascii_iterator") (h3:o.data=.fields #[.str (S l) t,.int (n:Int) 0])
theorem adZ(dU:ls<=ix)(ba:c.de.length<=ix):nQ G (.ref it) (oh (l.map fun c=>V.str [c])) lu c ls (V5 it ix l t) where
 mono n I I' U aT:=fun cu hI hp=>by obtain⟨o,h1,h2,h3⟩:=cu;exact⟨o,hp.raw _ _ _ h1,h2,h3⟩
 done n J lv z Q E hh hP hn h:=by
  obtain⟨o,h1,h2,h3⟩:=hP;have hn:=aU hn;rw[eS,IM]at hn;exact wpAny_pyNext_ascii_end hh ⟨o,z.raw h1,h2,h3⟩ (by simpa using hn) fun h' he=>xy dU ba h1 he h
 turn n J lv z v Q E hh hP hn h:=by
  obtain⟨o,h1,h2,h3⟩:=hP;have hn:=aU hn;rw[eS]at hn;obtain⟨d,hd,rfl⟩:=eO.mp hn;refine wpAny_pyNext_ascii_item (c:=d) ⟨o,z.raw h1,h2,h3⟩ (by simpa using hd) fun h' jY hs=>?_;obtain⟨o',g1,g2,g3⟩:=jY;exact AS (P':=V5 it ix l t (n+1)) dU ba h1 hs g1 g2 ⋯ ⋯ (show ao _ _ _ (V.str _) _ from Exists.intro _ rfl) (fun g _=>⟨o',g,g2,g3⟩) h
def PR(it:Addr)(ix:Nat)(a:Int)(m:Nat)(n:Nat)(I:Im)(U:List Loc):Prop:=n<=m/\U[ix]?=some (.raw it { cls:=.type "range_iterator",dict:=none,data:=.fields #[rawInt (a+(n:Int)),rawInt ((m:Int)-n),rawInt 1],slots:=#[] })
theorem OP(dU:ls<=ix)(ba:c.de.length<=ix):nQ G (.ref it) (oh ((List.range m).map fun (n:Nat)=>V.int (a+(n:Int)))) lu c ls (PR it ix a m) where
 mono n I I' U aT:=fun cu hI hp=>by obtain⟨h0,h1⟩:=cu;exact⟨h0,hp.raw _ _ _ h1⟩
 done n J lv z Q E hh hP hn h:=by
  obtain⟨h0,h1⟩:=hP;have hn:=aU hn;rw[eS,IM,pC,IL]at hn;exact wpAny_pyNext_range_end hh (z.raw h1) (by lia) fun h' he=>xy dU ba h1 he h
 turn n J lv z v Q E hh hP hn h:=by
  obtain⟨h0,h1⟩:=hP;have hn:=aU hn;rw[eS]at hn;obtain⟨d,hd,rfl⟩:=eO.mp hn;obtain⟨aP,j0⟩:=aX.mp hd;rw[Vz]at j0;subst j0;rw[IL]at aP;refine wpAny_pyNext_range_item (z.raw h1) (by lia) fun h' jY hs=>?_;refine AS (P':=PR it ix a m (n+1)) dU ba h1 hs jY rfl ⋯ ⋯ (show ao _ _ _ (V.int _) _ from Exists.intro _ rfl) (fun g _=>⟨aP,?_⟩) h
  rw[g,Int.natCast_succ,<-Int.add_assoc,<-Int.sub_sub]
theorem Ft{c:Cx}{gc:LC}{cW:LV}{z0:Z G c gc cW}{J:LC}{lv:LV}{z:Z G c J lv}{j:Nat}{f:Ex}{Q:Flow->Shared->Prop}{E:VP}{v:Value}{P:Value->Prop}(kx:KX z0 (jR j f lv J) Q E)(rv:ao G z.I z.U (.ref j) v)(h:∀ xs a vs n,LstAt z j xs a vs n->KX z0 (f lv J) Q E->P (.ref a)):P v:=by
 have kx:KX z0 (match J[j]?.bind i9 with|some _=>f lv J|none=>none) Q E:=kx;cases hq:J[j]?.bind i9 with
 |none=>rw[hq]at kx;exact kx.elim
 |some xs=>
  rw[hq]at kx;obtain⟨x,hx,h2⟩:=yN hq;obtain⟨a,vs,n,rfl,q⟩:=z.lst (Ci h2▸hx) rv;exact h xs a vs n q kx
theorem sH{P:Prop}(kx:KX z0 (iz b f lv J) Q E)(h:b=true->KX z0 (f lv J) Q E->P):P:=by
 cases b with
 |true=>exact h rfl kx
 |false=>exact kx.elim
theorem AH{c:Cx}{gc:LC}{cW:LV}{z0:Z G c gc cW}{J:LC}{lv:LV}{v:V}{f:Nat->Ex}{Q:Flow->Shared->Prop}{E:VP}{P:V->Prop}(kx:KX z0 (jO v f lv J) Q E)(h:∀ i,KX z0 (f i lv J) Q E->P (.ref i)):P v:=by
 have kx:KX z0 ((match yP v with|some j=>f j|none=>Ex.fail) lv J) Q E:=kx;cases hv:yP v with
 |none=>rw[hv]at kx;exact kx.elim
 |some i=>rw[hv]at kx;rw[H_ hv];exact h _ kx
theorem Oz{c:Cx}{gc:LC}{cW:LV}{z0:Z G c gc cW}{J:LC}{lv:LV}{I:Im}{U:List Loc}{x:V}{v:Value}{f:Int->Ex}{Q:Flow->Shared->Prop}{E:VP}{P:Value->Prop}(kx:KX z0 (xC x f lv J) Q E)(rv:ao G I U x v)(h:∀ i t,KX z0 (f i lv J) Q E->P (.int i t)):P v:=by
 have kx:KX z0 ((match tF x with|some i=>f i|none=>Ex.fail) lv J) Q E:=kx;cases hv:tF x with
 |none=>rw[hv]at kx;exact kx.elim
 |some i=>rw[hv]at kx;rw[Ia hv]at rv;obtain⟨t,rfl⟩:=rv;exact h _ t kx
theorem yi{c:Cx}{J:LC}{lv:LV}{z:Z G c J lv}{t:Expr}{b:List Stmt}{o:Obj}{nx:Nx}{tg:Tg}{pb:List PS}{P:Nat->Im->List Loc->Prop}{Q:Flow->Shared->Prop}{E:VP}(rd:Ready c k cs)(hk:0<k)(hf:o.isFreed=false)(hc:o.cls≠.type "traceback")
  (hit:nQ G (.ref z.s.heap.objs.size) nx t c z.U.length P) (lT:tZ G cs t tg) (hb:eg G F O k cs b pb) (hP:(z.U++[.raw z.s.heap.objs.size o])[z.U.length]?=some (.raw z.s.heap.objs.size o)->P 0 z.I (z.U++[.raw z.s.heap.objs.size o]))
  (kx:KX z (jm 1 (cR nx tg (aD F O c.cv pb) F 0) lv J) Q E) {tk:Nat}:codeAny G.M c.A (.forLoop t (.ref z.s.heap.objs.size) b [] c.env) (fun r s'=>match r with|.ok f=>Q f s'|.error e=>cameBackBy G.M c.A c.env E e s') { z.s with heap:=z.s.heap.push o,toks:=tk }:=
 QP (z1:=z.go (z.st.EX (tk:=tk) hf hc)) rd (rd.rm.2.2 hk) hit lT hb (aG _) (Z.ez (aC.refl _) (aA.app _ _)) (hP bx) kx
theorem aac(h:SE G O k cs e pe)(lT:tZ G cs x (.one i))(hb:eg G F O k cs b pb)(hs:∀ env v,foldedSetIterable e env v=pure v)(hk:0<k) :
  SS G F O k cs (.For x e b [] pos) (.oW i pe pb):=fun c J lv z Q E rd kx=>by
 refine v_ ?_ (hs _);refine fU kx (h c _ _ z _ _ rd) fun v aa u z1 l1 rv aL=>?_;cases v with
 |ref j=>
  refine Ft (z:=z1) aL rv (P:=fun u=>wpAny G.M c.A (pyIter u) _ E z1.s) fun xs a vs n hl aL=>IK hl.is ?_;have hj:=(aX.mp hl.gV).1;exact yi (o:={ cls:=.type "list_iterator",data:=.fields #[.ref a,.int 0 0] }) rd hk rfl (by simp) (OQ (l:=a) (j:=j) (dG hj) (aG _) z1.st.pre.len) lT hb (fun g=>⟨_,_,g,rfl,rfl,by rw[dp hj];exact hl.gV,rfl⟩) aL
 |tup vs=>
  have rv0:=rv;obtain⟨a,us,rfl,ht,hr⟩:=rv0;refine iter_tuple (fJ z1.st.im ht) ?_;exact yi (o:={ cls:=.type "tuple_iterator",data:=.fields #[.ref a,.int 0 0] }) rd hk rfl (by simp) (OO (t:=a) (vs:=vs) (aG _) z1.st.pre.len) lT hb (fun g=>⟨_,us,g,rfl,rfl,ht,hr.mono (aC.refl _) (aA.app _ _)⟩) aL
 |str l=>
  obtain⟨t,rfl⟩:=rv;refine sH aL fun ae3 aL=>wpAny_pyIter_ascii (by rw[<-ae3];simp) ?_;exact yi (o:={ cls:=.type "str_ascii_iterator",data:=.fields #[.str (S l) t,.int 0 0] }) rd hk rfl (by simp) (adZ (l:=l) (t:=t) (aG _) z1.st.pre.len) lT hb (fun g=>⟨_,g,rfl,rfl⟩) aL
 |_=>exact aL.elim
theorem aaa(h:SE G O k cs e pe)(lT:tZ G cs x (.two i i2))(hb:eg G F O k cs b pb)(hs:∀ env v,foldedSetIterable e env v=pure v)(hk:0<k) :
  SS G F O k cs (.For x e b [] pos) (.ti i i2 pe pb):=fun c J lv z Q E rd kx=>by
 refine v_ ?_ (hs _);refine fU kx (h c _ _ z _ _ rd) fun v aa u z1 l1 rv aL=>?_;refine AH aL (P:=fun v=>ao G z1.I z1.U v u->_) (fun j aL rv=>?_) rv;refine Ft (z:=z1) aL rv (P:=fun u=>wpAny G.M c.A (pyIter u) _ E z1.s) fun xs a vs n hl aL=>IK hl.is ?_;have hj:=(aX.mp hl.gV).1;exact yi (o:={ cls:=.type "list_iterator",data:=.fields #[.ref a,.int 0 0] }) rd hk rfl (by simp) (OQ (l:=a) (j:=j) (dG hj) (aG _) z1.st.pre.len) lT hb (fun g=>⟨_,_,g,rfl,rfl,by rw[dp hj];exact hl.gV,rfl⟩) aL
end
end
structure rF(K:Frag):Prop where
 base:mroIn K d_ (.type "BaseException")=some true
 acN:typeIn K (.ref d_)=some (.type "type")
 self:exmOne K (.ref d_) (.ref d_)=some true
section
variable {G:GI}{F:Nat}{O:ay}{k:Nat}{cs:Scope}
theorem AA(M:Model)(h:Heap)(T:String):∃ kp,(kp=Keeper.frame∨kp=Keeper.machine∨kp=Keeper.boundFrame)/\Looks M h (keeperOf (.type T)) kp:=⟨.machine,.inr (.inl rfl),zf rfl⟩
def t7(K:Frag)(cs:Scope)(x:Str)(v:Value):Prop:=nsIn K mainGlobals x=some none/\bootBuiltins x=some v/\x≠Str.ofString "__name__"/\cs.names.lookup x=some .globalImplicit/\(x==Str.ofString "__debug__")=false
abbrev TypeName(K:Frag)(cs:Scope)(x:Str)(T:String):Prop:=t7 K cs x (.type T)
theorem uf{x:Str}{v:Value}{p:Pos}{c:Cx}{J:LC}{lv:LV}{z:Z G c J lv}{E:VP}{Q:VP}(g:bH G)(hT:t7 G.K cs x v)(hc:c.cs=cs)(ok:cx c)
  (h:Q v z.s):wpAny G.M c.A (eval (.Name x p) c.env) Q E z.s:=by
 obtain⟨h1,h2,h3,h4,h5⟩:=hT;obtain⟨loose,mg,mb,TR⟩:=g.top;obtain⟨m,Fm,hl⟩:=z.st.frame;exact nameX_B Fm g.K TR h1 h2 h3 h ok.kind (by rw[Env.kindOf];show c.cs.names.lookup x=_;rw[hc,h4]) h5
theorem MY(h1:a<=b):#[rawInt a,rawInt (Builtin.Range.rangeSize a b 1),rawInt 1]=#[rawInt (a+((0:Nat):Int)),rawInt (((b-a).toNat:Nat)-((0:Nat):Int)),rawInt 1]:=by
 rw[rangeSize_one,I5 (Int.sub_nonneg_of_le h1),Int.natCast_zero,Int.add_zero,Int.sub_zero];split
 ·rfl
 ·rw[show b-a=0 by lia]
theorem Z_{x:Expr}{nm:Str}{np Hx pos:Pos}{lo hi:Expr}{b:List Stmt}{pl ph:PE}{i:Nat}{pb:List PS}(g:bH G)(hT:TypeName G.K cs nm "range")(cQ:SE G O k cs lo pl)(hhi:SE G O k cs hi ph)(h1:eH lo=true)(h2:eH hi=true)
  (lT:tZ G cs x (.one i)) (hb:eg G F O k cs b pb) (hk:0<k) :
  SS G F O k cs (.For x (.Call (.Name nm np) [lo,hi] [] Hx) b [] pos) (.forR i pl ph pb):=fun c J lv z Q E rd kx=>by
 refine v_ (au (uf g hT rd.cs rd.ok (nH (by rw[o8,h1,o8,h2];rfl) ?_))) (fun v=>rfl);refine ka ?_ (gQ h1);refine fU kx (cQ c _ _ z _ _ rd) fun y aa v z1 l1 rv aL=>?_;refine ka ?_ (gQ h2);refine fU aL (hhi c _ _ z1 _ _ rd) fun y' aj u z2 l2 ru eL=>?_;refine nJ ⟨AA _ _ _,?_⟩
 refine Oz eL (l2.rep rv) (P:=fun v=>wpAny G.M c.A (call (.type "range") ([]++[v,u])) _ E z2.s) fun a t eL=>?_;refine Oz eL ru (P:=fun u=>wpAny G.M c.A (call (.type "range") ([]++[_,u])) _ E z2.s) fun b' t' eL=>sH eL fun xZ eL=>?_;have xZ:=of_decide_eq_true xZ;refine call_range_2 ?_;refine wpAny_pyIter_range (IsRange.new ..) (small_one (by lia) (by lia) (by lia) (by lia)) ?_;have z3:Z G c aj lv:=z2.go (tk:=z2.s.toks+1) (z2.st.keep (h':=z2.s.heap.push { cls:=.type "range",data:=.fields #[.int a t,.int b' t',.int 1 z2.s.toks] }) fun _ _ e=>bD _ e)
 rw[MY xZ.2.1];exact yi (z:=z2.go (tk:=z2.s.toks+1) (z2.st.keep (h':=z2.s.heap.push { cls:=.type "range",data:=.fields #[.int a t,.int b' t',.int 1 z2.s.toks] }) fun _ _ e=>bD _ e)) rd hk rfl (by simp)
  (OP (a:=a) (m:=(b'-a).toNat) (aG _) z2.st.pre.len) lT hb (fun g=>⟨dc _,g⟩) (eL.shift (Z.ez (aC.refl _) (aA.refl _)))
noncomputable abbrev nD(v:Value)(it:Addr)(i:Int)(old:Value):Obj:={ cls:=.type "enumerate",dict:=none,data:=.fields #[v,.bool false,.ref it,rawInt i,.none,old],slots:=#[] }
inductive wi(e it l:Addr)(ix j:Nat)(n:Nat)(I:Im)(U:List Loc):Prop
 |mk (o lo old:_) (h1:U[ix]?=some (.raw it o)) (h2:o.cls=.type "list_iterator") (h3:o.data=.fields #[.ref l,.int (n:Int) 0]) (h4:U[j]?=some lo) (h5:lo.addr=l) (h6:U[ix+1]?=some (.raw e (nD .none it n old)))
theorem aa9{c:Cx}{J:LC}{lv:LV}(z:Z G c J lv){i j:Nat}{a b:Addr}{o p:Obj}(h1:z.U[i]?=some (.raw a o))(h2:z.U[j]?=some (.raw b p))(dJ:i≠j):a≠b:=fun q=>
 dJ (oi (a:=a) z.st.om h1 h2 (by simp[Loc.aK]) (by rw[q];simp[Loc.aK]))
theorem Ny(h:eI j n J=some v):∃ xs,J[j]?=some (.lst xs)/\v=xs[n]?.map fun v=>V.tup [.int n,v]:=by
 have h:(match J[j]?.bind i9 with|some l=>if short l then some ((l[n]?).map fun v=>V.tup [.int n,v]) else none|none=>none)=some v:=h;cases hq:J[j]?.bind i9 with
 |none=>rw[hq]at h;cases h
 |some xs=>
  rw[hq]at h;obtain⟨x,hx,h2⟩:=yN hq;by_cases hs:short xs=true
  ·exact⟨xs,Ci h2▸hx,(aU ((if_pos hs).symm.trans h)).symm⟩
  ·exact ck ((if_neg hs).symm.trans h)
theorem OS{p1 p2 et:Pos}(aY:j<ix)(dU:ls<=ix)(ba:c.de.length<=ix) :
  nQ G (.ref e) (eI j) (.Tuple [.Name x p1,.Name y p2] kk et) c ls (wi e it l ix j) where
 mono n I I' U aT:=fun cu hI hp=>by
  obtain⟨o,lo,old,h1,h2,h3,h4,h5,h6⟩:=cu;obtain⟨Ff,g1,g2⟩:=hp.get h4;exact⟨o,Ff,old,hp.raw _ _ _ h1,h2,h3,g1,g2.trans h5,hp.raw _ _ _ h6⟩
 done n J lv z Q E hh hP hn h:=by
  obtain⟨o,lo,old,h1,h2,h3,h4,rfl,h6⟩:=hP;obtain⟨xs,hx,hn⟩:=Ny hn;obtain⟨a,vs,m,q,hl⟩:=z.lst (v:=.ref lo.addr) hx (Exists.intro lo ⟨h4,rfl⟩);cases q;exact wpAny_pyNext_enum_end hh (z.raw h6) ⟨o,z.raw h1,h2,h3⟩ hl.is (GF hl.rs (IM.mp hn.symm)) fun h' he=>xy dU ba h1 he h
 turn n J lv z v Q E hh hP hn h:=by
  obtain⟨o,lo,old,h1,h2,h3,h4,rfl,h6⟩:=hP;obtain⟨xs,hx,hn⟩:=Ny hn;obtain⟨y,hz,rfl⟩:=eO.mp hn.symm;obtain⟨a,vs,m,q,hl⟩:=z.lst (v:=.ref lo.addr) hx (Exists.intro lo ⟨h4,rfl⟩);cases q;have aP:n<vs.length:=by rw[hl.rs.length];exact(aX.mp hz).1
  obtain⟨z',e1,rz⟩:=hl.rs.get aP;rw[hz]at e1;cases e1;have u6:ix≠ix+1:=(IJ ix).symm;have A5:ix≠j:=kf aY;have Pg:ix+1≠j:=kf (pA aY);refine wpAny_pyNext_enum_item (x:=vs[n]) (z.raw h6) ⟨o,z.raw h1,h2,h3⟩ hl.is (by simp[aP]) (aa9 z h6 h1 u6.symm) fun h' dK jY nj hsz hk=>?_;obtain⟨o',q1,q2,q3⟩:=jY;have jw:=(aX.mp h1).1
  have PX:=(aX.mp h6).1;have u1:=kc (h:=z.s.heap) (a:=it) (fun _=>o') (z.raw h1) (Heap.get?_some_iff.mp q1).2;obtain⟨s1,l1⟩:=z.st.uA (tk:=z.s.toks+1) h1 (tV z.s.heap it fun _=>o') u1 (.of (by rw[q2];simp)) ba;have QC:(z.U.set ix (.raw it o'))[ix+1]?=some (.raw e (nD .none it n old)):=by rw[bW u6];exact h6
  generalize kL:nD (rawInt z.s.heap.objs.size) it ((n:Int)+1) vs[n]=en;have jZ:h'.get? e=some en:=by rw[<-kL];exact dK
  have dm:en.cls=.type "enumerate":=by rw[<-kL]
  have gY:en.isFreed=false:=by rw[<-kL];rfl
  have u2:=kc (h:=z.s.heap.update it fun _=>o') (a:=e) (fun _=>en) ((z.go s1).raw QC) gY;obtain⟨s2,l2⟩:=s1.uA (tk:=z.s.toks+1) QC (tV (z.s.heap.update it fun _=>o') e fun _=>en) u2 (.of (by rw[dm];simp)) (jG ba);have kk:∀ b p,((z.s.heap.update it fun _=>o').update e fun _=>en).get? b=some p->h'.get? b=some p:=by
   intro b p hb;by_cases b1:b=e
   ·rw[b1,u2]at hb;rw[b1,<-aU hb];exact jZ
   ·rw[dq _ _ _ _ b1]at hb;by_cases b2:b=it
    ·rw[b2,u1]at hb;rw[b2,<-aU hb];exact q1
    ·rw[dq _ _ _ _ b2]at hb;exact hk b p b1 b2 hb
  have s3:=s2.keep (tk:=z.s.toks+1) kk;have hIn:z.I z.s.heap.objs.size=none:=z.st.new.1;have aeE:z.s.heap.objs.size∉owned c ((z.U.set ix (.raw it o')).set (ix+1) (.raw e en)):=by
   intro hm;have:=s2.lt hm;simp only[Heap.size_after_update]at this;exact iG _ this
  have s4:=s3.ra hIn nj aeE (by simp);have lA:fz z.U ((z.U.set ix (.raw it o')).set (ix+1) (.raw e en)):=o_ l1 l2;have rv':ao G (upd z.I z.s.heap.objs.size { cls:=.type "tuple",data:=.seq #[.int n z.s.toks,vs[n]] }) ((z.U.set ix (.raw it o')).set (ix+1) (.raw e en)) (.tup [.int n,y]) (.ref z.s.heap.objs.size):=by
   refine Exists.intro _ ⟨[.int n z.s.toks,vs[n]],rfl,⟨_,_,jM _ _ _,rfl,rfl⟩,?_⟩;exact Exists.intro _ ⟨_,rfl,Exists.intro _ rfl,Exists.intro _ ⟨_,rfl,rz.cV (fe hIn) lA,rfl⟩⟩
  refine h _ (z.go s4) ⟨fe hIn,(⟨lA,fun i hi=>by rw[bW (by lia),bW (by lia)]⟩),_,_,rfl⟩ fun Q2 hq=>?_;subst kL;refine wpAny_letOwnedTupleGo_enum dK fun h2 jZ gw=>?_;have h7:((z.U.set ix (.raw it o')).set (ix+1) (.raw e (nD (rawInt z.s.heap.objs.size) it ((n:Int)+1) vs[n])))[ix+1]?=some (.raw e (nD (rawInt z.s.heap.objs.size) it ((n:Int)+1) vs[n])):=d0 (by rw[ef];exact PX)
  obtain⟨s5,l5⟩:=s4.uA (tk:=z.s.toks+1) h7 gw jZ (.of (by simp)) (jG ba);refine hq ((z.go s4).go (h:=h2) (tk:=z.s.toks+1) s5) ⟨aC.refl _,⟨l5,fun i hi=>by rw[bW (by lia)]⟩,_,_,rfl⟩ ?_ (rv'.cV (aC.refl _) l5);refine⟨o',lo,vs[n],?_,q2,q3,?_,rfl,?_⟩
  ·rw[bW u6.symm,bW u6.symm,d0 jw]
  ·rw[bW Pg,bW Pg,bW A5];exact h4
  ·rw[d0 (by rw[ef,ef];exact PX)];rfl
theorem St.MX(x:St G c I U J lv s)(ho:s.heap.get? a=some o)(hc:o.cls≠.type "traceback")(hn:a∉owned c U)(hI:I a=none):St G c I (U++[.raw a o]) (J++[.raw]) lv s:=by
 refine x.grow (x.lL (by simp[Loc.aK]) fun b hb=>?_) (fun b hb=>?_) ⟨ho,.of hc⟩ rfl
 ·simp only[Loc.aK,b_]at hb;subst hb;exact hn
 ·simp only[Loc.aK,b_]at hb;subst hb;exact hI
theorem aab{p1 p2 et np Hx pos:Pos}(g:bH G)(hT:TypeName G.K cs nm "enumerate")(he:SE G O k cs e pe)(hu:eH e=true)
  (hp:h9 cs [i,i2] [x,y]) (hb:eg G F O k cs b pb) (hk:0<k) :
  SS G F O k cs (.For (.Tuple [.Name x p1,.Name y p2] kk et) (.Call (.Name nm np) [e] [] Hx) b [] pos) (.qI i i2 pe pb):=fun c J lv z Q E rd kx=>by
 refine v_ (au (uf g hT rd.cs rd.ok (nH (by rw[o8,hu];rfl) ?_))) (fun v=>rfl);refine ka ?_ (gQ hu);refine fU kx (he c _ _ z _ _ rd) fun v aa u z1 l1 rv aL=>?_;refine nJ ⟨AA _ _ _,?_⟩;refine AH aL (P:=fun v=>ao G z1.I z1.U v u->_) (fun j aL rv=>?_) rv;refine Ft (z:=z1) aL rv (P:=fun u=>wpAny G.M c.A (call (.type "enumerate") ([]++[u])) _ E z1.s) fun xs a vs m hl aL=>?_
 refine call_enumerate_1 hl.ho fun h' dK jY hsz F9=>?_;refine II dK ?_;obtain⟨o,q1,q2,q3⟩:=jY;have dQ:=z1.st.keep (tk:=z1.s.toks) F9;have n2:z1.s.heap.objs.size+1∉owned c z1.U:=fun hm=>absurd (z1.st.lt hm) (fG.mpr (i_ _));have um:=dQ.MX q1 (by rw[q2];simp) z1.st.new.2 z1.st.new.1
 have rU:=um.MX (a:=z1.s.heap.objs.size+1) dK (by simp) (by
  rw[EF];intro hm;rcases hU.mp hm with hm|hm
  ·exact n2 hm
  ·simp only[Loc.aK,b_]at hm;exact absurd hm (IJ _)) (z1.st.mX (i_ _))
 have PW:j<z1.U.length:=(aX.mp hl.gV).1;have aL:KX z1 (cR (eI j) (.two i i2) (aD F O c.cv pb) F 0 lv (aa++[.raw]++[.raw])) Q E:=by rw[aH];exact aL
 refine QP (z0:=z1) (z1:=z1.go rU) (ls:=z1.U.length) rd (rd.rm.2.2 hk) (OS (l:=a) (it:=z1.s.heap.objs.size) (ix:=z1.U.length) (j:=j) PW (aG _) z1.st.pre.len) (Li hp) hb (aG _) (Z.ez (aC.refl _) ((aA.app _ _).trans (aA.app _ _)))
  ⟨o,.lst a,.none,?_,q2,q3,?_,rfl,?_⟩ aL
 ·rw[dp (by simp),bx]
 ·rw[dp (by simp;lia),dp PW];exact hl.gV
 ·rw[iF (by simp)];simp
theorem afP(h1:h.get? e=some oe)(h2:oe.data=.fields vs):Looks M h (isType (.ref e)) false:=by
 intro A Q E s k q;unfold isType;refine au (wpAny_loadPart (k _ _ h1) ?_);rw[h2];exact a_ q
theorem RY(h1:h.get? e=some oe)(h2:oe.cls=.ref d_):Looks M h (typeOf (.ref e)) (.ref d_):=h2▸(Looks.ld h1).andThen .now
theorem M1{c:Cx}{J:LC}{lv:LV}{z:Z G c J lv}{E:VP}{Q:Flow->Shared->Prop}{env:Env}{i:Nat}{e:Addr}(g:bH G)(eo:rF G.K)(ok:cx c)(hl:z.U[i]?=some (.exc e))
  (fin:∀ (z':Z G c J lv),z.Le z'->eT z' i (.ref e)->wpAny G.M c.A (raiseNew (.ref e):Sem Flow) Q E z'.s) :
  wpAny G.M c.A (raiseStmt env (some (pure (.ref e))) none) Q E z.s:=by
 obtain⟨dB,oe,vs,a0,v1,v2,he,fm,hd,h0,h1,iw,h2,nq⟩:=z.st.exc hl;have hk:=z.sI g;have LT:=RY (M:=G.M) he fm;have LN:=afP (M:=G.M) he hd;have LI:Looks G.M z.s.heap (isInstance (.ref e) (.type "BaseException")) true:=LT.andThen (looks_mroIn hk eo.base);have LC:Looks G.M z.s.heap (isExcClass (.ref e)) false:=by
  intro A' Q' E' s' k' q;unfold isExcClass;refine au ((LN.keeps k').here ?_);rw[if_neg k6];exact a_ q
 have LF:Looks G.M z.s.heap (excFromValue (.ref e) "exceptions must derive from BaseException") (.ref e):=by
  intro A' Q' E' s' k' q;unfold excFromValue;refine au ((LC.keeps k').here ?_);rw[if_neg k6];refine au ((LI.keeps k').here ?_);rw[if_pos rfl];exact a_ q
 have LR:Looks G.M z.s.heap (raisedInstance (.ref e)) (.ref e):=by
  intro A' Q' E' s' k' q;unfold raisedInstance;refine au ((LT.keeps k').here ?_);refine au (((looks_typeIn hk eo.acN).keeps k').here ?_);rw[if_pos (by rfl)];exact a_ q
 unfold raiseStmt;refine au (a_ ?_);refine au (a_ ?_);refine au (gM (LF.here ?_));refine au (LN.here ?_);rw[if_neg k6];refine au (LR.here ?_);clear LT LN LI LC LF LR;refine au ?_;rcases iw with rfl|⟨T,rfl,s8,oT,ts,hT,hTc,hTd,hTz⟩
 ·unfold setFlight;refine au (jH he hd h1 ?_);rw[if_neg ⋯];refine a_ (fin z (.refl z) ⟨e,rfl,hl,fun jQ zx v1 e1 e2 e3=>?_⟩);rw[he]at e1;cases e1;rw[hd]at e2;cases e2;rw[h1]at e3;cases e3;exact .inl rfl
 ·obtain⟨fl,jy⟩:∃ fl,ts[3]?=some fl:=⟨ts[3],IG hTz⟩;exact Q5 ok z.st hl ⟨oe,vs,T,oT,ts,he,hd,h1,hT,hTd,jy⟩ fun h' kx hx hm=>fin (z.go (z.st.xx (tk:=z.s.toks) hl kx hx)) (Z.ez (aC.refl _) (aA.refl _)) ⟨e,rfl,hl,hm.vw (.inl rfl)⟩
theorem aba{c:Cx}{J:LC}{lv:LV}{z:Z G c J lv}{E:VP}{Q:Flow->Shared->Prop}{env:Env}{i:Nat}{e:Addr}(g:bH G)(eo:rF G.K)(ok:cx c)(hl:z.U[i]?=some (.exc e))(hh:c.A.handled=none)
  (h:∀ (z':Z G c J lv),z.Le z'->eT z' i (.ref e)->E (.ref e) z'.s) :
  wpAny G.M c.A (raiseStmt env (some (pure (.ref e))) none) Q E z.s:=
 M1 g eo ok hl fun z' l er=>by
  unfold raiseNew;refine au (IW ?_);rw[hh];exact au (a_ (za (h z' l er)))
theorem M3
  (h:wpAny M A m (fun v s'=>wpAny M A (raiseStmt env (some (pure v)) none) Q E s') E s):wpAny M A (raiseStmt env (some m) none) Q E s:=by
 unfold raiseStmt at h ⊢;exact au (fI h (fun v s' hv=>hv) fun _ _ x=>x)
theorem aea(h:isExc J i=true):J[i]?=some .exc:=by
 have h:Option.any (fun x:Cell=>Nat.beq x.ctorIdx 2) J[i]?=true:=h;cases hq:J[i]? with
 |none=>rw[hq]at h;cases h
 |some x=>rw[hq]at h;exact congrArg some (Cell.exc.elim (motive:=fun x=>x=.exc) x (Ij h) rfl)
theorem Z.excAt(z:Z G c J lv)(hx:isExc J i=true)(rv:ao G z.I z.U (.ref i) v):∃ e,v=.ref e/\z.U[i]?=some (.exc e):=by
 obtain⟨l,hl,rfl⟩:=rv;have:=z.st.cells.2 i l _ hl (aea hx);cases l<;>try exact False.elim this
 exact⟨_,rfl,hl⟩
theorem Z8(g:bH G)(eo:rF G.K)(h:SE G O k cs e pe)(hk:0<k):SS G F O k cs (.Raise (some e) none pos) (.raise pe):=fun c J lv z Q E rd kx=>by
 rw[arm_exec_Raise];refine au (mj (M3 (au ?_)));refine fU kx (h c _ _ z _ _ rd) fun x aa v z1 l1 rv aL=>au (mj (a_ ?_));refine AH aL (P:=fun x=>ao G z1.I z1.U x v->_) (fun i aL rv=>sH aL fun hx aL=>?_) rv;obtain⟨ex,rfl,hl⟩:=z1.excAt hx rv;exact aba g eo rd.ok hl (rd.rm.2.2 hk) fun z' l er=>aL _ z' l er
end
section
set_option backward.match.sparseCases true
section
variable {G:GI}{F:Nat}{O:ay}{k:Nat}{cs:Scope}{c:Cx}{I:Im}{U:List Loc}{J:LC}{lv:LV}{s:Shared}
noncomputable def Cx.under(c:Cx)(e:Addr):Cx:={ c with A:=c.A.mark (some (.ref e)) }
theorem St.under(x:St G c I U J lv s){j:Nat}{e:Addr}(hl:U[j]?=some (.exc e)):St G (c.under e) I U J lv s:=
 ⟨x.im,x.h0,x.above,x.loc,x.dW,x.cells,x.nd,x.fresh,x.fV,x.pre,fun v hv=>.inl ⟨j,e,(aU (show some (Value.ref e)=some v from hv)).symm,hl⟩,x.fh,x.cN,x.tabs,x.fi,x.code,x.gens,x.os⟩
theorem St.over(x:St G (c.under e) I U J lv s)(hh:c.A.handled=none):St G c I U J lv s:=
 ⟨x.im,x.h0,x.above,x.loc,x.dW,x.cells,x.nd,x.fresh,x.fV,x.pre,fun v hv=>(by rw[hh]at hv;cases hv),x.fh,x.cN,x.tabs,x.fi,x.code,x.gens,x.os⟩
theorem cx.under(ok:cx c):cx (c.under e):=⟨ok.kind,ok.frames,ok.guards,ok.nodup,ok.outer,ok.cells⟩
theorem f_.under(rm:f_ c k):f_ (c.under e) 0:=⟨by have:=rm.1;show c.A.depth+3*0+20<990;lia,by have:=rm.2.1;show c.A.units+16*0+100<9900;lia,fun h=>absurd h (iG _)⟩
noncomputable abbrev Z.under(z:Z G c J lv){j:Nat}{e:Addr}(hl:z.U[j]?=some (.exc e)):Z G (c.under e) J lv:=⟨z.I,z.U,z.s,z.st.under hl⟩
noncomputable abbrev Z.over{e:Addr}(z:Z G (c.under e) J lv)(hh:c.A.handled=none):Z G c J lv:=⟨z.I,z.U,z.s,z.st.over hh⟩
theorem Ready.under(rd:Ready c k cs):Ready (c.under e) 0 cs:=⟨rd.cs,rd.ok.under,rd.rm.under⟩
theorem ZF(hl:U[j]?=some l)(ha:l'.addr=l.addr):fz U (U.set j l'):=by
 have hi:=(aX.mp hl).1;unfold fz;rw[Cv];have:(U.map Loc.addr).set j (Loc.addr l')=U.map Loc.addr:=by
  apply q5;intro i;by_cases q:j=i
  ·subst q;rw[d0 (by simpa using hi),eS,hl,ha];rfl
  ·rw[bW q]
 rw[this];exact yW _
theorem Ss:∀ (l:List Loc) (i:Nat) (a:Addr),(cK (l.set i (.dead a))).Sublist (cK l)
 |[],i=>fun a=>nK _
 |x :: r,0=>fun a=>by
  show(List.flatMap Loc.aK (Loc.dead a :: r)).Sublist (List.flatMap Loc.aK (x :: r));rw[nM,nM];exact tM (T2 _) (nK _)
 |x :: r,i+1=>fun a=>by
  show(List.flatMap Loc.aK (x :: r.set i (.dead a))).Sublist (List.flatMap Loc.aK (x :: r));rw[nM,nM];exact tM (nK _) (Ss r i a)
theorem St.freeze(x:St G c I U J lv s)(hl:U[j]?=some (.exc e))(ho:s.heap.get? e=some oe) :
  St G c (upd I e oe) (U.set j (.dead e)) (J.set j .dead) lv s/\aA U (U.set j (.dead e))/\aC I (upd I e oe)/\kj (upd I e oe) (.ref e):=by
 have hi:=(aX.mp hl).1;have he:e∈cK U:=eE.mpr ⟨_,eP hl,by simp[Loc.aK]⟩;obtain⟨dB,jQ,vs,a0,v1,v2,dK,fm,hd,h0,h1,iw,h2,nq⟩:=x.exc hl;rw[ho]at dK;cases dK;have hI:I e=none:=x.fresh e (.tail _ (fb _ he));have hle:=fe (o:=oe) hI
 have le:aA U (U.set j (.dead e)):=⟨ZF hl rfl,fun i a o q=>by
  by_cases h:j=i
  ·subst h;rw[hl]at q;cases q
  ·rw[bW h];exact q⟩
 have By:kj (upd I e oe) (.ref e):=.cons (jM _ _ _) hd h2 (nq.mono hle);have sub:(owned c (U.set j (.dead e))).Sublist (owned c U):=by
  unfold owned;exact List.Sublist.cons_cons _ (tM (nK _) (Ss U j e))
 have aY:∀ a∈owned c (U.set j (.dead e)),a≠e:=by
  intro a ha q;subst q;have nd:=x.nd;unfold owned at nd ha;rcases bY.mp ha with q|ha
  ·exact(dE.mp nd).1 (fb _ (q▸he))
  ·rcases hU.mp ha with ha|ha
   ·exact(jE.mp (dE.mp nd).2).2.2 _ ha _ he rfl
   ·obtain⟨l,sV,vn⟩:=eE.mp ha;obtain⟨i,kQ,e1⟩:=tT sV;have e2:(U.set j (.dead a))[i]?=some l:=by rw[dw kQ,e1]
    by_cases h:j=i
    ·subst h;rw[d0 hi]at e2;cases e2;simp[Loc.aK]at vn
    ·rw[bW h]at e2;exact h (oi x.om hl e2 (by simp[Loc.aK]) vn)
 refine⟨⟨fun a o q=>?_,fun a o q=>hle _ _ (x.h0 a o q),x.above,?_,x.dW,⟨by rw[ef,ef];exact x.cells.1,fun i l y cD hy=>?_⟩,x.nd.sublist sub,fun a ha=>?_,fun n y q=>?_,x.pre.trans le,fun v hv=>?_,fun a o hs q=>?_,fun i y q=>?_,x.DE hl (by simp),x.fi,x.code,x.gens,x.os⟩,le,hle,By⟩
 ·unfold upd at q;split at q
  ·rename_i h;cases q;rw[h];exact ho
  ·exact x.im a o q
 ·obtain⟨m,hn,cQ⟩:=x.loc;exact⟨m,hn,cQ.mono hle le⟩
 ·by_cases h:j=i
  ·subst h;have F_:j<J.length:=by rw[x.cells.1];exact hi
   rw[d0 hi]at cD;rw[d0 F_]at hy;cases cD;cases hy;trivial
  ·rw[bW h]at cD hy;exact(x.cells.2 i l y cD hy).mono hle le (fun _ h=>h) fun _ _ _ q=>q
 ·unfold upd;rw[if_neg (aY a ha)];exact x.fresh a (sub.subset ha)
 ·obtain⟨x',k',a',v,o',q0,q1,q2,q3,q4⟩:=x.fV n y q;exact⟨x',k',a',v,o',q0,q1,hle _ _ q2,q3,q4.mono hle (aA.refl _)⟩
 ·rcases x.gx v hv with ⟨i,e',h3,h4⟩|⟨h3,h4⟩
  ·by_cases h:j=i
   ·subst h;rw[hl]at h4;cases h4;subst h3;exact .inr ⟨by simp,By⟩
   ·exact .inl ⟨i,e',h3,by rw[bW h];exact h4⟩
  ·exact .inr ⟨h3,h4.mono hle⟩
 ·unfold upd at q;split at q
  ·cases q;exact .of (by rw[fm];simp)
  ·exact x.fh a o hs q
 ·by_cases h:j=i
  ·subst h;have F_:j<J.length:=by rw[x.cells.1];exact hi
   rw[d0 F_]at q;cases q;rfl
  ·rw[bW h]at q;exact x.cN i y q
theorem St.ZG(x:St G c I U J lv s){i:Nat}{e:Addr}{v:Value}{tk:Nat}(hl:U[i]?=some (.exc e))(hv:kj I v)(fl:zr c.L s.heap e) :
  St G c I U J lv { s with heap:=s.heap.update e (Obj.mapFields (·.setIfInBounds 2 v)),toks:=tk }/\zr c.L (s.heap.update e (Obj.mapFields (·.setIfInBounds 2 v))) e:=by
 obtain⟨dB,oe,vs,a0,v1,v2,he,fm,hd,h0,h1,iw,h2,nq⟩:=x.exc hl;have hsz:2<vs.size:=(zd.mp h2).1;have oO:oe.cls≠.type "traceback":=by rw[fm];simp
 have kx:jJ G c e s.heap (s.heap.update e (Obj.mapFields (·.setIfInBounds 2 v))):=by
  refine⟨fun a o n1 n2 n3 ea=>?_,fun T hT=>hT.set _ (D_ 2 v),fun a ha o ea=>⟨o.slots,?_⟩⟩
  ·rw[dq _ _ _ _ n1];exact ea
  ·rw[dq _ _ _ _ (fun (q:a=e)=>x.GN (q▸ha) (eE.mpr ⟨_,eP hl,by simp[Loc.aK]⟩))];exact ea
 have j0:=wb hd (·.setIfInBounds 2 v);have dK:=kc (Obj.mapFields (·.setIfInBounds 2 v)) he (CL j0);have hx:ExcAt G I (s.heap.update e (Obj.mapFields (·.setIfInBounds 2 v))) e:=
  ⟨_,_,a0,v1,v,dK,by rw[I3];exact fm,j0,by rw[zc ⋯];exact h0,by rw[zc ⋯];exact h1,iw.mono kx.tb,by simp[hsz],hv⟩
 refine⟨x.xx hl kx hx,fun oe2 WL w1 e1 e2 e3=>?_⟩;rw[dK]at e1;cases e1;rw[j0]at e2;cases e2;rw[zc ⋯]at e3;rcases fl oe vs w1 he hd e3 with q|⟨T,oT,ts,q1,q2,q3,q4⟩
 ·exact .inl q
 ·refine .inr ⟨T,oT,ts,q1,?_,q3,q4⟩;have:T≠e:=fun q=>by
   obtain rfl:=q.symm;rw[h1]at e3;cases e3;rcases iw with q|⟨T',q,_,Nu,K_,g1,g2,_⟩
   ·rw[q]at q1;cases q1
   ·rw[q]at q1;cases q1;rw[he]at g1;cases g1;exact oO g2
  rw[dq _ _ _ _ this];exact q2
theorem Qm{A:Around}{E:VP}{z:Z G c J lv}{n:Str}{i:Nat}{pos:Pos}{Q:Unit->Shared->Prop}(ok:cx c)(hi:c.cs.names[i]?=some (n,.local))(hx:c.cs.names.lookup n=some .local)
  (h:∀ (z':Z G c J (lv.set i none)),z.Le z'->z'.I=z.I->z'.U=z.U->(∀ a o,a≠c.L->z.s.heap.get? a=some o->z'.s.heap.get? a=some o)->Q () z'.s) :
  wpAny G.M A (do bindName c.env n .none;unbindBehindTheSuite c.env n pos) Q E z.s:=by
 obtain⟨m,hn,hl⟩:=id z.st.loc;refine wpAny_nameGoes_keeps (by rw[Env.kindOf];exact hx) hn (by show(c.cs.kind==.class||(c.cs.kind==.module&&_))=false;rw[ok.kind];rfl) fun h' v kL hs=>?_;have kp:∀ a o,a≠c.L->z.s.heap.get? a=some o->h'.get? a=some o:=fun a o ne e=>(hs.2 a ne).trans e;refine h (z.go (tk:=z.s.toks+1) (z.st.AP kp ⟨_,kL,fun j y e=>?_⟩)) (Z.ez (aC.refl _) (aA.refl _)) rfl rfl kp;by_cases dJ:i=j
 ·subst dJ;obtain⟨h1,h2⟩:=aX.mp e;rw[d0 (by simpa using h1)]at e;cases e
 ·rw[bW dJ]at e;obtain⟨nm,k',u,h1,h2,h3⟩:=hl j y e;refine⟨nm,k',u,h1,?_,h3⟩;show(if nm=n then v else m nm)=some u;rw[if_neg]
  ·exact h2
  ·rintro rfl
   have e1:(c.cs.names.map (·.1))[i]?=some nm:=by rw[eS,hi];rfl
   have e2:(c.cs.names.map (·.1))[j]?=some nm:=by rw[eS,h1];rfl
   obtain⟨q1,r1⟩:=aX.mp e1;obtain⟨q2,r2⟩:=aX.mp e2;exact dJ (NG ok.nodup q1 q2 (r1.trans r2.symm))
theorem O4(z:Z G c J lv)(hl:z.U[i]?=some l)(hx:isExc J i=true):∃ e,l=.exc e:=by
 obtain⟨e,h1,h2⟩:=z.excAt hx (v:=.ref l.addr) (Exists.intro l ⟨hl,rfl⟩);rw[hl]at h2;exact⟨e,aU h2⟩
theorem iL.keep(hn:h.Ns L m)(kp:∀ a o,a≠L->h.get? a=some o->h'.get? a=some o)(x:iL h e v):iL h' e v:=by
 have nL:∀ a o,h.get? a=some o->(∀ en q,o.data≠.dict en q)->a≠L:=fun a o ha hd q=>by
  obtain⟨o',es,ep,ho,Gm,_⟩:=hn;rw[q,ho]at ha;cases ha;exact hd _ _ Gm
 obtain⟨oe,vs,T,oT,ts,h1,h2,s_,QD,h5,h6⟩:=x;exact⟨oe,vs,T,oT,ts,kp _ _ (nL _ _ h1 fun en q=>by rw[h2];simp) h1,h2,s_,kp _ _ (nL _ _ QD fun en q=>by rw[h5];simp) QD,h5,h6⟩
def Wf(G:GI)(c:Cx)(e:Addr)(n:Str)(pos:Pos)(E:VP)(x:Value)(ly:Shared):Prop:=
 wpAny G.M (c.under e).A (noteFrame x c.env) (fun _ XD=>
  wpAny G.M (c.under e).A (do bindName c.env n .none;unbindBehindTheSuite c.env n pos)
   (fun _ pQ=>wpAny G.M (c.under e).A (passOn "try.except-as" x c.env:Sem Flow) (fun _ _=>False) (notedBy G.M (c.under e).A c.env (cameBackBy G.M c.A c.env E)) pQ)
   (fun y pQ=>wpAny G.M (c.under e).A (setFlight x none) (fun _ zK=>(notedBy G.M (c.under e).A c.env (cameBackBy G.M c.A c.env E)) y zK) (notedBy G.M (c.under e).A c.env (cameBackBy G.M c.A c.env E)) pQ) XD) (notedBy G.M (c.under e).A c.env (cameBackBy G.M c.A c.env E)) ly
theorem La{z:Z G c J lv}{j:Nat}{v:Value}{t:Expr}{n:Str}{i:Nat}{b0:Stmt}{hs:List Stmt}{pos:Pos}{Q:Flow->Shared->Prop}{E:VP}
  (g:bH G) (eo:rF G.K) (ok:cx c) (er:eT z j v) (ht:pI G c.cs t (.fn d_)) (hi:c.cs.names[i]?=some (n,.local)) (hx:c.cs.names.lookup n=some .local) (hh:c.A.handled=none)
  (h:∀ e (z':Z G c J (lv.set i (some (.ref j)))),z.Le z'->z'.U[j]?=some (.exc e)->eT z' j (.ref e) ->
   wpAny G.M (c.under e).A (execs (b0 :: hs) (c.under e).env) (fun f ly=>wpAny G.M c.A (do bindName c.env n .none;unbindBehindTheSuite c.env n pos) (fun _ pQ=>Q f pQ) E ly) (Wf G c e n pos E) z'.s) :
  wpAny G.M c.A (noteFrame v c.env) (fun _ mB=>wpAny G.M c.A (setFlight v none) (fun _ ly=>wpAny G.M c.A (handleBy v c.env [.ExceptHandler (some t) (some n) (b0 :: hs) pos]) Q E ly) E mB) E z.s:=by
 refine er.xj ok fun e z1 l1 he Hi fF=>?_;subst he;refine Hi.vv ok fF (.inl rfl) fun z2 l2 yx bF=>?_;obtain⟨e',dK,hl,fl⟩:=id yx;cases dK;refine wpAny_handleBy_cons (codeAny_handlers_test ?_) (by intro q;cases q);refine ht (c.under e) _ _ (z2.under hl) _ _ rfl ok.under fun u tk ru=>?_;have ru:_=_:=ru;subst ru;obtain⟨_,oe,vs,a0,v1,v2,g1,g2,g3,_⟩:=z2.st.exc hl;refine(exm_one (M:=G.M) (z2.sI g) (RY g1 g2) eo.self).at ?_
 simp only[if_true];refine codeAny_handlers_suite_as ?_;refine eT.vv (z:=(z2.under hl).tick tk) (e:=e) (i:=j) (c:=c.under e) ok.under ⟨e,rfl,hl,fl⟩ bF (.inl rfl) fun z3 l3 yw lU=>?_;obtain⟨e',dK,xP,fl4⟩:=yw;cases dK;have rj:ao G z3.I z3.U (.ref j) (.ref e):=Exists.intro _ ⟨xP,rfl⟩;obtain⟨m,hn,cQ⟩:=id z3.st.loc;refine I1 (env:=(c.under e).env) (by rw[Env.kindOf];exact hx) hn (fun h4 hn4 hs4=>?_) (by show(c.cs.kind==.class||(c.cs.kind==.module&&_))=false;rw[ok.kind];rfl)
 have kp:∀ a o,a≠c.L->z3.s.heap.get? a=some o->h4.get? a=some o:=fun a o ne e=>(hs4.2 a ne).trans e;have ku:St G (c.under e) z3.I z3.U J (lv.set i (some (.ref j))) { z3.s with heap:=h4,toks:=z3.s.toks+1 }:=z3.st.AP kp ⟨_,hn4,cQ.store ok.nodup hi rj⟩;obtain⟨q1,q2,q3⟩:=((Z.AE (z2.under hl) tk).trans l3);exact fI (h e ⟨z3.I,z3.U,_,ku.over hh⟩ ((l1.trans l2).trans ⟨q1,q2,Zu q3⟩) xP ⟨e,rfl,xP,(lU.keep hn kp).vw (.inl rfl)⟩) (fun f ly u4=>u4) fun x ly u4=>u4
theorem OA{P:Prop}(kx:KX z (Ex.catch m h lv J) Q E)(run:KX z (m lv J) Q E1->P)
  (hh:∀ j e bA aa (z1:Z G c aa bA),z.Le z1->eT z1 j e->KX z1 (h j bA aa) Q E->E1 e z1.s):P:=by
 refine run ?_;unfold Ex.catch at kx;cases e:m lv J with
 |none=>rw[e]at kx;exact kx
 |some q=>
  obtain⟨r,bA,aa⟩:=q;rw[e]at kx;cases r with
  |ok f=>exact kx
  |error j=>exact fun e z1 l er=>hh j e bA aa z1 l er (kx.shift l)
theorem Lb{P:Prop}(kx:KX z o Q E)(run:KX z o (fun f mB=>match f with|.next=>wpAny G.M c.A (execs [] env) Q E' mB|f=>Q f mB) E->P):P:=by
 refine run ?_;cases o with
 |none=>exact False.elim kx
 |some q=>
 obtain⟨r,aJ,J'⟩:=q;cases r with
 |error _=>exact kx
 |ok x=>
  intro f z' l rf;have q:=kx f z' l rf;cases x with
  |next=>have rf:f=.next:=rf;subst rf;exact pD q
  |ret v=>obtain⟨u,rfl,ru⟩:=rf;exact q
theorem Z4{body:List Stmt}{pos pos':Pos}(g:bH G)(eo:rF G.K)(hk:0<k)(hb:eg G F O k cs body pb)(ht:pI G cs t (.fn d_))
  (hh:eg G F cI 0 cs (b0 :: hs) ph) (hi:cs.names[i]?=some (n,.local)) (hx:cs.names.lookup n=some .local) :
  SS G F O k cs (.Try body [.ExceptHandler (some t) (some n) (b0 :: hs) pos'] [] [] pos) (.nU pb i ph):=fun c J lv z Q E rd kx=>by
 refine wpAny_Try_except ?_;have qG:=rd.rm.2.2 hk;refine OA kx (fun kx=>Lb kx (hb c _ _ z _ _ rd)) fun j v bA aa z1 l1 er aL=>?_;refine La g eo rd.ok er (by rw[rd.cs];exact ht) (by rw[rd.cs];exact hi) (by rw[rd.cs];exact hx) qG fun e z2 l2 hl yx=>?_;refine sH (aL.shift l2) fun hex eL=>?_;refine hh (c.under e) _ _ (z2.under hl) _ _ rd.under ?_;have eL:KX z2 (gone i (aD F cI c.cv ph) (bA.set i (some (.ref j))) aa) Q E:=eL
 unfold gone at eL;show KX (z2.under hl) (aD F cI c.cv ph (bA.set i (some (.ref j))) aa) _ _;generalize aD F cI c.cv ph (bA.set i (some (.ref j))) aa=o at eL ⊢;cases o with
 |none=>exact False.elim eL
 |some q=>
 obtain⟨r,N3,bo⟩:=q;cases r with
 |error _=>exact False.elim eL
 |ok fl=>
  intro f z3 l3 rf;refine Qm (z:=z3.over qG) rd.ok (by rw[rd.cs];exact hi) (by rw[rd.cs];exact hx) fun z4 l4 hI gV _=>eL f z4 ((show z2.Le (z3.over qG) from ⟨l3.im,l3.loc,l3.sh⟩).trans l4) (by rw[hI,gV];exact rf)
theorem abb{e e2:Addr}{j n:Nat}{z:Z G (c.under e) J lv}{E:VP}{Q:Flow->Shared->Prop}(er:eT z n (.ref e2))(hl:z.U[j]?=some (.exc e))
  (h:∀ (z':Z G (c.under e) (if n=j then J else J.set j .dead) lv),z.Le z'->eT z' n (.ref e2)->E (.ref e2) z'.s) :
  wpAny G.M (c.under e).A (raiseNew (.ref e2):Sem Flow) Q E z.s:=by
 obtain⟨e',q,gX,fl⟩:=id er;cases q;have hA:(c.under e).A.handled=some (.ref e):=rfl;by_cases Bl:n=j
 ·subst Bl;rw[hl]at gX;cases gX;rw[if_pos rfl]at h;unfold raiseNew;refine au (IW ?_);rw[hA];show wpAny _ _ (if (Value.ref e != Value.ref e)=true then _ else _) _ _ z.s;rw[if_neg (by simp)];exact au (a_ (za (h z (.refl z) er)))
 ·rw[if_neg Bl]at h;obtain⟨aiZ,oe1,us,b0,u1,u2,g1,_⟩:=z.st.exc hl;obtain⟨dB,oe,vs,a0,v1,v2,he,fm,hd,h0,h1,iw,h2,nq⟩:=z.st.exc gX;have aY:e≠e2:=fun q=>by
   subst q;exact Bl (oi (a:=e) z.st.om gX hl (by simp[Loc.aK]) (by simp[Loc.aK]))
  obtain⟨eW,le,hle,By⟩:=z.st.freeze hl g1;have PQ:(z.U.set j (.dead e))[n]?=some (.exc e2):=by rw[bW (nO Bl)];exact gX
  have vh:e2∈cK z.U:=eE.mpr ⟨_,eP gX,by simp[Loc.aK]⟩;refine M4 (I:=z.I) z.st.im z.st.aW (z.st.fresh e2 (.tail _ (fb _ vh))) he hd (zd.mp h2).1 (by rw[hA];simpa using aY) fun h' x hs q1 q2 q3=>?_;have hh':=q3 _ (q2 _ hA);subst hh';obtain⟨dQ,fl2⟩:=eW.ZG (tk:=z.s.toks) PQ By fl;exact h (z.go dQ) (Z.ez hle le) ⟨e2,rfl,PQ,fl2⟩
theorem aiN{e en:Addr}{n i:Nat}{nm:Str}{pos:Pos}{E:VP}{z:Z G (c.under e) J lv}(ok:cx c)(qG:c.A.handled=none)(hi:c.cs.names[i]?=some (nm,.local))(hx:c.cs.names.lookup nm=some .local)(er:eT z n (.ref en))
  (h:∀ (z':Z G c J (lv.set i none)),aC z.I z'.I->aA z.U z'.U->(∃ h tk,z'.s={ z.s with heap:=h,toks:=tk })->eT z' n (.ref en)->E (.ref en) z'.s):Wf G c e nm pos E (.ref en) z.s:=by
 refine er.xj (c:=c.under e) ok.under fun e6 z6 l6 Gj Hh hm6=>?_;cases Gj;obtain⟨e6,Gj,hl6,fl6⟩:=Hh;cases Gj;obtain⟨m6,hn6,_⟩:=id z6.st.loc;refine Qm (c:=c.under e) (z:=z6) ok.under hi hx fun z7 l7 hI7 aet kp7=>?_;have F7:iL z7.s.heap en (rawInt c.L):=iL.keep hn6 kp7 hm6;have er7:eT z7 n (.ref en):=⟨en,rfl,by rw[aet];exact hl6,F7.vw (.inr rfl)⟩;unfold PySem.passOn
 obtain⟨oe,vs,T,q1,q2,q3⟩:=F7.field;refine au (jH q1 q2 q3 ?_);rw[if_neg (show ¬((Value.ref T==Value.none)=true) from by simp)];refine au (er7.vv (c:=c.under e) ok.under F7 (.inr rfl) fun z8 l8 er8 hm8=>za ?_);refine er8.xj (c:=c.under e) ok.under fun e9 z9 l9 he9 er9 PN=>?_;cases he9;obtain⟨oe,vs,T,q1,q2,q3⟩:=PN.field;refine au (jH q1 q2 q3 ?_)
 rw[if_neg (show ¬((Value.ref T==Value.none)=true) from by simp)];refine eT.vv (z:=z9.over qG) ok er9 PN (.inr rfl) fun Wh l10 afT ai0=>?_;obtain⟨a1,a2,a3⟩:=l6.trans (l7.trans (l8.trans l9));obtain⟨b1,b2,b3⟩:=l10;exact h Wh (a1.trans b1) (a2.trans b2) (gR a3 b3) afT
theorem Z3{body:List Stmt}{pos pos' aaA:Pos}(g:bH G)(eo:rF G.K)(hk:0<k)(hb:eg G F O k cs body pb)(ht:pI G cs t (.fn d_))
  (he:SE G cI 0 cs e pe) (hi:cs.names[i]?=some (n,.local)) (hx:cs.names.lookup n=some .local) :
  SS G F O k cs (.Try body [.ExceptHandler (some t) (some n) [.Raise (some e) none aaA] pos'] [] [] pos) (.pO pb i pe):=fun c J lv z Q E rd kx=>by
 refine wpAny_Try_except ?_;have qG:=rd.rm.2.2 hk;refine OA kx (fun kx=>Lb kx (hb c _ _ z _ _ rd)) fun j v bA aa z1 l1 er aL=>?_;refine La g eo rd.ok er (by rw[rd.cs];exact ht) (by rw[rd.cs];exact hi) (by rw[rd.cs];exact hx) qG fun e1 z2 l2 hl yx=>?_;refine sH (aL.shift l2) fun hex eL=>?_;refine kb ?_;rw[arm_exec_Raise];refine au (mj (M3 (au ?_)))
 have gT:KX z2 (Ex.BP (aO cI (bA.set i (some (.ref j))) c.cv pe) (fun x=>jO x fun n=>lY j (lY n fun lv J=>some (.error n,lv.set i none,if n=j then J else J.set j .dead))) (bA.set i (some (.ref j))) aa) Q E:=eL;unfold Ex.BP at gT;refine he (c.under e1) _ _ (z2.under hl) _ _ rd.under ?_;show KO (ao G) (z2.under hl) (aO cI (bA.set i (some (.ref j))) c.cv pe aa) _ _;generalize aO cI (bA.set i (some (.ref j))) c.cv pe aa=o at gT ⊢
 cases o with
 |none=>exact False.elim gT
 |some q=>
 obtain⟨r,aj⟩:=q;cases r with
 |error _=>exact False.elim gT
 |ok x=>
  intro v2 z3 l3 rv;refine au (mj (a_ ?_));refine AH gT (P:=fun x=>ao G z3.I z3.U x v2->_) (fun n' gT rv=>sH gT fun A5 gT=>sH gT fun u6 gT=>?_) rv;obtain⟨lj,PO,hla⟩:=l3.loc.get hl;obtain⟨ej,rfl⟩:=O4 z3 PO A5;have hej:ej=e1:=hla;subst hej;obtain⟨en,rfl,hln⟩:=z3.excAt u6 rv;refine M1 (c:=c.under ej) (z:=z3) g eo rd.ok.under hln fun z4 l4 yw=>?_
  obtain⟨l4j,Bm,h4a⟩:=l4.loc.get PO;obtain⟨e4,rfl⟩:=O4 z4 Bm A5;have xU:e4=ej:=h4a;obtain rfl:=xU.symm;refine abb yw Bm fun z5 l5 er5=>?_;refine aiN rd.ok qG (by rw[rd.cs];exact hi) (by rw[rd.cs];exact hx) er5 fun z6 a b s6 Hh=>?_;have q:=l3.trans (l4.trans l5);exact gT _ z6 ⟨q.im.trans a,q.loc.trans b,gR q.sh s6⟩ Hh
end
end
mutual
theorem acV(h:i<=n):∀ {x:V},low i x=true->low n x=true
 |.ref j=>fun e=>decide_eq_true (dN (of_decide_eq_true e) h)
 |.tup l=>fun e=>sC h e
 |.obj _ l=>fun e=>sC h e
 |.cz _ l=>fun e=>sC h e
 |.gZ _ l=>fun e=>sC h e
 |.eC l=>fun e=>sC h e
 |.none=>fun _=>rfl
 |.bool _=>fun _=>rfl
 |.int _=>fun _=>rfl
 |.str _=>fun _=>rfl
 |.fn _=>fun _=>rfl
 |.bi _=>fun _=>rfl
 |.lam=>fun _=>rfl
 |.fE=>fun _=>rfl
theorem sC(h:i<=n):∀ {l:List V},lows i l=true->lows n l=true
 |[]=>fun _=>rfl
 |x :: r=>fun e=>by
  simp only[cN,hG]at e ⊢;exact⟨acV h e.1,sC h e.2⟩
end
section
variable {G:GI}{c c':Cx}{I I':Im}{U aT:List Loc}{J J':LC}{lv aJ:LV}{s s':Shared}
theorem aA.zJ(U:List Loc)(n:Nat):aA (U.take n) U:=by
 have:=aA.app (U.take n) (U.drop n);rwa[pj]at this
theorem fc.cut(hn:n<=U.length)(hi:i<=n)(hw:sE i y=true)(x:fc G I U h l y):fc G I (U.take n) h l y:=by
 have cut:∀ {l vs},lows i l=true->av G I U l vs->av G I (U.take n) l vs:=fun hw h=>av.cut (aA.zJ U n) h (by rw[gL,mq hn];exact sC hi hw);revert hw;exact fc.el (P:=fun l y=>sE i y=true->fc G I (U.take n) h l y) (fun a l vs m h1 h2 hw=>⟨vs,m,h1,cut hw h2⟩) (fun a d c l vs es m h0 h1 h2 h3 hw=>⟨h0,vs,es,m,h1,h2,cut hw h3⟩) (fun _ x _=>x) (fun a o h1 h2 _=>⟨h1,h2⟩) (fun _ _=>trivial) (fun _ _=>trivial) (fun _ _ _ _ x _=>x) x
theorem St.enter(st:St G c I U J lv s)(keep:∀ a o,s.heap.get? a=some o->h1.get? a=some o)(hL:s.heap.objs.size<=c'.L)(ns:h1.Ns c'.L m)
  (dT:s.heap.get? c.L=some oL) (gY:c'.fr=(c.L,oL) :: c.fr) (gV:c'.de=U) (Gq:c'.cv=[]) (hh:c'.A.handled=none) (qF:G.codeOk c'.cs c'.cd c'.cn) (cQ:gb G I U c'.cs m aJ):St G c' I U J aJ { s with heap:=h1,toks:=tk }:=by
 have aP:∀ a∈owned c U,a<s.heap.objs.size:=fun a ha=>st.lt ha;have ow:owned c' U=c'.L :: owned c U:=by unfold owned;rw[gY];rfl
 refine⟨fun a o e=>keep a o (st.im a o e),st.h0,?_,⟨m,ns,cQ⟩,fun p hp=>?_,st.cells.mono (aC.refl _) (dj.keeps keep) fun a _ o e=>keep a o e,?_,fun a ha=>?_,fun n y e=>?_,by rw[gV];exact aA.refl _,fun v hv=>?_,st.fh,st.cN,st.tabs,st.fi,qF,st.gens,st.os⟩
 ·exact ak st.above (fH (dN (aP c.L (.head _)) hL))
 ·rw[gY]at hp;rcases bY.mp hp with rfl|hp
  ·exact⟨oL.slots,keep _ _ dT⟩
  ·obtain⟨sl,e⟩:=st.dW p hp;exact⟨sl,keep _ _ e⟩
 ·rw[ow];exact dE.mpr ⟨fun h=>iG _ (dN (aP _ h) hL),st.nd⟩
 ·rw[ow]at ha;rcases bY.mp ha with rfl|ha
  ·exact st.mX hL
  ·exact st.fresh a ha
 ·rw[Gq]at e;simp at e
 ·rw[hh]at hv;cases hv
theorem St.recv(st:St G c I U J lv s)(h:∀ (i:Nat) (y:V),cv[i]?=some (some y)->∃ x k a v o,c.cs.names[i]?=some (x,k)/\c.cl.lookup x=some a/\I a=some o/\o.data=.cell (some v)/\ao G I c.de y v) :
  St G { c with cv:=cv } I U J lv s:=
 ⟨st.im,st.h0,st.above,st.loc,st.dW,st.cells,st.nd,st.fresh,h,st.pre,st.gx,st.fh,st.cN,st.tabs,st.fi,st.code,st.gens,st.os⟩
theorem St.Fh(st:St G c I U J lv s){s':Shared}(eW:St G c' I' aT J' aJ s')(hI:aC I I')(hp:aA U aT)(dT:s.heap.get? c.L=some oL)(gY:c'.fr=(c.L,oL) :: c.fr)(hh:c.A.handled=none) :
  St G c I' aT J' lv s':=by
 have sub:(owned c aT).Sublist (owned c' aT):=by
  unfold owned;rw[gY];exact List.Sublist.cons _ (nK _)
 refine⟨eW.im,eW.h0,st.above,?_,fun p hp'=>?_,eW.cells,eW.nd.sublist sub,fun a ha=>eW.fresh a (sub.subset ha),fun n y e=>?_,st.pre.trans hp,fun v hv=>?_,eW.fh,eW.cN,eW.tabs,eW.fi,st.code,eW.gens,eW.os⟩
 ·obtain⟨m,⟨o,es,ep,ho,r⟩,cQ⟩:=st.loc;rw[dT]at ho;cases ho;obtain⟨sl,e⟩:=eW.dW (c.L,oL) (by rw[gY];exact .head _);exact⟨m,⟨_,es,ep,e,r⟩,cQ.mono hI hp⟩
 ·exact eW.dW p (by rw[gY];exact .tail _ hp')
 ·obtain⟨x,k,a,v,o,h1,h2,h3,h4,h5⟩:=st.fV n y e;exact⟨x,k,a,v,o,h1,h2,hI _ _ h3,h4,h5.mono hI (aA.refl _)⟩
 ·rw[hh]at hv;cases hv
theorem St.SA(st:St G c I U J lv s)(dQ:St G c I2 jK aj lv s2)(hp:aA U jK)(hI:aC I I2)(hh:c.A.handled=none):St G c I2 (jK.take U.length) (aj.take U.length) lv s2/\aA U (jK.take U.length):=by
 obtain⟨le,hlen⟩:=hp.take;have hn:U.length<=jK.length:=hp.len;have gx:(cK (jK.take U.length)).Sublist (cK jK):=by
  have:cK jK=cK (jK.take U.length)++cK (jK.drop U.length):=by
   unfold cK;rw[<-yX,pj]
  rw[this];exact List.sublist_append_left _ _
 have sub:(owned c (jK.take U.length)).Sublist (owned c jK):=by
  unfold owned;exact List.Sublist.cons_cons _ (tM (nK _) gx)
 refine⟨⟨dQ.im,dQ.h0,st.above,?_,dQ.dW,⟨?_,fun i l y hl hy=>?_⟩,dQ.nd.sublist sub,fun a ha=>dQ.fresh a (sub.subset ha),fun n y e=>?_,st.pre.trans le,fun v hv=>?_,dQ.fh,fun i y e=>?_,?_,dQ.fi,st.code,dQ.gens,dQ.os⟩,le⟩
 ·obtain⟨m,_,cQ⟩:=st.loc;obtain⟨m2,hn2,aeL⟩:=dQ.loc;refine⟨m2,hn2,fun i x e=>?_⟩;obtain⟨_,_,v0,_,_,r0⟩:=cQ i x e;obtain⟨nm,kd,v,h1,h2,r⟩:=aeL i x e;exact⟨nm,kd,v,h1,h2,ao.cut (aA.zJ jK _) r (by rw[hlen];exact r0.low)⟩
 ·rw[gL,gL,dQ.cells.1]
 ·have hi:i<U.length:=by
   have:=(aX.mp hl).1;rw[gL]at this;lia
  rw[wc hi]at hl hy;exact(dQ.cells.2 i l y hl hy).cut hn (fH hi) (dQ.cN i y hy)
 ·obtain⟨x,k,a,v,o,h1,h2,h3,h4,h5⟩:=st.fV n y e;exact⟨x,k,a,v,o,h1,h2,hI _ _ h3,h4,h5.mono hI (aA.refl _)⟩
 ·rw[hh]at hv;cases hv
 ·by_cases hi:i<U.length
  ·rw[wc hi]at e;exact dQ.cN i y e
  ·have:=(aX.mp e).1;rw[gL]at this;lia
 ·obtain⟨t,ht⟩:=dQ.tabs;have h1:G.tabs.length<=U.length:=st.tabs.length_le;rw[<-ht,List.take_append,k7 h1];exact Co _ _
theorem St.Od(st:St G c I U J lv s){s':Shared}(eW:St G c' I' aT J' aJ s')(hI:aC I I')(hp:aA U aT)(dT:s.heap.get? c.L=some oL)(gY:c'.fr=(c.L,oL) :: c.fr)(hh:c.A.handled=none) :
  St G c I' (aT.take U.length) (J'.take U.length) lv s'/\aA U (aT.take U.length):=st.SA (st.Fh eW hI hp dT gY hh) hp hI hh
theorem St.ac8(st:St G c I U J lv s){s':Shared}(eW:St G c' I' aT J' aJ s')(hl:aT[i]?=some (.exc e))(hi:U.length<=i)(hI:aC I I')(hp:aA U aT)(dT:s.heap.get? c.L=some oL)(gY:c'.fr=(c.L,oL) :: c.fr)(hh:c.A.handled=none) :
  St G c I' (aT.take U.length++[.exc e]) (J'.take U.length++[.exc]) lv s'/\(aT.take U.length++[.exc e])[U.length]?=some (.exc e)/\aA U (aT.take U.length++[.exc e]):=by
 obtain⟨jN,le⟩:=st.Od eW hI hp dT gY hh;have hlen:=hp.take.2;obtain⟨dB,hx⟩:=eW.exc hl;have vh:e∈cK aT:=eE.mpr ⟨_,eP hl,by simp[Loc.aK]⟩;have aY:e∉owned c (aT.take U.length):=by
  intro h;have nd:=eW.nd;unfold owned at nd h;rw[gY]at nd;have nd2:=(dE.mp nd).2;have key:e∈(c.L :: c.fr.map (·.1))->False:=fun h'=>(jE.mp nd2).2.2 e h' e vh rfl;rcases bY.mp h with q|h
  ·exact key (q▸.head _)
  ·rcases hU.mp h with h|h
   ·exact key (.tail _ h)
   ·obtain⟨l,sV,vn⟩:=eE.mp h;obtain⟨j,hj,e1⟩:=tT sV;have gH:j<U.length:=by rw[gL]at hj;lia
    have e2:aT[j]?=some l:=by rw[<-wc gH,dw hj,e1]
    have:=oi eW.om hl e2 (by simp[Loc.aK]) vn;lia
 have dQ:=jN.grow (l:=.exc e) (y:=.exc) (jN.lL (by simp[Loc.aK]) fun a ha=>by simp only[Loc.aK,b_]at ha;subst ha;exact aY)
  (fun a ha=>by simp only[Loc.aK,b_]at ha;subst ha;exact eW.fresh _ (.tail _ (fb _ vh))) hx rfl
 refine⟨dQ,?_,le.trans (aA.app _ _)⟩;rw[iF (eR hlen),hlen,jF];rfl
end
section
set_option backward.match.sparseCases true
structure aB where
 np:Nat
 nl:Nat
 dY:List V
 cm:List Bool
 eJ:Nat
 keep:Bool
 body:List PS
noncomputable def vP(fp:aB)(as:List V):Option (List V):=if as.length<=fp.np/\fp.np-fp.dY.length<=as.length then some (as++fp.dY.drop (as.length-(fp.np-fp.dY.length))) else none
noncomputable def cW(fp:aB)(full:List V):LV:=(List.zipWith (fun b x=>if b then none else some x) fp.cm full)++List.replicate (fp.nl-fp.np) none
noncomputable def me(fp:aB)(full:List V):LV:=List.zipWith (fun b x=>if b then some x else none) fp.cm full
noncomputable def ma:Fl->V
 |.ret v=>v
 |.next=>.none
def yz(fp:aB)(n:Nat)(fl:Fl)(J':LC):Option (Except Nat V×LC):=
 if fp.keep then some (.ok (ma fl),J') else if low n (ma fl) then some (.ok (ma fl),J'.take n) else none
def xd(fp:aB)(n:Nat)(o:rk):Out V:=match o with
 |none=>none
 |some (r,_,J')=>match r with
  |.ok fl=>yz fp n fl J'
  |.error i=>if n<=i/\isExc J' i=true then some (.error n,J'.take n++[.exc]) else none
def aq(F:Nat)(O:ay)(fp:aB)(as:List V):Ev V:=aS (vP fp as) fun full J=>xd fp J.length (aD F O (me fp full) fp.body (cW fp full) (J++List.replicate fp.eJ .raw))
structure nP(fp:aB)(scope:Scope)(pn:List Str):Prop where
 len:pn.length=fp.np
 cm:fp.cm.length=fp.np
 names:∀ (i:Nat) (x:Str) (b:Bool),pn[i]?=some x->fp.cm[i]?=some b->scope.names[i]?=some (x,if b then .cell else .local)
 nd:(scope.names.map (·.1)).Nodup
inductive C_(fp:aB)(names:List (Str×NameKind))(pn:List Str):Prop
 |no (h0:fp.eJ=0) (iY:∀ b∈fp.cm,b=false) (iX:∀ n,cellsFrom n names []=[])
 |par (j:Nat) (x:Str) (h0:fp.eJ=0) (hj:j<fp.np) (iY:∀ (i:Nat) (b:Bool),fp.cm[i]?=some b->b=decide (i=j)) (hp:pn[j]?=some x) (iX:∀ n,cellsFrom n names []=[(x,n)])
 |own (x:Str) (h1:fp.eJ=1) (iY:∀ b∈fp.cm,b=false) (hn:x∉pn) (hl:names.lookup x=some .cell) (iX:∀ n,cellsFrom n names []=[(x,n)])
inductive rE(G:GI)(a:Addr)(fp:aB)(fd:FuncData)(body:List Stmt):Prop
 |mk (o:Obj) (pn:List Str) (bZ:List Value) (keep:keepIn G.K (.ref a)=true) (hK:G.K.lookup a=some o) (hd:o.data=.func fd) (hb:fd.body=.stmts body)
  (he:∀ L,callEnvC fd L a=envX fd.qualname fd.scope L a fd.code (cellsFrom (L+1) fd.scope.names [])) (hc:fd.closure=[])
  (code:codeIn G.K fd.code fd.qualname=true) (BZ:G.codeOk fd.scope fd.code fd.qualname)
  (bind:∀ (s:Shared) (vs:List Value),G.K.In s.heap->vs.length<=fp.np->fp.np-fp.dY.length<=vs.length->BindsTo s fd ⟨vs,[]⟩ (pn.zip (vs++bZ.drop (vs.length-(fp.np-fp.dY.length)))))
  (dY:∀ I U,aC (fun a=>G.H.get? a) I->av G I U fp.dY bZ) (dl:fp.dY.length<=fp.np) (P:nP fp fd.scope pn) (cells:C_ fp fd.scope.names pn)
  (kind:fd.scope.kind=.function) (co:fd.scope.isCoroutine=false) (gen:fd.scope.isGenerator=false)
theorem rE.keep{G:GI}{body:List Stmt}(f:rE G a fp fd body):keepIn G.K (.ref a)=true:=by
 cases f;assumption
theorem Te:∀ {pn:List Str}{us:List Value}{m:Str->Option Value},x∉pn->bindL kd (pn.zip us) m x=m x
 |[],_,m=>fun _=>rfl
 |y :: pn,[],m=>fun _=>rfl
 |y :: pn,u :: us,m=>fun h=>by
  show bindL kd (pn.zip us) _ x=m x;rw[Te (fun hm=>h (.tail _ hm))];split
  ·show(if x=y then some u else m x)=m x;rw[if_neg (fun (q:x=y)=>h (by rw[q];exact .head _))]
  ·rfl
theorem Th:∀ {pn:List Str}{us:List Value}{m:Str->Option Value},x∉pn->bindC kd (pn.zip us) m x=m x
 |[],_,m=>fun _=>rfl
 |y :: pn,[],m=>fun _=>rfl
 |y :: pn,u :: us,m=>fun h=>by
  show bindC kd (pn.zip us) _ x=m x;rw[Th (fun hm=>h (.tail _ hm))];split
  ·rfl
  ·show(if x=y then some u else m x)=m x;rw[if_neg (fun (q:x=y)=>h (by rw[q];exact .head _))]
theorem Tf(hk:kd x=some .local):∀ {pn:List Str}{us:List Value}{m:Str->Option Value},pn.Nodup->∀ {i:Nat},pn[i]?=some x->us[i]?=some u->bindL kd (pn.zip us) m x=some u
 |[],_,m,_,i=>fun h _=>by simp at h
 |y :: pn,[],m,_,i=>fun _ h=>by simp at h
 |y :: pn,v :: us,m,nd,0=>fun h h'=>by
  cases h;cases h';rw[dE]at nd;show bindL kd (pn.zip us) _ _=some _;rw[Te nd.1,if_pos hk];exact if_pos rfl
 |y :: pn,v :: us,m,nd,i+1=>fun h h'=>Tf (pn:=pn) (us:=us) hk (dE.mp nd).2 (i:=i) (by simpa using h) (by simpa using h')
theorem Ti(hk:kd x≠some .local):∀ {pn:List Str}{us:List Value}{m:Str->Option Value},pn.Nodup->∀ {i:Nat},pn[i]?=some x->us[i]?=some u->bindC kd (pn.zip us) m x=some u
 |[],_,m,_,i=>fun h _=>by simp at h
 |y :: pn,[],m,_,i=>fun _ h=>by simp at h
 |y :: pn,v :: us,m,nd,0=>fun h h'=>by
  cases h;cases h';rw[dE]at nd;show bindC kd (pn.zip us) _ _=some _;rw[Th nd.1,if_neg hk];exact if_pos rfl
 |y :: pn,v :: us,m,nd,i+1=>fun h h'=>Ti (pn:=pn) (us:=us) hk (dE.mp nd).2 (i:=i) (by simpa using h) (by simpa using h')
theorem N7{α β:Type}[BEq α][LawfulBEq α]:∀ {l:List (α×β)}{i:Nat}{x:α}{k:β},(l.map (·.1)).Nodup->l[i]?=some (x,k)->l.lookup x=some k
 |[],i,x,k=>fun _ h=>by simp at h
 |(y,k') :: l,0,x,k=>fun nd h=>by cases h;rw[f5,beq_self_eq_true]
 |(y,k') :: l,i+1,x,k=>fun nd h=>by
  rw[gO,dE]at nd;have hm:x∈l.map (·.1):=pv.mpr ⟨(x,k),eP (by simpa using h),rfl⟩;rw[f5];have:(x==y)=false:=beq_eq_false_iff_ne.mpr fun q=>nd.1 (by rw[<-q];exact hm);rw[this];exact N7 nd.2 (by simpa using h)
section
variable {G:GI}{F:Nat}{O:ay}{k:Nat}
noncomputable def zX:Flow->Value
 |.ret v=>v
 |_=>.none
theorem Sl(rf:Ko G I U fl f):ao G I U (ma fl) (zX f):=by
 cases fl with
 |next=>have rf:f=.next:=rf;subst rf;rfl
 |ret v=>obtain⟨u,rfl,ru⟩:=rf;exact ru
structure dx{c:Cx}{J J':LC}{lv aJ:LV}(z:Z G c J lv)(z':Z G c J' aJ):Prop where
 im:aC z.I z'.I
 loc:aA c.de z'.U
 sh:∃ h tk,z'.s={ z.s with heap:=h,toks:=tk }
theorem dx.refl(z:Z G c J lv):dx z z:=⟨aC.refl _,z.st.pre,_,_,rfl⟩
theorem dx.step(h:dx z z')(l:z'.Le jL):dx z jL:=⟨h.im.trans l.im,h.loc.trans l.loc,gR h.sh l.sh⟩
theorem Z.Le.sk(l:z.Le z'):dx z z':=(dx.refl z).step l
def dF{c:Cx}{J:LC}{lv:LV}(z:Z G c J lv)(o:rk)(Q:Flow->Shared->Prop)(E:VP):Prop:=match o with
 |none=>False
 |some (.ok x,aJ,J')=>∀ f (z':Z G c J' aJ),dx z z'->Ko G z'.I z'.U x f->Q f z'.s
 |some (.error i,aJ,J')=>∀ e (z':Z G c J' aJ),dx z z'->eT z' i e->E e z'.s
theorem dF.kx(h:dF z o Q E):KX z o Q E:=
 match o with
 |none=>h
 |some (.ok _,_,_)=>fun b z' l r=>h b z' l.sk r
 |some (.error _,_,_)=>fun b z' l r=>h b z' l.sk r
inductive wg{c:Cx}{J:LC}{lv:LV}(z:Z G c J lv):Prop
 |mk (a:Addr) (r:Nat) (oc:Obj) (v0:Option Value) (h1:c.cl=cellsFrom a c.cs.names []) (h2:c.de.length<=r) (h3:z.U[r]?=some (.raw a oc)) (h4:oc.data=.cell v0)
def gC(G:GI)(F:Nat)(O:ay)(k:Nat)(cs:Scope)(n:Nat)(ss:List Stmt)(gp:List PS):Prop:=
 ∀ (c:Cx) J lv (z:Z G c J lv) Q E,Ready c k cs->(n=1->wg z)->dF z (aD F O c.cv gp lv J) Q E->wpAny G.M c.A (execs ss c.env) Q E z.s
theorem eg.sb(h:eg G F O k cs ss gp):gC G F O k cs n ss gp:=fun c J lv z Q E rd _ kx=>h c J lv z Q E rd kx.kx
theorem agO{fp:aB}{scope:Scope}{body:List Stmt}{full:List V}(hs:gC G F O k scope fp.eJ body fp.body)
  {c c':Cx}{J:LC}{lv:LV}{z:Z G c J lv}{xs:List V}{Q:VP}{E:VP}{oL:Obj}
  (hh:c.A.handled=none) (dT:z.s.heap.get? c.L=some oL) (rd:Ready c' k scope) (gY:c'.fr=(c.L,oL) :: c.fr) (Gq:c'.cv=me fp full) (gV:c'.de=z.U)
  (xY:vP fp xs=some full) (kv:KO (ao G) z (aq F O fp xs J) Q E)
  (z1:Z G c' (J++List.replicate fp.eJ .raw) (cW fp full)) (hI:aC z.I z1.I) (aeB:fp.eJ=1->wg z1) (iW:∃ h tk,z1.s={ z.s with heap:=h,toks:=tk }) :
  wpAny G.M c'.A (execs body c'.env) (fun f s'=>Q (match f with|.ret v=>v|_=>.none) s')
   (fun e s'=>wpAny G.M c'.A (leaving c'.env e) (fun _ mG=>E e mG) (fun e' mG=>E e' mG) s') z1.s:=by
 have ng:J.length=z.U.length:=z.st.cells.1;unfold aq at kv;rw[xY]at kv;have kv:KO (ao G) z (xd fp J.length (aD F O (me fp full) fp.body (cW fp full) (J++List.replicate fp.eJ .raw))) Q E:=kv;rw[<-Gq]at kv;refine hs c' _ _ z1 _ _ rd aeB ?_;generalize aD F O c'.cv fp.body (cW fp full) (J++List.replicate fp.eJ .raw)=o at kv ⊢;cases o with
 |none=>exact False.elim kv
 |some q=>
 obtain⟨r,bA,aa⟩:=q;cases r with
 |ok fl=>
  intro f z2 l2 rf;have kv:KO (ao G) z (yz fp J.length fl aa) Q E:=kv;show Q (zX f) _;have rv:=Sl rf;have BD:=hI.trans l2.im;have sS:aA z.U z2.U:=gV▸l2.loc;unfold yz at kv;split at kv
  ·exact kv _ ⟨z2.I,z2.U,z2.s,z.st.Fh z2.st BD sS dT gY hh⟩ ⟨BD,sS,gR iW l2.sh⟩ rv
  ·split at kv
   ·rename_i qA;obtain⟨um,le⟩:=z.st.Od z2.st BD sS dT gY hh;rw[<-ng]at um le;refine kv _ ⟨z2.I,_,z2.s,um⟩ ⟨BD,le,gR iW l2.sh⟩ (ao.cut (aA.zJ z2.U _) rv ?_);rw[gL,mq (by rw[ng];exact sS.len)];exact qA
   ·exact kv.elim
 |error i=>
  intro v z2 l2 er;have kv:KO (ao G) z (if J.length<=i/\isExc aa i=true then some (.error J.length,aa.take J.length++[.exc]) else none) Q E:=kv;split at kv
  ·rename_i hc;unfold leaving;refine au (er.xj rd.ok fun e z3 l3 he er3 kM=>?_);subst he;refine er3.vv rd.ok kM (.inl rfl) fun z4 l4 yw lU=>?_;obtain⟨e',q,Bm,fl4⟩:=yw;cases q;have l:=l2.step (l3.trans l4);have sS:aA z.U z4.U:=gV▸l.loc;obtain⟨ku,Qb,Oh⟩:=z.st.ac8 z4.st Bm (by rw[<-ng];exact hc.1) (hI.trans l.im) sS dT gY hh;rw[<-ng]at ku Oh Qb;exact kv _ ⟨z4.I,_,z4.s,ku⟩ ⟨hI.trans l.im,Oh,gR iW l.sh⟩ ⟨e,rfl,Qb,lU.vw (.inl rfl)⟩
  ·exact kv.elim
end
end
section
set_option backward.match.sparseCases true
section
variable {G:GI}{F:Nat}{O:ay}{k:Nat}
theorem Dh{α β γ:Type}{f:α->β->γ}:∀ {a:List α}{b:List β}{i:Nat}{z:γ},(List.zipWith f a b)[i]?=some z->∃ x y,a[i]?=some x/\b[i]?=some y/\z=f x y:=by
 intro a b i z h;rw[Vy]at h;cases ha:a[i]? with
 |none=>rw[ha]at h;simp at h
 |some x=>
  cases hb:b[i]? with
  |none=>rw[ha,hb]at h;simp at h
  |some y=>rw[ha,hb]at h;simp at h;exact⟨x,y,rfl,rfl,h.symm⟩
theorem Df{α β:Type}{a:List α}{b:List β}{p:α×β}(h:p∈a.zip b):∃ i:Nat,a[i]?=some p.1/\b[i]?=some p.2:=by
 obtain⟨i,hi,e⟩:=tT h;have h1:(a.zip b)[i]?=some p:=by rw[dw hi,e]
 have:=List.getElem?_zip_eq_some.mp h1;exact⟨i,this.1,this.2⟩
def C0(c:Cx)(k:Nat):Prop:=c.A.depth+3*k+21<990/\c.A.units+16*k+104<9900/\c.A.handled=none
theorem f_.call(rm:f_ c (k+1)):C0 c k:=⟨by have:=rm.1;lia,by have:=rm.2.1;lia,rm.2.2 (iI k)⟩
def Wb(Q:VP)(E:VP)(r:Result)(s':Shared):Prop:=match r with
 |.ok (.ret v)=>Q v s'
 |.ok _=>False
 |.error e=>E e s'
theorem vI:∀ {names:List (Str×NameKind)}{n:Nat}{acc:List (Str×Addr)},(acc.lookup x).isSome=true∨(x,NameKind.cell)∈names->((cellsFrom n names acc).lookup x).isSome=true
 |[],n,acc=>fun h=>by
  rcases h with h|h
  ·exact h
  ·cases h
 |(y,kd) :: r,n,acc=>fun h=>by
  unfold cellsFrom;split
  ·refine vI ?_;rcases h with h|h
   ·left;rw[f5];split<;>first|rfl|exact h
   ·rcases bY.mp h with q|h
    ·cases q;left;rw[f5,beq_self_eq_true];rfl
    ·exact .inr h
  ·rename_i hk;refine vI ?_;rcases h with h|h
   ·exact .inl h
   ·rcases bY.mp h with q|h
    ·cases q;exact absurd rfl hk
    ·exact .inr h
theorem nP.at{fp:aB}{scope:Scope}{pn:List Str}(p:nP fp scope pn){i:Nat}{x:Str}(hx:pn[i]?=some x):∃ b,fp.cm[i]?=some b/\scope.names[i]?=some (x,if b then .cell else .local)/\scope.names.lookup x=some (if b then .cell else .local):=by
 have hi:i<fp.cm.length:=by rw[p.cm,<-p.len];exact(aX.mp hx).1
 have h1:=p.names i x fp.cm[i] hx (dw hi);exact⟨_,dw hi,h1,N7 p.nd h1⟩
theorem nP.NL{scope:Scope}(p:nP fp scope pn):pn.Nodup:=by
 have:pn<+:scope.names.map (·.1):=by
  refine List.prefix_iff_getElem?.mpr fun i hi=>?_;obtain⟨b,_,h,_⟩:=p.at (dw hi);rw[eS,h];rfl
 exact VR this.sublist p.nd
theorem nP.locs{scope:Scope}(p:nP fp scope pn){full:List V}(hk:∀ x,kd x=scope.names.lookup x)(r:av G I U full us)(hf:full.length=fp.np):gb G I U scope (bindL kd (pn.zip us) fun _=>none) (cW fp full):=by
 intro i x hx;unfold cW at hx;by_cases hi:i<(List.zipWith (fun (b:Bool) (x:V)=>if b then none else some x) fp.cm full).length
 ·rw[dp hi]at hx;obtain⟨b,y,h2,h3,h4⟩:=Dh hx;have Gb:i<pn.length:=by rw[p.len,<-hf];exact(aX.mp h3).1
  obtain⟨b',lX,vk,j1⟩:=p.at (dw Gb);rw[h2]at lX;cases lX;cases b with
  |true=>cases h4
  |false=>
   cases h4;have PY:i<us.length:=by rw[r.length,hf,<-p.len];exact Gb
   obtain⟨y',e1,ry⟩:=r.get PY;rw[h3]at e1;cases e1;exact⟨pn[i],.local,us[i],vk,Tf ((hk _).trans j1) p.NL (dw Gb) (dw PY),ry⟩
 ·rw[iF (Cy hi)]at hx;have:=eP hx;rw[List.mem_replicate]at this;cases this.2
def Cx.enter(c:Cx)(oL:Obj)(scope:Scope)(qual:Str)(a:Addr)(yH:Value)(n:Addr)(U:List Loc)(cv:List (Option V)):Cx:=
 { cn:=qual,cs:=scope,fa:=a,cd:=yH,cl:=cellsFrom (n+1) scope.names [],L:=n,A:=c.A.deeper (envX qual scope n a yH (cellsFrom (n+1) scope.names [])),outer:=c.env :: c.outer,fr:=(c.L,oL) :: c.fr,cv:=cv,de:=U }
theorem Sk{scope:Scope}{qual:Str}(ok:cx c)(rm:C0 c k)(hk:scope.kind=.function)(nd:(scope.names.map (·.1)).Nodup)(dT:∃ en q,oL.data=.dict en q):Ready (c.enter oL scope qual a yH n U cv) k scope:=
 ⟨rfl,⟨hk,Vx ok.frames,ok.guards,nd,⟨⟨rfl,by rw[ok.kind];decide,dT⟩,ok.outer⟩,fun x hx=>vI (.inr (mem_of_lookup hx))⟩,
  by have:=rm.1;show c.A.depth+1+3*k+20<990;lia,by have:=rm.2.1;show c.A.units+3+16*k+100<9900;lia,fun _=>rm.2.2⟩
theorem Ht{fp:aB}{full:List V}(h:∀ b∈fp.cm,b=false){i:Nat}{y:V}(e:(me fp full)[i]?=some (some y)):False:=by
 obtain⟨b,y,h2,h3,h4⟩:=Dh e;rw[h b (eP h2)]at h4;cases h4
def Cx.vB(c:Cx)(oL:Obj)(fd:FuncData)(a:Addr)(n:Addr)(U:List Loc)(cv:List (Option V)):Cx:=c.enter oL fd.scope fd.qualname a fd.code n U cv
theorem TQ{xs full:List V}(h:vP fp xs=some full):xs.length<=fp.np/\fp.np-fp.dY.length<=xs.length/\full=xs++fp.dY.drop (xs.length-(fp.np-fp.dY.length)):=by
 unfold vP at h;split at h
 ·rename_i q;exact⟨q.1,q.2,(aU h).symm⟩
 ·cases h
theorem aiF{xs full:List V}(h:vP fp xs=some full)(hd:fp.dY.length<=fp.np):full.length=fp.np:=by
 obtain⟨h1,h2,rfl⟩:=TQ h;rw[bz,IF];generalize hf:fp.np-fp.dY.length=f at h2;have e:f+fp.dY.length=fp.np:=by rw[<-hf,pF hd]
 obtain⟨m,hm⟩:=Nat.le.dest h2;rw[<-hm,<-e]at h1;rw[<-hm,<-e,tQ,v9,IE (Nat.le_of_add_le_add_left h1)]
inductive Ent{c:Cx}{J:LC}{lv:LV}(z:Z G c J lv)(c':Cx)(eJ:Nat)(aJ:LV)(s1:Shared):Prop
 |mk (J':LC) (z1:Z G c' J' aJ) (dB:J'=J++List.replicate eJ .raw) (hs:z1.s=s1) (hI:aC z.I z1.I) (hr:eJ=1->wg z1)
theorem HH(e:o.data=.cell v):k_ o:=fun q=>by obtain⟨_,ts,q⟩:=q;rw[e]at q;cases q
theorem afZ(K:C_ fp fd.scope.names pn)(P:nP fp fd.scope pn)(z:Z G c J lv){full:List V}
  (qC:av G z.I z.U full us) (jy:full.length=fp.np)
  (hm:m=bindC (callEnvC fd z.s.heap.objs.size a).kindOf (pn.zip us) fun _=>none)
  (hx:∀ x r,(cellsFrom (z.s.heap.objs.size+1) fd.scope.names []).lookup x=some r->∃ o,s1.heap.get? r=some o/\o.data=.cell (m x))
  (uo:St G (c.vB oL fd a z.s.heap.objs.size z.U []) z.I z.U J (cW fp full) s1):Ent z (c.vB oL fd a z.s.heap.objs.size z.U (me fp full)) fp.eJ (cW fp full) s1:=by
 have sT:z.s.heap.objs.size+1∉owned (c.vB oL fd a z.s.heap.objs.size z.U []) z.U:=by
  intro hm;rcases bY.mp (show z.s.heap.objs.size+1∈z.s.heap.objs.size :: owned c z.U from hm)with q|hm
  ·exact IJ _ q
  ·exact absurd (z.st.lt hm) (fG.mpr (i_ _))
 have qy:z.I (z.s.heap.objs.size+1)=none:=z.st.mX (i_ _);cases K with
 |no h0 iY iX=>
  have st:St G (c.vB oL fd a z.s.heap.objs.size z.U (me fp full)) z.I z.U J (cW fp full) s1:=uo.recv fun i y e=>(Ht iY e).elim;exact⟨_,⟨_,_,_,st⟩,by rw[h0];exact(dM J).symm,rfl,aC.refl _,fun q=>by rw[h0]at q;cases q⟩
 |par j y h0 hj iY hp iX=>
  have kN:(cellsFrom (z.s.heap.objs.size+1) fd.scope.names []).lookup y=some (z.s.heap.objs.size+1):=by rw[iX,f5,beq_self_eq_true]
  obtain⟨b,lX,vk,j1⟩:=P.at hp;have hbt:b=true:=by rw[iY j b lX];simp
  subst hbt;have PV:j<us.length:=by rw[qC.length,jy];exact hj
  obtain⟨oc,nk,oN⟩:=hx y _ kN;rw[hm,Ti (by rw[Env.kindOf];show fd.scope.names.lookup y≠_;rw[j1];simp) P.NL hp (dw PV)]at oN;have st:St G (c.vB oL fd a z.s.heap.objs.size z.U (me fp full)) _ z.U J (cW fp full) s1:=(uo.VY qy nk sT (HH oN)).recv fun i y' e=>by
   obtain⟨b,yv,h2,h3,h4⟩:=Dh e;have hb:=iY i b h2;cases b with
   |false=>cases h4
   |true=>
    have dJ:i=j:=by simpa using hb
    subst dJ;cases h4;obtain⟨y2,e1,ry⟩:=qC.get PV;rw[h3]at e1;cases e1;exact⟨y,.cell,z.s.heap.objs.size+1,us[i],oc,vk,kN,jM _ _ _,oN,ry.mono (fe qy) (aA.refl _)⟩
  exact⟨_,⟨_,_,_,st⟩,by rw[h0];exact(dM J).symm,rfl,fe qy,fun q=>by rw[h0]at q;cases q⟩
 |own y h1 iY hny hl iX=>
  have kN:(cellsFrom (z.s.heap.objs.size+1) fd.scope.names []).lookup y=some (z.s.heap.objs.size+1):=by rw[iX,f5,beq_self_eq_true]
  obtain⟨oc,nk,oN⟩:=hx y _ kN
  have st:St G (c.vB oL fd a z.s.heap.objs.size z.U (me fp full)) _ _ (J++[.raw]) (cW fp full) s1:=(uo.grow (l:=.raw (z.s.heap.objs.size+1) oc) (y:=.raw) (uo.lL (by simp[Loc.aK]) fun b hb=>by simp only[Loc.aK,b_]at hb;subst hb;exact sT)
   (fun b hb=>by simp only[Loc.aK,b_]at hb;subst hb;exact qy) ⟨nk,HH oN⟩ rfl).recv fun i y e=>(Ht iY e).elim
  exact⟨_,⟨_,_,_,st⟩,by rw[h1];rfl,rfl,aC.refl _,fun _=>⟨z.s.heap.objs.size+1,z.U.length,oc,_,rfl,aG _,bx,oN⟩⟩
theorem S1{fp:aB}{fd:FuncData}{body:List Stmt}{a:Addr}(g:bH G)(f:rE G a fp fd body)(hs:gC G F O k fd.scope fp.eJ body fp.body)
  {c:Cx}{J:LC}{lv:LV}{z:Z G c J lv}{xs:List V}{vs:List Value}{Q:VP}{E:VP}
  (ok:cx c) (rm:C0 c k) (rx:av G z.I z.U xs vs) (kv:KO (ao G) z (aq F O fp xs J) Q E) :
  codeAny G.M c.A (.call (.ref a) ⟨vs,[]⟩) (Wb Q E) z.s:=by
 cases f with|mk o pn bZ keep hK hd hb he hc code BZ bind dY dl P cells kind co gen=>
 have jv:=z.sI g;refine dk (P:=_) (id kv) fun full xY _=>?_;have jy:=aiF xY dl;obtain⟨h1,h2,qC⟩:=TQ xY;have hlen:=rx.length;rw[<-hlen]at h1 h2 qC;have vm:=bind z.s vs jv h1 h2;have rf:av G z.I z.U full (vs++bZ.drop (vs.length-(fp.np-fp.dY.length))):=qC▸rx.append ((dY z.I z.U z.st.h0).drop _);clear bind dY qC h1 h2 hlen;generalize vs++bZ.drop (vs.length-(fp.np-fp.dY.length))=us at vm rf
 obtain⟨m0,⟨oL,es,ep,dT,xW,_⟩,_⟩:=z.st.loc;refine Vw (dN (e_ (cL _ (3*k+21)) (by rw[<-v9];exact rm.1)) ⋯) (jv _ _ hK) hd co gen hb (codeRec_of jv code) ?_;rw[hc];refine vm _ _ _ _ (ID kind (fun x hx=>?_) fun env e s1 x1=>?_)
 ·obtain⟨i,h1,h2⟩:=Df hx;obtain⟨b,lX,vk,j1⟩:=P.at h1;cases b with
  |false=>exact .inl j1
  |true=>exact .inr ⟨j1,vI (.inr (mem_of_lookup j1))⟩
 ·have e:env=callEnvC fd z.s.heap.objs.size a:=e;subst e;obtain⟨h1,jg,rfl,kO⟩:=x1.done;refine⟨(g.lim.keeps fun b o e=>z.st.im _ _ (z.st.h0 _ _ e)).keeps kO,codeAny_func ?_⟩;have ns:=x1.toInCall.ns;have cell:=x1.cell;rw[he]at ns cell ⊢;obtain⟨J',z1,dB,jW,hI,hr⟩:=afZ cells P z (oL:=oL) (a:=a) rf jy rfl (by rw[he];exact cell)
   (z.st.enter kO (aG _) ns dT rfl rfl rfl rm.2.2 BZ (P.locs (fun x=>by rw[Env.kindOf]) rf jy))
  subst dB;rw[<-jW];exact agO hs rm.2.2 dT (Sk ok rm kind P.nd ⟨es,ep,xW⟩) rfl rfl rfl xY kv z1 hI hr ⟨h1,jg,jW⟩
theorem agM{fp:aB}{fd:FuncData}{body:List Stmt}{a:Addr}(g:bH G)(f:rE G a fp fd body)(hs:gC G F O k fd.scope fp.eJ body fp.body)
  {c:Cx}{J:LC}{lv:LV}{z:Z G c J lv}{xs:List V}{vs:List Value}{Q:VP}{E:VP}
  (ok:cx c) (rm:f_ c (k+1)) (rx:av G z.I z.U xs vs) (kv:KO (ao G) z (aq F O fp xs J) Q E) :
  wpAny G.M c.A (call (.ref a) vs) Q E z.s:=
 y_ (IC (S1 g f hs ok rm.call rx kv) fun r s' h=>by rcases r with e|(v|_|_|_)<;>exact h)
end
end
section
open Builtin Builtin.ObjectAttr
inductive rH where
 |o (o:Obj)
 |v (v:Value) (Q:Shared->Prop)
abbrev Cr:=Around->Code->(Result->List rH->Shared->Prop)->List rH->Shared->Prop
def HK(M:Model)(A:Around)(c:Code)(v:Value)(Q:Shared->Prop):Shared->Prop:=
 codeAny M A c fun r s=>r=.ok (.ret v)/\Q s
noncomputable def Wk{α:Type}(M:Model)(A:Around)(cr:Cr)(c:Code)(Q:α->List rH->Shared->Prop)(E:VP):Sem α->List rH->Shared->Prop
 |.pure a,l,s=>Q a l s
 |.raise e,_,s=>E e s
 |.rule _ k,l,s=>Wk M A cr c Q E (k ()) l s
 |.at _ k,l,s=>Wk M A cr c Q E (k ()) l s
 |.point _ k,l,s=>Wk M A cr c Q E (k ()) l s
 |.ask k,l,s=>Wk M A cr c Q E (k ⟨M.prog,M.w.params⟩) l s
 |.load a _ k,l,s=>match l with
  |.o o :: l=>s.heap.get? a=some o/\Wk M A cr c Q E (k o) l s
  |_=>False
 |.alloc o k,l,s=>Wk M A cr c Q E (k s.heap.objs.size) l { s with heap:=s.heap.push o }
 |.fresh k,l,s=>Wk M A cr c Q E (k s.toks) l { s with toks:=s.toks+1 }
 |.update a _ f k,l,s=>(s.heap.get? a).isSome/\Wk M A cr c Q E (k ()) l { s with heap:=s.heap.update a f }
 |.stack k,l,s=>∀ b p,Wk M A cr c Q E (k ((c,p) :: b)) l s
 |.call d none _ _ k,l,s=>match l with
  |.v u Q0 :: l=>HK M A d u Q0 s/\∀ s',Q0 s'->Wk M A cr c Q E (k (.ok (.ret u))) l s'
  |_=>cr A d (fun r l s=>Wk M A cr c Q E (k r) l s) l s
 |_,_,_=>False
noncomputable def Rn(M:Model)(den:Code->Sem Fin):Nat->Cr
 |0=>fun _ _ _ _ _=>False
 |n+1=>fun A c R l s=>Wk M (A.under c) (Rn M den n) c (fun fin l s=>match fin with|.done f=>R (.ok f) l s|.again c'=>c'.quiet=true/\Rn M den n A c' R l s) (fun e s=>R (.error e) [] s) (den c) l s
def Wa(M:Model)(cr:Cr):Prop:=∀ A c R l s,cr A c R l s->codeAny M A c (fun r s=>∃ l,R r l s) s
theorem KA{α:Type}{M:Model}{A:Around}{cr:Cr}(hc:Wa M cr){Γ:PySem.Ctx}(sQ:Γ.In A){Q:α->List rH->Shared->Prop}{E:VP}(t:Sem α) :
  ∀ (p:Pos) (l:List rH) (s:Shared),Wk M A cr Γ.code Q E t l s->Sem.wp M Γ t (fun a _ s=>∃ l,Q a l s) (fun e _ s=>E e s) p s:=by
 induction t with
 |pure a=>exact fun _ l _ h=>⟨l,h⟩
 |raise e=>exact fun _ _ _ h=>h
 |rule _ k ih=>exact ih ()
 |«at» p k ih=>exact fun _=>ih () p
 |point _ k ih=>exact ih ()
 |ask k ih=>exact ih _
 |load a _ k ih=>exact fun p l s h=>match l,h with
  |.o o :: l,h=>⟨o,h.1,ih o p l s h.2⟩
 |alloc o k ih=>exact fun p l s h=>ih _ p l _ h
 |fresh k ih=>exact fun p l s h=>ih _ p l _ h
 |update a _ f k ih=>exact fun p l s h=>⟨h.1,ih () p l _ h.2⟩
 |stack k ih=>exact fun p l s h=>ih _ p l s (h Γ.below p)
 |call d hd gu lv k ih=>
  intro p l s h;cases hd with
  |some v=>exact h.elim
  |none=>
   have en:=sQ.enter d none p (fun q=>by cases q);have desc:cr A d (fun r l s=>Wk M A cr Γ.code Q E (k r) l s) l s->Sem.wp M Γ (.call d none gu lv k) (fun a _ s=>∃ l,Q a l s) (fun e _ s=>E e s) p s:=fun h=>by
    obtain⟨r,s',h1,l',h2⟩:=hc A d _ l s h _ p rfl en;exact⟨r,s',h1,ih r p l' s' h2⟩
   match l,h,desc with
   |.v u Q0 :: l,h,_=>
    obtain⟨_,s',h1,rfl,h2⟩:=h.1 _ p rfl en;exact⟨_,s',h1,ih _ p l s' (h.2 s' h2)⟩
   |[],h,desc=>exact desc h
   |.o _ :: l,h,desc=>exact desc h
 |_=>exact fun _ _ _ h=>h.elim
theorem zW(M:Model)(hd:M.den=den):∀ n,Wa M (Rn M den n)
 |0=>fun _ _ _ _ _ h=>h.elim
 |n+1=>fun A c R l s h=>PySem.codeAny_of_treeAt fun Γ p hc sQ=>by
  subst hc hd;refine Sem.wp_mono M Γ _ (fun fin p' s' h'=>?_) (fun _ _ _ h'=>⟨[],h'⟩) p s (KA (zW M rfl n) sQ _ p l s h);obtain⟨l',h'⟩:=h';cases fin with
  |done f=>exact⟨l',h'⟩
  |again c'=>exact⟨h'.1,zW M rfl n A c' R l' s' h'.2⟩
variable {α:Type}{prog:Program}{w:World}{A:Around}{Q:α->Shared->Prop}{E:VP}{R:Result->Shared->Prop}{s:Shared}{t:Sem α}
theorem wk(n:Nat)(l:List rH){P:Prop}(h:P)(e:∀ c,P=Wk (model prog w) A (Rn (model prog w) (denote treeTable) n) c (fun a _ s=>Q a s) E t l s):wpAny (model prog w) A t Q E s:=fun Γ p sQ=>
 Sem.wp_mono _ Γ _ (fun _ _ _ ⟨_,h⟩=>h) (fun _ _ _ h=>h) p s (KA (zW _ (congrArg denote table_eq_tree) n) sQ t p l s (e Γ.code▸h))
theorem rn(n:Nat)(l:List rH){P:Prop}(h:P)(e:P=Rn (model prog w) (denote treeTable) n A c (fun r _ s=>R r s) l s):codeAny (model prog w) A c R s:=fun Γ p hc sQ=>
 let ⟨r,s',h1,_,h2⟩:=zW _ (congrArg denote table_eq_tree) n A c _ l s (e▸h) Γ p hc sQ
 ⟨r,s',h1,h2⟩
def An(n:Nat)(X P:Prop):Prop:=Nat.rec P (fun _ Q=>X/\Q) n
theorem an{X P:Prop}(x:X)(p:P):∀ n,An n X P
 |0=>p
 |n+1=>⟨x,an x p n⟩
end
open Builtin Builtin.ObjectAttr
noncomputable def QJ:List Value:=[.ref 47,.type "Exception",.type "BaseException",.type "object"]
noncomputable def sO(x:String)(t:Nat):Option Value:=some (.str (Str.ofString x) t)
def bM:Obj:=excClassObj (Str.ofString "GrammarFault") (Str.ofString "GrammarFault") 72 71 [.ref 47] QJ true [] [] false none none (some (.ref 63)) none (sO "GrammarFault" 252) (sO "GrammarFault" 260) (some (.bool true)) "Exception.__new__"
def ie:Obj:=excClassObj (Str.ofString "LedgerError") (Str.ofString "LedgerError") 47 46 [.type "Exception"] QJ.tail true [] [.ref 60,.ref 72] false none none (some (.ref 22)) none (sO "LedgerError" 196) (sO "LedgerError" 204) (some (.bool true)) "Exception.__new__"
noncomputable def NB(f:Nat->Int):Nat->List (String×Nat×Value)->List DictEntry
 |_,[]=>[]
 |n,(x,t,v) :: r=>⟨f n,.str (Str.ofString x) t,v⟩ :: NB f (n+1) r
def dI(f:Nat->Int)(l:List (String×Nat×Value))(n:Nat):Obj:={ cls:=.type "dict",data:=.dict (NB f 0 l).toArray n }
noncomputable def led:Value:=.str (Str.ofString "ledgerspeak.errors") 194
def il:List (String×Nat×Value):=[("__module__",203,led),("__firstlineno__",207,.int 5 206),("__init__",218,.ref 37),("told",225,.ref 44),("__static_attributes__",228,.ref 45),("__weakref__",230,.ref 48),("__doc__",231,.none)]
def ik:List (String×Nat×Value):=[("__module__",259,led),("__firstlineno__",263,.int 16 262),("__static_attributes__",264,.ref 70),("__doc__",265,.none)]
noncomputable def bodyOf(s:Stmt):List Stmt:=if h:s.ctorIdx=2 then Stmt.ClassDef.elim s h fun _ _ _ b _ _ _ _ _ _ _=>b else []
noncomputable def fdOf(s:Stmt):Option (Arguments×List Stmt×Scope):=if h:s.ctorIdx=0 then Stmt.FunctionDef.elim s h fun _ a b _ _ _ sc _ _ _=>some (a,b,sc) else none
noncomputable def mK:List Stmt:=PySem.Challenge.pw_pc0155_01.main.body
def Ho:Arguments×List Stmt×Scope:=((((mK[2]?.elim [] bodyOf)[0]?).bind fdOf).getD (⟨[],[],none,[],[],none,[]⟩,[],⟨.function,[],false,false,[]⟩))
def BV:FuncData:=fnX (Str.ofString "__init__") (Str.ofString "LedgerError.__init__") Ho.1 Ho.2.1 Ho.2.2 [] (.ref 30) .none .none led none (.ref 36) .none
def qd:Obj:={ cls:=.type "function",data:=.func BV }
noncomputable def K9(x y:Value):Obj:={ cls:=.type "tuple",data:=.seq #[x,y] }
noncomputable def vp(n:Addr):Obj:={ cls:=.ref 72,data:=.fields #[.ref n,.none,.none,.none,.bool false,.none] }
def iA(h:Heap)(x y:Value):Heap:=(h.push (K9 x y)).push (vp h.objs.size)
def j3(h:Heap)(x y:Value):Addr:=(h.push (K9 x y)).objs.size
structure pK(h:Heap)(f g:Nat->Int):Prop where
 fw:h.get? 72=some bM
 qS:h.get? 47=some ie
 qR:h.get? 71=some (dI f ik 2)
 qT:h.get? 46=some (dI g il 3)
 yI:h.get? 37=some qd
theorem pK.keeps{h h':Heap}{f g:Nat->Int}(k:pK h f g)(q:∀ a o,h.get? a=some o->h'.get? a=some o):pK h' f g:=⟨q _ _ k.fw,q _ _ k.qS,q _ _ k.qR,q _ _ k.qT,q _ _ k.yI⟩
theorem QK{h:Heap}{x y:Value}(a:Addr)(o:Obj)(e:h.get? a=some o):(iA h x y).get? a=some o:=bD _ (bD _ e)
section
variable {prog:Program}{w:World}{A:Around}{Q:VP}{E:VP}{s:Shared}{x y:Value}{f g:Nat->Int}
theorem afj(k:pK s.heap f g)(hc:HK (model prog w) (A.under (.builtin "type.__call__" ⟨[.ref 72,x,y],[]⟩)) (.call (.ref 37) ⟨[.ref (j3 s.heap x y),x,y],[]⟩) .none Q0 { s with heap:=iA s.heap x y })
  (h:∀ s',Q0 s'->Q (.ref (j3 s.heap x y)) s'):wpAny (model prog w) A (call (.ref 72) [x,y]) Q E s:=by
 have k2:=k.keeps (QK (x:=x) (y:=y));have ke:(iA s.heap x y).get? (j3 s.heap x y)=some (vp s.heap.objs.size):=CI rfl rfl;exact wk 30 (List.replicate 23 (.o bM)++[.o (vp s.heap.objs.size),.o bM,.o (vp s.heap.objs.size),.o bM,.o bM,.o (dI f ik 2),.o ie,.o (dI g il 3),.o qd,.v .none Q0])
  (P:=An 2 (s.heap.get? 72=some bM) (true=true/\An 1 (s.heap.get? 72=some bM) (true=true/\An 10 (s.heap.get? 72=some bM) (true=true/\∀ (_:List (Code×Pos)) (_:Pos),An 9 (s.heap.get? 72=some bM)
   ((iA s.heap x y).get? 72=some bM/\(iA s.heap x y).get? (j3 s.heap x y)=some (vp s.heap.objs.size)/\(iA s.heap x y).get? 72=some bM/\(iA s.heap x y).get? (j3 s.heap x y)=some (vp s.heap.objs.size)/\An 2 ((iA s.heap x y).get? 72=some bM)
    ((iA s.heap x y).get? 71=some (dI f ik 2)/\(iA s.heap x y).get? 47=some ie/\(iA s.heap x y).get? 46=some (dI g il 3)/\(iA s.heap x y).get? 37=some qd /\
     (HK (model prog w) (A.under (.builtin "type.__call__" ⟨[.ref 72,x,y],[]⟩)) (.call (.ref 37) ⟨[.ref (j3 s.heap x y),x,y],[]⟩) .none Q0 { s with heap:=iA s.heap x y }/\∀ s',Q0 s'->Q (.ref (j3 s.heap x y)) s')))))))
  (an k.fw ⟨rfl,an k.fw ⟨rfl,an k.fw ⟨rfl,fun _ _=>an k.fw ⟨k2.fw,ke,k2.fw,ke,an k2.fw ⟨k2.qR,k2.qS,k2.qT,k2.yI,hc,h⟩ 2⟩ 9⟩ 10⟩ 1⟩ 2) fun c=>by kernel_rfl
end
noncomputable def cJ(n:Addr)(d:Option Addr):Obj:={ cls:=.ref 72,dict:=d,data:=.fields #[.ref n,.none,.none,.none,.bool false,.none] }
noncomputable def dO:Obj:={ cls:=.type "dict",data:=.dict #[] }
noncomputable def putD(w:World)(x:String)(t:Nat)(v:Value)(o:Obj):Obj:=Obj.putName (Str.ofString x) (reduceHash (w.params.strHash (Str.ofString x).cps)) (.str (Str.ofString x) t) v o
noncomputable def wV(d:Addr)(o:Obj):Obj:={ o with dict:=some d }
noncomputable def u0(h:Heap)(e:Addr)(x:Value):Heap:=(h.push { cls:=.type "tuple",data:=.seq #[x] }).update e (Obj.mapFields (·.setIfInBounds 0 (.ref h.objs.size)))
def r9(h:Heap)(e:Addr)(u:Obj->Obj):Heap:=((h.push dO).update e (wV h.objs.size)).update h.objs.size u
section
variable {prog:Program}{w:World}{A:Around}{h:Heap}{gs:Array GenState}{dr:Drawn}{tk:Nat}{os:OsState}{x y v:Value}{f g:Nat->Int}{e n d:Addr}{E:VP}
theorem afi{Q:VP}(k:pK h f g)(he:h.get? e=some (cJ n none))(hq:Q .none ⟨u0 h e x,gs,dr,tk,os⟩):wpAny (model prog w) A (call (.builtin "Exception.__init__") [.ref e,x]) Q E ⟨h,gs,dr,tk,os⟩:=by
 have dK:(h.push { cls:=.type "tuple",data:=.seq #[x] }).get? e=some (cJ n none):=bD _ he;exact wk 30 [.o (cJ n none),.o bM,.o (cJ n none),.o bM,.o (cJ n none),.o (cJ n none)]
  (P:=h.get? e=some (cJ n none)/\h.get? 72=some bM/\h.get? e=some (cJ n none)/\h.get? 72=some bM/\true=true /\
   (h.push { cls:=.type "tuple",data:=.seq #[x] }).get? e=some (cJ n none)/\(h.push { cls:=.type "tuple",data:=.seq #[x] }).get? e=some (cJ n none)/\((h.push { cls:=.type "tuple",data:=.seq #[x] }).get? e).isSome=true/\Q .none ⟨u0 h e x,gs,dr,tk,os⟩)
  ⟨he,k.fw,he,k.fw,rfl,dK,dK,by rw[dK];rfl,hq⟩ fun c=>by kernel_rfl
theorem afh{Q:Unit->Shared->Prop}(k:pK h f g)(he:h.get? e=some (cJ n none))(hq:∀ a t,Q () ⟨r9 h e (putD w "what" a x),gs,dr,t,os⟩) :
  wpAny (model prog w) A (setAttr (.ref e) (Str.ofString "what") x) Q E ⟨h,gs,dr,tk,os⟩:=by
 have ne:h.objs.size≠e:=fun q=>by have:=cS he;rw[<-q]at this;exact iG _ this
 have dK:(h.push dO).get? e=some (cJ n none):=bD _ he;have hd:((h.push dO).update e (wV h.objs.size)).get? h.objs.size=some dO:=(dq _ _ _ _ ne).trans (CI rfl rfl);exact wk 30 [.o (cJ n none),.o bM,.o bM,.o (dI f ik 2),.o ie,.o (dI g il 3),.o (cJ n none),.o bM,.o (cJ n none),.o bM,.o (cJ n none),.o bM,.o bM,.o (dI f ik 2),.o ie,.o (dI g il 3),.o (cJ n none),.o bM,.o dO,.o (putD w "what" (tk+1) x dO)]
  (P:=h.get? e=some (cJ n none)/\An 2 (h.get? 72=some bM) (h.get? 71=some (dI f ik 2)/\h.get? 47=some ie/\h.get? 46=some (dI g il 3)/\h.get? e=some (cJ n none)/\h.get? 72=some bM/\true=true /\
   h.get? e=some (cJ n none)/\h.get? 72=some bM/\h.get? e=some (cJ n none)/\An 2 (h.get? 72=some bM) (h.get? 71=some (dI f ik 2)/\h.get? 47=some ie/\h.get? 46=some (dI g il 3)/\h.get? e=some (cJ n none)/\h.get? 72=some bM /\
   ((h.push dO).get? e).isSome=true/\((h.push dO).update e (wV h.objs.size)).get? h.objs.size=some dO/\(((h.push dO).update e (wV h.objs.size)).get? h.objs.size).isSome=true /\
   (r9 h e (putD w "what" (tk+1) x)).get? h.objs.size=some (putD w "what" (tk+1) x dO)/\Q () ⟨r9 h e (putD w "what" (tk+1) x),gs,dr,tk+1+1,os⟩)))
  ⟨he,an k.fw ⟨k.qR,k.qS,k.qT,he,k.fw,rfl,he,k.fw,he,an k.fw ⟨k.qR,k.qS,k.qT,he,k.fw,by rw[dK];rfl,hd,by rw[hd];rfl,kc _ hd rfl,hq _ _⟩ 2⟩ 2⟩ fun c=>by kernel_rfl
theorem afg{x:Value}{Q:Unit->Shared->Prop}(k:pK h f g)(he:h.get? e=some (cJ n (some d)))(hd:h.get? d=some (putD w "what" t x dO))
  (hq:∀ a t,Q () ⟨h.update d (putD w "at" a y),gs,dr,t,os⟩):wpAny (model prog w) A (setAttr (.ref e) (Str.ofString "at") y) Q E ⟨h,gs,dr,tk,os⟩:=
 wk 30 [.o (cJ n (some d)),.o bM,.o bM,.o (dI f ik 2),.o ie,.o (dI g il 3),.o (cJ n (some d)),.o bM,.o (cJ n (some d)),.o bM,.o (cJ n (some d)),.o bM,.o bM,.o (dI f ik 2),.o ie,.o (dI g il 3),.o (cJ n (some d)),.o bM,.o (putD w "what" t x dO),.o (putD w "at" (tk+1) y (putD w "what" t x dO))]
  (P:=h.get? e=some (cJ n (some d))/\An 2 (h.get? 72=some bM) (h.get? 71=some (dI f ik 2)/\h.get? 47=some ie/\h.get? 46=some (dI g il 3)/\h.get? e=some (cJ n (some d))/\h.get? 72=some bM/\true=true /\
   h.get? e=some (cJ n (some d))/\h.get? 72=some bM/\h.get? e=some (cJ n (some d))/\An 2 (h.get? 72=some bM) (h.get? 71=some (dI f ik 2)/\h.get? 47=some ie/\h.get? 46=some (dI g il 3)/\h.get? e=some (cJ n (some d))/\h.get? 72=some bM /\
   h.get? d=some (putD w "what" t x dO)/\(h.get? d).isSome=true/\(h.update d (putD w "at" (tk+1) y)).get? d=some (putD w "at" (tk+1) y (putD w "what" t x dO))/\Q () ⟨h.update d (putD w "at" (tk+1) y),gs,dr,tk+1+1,os⟩)))
  ⟨he,an k.fw ⟨k.qR,k.qS,k.qT,he,k.fw,rfl,he,k.fw,he,an k.fw ⟨k.qR,k.qS,k.qT,he,k.fw,hd,by rw[hd];rfl,kc _ hd rfl,hq _ _⟩ 2⟩ 2⟩ fun c=>by kernel_rfl
end
theorem Ln(args:Args):(Code.builtin "type.__call__" args).weight<=2:=by
 have h1:(Code.builtin "type.__call__" args).frames=0:=by rfl
 have h2:(Code.builtin "type.__call__" args).isCaller=false:=by rfl
 unfold Code.weight;rw[h1,h2];split<;>split<;>simp
noncomputable def aga:List Stmt:=
 [.Expr (.Call (.Attribute (.Name (Str.ofString "Exception") ⟨8,8,8,17⟩) (Str.ofString "__init__") ⟨8,8,8,26⟩) [.Name (Str.ofString "self") ⟨8,27,8,31⟩,.Name (Str.ofString "what") ⟨8,33,8,37⟩] [] ⟨8,8,8,38⟩) ⟨8,8,8,38⟩,
  .Assign [.Attribute (.Name (Str.ofString "self") ⟨9,8,9,12⟩) (Str.ofString "what") ⟨9,8,9,17⟩] (.Name (Str.ofString "what") ⟨9,20,9,24⟩) ⟨9,8,9,24⟩,
  .Assign [.Attribute (.Name (Str.ofString "self") ⟨10,8,10,12⟩) (Str.ofString "at") ⟨10,8,10,15⟩] (.Name (Str.ofString "at") ⟨10,18,10,20⟩) ⟨10,8,10,20⟩]
noncomputable def Hn:Scope:=⟨.function,[(Str.ofString "self",.local),(Str.ofString "what",.local),(Str.ofString "at",.local),(Str.ofString "Exception",.globalImplicit)],false,false,[]⟩
noncomputable def sy:Obj:={ cls:=.type "tuple",data:=.seq #[.ref 29] }
structure C9(K:Frag):Prop where
 k:∃ f g,K.lookup 72=some bM/\K.lookup 47=some ie/\K.lookup 71=some (dI f ik 2)/\K.lookup 46=some (dI g il 3)/\K.lookup 37=some qd
 k30:K.lookup 30=some sy
 code:codeIn K (.ref 36) (Str.ofString "LedgerError.__init__")=true
 ai:findCls K (.type "Exception") (.type "type") (Str.ofString "__init__")=some (.val (.builtin "Exception.__init__"))
 glob:nsIn K mainGlobals (Str.ofString "Exception")=some none
 keep:keepIn K (.ref d_)=true
theorem af8:∀ x∈[Str.ofString "self",Str.ofString "what",Str.ofString "at"],BV.scope.names.lookup x=some .local:=by decide +kernel
theorem af9{h:Heap}(h30:s.heap.get? 30=some sy)(a b c:Value):BindsTo s BV ⟨[a,b,c],[]⟩ [(Str.ofString "self",a),(Str.ofString "what",b),(Str.ofString "at",c)]:=
 kp_binds (K:=[(30,sy)]) (fun a o e=>by
  rw[f5]at e;split at e
  ·rename_i q;cases e;rw[beq_iff_eq.mp q];exact h30
  ·cases e) fun S=>by kernel_rfl
section
variable {G:GI}
noncomputable def tw(e x y:Value):Str->Option Value:=fun z=>[(Str.ofString "self",e),(Str.ofString "what",x),(Str.ofString "at",y)].reverse.lookup z
theorem eK(h:Hn.names.lookup x=some k):(envX (Str.ofString "LedgerError.__init__") Hn L 37 (.ref 36) []).kindOf x=some k:=h
theorem afO:typeOf (.type "Exception")=pure (.type "type"):=by kernel_rfl
set_option maxHeartbeats 4000000 in
theorem acQ(g:bH G)(em:C9 G.K)(hd:A.depth+10<1000)(hH:∀ a o,G.H.get? a=some o->s.heap.get? a=some o)
  (h:∀ h' e tk,(∀ b o,s.heap.get? b=some o->h'.get? b=some o)->s.heap.get? e=none->(∃ oe vs a1,h'.get? e=some oe/\oe.cls=.ref d_/\oe.data=.fields vs/\vs[0]?=some a1/\vs[1]?=some .none/\vs[2]?=some .none)->Q (.ref e) { s with heap:=h',toks:=tk }) :
  wpAny G.M A (call (.ref d_) [v1,v2]) Q E s:=by
 obtain⟨hp,gs,dr,tk0,os⟩:=s;have X:G.K.In hp:=fun a o e=>hH _ _ (g.K a o e);obtain⟨f,g',fw,qS,qR,qT,yI⟩:=em.k;have gk:pK hp f g':=⟨X _ _ fw,X _ _ qS,X _ _ qR,X _ _ qT,X _ _ yI⟩;refine afj gk (Q0:=fun s'=>Q (.ref (j3 hp v1 v2)) s') ?_ fun _ q=>q;have k1:=QK (h:=hp) (x:=v1) (y:=v2);have aY:∀ b o,hp.get? b=some o->b<j3 hp v1 v2:=fun b o q=>cS (bD _ q)
 have jX:hp.get? (j3 hp v1 v2)=none:=by
  cases q:hp.get? (j3 hp v1 v2)with
  |none=>rfl
  |some o=>exact absurd (aY _ _ q) (iG _)
 have lV:(iA hp v1 v2).get? (j3 hp v1 v2)=some (cJ hp.objs.size none):=CI rfl rfl;have Gx:∀ a o,G.H.get? a=some o->(iA hp v1 v2).get? a=some o:=fun a o q=>k1 a o (hH a o q);generalize iA hp v1 v2=h1 at k1 lV Gx;generalize j3 hp v1 v2=e at h aY jX lV;have X1:G.K.In h1:=X.keeps k1;refine codeAny_call_def (fd:=BV) (binds:=[(Str.ofString "self",.ref e),(Str.ofString "what",v1),(Str.ofString "at",v2)]) ?_ (X1 _ _ yI) rfl (g.lim.keeps Gx) (codeRec_of X1 em.code) rfl (af9 (h:=h1) (X1 _ _ em.k30) _ _ _) (by decide +kernel) (fun x hx=>af8 x.1 (pd hx)) ?_
 ·have:=Ln ⟨[.ref d_,v1,v2],[]⟩;show A.depth+(Code.builtin "type.__call__" ⟨[.ref d_,v1,v2],[]⟩).weight<1000;lia
 intro h2 aeH Bo;obtain⟨loose,mg,mb,TR⟩:=g.top;have Qw:∀ b o,G.H.get? b=some o->(h1.hide e).get? b=some o:=fun b o q=>(Heap.hide_ne _ (dG (aY b o (hH b o q)))).trans (Gx b o q);have TR1:TopRead G.prog loose mg mb (h1.hide e):=TR.keeps Qw;have Xb:G.K.In (h1.hide e):=fun a o q=>Qw _ _ (g.K a o q);have heL:e≠h1.objs.size:=dG (cS lV);have fr:∀ {h':Heap},(∀ b o,b≠e->h2.get? b=some o->h'.get? b=some o)->Fr (h1.hide e) h1.objs.size h' (tw (.ref e) v1 v2):=fun {h'} k=>by
  obtain⟨oL,es,ep,hL,r⟩:=aeH;refine⟨⟨oL,es,ep,k _ _ (nO heL) hL,r⟩,fun b o q=>k _ _ (fun z=>?_) (Bo _ _ (Heap.of_hide q)),by rw[Heap.hide_size];exact aG _⟩;rw[z,Heap.hide_self]at q;cases q
 have F2:=fr fun _ _ _ q=>q;have kk:∀ {h':Heap},(∀ b o,b≠e->h2.get? b=some o->h'.get? b=some o)->∀ b o,hp.get? b=some o->h'.get? b=some o:=fun k b o q=>k b o (dG (aY b o q)) (Bo _ _ (k1 _ _ q));show wpAny _ _ (execs aga (envX (Str.ofString "LedgerError.__init__") Hn h1.objs.size 37 (.ref 36) [])) _ _ _;refine kb (wpAny_Expr_any ?_ rfl rfl);refine E4 rfl rfl (by show 2<30;decide) rfl ?_
 refine nameX_B F2 Xb TR1 em.glob (v:=.type "Exception") (by rfl) ⋯ ?_ rfl (eK rfl) ⋯;intro pl;refine method_type F2 Xb afO (by rfl) em.ai (by rfl) ?_;refine nH rfl ?_;refine ka ?_ (gQ rfl);refine tL (m:=tw (.ref e) v1 v2) (F:=F2) (v:=.ref e) rfl ?_ rfl (eK rfl) ⋯;refine ka ?_ (gQ rfl);refine tL (m:=tw (.ref e) v1 v2) (F:=F2) (v:=v1) rfl ?_ rfl (eK rfl) ⋯
 refine nJ ⟨⟨.machine,.inr (.inl rfl),zf rfl⟩,?_⟩;have jZ:=Bo _ _ lV;have GB:∀ {h':Heap},(∀ b o,b≠e->h2.get? b=some o->h'.get? b=some o)->pK h' f g':=fun k=>gk.keeps (kk k);refine afi (GB fun _ _ _ q=>q) jZ ?_;have xV:(u0 h2 e v1).get? e=some (cJ h2.objs.size none):=kc _ (bD _ jZ) rfl;have xQ:∀ b o,b≠e->h2.get? b=some o->(u0 h2 e v1).get? b=some o:=fun b o n q=>(dq _ _ _ _ n).trans (bD _ q)
 have uR:∀ b o,h2.get? b=some o->b<(u0 h2 e v1).objs.size:=fun b o q=>by
  by_cases n:b=e
  ·rw[n];exact cS xV
  ·exact cS (xQ b o n q)
 generalize u0 h2 e v1=h3 at xV xQ uR;have F3:=fr xQ;refine kb (IX ?_ rfl);refine tL (m:=tw (.ref e) v1 v2) (F:=F3) (v:=v1) rfl ?_ rfl (eK rfl) ⋯;refine tL (m:=tw (.ref e) v1 v2) (F:=F3) (v:=.ref e) rfl ?_ rfl (eK rfl) ⋯;refine afh (GB xQ) xV ?_;have ne:e≠h3.objs.size:=dG (cS xV);have ed:((h3.push dO).update e (wV h3.objs.size)).get? h3.objs.size=some dO:=(dq _ _ _ _ (nO ne)).trans (CI rfl rfl)
 intro a t;have xU:(r9 h3 e (putD G.w "what" a v1)).get? e=some (cJ h2.objs.size (some h3.objs.size)):=(dq _ _ _ _ ne).trans (kc _ (bD _ xV) rfl);have xX:(r9 h3 e (putD G.w "what" a v1)).get? h3.objs.size=some (putD G.w "what" a v1 dO):=kc _ ed rfl;have Bn:∀ b o,b≠e->h2.get? b=some o->(r9 h3 e (putD G.w "what" a v1)).get? b=some o:=fun b o n q=>
  (dq _ _ _ _ (dG (uR b o q))).trans ((dq _ _ _ _ n).trans (bD _ (xQ b o n q)))
 generalize r9 h3 e (putD G.w "what" a v1)=h4 at xU xX Bn;have F4:=fr Bn;refine kb (IX ?_ rfl);refine tL (m:=tw (.ref e) v1 v2) (F:=F4) (v:=v2) rfl ?_ rfl (eK rfl) ⋯;refine tL (m:=tw (.ref e) v1 v2) (F:=F4) (v:=.ref e) rfl ?_ rfl (eK rfl) ⋯;refine afg (GB Bn) xU xX fun a t=>(pD ⟨rfl,h _ e _ (fun b o q=>?_) jX ⟨_,_,_,(dq _ _ _ _ ne).trans xU,rfl,rfl,rfl,rfl,rfl⟩⟩)
 exact(dq _ _ _ _ (dG (uR b o (Bo _ _ (k1 _ _ q))))).trans (kk Bn b o q)
end
section
variable {G:GI}{F:Nat}{O:ay}{k:Nat}{c:Cx}{I I2:Im}{U jK:List Loc}{J aj:LC}{lv:LV}{s s2:Shared}
noncomputable def Cx.qp(c:Cx)(A:Around):Cx:={ c with A:=A }
theorem St.around(st:St G c I U J lv s)(hh:A.handled=none):St G (c.qp A) I U J lv s:=
 ⟨st.im,st.h0,st.above,st.loc,st.dW,st.cells,st.nd,st.fresh,st.fV,st.pre,fun v hv=>(by
  have qq:A.handled=some v:=hv
  rw[hh]at qq;cases qq),st.fh,st.cN,st.tabs,st.fi,st.code,st.gens,st.os⟩
theorem St.W7(st:St G (c.qp A) I U J lv s)(hh:c.A.handled=none):St G c I U J lv s:=
 ⟨st.im,st.h0,st.above,st.loc,st.dW,st.cells,st.nd,st.fresh,st.fV,st.pre,fun v hv=>(by rw[hh]at hv;cases hv),st.fh,st.cN,st.tabs,st.fi,st.code,st.gens,st.os⟩
noncomputable def qo:Cl->Nat
 |.token=>154
 |.fu=>397
 |.reader=>565
noncomputable def B3(a:Nat):Option Cl:=if a=164 then some .token else if a=477 then some .fu else if a=719 then some .reader else none
def Q_(as:List V):Ev V:=oa as fun _ _ J=>some (.ok (.ref J.length),J++[.exc])
def zE(n:Nat)(SQ:Cl)(l:List V):Ev V:=fun J=>if SQ=.token/\l.length=4/\lows n l=true then some (.ok (.obj .token l),J.take n) else none
def GU(cl:Cl)(n:Nat):Ev V:=match cl with
 |.token=>mU n (zE n)
 |_=>Ev.ret (.ref n)
def xn(cl:Cl)(n:Nat)(o:Out V):Out V:=match o with
 |none=>none
 |some (r,J')=>match r with
  |.ok v=>uH v (GU cl n) J'
  |.error _=>none
def N1(F:Nat)(O:ay)(fp:aB)(cl:Cl)(as:List V):Ev V:=fun J=>xn cl J.length (aq F O fp (.ref J.length :: as) (J++[.ins cl []]))
structure Kq(K:Frag):Prop where
 makes:∀ c,makesIn K (bG c)=true
 init:∀ c,findIn K (.ref (bG c)) (Str.ofString "__init__")=some (some (.ref (qo c)))
 fn:∀ c,typeIn K (.ref (qo c))=some (.type "function")
 keep:∀ c,keepIn K (.ref (bG c))=true
theorem WV{A:Around}{args:Args}{l:List Code}(h:A.guards=some l):(A.under (.builtin "type.__call__" args)).guards=some l:=by
 have:(Code.builtin "type.__call__" args).guards=[]:=by rfl
 unfold Around.under;rw[this,h]<;>rfl
theorem WW{A:Around}{args:Args}{l:List Env}(h:A.frames=some l):(A.under (.builtin "type.__call__" args)).frames=some l:=by
 have:(Code.builtin "type.__call__" args).envs=[]:=by rfl
 unfold Around.under;rw[this,h]<;>rfl
theorem WU{A:Around}{args:Args}:(A.under (.builtin "type.__call__" args)).units=A.units+1:=by
 have:(Code.builtin "type.__call__" args).cUnits=1:=by rfl
 show A.units+_=_;rw[this]
theorem acp{z:Z G c J lv}{n i:Nat}{l:Loc}{d:Addr}(hl:z.U[i]?=some l)(hd:d∈l.aK)(hi:n<=i)(hn:n<=z.U.length):d∉owned c (z.U.take n):=by
 intro hm;have Bu:d∈cK z.U:=eE.mpr ⟨_,eP hl,hd⟩;have nd:=z.st.nd;unfold owned at nd hm;rcases bY.mp hm with q|hm
 ·exact(dE.mp nd).1 (fb _ (q▸Bu))
 ·rcases hU.mp hm with hm|hm
  ·exact(jE.mp (dE.mp nd).2).2.2 d hm d Bu rfl
  ·obtain⟨l2,sV,vn⟩:=eE.mp hm;obtain⟨j,hj,e1⟩:=tT sV;have gH:j<n:=dN hj (by rw[gL];exact vT _ _);have e2:z.U[j]?=some l2:=by rw[<-wc gH,dw hj,e1]
   exact iG _ (dN gH ((oi z.st.om hl e2 hd vn)▸hi))
theorem afA{z:Z G c J lv}{cl:Cl}{aa:LC}{z':Z G c aa lv}{x:Addr}{Q:VP}{E:VP}(hh:c.A.handled=none)(l:z.Le z'){lo:Loc}(hl:z'.U[J.length]?=some lo)(hx:lo.addr=x)(kv:KO (ao G) z (GU cl J.length aa) Q E):Q (.ref x) z'.s:=by
 have ng:J.length=z.U.length:=z.st.cells.1;have plain:KO (ao G) z (some (.ok (.ref J.length),aa)) Q E->Q (.ref x) z'.s:=fun kv=>kv _ z' l (Exists.intro lo ⟨hl,by rw[hx]⟩);cases cl with
 |fu=>exact plain kv
 |reader=>exact plain kv
 |token=>
  have kv:KO (ao G) z (mU J.length (zE J.length) aa) Q E:=kv;refine OH kv fun SQ l' aeW kv=>?_;unfold zE at kv;split at kv
  ·rename_i hc;obtain⟨rfl,h4,qA⟩:=hc;have hc:=z'.st.cells.2 _ _ _ hl aeW;cases lo<;>try exact False.elim hc
   rename_i xa da;obtain⟨hi0,us,es,m0,Bw,Qa,hrs⟩:=hc;obtain⟨um,uR⟩:=z.st.SA z'.st l.loc l.im hh;have Bu:da∈cK z'.U:=eE.mpr ⟨_,eP hl,by simp[Loc.aK]⟩;have oS:z'.I da=none:=z'.st.fresh da (.tail _ (fb _ Bu));have rU:=um.ra oS Bw (acp hl (by simp[Loc.aK]) (eR ng.symm) l.loc.len) (by simp);rw[<-ng]at rU uR
   refine kv _ ⟨_,_,z'.s,rU⟩ ⟨l.im.trans (fe oS),uR,l.sh⟩ ?_
   have aeV:av G z'.I (z'.U.take J.length) l' us:=av.cut (aA.zJ z'.U _) hrs (by
    rw[gL,mq (by rw[ng];exact l.loc.len)];exact qA)
   refine Exists.intro xa ⟨da,us,es,m0,by rw[<-hx];rfl,fe oS _ _ hi0,jM _ _ _,?_,aeV.mono (fe oS) (aA.refl _)⟩;rw[h4]at Qa;exact Qa
  ·exact kv.elim
theorem agK{fp:aB}{fd:FuncData}{body:List Stmt}{cl:Cl}(g:bH G)(mk:Kq G.K)(f:rE G (qo cl) fp fd body)(hs:gC G F O k fd.scope fp.eJ body fp.body)
  {z:Z G c J lv}{xs:List V}{vs:List Value}{Q:VP}{E:VP}
  (ok:cx c) (rm:f_ c (k+1)) (rx:av G z.I z.U xs vs) (kv:KO (ao G) z (N1 F O fp cl xs J) Q E) :
  wpAny G.M c.A (call (.ref (bG cl)) vs) Q E z.s:=by
 have hh:c.A.handled=none:=rm.2.2 (iI k);have jv:=z.sI g;refine y_ ?_;refine make_core (makes_of jv (mk.makes cl)) (CQ jv (mk.init cl)) (fun self=>bind_fn jv self (mk.fn cl)) (.inl rfl) ?_;have ng:J.length=z.U.length:=z.st.cells.1;have uk:=z.st.keep (tk:=z.s.toks) (h':=z.s.heap.push emptyDict) fun _ _ e=>bD _ e;have uj:=uk.push (o:=instObj (bG cl) z.s.heap.objs.size) (tk:=z.s.toks) rfl (by simp)
 have FL:(z.s.heap.push emptyDict).objs.size=z.s.heap.objs.size+1:=CH ..;have Gn:upd z.I (z.s.heap.push emptyDict).objs.size (instObj (bG cl) z.s.heap.objs.size) z.s.heap.objs.size=none:=by
  unfold upd;rw[if_neg (by rw[FL];exact dG (eQ _))];exact z.st.new.1
 have Gm:((z.s.heap.push emptyDict).push (instObj (bG cl) z.s.heap.objs.size)).get? z.s.heap.objs.size=some (dictOf [] 0):=bD _ (gN _ rfl);have stC:=uj.grow (l:=.ins (z.s.heap.push emptyDict).objs.size z.s.heap.objs.size) (y:=.ins cl []) (uj.lL (by simp[Loc.aK]) fun a ha=>by simp only[Loc.aK,b_]at ha;subst ha;exact z.st.new.2)
  (fun a ha=>by simp only[Loc.aK,b_]at ha;subst ha;exact Gn) ⟨jM _ _ _,[],[],0,Gm,trivial,rfl⟩ rfl
 have Qu:=uk.sz (o:=instObj (bG cl) z.s.heap.objs.size);generalize hA:c.A.under (.builtin "type.__call__" ⟨.ref (bG cl) :: vs,[]⟩)=A1;have QA:A1.handled=none:=by rw[<-hA];exact hh
 have MW:cx (c.qp A1)/\C0 (c.qp A1) k:=by
  subst hA;have h1:=rm.1;have h2:=rm.2.1;have h3:=Ln ⟨.ref (bG cl) :: vs,[]⟩;refine⟨⟨ok.kind,WW ok.frames,WV ok.guards,ok.nodup,ok.outer,ok.cells⟩,?_,?_,QA⟩
  ·show c.A.depth+(Code.builtin "type.__call__" ⟨.ref (bG cl) :: vs,[]⟩).weight+3*k+21<990;lia
  ·show(c.A.under (.builtin "type.__call__" ⟨.ref (bG cl) :: vs,[]⟩)).units+16*k+104<9900;rw[WU];lia
 let zD:Z G (c.qp A1) (J++[.ins cl []]) lv:=⟨_,_,_,stC.around QA⟩;have Pt:zD.U[J.length]?=some (.ins (z.s.heap.push emptyDict).objs.size z.s.heap.objs.size):=by rw[ng];exact bx
 have aax:ao G zD.I zD.U (.ref J.length) (.ref (z.s.heap.objs.size+1)):=by
  exact Exists.intro _ ⟨Pt,by rw[<-FL];rfl⟩
 have kv:KO (ao G) z (xn cl J.length (aq F O fp (.ref J.length :: xs) (J++[.ins cl []]))) Q E:=kv
 refine IC (S1 (z:=zD) (Q:=fun v s'=>v=.none/\Q (.ref (z.s.heap.objs.size+1)) s') (E:=fun e s'=>E e s') g f hs MW.1 MW.2
  (xs:=.ref J.length :: xs) (vs:=.ref (z.s.heap.objs.size+1) :: vs) (Exists.intro _ ⟨_,rfl,aax,rx.mono Qu (aA.app _ _)⟩) ?_) fun r s' q=>by rcases r with e|(v|_|_|_)<;>exact q
 generalize aq F O fp (.ref J.length :: xs) (J++[.ins cl []])=o at kv ⊢
 match o,kv with
 |some (.ok v1,aa),kv=>
  intro b z' l rb;have kv:KO (ao G) z (uH v1 (GU cl J.length) aa) Q E:=kv;refine AK kv rb (P:=fun b=>b=.none/\_) fun kv=>⟨rfl,?_⟩;obtain⟨lo,hl,ha⟩:=l.loc.get Pt;exact afA (c:=c) (z:=z) (z':=⟨z'.I,z'.U,z'.s,z'.st.W7 hh⟩) hh ⟨Qu.trans l.im,(aA.app _ _).trans l.loc,gR ⟨_,_,rfl⟩ l.sh⟩ hl (ha.trans FL) kv
theorem agN{z:Z G c J lv}{xs:List V}{vs:List Value}{Q:VP}{E:VP}(g:bH G)(em:C9 G.K)
  (rm:f_ c k) (rx:av G z.I z.U xs vs) (kv:KO (ao G) z (Q_ xs J) Q E) :
  wpAny G.M c.A (call (.ref d_) vs) Q E z.s:=by
 refine qi kv rx (P:=fun vs=>wpAny G.M c.A (call (.ref d_) vs) Q E z.s) fun x y v u r1 r2 kv=>?_;refine acQ g em (by have:=rm.1;lia) (fun a o e=>z.st.im _ _ (z.st.h0 _ _ e)) fun h' e tk hk hn he=>?_;obtain⟨oe,us,a1,g1,g2,g3,g4,g5,g6⟩:=he;have jN:=z.st.keep (tk:=tk) hk;have hIe:z.I e=none:=by
  cases q:z.I e with
  |none=>rfl
  |some o=>have:=z.st.im _ _ q;rw[hn]at this;cases this
 have hoe:e∉owned c z.U:=by
  intro hm;unfold owned at hm;rcases bY.mp hm with q|hm
  ·obtain⟨m,⟨o,_,_,ho,_⟩,_⟩:=z.st.loc;rw[<-q,hn]at ho;cases ho
  ·rcases hU.mp hm with hm|hm
   ·obtain⟨p,hp,q⟩:=pv.mp hm;obtain⟨sl,e1⟩:=z.st.dW p hp;rw[q,hn]at e1;cases e1
   ·obtain⟨o,e1,_⟩:=z.st.cells.there hm;rw[hn]at e1;cases e1
 have dQ:=jN.grow (l:=.exc e) (y:=.exc) (jN.lL (by simp[Loc.aK]) fun a ha=>by simp only[Loc.aK,b_]at ha;subst ha;exact hoe)
  (fun a ha=>by simp only[Loc.aK,b_]at ha;subst ha;exact hIe) ⟨oe,us,a1,.none,.none,g1,g2,g3,g4,g5,.inl rfl,g6,.nil⟩ rfl
 refine kv.new dQ (aC.refl _) (aA.app _ _) ?_;exact Exists.intro _ ⟨by rw[z.st.cells.1];exact bx,rfl⟩
end
section
variable {G:GI}{k:Nat}{cs:Scope}{c:Cx}{I:Im}{U:List Loc}{J:LC}{lv:LV}{s:Shared}
theorem agE{scope:Scope}(h:∀ y∈scope.names,y.2=.free->(env.cells.lookup y.1).isSome=true):∃ dZ,closureFor scope env=pure dZ:=by
 have key:∀ (names:List (Str×NameKind)) (acc:List (Str×Addr)),(∀ y∈names,y.2=.free->(env.cells.lookup y.1).isSome=true) ->
   ∃ dZ,(forIn names acc fun (x:Str×NameKind) (r:List (Str×Addr))=>(if x.2==NameKind.free then (do let a <-cellOf env x.1;pure (ForInStep.yield ((x.1,a) :: r))) else pure (ForInStep.yield r):Sem (ForInStep (List (Str×Addr)))))=pure dZ:=by
  intro names;induction names with
  |nil=>intro acc _;exact⟨acc,by rw[List.forIn_nil]⟩
  |cons y r ih=>
   intro acc hr;rw[IB];by_cases hf:y.2=.free
   ·obtain⟨a,ha⟩:=Option.isSome_iff_exists.mp (hr y (.head _) hf);have hc:cellOf env y.1=pure a:=by unfold cellOf;rw[ha]
    obtain⟨dZ,e⟩:=ih ((y.1,a) :: acc) fun z hz=>hr z (.tail _ hz);refine⟨dZ,?_⟩;rw[if_pos (by rw[hf];rfl),hc];exact e
   ·obtain⟨dZ,e⟩:=ih acc fun z hz=>hr z (.tail _ hz);refine⟨dZ,?_⟩;rw[if_neg (by simpa using hf)];exact e
 obtain⟨dZ,e⟩:=key scope.names [] h;refine⟨dZ,?_⟩;unfold closureFor;show(forIn scope.names [] _>>=fun cs=>pure cs)=pure dZ
 have:(forIn scope.names ([]:List (Str×Addr)) fun (x:Str×NameKind) (r:List (Str×Addr))=>(match x,r with
   |(name,kind),cs=>if (kind==NameKind.free)=true then (do let a <-cellOf env name;pure (ForInStep.yield ((name,a) :: cs))) else pure (ForInStep.yield cs):Sem (ForInStep (List (Str×Addr)))))=pure dZ:=e
 first
  |(rw[this];rfl)
  |(erw [this];rfl)
theorem St.tabAt(st:St G c I U J lv s){i:Nat}{P:Addr}{jP:Array Value}{pos:Pos}{q:Str}(ht:G.tabs[i]?=some (.tab P jP pos q)):U[i]?=some (.tab P jP pos q)/\J[i]?=some .tab/\CX I s.heap P jP pos q:=by
 obtain⟨t,e⟩:=st.tabs;have h1:U[i]?=some (.tab P jP pos q):=by
  rw[<-e,dp (aX.mp ht).1];exact ht
 have hi:i<J.length:=by rw[st.cells.1];exact(aX.mp h1).1
 have hc:=st.cells.2 i _ _ h1 (dw hi);rw[dw hi];cases hy:J[i]<;>rw[hy]at hc<;>try exact False.elim hc
 exact⟨h1,rfl,hc⟩
theorem adz{s:Shared}{name qual:Str}{params:Arguments}{body:Expr}{scope:Scope}{c P:Addr}{firstLine:Nat}
  {dZ:List (Str×Addr)} (dm:closureFor scope env=pure dZ) (aeP:env.globals=mainGlobals) (hg:s.heap.Ns mainGlobals mg) (qF:env.code=.ref c) (C:CodeHd s.heap c P) (hP:s.heap.get? P=some (tabObj ps)) (ht:TriplesOk ps.toList)
  (ju:codeAmong pos ps.toList=none) (P5:mainGlobals≠P) (hb:s.heap.BuiltinsAt mg P)
  (h:∀ c' gz h' tk,Heap.ExtBut P s.heap h'->s.heap.objs.size<=c'->c'<h'.objs.size->h'.CodeRec (.ref c') qual->(∃ oc,h'.get? c'=some oc/\oc.cls=.type "code")->h'.get? P=some (tabObj (ps++#[rawInt pos.line,rawInt pos.col,.ref c'])) ->
   Q (.ref h'.objs.size) { s with heap:=h'.push (kla_obj name qual params body scope dZ ((mg (Str.ofString "__name__")).getD .none) c' gz),toks:=tk }) :
  wpAny M A (makeFunction name qual params (.expr body) scope env [] [] [] pos firstLine) Q E s:=by
 rw[makeFunction_eq];simp only[Vv,List.filterMap_nil,Vu,if_true,pure_bind];obtain⟨bm,ob,Ql,PH,_,PG,Qj,fm,Qd,Qe⟩:=hb;unfold makeTail;rw[dm,aeP];refine au (a_ ?_);cases dZ with
 |nil=>
  simp only[Vu,if_true];refine au (a_ ?_);refine au (wpAny_functionCodeX qF (C.code hP ht) (C.tab hP) ju fun c' h' tk hx ba aP _ xN iw qy=>?_);have s7:=hg.extBut hx P5;refine au (wpAny_builtinsFor s7 Ql PH (hx _ _ PG Qj) fm Qd Qe ?_);refine au (wpAny_nsGet s7 ?_);obtain⟨P',_,_,⟨oc,vs,q1,q2,_⟩,_⟩:=qy;exact au (a_ (tU (h c' .none h' tk hx ba aP xN ⟨oc,q1,q2⟩ iw.2) (by size_fits)))
 |cons q r=>
  simp only[List.isEmpty_cons,pG,if_false];refine au (wpAny_newTextTuple ?_);refine au (wpAny_functionCodeX qF ((C.keeps fun b o e=>bD _ e).code (bD _ hP) ht) ((C.keeps fun b o e=>bD _ e).tab (bD _ hP)) ju fun c' h' tk hx ba aP _ xN iw qy=>?_);have s7:=(hg.push _).extBut hx P5
  have Ph:Heap.ExtBut P s.heap h':=fun b o vm e=>hx b o vm (bD _ e);have aeQ:s.heap.objs.size<=c':=ak (by rw[CH];lia) ba;refine au (wpAny_builtinsFor s7 Ql PH (Ph _ _ PG Qj) fm Qd Qe ?_);refine au (wpAny_nsGet s7 ?_);obtain⟨P',_,_,⟨oc,vs,q1,q2,_⟩,_⟩:=qy;exact au (a_ (tU (h c' _ h' tk Ph aeQ aP xN ⟨oc,q1,q2⟩ iw.2) (by size_fits)))
theorem NZ(g:bH G)(z:Z G c J lv){i:Nat}{P C:Addr}{jP:Array Value}{pos:Pos}{q:Str}{params:Arguments}{body:Expr}{scope:Scope}{A:Around}{E:VP}{Q:VP}
  (ht:G.tabs[i]?=some (.tab P jP pos q)) (Bz:c.cd=.ref C) (xR:codeHdIn G.K C P=true) (hq:q=c.cn++Str.ofString ".<locals>."++Str.ofString "<lambda>") (yb:mainGlobals≠P)
  (Gl:defaultsOf params c.env=([],[])) (ve:∀ y∈scope.names,y.2=.free->(c.cl.lookup y.1).isSome=true)
  (h:∀ (f:Addr) (z':Z G c J lv) c' gz pm dZ oc vs t,closureFor scope c.env=pure dZ->z.Le z'->z'.I f=some (kla_obj (Str.ofString "<lambda>") q params body scope dZ pm c' gz) ->
   z'.I c'=some oc->oc.data=.fields vs->vs[1]?=some (.str q t)->Q (.ref f) z'.s) :
  wpAny G.M A (eval (.Lambda params body scope pos) c.env) Q E z.s:=by
 obtain⟨hl,dB,ps,more,hP,xO,A_,aeX⟩:=z.st.tabAt ht;obtain⟨mg,hg,hb⟩:=g.lam;have hPm:P∈cK z.U:=eE.mpr ⟨_,eP hl,by simp[Loc.aK]⟩;have hPI:z.I P=none:=z.st.fresh P (.tail _ (fb _ hPm));have hPH:G.H.get? P=none:=by
  cases q:G.H.get? P with
  |none=>rfl
  |some o=>have:=z.st.h0 _ _ q;rw[hPI]at this;cases this
 have PU:∀ a o,G.H.get? a=some o->z.s.heap.get? a=some o:=fun a o e=>z.st.im _ _ (z.st.h0 _ _ e);have P0:z.s.heap.Ns mainGlobals mg:=hg.keeps PU;have Qi:z.s.heap.BuiltinsAt mg P:=by
  obtain⟨bm,o,b1,b2,b3,b4,b5,b6⟩:=hb P hPH;exact⟨bm,o,b1,b2,b3,b4,PU _ _ b5,b6⟩
 have hC:CodeHd z.s.heap C P:=codeHd_of_K (z.sI g) xR;obtain⟨dZ,Bx⟩:=agE (scope:=scope) (env:=c.env) ve;refine kla_eval Gl ?_;have hqq:c.env.qual++Str.ofString "<lambda>"=q:=hq.symm;show wpAny _ _ (makeFunction (Str.ofString "<lambda>") (c.env.qual++Str.ofString "<lambda>") params (.expr body) scope c.env [] [] [] pos pos.line) _ _ _;rw[hqq];rcases aeX with ju|⟨c',oc,vs,t,hf,hI,hd,hv⟩
 ·refine adz (mg:=mg) Bx rfl P0 Bz hC hP A_ ju yb Qi fun c' gz h' tk hx ba aP xN fm iw=>?_;obtain⟨c2,oc,vs,t,e2,nk,hd,hv⟩:=xN;cases e2;obtain⟨oc',q1,q2⟩:=fm;rw[nk]at q1;cases q1;let fo:=kla_obj (Str.ofString "<lambda>") q params body scope dZ ((mg "__name__").getD .none) c' gz;have Qp:(h'.push fo).get? P=some (tabObj (ps++#[rawInt pos.line,rawInt pos.col,.ref c'])):=bD _ iw
  let qq:=(h'.push fo).update P fun _=>tabObj ps;have hvP:qq.get? P=some (tabObj ps):=kc _ Qp rfl;have A7:∀ a,a≠P->qq.get? a=(h'.push fo).get? a:=fun a n=>dq _ _ _ _ n;have kp:∀ a o,z.s.heap.get? a=some o->qq.get? a=some o:=fun a o e=>by
   by_cases n:a=P
   ·obtain rfl:=n.symm;rw[hP]at e;cases e;exact hvP
   ·rw[A7 a n];exact bD _ (hx a o n e)
  have uk:=z.st.keep (tk:=tk) kp;have Qt:P<z.s.heap.objs.size:=cS hP;have hcP:c'≠P:=kf (dN Qt ba);have sT:∀ a,z.s.heap.objs.size<=a->a∉owned c z.U:=fun a ha hm=>absurd (z.st.lt hm) (fG.mpr ha);have uj:=uk.ra (a:=c') (o:=oc) (z.st.mX ba) ((A7 _ hcP).trans (bD _ nk)) (sT _ ba) (by rw[q2];simp);have Gg:z.s.heap.objs.size<=h'.objs.size:=ak ba (fH aP)
  have hfP:h'.objs.size≠P:=kf (dN Qt Gg);have vf:upd z.I c' oc h'.objs.size=none:=by unfold upd;rw[if_neg (kf aP)];exact z.st.mX Gg
  have stC:=uj.ra (a:=h'.objs.size) (o:=fo) vf ((A7 _ hfP).trans (gN _ rfl)) (sT _ Gg) (by show Value.type "function"≠_;simp);have l2:aC (upd z.I c' oc) (upd (upd z.I c' oc) h'.objs.size fo):=fe vf;have Qh:upd (upd z.I c' oc) h'.objs.size fo c'=some oc:=l2 _ _ (jM _ _ _)
  have LY:=stC.setCell (i:=i) (l:=.tab P jP pos q) (y:=.tab) (h':=h'.push fo) (tk:=tk) hl (fun a o ha e=>by
   have n:a≠P:=by simpa[Loc.aK]using ha
   rw[<-A7 a n];exact e) ⟨ps++#[rawInt pos.line,rawInt pos.col,.ref c'],more++#[rawInt pos.line,rawInt pos.col,.ref c'],Qp,by rw[xO,Array.append_assoc],by
    rw[Vt];exact TriplesOk_snoc _ _ _ _ A_,.inr ⟨c',oc,vs,t,by rw[Vt];exact codeAmong_snoc _ A_ ju,Qh,hd,hv⟩⟩ rfl
  have oJ:J.set i .tab=J:=by
   apply q5;intro j;by_cases dJ:i=j
   ·subst dJ;rw[d0 (aX.mp dB).1,dB]
   ·rw[bW dJ]
  rw[oJ]at LY;exact h h'.objs.size (z.go LY) c' gz _ dZ oc vs t Bx (Z.ez ((fe (z.st.mX ba)).trans l2) (aA.refl _)) (jM _ _ _) Qh hd hv
 ·refine kla_makeFunctionHit (mg:=mg) Bx rfl P0 Bz hC hP A_ hf Qi fun gz h' tk hk hsz=>?_;have uk:=z.st.keep (tk:=tk) (h':=h'.push { cls:=.type "function",data:=.func (kla_fn (Str.ofString "<lambda>") q params body scope dZ ((mg (Str.ofString "__name__")).getD .none) (.ref c') gz) }) fun a o e=>bD _ (hk a o e);have vf:z.I h'.objs.size=none:=z.st.mX hsz;have uj:=uk.ra vf (gN _ rfl) (fun hm=>absurd (z.st.lt hm) (fG.mpr hsz)) (by simp)
  exact h h'.objs.size (z.go uj) c' gz _ dZ oc vs t Bx (Z.ez (fe vf) (aA.refl _)) (jM _ _ _) (fe vf _ _ hI) hd hv
end
noncomputable def uT:PE:=.cmp .isIn (.loc 0) (.tup [.str [70,88],.str [70,89]])
def Fp(as:List V):Ev V:=oa as fun x y=>sv (aO cI [some x,some y] [] uT)
noncomputable def adG:aB:={ np:=2,nl:=2,dY:=[],cm:=[false,false],eJ:=0,keep:=true,body:=[] }
noncomputable def lq:Str:=Str.ofString "_law_read.<locals>.<lambda>"
noncomputable def nx:Str:=Str.ofString "name"
noncomputable def ny:Str:=Str.ofString "qualifiers"
def lp:Arguments:=⟨[],[⟨nx,none,⟨614,46,614,50⟩⟩,⟨ny,none,⟨614,52,614,62⟩⟩],none,[],[],none,[]⟩
def lb:Expr:=.Compare (.Name nx ⟨614,64,614,68⟩) [.In] [.Tuple [.Constant (.str (Str.ofString "FX")) 0 ⟨614,73,614,77⟩,.Constant (.str (Str.ofString "FY")) 0 ⟨614,79,614,83⟩] 0 ⟨614,72,614,84⟩] ⟨614,64,614,84⟩
def ls:Scope:=⟨.function,[(nx,.local),(ny,.local)],false,false,[]⟩
theorem adD(pm yH ct a b:Value):bindArgs (kla_fn (Str.ofString "<lambda>") lq lp lb ls [] pm yH ct) ⟨[a,b],[]⟩=pure [(nx,a),(ny,b)]:=by kernel_rfl
theorem Fo:nP adG ls [nx,ny] where
 len:=rfl
 cm:=rfl
 names i x b h1 h2:=by
  match i,h1,h2 with
  |0,h1,h2=>cases h1;cases h2;rfl
  |1,h1,h2=>cases h1;cases h2;rfl
  |i+2,h1,_=>cases h1
 nd:=by decide +kernel
inductive V_(I:Im)(a:Addr):Prop
 |mk (pm c' gz:_) (oc:Obj) (vs:Array Value) (t:Nat) (h1:I a=some (kla_obj (Str.ofString "<lambda>") lq lp lb ls [] pm c' gz)) (h2:I c'=some oc) (h3:oc.data=.fields vs) (h4:vs[1]?=some (.str lq t))
structure wj(G:GI):Prop where
 iff:∀ I a,G.zq I a↔V_ I a
 body:SE G cI 0 ls lb uT
 code:∀ cd cn,G.codeOk ls cd cn
section
variable {G:GI}{k:Nat}{c:Cx}{J:LC}{lv:LV}{α β:Type}{Rep:mv α β}{z:Z G c J lv}
theorem agL(g:bH G)(lo:wj G)
  (ok:cx c) (rm:f_ c (k+1)) (rv:ao G z.I z.U .lam v) (rx:av G z.I z.U xs vs) (kv:KO (ao G) z (Fp xs J) Q E) :
  wpAny G.M c.A (call v vs) Q E z.s:=by
 obtain⟨a,rfl,vc⟩:=rv;obtain⟨pm,c1,gz,oc,us,t,hf,BA,Bw,Pk⟩:=(lo.iff z.I a).mp vc;have hh:c.A.handled=none:=rm.2.2 (iI k);refine qi kv rx (P:=fun vs=>wpAny G.M c.A (call (.ref a) vs) Q E z.s) fun x y v1 v2 r1 r2 kv=>?_;obtain⟨m0,⟨oL,es,ep,dT,xW,_⟩,_⟩:=z.st.loc;refine y_ (kla_callFunE (fd:=kla_fn (Str.ofString "<lambda>") lq lp lb ls [] pm (.ref c1) gz) (by have:=rm.1;show c.A.depth<1000;lia) (z.st.im _ _ hf) rfl rfl rfl rfl ⟨c1,oc,us,t,rfl,z.st.im _ _ BA,Bw,Pk⟩ ?_)
 rw[adD];refine a_ (ID rfl (fun q hq=>?_) fun env he s1 x1=>?_)
 ·obtain⟨i,h1,h2⟩:=Df (a:=[nx,ny]) (b:=[v1,v2]) hq;obtain⟨b,lX,vk,j1⟩:=Fo.at h1;cases b with
  |false=>exact .inl j1
  |true=>match i,lX with
   |i+2,lX=>cases lX
 ·subst he;obtain⟨h1,jg,rfl,kO⟩:=x1.done;refine⟨(g.lim.keeps fun b o e=>z.st.im _ _ (z.st.h0 _ _ e)).keeps kO,?_⟩;have qC:av G z.I z.U [x,y] [v1,v2]:=Ek (r1) (r2);have uo:St G (c.enter oL ls lq a (.ref c1) z.s.heap.objs.size z.U []) z.I z.U J [some x,some y] { z.s with heap:=h1,toks:=jg }:=
   z.st.enter kO (aG _) x1.toInCall.ns dT rfl rfl rfl hh (lo.code _ _) (Fo.locs (fun x=>by rw[Env.kindOf];rfl) qC rfl)
  have rd:Ready (c.enter oL ls lq a (.ref c1) z.s.heap.objs.size z.U []) k ls:=Sk ok rm.call rfl Fo.nd ⟨es,ep,xW⟩;refine kla_codeExpr (env:=(c.enter oL ls lq a (.ref c1) z.s.heap.objs.size z.U []).env) ?_;refine lo.body (c.enter oL ls lq a (.ref c1) z.s.heap.objs.size z.U []) J _ ⟨z.I,z.U,_,uo⟩ _ _ ⟨rfl,rd.ok,?_,?_,fun h=>absurd h (iG _)⟩ ?_
  ·have:=rd.rm.1;lia
  ·have:=rd.rm.2.1;lia
  ·have kv:KO (ao G) z (EP (aO cI [some x,some y] [] uT J)) Q E:=kv;show KO (ao G) _ (aO cI [some x,some y] [] uT J) _ _;generalize aO cI [some x,some y] [] uT J=o at kv;cases o with
   |none=>exact False.elim kv
   |some q=>
   obtain⟨r,J'⟩:=q;cases r with
   |error _=>exact False.elim kv
   |ok b=>exact fun u z' l r=>kv u ⟨z'.I,z'.U,z'.s,z.st.Fh z'.st l.im l.loc dT rfl hh⟩ ⟨l.im,l.loc,gR ⟨_,_,rfl⟩ l.sh⟩ r
end
def agD(F:Nat)(fns:Nat->Option aB)(O:ay)(a:Nat)(as:List V)(o:Option Cl):Ev V:=match o with
 |some cl=>aS (fns (qo cl)) fun fp=>N1 F O fp cl as
 |none=>aS (fns a) fun fp=>aq F O fp as
def BH(F:Nat)(fns:Nat->Option aB)(O:ay)(a:Nat)(as:List V):Ev V:=if a=72 then Q_ as else agD F fns O a as (B3 a)
def LU(F:Nat)(fns:Nat->Option aB)(O:ay):ay:=fun a as=>if a<1000000 then BH F fns O a as else if a=1000000 then Ay as else if a=1000001 then Lz as else Fp as
noncomputable def ah(F:Nat)(fns:Nat->Option aB):Nat->ay
 |0=>cI
 |1=>cI
 |k+2=>LU F fns (ah F fns (k+1))
section
variable {G:GI}{F:Nat}{O:ay}{k:Nat}{fns:Nat->Option aB}
def BodyOk(G:GI)(F:Nat)(scope:Scope)(body:List Stmt)(fp:aB):Prop:=
 ∀ O k,0<k->ki G O k->gC G F O k scope fp.eJ body fp.body
def aiU(G:GI)(F:Nat)(fns:Nat->Option aB):Prop:=
 ∀ a fp,fns a=some fp->∃ fd body,rE G a fp fd body/\BodyOk G F fd.scope body fp
structure zv(G:GI)(F:Nat)(fns:Nat->Option aB):Prop where
 g:bH G
 mo:Kq G.K
 em:C9 G.K
 lo:wj G
 fo:aiU G F fns
theorem agF(h:B3 a=some cl):a=bG cl:=by
 unfold B3 at h;split at h
 ·cases h;assumption
 ·split at h
  ·cases h;assumption
  ·split at h
   ·cases h;assumption
   ·cases h
theorem Fb(g:bH G)(hk:keepIn G.K (.ref a)=true)(z:Z G c J lv):rB G.prog G.w z.s.heap (.ref a):=
 keeps_K hk _ (z.sI g)
theorem afu(A:zv G F fns)(hk:0<k)(ih:ki G O k){a:Nat}{c:Cx}{J:LC}{lv:LV}{z:Z G c J lv}{xs:List V}{vs:List Value}{Q:VP}{E:VP}(ok:cx c)(rm:f_ c (k+1))(rx:av G z.I z.U xs vs)
  (kv:KO (ao G) z (BH F fns O a xs J) Q E):rB G.prog G.w z.s.heap (.ref a)/\wpAny G.M c.A (call (.ref a) vs) Q E z.s:=by
 unfold BH at kv;split at kv
 ·rename_i e;subst e;exact⟨Fb A.g A.em.keep z,agN A.g A.em rm rx kv⟩
 ·generalize dm:B3 a=o at kv;cases o with
  |some cl=>
   rw[agF dm];refine dk kv fun fp xS kv=>?_;obtain⟨scope,body,hf,hb⟩:=A.fo _ _ xS;exact⟨Fb A.g (A.mo.keep cl) z,agK A.g A.mo hf (hb O k hk ih) ok rm rx kv⟩
  |none=>
   refine dk kv fun fp xS kv=>?_;obtain⟨scope,body,hf,hb⟩:=A.fo _ _ xS;exact⟨Fb A.g hf.keep z,agM A.g hf (hb O k hk ih) ok rm rx kv⟩
theorem adB(lo:wj G){c:Cx}{J:LC}{lv:LV}{z:Z G c J lv}{v:Value}(rv:ao G z.I z.U .lam v):rB G.prog G.w z.s.heap v:=by
 obtain⟨a,rfl,vc⟩:=rv;obtain⟨pm,c1,gz,oc,us,t,hf,BA,Bw,Pk⟩:=(lo.iff z.I a).mp vc;refine⟨.frame,.inl rfl,?_⟩;intro A' Q' E' s' k' q;unfold keeperOf;exact au (wpAny_load (k' _ _ (z.st.im _ _ hf)) (a_ q))
theorem Tj{n:Bi}{c:Cx}{J:LC}{lv:LV}{z:Z G c J lv}{v:Value}{xs:List V}{vs:List Value}{Q:VP}{E:VP}(rm:f_ c k)(rv:ao G z.I z.U (.bi n) v)(rx:av G z.I z.U xs vs)
  (hk:n=.min∨n=.sum->0<k) (kv:KO (ao G) z (cw n xs J) Q E):rB G.prog G.w z.s.heap v/\wpAny G.M c.A (call v vs) Q E z.s:=by
 have rv:_=_:=rv;subst rv;exact⟨To _ n,Tn n hk c J lv z xs vs Q E rm rx kv⟩
theorem step_sound(A:zv G F fns)(hk:0<k)(ih:ki G O k):ki G (LU F fns O) (k+1):=
 fun c J lv z x v xs vs Q E ok rm rv rx kv=>by
 have bi:∀ n,x=.bi n->KO (ao G) z (cw n xs J) Q E->rB G.prog G.w z.s.heap v/\wpAny G.M c.A (call v vs) Q E z.s:=fun n e kw=>by
  subst e;exact Tj rm rv rx (fun _=>iI k) kw
 cases x with
 |fn a=>
  have rv:_=_:=rv;subst rv;unfold mi at kv;by_cases aP:a<1000000
  ·have kv:KO (ao G) z ((if a<1000000 then (if a<1000000 then BH F fns O a xs else _) else Ev.fail) J) Q E:=kv;rw[if_pos aP,if_pos aP]at kv;exact afu A hk ih ok rm rx kv
  ·have kv:KO (ao G) z ((if a<1000000 then _ else Ev.fail) J) Q E:=kv;rw[if_neg aP]at kv;exact kv.elim
 |bi n=>exact bi n rfl (by cases n<;>exact kv)
 |lam=>exact⟨adB A.lo rv,agL A.g A.lo ok rm rv rx kv⟩
 |_=>exact kv.elim
theorem BI(g:bH G):ki G cI k:=fun c J lv z x v xs vs Q E ok rm rv rx kv=>by
 have bi:∀ n,x=.bi n->(n=.min∨n=.sum->0<k)->KO (ao G) z (cw n xs J) Q E->rB G.prog G.w z.s.heap v/\wpAny G.M c.A (call v vs) Q E z.s:=fun n e hk kw=>by
  subst e;exact Tj rm rv rx hk kw
 cases x with
 |fn a=>
  unfold mi at kv;have kv:KO (ao G) z ((if a<1000000 then (Ev.fail:Ev V) else Ev.fail) J) Q E:=kv;rw[ite_self]at kv;exact kv.elim
 |bi n=>
  by_cases h:n=.min∨n=.sum
  ·rcases h with rfl|rfl<;>exact kv.elim
  ·exact bi n rfl (fun q=>absurd q h) (by cases n<;>first|exact absurd (.inl rfl) h|exact absurd (.inr rfl) h|exact kv)
 |lam=>exact kv.elim
 |_=>exact kv.elim
theorem Nk(A:zv G F fns):∀ k,ki G (ah F fns k) k
 |0=>BI A.g
 |1=>BI A.g
 |k+2=>step_sound A (iI k) (Nk A (k+1))
end
theorem acr:typeLookup (.type "list_reverseiterator") "__len__"=pure none:=by rw[typeLookup_type,Vs];kernel_rfl
theorem aeO:typeLookup (.type "list_reverseiterator") "__length_hint__"=pure (some (.builtin "list_reverseiterator.__length_hint__")):=by rw[typeLookup_type,Vs];kernel_rfl
section
variable {prog:Program}{w:World}{A:Around}{E:VP}{s:Shared}{I:Addr}{fp wr:List Addr}{G:Array GenState->Array GenState->Prop}{n:Nat}{P:Nat->Value->Prop}{St:Nat->Shared->Prop}
theorem agx
  (W:WalksS prog w A.in1 I fp wr G n P St) (hT:∀ i s,St i s->s.TypeIs (.ref I) "list_reverseiterator") (qs:St 0 s) (xS:∀ b∈fp,b<s.heap.objs.size) (hI:I∈fp)
  (hQ:∀ s' acc,Moved wr G s s'->ItemsOf P acc n->Q acc.toList s') (hn:n<=sizeLine):wpAny (model prog w) A (collect (.ref I)) Q E s:=by
 have Qq:s.heap.objs.size∉fp:=fun hm=>iG _ (xS _ hm);have hSI:s.heap.objs.size≠I:=fun e=>Qq (e▸hI);unfold collect;refine au (wpAny_runValue (CK PySem.F.entry_proto_collect ?_));rw[Vr PySem.F.plain_proto_collect _];show wpAny _ A.in1 (newList []>>=fun l=>again (.builtin "list.__iadd__" ⟨[l,.ref I],[]⟩)) _ _ s;refine au (tU ?_);refine a_ ⟨plainId_quiet Vq _,CK PySem.F.entry_list_iadd ?_⟩
 rw[Vr Vq _];have u9:=W.frame 0 s (s.heap.push { cls:=.type "list",data:=.seq ([]:List Value).toArray }) s.toks qs (aG _) fun b _ o e=>bD _ e;have afa:(s.heap.push { cls:=.type "list",data:=.seq ([]:List Value).toArray }).get? s.heap.objs.size=some { cls:=.type "list",data:=.seq ([]:List Value).toArray }:=gN _ rfl;have h1:Builtin.List.listSameRef (.ref s.heap.objs.size) (.ref I)=false:=by simp[Builtin.List.listSameRef,hSI]
 show wpAny _ A.in1 (Builtin.List.listExtendWith (.ref s.heap.objs.size) (.ref I) (.ref s.heap.objs.size)) _ _ _;unfold Builtin.List.listExtendWith;refine au (wpAny_typeOf (hT 0 _ u9) ?_);rw[if_neg (by rw[h1];decide)];refine au (W.self 0 _ _ _ u9 ?_);refine au (gM ?_);unfold Builtin.List.listLengthHint;refine au (IV (hT 0 _ u9) acr ?_)
 show wpAny _ A.in1 (specialOf (Value.ref I) (Str.ofString "__length_hint__")>>=_) _ _ _;refine au (IV (hT 0 _ u9) aeO ?_)
 (generalize Gd:("list_reverseiterator.__length_hint__":String)=Pf;(fail_if_success (clear Gd Pf));wp_delta;rw[show splitId Pf=some ("list_reverseiterator","__length_hint__") from by subst Gd;decide +kernel];subst Gd)
 refine au (wpAny_isInstance (b:=true) (hT 0 _ u9) (by rw[isSubtype_type];kernel_rfl) ?_);refine a_ ?_;rw[if_neg ⋯];refine a_ ⟨plainId_quiet PySem.F.plain_extend_loop _,codeAny_extend_loopS W hn _ Qq _ n 0 _ _ _ rfl (dc _) u9 afa (ItemsOf.nil P) fun s' aiR c' hm s9 BC=>?_⟩;show wpAny _ A (load s.heap.objs.size>>=_) _ _ s';refine au (wpAny_load s9 ?_)
 exact a_ (hQ s' aiR (Moved.drop_new (o:={ cls:=.type "list",data:=.seq ([]:List Value).toArray }) (tk:=s.toks) hm (aG _)) BC)
end
section
variable {prog:Program}{w:World}{A:Around}{E:VP}{s:Shared}
theorem adW{x:Str}{t:Tok}{I l:Addr}{vs:List Value}{ws:List Str}{Q:VP}(hh:A.handled=none)(aY:l≠I)(hit:s.heap.IsRevIter I l ((vs.length:Int)-1))(hl:s.heap.IsList l vs.toArray)
  (FO:StrsAre vs.reverse ws) (aW:(ws.map (·.length)).sum+ws.length*x.length<=16777216) (hn:vs.length<=sizeLine)
  (h:∀ h' t' k,(∀ b o,b≠I->s.heap.get? b=some o->h'.get? b=some o)->Q (.str (Txt.join x ws) t') { s with heap:=h',toks:=k }) :
  wpAny (model prog w) A (call (.builtin "str.join") [.str x t,.ref I]) Q E s:=by
 have W:=(Walks.listRev (prog:=prog) (w:=w) (A:=A.in1.in1) hh I l aY vs.toArray).toS;have hsz:vs.toArray.size=vs.length:=by simp
 have qs:(0:Nat)<=vs.toArray.size/\s.heap.IsRevIter I l ((vs.toArray.size:Int)-1-((0:Nat):Int))/\s.heap.IsList l vs.toArray:=⟨dc _,by rw[hsz];simpa using hit,hl⟩;have aP:I<s.heap.objs.size:=by obtain⟨o,ho,_⟩:=hit;exact cS ho
 have aeK:l<s.heap.objs.size:=by obtain⟨o,ho,_⟩:=hl;exact cS ho
 refine y_ (codeAny_call_builtin CP.plain PySem.F.entry_str_join (CP.check _ _ _ _ _ _ _ _ (zi _ _ _) (PySem.F.args_str_join_2 _ _) ?_));rw[join_tree_other];refine au (wpAny_typeOf hit.typeIs ?_);show wpAny _ A.in1 ((pyIter (.ref I)).tryCatch _>>=fun it=>collect it>>=fun items=>joinTail x items) _ _ s;refine au (wpAny_tryCatch (W.of_in1.self 0 s _ _ qs ?_))
 refine au (agx W (fun i s' qu=>qu.2.1.typeIs) qs (fun b hb=>by
  rcases bY.mp hb with rfl|hb
  ·exact aP
  ·rw[b_.mp hb];exact aeK) (.head _) (fun s' acc hm BC=>?_) (by rw[hsz];exact hn))
 have aez:acc.toList=vs.reverse:=by
  apply q5;intro j;have h1:=BC.1;rw[hsz]at h1;by_cases hj:j<vs.length
  ·have Br:j<acc.size:=by lia
   have:=BC.2 j acc[j] (IG Br)
   rewrite [hsz]at this
   rewrite [IP]at this
   rw[List.getElem?_reverse hj,this,Array.getElem?_toList,IG Br]
  ·rw[v7 (by simp;lia),v7 (by simp;lia)]
 rw[aez];obtain⟨lt,hv,Ba⟩:=strsAre_values FO;rw[hv];subst Ba;have PB:=joinOk_of aW;have g:Gives (joinTail x (strValues lt)) (joinMade x lt):=by
  have va:=PB;unfold JoinOk at va;rw[q9]at va;have g0:=gives_joinTail x lt va;cases lt with
  |nil=>exact g0
  |cons p r=>cases r with
   |nil=>exact g0
   |cons q r'=>exact g0
 have F1:=PB;unfold JoinOk at F1;rw[q9]at F1;refine g prog w A (wants Q E) s' (post_join lt ⟨joinFit_length F1,fun t' k=>?_⟩);have qu:s'={ s with heap:=s'.heap,toks:=s'.toks }:=by
  obtain⟨h1,h2,h3,h4,h5⟩:=hm;obtain⟨a,b,c,d,e⟩:=s';simp only at h2 h3 h4;subst h2 h3 h4;rfl
 rw[qu];exact h s'.heap t' k fun b o hb e=>hm.heap b o (by simpa using hb) e
end
theorem XW(h:StrsAre vs ys):ys.length=vs.length:=by
 induction h with
 |nil=>rfl
 |cons _ _ _ ih=>simp only[qZ,ih]
section
variable {G:GI}{O:ay}{k:Nat}{cs:Scope}
theorem Yu{Mr:Str}(g:bH G)(he:SE G O k cs e pe)(aey:Mr=S sep)(hk:0<k)(hu:eH e=true)
  (hr:nsIn G.K mainGlobals (Str.ofString "reversed")=some none) (hx:cs.names.lookup (Str.ofString "reversed")=some .globalImplicit) (qB:(p2.endLine==p5.line)=true) :
  SE G O k cs (.Call (.Attribute (.Constant (.str Mr) kk p1) (Str.ofString "join") p2) [.Call (.Name (Str.ofString "reversed") p3) [e] [] p4] [] p5) (.joinRev sep pe):=fun c J lv z Q E rd kv=>by
 subst aey;have hh:=rd.rm.2.2 hk;refine E4 (by rfl) (by rfl) (by show 1<30;decide) qB ?_;refine Ih ?_;intro pl;refine @PySem.getMethod_builtin (model G.prog G.w) c.A E _ _ "str" (Str.ofString "join") "str.join" pl _ (zi _ _ _) VJ CP VM (fun a e=>by cases e) ?_;refine nH (by rfl) ?_;let z1:=z.tick (z.s.toks+1)
 refine ka ?_ (gQ (by rfl));rw[Hb (by rfl)];refine au ?_;obtain⟨loose,mg,mb,T⟩:=g.top;obtain⟨m,F,hl⟩:=z1.st.frame;refine nameX_B F g.K T hr (v:=.type "reversed") (by rfl) ⋯ ?_ rd.ok.kind (by rw[Env.kindOf];show c.cs.names.lookup _=_;rw[rd.cs,hx]) ⋯;refine nH (by rw[o8,hu];rfl) ?_;refine ka ?_ (gQ hu);refine cy (kv.shift (z.AE _)) (fun k1=>he c J lv z1 _ _ rd k1) fun x aa v z2 l rv kv=>?_
 refine nJ ⟨⟨.machine,.inr (.inl rfl),zf rfl⟩,?_⟩;unfold m_ at kv;revert rv;refine oz kv (P:=fun x=>ao G z2.I z2.U x v->_) fun i kv rv=>?_;refine iS kv rv (P:=fun v=>wpAny G.M c.A (call (.type "reversed") [v]) _ _ _) fun l a vs n q kv=>?_;refine cG kv fun iW kv=>dk kv fun ws FO kv=>cG kv fun hj kv=>?_;have Pu:=LL q.rs.rev FO;have oG:ws.length=vs.length:=by
  have:=XW Pu;rwa[f7,IU]at this
 refine call_reversed_list q.is ?_;refine nJ ⟨⟨.machine,.inr (.inl rfl),zf rfl⟩,?_⟩;have Br:=of_decide_eq_true hj;refine adW (vs:=vs) (ws:=ws.map S) hh (dG (cS q.ho)) ⟨_,gN _ rfl,rfl,by simp[revObj]⟩ (q.is.push _) Pu (by rw[Ly,f7,hY];have:=Br;omega) (by rw[q.rs.length];exact ji iW) fun h' t' gF kO=>?_
 rw[OM];exact kv.new (z2.st.keep fun b o hb=>kO b o (dG (cS hb)) (bD _ hb)) (aC.refl _) (aA.refl _) (Exists.intro _ rfl)
theorem Yt{i:Nat}{P C:Addr}{jP:Array Value}{pos:Pos}{q:Str}{params:Arguments}{body:Expr}{scope:Scope}(g:bH G)
  (ht:G.tabs[i]?=some (.tab P jP pos q)) (qF:∀ cd cn,G.codeOk cs cd cn->cd=.ref C/\q=cn++Str.ofString ".<locals>."++Str.ofString "<lambda>") (xR:codeHdIn G.K C P=true) (yb:mainGlobals≠P)
  (Gl:∀ env,defaultsOf params env=([],[])) (ve:∀ y∈scope.names,y.2=.free->cs.names.lookup y.1=some .cell):SE G O k cs (.Lambda params body scope pos) .oy:=fun c J lv z Q E rd kv=>by
 obtain⟨h1,h2⟩:=qF _ _ (by rw[<-rd.cs];exact z.st.code);exact NZ g z ht h1 xR h2 yb (Gl _) (fun y hy hf=>rd.ok.cells _ (by rw[rd.cs];exact ve y hy hf)) fun f z' c' gz pm dZ oc vs t _ l _ _ _ _=>kv _ z' l True.intro
theorem Ys{i:Nat}{P C:Addr}{jP:Array Value}{pos:Pos}(g:bH G)(lo:wj G)
  (ht:G.tabs[i]?=some (.tab P jP pos lq)) (qF:∀ cd cn,G.codeOk cs cd cn->cd=.ref C/\lq=cn++Str.ofString ".<locals>."++Str.ofString "<lambda>") (xR:codeHdIn G.K C P=true) (yb:mainGlobals≠P)
  :SE G O k cs (.Lambda lp lb ls pos) .ou:=fun c J lv z Q E rd kv=>by
 obtain⟨h1,h2⟩:=qF _ _ (by rw[<-rd.cs];exact z.st.code);have ve:∀ y∈ls.names,y.2≠.free:=by decide +kernel
 refine NZ g z ht h1 xR h2 yb rfl (fun y hy hf=>absurd hf (ve y hy)) fun f z' c' gz pm dZ oc vs t dm l hf BA hd hv=>?_;have aeI:dZ=[]:=by
  have:(pure dZ:Sem (List (Str×Addr)))=pure []:=dm.symm.trans (closureFor_none ve)
  injection this
 subst aeI;refine kv _ z' l ?_;exact Exists.intro f ⟨rfl,(lo.iff _ _).mpr ⟨pm,c',gz,oc,vs,t,hf,BA,hd,hv⟩⟩
end
theorem Q8(hf:∀ x p,f (.Name x p)=some x∨f (.Name x p)=none):∀ {es:List Expr}{xs:List Str},namesOf es=some xs->(es.filterMap f).length=es.length->es.filterMap f=xs
 |[],xs=>fun h _=>by cases h;rfl
 |e :: r,xs=>fun h hl=>by
  obtain⟨x,p,ys,rfl,h1,rfl⟩:=NN h;rcases hf x p with e1|e1
  ·rw[Vp e1]at hl ⊢;rw[Q8 hf h1 (I7 hl)]
  ·rw[List.filterMap_cons_none e1]at hl;exact absurd (hl▸List.length_filterMap_le f r) (Nat.not_succ_le_self _)
theorem XF{elts vs:List Expr}{et p:Pos}(hn:namesOf elts=some xs)(h:vs.all (foldedForSure 8)=true∨vs.all (constantsAlone 8)=false) :
  swappedStores [.Tuple elts kk et] (.Tuple vs kk2 p) env=pure none∨swappedStores [.Tuple elts kk et] (.Tuple vs kk2 p) env=pure (some xs):=by
 unfold swappedStores;dsimp only;split
 ·exact .inl rfl
 ·split
  ·exact .inl rfl
  ·split
   ·exact .inl rfl
   ·rename_i qx;split
    ·exact .inl rfl
    ·rename_i aeS;rcases h with h|h
     ·exact absurd h aeS
     ·rw[if_neg (by rw[h];decide)];right;rw[vR,not_or]at qx
      have:=Q8 (fun x p=>by
       dsimp only;split
       ·exact .inl rfl
       ·exact .inr rfl) hn (Decidable.not_not.mp fun q=>qx.1 (bne_iff_ne.mpr q))
      exact congrArg (fun z=>(pure (some z):Sem (Option (List Str)))) this
def FE(e:Expr):Bool:=iU e 25
theorem XG{elts:List Expr}{et:Pos}(h:FE e=false):swappedStores [.Tuple elts kk et] e env=pure none:=by
 cases e<;>first|rfl|cases h
section
variable {G:GI}{O:ay}{k:Nat}{cs:Scope}
theorem YG(ha:SE G O k cs l a)(hb:SE G O k cs m b)(Gr:SE G O k cs r c')(hm:behindInMarks .LtE r=false) :
  ST G O k cs (.Compare l [.LtE,.LtE] [m,r] pos) (.o4 a b c'):=fun c J lv z Q E rd kv=>by
 refine isTrue_chain (rs:=[]) ?_ hm;refine cy kv (fun k1=>ha c J lv z _ _ rd k1) fun x aa v z1 l1 rv kv=>?_;refine test_link ?_;refine cy kv (fun k1=>hb c aa lv z1 _ _ rd k1) fun y aj u z2 l2 ru kv=>?_;refine iq kv rv (P:=fun v=>wpAny G.M c.A (compareOp .LtE v u) _ _ _) fun p t kv=>?_;refine iq kv ru (P:=fun u=>wpAny G.M c.A (compareOp .LtE (.str (S p) t) u) (fun c1 s2=>wpAny G.M c.A (truthy c1) (fun t s3=>if t=true then wpAny G.M c.A (testChain pos u [.LtE] (eval r c.env :: evalEach [] c.env)) Q E s3 else Q false s3) E s2) E z2.s) fun q t' kv=>?_
 refine Vo (o9 ?_);have hd:(!decide ((S q).cps.toList<(S p).cps.toList))=!decide (q<p):=rfl;rw[hd];cases Py:decide (q<p)with
 |true=>
  rw[Py]at kv;exact kv.eN rfl
 |false=>
  rw[Py]at kv;refine test_last ?_;refine cy kv (fun k1=>Gr c aj lv z2 _ _ rd k1) fun w bo uz z3 l3 rz kv=>?_;refine iq kv rz (P:=fun uz=>wpAny G.M c.A (compareOp .LtE (.str (S q) t') uz) _ _ _) fun r0 t2 kv=>?_;exact Vo (o9 (kv.eN rfl))
end
noncomputable def bN:PE:=.yF .none .none
def e7:PS:=.expr bN
noncomputable def yS:List Nm:=[.kind,.worth,.at_,.AV,.reader,.isNamed,.depth,.last,.tokens,.named,.peek,.fault,.take,.gU,.isWord,.skip,.oneOf,.word,.isName,.name,.isSign,.lC,.needSign,.isNumber,.signed,.octets,
 .either,.both,.turned,.single,.rL,.u3,.rR,.zT,.Af,.se,.zU,.upper,.split,.join,.index,.append,.pop,.get]
def Au(x:Str):Option Nm:=yS.find? fun n=>x==n.s
theorem EV{x:Str}{n:Nm}(h:Au x=some n):x=n.s:=eq_of_beq (Iz (p:=fun n:Nm=>x==n.s) (l:=yS) h)
structure CE where
 cs:Scope
 gl:Str->Option V
 bl:Str->Option Bi
 ty:Str->String->Bool
 rev:Bool
 pos:Bool
 ex:Expr->Option PE
 ext:Expr->Option PE
 sp:Stmt->Option PS
noncomputable def CE.off(ce:CE):CE:={ ce with pos:=false,ex:=fun _=>none,ext:=fun _=>none,sp:=fun _=>none }
def jn{α:Type}(o:Option α)(f:α->PE):PE:=match o with
 |some a=>f a
 |none=>bN
noncomputable def FG(x:Str):Bool:=x==Str.ofString "__debug__"
noncomputable def AR(cs:Scope)(x:Str):Nat:=(cs.names.findIdx? fun y=>y.1==x).getD 0
def oq(cs:Scope)(x:Str):Option Nat:=if cs.names[AR cs x]?=some (x,.local)/\cs.names.lookup x=some .local/\FG x=false then some (AR cs x) else none
def SX(cs:Scope)(x:Str)(kd:NameKind):Bool:=decide (cs.names[AR cs x]?=some (x,kd)/\cs.names.lookup x=some kd)
def SY(cs:Scope)(x:Str):Option Nat:=if (SX cs x .cell=true∨SX cs x .free=true)/\FG x=false/\(x==Str.ofString "__classdict__")=false then some (AR cs x) else none
def qm(cs:Scope)(x:Str):Bool:=decide (cs.names.lookup x=some .globalImplicit)&&!(FG x)
def Tp(ce:CE)(x:Str):PE:=jn (ce.bl x) fun n=>.glob (.bi n)
def afd(ce:CE)(x:Str):PE:=match ce.gl x with
 |some v=>.glob v
 |none=>Tp ce x
def Ni(ce:CE)(x:Str):PE:=cond (qm ce.cs x) (afd ce x) bN
def SW(ce:CE)(x:Str):PE:=match SY ce.cs x with
 |some i=>.cvar i
 |none=>Ni ce x
def nameP(ce:CE)(x:Str):PE:=match oq ce.cs x with
 |some i=>.loc i
 |none=>SW ce x
noncomputable def yD(e:Expr):Option Const:=if h:e.ctorIdx=19 then Expr.Constant.elim e h fun c _ _=>some c else none
noncomputable def m7(e:Expr):Option Str:=if h:e.ctorIdx=23 then Expr.Name.elim e h fun x _=>some x else none
noncomputable def DT(c:Const):Option Str:=if h:c.ctorIdx=5 then Const.str.elim c h some else none
theorem X0{c:Const}{x:Str}(h:DT c=some x):c=.str x:=
 let ⟨hc,h⟩:=iC h
 Const.str.elim (motive:=fun c=>∀ hc:c.ctorIdx=5,Const.str.elim c hc some=some x->c=.str x) c hc (fun s _ h=>congrArg Const.str (aU h)) hc h
noncomputable def agr:Const->Option V
 |.int i=>some (.int i)
 |.str x=>some (.str x.cps.toList)
 |_=>none
def Fi(ce:CE)(e:Expr):Option V:=match yD e with
 |some c=>agr c
 |none=>(m7 e).bind fun x=>cond (qm ce.cs x) (ce.gl x) none
noncomputable def AD(ce:CE):List Expr->Option (List V)
 |[]=>some []
 |e :: r=>(Fi ce e).bind fun v=>(AD ce r).bind fun l=>some (v :: l)
noncomputable def DZ:List (Option Expr)->Option (List Expr)
 |[]=>some []
 |e :: r=>e.bind fun e=>(DZ r).map (e :: ·)
def agi(xs:List V)(vl:List V):PE:=match strsOf xs with
 |some ks=>if ks.Nodup then .nE ks vl else bN
 |none=>jn (oB xs) fun ks=>if ks.Nodup then .qO ks vl else bN
def agh(ce:CE)(ks:List (Option Expr))(vs:List Expr):PE:=jn (DZ ks) fun es=>if es.length=vs.length/\es≠[]/\es.length<=15 then jn (AD ce es) fun kl=>jn (AD ce vs) fun vl=>agi kl vl else bN
def Sx(ce:CE)(ks:List (Option Expr))(vs:List Expr):PE:=cond (ks.isEmpty&&vs.isEmpty) .tv (agh ce ks vs)
noncomputable def S6:Operator->Option Dd
 |.Add=>some .add|.Sub=>some .sub|.Mult=>some .mul|.FloorDiv=>some .fdiv|.Mod=>some .mod|.Pow=>some .pow|_=>none
noncomputable def SH:CmpOp->zu
 |.Eq=>.eq|.NotEq=>.ne|.Lt=>.lt|.LtE=>.le|.Gt=>.gt|.GtE=>.ge|.In=>.isIn|.NotIn=>.ig|.Is=>.dR|.IsNot=>.sM
noncomputable def ad4:PE->Bool
 |.loc _=>true
 |.attr _ _=>true
 |.call _ _=>true
 |.ai _ _ _=>true
 |_=>false
def ad3(e:Expr):Bool:=iU e 23||iU e 20||iU e 16
def ET(e:Expr):Bool:=!iU e 7
noncomputable def one{α:Type}:List α->Option α
 |[]=>none
 |x :: r=>cond r.isEmpty (some x) none
def two{α:Type}:List α->Option (α×α)
 |[]=>none
 |x :: r=>(one r).map fun y=>(x,y)
theorem mT{α:Type}{l:List α}{x:α}(h:one l=some x):l=[x]:=by
 cases l with
 |nil=>cases h
 |cons y r=>cases r with
  |nil=>cases h;rfl
  |cons=>cases h
theorem wz{α:Type}{l:List α}{p:α×α}(h:two l=some p):l=[p.1,p.2]:=by
 cases l with
 |nil=>cases h
 |cons y r=>
  obtain⟨q,h1,rfl⟩:=eO.mp h;rw[mT h1]
def uX(f:Expr):Bool:=match m7 f with
 |some r=>r==Str.ofString "reversed"
 |none=>false
def MI(e:Expr):Option Expr:=if h:e.ctorIdx=16 then Expr.Call.elim e h fun f args fj _=>cond (fj.isEmpty&&uX f) (one args) none else none
noncomputable def sliceOf(e:Expr):Option (Option Expr×Option Expr):=if h:e.ctorIdx=26 then Expr.Slice.elim e h fun lo hi st _=>st.elim (some (lo,hi)) fun _=>none else none
noncomputable def Cf(e:Expr):Option (Expr×Str×Pos):=if h:e.ctorIdx=20 then Expr.Attribute.elim e h fun o x p=>some (o,x,p) else none
structure Cp where
 E:Expr->PE
 T:Expr->PE
section
variable (ce:CE)(c:Cp)
def ags:Const->PE
 |.none=>.none
 |.bool b=>.bool b
 |.int i=>.int i
 |.str x=>.str x.cps.toList
 |_=>bN
def W5(op:UnaryOp)(x:Expr):PE:=match op with
 |.USub=>.neg (c.E x)
 |.Not=>.not (c.E x)
 |_=>bN
def S9(op:BoolOp)(es:List Expr):PE:=cond es.isEmpty bN (match op with
 |.And=>.and (es.map c.E)
 |.Or=>.or (es.map c.E))
def cmP(l:Expr)(op:CmpOp)(r:Expr):PE:=cond (behindInMarks op r) bN (.cmp (SH op) (c.E l) (c.E r))
def B0(l:Expr)(ops:List CmpOp)(rs:List Expr):PE:=jn (one ops) fun op=>jn (one rs) fun r=>cmP c l op r
noncomputable def w9:Option Expr->PE
 |none=>.none
 |some e=>c.E e
def XS(a i:Expr):PE:=match sliceOf i with
 |some p=>.sl (c.E a) (w9 c p.1) (w9 c p.2)
 |none=>.idx (c.E a) (c.E i)
def aiu(e:Expr)(x:Str):PE:=jn (Au x) fun nm=>cond (uD e) (.attr (c.E e) nm) bN
def methP(o:Expr)(x:Str)(args:List Expr):PE:=jn (Au x) fun nm=>.ai (c.E o) nm (args.map c.E)
def AQ(o:Expr)(x:Str)(args:List Expr)(e:Expr):PE:= match (yD o).bind DT with
 |some sep=>cond (x==Str.ofString "join"&&ce.rev&&ce.pos&&eH e&&decide (ce.cs.names.lookup (Str.ofString "reversed")=some .globalImplicit)) (.joinRev sep.cps.toList (c.E e)) bN
 |none=>bN
def NW(o:Expr)(x:Str)(args:List Expr):PE:=match (one args).bind MI with
 |some e=>AQ ce c o x args e
 |none=>methP c o x args
def S4(f:Expr)(args:List Expr)(pos:Pos):PE:=match Cf f with
 |some p=>cond (uD p.1&&decide (args.length<30)&&p.2.2.endLine==pos.line) (NW ce c p.1 p.2.1 args) bN
 |none=>.call (c.E f) (args.map c.E)
def S3(f:Expr)(args:List Expr)(fj:List Keyword)(pos:Pos):PE:=cond (fj.isEmpty&&args.all eH) (S4 ce c f args pos) bN
def treeE:Expr->PE
 |.Constant k _ _=>ags k
 |.Name x _=>nameP ce x
 |.Tuple es _ _=>cond (es.all eH) (.tup (es.map c.E)) bN
 |.List es _=>cond (es.all eH) (.list (es.map c.E)) bN
 |.BinOp l op r _=>jn (S6 op) fun o=>.bin o (c.E l) (c.E r)
 |.UnaryOp op x _=>W5 c op x
 |.BoolOp op es _=>S9 c op es
 |.Compare l ops rs _=>B0 c l ops rs
 |.IfExp t a b _=>.ite (c.T t) (c.E a) (c.E b)
 |.Subscript a i _=>XS c a i
 |.Attribute e x _=>aiu c e x
 |.Call f args fj pos=>S3 ce c f args fj pos
 |.Dict ks vs _=>Sx ce ks vs
 |_=>bN
noncomputable def boT(op:BoolOp)(es:List Expr):PE:=match op with
 |.And=>.and (es.map c.T)
 |.Or=>.or (es.map c.T)
def btP(l:Expr)(op op2:CmpOp)(m r:Expr):PE:=cond (op==.LtE&&op2==.LtE&&!(behindInMarks .LtE r)) (.o4 (c.E l) (c.E m) (c.E r)) bN
def HF(l:Expr)(ops:List CmpOp)(rs:List Expr):PE:=match two ops with
 |some p=>jn (two rs) fun q=>btP c l p.1 p.2 q.1 q.2
 |none=>B0 c l ops rs
def agT:Const->PE
 |.bool b=>.bool b
 |_=>bN
def W4(op:UnaryOp)(x:Expr):PE:=match op with
 |.Not=>.not (c.T x)
 |_=>bN
def KR(e:Expr):PE:=cond (ad3 e&&ad4 (c.E e)) (c.E e) bN
def Dw(e:Expr):PE:=match e with
 |.UnaryOp op x _=>W4 c op x
 |.BoolOp op es _=>boT c op es
 |.Compare l ops rs _=>HF c l ops rs
 |.Constant k _ _=>agT k
 |e=>KR c e
end
def Cp.step(ce:CE)(c:Cp):Cp:=⟨fun e=>(ce.ex e).getD (treeE ce c e),fun e=>(ce.ext e).getD (Dw c e)⟩
noncomputable def fW(ce:CE):Nat->Cp
 |0=>⟨fun _=>bN,fun _=>bN⟩
 |n+1=>(fW ce n).step ce
structure fM(G:GI)(F:Nat)(O:ay)(k:Nat)(ce:CE):Prop where
 g:bH G
 ko:t5 G.K
 eo:rF G.K
 sc:ki G O k
 gl:∀ x y,ce.gl x=some y->C7 G x y
 bl:∀ x n,ce.bl x=some n->nsIn G.K mainGlobals x=some none/\bootBuiltins x=some n.v/\x≠Str.ofString "__name__"
 ty:∀ x T,ce.ty x T=true->nsIn G.K mainGlobals x=some none/\bootBuiltins x=some (.type T)/\x≠Str.ofString "__name__"
 rev:ce.rev=true->nsIn G.K mainGlobals (Str.ofString "reversed")=some none
 pos:ce.pos=true->0<k
 kind:ce.cs.kind=.function
 ex:∀ e pe,ce.ex e=some pe->SE G O k ce.cs e pe
 ext:∀ e pe,ce.ext e=some pe->ST G O k ce.cs e pe
 sp:∀ st ps,ce.sp st=some ps->SS G F O k ce.cs st ps
section
variable {G:GI}{F:Nat}{O:ay}{k:Nat}{ce:CE}{c:Cp}{cs:Scope}
theorem iB{e:Expr}:SE G O k cs e bN:=fun c J lv z Q E rd kv=>kv.elim
theorem tl{e:Expr}:ST G O k cs e bN:=fun c J lv z Q E rd kv=>kv.elim
theorem gy{st:Stmt}:SS G F O k cs st e7:=fun c J lv z Q E rd kx=>kx.elim
theorem mS{α:Type}{o:Option α}{f:α->PE}{e:Expr}(h:∀ a,o=some a->SE G O k cs e (f a)):SE G O k cs e (jn o f):=by
 cases o with
 |none=>exact iB
 |some a=>exact h a rfl
theorem EG{α:Type}{o:Option α}{f:α->PE}{e:Expr}(h:∀ a,o=some a->ST G O k cs e (f a)):ST G O k cs e (jn o f):=by
 cases o with
 |none=>exact tl
 |some a=>exact h a rfl
theorem o3{b:Bool}{p q:PE}{e:Expr}(h:b=true->SE G O k cs e p)(h':b=false->SE G O k cs e q):SE G O k cs e (cond b p q):=by
 cases b with
 |true=>exact h rfl
 |false=>exact h' rfl
theorem Hz{b:Bool}{p q:PE}{e:Expr}(h:b=true->ST G O k cs e p)(h':b=false->ST G O k cs e q):ST G O k cs e (cond b p q):=by
 cases b with
 |true=>exact h rfl
 |false=>exact h' rfl
theorem FC{b:Prop}[Decidable b]{p:PE}{e:Expr}(h:b->SE G O k cs e p):SE G O k cs e (if b then p else bN):=by
 split
 ·exact h ‹_›
 ·exact iB
theorem th{α:Type}{o:Option α}{f:α->PE}{q:PE}{e:Expr}{m:Option α->PE}(hm:∀ a,m (some a)=f a)(hn:m none=q)(h:∀ a,o=some a->SE G O k cs e (f a))(h':SE G O k cs e q):SE G O k cs e (m o):=by
 cases o with
 |none=>rw[hn];exact h'
 |some a=>rw[hm];exact h a rfl
theorem and_true{a b:Bool}(h:(a&&b)=true):a=true/\b=true:=aM.mp h
theorem uP{x:Str}{i:Nat}(h:oq cs x=some i):cs.names[i]?=some (x,.local)/\cs.names.lookup x=some .local/\(x==Str.ofString "__debug__")=false:=by
 unfold oq at h;split at h
 ·cases h;assumption
 ·cases h
theorem AW{x:Str}(h:qm cs x=true):cs.names.lookup x=some .globalImplicit/\(x==Str.ofString "__debug__")=false:=
 ⟨of_decide_eq_true (and_true h).1,(q9 _).mp (and_true h).2⟩
theorem acE(o:fM G F O k ce){x:Str}{pos:Pos}:SE G O k ce.cs (.Name x pos) (nameP ce x):=
 th (m:=fun o=>match o with|some i=>.loc i|none=>SW ce x) (fun _=>rfl) rfl (fun i h=>let ⟨h1,h2,h3⟩:=uP h;Yr h1 h2 h3) <|
 th (m:=fun o=>match o with|some i=>.cvar i|none=>Ni ce x) (fun _=>rfl) rfl (fun i h=>by
  unfold SY at h;split at h
  ·rename_i hc;cases h;obtain⟨hk,h3,h4⟩:=hc;rcases hk with hk|hk
   ·obtain⟨h1,h2⟩:=of_decide_eq_true hk;exact L9 h1 (.inl h2) h3 h4
   ·obtain⟨h1,h2⟩:=of_decide_eq_true hk;exact L9 h1 (.inr h2) h3 h4
  ·cases h) <|
 o3 (fun hg=>let ⟨h1,h2⟩:=AW hg
  th (m:=fun o=>match o with|some i=>.glob i|none=>Tp ce x) (fun _=>rfl) rfl (fun v hv=>Yy o.g (o.gl _ _ hv) h1 h2) <|
  mS fun n hn=>let ⟨b1,b2,b3⟩:=o.bl _ _ hn;YK o.g b1 b2 b3 h1 h2) fun _=>iB
theorem SK{e:Expr}{k:Const}(h:yD e=some k):∃ kk pos,e=.Constant k kk pos:=
 let ⟨hc,h⟩:=iC h
 Expr.Constant.elim (motive_1:=fun e=>∀ hc:e.ctorIdx=19,Expr.Constant.elim e hc (fun c _ _=>some c)=some k->∃ kk pos,e=.Constant k kk pos) e hc (fun c kk p _ h=>⟨kk,p,congrArg (fun c=>Expr.Constant c kk p) (aU h)⟩) hc h
theorem sA{e:Expr}{x:Str}(h:m7 e=some x):∃ pos,e=.Name x pos:=
 let ⟨hc,h⟩:=iC h
 Expr.Name.elim (motive_1:=fun e=>∀ hc:e.ctorIdx=23,Expr.Name.elim e hc (fun c _=>some c)=some x->∃ pos,e=.Name x pos) e hc (fun c p _ h=>⟨p,congrArg (fun c=>Expr.Name c p) (aU h)⟩) hc h
theorem adb(o:fM G F O k ce)(h:Fi ce e=some v):pI G ce.cs e v:=by
 unfold Fi at h;split at h
 ·rename_i q hq;obtain⟨kk,pos,rfl⟩:=SK hq;cases q<;>cases h
  ·exact adg
  ·exact ada (by simp)
 ·obtain⟨x,hx,h'⟩:=f6.mp h;clear h;obtain⟨pos,rfl⟩:=sA hx;cases hg:qm ce.cs x with
  |true=>rw[hg]at h';obtain⟨h1,h2⟩:=AW hg;exact Og o.g (o.gl _ _ h') h1 h2
  |false=>rw[hg]at h';cases h'
theorem xq(o:fM G F O k ce):∀ {es:List Expr}{vs:List V},AD ce es=some vs->lg G ce.cs es vs
 |[],vs=>fun h=>by cases h;exact .nil
 |e :: r,vs=>fun h=>by
  obtain⟨v,h1,h⟩:=f6.mp h;obtain⟨l,h2,h⟩:=f6.mp h;cases h;exact .cons (adb o h1) (xq o h2)
theorem Mb:∀ {ks:List (Option Expr)}{es:List Expr},DZ ks=some es->ks=es.map some
 |[],es=>fun h=>by cases h;rfl
 |e :: r,es=>fun h=>by
  obtain⟨e,rfl,h⟩:=f6.mp h;obtain⟨l,h1,rfl⟩:=eO.mp h;rw[Mb h1];rfl
theorem agg(o:fM G F O k ce){ks:List (Option Expr)}{vs:List Expr}{pos:Pos}:SE G O k ce.cs (.Dict ks vs pos) (Sx ce ks vs):=
 o3 (fun h=>by
  obtain⟨h1,h2⟩:=and_true h;rw[g_.mp h1,g_.mp h2]
  exact Yz) fun _=>mS fun es hk=>FC fun hc=>mS fun kl h1=>mS fun vl h2=>by
  obtain⟨c1,c2,c3⟩:=hc;rw[Mb hk];exact th (o:=strsOf kl) (m:=fun (o:Option (List (List Nat)))=>match o with|some ks=>if ks.Nodup then .nE ks vl else bN|none=>jn (oB kl) fun ks=>if ks.Nodup then .qO ks vl else bN) (fun _=>rfl) rfl
   (fun xs hx=>FC fun nd=>YA o.g (DR hx▸xq o h1) (xq o h2) c1 c2 c3 nd)
   (mS fun xs hx=>FC fun nd=>YB o.g (Fw hx▸xq o h1) (xq o h2) c1 c2 c3 nd)
theorem agS(h:S6 op=some o):S2 G k (binaryOp op) (c_ o):=by
 cases op<;>cases h
 ·exact ME
 ·exact aag
 ·exact aaj
 ·exact MB
 ·exact MA
 ·exact MC
theorem SG:∀ op:CmpOp,S2 G k (compareOp op) (bj (SH op))
 |.Eq=>MD
 |.NotEq=>aai
 |.Lt=>aak
 |.LtE=>aal
 |.Gt=>aaq
 |.GtE=>aar
 |.Is=>aan
 |.IsNot=>aam
 |.In=>aao
 |.NotIn=>aah
structure eU(G:GI)(O:ay)(k:Nat)(cs:Scope)(c:Cp):Prop where
 E:∀ e,SE G O k cs e (c.E e)
 T:∀ e,ST G O k cs e (c.T e)
theorem eU.L(ih:eU G O k cs c):∀ es,es.all eH=true->SL G O k cs es (es.map c.E)
 |[]=>fun _=>L7
 |e :: es=>fun h=>YC (ih.E e) (ih.L es (and_true h).2) (and_true h).1
theorem eU.EA(ih:eU G O k cs c):∀ e es,zo G O k cs (e :: es) ((e :: es).map c.E)
 |e,[]=>af6 (ih.E e)
 |e,e2 :: es=>af7 (ih.E e) zA (ih.EA e2 es)
theorem eU.EO(ih:eU G O k cs c):∀ e es,zm G O k cs (e :: es) ((e :: es).map c.E)
 |e,[]=>afV (ih.E e)
 |e,e2 :: es=>afW (ih.E e) zA (ih.EO e2 es)
theorem eU.AT(ih:eU G O k cs c):∀ es,zp G O k cs es (es.map c.T)
 |[]=>aiv
 |e :: es=>aiy (ih.T e) (ih.AT es)
theorem eU.OT(ih:eU G O k cs c):∀ es,zl G O k cs es (es.map c.T)
 |[]=>ab6
 |e :: es=>ab7 (ih.T e) (ih.OT es)
theorem eU.P(ih:eU G O k cs c):∀ e,SP G O k cs e (w9 c e)
 |none=>abU
 |some e=>abT (ih.E e)
theorem agY(ih:eU G O k cs c):SE G O k cs (.BoolOp op es pos) (S9 c op es):=by
 cases es with
 |nil=>exact iB
 |cons e es=>cases op with
  |And=>exact YN (ih.EA e es)
  |Or=>exact Yk (ih.EO e es)
theorem agB(ih:eU G O k cs c){l:Expr}{ops:List CmpOp}{rs:List Expr}{pos:Pos}:SE G O k cs (.Compare l ops rs pos) (B0 c l ops rs):=
 mS fun op h1=>mS fun r h2=>by rw[mT h1,mT h2];exact o3 (fun _=>iB) fun h=>YE (ih.E _) (ih.E _) (SG _) h
theorem agA(ih:eU G O k cs c){l:Expr}{ops:List CmpOp}{rs:List Expr}{pos:Pos}:ST G O k cs (.Compare l ops rs pos) (B0 c l ops rs):=
 EG fun op h1=>EG fun r h2=>by rw[mT h1,mT h2];exact Hz (fun _=>tl) fun h=>YD (ih.E _) (ih.E _) (SG _) h
theorem YT(h:sliceOf e=some p):∃ pos,e=.Slice p.1 p.2 none pos:=
 let ⟨hc,h⟩:=iC h
 Expr.Slice.elim (motive_1:=fun e=>∀ hc:e.ctorIdx=26,Expr.Slice.elim e hc (fun lo hi st _=>st.elim (some (lo,hi)) fun _=>none)=some p->∃ pos,e=.Slice p.1 p.2 none pos) e hc (fun lo hi st pos _ h=>by
  cases st with
  |none=>exact⟨pos,congrArg (fun p:Option Expr×Option Expr=>Expr.Slice p.1 p.2 none pos) (aU h)⟩
  |some _=>cases h) hc h
theorem aiA(h:Cf e=some p):e=.Attribute p.1 p.2.1 p.2.2:=
 let ⟨hc,h⟩:=iC h
 Expr.Attribute.elim (motive_1:=fun e=>∀ hc:e.ctorIdx=20,Expr.Attribute.elim e hc (fun o x p=>some (o,x,p))=some p->e=.Attribute p.1 p.2.1 p.2.2) e hc (fun o x q _ h=>congrArg (fun p:Expr×Str×Pos=>Expr.Attribute p.1 p.2.1 p.2.2) (aU h)) hc h
theorem O6(h:¬e.ctorIdx=n):iU e n=false:=by
 cases q:iU e n with
 |false=>rfl
 |true=>exact absurd (Ij q) h
theorem aiz(h:Cf e=none):Av e=true:=by
 by_cases hc:e.ctorIdx=20
 ·exact Expr.Attribute.elim (motive_1:=fun e=>Cf e=none->Av e=true) e hc (fun o x p h=>Mc h) h
 ·exact congrArg not (O6 hc)
theorem ad7(h:uX f=true):∃ p,f=.Name (Str.ofString "reversed") p:=by
 unfold uX at h;split at h
 ·rename_i r hr;obtain⟨p,rfl⟩:=sA hr;exact⟨p,by rw[eq_of_beq h]⟩
 ·cases h
theorem aaI(h:MI e0=some e):∃ p1 p2,e0=.Call (.Name (Str.ofString "reversed") p1) [e] [] p2:=by
 obtain⟨hc,h⟩:=iC h;refine Expr.Call.elim (motive_1:=fun e0=>∀ hc:e0.ctorIdx=16,Expr.Call.elim e0 hc (fun f args fj _=>cond (fj.isEmpty&&uX f) (one args) none)=some e->∃ p1 p2,e0=.Call (.Name (Str.ofString "reversed") p1) [e] [] p2) e0 hc (fun f args fj pos _ h=>?_) hc h;have h4:cond (fj.isEmpty&&uX f) (one args) none=some e:=h;clear h;cases hb:fj.isEmpty&&uX f with
 |false=>rw[hb]at h4;exact ck h4
 |true=>
  rw[hb]at h4;obtain⟨p,rfl⟩:=ad7 (and_true hb).2;exact⟨p,pos,by rw[g_.mp (and_true hb).1,mT h4]⟩
theorem adV(o:fM G F O k ce)(ih:eU G O k ce.cs c){apos pos p1 p2:Pos}{args:List Expr}(hl:(apos.endLine==pos.line)=true) :
  SE G O k ce.cs (.Call (.Attribute ob x apos) [.Call (.Name (Str.ofString "reversed") p1) [e] [] p2] [] pos) (AQ ce c ob x args e):=by
 unfold AQ;cases hs:(yD ob).bind DT with
 |none=>exact iB
 |some sep=>
  obtain⟨k0,h1,h2⟩:=f6.mp hs;obtain⟨kk,q,rfl⟩:=SK h1;cases X0 h2;refine o3 (fun h=>?_) fun _=>iB;obtain⟨h,h5⟩:=and_true h;obtain⟨h,h4⟩:=and_true h;obtain⟨h,h3⟩:=and_true h;obtain⟨h1,h2⟩:=and_true h;rw[eq_of_beq h1];exact Yu o.g (ih.E _) (by simp) (o.pos h3) h4 (o.rev h2) (of_decide_eq_true h5) hl
theorem acO(o:fM G F O k ce)(ih:eU G O k ce.cs c){ob:Expr}{x:Str}{apos pos:Pos}{args:List Expr}(hu:args.all eH=true)(hb:uD ob=true)(hl:args.length<30)(qB:(apos.endLine==pos.line)=true) :
  SE G O k ce.cs (.Call (.Attribute ob x apos) args [] pos) (NW ce c ob x args):=
 th (m:=fun q=>match q with|some e=>AQ ce c ob x args e|none=>methP c ob x args) (fun _=>rfl) rfl (fun e h=>by
  obtain⟨a,h1,h2⟩:=f6.mp h;obtain⟨p1,p2,rfl⟩:=aaI h2;rw[mT h1]
  exact adV o ih qB) (mS fun nm hn=>Yq o.sc (acL o.g o.ko) (ih.E _) (ih.L _ hu) (EV hn) hb hu hl qB)
theorem agJ(o:fM G F O k ce)(ih:eU G O k ce.cs c){args:List Expr}:SE G O k ce.cs (.Call f args fj pos) (S3 ce c f args fj pos):=
 o3 (fun h=>by
  obtain⟨h1,hu⟩:=and_true h;rw[g_.mp h1];unfold S4;split
  ·rename_i p hp;rw[aiA hp];refine o3 (fun h=>?_) fun _=>iB;obtain⟨h,h4⟩:=and_true h;obtain⟨h2,h3⟩:=and_true h;exact acO o ih hu h2 (of_decide_eq_true h3) h4
  ·rename_i hn
   exact YF o.sc (ih.E _) (ih.L _ hu) (aiz hn) hu) fun _=>iB
theorem Xp(o:fM G F O k ce)(ih:eU G O k ce.cs c)(e:Expr):SE G O k ce.cs e (treeE ce c e):=by
 cases e with
 |Constant q _ _=>cases q with
  |none=>exact Yn
  |bool=>exact YI
  |int=>exact Yw
  |str=>exact Yh (by simp)
  |_=>exact iB
 |Name=>exact acE o
 |Tuple=>exact o3 (fun h=>Yg (ih.L _ h)) fun _=>iB
 |List=>exact o3 (fun h=>L8 (ih.L _ h)) fun _=>iB
 |BinOp=>exact mS fun q h=>YJ (ih.E _) (ih.E _) (agS h)
 |UnaryOp op=>cases op with
  |USub=>exact Yo (ih.E _)
  |Not=>exact Ym (ih.E _) zA
  |_=>exact iB
 |BoolOp=>exact agY ih
 |Compare=>exact agB ih
 |IfExp=>exact Yv (ih.T _) (ih.E _) (ih.E _)
 |Subscript a i pos=>exact th (o:=sliceOf i) (m:=fun (q:Option (Option Expr×Option Expr))=>match q with|some p=>.sl (c.E a) (w9 c p.1) (w9 c p.2)|none=>.idx (c.E a) (c.E i)) (fun _=>rfl) rfl (fun p h=>by
   obtain⟨q,rfl⟩:=YT h
   exact Yi (ih.E _) (ih.P _) (ih.P _)) (Yx (ih.E _) (ih.E _))
 |Attribute=>exact mS fun nm h=>o3 (fun hb=>YL o.g o.ko (ih.E _) (EV h) fun env=>TC hb) fun _=>iB
 |Call=>exact agJ o ih
 |Dict=>exact agg o
 |_=>exact iB
theorem WO(ih:eU G O k cs c):ST G O k cs e (KR c e):=Hz (fun h=>by
  obtain⟨h1,h2⟩:=and_true h;refine Ye (ih.E e) zA ?_ ?_
  ·intro env whole;cases e<;>first|rfl|cases h1
  ·intro lv cv;revert h2
   cases c.E e<;>intro h2<;>first|rfl|cases h2) fun _=>tl
theorem Xo(ih:eU G O k cs c)(e:Expr):ST G O k cs e (Dw c e):=by
 cases e with
 |UnaryOp op=>cases op with
  |Not=>exact Yl (ih.T _)
  |_=>exact tl
 |BoolOp op es=>cases op with
  |And=>exact YM (ih.AT es)
  |Or=>exact Yj (ih.OT es)
 |Constant q _ _=>cases q with
  |bool=>exact YH
  |_=>exact tl
 |Compare l ops rs _=>
  show ST G O k cs _ (HF c l ops rs);unfold HF;split
  ·rename_i p hp;refine EG fun q hq=>?_;rw[wz hp,wz hq];refine Hz (fun h=>?_) fun _=>tl;obtain⟨h,h3⟩:=and_true h;obtain⟨h1,h2⟩:=and_true h;rw[eq_of_beq h1,eq_of_beq h2];exact YG (ih.E _) (ih.E _) (ih.E _) ((q9 _).mp h3)
  ·exact agA ih
 |_=>exact WO ih
theorem qP(o:fM G F O k ce):∀ n,eU G O k ce.cs (fW ce n)
 |0=>⟨fun _=>iB,fun _=>tl⟩
 |n+1=>⟨fun e=>th (m:=fun q=>q.getD (treeE ce (fW ce n) e)) (fun _=>rfl) rfl (fun pe h=>o.ex _ _ h) (Xp o (qP o n) e),fun e=>by
  show ST G O k ce.cs e ((ce.ext e).getD (Dw (fW ce n) e));cases h:ce.ext e with
  |none=>exact Xo (qP o n) e
  |some pe=>exact o.ext _ _ h⟩
end
noncomputable def uO(cs:Scope):List Str->Option (List Nat)
 |[]=>some []
 |x :: r=>(oq cs x).bind fun i=>(uO cs r).bind fun is=>some (i :: is)
noncomputable def wA(e:Expr):Option (List Expr):=if h:e.ctorIdx=25 then Expr.Tuple.elim e h fun vs _ _=>some vs else none
def DI(e:Expr):Bool:=match wA e with
 |some vs=>vs.all (foldedForSure 8)||!(vs.all (constantsAlone 8))
 |none=>true
noncomputable def afv(a:Nat):V->Bool
 |.fn b=>b==a
 |_=>false
def AX(ce:CE)(e:Expr):Bool:=match m7 e with
 |some x=>qm ce.cs x&&(match ce.gl x with
  |some v=>afv d_ v
  |none=>false)
 |none=>false
def EW(e:Expr):Option (Str×List Expr):=if h:e.ctorIdx=16 then Expr.Call.elim e h fun f args fj _=>cond fj.isEmpty ((m7 f).map fun x=>(x,args)) none else none
noncomputable def M5(s:Stmt):Option Expr:=if h:s.ctorIdx=16 then Stmt.Raise.elim s h fun e c _=>c.elim e fun _=>none else none
structure Hd where
 t:Option Expr
 x:Option Str
 b:List Stmt
noncomputable def vi:PySem.ExceptHandler->Hd
 |.ExceptHandler t x b _=>⟨t,x,b⟩
def fD{α:Type}(o:Option α)(f:α->PS):PS:=match o with
 |some a=>f a
 |none=>e7
structure Cs where
 S:Stmt->PS
 H:Stmt->PS
section
variable (ce:CE)(c:Cp)(d:Cp)(s:Cs)
def TK(t e:Expr):PS:=match t with
 |.Name x _=>fD (oq ce.cs x) fun i=>.assign i (c.E e)
 |.Attribute o x _=>fD (Au x) fun nm=>.setattr (c.E o) nm (c.E e)
 |.Subscript o i _=>.pW (c.E o) (c.E i) (c.E e)
 |.Tuple elts _ _=>fD (namesOf elts) fun xs=>fD (uO ce.cs xs) fun is=>if is.Nodup/\DI e=true then .iE is (c.E e) else e7
 |_=>e7
def EJ(i:Nat)(e:Expr)(b:List Stmt):PS:=cond (ET e) (.oW i (c.E e) (b.map s.S)) e7
def QT(x:Str)(e:Expr)(b:List Stmt):PS:=fD (oq ce.cs x) fun i=>match EW e with
 |some p=>cond (qm ce.cs p.1&&ce.ty p.1 "range") (fD (two p.2) fun q=>cond (eH q.1&&eH q.2) (.forR i (c.E q.1) (c.E q.2) (b.map s.S)) e7) (EJ c s i e b)
 |none=>EJ c s i e b
def Ds(i j:Nat)(e:Expr)(b:List Stmt):PS:=cond (ET e) (.ti i j (c.E e) (b.map s.S)) e7
def QR(x y:Str)(e:Expr)(b:List Stmt):PS:=fD (uO ce.cs [x,y]) fun is=>fD (two is) fun ij=>match EW e with
 |some p=>cond (qm ce.cs p.1&&ce.ty p.1 "enumerate") (fD (one p.2) fun q=>cond (eH q) (.qI ij.1 ij.2 (c.E q) (b.map s.S)) e7) (Ds c s ij.1 ij.2 e b)
 |none=>Ds c s ij.1 ij.2 e b
def QS(t e:Expr)(b:List Stmt):PS:=cond ce.pos (match m7 t with
 |some x=>QT ce c s x e b
 |none=>fD (wA t) fun es=>fD (two es) fun q=>fD (m7 q.1) fun x=>fD (m7 q.2) fun y=>QR ce c s x y e b) e7
def Gu(b:List Stmt)(i:Nat)(h:List Stmt):PS:=match h with
 |[]=>e7
 |st :: hs=>match (cond hs.isEmpty (M5 st) none)with
  |some e=>.pO (b.map s.S) i (d.E e)
  |none=>.nU (b.map s.S) i ((st :: hs).map s.H)
def Lc(b:List Stmt)(hs:List PySem.ExceptHandler):PS:=fD (one hs) fun h=>fD (vi h).t fun t=>fD (vi h).x fun x=>fD (oq ce.cs x) fun i=>cond (ce.pos&&AX ce t) (Gu d s b i (vi h).b) e7
def zC:Stmt->PS
 |.Return e _=>fD e fun e=>.ret (c.E e)
 |.Expr e _=>cond (oj e) (.expr (c.E e)) e7
 |.Assign ts e _=>fD (one ts) fun t=>cond (oj e) (TK ce c t e) e7
 |.If t a b _=>.aE (c.T t) (a.map s.S) (b.map s.S)
 |.While t b o _=>cond o.isEmpty (.fP (c.T t) (b.map s.S)) e7
 |.For t e b o _=>cond o.isEmpty (QS ce c s t e b) e7
 |.Raise e o _=>cond (ce.pos&&o.isNone) (fD e fun e=>.raise (c.E e)) e7
 |.Try b hs o f _=>cond (o.isEmpty&&f.isEmpty) (Lc ce d s b hs) e7
 |_=>e7
end
noncomputable def tx(ce:CE):Nat->Stmt->PS
 |0,_=>e7
 |n+1,st=>zC ce.off (fW ce.off n) (fW ce.off n) ⟨tx ce n,fun _=>e7⟩ st
noncomputable def vF(ce:CE):Nat->Stmt->PS
 |0,_=>e7
 |n+1,st=>(ce.sp st).getD (zC ce (fW ce n) (fW ce.off n) ⟨vF ce n,tx ce n⟩ st)
def jB(ce:CE)(n:Nat)(b:List Stmt):List PS:=b.map (vF ce n)
section
variable {G:GI}{F:Nat}{O:ay}{k:Nat}{ce:CE}{c d:Cp}{s:Cs}{cs:Scope}
theorem fR{α:Type}{o:Option α}{f:α->PS}{st:Stmt}(h:∀ a,o=some a->SS G F O k cs st (f a)):SS G F O k cs st (fD o f):=by
 cases o with
 |none=>exact gy
 |some a=>exact h a rfl
theorem jA{b:Bool}{p q:PS}{st:Stmt}(h:b=true->SS G F O k cs st p)(h':b=false->SS G F O k cs st q):SS G F O k cs st (cond b p q):=by
 cases b with
 |true=>exact h rfl
 |false=>exact h' rfl
theorem AB:∀ {xs:List Str}{is:List Nat},uO cs xs=some is->h9 cs is xs
 |[],is=>fun h=>by cases h;exact .nil
 |x :: r,is=>fun h=>by
  obtain⟨i,h1,h⟩:=f6.mp h;obtain⟨l,h2,h⟩:=f6.mp h;cases h;obtain⟨a,b,_⟩:=uP h1;exact .cons a b (AB h2)
theorem K6(h:wA e=some vs):∃ kk pos,e=.Tuple vs kk pos:=
 let ⟨hc,h⟩:=iC h
 Expr.Tuple.elim (motive_1:=fun e=>∀ hc:e.ctorIdx=25,Expr.Tuple.elim e hc (fun vs _ _=>some vs)=some vs->∃ kk pos,e=.Tuple vs kk pos) e hc (fun c kk p _ h=>⟨kk,p,congrArg (fun c=>Expr.Tuple c kk p) (aU h)⟩) hc h
theorem Xj(h:wA e=none):FE e=false:=by
 by_cases hc:e.ctorIdx=25
 ·exact Expr.Tuple.elim (motive_1:=fun e=>wA e=none->FE e=false) e hc (fun o x p h=>Mc h) h
 ·exact O6 hc
theorem XI{elts:List Expr}{et:Pos}(hn:namesOf elts=some xs)(h:DI e=true) :
  swappedStores [.Tuple elts kk et] e env=pure none∨swappedStores [.Tuple elts kk et] e env=pure (some xs):=by
 unfold DI at h;split at h
 ·rename_i vs ht;obtain⟨kk,pos,rfl⟩:=K6 ht;exact XF hn ((CT.mp h).imp id fun q=>(q9 _).mp q)
 ·rename_i ht;exact .inl (XG (Xj ht))
theorem ND(h:ET e=true)(env:Env)(v:Value):foldedSetIterable e env v=pure v:=by
 cases e<;>first|rfl|cases h
theorem afH:eg G F O k cs es (e7 :: ps):=fun c J lv z Q E rd kx=>kx.elim
theorem fM.off(o:fM G F O k ce):fM G F cI 0 ce.off:=
 ⟨o.g,o.ko,o.eo,BI o.g,o.gl,o.bl,o.ty,o.rev,fun h=>Bool.noConfusion h,o.kind,fun _ _ h=>Option.noConfusion rfl (heq_of_eq h),fun _ _ h=>Option.noConfusion rfl (heq_of_eq h),fun _ _ h=>Option.noConfusion rfl (heq_of_eq h)⟩
theorem O3(o:fM G F O k ce)(h:AX ce t=true):pI G ce.cs t (.fn d_):=by
 unfold AX at h;split at h
 ·rename_i x hx;obtain⟨pos,rfl⟩:=sA hx;obtain⟨h1,h2⟩:=and_true h;obtain⟨g1,g2⟩:=AW h1;split at h2
  ·rename_i v hv;cases v<;>try cases h2
   rename_i a;have:a=d_:=eq_of_beq h2;subst this;exact Og o.g (o.gl _ _ hv) g1 g2
  ·cases h2
 ·cases h
theorem NH(h:EW e=some p):∃ p1 p2,e=.Call (.Name p.1 p1) p.2 [] p2:=by
 obtain⟨hc,h⟩:=iC h;refine Expr.Call.elim (motive_1:=fun e=>∀ hc:e.ctorIdx=16,Expr.Call.elim e hc (fun f args fj _=>cond fj.isEmpty ((m7 f).map fun x=>(x,args)) none)=some p->∃ p1 p2,e=.Call (.Name p.1 p1) p.2 [] p2) e hc (fun f args fj pos _ h=>?_) hc h;have h4:cond fj.isEmpty ((m7 f).map fun x=>(x,args)) none=some p:=h;clear h;cases hb:fj.isEmpty with
 |false=>rw[hb]at h4;exact ck h4
 |true=>
  rw[hb]at h4;obtain⟨x,h1,rfl⟩:=eO.mp h4;obtain⟨p,rfl⟩:=sA h1;exact⟨p,pos,by rw[g_.mp hb]⟩
theorem abc{st:Stmt}{e:Expr}(h:M5 st=some e):∃ pos,st=.Raise (some e) none pos:=
 let ⟨hc,h⟩:=iC h
 Stmt.Raise.elim (motive_2:=fun st=>∀ hc:st.ctorIdx=16,Stmt.Raise.elim st hc (fun e c _=>c.elim e fun _=>none)=some e->∃ pos,st=.Raise (some e) none pos) st hc (fun a b pos _ h=>by
  cases b with
  |none=>have h:a=some e:=h;subst h;exact⟨pos,rfl⟩
  |some _=>cases h) hc h
theorem aeU(h:PySem.ExceptHandler):∃ pos,h=.ExceptHandler (vi h).t (vi h).x (vi h).b pos:=by cases h;exact⟨_,rfl⟩
theorem kZ(h:∀ st,SS G F O k cs st (s.S st)):∀ b,eg G F O k cs b (b.map s.S)
 |[]=>L0
 |st :: b=>X5 (h st) (kZ h b)
structure In(G:GI)(F:Nat)(O:ay)(k:Nat)(ce:CE)(c d:Cp)(s:Cs):Prop where
 o:fM G F O k ce
 c:eU G O k ce.cs c
 d:eU G cI 0 ce.cs d
 S:∀ st,SS G F O k ce.cs st (s.S st)
 H:∀ b:List Stmt,eg G F cI 0 ce.cs b (b.map s.H)
theorem KZ(i:In G F O k ce c d s)(h:(qm ce.cs nm&&ce.ty nm T)=true):TypeName G.K ce.cs nm T:=
 let ⟨h1,h2⟩:=and_true h;let ⟨a,b,c⟩:=i.o.ty _ _ h2;let ⟨d,e⟩:=AW h1;⟨a,b,c,d,e⟩
theorem aiB(i:In G F O k ce c d s){t e:Expr}{pos:Pos}(h:oj e=true):SS G F O k ce.cs (.Assign [t] e pos) (TK ce c t e):=by
 cases t with
 |Name=>exact fR fun j hj=>let ⟨a,b,_⟩:=uP hj;aaf (i.c.E _) h a b
 |Attribute=>exact fR fun nm hn=>Z6 i.o.g i.o.ko (i.c.E _) (i.c.E _) h (EV hn)
 |Subscript=>exact Z5 (i.c.E _) (i.c.E _) (i.c.E _) h
 |Tuple elts _ _=>
  refine fR fun xs hx=>fR fun is hi=>?_;split
  ·rename_i hc;exact aae (i.c.E _) hx (AB hi) hc.1 h fun env _=>XI hx hc.2
  ·exact gy
 |_=>exact gy
theorem QW(i:In G F O k ce c d s)(hk:0<k)(hj:oq ce.cs x=some j):SS G F O k ce.cs (.For (.Name x p1) e b [] pos) (EJ c s j e b):=
 let ⟨a1,a2,_⟩:=uP hj
 jA (fun h=>aac (i.c.E _) (Lj a1 a2) (kZ i.S b) (ND h) hk) fun _=>gy
theorem aft(i:In G F O k ce c d s)(hk:0<k):SS G F O k ce.cs (.For (.Name x p1) e b [] pos) (QT ce c s x e b):=by
 refine fR fun j hj=>?_;split
 ·rename_i p hp;refine jA (fun ht=>fR fun q hq=>jA (fun hu=>?_) fun _=>gy) fun _=>QW i hk hj;obtain⟨q1,q2,rfl⟩:=NH hp;obtain⟨a1,a2,_⟩:=uP hj;obtain⟨u1,u2⟩:=and_true hu;rw[wz hq];exact Z_ i.o.g (KZ i ht) (i.c.E _) (i.c.E _) u1 u2 (Lj a1 a2) (kZ i.S b) hk
 ·exact QW i hk hj
theorem QV(i:In G F O k ce c d s)(hk:0<k)(hj:uO ce.cs [x,y]=some [j,l]) :
  SS G F O k ce.cs (.For (.Tuple [.Name x p1,.Name y p2] kk tp) e b [] pos) (Ds c s j l e b):=
 jA (fun h=>aaa (i.c.E _) (Li (AB hj)) (kZ i.S b) (ND h) hk) fun _=>gy
theorem afs(i:In G F O k ce c d s)(hk:0<k):SS G F O k ce.cs (.For (.Tuple [.Name x p1,.Name y p2] kk tp) e b [] pos) (QR ce c s x y e b):=by
 refine fR fun is hj=>fR fun ij dJ=>?_;have hj:uO ce.cs [x,y]=some [ij.1,ij.2]:=by rw[hj,wz dJ]
 split
 ·rename_i p hp;refine jA (fun ht=>fR fun q hq=>jA (fun hu=>?_) fun _=>gy) fun _=>QV i hk hj;obtain⟨q1,q2,rfl⟩:=NH hp;rw[mT hq];exact aab i.o.g (KZ i ht) (i.c.E _) hu (AB hj) (kZ i.S b) hk
 ·exact QV i hk hj
theorem afr(i:In G F O k ce c d s){t e:Expr}{b:List Stmt}{pos:Pos}:SS G F O k ce.cs (.For t e b [] pos) (QS ce c s t e b):=
 jA (fun hp=>by
  have hk:=i.o.pos hp;split
  ·rename_i x hx;obtain⟨q,rfl⟩:=sA hx;exact aft i hk
  ·refine fR fun es he=>fR fun q hq=>fR fun x hx=>fR fun y hy=>?_;obtain⟨kk,p,rfl⟩:=K6 he;obtain⟨p1,e1⟩:=sA hx;obtain⟨p2,e2⟩:=sA hy;rw[wz hq,e1,e2]
   exact afs i hk) fun _=>gy
theorem ae7(i:In G F O k ce c d s)(hk:0<k){b h:List Stmt}{t:Expr}{x:Str}{j:Nat}{pos pos':Pos}(ht:AX ce t=true)(hj:oq ce.cs x=some j) :
  SS G F O k ce.cs (.Try b [.ExceptHandler (some t) (some x) h pos'] [] [] pos) (Gu d s b j h):=by
 obtain⟨a1,a2,_⟩:=uP hj;cases h with
 |nil=>exact gy
 |cons st hs=>
  unfold Gu;dsimp only;split
  ·rename_i e he;cases hs with
   |cons=>cases he
   |nil=>
    obtain⟨q,rfl⟩:=abc he;exact Z3 i.o.g i.o.eo hk (kZ i.S b) (O3 i.o ht) (i.d.E _) a1 a2
  ·exact Z4 i.o.g i.o.eo hk (kZ i.S b) (O3 i.o ht) (i.H _) a1 a2
theorem Xk(i:In G F O k ce c d s):SS G F O k ce.cs (.Try b hs [] [] pos) (Lc ce d s b hs):=
 fR fun h hh=>fR fun t ht=>fR fun x hx=>fR fun j hj=>jA (fun hc=>by
  obtain⟨q,e⟩:=aeU h;rw[mT hh,e,ht,hx]
  exact ae7 i (i.o.pos (and_true hc).1) (and_true hc).2 hj) fun _=>gy
theorem Ld(i:In G F O k ce c d s)(st:Stmt):SS G F O k ce.cs st (zC ce c d s st):=by
 cases st with
 |Return e=>exact fR fun e h=>by rw[h];exact Z7 (i.c.E _)
 |Expr=>exact jA (fun h=>aad (i.c.E _) h i.o.kind) fun _=>gy
 |Assign=>exact fR fun t h=>by rw[mT h];exact jA (fun h=>aiB i h) fun _=>gy
 |If=>exact Z9 (i.c.T _) (kZ i.S _) (kZ i.S _)
 |While=>exact jA (fun h=>by rw[g_.mp h];exact Z2 (i.c.T _) (kZ i.S _)) fun _=>gy
 |For=>exact jA (fun h=>by rw[g_.mp h];exact afr i) fun _=>gy
 |Raise e o=>exact jA (fun h=>fR fun e' he=>by
   rw[he,CG.mp (and_true h).2]
   exact Z8 i.o.g i.o.eo (i.c.E _) (i.o.pos (and_true h).1)) fun _=>gy
 |Try=>exact jA (fun h=>by rw[g_.mp (and_true h).1,g_.mp (and_true h).2];exact Xk i) fun _=>gy
 |_=>exact gy
theorem SF(o:fM G F O k ce):∀ n st,SS G F cI 0 ce.cs st (tx ce n st)
 |0=>fun _=>gy
 |n+1=>fun st=>Ld (ce:=ce.off) (s:=⟨tx ce n,fun _=>e7⟩) ⟨o.off,qP o.off n,qP o.off n,SF o n,fun b=>by cases b with
  |nil=>exact L0
  |cons=>exact afH⟩ st
theorem HA(o:fM G F O k ce):∀ n st,SS G F O k ce.cs st (vF ce n st)
 |0=>fun _=>gy
 |n+1=>fun st=>by
  show SS G F O k ce.cs st ((ce.sp st).getD (zC ce (fW ce n) (fW ce.off n) ⟨vF ce n,tx ce n⟩ st));cases h:ce.sp st with
  |some ps=>exact o.sp _ _ h
  |none=>exact Ld ⟨o,qP o n,qP o.off n,HA o n,kZ (s:=⟨tx ce n,tx ce n⟩) (SF o n)⟩ st
theorem vE(o:fM G F O k ce)(n:Nat)(b:List Stmt):eg G F O k ce.cs b (jB ce n b):=kZ (s:=⟨vF ce n,vF ce n⟩) (HA o n) b
end
noncomputable def cp(s:String):List Nat:=(Str.ofString s).cps.toList
noncomputable def aiC(s:Stmt):Option Expr:=if h:s.ctorIdx=5 then Stmt.Assign.elim s h fun _ e _=>some e else none
noncomputable def strOf:Const->Str
 |.str x=>x
 |_=>⟨#[]⟩
def mH:Str:=(((PySem.Challenge.pw_pc0155_01.main.body)[76]?.bind aiC).bind yD).elim ⟨#[]⟩ strOf
noncomputable def MJ:{ s:String // mH=Str.ofString s }:=⟨_,by
 conv=>lhs;whnf
 with_unfolding_all exact rfl⟩
noncomputable def MK:{ l:List Char // MJ.1=String.ofList l }:=⟨_,by conv=>lhs;whnf⟩
noncomputable def mI:List Nat:=MK.1.map Char.toNat
theorem Ei:mH=S mI:=by
 rw[MJ.2,MK.2];exact PySem.W.Fast.ofString_ofList _
def rS(l:List String):List V:=l.map fun s=>V.str (cp s)
def GJ:V:=.str (cp "0123456789")
def yg:V:=.str mI
def BF:V:=.cz (["ZERO","ZEROS","ZEROES","SPACE","SPACES","HIGH-VALUE","HIGH-VALUES","LOW-VALUE","LOW-VALUES","QUOTE","QUOTES"].map cp) (rS ["ZERO","ZERO","ZERO","SPACE","SPACE","HIGH","HIGH","LOW","LOW","QUOTE","QUOTE"])
def QM:V:=.cz (["ZERO","SPACE","HIGH","LOW","QUOTE"].map cp) (rS ["ZERO","SPACE","HIGH-VALUE","LOW-VALUE","QUOTE"])
def vu:V:=.cz (["+","-","*","/","**"].map cp) [.int 1,.int 1,.int 2,.int 2,.int 4]
def vr:V:=.cz (["=","<>","<",">=",">","<="].map cp) (rS ["<>","=",">=","<","<=",">"])
def nt:V:=.tup (rS ["NUMERIC","ALPHABETIC","ALPHABETIC-LOWER","ALPHABETIC-UPPER"])
def lZ:V:=.cz (["POSITIVE","NEGATIVE","ZERO","ZEROS","ZEROES"].map cp) (rS ["POSITIVE","NEGATIVE","ZERO","ZERO","ZERO"])
def BE:V:=.cz (["GREATER","LESS","EQUAL"].map cp) (rS [">","<","="])
def GH:V:=.tup (rS ["=","<",">","<=",">="])
def te:List (String×V):=[("law",.fn 810),("_law_draw",.fn 730),("_law_pen",.fn 737),("_law_reader",.fn 744),("_law_words",.fn 751),("_law_side",.fn 758),("_law_cond",.fn 765),("_law_read",.fn 772),("_law_pairs",.fn 779),("_law_simple",.fn 784),("_law_key",.fn 791),("_law_truth",.fn 798),("_law_is_plain",.fn 805),
 ("show_relation",.fn 496),("strength_of",.fn 503),("in_place",.fn 510),("show_simple",.fn 517),("show_condition",.fn 524),("plain_condition",.fn 531),("pushed_in",.fn 538),("read_condition",.fn 489),("word_here",.fn 355),("is_relation_at",.fn 362),("place_of_word",.fn 369),("is_predicate_here",.fn 376),("is_bare_relation_here",.fn 383),
 ("read_expression",.fn 258),("sign_among",.fn 265),("read_sum",.fn 272),("read_product",.fn 279),("read_factor",.fn 286),("is_lone_number",.fn 293),("read_power",.fn 300),("read_primary",.fn 307),("level_of",.fn 314),("bracketed",.fn 321),("show_expression",.fn 328),("right_part",.fn 335),("show_signed",.fn 342),
 ("negated",.fn 96),("decimal",.fn 89),("worth_of",.fn 124),("read_decimal",.fn 131),("write_decimal",.fn 138),("is_part_next",.fn 184),("read_ref",.fn 205),("read_figure",.fn 219),("read_operand",.fn 226),("show_ref",.fn 243),("show_operand",.fn 250),("is_reserved",.fn 545),
 ("GrammarFault",.fn 72),("Token",.fn 164),("ConditionReader",.fn 477),("Reader",.fn 719),
 ("SIGNED",.int 3),("RAISED",.int 4),("BARE",.int 5),("MOST_DEEP_expressions",.int 20),("MOST_DEEP_conditions",.int 20),
 ("FIGURES",GJ),("RESERVED",yg),("FIGURE_NAMES",BF),("FIGURE_SHOWN",QM),("LEVELS",vu),("OPPOSITES",vr),("CLASSES",nt),("WORDS_OF_SIGNS",lZ),("WORDS_OF_RELATIONS",BE),("RELATIONS",GH)]
def QH(x:Str):Option V:=(te.find? fun y=>x==Str.ofString y.1).map (·.2)
noncomputable def HS:List (String×Bi):=[("len",.len),("abs",.abs),("min",.min),("sum",.sum),("list",.list),("tuple",.tuple),("str",.str)]
def Tb(x:Str):Option Bi:=(HS.find? fun y=>x==Str.ofString y.1).map (·.2)
noncomputable def K0(x:Str)(T:String):Bool:=x==Str.ofString T&&(T=="range"||T=="enumerate")
def tB(cs:Scope)(ex:Expr->Option PE)(ext:Expr->Option PE)(sp:Stmt->Option PS):CE:=⟨cs,QH,Tb,K0,true,true,ex,ext,sp⟩
noncomputable abbrev i0:PE:=.int 0
noncomputable abbrev i1:PE:=.int 1
noncomputable abbrev i2:PE:=.int 2
noncomputable abbrev i3:PE:=.int 3
noncomputable abbrev i4:PE:=.int 4
noncomputable abbrev i5:PE:=.int 5
noncomputable abbrev i6:PE:=.int 6
noncomputable abbrev i7:PE:=.int 7
noncomputable abbrev l0:PE:=.loc 0
noncomputable abbrev l1:PE:=.loc 1
noncomputable abbrev l2:PE:=.loc 2
noncomputable abbrev l3:PE:=.loc 3
noncomputable abbrev l4:PE:=.loc 4
noncomputable abbrev l5:PE:=.loc 5
noncomputable abbrev l6:PE:=.loc 6
noncomputable abbrev l7:PE:=.loc 7
noncomputable abbrev l9:PE:=.loc 9
noncomputable abbrev cf(n:Nat)(as:List PE):PE:=.call (.glob (.fn n)) as
noncomputable abbrev cb(b:Bi)(as:List PE):PE:=.call (.glob (.bi b)) as
def ahi:List PS:=[.assign 1 i0,.oW 2 l0 [.assign 1 (.bin .add (.bin .mul l1 (.int 10)) (.ai (.glob GJ) .index [l2]))],.ret l1]
def Ra:aB:=⟨1,3,[],[false],0,false,ahi⟩
def aip:List PS:=[.aE (.cmp .lt l1 i0) [.ret (.tup [(.bin .mul l0 (.bin .pow (.int 10) (.neg l1))),i0])] [],.fP (.and [(.cmp .gt l1 i0),(.cmp .eq (.bin .mod l0 (.int 10)) i0)]) [.assign 0 (.bin .fdiv l0 (.int 10)),.assign 1 (.bin .sub l1 i1)],.ret (.tup [l0,l1])]
def RV:aB:=⟨2,2,[.int 0],[false,false],0,false,aip⟩
def ahV:List PS:=[.ret (.tup [(.neg (.idx l0 i0)),(.idx l0 i1)])]
def RA:aB:=⟨1,1,[],[false],0,false,ahV⟩
def ahM:List PS:=[.assign 1 (.ite (.cmp .isIn (.sl l0 .none i1) (.tup [(.str [43]),(.str [45])])) i1 i0),.iE [2,3] (.tup [(.sl l0 l1 .none),(.str [])]),.aE (.cmp .isIn (.str [46]) l2) [.assign 4 (.ai l2 .index [(.str [46])]),.iE [2,3] (.tup [(.sl l2 .none l4),(.sl l2 (.bin .add l4 i1) .none)]),.aE (.cmp .eq l3 (.str [])) [.raise (.call bN [(.str [110,111,32,102,105,103,117,114,101,32,98,101,104,105,110,100,32,116,104,101,32,112,111,105,110,116]),(.tup [i0,(cb .len [l0])])])] []] [],.aE (.cmp .eq (.bin .add l2 l3) (.str [])) [.raise (.call bN [(.str [110,111,32,102,105,103,117,114,101]),(.tup [i0,l1])])] [],.forR 5 l1 (cb .len [l0]) [.aE (.and [(.cmp .ig (.idx l0 l5) (.glob GJ)),(.cmp .ne l5 (.bin .add l1 (cb .len [l2])))]) [.raise (.call bN [(.str [110,111,32,102,105,103,117,114,101]),(.tup [i0,l5])])] []],.assign 6 (cf 124 [(.bin .add l2 l3)]),.ret (cf 89 [(.ite (.cmp .eq (.sl l0 .none i1) (.str [45])) (.neg l6) l6),(cb .len [l3])])]
def Ru:aB:=⟨1,7,[],[false],0,false,ahM⟩
def ahh:List PS:=[.assign 1 (cb .str [(cb .abs [(.idx l0 i0)])]),.aE (.cmp .gt (.idx l0 i1) i0) [.assign 1 (.bin .add (.bin .mul (.str [48]) (.bin .sub (.bin .add (.idx l0 i1) i1) (cb .len [l1]))) l1),.assign 1 (.bin .add (.bin .add (.sl l1 .none (.bin .sub (cb .len [l1]) (.idx l0 i1))) (.str [46])) (.sl l1 (.bin .sub (cb .len [l1]) (.idx l0 i1)) .none))] [],.ret (.ite (.cmp .lt (.idx l0 i0) i0) (.bin .add (.str [45]) l1) l1)]
def BJ:aB:=⟨1,2,[],[false],0,false,ahh⟩
def aho:List PS:=[.setattr l0 .kind l1,.setattr l0 .worth l2,.setattr l0 .at_ l3,.setattr l0 .AV l4]
def GV:aB:=⟨5,5,[.tup [.int 0,.int 0],.bool false],[false,false,false,false,false],0,false,aho⟩
def H9:List PS:=[.iE [1,2] (.tup [i0,i0]),.fP (.or [(.cmp .gt l1 i0),(.and [(.cmp .eq l2 i0),(.ai l0 .isSign [(.str [40])])])]) [.aE (.cmp .dR (.ai l0 .peek [l2]) .none) [.ret (.bool false)] [],.aE (.ai l0 .isSign [(.str [40]),l2]) [.assign 1 (.bin .add l1 i1)] [.aE (.ai l0 .isSign [(.str [41]),l2]) [.assign 1 (.bin .sub l1 i1)] [.aE (.and [(.cmp .eq l1 i1),(.ai l0 .isSign [(.str [58]),l2])]) [.ret (.bool true)] []]],.assign 2 (.bin .add l2 i1)],.ret (.bool false)]
def RM:aB:=⟨1,3,[],[false],0,false,H9⟩
def H0:List PS:=[.assign 2 (.ai l0 .name []),.assign 3 (.list []),.fP (.cmp .ne (.ai l0 .oneOf [(.str [79,70,32,73,78])]) (.str [])) [.expr (.ai l3 .append [(.ai l0 .name [])])],.assign 4 (.tup []),.aE (.and [(.ai l0 .isSign [(.str [40])]),(.not (cf 184 [l0]))]) [.assign 4 (.call bN [l0,l1])] [],.assign 5 (.ite (cf 184 [l0]) (.call bN [l0,l1]) .none),.ret (.tup [(.str [114,101,102]),l2,(cb .tuple [l3]),l4,l5])]
def G0:aB:=⟨2,6,[],[false,false],0,false,H0⟩
def ahJ:List PS:=[.aE (.or [(.not (.ai l0 .gU [(.str [119,111,114,100])])),(.cmp .ig (.attr (.ai l0 .peek []) .worth) (.glob BF))]) [.ret .none] [],.ret (.tup [(.str [102,105,103,117,114,101]),(.idx (.glob BF) (.attr (.ai l0 .take []) .worth))])]
def G3:aB:=⟨1,1,[],[false],0,false,ahJ⟩
def ahI:List PS:=[.aE (.ai l0 .isNumber []) [.ret (.tup [(.str [110,117,109,98,101,114]),(.ai l0 .signed [])])] [],.aE (.ai l0 .gU [(.str [108,105,116,101,114,97,108])]) [.ret (.tup [(.str [116,101,120,116]),(.ai l0 .octets [])])] [],.aE (.ai l0 .skip [(.str [65,76,76])]) [.ret (.call bN [l0])] [],.assign 2 (cf 219 [l0]),.ret (.ite (.cmp .dR l2 .none) (cf 205 [l0,l1]) l2)]
def yq:aB:=⟨2,3,[],[false,false],0,false,ahI⟩
def ahE:List PS:=[.assign 2 (.ai (.str [32,79,70,32]) .join [(.bin .add (.list [(.idx l0 i1)]) (cb .list [(.idx l0 i2)]))]),.aE (.cmp .ne (.idx l0 i3) (.tup [])) [.assign 2 (.bin .add l2 (.call bN [(.idx l0 i3),l1]))] [],.aE (.cmp .sM (.idx l0 i4) .none) [.assign 3 (.ite (.cmp .dR (.idx (.idx l0 i4) i1) .none) (.str []) (.bin .add (.str [32]) (.call l1 [(.idx (.idx l0 i4) i1)]))),.assign 2 (.bin .add (.bin .add (.bin .add (.bin .add (.bin .add l2 (.str [32,40])) (.call l1 [(.idx (.idx l0 i4) i0)])) (.str [32,58])) l3) (.str [41]))] [],.ret l2]
def Rp:aB:=⟨2,4,[],[false,false],0,false,ahE⟩
def ahF:List PS:=[.aE (.cmp .eq (.idx l0 i0) (.str [114,101,102])) [.ret (cf 243 [l0,l1])] [],.aE (.cmp .eq (.idx l0 i0) (.str [110,117,109,98,101,114])) [.ret (cf 138 [(.idx l0 i1)])] [],.aE (.cmp .eq (.idx l0 i0) (.str [102,105,103,117,114,101])) [.ret (.idx (.glob QM) (.idx l0 i1))] [],.ret (.bin .add (.ite (.cmp .eq (.idx l0 i0) (.str [97,108,108])) (.str [65,76,76,32]) (.str [])) (.call bN [(.idx l0 i1)]))]
def Rq:aB:=⟨2,2,[],[false,false],0,false,ahF⟩
def ahL:List PS:=[.ret (cf 272 [l0,i0])]
def G4:aB:=⟨1,1,[],[false],0,false,ahL⟩
def ahA:List PS:=[.assign 2 (.ai l0 .peek []),.aE (.or [(.cmp .dR l2 .none),(.cmp .ne (.attr l2 .kind) (.str [115,105,103,110])),(.cmp .ig (.attr l2 .worth) l1)]) [.ret (.str [])] [],.ret (.attr l2 .worth)]
def Rk:aB:=⟨2,3,[],[false,false],0,false,ahA⟩
def yK:List PS:=[.aE (.cmp .gt l1 (.glob (.int 20))) [.raise (.ai l0 .fault [(.str [98,114,97,99,107,101,116,115,32,97,114,101,32,110,101,115,116,101,100,32,116,111,111,32,100,101,101,112])])] [],.assign 2 (cf 279 [l0,l1]),.fP (.cmp .ne (cf 265 [l0,(.tup [(.str [43]),(.str [45])])]) (.str [])) [.assign 3 (.attr (.ai l0 .take []) .worth),.assign 2 (.tup [l3,l2,(cf 279 [l0,l1])])],.ret l2]
def yp:aB:=⟨2,4,[],[false,false],0,false,yK⟩
def yL:List PS:=[.assign 2 (cf 286 [l0,l1]),.fP (.cmp .ne (cf 265 [l0,(.tup [(.str [42]),(.str [47])])]) (.str [])) [.assign 3 (.attr (.ai l0 .take []) .worth),.assign 2 (.tup [l3,l2,(cf 286 [l0,l1])])],.ret l2]
def G1:aB:=⟨2,4,[],[false,false],0,false,yL⟩
def ahK:List PS:=[.assign 2 (cf 265 [l0,(.tup [(.str [43]),(.str [45])])]),.aE (.cmp .eq l2 (.str [])) [.ret (cf 300 [l0,l1])] [],.expr (.ai l0 .take []),.assign 3 (.and [(.cmp .eq l2 (.str [45])),(cf 293 [l0])]),.assign 4 (cf 300 [l0,l1]),.aE l3 [.ret (.tup [(.str [110,117,109,98,101,114]),(cf 96 [(.idx l4 i1)])])] [],.ret (.ite (.cmp .eq l2 (.str [45])) (.tup [(.str [110,101,103]),l4]) l4)]
def qL:aB:=⟨2,5,[],[false,false],0,false,ahK⟩
def aih:List PS:=[.iE [1,2] (.tup [(.ai l0 .peek []),(.ai l0 .peek [i1])]),.aE (.or [(.cmp .dR l1 .none),(.cmp .ne (.attr l1 .kind) (.str [110,117,109,98,101,114]))]) [.ret (.bool false)] [],.ret (.or [(.cmp .dR l2 .none),(.cmp .ne (.attr l2 .kind) (.str [115,105,103,110])),(.cmp .ne (.attr l2 .worth) (.str [42,42]))])]
def RQ:aB:=⟨1,3,[],[false],0,false,aih⟩
def H3:List PS:=[.assign 2 (cf 307 [l0,l1]),.fP (.cmp .ne (cf 265 [l0,(.tup [(.str [42,42])])]) (.str [])) [.expr (.ai l0 .take []),.assign 2 (.tup [(.str [42,42]),l2,(cf 307 [l0,l1])])],.ret l2]
def G2:aB:=⟨2,3,[],[false,false],0,false,H3⟩
def H5(x:PE):List PS:=[.aE (.cmp .ne (cf 265 [l0,(.tup [(.str [43]),(.str [45])])]) (.str [])) [.raise (.ai l0 .fault [(.str [97,110,32,111,112,101,114,97,110,100,32,105,115,32,97,115,107,101,100,32,104,101,114,101])])] [],.aE (.not (.ai l0 .lC [(.str [40])])) [.ret (cf 226 [l0,x])] [],.assign 2 (cf 272 [l0,(.bin .add (.cvar 1) i1)]),.expr (.ai l0 .needSign [(.str [41])]),.ret l2]
def H2:List PS:=H5 (.oy)
def qK:aB:=⟨2,3,[],[false,true],0,false,H2⟩
def ah0:List PS:=[.aE (.or [(.cmp .eq (.idx l0 i0) (.str [110,101,103])),(.and [(.cmp .eq (.idx l0 i0) (.str [110,117,109,98,101,114])),(.cmp .lt (.idx (.idx l0 i1) i0) i0)])]) [.ret (.glob (.int 3))] [],.ret (.ai (.glob vu) .get [(.idx l0 i0),(.glob (.int 5))])]
def G8:aB:=⟨1,1,[],[false],0,false,ah0⟩
def air:List PS:=[.assign 2 (cf 328 [l0]),.ret (.ite (.cmp .lt (cf 314 [l0]) l1) (.bin .add (.bin .add (.str [40]) l2) (.str [41])) l2)]
def RW:aB:=⟨2,3,[],[false,false],0,false,air⟩
def mh:List PS:=[.assign 1 (.list []),.assign 2 l0,.fP (.and [(.cmp .isIn (.idx l2 i0) (.glob vu)),(.cmp .ge (cf 314 [(.idx l2 i1)]) (.idx (.glob vu) (.idx l2 i0)))]) [.expr (.ai l1 .append [(cf 335 [l2])]),.assign 2 (.idx l2 i1)],.aE (.cmp .isIn (.idx l2 i0) (.glob vu)) [.expr (.ai l1 .append [(.bin .add (.bin .add (.bin .add (.str [40]) (cf 328 [(.idx l2 i1)])) (.str [41])) (cf 335 [l2]))])] [.aE (.cmp .eq (.idx l2 i0) (.str [110,101,103])) [.expr (.ai l1 .append [(.bin .add (.str [45,32]) (cf 342 [(.idx l2 i1)]))])] [.expr (.ai l1 .append [(cf 250 [l2,(.glob (.fn 328))])])]],.ret (.joinRev [] l1)]
def tn:aB:=⟨1,3,[],[false],0,false,mh⟩
def ahG:List PS:=[.ret (.bin .add (.bin .add (.bin .add (.str [32]) (.idx l0 i0)) (.str [32])) (cf 321 [(.idx l0 i2),(.idx (.qO [1,2,4] [.int 2,.int 3,.int 5]) (.idx (.glob vu) (.idx l0 i0)))]))]
def Rr:aB:=⟨1,1,[],[false],0,false,ahG⟩
def ahC:List PS:=[.aE (.cmp .eq (.idx l0 i0) (.str [110,117,109,98,101,114])) [.ret (.bin .add (.bin .add (.str [40]) (cf 250 [l0,(.glob (.fn 328))])) (.str [41]))] [],.ret (cf 321 [l0,(.glob (.int 4))])]
def Rm:aB:=⟨1,1,[],[false],0,false,ahC⟩
def ahj:List PS:=[.assign 2 (.ai l0 .peek [l1]),.ret (.ite (.and [(.cmp .sM l2 .none),(.cmp .eq (.attr l2 .kind) (.str [119,111,114,100]))]) (.attr l2 .worth) (.str []))]
def Rf:aB:=⟨2,3,[.int 0],[false,false],0,false,ahj⟩
def aic:List PS:=[.assign 2 (.ai l0 .peek [l1]),.aE (.and [(.cmp .sM l2 .none),(.cmp .eq (.attr l2 .kind) (.str [115,105,103,110])),(.cmp .isIn (.attr l2 .worth) (.glob GH))]) [.ret (.bool true)] [],.ret (.cmp .isIn (cf 355 [l0,l1]) (.glob BE))]
def RK:aB:=⟨2,3,[],[false,false],0,false,aic⟩
def ahT:List PS:=[.assign 1 (.ite (.cmp .eq (cf 355 [l0]) (.str [73,83])) i1 i0),.ret (.ite (.cmp .eq (cf 355 [l0,l1]) (.str [78,79,84])) (.bin .add l1 i1) l1)]
def Rw:aB:=⟨1,2,[],[false],0,false,ahT⟩
def aid:List PS:=[.assign 1 (cf 369 [l0]),.assign 2 (cf 355 [l0,l1]),.ret (.or [(cf 362 [l0,l1]),(.cmp .isIn l2 (.glob nt)),(.cmp .isIn l2 (.glob lZ))])]
def RL:aB:=⟨1,3,[],[false],0,false,aid⟩
def aij:List PS:=[.ret (cf 362 [l0,(cf 369 [l0])])]
def RS:aB:=⟨1,1,[],[false],0,false,aij⟩
def aiq:List PS:=[.setattr l0 .reader l1,.setattr l0 .isNamed l2,.setattr l0 .depth l3,.setattr l0 .last .none]
def Ha:aB:=⟨4,4,[],[false,false,false,false],0,false,aiq⟩
def tD:List PS:=[.assign 1 (.ai l0 .both []),.fP (.ai (.attr l0 .reader) .skip [(.str [79,82])]) [.assign 1 (.tup [(.str [111,114]),l1,(.ai l0 .both [])])],.ret l1]
def G_:aB:=⟨1,2,[],[false],0,false,tD⟩
def tE:List PS:=[.assign 1 (.ai l0 .turned []),.fP (.ai (.attr l0 .reader) .skip [(.str [65,78,68])]) [.assign 1 (.tup [(.str [97,110,100]),l1,(.ai l0 .turned [])])],.ret l1]
def f_both:aB:=⟨1,2,[],[false],0,false,tE⟩
def ahm:List PS:=[.aE (.and [(.cmp .eq (cf 355 [(.attr l0 .reader)]) (.str [78,79,84])),(.not (cf 383 [(.attr l0 .reader)]))]) [.expr (.ai (.attr l0 .reader) .take []),.ret (.tup [(.str [110,111,116]),(.ai l0 .single [])])] [],.ret (.ai l0 .single [])]
def vy:aB:=⟨1,1,[],[false],0,false,ahm⟩
def Cb:List PS:=[.aE (.not (.ai (.attr l0 .reader) .isSign [(.str [40])])) [.ret (.ai l0 .rL [])] [],.assign 1 (.attr (.attr l0 .reader) .at_),.nU [.ret (.ai l0 .u3 [])] 2 [.iE [3,4] (.tup [l2,(.attr (.attr l0 .reader) .at_)])],.setattr (.attr l0 .reader) .at_ l1,.pO [.ret (.ai l0 .rL [])] 2 (.ite (.cmp .ge (.attr (.attr l0 .reader) .at_) l4) l2 l3)]
def tm:aB:=⟨1,5,[],[false],0,false,Cb⟩
def ahl:List PS:=[.aE (cf 383 [(.attr l0 .reader)]) [.ret (.ai l0 .se [(.ai l0 .rR [])])] [],.assign 1 (cf 258 [(.attr l0 .reader)]),.aE (.and [(.cmp .eq (.idx l1 i0) (.str [114,101,102])),(.ai l0 .isNamed [(.idx l1 i1),(.idx l1 i2)])]) [.setattr l0 .last .none,.ret (.tup [(.str [110,97,109,101,100]),l1])] [],.aE (cf 376 [(.attr l0 .reader)]) [.ret (.ai l0 .Af [l1])] [],.ret (.tup [(.str [114,101,108]),(.ai l0 .zT []),(.ai l0 .rR []),l1])]
def nu:aB:=⟨1,2,[],[false],0,false,ahl⟩
def aim:List PS:=[.aE (.cmp .ge (.attr l0 .depth) (.glob (.int 20))) [.raise (.ai (.attr l0 .reader) .fault [(.str [98,114,97,99,107,101,116,115,32,97,114,101,32,110,101,115,116,101,100,32,116,111,111,32,100,101,101,112])])] [],.expr (.ai (.attr l0 .reader) .needSign [(.str [40])]),.assign 1 (.ai (cf 477 [(.attr l0 .reader),(.attr l0 .isNamed),(.bin .add (.attr l0 .depth) i1)]) .either []),.expr (.ai (.attr l0 .reader) .needSign [(.str [41])]),.setattr l0 .last .none,.ret l1]
def vA:aB:=⟨1,2,[],[false],0,false,aim⟩
def ahr:List PS:=[.aE (.cmp .dR (.attr l0 .last) .none) [.raise (.ai (.attr l0 .reader) .fault [(.str [97,32,114,101,108,97,116,105,111,110,32,105,115,32,109,105,115,115,105,110,103])])] [],.ret (.idx (.attr l0 .last) i0)]
def GW:aB:=⟨1,1,[],[false],0,false,ahr⟩
def ahy:List PS:=[.aE (.cmp .dR (.attr l0 .last) .none) [.raise (.ai (.attr l0 .reader) .fault [(.str [97,32,114,101,108,97,116,105,111,110,32,105,115,32,109,105,115,115,105,110,103])])] [],.ret (.idx (.attr l0 .last) i1)]
def GZ:aB:=⟨1,1,[],[false],0,false,ahy⟩
def ahQ:List PS:=[.assign 2 (cf 355 [(.attr l0 .reader),(cf 369 [(.attr l0 .reader)])]),.aE (.and [(.cmp .ig l2 (.glob nt)),(.cmp .ig l2 (.glob lZ))]) [.ret (.ai l0 .se [l1])] [],.setattr l0 .last .none,.expr (.ai (.attr l0 .reader) .skip [(.str [73,83])]),.assign 3 (.ai (.attr l0 .reader) .skip [(.str [78,79,84])]),.expr (.ai (.attr l0 .reader) .take []),.aE (.cmp .isIn l2 (.glob nt)) [.assign 4 (.tup [(.str [99,108,97,115,115]),l2,l1])] [.assign 4 (.tup [(.str [115,105,103,110]),(.idx (.glob lZ) l2),l1])],.ret (.ite l3 (.tup [(.str [110,111,116]),l4]) l4)]
def yr:aB:=⟨2,5,[],[false,false],0,false,ahQ⟩
def ahH:List PS:=[.expr (.ai (.attr l0 .reader) .skip [(.str [73,83])]),.assign 2 (.ai (.attr l0 .reader) .skip [(.str [78,79,84])]),.assign 3 (.ai l0 .zU []),.setattr l0 .last (.tup [l1,(.ite l2 (.idx (.glob vr) l3) l3)]),.ret (.tup [(.str [114,101,108]),(.idx (.attr l0 .last) i1),l1,(cf 258 [(.attr l0 .reader)])])]
def BK:aB:=⟨2,4,[],[false,false],0,false,ahH⟩
def ahz:List PS:=[.assign 1 (.ai (.attr l0 .reader) .take []),.aE (.cmp .eq (.attr l1 .kind) (.str [115,105,103,110])) [.ret (.attr l1 .worth)] [],.expr (.ai (.attr l0 .reader) .skip [(.ite (.cmp .eq (.attr l1 .worth) (.str [69,81,85,65,76])) (.str [84,79]) (.str [84,72,65,78]))]),.assign 2 (.idx (.glob BE) (.attr l1 .worth)),.aE (.and [(.cmp .ne (.attr l1 .worth) (.str [69,81,85,65,76])),(.cmp .eq (cf 355 [(.attr l0 .reader)]) (.str [79,82])),(.cmp .eq (cf 355 [(.attr l0 .reader),i1]) (.str [69,81,85,65,76]))]) [.expr (.ai (.attr l0 .reader) .take []),.expr (.ai (.attr l0 .reader) .take []),.expr (.ai (.attr l0 .reader) .skip [(.str [84,79])]),.ret (.bin .add l2 (.str [61]))] [],.ret l2]
def Rj:aB:=⟨1,3,[],[false],0,false,ahz⟩
def ahN:List PS:=[.aE (.cmp .dR l1 .none) [.ret (.ai (cf 477 [(.cvar 0),bN,i0]) .either [])] [],.ret (.ai (cf 477 [(.cvar 0),l1,i0]) .either [])]
def BL:aB:=⟨2,2,[.none],[true,false],0,false,ahN⟩
def ahD:List PS:=[.assign 1 (.ite (.cmp .eq (.idx l0 i1) (.str [60,62])) (.str [78,79,84,32,61]) (.idx l0 i1)),.ret (.bin .add (.bin .add (.bin .add (.bin .add (cf 328 [(.idx l0 i2)]) (.str [32])) l1) (.str [32])) (cf 328 [(.idx l0 i3)]))]
def Ro:aB:=⟨1,2,[],[false],0,false,ahD⟩
def ahs:List PS:=[.ret (.ai (.nE [[111,114],[97,110,100],[110,111,116]] [.int 1,.int 2,.int 3]) .get [(.idx l0 i0),i4])]
def Rh:aB:=⟨1,1,[],[false],0,false,ahs⟩
def ail:List PS:=[.assign 2 (cf 524 [l0]),.ret (.ite (.cmp .lt (cf 503 [l0]) l1) (.bin .add (.bin .add (.str [40]) l2) (.str [41])) l2)]
def RT:aB:=⟨2,3,[],[false,false],0,false,ail⟩
def ahB:List PS:=[.aE (.cmp .eq (.idx l0 i0) (.str [114,101,108])) [.ret (cf 496 [l0])] [],.aE (.cmp .eq (.idx l0 i0) (.str [110,97,109,101,100])) [.ret (cf 328 [(.idx l0 i1)])] [],.ret (.bin .add (.bin .add (cf 328 [(.idx l0 i2)]) (.str [32,73,83,32])) (.idx l0 i1))]
def Rl:aB:=⟨1,1,[],[false],0,false,ahB⟩
def HZ:List PS:=[.assign 1 (.list []),.assign 2 l0,.fP (.and [(.cmp .isIn (.idx l2 i0) (.tup [(.str [111,114]),(.str [97,110,100])])),(.cmp .ge (cf 503 [(.idx l2 i1)]) (cf 503 [l2]))]) [.expr (.ai l1 .append [(.bin .add (.bin .add (.bin .add (.str [32]) (.ai (.idx l2 i0) .upper [])) (.str [32])) (cf 510 [(.idx l2 i2),(.bin .add (cf 503 [l2]) i1)]))]),.assign 2 (.idx l2 i1)],.aE (.cmp .eq (.idx l2 i0) (.str [97,110,100])) [.expr (.ai l1 .append [(.bin .add (.bin .add (.bin .add (.str [40]) (cf 524 [(.idx l2 i1)])) (.str [41,32,65,78,68,32])) (cf 510 [(.idx l2 i2),i3]))])] [.aE (.cmp .eq (.idx l2 i0) (.str [110,111,116])) [.expr (.ai l1 .append [(.bin .add (.str [78,79,84,32]) (cf 510 [(.idx l2 i1),i4]))])] [.expr (.ai l1 .append [(cf 517 [l2])])]],.ret (.joinRev [] l1)]
def yo:aB:=⟨1,3,[],[false],0,false,HZ⟩
def ahS:List PS:=[.ret (cf 538 [l0,(.bool false)])]
def Rv:aB:=⟨1,1,[],[false],0,false,ahS⟩
def ahP:List PS:=[.assign 2 (.idx l0 i0),.aE (.cmp .eq l2 (.str [110,111,116])) [.ret (cf 538 [(.idx l0 i1),(.not l1)])] [],.aE (.cmp .isIn l2 (.tup [(.str [97,110,100]),(.str [111,114])])) [.assign 3 (.ite l1 (.idx (.nE [[97,110,100],[111,114]] [(.str [111,114]),(.str [97,110,100])]) l2) l2),.ret (.tup [l3,(cf 538 [(.idx l0 i1),l1]),(cf 538 [(.idx l0 i2),l1])])] [],.aE (.not l1) [.ret l0] [],.ret (.ite (.cmp .eq l2 (.str [114,101,108])) (.tup [(.str [114,101,108]),(.idx (.glob vr) (.idx l0 i1)),(.idx l0 i2),(.idx l0 i3)]) (.tup [(.str [110,111,116]),l0]))]
def BM:aB:=⟨2,4,[],[false,false],0,false,ahP⟩
def aib:List PS:=[.ret (.cmp .isIn (.bin .add (.bin .add (.str [32]) l0) (.str [32])) (.glob yg))]
def RJ:aB:=⟨1,1,[],[false],0,false,aib⟩
def ahO:List PS:=[.setattr l0 .tokens l1,.setattr l0 .at_ l2,.setattr l0 .named .tv]
def G5:aB:=⟨3,3,[.int 0],[false,false,false],0,false,ahO⟩
def ahU:List PS:=[.aE (.cmp .lt (.bin .add (.attr l0 .at_) l1) (cb .len [(.attr l0 .tokens)])) [.ret (.idx (.attr l0 .tokens) (.bin .add (.attr l0 .at_) l1))] [],.ret .none]
def Ry:aB:=⟨2,2,[.int 0],[false,false],0,false,ahU⟩
def aio:List PS:=[.aE (.not (.attr l0 .tokens)) [.ret (cf 72 [l1,(.tup [i0,i0])])] [],.ret (cf 72 [l1,(.attr (.idx (.attr l0 .tokens) (cb .min [(.attr l0 .at_),(.bin .sub (cb .len [(.attr l0 .tokens)]) i1)])) .at_)])]
def RU:aB:=⟨2,2,[],[false,false],0,true,aio⟩
def ahp:List PS:=[.assign 1 (.ai l0 .peek []),.aE (.cmp .dR l1 .none) [.raise (.ai l0 .fault [(.str [116,104,101,32,116,101,120,116,32,101,110,100,115,32,116,111,111,32,101,97,114,108,121])])] [],.setattr l0 .at_ (.bin .add (.attr l0 .at_) i1),.ret l1]
def Rg:aB:=⟨1,2,[],[false],0,false,ahp⟩
def aii:List PS:=[.assign 3 (.ai l0 .peek [l2]),.ret (.and [(.cmp .sM l3 .none),(.cmp .eq (.attr l3 .kind) l1)])]
def RR:aB:=⟨3,4,[.int 0],[false,false,false],0,false,aii⟩
def H8:List PS:=[.assign 2 i0,.oW 3 (.ai l1 .split [(.str [32])]) [.aE (.or [(.not (.ai l0 .gU [(.str [119,111,114,100]),l2])),(.cmp .ne (.attr (.ai l0 .peek [l2]) .worth) l3)]) [.ret (.bool false)] [],.assign 2 (.bin .add l2 i1)],.ret (.bool true)]
def G9:aB:=⟨2,4,[],[false,false],0,false,H8⟩
def ahw:List PS:=[.aE (.not (.ai l0 .isWord [l1])) [.ret (.bool false)] [],.setattr l0 .at_ (.bin .add (.attr l0 .at_) (cb .len [(.ai l1 .split [(.str [32])])])),.ret (.bool true)]
def GY:aB:=⟨2,2,[],[false,false],0,false,ahw⟩
def Cc:List PS:=[.oW 2 (.ai l1 .split [(.str [32])]) [.aE (.ai l0 .skip [l2]) [.ret l2] []],.ret (.str [])]
def Rz:aB:=⟨2,3,[],[false,false],0,false,Cc⟩
def aif:List PS:=[.ret (.and [(.ai l0 .gU [(.str [119,111,114,100]),l1]),(.not (cf 545 [(.attr (.ai l0 .peek [l1]) .worth)]))])]
def RO:aB:=⟨2,2,[.int 0],[false,false],0,false,aif⟩
def ahX:List PS:=[.aE (.not (.ai l0 .isName [])) [.raise (.ai l0 .fault [(.str [97,32,110,97,109,101,32,105,115,32,97,115,107,101,100,32,104,101,114,101])])] [],.ret (.attr (.ai l0 .take []) .worth)]
def G7:aB:=⟨1,1,[],[false],0,false,ahX⟩
def aia:List PS:=[.ret (.and [(.ai l0 .gU [(.str [115,105,103,110]),l2]),(.cmp .eq (.attr (.ai l0 .peek [l2]) .worth) l1)])]
def RI:aB:=⟨3,3,[.int 0],[false,false,false],0,false,aia⟩
def ahv:List PS:=[.aE (.not (.ai l0 .isSign [l1])) [.ret (.bool false)] [],.setattr l0 .at_ (.bin .add (.attr l0 .at_) i1),.ret (.bool true)]
def GX:aB:=⟨2,2,[],[false,false],0,false,ahv⟩
def ahW:List PS:=[.aE (.not (.ai l0 .lC [l1])) [.raise (.ai l0 .fault [(.bin .add l1 (.str [32,105,115,32,97,115,107,101,100,32,104,101,114,101]))])] []]
def G6:aB:=⟨2,2,[],[false,false],0,false,ahW⟩
def aie:List PS:=[.aE (.or [(.ai l0 .isSign [(.str [43])]),(.ai l0 .isSign [(.str [45])])]) [.ret (.ai l0 .gU [(.str [110,117,109,98,101,114]),i1])] [],.ret (.ai l0 .gU [(.str [110,117,109,98,101,114])])]
def RN:aB:=⟨1,1,[],[false],0,false,aie⟩
def ahx:List PS:=[.aE (.not (.ai l0 .isNumber [])) [.raise (.ai l0 .fault [(.str [97,32,110,117,109,98,101,114,32,105,115,32,97,115,107,101,100,32,104,101,114,101])])] [],.assign 1 (.ai l0 .lC [(.str [45])]),.aE (.not l1) [.expr (.ai l0 .lC [(.str [43])])] [],.assign 2 (cf 131 [(.attr (.ai l0 .take []) .worth)]),.ret (.ite l1 (cf 96 [l2]) l2)]
def Ri:aB:=⟨1,3,[],[false],0,false,ahx⟩
def ah7:List PS:=[.aE (.cmp .gt (.idx l0 i2) i0) [.assign 2 (.bin .mod (.idx l0 i2) l1),.pW l0 i2 (.bin .fdiv (.idx l0 i2) l1),.ret l2] [],.assign 3 (.idx l0 i1),.pW l0 i1 (.bin .add l3 i1),.aE (.cmp .ge l3 (cb .len [(.idx l0 i0)])) [.ret (.bin .mod (.bin .fdiv (.bin .mul (.bin .mul (.bin .add (.idx l0 i3) i5) (.bin .add l3 i3)) (.bin .add l3 (.int 11))) i7) l1)] [],.assign 4 (.idx (.idx l0 i0) l3),.aE (.cmp .lt (cb .abs [l4]) (.bin .pow (.int 10) (.int 18))) [.ret (.bin .mod l4 l1)] [],.assign 5 (.bin .add (.bin .mul i2 (.bin .sub (cb .abs [l4]) (.bin .pow (.int 10) (.int 18)))) (.ite (.cmp .lt l4 i0) i1 i0)),.pW l0 i2 (.bin .fdiv l5 l1),.ret (.bin .mod l5 l1)]
def vz:aB:=⟨2,6,[],[false,false],0,false,ah7⟩
def ah5:List PS:=[.ret (.list [(cb .list [(.sl l0 .none (.int 63))]),i0,i0,(.bin .mod (cb .abs [(cb .sum [(.sl l0 .none (.int 63))])]) (.int 1009))])]
def RF:aB:=⟨1,1,[],[false],0,true,ah5⟩
def tC:List PS:=[.assign 1 (.list []),.qI 2 3 l0 [.assign 4 (.ite (.o4 (.str [65]) (.idx l3 i0) (.str [90])) (.str [119,111,114,100]) (.ite (.cmp .isIn (.idx l3 i0) (.str [48,49,50,51,52,53,54,55,56,57])) (.str [110,117,109,98,101,114]) (.ite (.cmp .eq (.idx l3 i0) (.str [39])) (.str [108,105,116,101,114,97,108]) (.str [115,105,103,110])))),.expr (.ai l1 .append [(cf 164 [l4,(.ite (.cmp .eq l4 (.str [108,105,116,101,114,97,108])) (.sl l3 i1 (.neg i1)) l3),(.tup [i1,(.bin .add l2 i1)])])])],.ret (cf 719 [l1])]
def RE:aB:=⟨1,5,[],[false],0,true,tC⟩
def i8:List PS:=[.iE [1,2] (.tup [(.list []),i0]),.fP (.cmp .lt l2 (cb .len [l0])) [.assign 3 (.bin .add l2 i1),.aE (.cmp .isIn (.idx l0 l2) (.str [65,66,67,68,69,70,71,72,73,74,75,76,77,78,79,80,81,82,83,84,85,86,87,88,89,90])) [.fP (.and [(.cmp .lt l3 (cb .len [l0])),(.cmp .isIn (.idx l0 l3) (.str [65,66,67,68,69,70,71,72,73,74,75,76,77,78,79,80,81,82,83,84,85,86,87,88,89,90,45]))]) [.assign 3 (.bin .add l3 i1)]] [.aE (.cmp .isIn (.idx l0 l2) (.str [48,49,50,51,52,53,54,55,56,57])) [.fP (.and [(.cmp .lt l3 (cb .len [l0])),(.cmp .isIn (.idx l0 l3) (.str [48,49,50,51,52,53,54,55,56,57,46]))]) [.assign 3 (.bin .add l3 i1)]] [.aE (.cmp .isIn (.sl l0 l2 (.bin .add l2 i2)) (.tup [(.str [42,42]),(.str [60,61]),(.str [62,61])])) [.assign 3 (.bin .add l2 i2)] []]],.aE (.cmp .ne (.idx l0 l2) (.str [32])) [.expr (.ai l1 .append [(.sl l0 l2 l3)])] [],.assign 2 l3],.ret l1]
def RB:aB:=⟨1,4,[],[false],0,true,i8⟩
def ah3:List PS:=[.assign 1 (.list [(.tup [(.str [114,101,102]),(.str [65]),(.tup []),(.tup []),.none]),(.tup [(.str [110,117,109,98,101,114]),(.tup [i5,i0])]),(.tup [(.str [110,117,109,98,101,114]),(.tup [(.neg i5),i0])]),(.tup [(.str [102,105,103,117,114,101]),(.str [90,69,82,79])]),(.tup [(.str [110,101,103]),(.tup [(.str [114,101,102]),(.str [66]),(.tup []),(.tup []),.none])]),(.tup [(.str [42]),(.tup [(.str [43]),(.tup [(.str [114,101,102]),(.str [65]),(.tup []),(.tup []),.none]),(.tup [(.str [110,117,109,98,101,114]),(.tup [i1,i0])])]),(.tup [(.str [114,101,102]),(.str [66]),(.tup []),(.tup []),.none])])]),.ret (.idx l1 (cf 730 [l0,i6]))]
def RC:aB:=⟨1,2,[],[false],0,false,ah3⟩
def ah8:List PS:=[.assign 2 (.ite (.cmp .gt l1 i0) (cf 730 [l0,i7]) (.bin .add i3 (cf 730 [l0,i4]))),.aE (.cmp .lt l2 i2) [.assign 3 (cf 765 [l0,(.bin .sub l1 i1)]),.ret (.tup [(.idx (.tup [(.str [97,110,100]),(.str [111,114])]) l2),l3,(cf 765 [l0,(.bin .sub l1 i1)])])] [],.aE (.cmp .eq l2 i2) [.ret (.tup [(.str [110,111,116]),(cf 765 [l0,(.bin .sub l1 i1)])])] [],.aE (.cmp .eq l2 i3) [.ret (.tup [(.str [110,97,109,101,100]),(.tup [(.str [114,101,102]),(.bin .add (.str [70]) (.idx (.str [88,89]) (cf 730 [l0,i2]))),(.tup []),(.tup []),.none])])] [],.aE (.cmp .eq l2 i4) [.ret (.tup [(.str [99,108,97,115,115]),(.idx (.tup [(.str [78,85,77,69,82,73,67]),(.str [65,76,80,72,65,66,69,84,73,67]),(.str [65,76,80,72,65,66,69,84,73,67,45,76,79,87,69,82])]) (cf 730 [l0,i3])),(.tup [(.str [114,101,102]),(.str [65]),(.tup []),(.tup []),.none])])] [],.aE (.cmp .eq l2 i5) [.ret (.tup [(.str [115,105,103,110]),(.idx (.tup [(.str [80,79,83,73,84,73,86,69]),(.str [78,69,71,65,84,73,86,69]),(.str [90,69,82,79])]) (cf 730 [l0,i3])),(cf 758 [l0])])] [],.iE [4,3] (.tup [(.idx (.tup [(.str [61]),(.str [60]),(.str [62]),(.str [60,61]),(.str [62,61]),(.str [60,62])]) (cf 730 [l0,i6])),(cf 758 [l0])]),.ret (.tup [(.str [114,101,108]),l4,l3,(cf 758 [l0])])]
def nv:aB:=⟨2,5,[],[false,false],0,false,ah8⟩
def H4(x:PE):List PS:=[.iE [1,2,3] (.tup [(cf 744 [l0]),.none,.none]),.nU [.assign 2 (cf 489 [l1,x])] 4 [.assign 3 l4],.ret (.ite (.and [(.cmp .dR l3 .none),(.cmp .eq (.attr l1 .at_) (cb .len [l0]))]) l2 .none)]
def Cd:List PS:=H4 (.ou)
def yt:aB:=⟨1,5,[],[false],0,false,Cd⟩
def H6:List PS:=[.iE [1,2] (.tup [(.list []),(.list [])]),.qI 3 4 l0 [.aE (.cmp .eq l4 (.str [40])) [.expr (.ai l1 .append [l3])] [],.aE (.cmp .eq l4 (.str [41])) [.expr (.ai l2 .append [(.tup [(.ai l1 .pop []),l3])])] []],.ret l2]
def RG:aB:=⟨1,5,[],[false],0,true,H6⟩
def ah6:List PS:=[.aE (.cmp .ne (.idx l0 i0) (.str [114,101,108])) [.ret (.tup [l0,(.bool true)])] [],.assign 1 (.nE [[61],[60,62],[60],[62,61],[60,61],[62]] [(.str [61]),(.str [61]),(.str [60]),(.str [60]),(.str [60,61]),(.str [60,61])]),.ret (.tup [(.tup [(.str [114,101,108]),(.idx l1 (.idx l0 i1)),(.idx l0 i2),(.idx l0 i3)]),(.cmp .eq (.idx l1 (.idx l0 i1)) (.idx l0 i1))])]
def RH:aB:=⟨1,2,[],[false],0,false,ah6⟩
def ah2:List PS:=[.aE (.cmp .eq (.idx l0 i0) (.str [97,110,100])) [.ret (.and [(cf 798 [(.idx l0 i1),l1]),(cf 798 [(.idx l0 i2),l1])])] [],.aE (.cmp .eq (.idx l0 i0) (.str [111,114])) [.ret (.or [(cf 798 [(.idx l0 i1),l1]),(cf 798 [(.idx l0 i2),l1])])] [],.aE (.cmp .eq (.idx l0 i0) (.str [110,111,116])) [.ret (.not (cf 798 [(.idx l0 i1),l1]))] [],.iE [2,3] (cf 791 [l0]),.ret (.cmp .eq (.cmp .isIn l2 l1) l3)]
def BN:aB:=⟨2,4,[],[false,false],0,false,ah2⟩
def ah4:List PS:=[.aE (.cmp .isIn (.idx l0 i0) (.tup [(.str [97,110,100]),(.str [111,114])])) [.ret (.and [(cf 805 [(.idx l0 i1)]),(cf 805 [(.idx l0 i2)])])] [],.ret (.or [(.cmp .ne (.idx l0 i0) (.str [110,111,116])),(.cmp .isIn (.idx (.idx l0 i1) i0) (.tup [(.str [99,108,97,115,115]),(.str [115,105,103,110]),(.str [110,97,109,101,100])]))])]
def BO:aB:=⟨1,1,[],[false],0,false,ah4⟩
def H7(x:PE):List PS:=[.assign 1 (cf 737 [l0]),.assign 2 (cf 765 [l1,i3]),.assign 3 (cf 751 [(cf 524 [l2])]),.aE (.cmp .ne (cf 772 [l3]) l2) [.ret (.bool false)] [],.ti 4 5 (.sl (cf 779 [l3]) .none i4) [.aE (.cmp .eq (cf 772 [(.bin .add (.bin .add (.sl l3 .none l4) (.sl l3 (.bin .add l4 i1) l5)) (.sl l3 (.bin .add l5 i1) .none))]) l2) [.ret (.bool false)] []],.iE [6,7] (.tup [(cf 531 [l2]),(cf 784 [l2])]),.aE (.or [(.not (cf 805 [l6])),(.cmp .ne (cf 531 [l6]) l6),x]) [.ret (.bool false)] []]
def yM:List PS:=H7 (.nX (cf 784 [l6]) l7)
def o6:List PS:=[.aE (.cmp .ne (cf 798 [l6,l9]) (cf 798 [l2,l9])) [.ret (.bool false)] []]
def TG:List PS:=yM++[.xt o6,.ret (.bool true)]
def j5:aB:=⟨1,10,[],[false],1,true,TG⟩
def HY:List PS:=[.aE (.cmp .isIn (.idx l0 i0) (.tup [(.str [97,110,100]),(.str [111,114]),(.str [110,111,116])])) [.ur] [],.ret (.list [(.idx (cf 791 [l0]) i0)])]
def yn:aB:=⟨1,3,[],[false],1,true,HY⟩
def yk:List (Nat×aB):=[(124,Ra),(89,RV),(96,RA),(131,Ru),(138,BJ),(154,GV),(184,RM),(205,G0),(219,G3),(226,yq),(243,Rp),(250,Rq),(258,G4),(265,Rk),(272,yp),(279,G1),(286,qL),(293,RQ),(300,G2),(307,qK),(314,G8),(321,RW),(328,tn),(335,Rr),(342,Rm),(355,Rf),(362,RK),(369,Rw),(376,RL),(383,RS),(397,Ha),(404,G_),(411,f_both),(418,vy),(425,tm),(432,nu),(439,vA),(446,GW),(453,GZ),(460,yr),(467,BK),(474,Rj),(489,BL),(496,Ro),(503,Rh),(510,RT),(517,Rl),(524,yo),(531,Rv),(538,BM),(545,RJ),(565,G5),(573,Ry),(587,RU),(594,Rg),(602,RR),(609,G9),(616,GY),(630,Rz),(645,RO),(652,G7),(667,RI),(674,GX),(681,G6),(688,RN),(695,Ri),(730,vz),(737,RF),(744,RE),(751,RB),(758,RC),(765,nv),(772,yt),(779,RG),(784,yn),(791,RH),(798,BN),(805,BO),(810,j5)]
def ae(a:Nat):Option aB:=yk.lookup a

section
variable {G:GI}{O:ay}{k:Nat}{c:Cx}{J:LC}{lv:LV}
theorem Z.made(z:Z G c J lv)(F:Fr G.H c.L z.s.heap m)(hl:gb G z.I z.U c.cs m lv)(F':Fr G.H c.L h m)
  (N:News G.H c.L h ((D,LCg.lst vs) :: gK G.H c.L z.s.heap)) (off:∀ p∈gK G.H c.L z.s.heap,p.1≠D) (r:av G z.I z.U l vs):∃ z':Z G c (J++[.lst l]) lv,z'.s={ z.s with heap:=h,toks:=tk }/\z.Le z'/\ao G z'.I z'.U (.ref J.length) (.ref D):=by
 have st:=z.st.Fx (tk:=tk) F hl F' fun p hp=>N p (.tail _ hp);obtain⟨e1,e2,e3⟩:=N _ (.head _);have no:z.s.heap.get? D=none:=by
  cases e:z.s.heap.get? D with
  |none=>rfl
  |some o=>exact absurd rfl (off (D,o) (vQ.mpr ⟨e,e2,e3⟩))
 have hI:z.I D=none:=by
  cases e:z.I D with
  |none=>rfl
  |some o=>rw[z.st.im _ _ e]at no;cases no
 have hO:D∉owned c z.U:=fun hm=>by
  rcases bY.mp hm with q|hm
  ·exact e2 q
  ·rcases hU.mp hm with hm|hm
   ·obtain⟨p,hp,q⟩:=pv.mp hm;obtain⟨sl,e⟩:=z.st.dW p hp;rw[q,no]at e;cases e
   ·obtain⟨o,e,_⟩:=z.st.cells.there hm;rw[no]at e;cases e
 have dB:J.length=z.U.length:=z.st.cells.1;have g:=st.grow (l:=.lst D) (y:=.lst l) (z.st.lL (by simp[Loc.aK]) fun a ha=>by simp only[Loc.aK,b_]at ha;subst ha;exact hO)
  (fun a ha=>by simp only[Loc.aK,b_]at ha;subst ha;exact hI) ⟨vs,vs.length,e1,r.mono (aC.refl _) (aA.app _ _)⟩ r.low
 exact⟨z.go g,rfl,Z.ez (aC.refl _) (aA.app _ _),Exists.intro (.lst D) ⟨by rw[dB,bx],rfl⟩⟩
noncomputable def km:Str:=Str.ofString "one"
noncomputable def dg:Str:=Str.ofString "found"
noncomputable def ua:Str:=Str.ofString "part"
def lD:Scope:=⟨.function,[(Str.ofString ".0",.local),(km,.local),(dg,.free)],false,false,[]⟩
def sJ:Expr:=.Call (.Name (Str.ofString "_law_simple") ⟨630,44,630,55⟩) [.Name ua ⟨630,56,630,60⟩] [] ⟨630,44,630,61⟩
def Lu:Expr:=.Compare (.Name km ⟨630,65,630,68⟩) [.NotIn] [.Name dg ⟨630,76,630,81⟩] ⟨630,65,630,81⟩
def Sp:Expr:=.Name km ⟨630,29,630,32⟩
def gNi:Expr:=.Name km ⟨630,37,630,40⟩
def HB:Expr:=.ListComp Sp [⟨gNi,sJ,[Lu],0⟩] lD ⟨630,28,630,82⟩
theorem QO{env:Env}{x:Str}(h1:env.scope.kind=.function)(h2:env.kindOf x=some .cell):(if (NameKind.free==.free&&env.scope.kind==.function&&env.kindOf x==some .cell)=true then (x,NameKind.cell) else (x,NameKind.free))=(x,NameKind.cell):=by
 rw[h1,h2];rfl
theorem ZT(h:env.cells=[(dg,a)]):closureFor lD env=pure [(dg,a)]:=by
 obtain⟨s,l,g,cells,q,f,c,fr,b⟩:=env;subst h
 kernel_rfl
theorem ZR{env:Env}(h1:env.scope.kind=.function)(h2:env.kindOf dg=some .cell):(relabel lD env).names.lookup dg=some .cell:=by
 show List.lookup dg [(Str.ofString ".0",NameKind.local),(km,NameKind.local),if (NameKind.free==.free&&env.scope.kind==.function&&env.kindOf dg==some .cell)=true then (dg,NameKind.cell) else (dg,NameKind.free)]=_;rw[QO h1 h2]
 kernel_rfl
theorem ZS:∀ y∈lD.names,y.2=.local->lD.names.lookup y.1=some .local:=by decide +kernel
theorem ZU:∀ y∈lD.names,y.2≠.cell:=by decide +kernel
theorem Eg:lD.names.lookup km=some .local:=by decide +kernel
inductive V7(z:Z G c J lv)(a:Addr)(Q:VP):Value->Shared->Prop
 |mk (xv:Value) (aa:LC) (z1:Z G c aa lv) (jx jf:Nat) (xs fs l:List V) (fv:Value) (hx:aa[jx]?=some (.lst xs)) (rx:ao G z1.I z1.U (.ref jx) xv) (ne:a≠c.L) (cell:z1.s.heap.IsCell a (some fv)) (rf:ao G z1.I z1.U (.ref jf) fv)
  (hf:aa[jf]?=some (.lst fs)) (sh:short xs=true) (hk:m9 fs xs=some l) (q:∀ (z':Z G c (aa++[.lst l]) lv) u,z1.Le z'->ao G z'.I z'.U (.ref aa.length) u->Q u z'.s):V7 z a Q xv z1.s
theorem adS(h:m9 f (x :: r)=some l):∃ b l',ir x f=some b/\m9 f r=some l'/\l=if b then l' else x :: l':=by
 obtain⟨b,h1,h⟩:=f6.mp h;obtain⟨l',h2,h⟩:=f6.mp h;exact⟨b,l',h1,h2,(aU h).symm⟩
noncomputable def OU(ax:Addr):Obj:={ cls:=.type "list_iterator",data:=.fields #[.ref ax,.int 0 0] }
def OV(s:Shared)(ax:Addr):Shared:={ s with heap:=s.heap.push (OU ax) }
def V8(G:GI)(c:Cx)(m:Str->Option Value)(a ax:Addr)(s:Shared)(Q:VP)(vs:List Value)(all:List (Addr×Obj))(k i:Nat)(ys:List Value):Prop:=
 LCt.CompRestT G.prog G.w c.A G.H c.L m c.env Lu Sp km lD [(dg,a)] (OV s ax) (fun nw=>nw=all) (fun i v=>vs.toArray[i]?=some v) (LCg.FinE G.H c.L m (OV s ax) Q) k i ys all
theorem TU(F:Fr H L h m)(F':Fr H L h' m')(N:News H L h' (gK H L h))(e:h.get? b=some o)(n:b≠L):h'.get? b=some o:=OK F F' N b o n e
theorem acw{aa:LC}{z1:Z G c aa lv}{m:Str->Option Value}{a ax af:Addr}{jx jf n n2:Nat}{xs fs l:List V}{vs ws:List Value}{Q:VP}(rm:f_ c k)(F:Fr G.H c.L z1.s.heap m)(cQ:gb G z1.I z1.U c.cs m lv)(LX:LstAt z1 jx xs ax vs n)(LF:LstAt z1 jf fs af ws n2)
  (hf:∀ C,(compEnvC lD [(dg,a)] C c.env).kindOf dg=some .cell) (ne:a≠c.L) (nf:af≠c.L) (cell:z1.s.heap.IsCell a (some (.ref af))) (q:∀ (z':Z G c (aa++[.lst l]) lv) u,z1.Le z'->ao G z'.I z'.U (.ref aa.length) u->Q u z'.s) :
  ∀ (k' i:Nat) (ys:List Value) (l1 l2:List V),i+k'=vs.length->av G z1.I z1.U l1 ys->m9 fs (xs.drop i)=some l2->l=l1++l2->V8 G c m a ax z1.s Q vs (gK G.H c.L z1.s.heap) k' i ys:=by
 intro k';induction k' with
 |zero=>
  intro i ys l1 l2 hi r1 hk hl;rw[Vn (by rw[<-LX.rs.length,<-hi];exact aG _)]at hk;obtain rfl:[]=l2:=aU hk;rw[dM]at hl;subst hl;refine LCt.CompRestT.zero fun D h tk F' N' o1=>?_;have off:∀ p∈gK G.H c.L z1.s.heap,p.1≠D:=by
   clear N';generalize gK G.H c.L z1.s.heap=all at o1;induction all with
   |nil=>intro p hp;cases hp
   |cons q r ih=>
    intro p hp;rcases bY.mp hp with rfl|hp
    ·exact o1.1
    ·exact ih o1.2 p hp
  obtain⟨z',e,le,rv⟩:=z1.made (tk:=tk) F cQ F' N' off r1;have:=q z' _ le rv;rw[e]at this;exact this
 |succ k' ih=>
  intro i ys l1 l2 hi r1 hk hl;refine LCt.CompRestT.succ fun v I oI C oC D m₂ h tk E' hv hC PJ F' N' off aY=>?_;have Ga:i<vs.length:=hi▸Iy (iI k');have jw:i<xs.length:=by rw[<-LX.rs.length];exact Ga
  have kQ:i+1+k'=vs.length:=(Nat.succ_add i k').trans hi;rw[y9 jw]at hk;obtain⟨b,l',hb,sW,rfl⟩:=adS hk;have rv:ao G z1.I z1.U xs[i] v:=by
   obtain⟨y,ey,ry⟩:=LX.rs.get Ga;rw[dw jw]at ey;cases ey;rw[IP,dw Ga]at hv;cases hv;exact ry
  have Kp:News G.H c.L h (gK G.H c.L z1.s.heap):=fun p hp=>N' p (.tail _ (.tail _ (.tail _ hp)));have Qz:=(N' _ (.tail _ (.head _))).1;refine Cu ?_ rfl;refine ldVarK (hC.ns Qz) PJ ?_ rfl (y8 Eg) (by decide +kernel);obtain⟨oc,nk,hdc⟩:=cell;refine yU (Ct (env:=compEnvC lD [(dg,a)] C c.env) rfl (hf C) (by rw[show(compEnvC lD [(dg,a)] C c.env).cells=[(dg,a)] from rfl,f5,beq_self_eq_true]) ⟨oc,TU F F' Kp nk ne,hdc⟩ ?_) (by decide +kernel)
  obtain⟨f,hfe,e3⟩:=AZ (zy rm) (fun a o e=>(z1.st.Fx (tk:=tk) F cQ F' Kp).im a o e) rv LF.rs hb;refine notIn_listAt f ⟨_,TU F F' Kp LF.ho nf,rfl,n2,rfl⟩ hfe ?_;rw[e3];refine o9 ?_;cases b with
  |true=>exact⟨h,tk,_,rfl,F',N',off,rfl,ih (i+1) ys l1 l' kQ r1 sW hl⟩
  |false=>
   refine ldVarK (hC.ns Qz) PJ ?_ rfl (y8 Eg) (by decide +kernel);refine⟨h,tk,_,rfl,F',N',off,rfl,ih (i+1) (ys++[v]) (l1++[xs[i]]) l' kQ (r1.append ?_) sW (by rw[hl,aH];rfl)⟩;exact Exists.intro v ⟨[],rfl,rv,rfl⟩
theorem N4{z:Z G c J lv}{j:Nat}{l:List V}{b:Addr}{us:List Value}{n:Nat}(h:LstAt z j l b us n):b≠c.L:=fun q=>by
 obtain⟨m,F,_⟩:=z.st.frame;obtain⟨o,es,ep,e2,hd,_⟩:=F.ns;have e:=h.ho;rw[q,e2]at e;cases e;cases hd
theorem agv{z:Z G c J lv}{a:Addr}{Q:VP}{E:VP}(hh:c.A.handled=none)(rm:f_ c k)(dm:c.cl=[(dg,a)])(hk:c.cs.kind=.function)(qD:c.cs.names.lookup dg=some .cell)
  (h:wpAny G.M c.A (eval sJ c.env) (V7 z a Q) E z.s):wpAny G.M c.A (eval HB c.env) Q E z.s:=by
 unfold HB;rw[eval_ListComp];refine Vm (use:=none) rfl (fun _=>rfl) (ZT dm) rfl ZS (fI h (fun xv mC dS=>?_) fun _ _ e=>e);cases dS with|mk aa z1 jx jf xs fs l fv hx rx ne cell rf hf sh sW q=>
 obtain⟨ax,vs,n,rfl,LX⟩:=z1.lst hx rx;obtain⟨af,ws,n2,rfl,LF⟩:=z1.lst hf rf;obtain⟨m,F,cQ⟩:=z1.st.frame;have aP:ax<z1.s.heap.objs.size:=cS LX.ho;have N0:=Ie G.H c.L z1.s.heap;have src:LCg.SrcAt G.H ax vs.toArray (gK G.H c.L z1.s.heap):=by
  cases q:G.H.get? ax with
  |some o'=>have:=F.keep _ _ q;rw[LX.ho]at this;cases this;exact .inl ⟨_,q,rfl,n,rfl⟩
  |none=>exact .inr ⟨_,vQ.mpr ⟨LX.ho,N4 LX,q⟩,rfl,n,rfl⟩
 refine IK LX.is ?_;have key:V8 G c m a ax z1.s Q vs _ vs.length 0 []:=acw (ax:=ax) rm F cQ LX LF (fun C=>ZR hk (by rw[Env.kindOf];exact qD)) ne (N4 LF) cell q vs.length 0 [] [] l (fy _) rfl sW rfl;have up:∀ b o,z1.s.heap.get? b=some o->(z1.s.heap.push (OU ax)).get? b=some o:=fun b o e=>bD _ e;generalize gK G.H c.L z1.s.heap=all at N0 src key
 refine LCt.block_T (S:=fun nw=>nw=all) (Walks.list hh z1.s.heap.objs.size ax (dG aP) vs.toArray) (by rw[LX.size];exact ji sh) (fun i h st=>by obtain⟨o,e,_⟩:=st.1;exact⟨o,e⟩)
  (fun i h h' o nw st e e' k' N' S'=>LCg.list_st i h h' o nw st e e' k' N' (S'▸src)) ZU rfl Eg ⟨⟨_,gN _ rfl,rfl,rfl⟩,LX.is.push _⟩ (fun b hb=>?_)
  (F.keeps up) (N0.grown up) (dG F.ns.lt) (next_is_new F) (fun p hp=>dG (cS (N0 p hp).1)) rfl key ?_
 ·show b<(z1.s.heap.push _).objs.size;rw[CH];rcases bY.mp hb with rfl|hb
  ·exact eQ _
  ·rw[b_.mp hb];exact pA aP
 ·intro D C h tk m' ys acx F' N' o1 hn afb ai1 hCL hDL hCD aci fin;refine⟨m',hn,fun QF Pw=>fin D QF tk (F'.change Pw hCL afb) (fun p hp=>⟨Pw.extBut _ _ ?_ (N' p hp).1,(N' p hp).2⟩) o1⟩;rcases bY.mp hp with rfl|hp
  ·exact nO hCD
  ·exact aci p hp
end
section
variable {G:GI}{O:ay}{k:Nat}{cs:Scope}
structure Lx{c:Cx}{J J':LC}{lv aJ:LV}(r:Nat)(z:Z G c J lv)(z':Z G c J' aJ):Prop where
 im:aC z.I z'.I
 ad:fz z.U z'.U
 raw:∀ (i:Nat) (a:Addr) (o:Obj),i≠r->z.U[i]?=some (.raw a o)->z'.U[i]?=some (.raw a o)
 sh:∃ h tk,z'.s={ z.s with heap:=h,toks:=tk }
theorem Z.Le.lx(l:z.Le z'):Lx r z z':=⟨l.im,l.loc.ad,fun i a o _ e=>l.loc.raw i a o e,l.sh⟩
theorem Lx.trans(x:Lx r z z')(y:Lx r z' jL):Lx r z jL:=
 ⟨x.im.trans y.im,o_ x.ad y.ad,fun i a o n e=>y.raw i a o n (x.raw i a o n e),gR x.sh y.sh⟩
theorem dx.lx{c:Cx}{gc J J':LC}{cW lv aJ:LV}{r:Nat}{z0:Z G c gc cW}{z:Z G c J lv}{z':Z G c J' aJ}(h:dx z0 z)(x:Lx r z z')(hr:c.de.length<=r):dx z0 z':=
 ⟨h.im.trans x.im,⟨o_ h.loc.ad x.ad,fun i a o e=>x.raw i a o (dG (dN (aX.mp e).1 hr)) (h.loc.raw i a o e)⟩,gR h.sh x.sh⟩
structure hZ{c:Cx}{J:LC}{lv:LV}(z:Z G c J lv)(r:Nat)(a:Addr)(x:V)(fv:Value):Prop where
 raw:∃ o,z.U[r]?=some (.raw a o)/\o.data=.cell (some fv)
 rf:ao G z.I z.U x fv
theorem hZ.le(h:hZ z r a x fv)(l:z.Le z'):hZ z' r a x fv:=by
 obtain⟨o,h1,h2⟩:=h.raw;exact⟨⟨o,l.loc.raw _ _ _ h1,h2⟩,l.rep h.rf⟩
theorem hZ.is(h:hZ z r a x fv):z.s.heap.IsCell a (some fv):=by
 obtain⟨o,h1,h2⟩:=h.raw;exact⟨o,z.raw h1,h2⟩
theorem aa8{c:Cx}{J:LC}{lv:LV}{z:Z G c J lv}{r:Nat}{a:Addr}{o:Obj}{v:Option Value}(h1:z.U[r]?=some (.raw a o))(h2:o.data=.cell v):a≠c.L:=fun q=>by
 obtain⟨m,F,_⟩:=z.st.frame;obtain⟨o',es,ep,e2,hd,_⟩:=F.ns;have e:=z.raw h1;rw[q,e2]at e;cases e;rw[h2]at hd;cases hd
theorem DV{c:Cx}{J:LC}{lv:LV}{z:Z G c J lv}{x:Str}{r:Nat}{a:Addr}{o:Obj}{v0:Option Value}{j:V}{v:Value}{Q:Unit->Shared->Prop}{E:VP}(ok:cx c)(hx:c.cs.names.lookup x=some .cell)(hc:c.cl.lookup x=some a)
  (h1:z.U[r]?=some (.raw a o)) (h2:o.data=.cell v0) (ba:c.de.length<=r) (rv:ao G z.I z.U j v)
  (h:∀ (z':Z G c J lv),Lx r z z'->hZ z' r a j v->Q () z'.s):wpAny G.M c.A (storeName c.env x v) Q E z.s:=by
 refine wpAny_storeName_cell ok.kind (by rw[Env.kindOf];exact hx) hc ⟨o,z.raw h1,h2⟩ fun h' Gr hs=>?_;obtain⟨o',e1,e2⟩:=Gr;obtain⟨st,ad⟩:=z.st.uA (tk:=z.s.toks) h1 hs e1 (fun q=>by obtain⟨_,ts,q⟩:=q;rw[e2]at q;cases q) ba;exact h (z.go st) ⟨aC.refl _,ad,fun i b p n e=>(bW (nO n)).trans e,_,_,rfl⟩ ⟨⟨o',d0 (aX.mp h1).1,e2⟩,rv.cV (aC.refl _) ad⟩
theorem N9(ok:cx c)(hx:c.cs.names.lookup x=some .cell)(hc:c.cl.lookup x=some a)(hd:(x==("__debug__":Str))=false)
  (h1:hZ z r a j v) (h:Q v z.s):wpAny G.M c.A (eval (.Name x pos) c.env) Q E z.s:=
 yU (Ct ok.kind (by rw[Env.kindOf];exact hx) hc h1.is h) hd
theorem dx.kY{c:Cx}{gc J:LC}{cW lv:LV}{ls:Nat}{z0:Z G c gc cW}{z z':Z G c J lv}(h:dx z0 z)(b:nR ls z z')(hl:c.de.length<=ls):dx z0 z':=⟨h.im.trans b.im,b.bl.le h.loc hl,gR h.sh b.sh⟩
theorem hZ.kY{c:Cx}{J:LC}{lv:LV}{z z':Z G c J lv}{r ls:Nat}{a:Addr}{x:V}{fv:Value}(h:hZ z r a x fv)(b:nR ls z z')(hr:r<ls):hZ z' r a x fv:=by
 obtain⟨o,h1,h2⟩:=h.raw;exact⟨⟨o,by rw[b.bl.2 r hr];exact h1,h2⟩,h.rf.cV b.im b.bl.1⟩
end
section
variable {G:GI}{O:ay}{k:Nat}{cs:Scope}
theorem xf{α β:Type}{o:Option α}{f:α->Ev β}{J J':LC}{a:Except Nat β}(h:aS o f J=some (a,J')):∃ x,o=some x/\f x J=some (a,J'):=by
 cases o with
 |some x=>exact⟨x,rfl,h⟩
 |none=>cases h
theorem Aa{α:Type}{x:V}{f:Nat->Ev α}{J J':LC}{a:Except Nat α}(h:iP x f J=some (a,J')):∃ j,x=.ref j/\f j J=some (a,J'):=
 let ⟨j,e,h⟩:=xf h
 ⟨j,H_ e,h⟩
theorem lst_inv{α:Type}{j:Nat}{f:List V->Ev α}{J J':LC}{a:Except Nat α}(h:bt j f J=some (a,J')):∃ l,J[j]?=some (.lst l)/\f l J=some (a,J'):=
 let ⟨l,e,h⟩:=xf h
 ⟨l,TN e,h⟩
theorem tc{α:Type}{b:Bool}{m:Ev α}{J J':LC}{a:Except Nat α}(h:aF b m J=some (a,J')):b=true/\m J=some (a,J'):=by
 cases b with
 |true=>exact⟨rfl,h⟩
 |false=>cases h
theorem B_{α β:Type}{m:Ev α}{f:α->Ev β}{J J':LC}{b:β}(h:m.bind f J=some (.ok b,J')):∃ a aa,m J=some (.ok a,aa)/\f a aa=some (.ok b,J'):=by
 unfold Ev.bind at h;split at h
 ·rename_i a aa e;exact⟨a,aa,e,h⟩
 ·cases h
 ·cases h
theorem acg{α:Type}{m:Ev α}{J J':LC}{a:α}(h:sv m J=some (.ok a,J')):m J=some (.ok a,J'):=by
 unfold sv EP at h;split at h
 ·cases h
 ·split at h
  ·cases h;assumption
  ·cases h
inductive Kk(O:ay)(p:V)(jf:Nat)(J:LC)(r:List V)(v:V)(J':LC):Prop
 |mk (jx:Nat) (aa:LC) (xs fs l:List V) (o:O 784 [p] J=some (.ok (.ref jx),aa)) (x:aa[jx]?=some (.lst xs)) (f:aa[jf]?=some (.lst fs)) (sx:short xs=true) (hk:m9 fs xs=some l) (sl:short (fs++l)=true)
  (rest:kz O r (.ref (aa++[Cell.lst l]).length) (aa++[.lst l]++[.lst (fs++l)])=some (.ok v,J')):Kk O p jf J r v J'
theorem turns_inv{p v:V}{r:List V}{jf:Nat}{J J':LC}(h:kz O (p :: r) (.ref jf) J=some (.ok v,J')):Kk O p jf J r v J':=by
 obtain⟨x,aa,h1,h⟩:=B_ h;obtain⟨y,aj,h2,h⟩:=B_ h;obtain⟨j',bo,h3,h⟩:=B_ h;have h1:=acg h1;obtain⟨jx,rfl,h2⟩:=Aa h2;obtain⟨jf',e,h2⟩:=Aa h2;obtain rfl:=V.ref.inj e;obtain⟨xs,hx,h2⟩:=lst_inv h2;obtain⟨fs,hf,h2⟩:=lst_inv h2;obtain⟨hs,h2⟩:=tc h2;obtain⟨l,hk,h2⟩:=xf h2;have h2:some (Except.ok (V.ref aa.length),aa++[.lst l])=some (Except.ok y,aj):=h2;obtain⟨rfl,rfl⟩:V.ref aa.length=y/\aa++[.lst l]=aj:=⟨y7 (eD (aU h2)).1,(eD (aU h2)).2⟩
 have h3:bt jf (fun a=>bt aa.length fun b=>mY (a++b)) (aa++[.lst l])=some (.ok j',bo):=h3;rw[d8 (l:=fs) (by rw[dp (aX.mp hf).1];exact hf),d8 bx]at h3;obtain⟨gw,h3⟩:=tc h3;have h3:some (Except.ok (V.ref (aa++[Cell.lst l]).length),aa++[.lst l]++[.lst (fs++l)])=some (Except.ok j',bo):=h3;obtain⟨rfl,rfl⟩:V.ref (aa++[Cell.lst l]).length=j'/\aa++[.lst l]++[.lst (fs++l)]=bo:=⟨y7 (eD (aU h3)).1,(eD (aU h3)).2⟩
 exact⟨jx,aa,xs,fs,l,h1,hx,hf,hs,hk,gw,h⟩
structure CY(cs:Scope):Prop where
 ff:cs.names.lookup dg=some .cell
 pi:cs.names[2]?=some (ua,.local)
 pl:cs.names.lookup ua=some .local
def Du:List Stmt:=[.Assign [.Name dg ⟨630,12,630,17⟩] (.BinOp (.Name dg ⟨630,20,630,25⟩) .Add HB ⟨630,20,630,82⟩) ⟨630,12,630,82⟩]
theorem Y6(T:CY cs)(sY:SE G O k cs sJ (.call (.glob (.fn 784)) [.loc 2]))
  {c:Cx}{J:LC}{lv:LV}{z:Z G c J lv} (rd:Ready c k cs) (hh:c.A.handled=none) {r jf:Nat}{a:Addr}{fv:Value} (CA:hZ z r a (.ref jf) fv) (ba:c.de.length<=r) (dm:c.cl=[(dg,a)])
  {p v:V}{rs:List V}{J':LC} (hp:lv[2]?=some (some p)) (I:Kk O p jf J rs v J') {Q:Flow->Shared->Prop}{E:VP}
  (h:∀ (aj:LC) (z':Z G c aj lv) j GK,Lx r z z'->hZ z' r a (.ref j) GK->kz O rs (.ref j) aj=some (.ok v,J')->Q .next z'.s) :
  wpAny G.M c.A (execs Du c.env) Q E z.s:=by
 have kN:c.cl.lookup dg=some a:=by rw[dm,f5,beq_self_eq_true]
 have qD:c.cs.names.lookup dg=some .cell:=by rw[rd.cs];exact T.ff
 cases I with|mk jx aa xs fs l o x f sx hk sl rest=>
 refine kb (I0 (yV ?_) (rQ rfl _ _ _));refine N9 rd.ok qD kN (by decide +kernel) CA ?_;refine agv hh rd.rm dm rd.ok.kind qD ?_;refine sY c J lv z _ _ rd ?_;have e:aO O lv c.cv (.call (.glob (.fn 784)) [.loc 2]) J=some (.ok (.ref jx),aa):=by
  show(Ev.bind (Ev.ret (V.fn 784)) fun g=>(Ev.bind (aS (lv[2]?.join) Ev.ret) fun x=>Ev.bind (Ev.ret []) fun xs=>Ev.ret (x :: xs)).bind fun vs=>mi O g vs) J=_;rw[hp];exact o
 rw[e];refine fun xv z1 l1 rx=>.mk xv aa z1 jx jf xs fs l fv x rx ?_ (CA.le l1).is (l1.rep CA.rf) f sx hk fun z2 u l2 ru=>?_
 ·obtain⟨o,g1,g2⟩:=CA.raw;exact aa8 g1 g2
 ·have Wc:=CA.le (l1.trans l2);refine ME c _ _ z2 (.ref jf) (.ref aa.length) fv u _ _ rd.rm Wc.rf ru ?_;have e2:c_ .add (.ref jf) (.ref aa.length) (aa++[.lst l])=some (.ok (.ref (aa++[Cell.lst l]).length),aa++[.lst l]++[.lst (fs++l)]):=by
   show bt jf (fun a=>bt aa.length fun b=>mY (a++b)) (aa++[.lst l])=_;rw[d8 (l:=fs) (by rw[dp (aX.mp f).1];exact f),d8 bx];show aF (short (fs++l)) _ _=_;rw[sl]<;>rfl
  rw[e2];intro b z3 l3 rb;obtain⟨o,g1,g2⟩:=(Wc.le l3).raw;exact DV rd.ok qD kN g1 g2 ba rb fun z4 lx CA4=>pD (h _ z4 _ b ((l1.trans (l2.trans l3)).lx.trans lx) CA4 rest)
end
section
variable {G:GI}{O:ay}{k:Nat}{cs:Scope}
theorem PT.lx(h:PT G it t ix vs n z.I z.U)(x:Lx r z z')(hr:r<ix):PT G it t ix vs n z'.I z'.U:=by
 obtain⟨o,us,h1,h2,h3,h4,h5⟩:=h;exact⟨o,us,x.raw _ _ _ (kf hr) h1,h2,h3,h4.mono x.im,h5.cV x.im x.ad⟩
def DG:Expr:=.Name ua ⟨629,12,629,16⟩
inductive V3(O:ay){c:Cx}{gc:LC}{cW:LV}(z0:Z G c gc cW)(r ix L:Nat)(a it t:Addr)(vs:List V)(v:V)(J':LC):Nat->Shared->Prop
 |mk (f n:Nat) (aj:LC) (fT:LV) (z2:Z G c aj fT) (jf:Nat) (fv:Value) (hf:f+n=vs.length+1) (hl:fT.length=L) (o:dx z0 z2) (P:PT G it t ix vs n z2.I z2.U) (C:hZ z2 r a (.ref jf) fv) (hr:kz O (vs.drop n) (.ref jf) aj=some (.ok v,J')):V3 O z0 r ix L a it t vs v J' f z2.s
theorem K2{α:Type}{f n:Nat}{l:List α}(aP:n<l.length)(h:f+n=l.length+1):∃ g,f=g+1/\g+(n+1)=l.length+1:=by
 cases f with
 |zero=>exact absurd aP (fG.mpr (ak (i_ _) (eR (h.symm.trans (fy n)))))
 |succ g=>exact⟨g,rfl,(Nat.succ_add_eq_add_succ g n).symm.trans h⟩
theorem Zb(T:CY cs)(sY:SE G O k cs sJ (.call (.glob (.fn 784)) [.loc 2]))
  {c:Cx} (rd:Ready c k cs) (hh:c.A.handled=none) {r ix:Nat}{a:Addr} (ba:c.de.length<=r) (kK:r<ix) (dm:c.cl=[(dg,a)]) {vs:List V}{it t:Addr}{v:V}{J':LC}{Q:Flow->Shared->Prop}{E:VP}{L:Nat} (hL:2<L)
  {gc:LC}{cW:LV}{z0:Z G c gc cW} (hQ:∀ aJ (z':Z G c J' aJ) j fv,v=.ref j->dx z0 z'->hZ z' r a (.ref j) fv->Q .next z'.s)
  {aa:LC}{bA:LV}{z1:Z G c aa bA}{jf:Nat}{fv:Value} (hl1:bA.length=L) (o1:dx z0 z1) (P1:PT G it t ix vs 0 z1.I z1.U) (C1:hZ z1 r a (.ref jf) fv) (aeA:kz O vs (.ref jf) aa=some (.ok v,J')) :
  codeAny G.M c.A (.forLoop DG (.ref it) Du [] c.env) (fun r s'=>match r with|.ok f=>Q f s'|.error e=>cameBackBy G.M c.A c.env E e s') z1.s:=by
 have jw:c.de.length<=ix:=ak ba (fH kK);have IT:nQ G (.ref it) (oh vs) DG c ix (PT G it t ix vs):=OO (aG ix) jw;refine IQ (V3 O z0 r ix L a it t vs v J') (fun f s1 h=>?_) (vs.length+1) (.mk _ 0 aa bA z1 jf fv rfl hl1 o1 P1 C1 aeA);cases h with|mk n aj fT z2 jf fv hf gX o2 P2 C2 hr=>
 cases hv:vs[n]? with
 |none=>
  rw[Vn (pC.mp hv)]at hr;obtain⟨e1,rfl⟩:=eD (aU hr);exact IT.done n _ fT z2 _ _ hh P2 (by show some vs[n]?=_;rw[hv]) fun z3 b3=>pD (hQ _ z3 jf fv (y7 e1).symm (o2.kY b3 jw) (C2.kY b3 kK))
 |some p=>
  obtain⟨aP,qq⟩:=aX.mp hv;rw[y9 aP,qq]at hr;refine IT.turn n aj fT z2 p _ _ hh P2 (by show some vs[n]?=_;rw[hv]) fun u z3 b3 sZ=>sZ _ fun z4 b4 P4 pZ=>?_;refine tS (wI rd.ok (by rw[rd.cs];exact T.pi) (by rw[rd.cs];exact T.pl) pZ fun z5 l5=>?_);have C5:=((C2.kY b3 kK).kY b4 kK).le l5;have o5:=((o2.kY b3 jw).kY b4 jw).step l5
  obtain⟨f',rfl,vg⟩:=K2 aP hf;exact Y6 T sY rd hh C5 ba dm (d0 (by rw[gX];exact hL)) (turns_inv hr) fun cF z6 j GK lx C6 u_=>
   ⟨f',eQ f',.mk f' (n+1) _ _ z6 j GK vg (by rw[ef];exact gX) (o5.lx lx ba) (PT.lx (IT.mono _ _ _ _ _ P4 l5.im l5.loc) lx kK) C6 u_⟩
inductive V4(O:ay)(lv:LV)(J:LC)(v:V)(aJ:LV)(J':LC):Prop
 |mk (x:V) (vs:List V) (hb:3<=lv.length) (h0:lv[0]?.join=some x) (sl:∀ aj,dA x (.int 1) .none aj=some (.ok (.tup vs),aj)) (h:zR O vs J=some (.ok v,J'))
theorem YV(h:dA x (.int 1) .none J=some (.ok (.tup vs),Js)):Js=J/\∀ aj,dA x (.int 1) .none aj=some (.ok (.tup vs),aj):=by
 cases x with
 |tup l=>
  have h:aF (decide (1<=(1:Int)/\(1:Int)<=l.length/\short l=true)) (Ev.ret (V.tup (l.drop 1))) J=some (.ok (.tup vs),Js):=h;obtain⟨hg,h⟩:=tc h;obtain⟨e1,rfl⟩:=eD (aU h);refine⟨rfl,fun aj=>?_⟩;rw[<-y7 e1];show aF (decide (1<=(1:Int)/\(1:Int)<=l.length/\short l=true)) (Ev.ret (V.tup (l.drop 1))) aj=_;rw[hg]<;>rfl
 |str l=>
  have h:aF (short l) (Ev.ret (V.str (cut l 1 l.length))) J=some (.ok (.tup vs),Js):=h;obtain⟨_,h⟩:=tc h;cases h
 |ref i=>
  have h:bt i (fun l=>aF (short l) fun J=>some (.ok (V.ref J.length),J++[Cell.lst (cut l 1 l.length)])) J=some (.ok (.tup vs),Js):=h;obtain⟨_,_,h⟩:=lst_inv h;obtain⟨_,h⟩:=tc h;cases h
 |eC l=>
  have h:aF (short l) (fun J=>some (.ok (V.ref J.length),J++[Cell.lst (cut l 1 l.length)])) J=some (.ok (.tup vs),Js):=h;obtain⟨_,h⟩:=tc h;cases h
 |_=>cases h
theorem Zg(h:rV O lv J=some q):∃ v J',q=(.ok (.ret v),[],J')/\V4 O lv J v [] J':=by
 unfold rV at h;cases hb:Nat.ble 3 lv.length with
 |false=>rw[hb]at h;cases h
 |true=>
  rw[hb]at h;have h1:xh ((aS (lv[0]?.join) fun x=>(dA x (.int 1) .none).bind fun y=>EK y (zR O)) J)=some q:=h;clear h;unfold xh at h1;split at h1
  ·cases h1
  ·split at h1
   ·rename_i e1;have h2:=(aU h1).symm;obtain⟨x,hx,e2⟩:=xf e1;obtain⟨y,Js,Pr,e3⟩:=B_ e2;obtain⟨l,hy,e3⟩:=xf e3;rw[TL hy]at Pr;obtain⟨e4,jV⟩:=YV Pr;subst e4;exact⟨_,_,h2,x,_,bh hb,hx,jV,e3⟩
   ·cases h1
noncomputable def zO:Expr:=.Subscript (.Name (Str.ofString "cond") ⟨629,20,629,24⟩) (.Slice (some (.Constant (.int 1) 0 ⟨629,25,629,26⟩)) none none ⟨629,25,629,27⟩) ⟨629,20,629,28⟩
def HO:List Stmt:=[.Assign [.Name dg ⟨628,8,628,13⟩] (.List [] ⟨628,16,628,18⟩) ⟨628,8,628,18⟩,.For DG zO Du [] ⟨629,8,630,82⟩,.Return (some (.Name dg ⟨631,15,631,20⟩)) ⟨631,8,631,20⟩]
theorem Ze(T:CY cs)(sY:SE G O k cs sJ (.call (.glob (.fn 784)) [.loc 2]))(hk:0<k)
  (jV:SE G O k cs zO (.sl (.loc 0) (.int 1) .none)) {c:Cx}{J:LC}{lv:LV}{z:Z G c J lv} (rd:Ready c k cs) {r:Nat}{a:Addr}{o:Obj}{v0:Option Value} (ba:c.de.length<=r) (dm:c.cl=[(dg,a)])
  (h1:z.U[r]?=some (.raw a o)) (h2:o.data=.cell v0) {v:V}{J':LC}{aJ:LV}{Q:Flow->Shared->Prop}{E:VP}
  (B:V4 O lv J v aJ J') (hQ:∀ aJ (z':Z G c J' aJ) u,dx z z'->ao G z'.I z'.U v u->Q (.ret u) z'.s) :
  wpAny G.M c.A (execs HO c.env) Q E z.s:=by
 have hh:=rd.rm.2.2 hk;have kN:c.cl.lookup dg=some a:=by rw[dm,f5,beq_self_eq_true]
 have qD:c.cs.names.lookup dg=some .cell:=by rw[rd.cs];exact T.ff
 cases B with|mk x vs hb hjx aex aeT=>
 refine kb (I0 ?_ (rQ rfl _ _ _));refine L8 (O:=O) (pos:=⟨628,16,628,18⟩) (L7 (O:=O)) c _ _ z _ _ rd ?_;show KO (ao G) z (some (.ok (.ref J.length),J++[.lst []])) _ _;intro u z1 l1 ru;refine DV rd.ok qD kN (l1.loc.raw _ _ _ h1) h2 ba ru fun z2 lx2 C2=>?_;refine kb (v_ ?_ fun _=>rfl);refine jV c _ _ z2 _ _ rd ?_;have e1:aO O lv c.cv (.sl (.loc 0) (.int 1) .none) (J++[.lst []])=some (.ok (.tup vs),J++[.lst []]):=by
  show(Ev.bind (aS (lv[0]?.join) Ev.ret) fun x=>(Ev.ret (V.int 1)).bind fun y=>(Ev.ret V.none).bind fun z=>dA x y z) _=_;rw[hjx];exact aex _
 rw[e1];intro u2 z3 l3 Eh;obtain⟨at',us,rfl,ht,hr⟩:=Eh;refine iter_tuple (fJ z3.st.im ht) ?_;have C3:=C2.le l3;have kK:r<z3.U.length:=by
  obtain⟨o',g1,_⟩:=C3.raw;exact(aX.mp g1).1
 have l4:z3.Le (z3.go (z3.st.EX (tk:=z3.s.toks) (o:={ cls:=.type "tuple_iterator",data:=.fields #[.ref at',.int 0 0] }) rfl (by simp))):=Z.ez (aC.refl _) (aA.app _ _);refine Zb (z0:=z) (L:=lv.length) T sY rd hh ba kK dm hb (fun aJ z' j fv e o' C'=>?_) rfl (((((dx.refl z).step l1).lx lx2 ba).step l3).step l4) ⟨_,us,bx,rfl,rfl,ht,hr.mono (aC.refl _) (aA.app _ _)⟩ (C3.le l4) (by rw[aH];exact aeT)
 subst e;refine kb (wpAny_Return_some ?_);exact N9 rd.ok qD kN (by decide +kernel) C' (hQ _ z' fv o' C'.rf)
end
section
set_option backward.match.sparseCases true
section
variable {G:GI}{F:Nat}{O:ay}{k:Nat}{cs:Scope}{c:Cx}{J J':LC}{lv aJ:LV}
theorem Z.Le.out(l:z.Le z')(o:dx z' jL):dx z jL:=⟨l.im.trans o.im,o.loc,gR l.sh o.sh⟩
theorem dF.shift(h:dF z o Q E)(l:z.Le z1):dF z1 o Q E:=
 match o with
 |none=>h
 |some (.ok _,_,_)=>fun b z' l' r=>h b z' (l.out l') r
 |some (.error _,_,_)=>fun b z' l' r=>h b z' (l.out l') r
theorem wg.le(h:wg z)(l:z.Le z1):wg z1:=by
 obtain⟨a,r,oc,v0,h1,h2,h3,h4⟩:=h;exact⟨a,r,oc,v0,h1,h2,l.loc.raw _ _ _ h3,h4⟩
theorem Z0{n:Nat}{st:Stmt}{ss:List Stmt}{ps:PS}{gp:List PS}(h:SS G F O k cs st ps)(hs:gC G F O k cs n ss gp):gC G F O k cs n (st :: ss) (ps :: gp):=
 fun c J lv z Q E rd hr kx=>by
 refine kb ?_;refine h c _ _ z _ _ rd ?_;have kx:dF z (Ex.seq (yu F O c.cv ps) (aD F O c.cv gp) lv J) Q E:=kx;unfold Ex.seq at kx;cases e:yu F O c.cv ps lv J with
 |none=>rw[e]at kx;exact kx
 |some q=>
  obtain⟨r,bA,aa⟩:=q;rw[e]at kx;cases r with
  |error i=>exact fun e z1 l er=>kx e z1 l.sk er
  |ok x=>cases x with
   |next=>intro f z1 l rf;have rf:f=.next:=rf;subst rf;exact hs c _ _ z1 Q E rd (fun q=>(hr q).le l) (kx.shift l)
   |ret v=>intro f z1 l rf;have q:=kx f z1 l.sk rf;obtain⟨u,rfl,ru⟩:=rf;exact q
theorem adH{γ δ:Type}{P:Prop}{z:Z G c J lv}{Rep1:mv γ δ}{m:Ev γ}{f:γ->Ex}{Q1:δ->Shared->Prop}{Q:Flow->Shared->Prop}{E:VP}(kv:dF z (Ex.ev m f lv J) Q E)(run:KO Rep1 z (m J) Q1 E->P)
  (h:∀ x aa b (z1:Z G c aa lv),z.Le z1->Rep1 z1.I z1.U x b->dF z1 (f x lv aa) Q E->Q1 b z1.s):P:=by
 refine run ?_;unfold Ex.ev at kv;cases e:m J with
 |none=>rw[e]at kv;exact kv
 |some q=>
  obtain⟨r,aa⟩:=q;rw[e]at kv;cases r with
  |ok x=>exact fun b z' l r=>h x aa b z' l r (kv.shift l)
  |error i=>exact fun e z' l r=>kv e z' l.sk r
theorem dF.from(h:dF z o Q E)(l:dx z z1):KX z1 o Q E:=
 match o with
 |none=>h
 |some (.ok _,_,_)=>fun b z' l' r=>h b z' (l.step l') r
 |some (.error _,_,_)=>fun b z' l' r=>h b z' (l.step l') r
theorem Ow{P:Prop}{z:Z G c J lv}{m f:Ex}{Q1 Q:Flow->Shared->Prop}{E:VP}(kv:dF z (Ex.seq m f lv J) Q E)(run:dF z (m lv J) Q1 E->P)
  (hn:∀ bA aa (z1:Z G c aa bA),KX z1 (f bA aa) Q E->Q1 .next z1.s) (hr:∀ u s,Q (.ret u) s->Q1 (.ret u) s):P:=by
 refine run ?_;unfold Ex.seq at kv;cases e:m lv J with
 |none=>rw[e]at kv;exact kv
 |some q=>
  obtain⟨r,bA,aa⟩:=q;rw[e]at kv;cases r with
  |error i=>exact fun e z1 l er=>kv e z1 l er
  |ok x=>cases x with
   |next=>intro f z1 l rf;have rf:f=.next:=rf;subst rf;exact hn bA aa z1 (kv.from l)
   |ret v=>intro f z1 l rf;have q:=kv f z1 l rf;obtain⟨u,rfl,ru⟩:=rf;exact hr u _ q
theorem ZZ{n:Nat}{t:Expr}{a ss:List Stmt}{pos:Pos}{pt:PE}{pa gp:List PS}(ht:ST G O k cs t pt)(ha:gC G F O k cs n a pa)(hs:eg G F O k cs ss gp):gC G F O k cs n (.If t a [] pos :: ss) (.aE pt pa [] :: gp):=
 fun c J lv z Q E rd hr kx=>by
 refine kb ?_;refine Ow (Q1:=fun f s'=>match f with|.next=>wpAny G.M c.A (execs ss c.env) Q E s'|f=>Q f s') kx (fun jS=>?_) (fun bA aa z1 aL=>hs c _ _ z1 Q E rd aL) fun u s q=>q;refine wpAny_If ?_;refine adH jS (ht c _ _ z _ _ rd) fun x aa v z1 l1 rv aL=>?_;subst rv;cases v with
 |true=>exact ha c _ _ z1 _ E rd (fun q=>(hr q).le l1) aL
 |false=>exact pD aL.kx.next'
theorem Z.acq(z:Z G c J lv):∃ z':Z G c J [],dx z z'/\z'.s=z.s/\z'.I=z.I/\z'.U=z.U:=by
 have x:=z.st;obtain⟨m,h,_⟩:=x.loc;exact⟨⟨z.I,z.U,z.s,⟨x.im,x.h0,x.above,⟨m,h,fun i y e=>by cases e⟩,x.dW,x.cells,x.nd,x.fresh,x.fV,x.pre,x.gx,x.fh,x.cN,x.tabs,x.fi,x.code,x.gens,x.os⟩⟩,⟨aC.refl _,x.pre,_,_,rfl⟩,rfl,rfl,rfl⟩
theorem Y9(T:CY cs)(sY:SE G O k cs sJ (.call (.glob (.fn 784)) [.loc 2]))(hk:0<k)(jV:SE G O k cs zO (.sl (.loc 0) (.int 1) .none))(iX:∀ n,cellsFrom n cs.names []=[(dg,n)]) :
  gC G F O k cs 1 HO [.ur]:=fun c J lv z Q E rd hr kx=>by
 obtain⟨a,r,oc,v0,dm,ba,h1,h2⟩:=hr rfl;rw[rd.cs,iX a]at dm;have kx:dF z (Ex.seq (rV O) Ex.next lv J) Q E:=kx;unfold Ex.seq at kx;cases e:rV O lv J with
 |none=>rw[e]at kx;exact kx.elim
 |some q=>
  obtain⟨v,J',rfl,B⟩:=Zg e;rw[e]at kx;refine Ze T sY hk jV rd ba dm h1 h2 B fun aJ z' u o ru=>?_;obtain⟨z2,o2,e1,e2,e3⟩:=z'.acq;rw[<-e1];exact kx (.ret u) z2 ⟨by rw[e2];exact o.im,o2.loc,by rw[e1];exact o.sh⟩ ⟨u,rfl,by rw[e2,e3];exact ru⟩
theorem Mz(o:fM G F O k ce)(n:Nat)(hs:gC G F O k ce.cs m ss gp):∀ b:List Stmt,gC G F O k ce.cs m (b++ss) (jB ce n b++gp)
 |[]=>hs
 |st :: b=>Z0 (HA o n st) (Mz o n hs b)
end
end
section
variable {G:GI}{O:ay}{k:Nat}{cs:Scope}{c:Cx}{J:LC}{lv:LV}
def qM(G:GI)(A:Around)(env:Env)(R:Result->Shared->Prop):Value->Shared->Prop:=notedBy G.M A env fun e s'=>R (.error e) s'
theorem agw{elt target iter ct:Expr}{scope:Scope}(I:Nat->Shared->Prop)
  (turn:∀ n s,I n s->wpAny G.M A (pyNext it) (fun r mC=>match r with
   |none=>R (.ok .next) mC
   |some v=>wpAny G.M A (letOwnedTupleGo target it v) (fun _ s'=>wpAny G.M A (assign target env v) (fun _ mB=>wpAny G.M A (isTrue ct env (eval ct env)) (fun ok ly=>
     if ok=true then wpAny G.M A (eval elt env) (fun x pQ=>wpAny G.M A (call (.builtin "list.append") [acc,x]) (fun _ zK=>∃ m,m<n/\I m zK) (qM G A env R) pQ) (qM G A env R) ly
     else ∃ m,m<n/\I m ly) (qM G A env R) mB) (qM G A env R) s') (qM G A env R) mC) (qM G A env R) s)
  (n:Nat) (h:I n s):codeAny G.M A (.compLoop (.ListComp elt [⟨target,iter,[ct],0⟩] scope pos) 0 it acc env) R s:=by
 refine codeAny_loop rfl I (fun n s hI=>?_) n h;show wpAny _ A ((compTurn (.ListComp elt [⟨target,iter,[ct],0⟩] scope pos) 0 it acc env).onRaise (fun x=>do noteFrame x env;theTreesLotGoes x)) _ _ s;refine wpAny_noted ?_;rw[compTurn_list];refine au (mj (au (fI (turn n s hI) (fun r mC dS=>?_) fun _ _ h'=>h')));cases r with
 |none=>exact a_ dS
 |some v=>
  refine au (fI dS (fun _ s' h'=>au (fI h' (fun _ mB xF=>au (wpAny_tests_one (fI xF (fun ok ly u4=>?_) fun _ _ q=>q))) fun _ _ q=>q)) fun _ _ q=>q);cases ok with
  |false=>exact a_ ⟨rfl,u4⟩
  |true=>exact au (au (fI u4 (fun x pQ aes=>au (fI aes (fun _ zK aer=>a_ (a_ ⟨rfl,aer⟩)) fun _ _ q=>q)) fun _ _ q=>q))
theorem const_int{z:Z G c J lv}{env:Env}{i:Int}{kk:Nat}{pos:Pos}{Q:VP}{E:VP}(h:∀ u (z1:Z G c J lv),z.Le z1->ao G z1.I z1.U (.int i) u->Q u z1.s) :
  wpAny G.M c.A (eval (.Constant (.int i) kk pos) env) Q E z.s:=Ii (KO.int (Q:=Q) (E:=E) (z:=z) (show KO (ao G) z (some (.ok (.int i),J)) Q E from h) rfl)
noncomputable def d5:Str:=Str.ofString "number"
noncomputable def wu:Str:=Str.ofString "at"
noncomputable def iM:Str:=Str.ofString "world"
def NQ:Expr:=.Name d5 ⟨664,57,664,63⟩
def NR:Expr:=.Name wu ⟨664,72,664,74⟩
def B9:Expr:=
 .Compare (.BinOp (.BinOp NQ .FloorDiv (.BinOp (.Constant (.int 2) 0 ⟨664,67,664,68⟩) .Pow NR ⟨664,67,664,74⟩) ⟨664,57,664,74⟩) .Mod (.Constant (.int 2) 0 ⟨664,77,664,78⟩) ⟨664,57,664,78⟩) [.Eq] [.Constant (.int 1) 0 ⟨664,82,664,83⟩] ⟨664,57,664,83⟩
theorem ag4{z:Z G c J lv}{env:Env}{t i:Nat}{fv iv:Value}{Q:Bool->Shared->Prop}{E:VP}(rm:f_ c k)(hi:i<=29)
  (rn:ao G z.I z.U (.int t) fv) (rx:ao G z.I z.U (.int i) iv) (hn:∀ (z1:Z G c J lv) (Q:VP),z.Le z1->Q fv z1.s->wpAny G.M c.A (eval NQ env) Q E z1.s)
  (hx:∀ (z1:Z G c J lv) (Q:VP),z.Le z1->Q iv z1.s->wpAny G.M c.A (eval NR env) Q E z1.s) (h:∀ z1:Z G c J lv,z.Le z1->Q (decide (t / 2 ^ i % 2=1)) z1.s) :
  wpAny G.M c.A (isTrue B9 env (eval B9 env)) Q E z.s:=by
 have hp:(0:Int)<2 ^ i/\(2:Int) ^ i<1073741824:=by
  have h1:(2:Nat) ^ i<=2 ^ 29:=q8 ⋯ hi;have h2:0<(2:Nat) ^ i:=VC (by simp);have e:((2:Nat) ^ i:Int)=(2:Int) ^ i:=rfl;have e':(((2:Nat) ^ i:Nat):Int)=(2:Int) ^ i:=by push_cast;rfl
  rw[<-e'];lia
 have e1:c_ .pow (.int 2) (.int (i:Int)) J=some (.ok (.int ((2:Int) ^ i)),J):=by
  show aF (decide (small 2=true/\0<=(i:Int)/\(i:Int)<=1000000)) (Ev.ret (V.int ((2:Int) ^ (i:Int).toNat))) J=_;rw[decide_eq_true ⟨rfl,y6 _,by lia⟩];rfl
 have e2:c_ .fdiv (.int t) (.int ((2:Int) ^ i)) J=some (.ok (.int ((t:Int) / 2 ^ i)),J):=by
  show aF (decide _) _ J=_;rw[decide_eq_true hp];rfl
 have e3:c_ .mod (.int ((t:Int) / 2 ^ i)) (.int 2) J=some (.ok (.int ((t:Int) / 2 ^ i % 2)),J):=rfl;have e4:((t:Int) / 2 ^ i % 2)=((t / 2 ^ i % 2:Nat):Int):=by push_cast;rfl
 have e5:bj .eq (.int ((t / 2 ^ i % 2:Nat):Int)) (.int 1) J=some (.ok (.bool (decide (t / 2 ^ i % 2=1))),J):=by
  show some (Except.ok (V.bool (((t / 2 ^ i % 2:Nat):Int)==1)),J)=_;congr 4;rw[tK];simp;lia
 unfold B9;refine Cu ?_ rfl;refine yV (yV (hn z _ (.refl z) (yV (const_int fun u2 z1 l1 r2=>hx z1 _ l1 ?_))));refine MA c J lv z1 (.int 2) (.int i) _ _ _ _ rm r2 (l1.rep rx) ?_;rw[e1];intro v3 z2 l2 r3;refine MC c J lv z2 (.int t) (.int (2 ^ i)) _ _ _ _ rm ((l1.trans l2).rep rn) r3 ?_;rw[e2];intro v4 z3 l3 r4;refine const_int fun u5 z4 l4 r5=>?_
 refine MB c J lv z4 (.int ((t:Int) / 2 ^ i)) (.int 2) _ _ _ _ rm (l4.rep r4) r5 ?_;rw[e3,e4];intro v6 z5 l5 r6;refine const_int fun u7 z6 l6 r7=>?_;refine MD c J lv z6 (.int _) (.int 1) _ _ _ _ rm (l6.rep r6) r7 ?_;rw[e5];intro v8 z7 l7 r8;have r8:_=_:=r8;subst r8;exact o9 (h z7 (l1.trans (l2.trans (l3.trans (l4.trans (l5.trans (l6.trans l7)))))))
end
section
variable {G:GI}{O:ay}{k:Nat}{cs:Scope}{c:Cx}{J J':LC}{lv aJ:LV}
def lE:Scope:=⟨.function,[(Str.ofString ".0",.local),(wu,.local),(km,.local),(d5,.free)],false,false,[]⟩
noncomputable def xl:Expr:=.Name (Str.ofString "simple") ⟨664,46,664,52⟩
def R8:Expr:=.Call (.Name (Str.ofString "enumerate") ⟨664,36,664,45⟩) [xl] [] ⟨664,36,664,53⟩
def Lh:Expr:=.Tuple [.Name wu ⟨664,25,664,27⟩,.Name km ⟨664,29,664,32⟩] 0 ⟨664,25,664,32⟩
def af0:Expr:=.Name km ⟨664,17,664,20⟩
def B1:Expr:=.ListComp af0 [⟨Lh,R8,[B9],0⟩] lE ⟨664,16,664,84⟩
theorem ZX(h:env.cells=[(d5,a)]):closureFor lE env=pure [(d5,a)]:=by
 obtain⟨s,l,g,cells,q,f,c,fr,b⟩:=env;subst h
 kernel_rfl
theorem ZV(h1:env.scope.kind=.function)(h2:env.kindOf d5=some .cell):(relabel lE env).names.lookup d5=some .cell:=by
 show List.lookup d5 [(Str.ofString ".0",NameKind.local),(wu,NameKind.local),(km,NameKind.local),if (NameKind.free==.free&&env.scope.kind==.function&&env.kindOf d5==some .cell)=true then (d5,NameKind.cell) else (d5,NameKind.free)]=_;rw[QO h1 h2]
 kernel_rfl
theorem ZW:∀ y∈lE.names,y.2=.local->lE.names.lookup y.1=some .local:=by decide +kernel
theorem ZY:∀ y∈lE.names,y.2≠.cell:=by decide +kernel
theorem My:lE.names.lookup wu=some .local:=by decide +kernel
theorem Mx:lE.names.lookup km=some .local:=by decide +kernel
theorem N5:∀ {l:List V}{n:Nat}{x:V},lows i l=true->l[n]?=some x->low i x=true
 |[],n,x=>fun _ h=>by simp at h
 |y :: r,0,x=>fun h e=>by cases e;exact(aM.mp h).1
 |y :: r,n+1,x=>fun h e=>N5 (aM.mp h).2 (by simpa using e)
theorem St.Ac(x:St G c I U J lv s)(hd:l.aK=[a])(ha:a∉owned c U)(hI:I a=none)(hc:fc G I (U++[l]) s.heap l y)(hw:sE U.length y=true):St G c I (U++[l]) (J++[y]) lv s:=
 x.grow (x.lL (by rw[hd];simp) fun b hb=>by rw[hd,b_]at hb;subst hb;exact ha) (fun b hb=>by rw[hd,b_]at hb;subst hb;exact hI) hc hw
theorem uG(ha:a∉owned c U)(hd:l.aK=[b])(h:a≠b):a∉owned c (U++[l]):=fun hm=>by
 rw[EF]at hm;rcases hU.mp hm with hm|hm
 ·exact ha hm
 ·rw[hd,b_]at hm;exact h hm
theorem NA(h:LCg.NsObj o m):k_ o:=fun q=>by
 obtain⟨_,ts,q⟩:=q;obtain⟨_,_,e,_⟩:=h;rw[e]at q;cases q
structure Rx{c:Cx}{J:LC}{lv:LV}(r:Nat)(z z':Z G c J lv):Prop where
 im:aC z.I z'.I
 ad:fz z.U z'.U
 eq:∀ i:Nat,i≠r->z'.U[i]?=z.U[i]?
 sh:∃ h tk,z'.s={ z.s with heap:=h,toks:=tk }
theorem Rx.trans(x:Rx r z z')(y:Rx r z' jL):Rx r z jL:=⟨x.im.trans y.im,o_ x.ad y.ad,fun i n=>(y.eq i n).trans (x.eq i n),gR x.sh y.sh⟩
theorem Rx.kY(x:Rx r z z'):nR r z z':=⟨x.im,⟨x.ad,fun i h=>x.eq i (dG h)⟩,x.sh⟩
theorem LS(hk:sc.kind=.function)(hx:sc.names.lookup x=some .local)(hC:z.U[r]?=some (.raw C oC))(nC:LCg.NsObj oC m)(ba:c.de.length<=r)
  (h:∀ (z':Z G c J lv) Ao,Rx r z z'->z'.U[r]?=some (.raw C Ao)->LCg.NsObj Ao (fun a=>if a=x then some v else m a)->Q () z'.s):wpAny G.M c.A (storeName (compEnvC sc cl C c.env) x v) Q E z.s:=by
 refine I1 (y8 hx) (nC.ns (z.raw hC)) (fun h' hn hs=>?_) (by simp[compEnvC,relabel,hk]);obtain⟨Ao,e1,n1⟩:=LCg.ns_obj hn;obtain⟨st,ad⟩:=z.st.uA (tk:=z.s.toks+1) hC hs e1 (NA n1) ba;exact h (z.go st) Ao ⟨aC.refl _,ad,fun i n=>bW (nO n),_,_,rfl⟩ (d0 (aX.mp hC).1) n1
theorem WT{z:Z G c J lv}{env:Env}{x y:Str}{p1 p2 et:Pos}{kk:Nat}{ta:Addr}{u1 u2:Value}{Q:Unit->Shared->Prop}{E:VP}(ht:z.s.heap.IsTuple ta [u1,u2].toArray)
  (h:∀ z1:Z G c J lv,z.Le z1->wpAny G.M c.A (storeName env x u1) (fun _ s=>wpAny G.M c.A (storeName env y u2) Q E s) E z1.s):wpAny G.M c.A (assign (.Tuple [.Name x p1,.Name y p2] kk et) env (.ref ta)) Q E z.s:=by
 show wpAny _ _ (do standAt et;unpack (.ref ta) (assignEach [.Name x p1,.Name y p2] env)) _ _ _;refine au (mj ?_);obtain⟨k1,k3,k4⟩:=TJ (G:=G) (A:=c.A) (es:=[.Name x p1,.Name y p2]) (xs:=[x,y]) rfl env;have hlen:[u1,u2].toArray.size=(assignEach [.Name x p1,.Name y p2] env).length:=by rw[k4];rfl
 unfold unpack;rw[k3,<-hlen];refine au (gM (Dp z.st.im z.st.aW ht fun h' hk=>?_));have h1:=h (z.go (z.st.keep (tk:=z.s.toks) hk)) (Z.ez (aC.refl _) (aA.refl _));exact au (gM (tS (fI h1 (fun _ s q=>au (gM (tS (fI q (fun _ s q=>a_ q) fun _ _ e=>e)))) fun _ _ e=>e)))
theorem ag2{t n:Nat}{l:List V}{x:V}(h:l[n]?=some x):fY t n (l.drop n)=(if t / 2 ^ n % 2=1 then [x] else [])++fY t (n+1) (l.drop (n+1)):=by
 obtain⟨aP,rfl⟩:=aX.mp h;rw[y9 aP];show(if t / 2 ^ n % 2=1 then l[n] :: fY t (n+1) (l.drop (n+1)) else fY t (n+1) (l.drop (n+1)))=_;split<;>rfl
structure Ku{aj:LC}{fT:LV}(z2:Z G c aj fT)(e it l D C:Addr)(p j n:Nat):Prop where
 pe:wi e it l (p+2) j n z2.I z2.U
 dd:ao G z2.I z2.U (.ref p) (.ref D)
 cc:∃ oC m,z2.U[p+1]?=some (.raw C oC)/\LCg.NsObj oC m
theorem wi.eq(h:wi e it l ix j n I U)(he:∀ i:Nat,i≠r->aT[i]?=U[i]?)(h1:r<ix)(h2:j≠r):wi e it l ix j n I' aT:=by
 obtain⟨o,lo,old,g1,g2,g3,g4,g5,g6⟩:=h;exact⟨o,lo,old,(he _ (kf h1)).trans g1,g2,g3,(he _ h2).trans g4,g5,(he _ (kf (pA h1))).trans g6⟩
end
section
variable {G:GI}{O:ay}{k:Nat}{cs:Scope}{c:Cx}{J:LC}{lv:LV}
noncomputable def fZ(J:LC)(l:List V):LC:=J++[.lst l,.raw,.raw,.raw]
theorem ag8{j:Nat}{y:Cell}{l:List V}(h:J[j]?=some y):(fZ J l)[j]?=some y:=by
 unfold fZ;rw[dp (aX.mp h).1];exact h
theorem ag7:(fZ J l)[J.length]?=some (.lst l):=by
 unfold fZ;rw[iF (aG _),jF];rfl
theorem ag6:(fZ J l).set J.length (.lst l')=fZ J l':=by
 unfold fZ;rw[vU _ _ (aG _),jF];rfl
structure aiW(z1:Z G c J lv)(r:Nat)(a:Addr)(t j:Nat)(l:List V)(fv:Value):Prop where
 cell:hZ z1 r a (.int t) fv
 hj:J[j]?=some (.lst l)
 sh:l.length<=30
 lo:lows J.length l=true
inductive We(z1:Z G c J lv)(e it a' D C:Addr)(j t:Nat)(l:List V):Nat->Shared->Prop
 |mk (f n:Nat) (dn:List V) (z2:Z G c (fZ J dn) lv) (hf:f+n=l.length+1) (oS:dn.length<=n) (PF:n<=l.length) (l2:z1.Le z2) (B:Ku z2 e it a' D C J.length j n) (hd:fY t 0 l=dn++fY t n (l.drop n)):We z1 e it a' D C j t l f z2.s
theorem ag5{f n:Nat}{l:List V}{v:V}(hv:l[n]?=some v)(h:f+n=l.length+1):∃ g,f=g+1/\g+(n+1)=l.length+1:=K2 (aX.mp hv).1 h
theorem ag3{z1:Z G c J lv}{r:Nat}{a:Addr}{fv:Value}{t j:Nat}{l:List V}{e it a' D C:Addr}{R:Result->Shared->Prop}
  (rd:Ready c k cs) (hk:0<k) (ju:cs.names.lookup d5=some .cell) (ba:c.de.length<=J.length) (X:aiW z1 r a t j l fv) (dB:J.length=z1.U.length)
  (fin:∀ (z2:Z G c (fZ J (fY t 0 l)) lv),z1.Le z2->ao G z2.I z2.U (.ref J.length) (.ref D)->(∃ oC m,z2.U[J.length+1]?=some (.raw C oC)/\LCg.NsObj oC m)->R (.ok .next) z2.s)
  {z2:Z G c (fZ J []) lv} (l2:z1.Le z2) (B:Ku z2 e it a' D C J.length j 0) :
  codeAny G.M c.A (.compLoop B1 0 (.ref e) (.ref D) (compEnvC lE [(d5,a)] C c.env)) R z2.s:=by
 have Bp:j<J.length:=(aX.mp X.hj).1;have IT:nQ G (.ref e) (eI j) Lh c (J.length+2) (wi e it a' (J.length+2) j):=OS (dN Bp (cL _ _)) (aG _) (ak ba (cL _ _));have hh:=rd.rm.2.2 hk;have dU:z1.U.length<=J.length+2:=by rw[dB];exact cL _ _
 have jV:short l=true:=decide_eq_true (ak X.sh ⋯);refine agw (We z1 e it a' D C j t l) (fun f s1 h=>?_) (l.length+1) (.mk _ 0 [] z2 rfl (aG _) (dc _) l2 B rfl);cases h with|mk n dn z2 hf oS PF l2 B hd=>
 have hx:eI j n (fZ J dn)=some ((l[n]?).map fun v=>V.tup [.int n,v]):=by
  unfold eI;rw[ag8 X.hj];show(if short l=true then _ else _)=_;rw[if_pos jV]
 obtain⟨oC,m,g1,g2⟩:=B.cc;cases hv:l[n]? with
 |none=>
  rw[hv]at hx;refine IT.done n _ _ z2 _ _ hh B.pe hx fun z3 b3=>?_;have hn:n=l.length:=Nat.le_antisymm PF (pC.mp hv);rw[hn,List.drop_length]at hd;have hd:fY t 0 l=dn:=hd.trans (dM dn);subst hd;exact fin z3 (b3.le l2 dU) (B.dd.cV b3.im b3.bl.1) ⟨oC,m,(b3.bl.2 _ (eQ _)).trans g1,g2⟩
 |some v=>
  rw[hv]at hx;have aP:=(aX.mp hv).1;obtain⟨f',rfl,vg⟩:=ag5 hv hf;have PI:n<=29:=CF (dN aP X.sh);refine IT.turn n _ _ z2 (.tup [.int n,v]) _ _ hh B.pe hx fun u z3 b3 sZ=>sZ _ fun z4 b4 P4 pZ=>?_;obtain⟨ta,us,rfl,ht,hr⟩:=z4.tup pZ;obtain⟨u1,us1,rfl,r1,u2,us2,rfl,r2,rfl⟩:=hr;refine WT ht fun z5 l5=>?_;have g5:z5.U[J.length+1]?=some (.raw C oC):=l5.loc.raw _ _ _ ((b4.bl.2 _ (eQ _)).trans ((b3.bl.2 _ (eQ _)).trans g1))
  refine LS rfl My g5 g2 (jG ba) fun z6 oC6 x6 g6 n6=>?_;refine LS rfl Mx g6 n6 (jG ba) fun z7 Nv x7 g7 n7=>?_;have nS:=x6.trans x7;have l4:=b4.le (b3.le l2 dU) dU;have l7:z1.Le z7:=nS.kY.le (l4.trans l5) (by rw[<-dB];exact i_ _);have P7:=(IT.mono _ _ _ _ _ P4 l5.im l5.loc).eq (I':=z7.I) nS.eq (eQ _) (dG (pA Bp))
  have d7:=(l5.rep ((B.dd.cV b3.im b3.bl.1).cV b4.im b4.bl.1)).cV nS.im nS.ad;have ru1:=(l5.rep r1).cV nS.im nS.ad;have Eh:=(l5.rep r2).cV nS.im nS.ad;clear P4 g1 g2 g5 g6 n6 x6 x7 nS b3 b4 r1 r2 ht;refine ag4 rd.rm PI (l7.rep X.cell.rf) ru1 (fun z8 Q l8 q=>?_) (fun z8 Q l8 q=>?_) fun z8 l8=>?_
  ·exact yU (Ct (env:=compEnvC lE [(d5,a)] C c.env) rfl (ZV rd.ok.kind (by rw[Env.kindOf];show c.cs.names.lookup d5=_;rw[rd.cs];exact ju)) (by show List.lookup d5 [(d5,a)]=_;rw[f5,beq_self_eq_true]) (X.cell.le (l7.trans l8)).is q) (by decide +kernel)
  ·exact ldVarK (n7.ns (z8.raw (l8.loc.raw _ _ _ g7))) ((if_neg (by decide +kernel)).trans (if_pos rfl)) q rfl (y8 My) (by decide +kernel)
  ·have hs:fY t 0 l=dn++((if t / 2 ^ n % 2=1 then [v] else [])++fY t (n+1) (l.drop (n+1))):=by rw[<-ag2 hv];exact hd
   by_cases hb:t / 2 ^ n % 2=1
   ·rw[if_pos hb]at hs;rw[decide_eq_true hb];refine ldVarK (n7.ns (z8.raw (l8.loc.raw _ _ _ g7))) (if_pos rfl) ?_ rfl (y8 Mx) (by decide +kernel);refine TH (fun _=>hk) c _ lv z8 [.ref J.length,v] [.ref D,u2] _ _ rd.rm (Ek (l8.rep d7) (l8.rep Eh)) ?_;have e1:cw .cX [.ref J.length,v] (fZ J dn)=some (.ok .none,fZ J (dn++[v])):=by
     show bt J.length (fun l=>aF (short l&&low J.length v) (uv J.length (l++[v]) .none)) (fZ J dn)=_;rw[d8 ag7];show aF (short dn&&low J.length v) (uv J.length (dn++[v]) .none) (fZ J dn)=_;rw[N5 X.lo hv,show short dn=true from decide_eq_true (ak oS (ak PI ⋯))];show some (_,(fZ J dn).set J.length (.lst (dn++[v])))=_;rw[ag6]
    rw[e1];intro w z9 l9 _;have xw:=l8.trans l9;exact⟨f',eQ f',.mk f' (n+1) (dn++[v]) z9 vg (by rw[bz];exact cg oS) aP (l7.trans xw) ⟨IT.mono _ _ _ _ _ P7 xw.im xw.loc,xw.rep d7,Nv,_,xw.loc.raw _ _ _ g7,n7⟩ (by rw[hs,aH])⟩
   ·rw[if_neg hb]at hs;rw[decide_eq_false hb];exact⟨f',eQ f',.mk f' (n+1) dn z8 vg (jG oS) aP (l7.trans l8) ⟨IT.mono _ _ _ _ _ P7 l8.im l8.loc,l8.rep d7,Nv,_,l8.loc.raw _ _ _ g7,n7⟩ hs⟩
end
section
variable {G:GI}{O:ay}{k:Nat}{cs:Scope}{c:Cx}{J:LC}{lv:LV}
def rP:Expr:=.Name iM ⟨664,8,664,13⟩
def Dk:Stmt:=.Assign [rP] B1 ⟨664,8,664,84⟩
theorem Wv(h1:env.kindOf iM=some .local)(h2:env.scope.kind=.function):swapsWith B1 (some rP) 664 env=pure true:=by
 have e2:env.blockKind=.function:=by unfold Env.blockKind;rw[h2]<;>rfl
 show pure (env.blockKind==.function&&env.kindOf iM==some .local&&true&&true)=_;rw[h1,e2];rfl
theorem Ww{z:Z G c J lv}{r:Nat}{a:Addr}{fv:Value}{t j:Nat}{l:List V}{Q:Flow->Shared->Prop}{E:VP}
  (g:bH G) (rd:Ready c k cs) (hk:0<k) (hT:TypeName G.K cs (Str.ofString "enumerate") "enumerate") (he:SE G O k cs xl (.loc 7)) (xG:cs.names[9]?=some (iM,.local)) (oG:cs.names.lookup iM=some .local) (dm:c.cl=[(d5,a)]) (ju:cs.names.lookup d5=some .cell)
  (h7:lv[7]?=some (some (.ref j))) (C:hZ z r a (.int t) fv) (hj:J[j]?=some (.lst l)) (hl:l.length<=30)
  (h:∀ (z':Z G c (fZ J (fY t 0 l)) (lv.set 9 (some (.ref J.length)))),z.Le z'->Q .next z'.s) :
  wpAny G.M c.A (exec Dk c.env) Q E z.s:=by
 have Bb:swapsWith B1 (some rP) 664 c.env=pure true:=Wv (by rw[Env.kindOf];show c.cs.names.lookup iM=_;rw[rd.cs];exact oG) rd.ok.kind;unfold Dk;rw[show rP=.Name iM ⟨664,8,664,13⟩ from rfl,exec_Assign_Name_used _ _ _ _ Bb];refine au (mj (au ?_));show wpAny _ c.A (do let _ <-comprehension _ lE c.env _ (newList []) false (eval R8 c.env) (some (assign rP c.env))) _ _ z.s
 refine au (fI (Vm (use:=some (assign rP c.env)) (Q:=fun _ s'=>Q .next s') rfl (fun v=>rfl) (ZX dm) rfl ZW (au (uf g hT rd.cs rd.ok (nH rfl ?_)))) (fun _ s' hq=>a_ (a_ hq)) fun _ _ e=>e);refine ka ?_ (gQ rfl);refine he c _ _ z _ _ rd ?_;have e0:aO O lv c.cv (.loc 7) J=some (.ok (.ref j),J):=by
  show aS (lv[7]?.join) Ev.ret J=_;rw[h7];rfl
 rw[e0];intro u z1 l1 ru;refine nJ ⟨AA _ _ _,?_⟩;obtain⟨a',vs,m,rfl,HL⟩:=z1.lst hj ru;refine call_enumerate_1 HL.ho fun h' dK jY hsz F9=>?_;refine II dK ?_;obtain⟨o,w1,w2,w3⟩:=jY;refine tU (wpAny_newFunctionEnv ZY (by intro y hy;simp at hy) (fun dS F5 FT=>?_) rfl);dsimp only at F5 FT ⊢;have hz:(h'.push { cls:=.type "list",dict:=none,data:=.seq ([]:List Value).toArray }).objs.size=z1.s.heap.objs.size+3:=by rw[CH,hsz]
 have own:∀ b,z1.s.heap.objs.size<=b->b∉owned c z1.U:=fun b hb hm=>absurd (z1.st.lt hm) (fG.mpr hb);have Ar:∀ b,z1.s.heap.objs.size<=b->z1.I b=none:=fun b hb=>z1.st.mX hb;have ne:∀ i j:Nat,i≠j->z1.s.heap.objs.size+i≠z1.s.heap.objs.size+j:=fun i j h q=>h (Nat.add_left_cancel q);have up:∀ b p,h'.get? b=some p->dS.get? b=some p:=fun b p eq=>FT.extBut _ _ (by rw[hz];exact dG (pE (hsz▸cS eq) (eQ _))) (bD _ (bD _ eq))
 have hD:dS.get? (z1.s.heap.objs.size+2)=some (listOf #[] 0):=FT.extBut _ _ (by rw[hz];exact ne 2 3 ⋯) (bD _ (by rw[<-hsz];exact gN _ rfl));have hDn:h'.objs.size=z1.s.heap.objs.size+2:=hsz;rw[hz]at F5 ⊢;rw[hDn];obtain⟨oC,hC,nC⟩:=LCg.ns_obj F5;have dB:J.length=z1.U.length:=z1.st.cells.1;have ba:c.de.length<=J.length:=by rw[dB];exact z1.st.pre.len
 have Bp:j<z1.U.length:=by rw[<-dB];exact(aX.mp hj).1
 have s0:=z1.st.keep (tk:=z1.s.toks+([]:List (Str×Value)).length) fun b p eq=>up b p (F9 b p eq);have s1:=s0.Ac (l:=.lst (z1.s.heap.objs.size+2)) (y:=.lst []) rfl (own _ (cL _ _)) (Ar _ (cL _ _)) ⟨[],0,hD,rfl⟩ rfl;have s2:=s1.Ac (l:=.raw (z1.s.heap.objs.size+3) oC) (y:=.raw) rfl (uG (own _ (cL _ _)) rfl (ne 3 2 ⋯)) (Ar _ (cL _ _)) ⟨hC,NA nC⟩ rfl
 have s3:=s2.Ac (l:=.raw z1.s.heap.objs.size o) (y:=.raw) rfl (uG (uG (own _ (aG _)) rfl (ne 0 2 ⋯)) rfl (ne 0 3 ⋯)) (Ar _ (aG _)) ⟨up _ _ w1,.of (by rw[w2];simp)⟩ rfl;have s4:=s3.Ac (l:=.raw (z1.s.heap.objs.size+1) (nD .none z1.s.heap.objs.size 0 .none)) (y:=.raw) rfl (uG (uG (uG (own _ (i_ _)) rfl (ne 1 2 ⋯)) rfl (ne 1 3 ⋯)) rfl (ne 1 0 ⋯)) (Ar _ (i_ _)) ⟨up _ _ dK,.of (by simp)⟩ rfl
 rw[show J++[Cell.lst []]++[.raw]++[.raw]++[.raw]=fZ J [] from by simp[fZ]]at s4;rw[show z1.U++[Loc.lst (z1.s.heap.objs.size+2)]++[.raw (z1.s.heap.objs.size+3) oC]++[.raw z1.s.heap.objs.size o]++[.raw (z1.s.heap.objs.size+1) (nD .none z1.s.heap.objs.size 0 .none)]=z1.U++[.lst (z1.s.heap.objs.size+2),.raw (z1.s.heap.objs.size+3) oC,.raw z1.s.heap.objs.size o,.raw (z1.s.heap.objs.size+1) (nD .none z1.s.heap.objs.size 0 .none)] from by simp]at s4
 have at':∀ i:Nat,(z1.U++[Loc.lst (z1.s.heap.objs.size+2),.raw (z1.s.heap.objs.size+3) oC,.raw z1.s.heap.objs.size o,.raw (z1.s.heap.objs.size+1) (nD .none z1.s.heap.objs.size 0 .none)])[J.length+i]?=[Loc.lst (z1.s.heap.objs.size+2),.raw (z1.s.heap.objs.size+3) oC,.raw z1.s.heap.objs.size o,.raw (z1.s.heap.objs.size+1) (nD .none z1.s.heap.objs.size 0 .none)][i]?:=fun i=>by
  rw[dB,iF (cL _ _),tQ]
 have B:Ku (z1.go s4) (z1.s.heap.objs.size+1) z1.s.heap.objs.size a' (z1.s.heap.objs.size+2) (z1.s.heap.objs.size+3) J.length j 0:=
  ⟨⟨o,.lst a',.none,at' 2,w2,w3,(dp Bp).trans HL.gV,rfl,at' 3⟩,Exists.intro _ ⟨at' 0,rfl⟩,oC,_,at' 1,nC⟩
 have loop:=ag3 (R:=compPost G.M c.A E (some (assign rP c.env)) (fun _ s'=>Q .next s') (.ref (z1.s.heap.objs.size+2)) (z1.s.heap.objs.size+3))
  rd hk ju ba ⟨C.le l1,hj,hl,by rw[dB];exact HL.rs.low⟩ dB (fun z3 l3 r3 ⟨oC3,m3,g3,n3⟩=>by
   refine tS (wI rd.ok (by rw[rd.cs];exact xG) (by rw[rd.cs];exact oG) r3 fun z4 l4=>⟨m3,n3.ns (z4.raw (l4.loc.raw _ _ _ g3)),fun QF hs=>?_⟩);obtain⟨ku,ad⟩:=z4.st.Sy (tk:=z4.s.toks) (l4.loc.raw _ _ _ g3) (fun b p nb eq=>(hs.2 b nb).trans eq) (jG ba);have b5:nR (J.length+1) z4 (z4.go ku):=⟨aC.refl _,⟨ad,fun i hi=>bW (kf hi)⟩,_,_,rfl⟩
   exact h (z4.go ku) (l1.trans (b5.le (l3.trans l4) (by rw[<-dB];exact i_ _)))) (Z.ez (aC.refl _) (aA.app _ _)) B
 exact codeAny_compStart_list loop (II (up _ _ dK) loop)
end
section
variable {G:GI}{F:Nat}{O:ay}{k:Nat}{cs:Scope}{c:Cx}{J J':LC}{lv aJ:LV}
theorem dx.trans(a:dx z z')(b:dx z' jL):dx z jL:=⟨a.im.trans b.im,b.loc,gR a.sh b.sh⟩
theorem dF.Zt(h:dF z o Q E)(l:dx z z1):dF z1 o Q E:=
 match o with
 |none=>h
 |some (.ok _,_,_)=>fun b z' l' r=>h b z' (l.trans l') r
 |some (.error _,_,_)=>fun b z' l' r=>h b z' (l.trans l') r
theorem adI{P:Prop}(kv:dF z (Ex.seq m f lv J) Q E)(run:KX z (m lv J) Q1 E->P)
  (hn:∀ bA aa (z1:Z G c aa bA),z.Le z1->dF z1 (f bA aa) Q E->Q1 .next z1.s) (hr:∀ u s,Q (.ret u) s->Q1 (.ret u) s):P:=by
 refine run ?_;unfold Ex.seq at kv;cases e:m lv J with
 |none=>rw[e]at kv;exact kv
 |some q=>
  obtain⟨r,bA,aa⟩:=q;rw[e]at kv;cases r with
  |error i=>exact fun e z1 l er=>kv e z1 l.sk er
  |ok x=>cases x with
   |next=>intro f z1 l rf;have rf:f=.next:=rf;subst rf;exact hn bA aa z1 l (kv.shift l)
   |ret v=>intro f z1 l rf;have q:=kv f z1 l.sk rf;obtain⟨u,rfl,ru⟩:=rf;exact hr u _ q
theorem Ol(h:dF z (uS f lv J) Q E):∃ j l,lv[7]?=some (some (.ref j))/\J[j]?=some (.lst l)/\dF z (f l lv J) Q E:=by
 have h:dF z (Fj f (lv[7]?.join) lv J) Q E:=h;cases e:lv[7]?.join with
 |none=>rw[e]at h;exact h.elim
 |some x=>
  rw[e]at h;cases x with
  |ref j=>
   have h:dF z (Fn f J[j]? lv J) Q E:=h;cases e2:J[j]? with
   |none=>rw[e2]at h;exact h.elim
   |some y=>
    rw[e2]at h;cases y with
    |lst l=>exact⟨j,l,join_some e,e2,h⟩
    |_=>exact h.elim
  |_=>exact h.elim
theorem adw(h:dF z (xr m Ap t l lv J) Q E):l.length<=30/\dF z (Ex.seq m Ap (lv.set 9 (some (.ref J.length))) (fZ J (fY t 0 l))) Q E:=by
 unfold xr at h;cases e:Nat.ble l.length 30 with
 |false=>rw[e]at h;exact h.elim
 |true=>
  rw[e]at h;have h:dF z (iz (Nat.ble 10 lv.length) (fun lv J=>Ex.seq m Ap (lv.set 9 (some (.ref J.length))) (J++[.lst (fY t 0 l),.raw,.raw,.raw])) lv J) Q E:=h;cases e2:Nat.ble 10 lv.length with
  |false=>rw[e2]at h;exact h.elim
  |true=>rw[e2]at h;exact⟨bh e,h⟩
def wY:List Stmt:=[.If (.Compare (.Call (.Name (Str.ofString "_law_truth") ⟨665,11,665,21⟩) [.Name (Str.ofString "plain") ⟨665,22,665,27⟩,.Name iM ⟨665,29,665,34⟩] [] ⟨665,11,665,35⟩) [.NotEq]
 [.Call (.Name (Str.ofString "_law_truth") ⟨665,39,665,49⟩) [.Name (Str.ofString "cond") ⟨665,50,665,54⟩,.Name iM ⟨665,56,665,61⟩] [] ⟨665,39,665,62⟩] ⟨665,11,665,62⟩) [.Return (some (.Constant (.bool false) 0 ⟨666,19,666,24⟩)) ⟨666,12,666,24⟩] [] ⟨665,8,666,24⟩]
def S8:List Stmt:=Dk :: wY
def DH:Expr:=.Name d5 ⟨663,8,663,14⟩
def Ep(M:Nat):Nx:=oh ((List.range M).map fun (n:Nat)=>V.int (0+(n:Int)))
inductive V9(O:ay)(F:Nat)(pb:List PS)(c:Cx)(r:Nat)(a it:Addr)(ix M:Nat)(Q:Flow->Shared->Prop)(E:VP):Nat->Shared->Prop
 |mk (n t:Nat) (aj:LC) (fT:LV) (z2:Z G c aj fT) (o:Obj) (v0:Option Value) (hM:t+n=M) (P:PR it ix 0 M t z2.I z2.U) (h1:z2.U[r]?=some (.raw a o)) (h2:o.data=.cell v0) (kx:dF z2 (ot (aD F O c.cv pb) n t fT aj) Q E):V9 O F pb c r a it ix M Q E (n+1) z2.s
theorem ado{pb:List PS}(g:bH G)(rd:Ready c k cs)(hk:0<k)(hT:TypeName G.K cs (Str.ofString "enumerate") "enumerate")(he:SE G O k cs xl (.loc 7))(xG:cs.names[9]?=some (iM,.local))(oG:cs.names.lookup iM=some .local)
  (ju:cs.names.lookup d5=some .cell) (hb:eg G F O k cs wY pb)
  {r ix:Nat}{a:Addr} (ba:c.de.length<=r) (kK:r<ix) (dm:c.cl=[(d5,a)]) {it:Addr}{M:Nat}{Q:Flow->Shared->Prop}{E:VP}{z1:Z G c J lv}{o:Obj}{v0:Option Value} (h1:z1.U[r]?=some (.raw a o)) (h2:o.data=.cell v0)
  (P1:PR it ix 0 M 0 z1.I z1.U) (kx:dF z1 (ot (aD F O c.cv pb) M 0 lv J) Q E) :
  codeAny G.M c.A (.forLoop DH (.ref it) S8 [] c.env) (fun r s'=>match r with|.ok f=>Q f s'|.error e=>cameBackBy G.M c.A c.env E e s') z1.s:=by
 have hh:=rd.rm.2.2 hk;have jw:c.de.length<=ix:=ak ba (fH kK);have kN:c.cl.lookup d5=some a:=by rw[dm,f5,beq_self_eq_true]
 have IT:nQ G (.ref it) (Ep M) DH c ix (PR it ix 0 M):=OP (aG ix) jw;refine IQ (V9 (G:=G) O F pb c r a it ix M Q E) (fun f s1 h=>?_) (M+1) (.mk M 0 _ _ z1 o v0 (fy _) P1 h1 h2 kx);cases h with|mk n t aj fT z2 o v0 hM P2 h1 h2 kx=>
 cases n with
 |zero=>
  have hx:Ep M t aj=some none:=by
   show some (((List.range M).map fun (n:Nat)=>V.int (0+(n:Int)))[t]?)=_;rw[v7 (by rw[f7,IL];exact eR hM.symm)]
  exact IT.done t _ _ z2 _ _ hh P2 hx fun z3 b3=>pD (kx .next z3 ((dx.refl z2).kY b3 jw) rfl)
 |succ n=>
  have hx:Ep M t aj=some (some (.int (0+(t:Int)))):=by
   show some (((List.range M).map fun (n:Nat)=>V.int (0+(n:Int)))[t]?)=_;rw[eS,List.getElem?_range (hM▸Iy (iI n))];rfl
  refine IT.turn t _ _ z2 (.int (0+(t:Int))) _ _ hh P2 hx fun u z3 b3 sZ=>sZ _ fun z4 b4 P4 pZ=>?_;rw[Int.zero_add]at pZ;have g4:z4.U[r]?=some (.raw a o):=(b4.bl.2 r kK).trans ((b3.bl.2 r kK).trans h1);refine tS (DV rd.ok (by rw[rd.cs];exact ju) kN g4 h2 ba pZ fun z5 x5 C5=>?_);obtain⟨j,l,h7,hj,kx⟩:=Ol (kx.Zt ((((dx.refl z2).kY b3 jw).kY b4 jw).lx x5 ba))
  obtain⟨hl,kx⟩:=adw kx;refine kb (Ww g rd hk hT he xG oG dm ju h7 C5 hj hl fun z6 l6=>?_);refine adI (kx.shift l6) (fun jS=>hb c _ _ z6 _ _ rd (jS.loop rd.ok)) (fun lv7 mw z7 l7 kx7=>?_) fun u s q=>q;obtain⟨o7,g7,d7⟩:=(C5.le (l6.trans l7)).raw;exact⟨n+1,eQ _,.mk n (t+1) mw lv7 z7 o7 _ ((Nat.succ_add t n).trans hM) (IT.mono _ _ _ _ _ (show PR it ix 0 M (t+1) z5.I z5.U from ⟨P4.1,x5.raw _ _ _ (kf kK) P4.2⟩) (l6.trans l7).im (l6.trans l7).loc) g7 d7 kx7⟩
end
section
set_option backward.match.sparseCases true
section
variable {G:GI}{F:Nat}{O:ay}{k:Nat}{cs:Scope}{c:Cx}{J:LC}{lv:LV}
theorem abG(h7:lv[7]?=some (some (.ref j)))(hj:J[j]?=some (.lst l))(hl:l.length<=30):aO O lv c.cv (.bin .pow (.int 2) (.call (.glob (.bi .len)) [.loc 7])) J=some (.ok (.int ((2 ^ l.length:Nat):Int)),J):=by
 show((Ev.ret (V.int 2)).bind fun x=>((Ev.ret (V.bi .len)).bind fun g=>((aS (lv[7]?.join) Ev.ret).bind fun x=>(Ev.ret []).bind fun xs=>Ev.ret (x :: xs)).bind fun vs=>mi O g vs).bind fun y=>c_ .pow x y) J=_;rw[h7];show((bt j fun l=>aF (short l) (Ev.ret (V.int l.length))).bind fun y=>c_ .pow (.int 2) y) J=_;have e:(bt j fun l=>aF (short l) (Ev.ret (V.int l.length))) J=some (.ok (.int l.length),J):=by
  rw[d8 hj,show short l=true from decide_eq_true (ak hl ⋯)];rfl
 unfold Ev.bind;rw[e];show aF (decide (small 2=true/\0<=(l.length:Int)/\(l.length:Int)<=1000000)) (Ev.ret (V.int ((2:Int) ^ (l.length:Int).toNat))) J=_;rw[decide_eq_true ⟨rfl,y6 _,by lia⟩];show some (Except.ok (V.int ((2:Int) ^ l.length)),J)=_;rw[show((2 ^ l.length:Nat):Int)=(2:Int) ^ l.length by push_cast;rfl]
theorem acI{n:Nat}:Ay [.int 32,.int (n:Int)] J=some (.ok (.int ((min 32 n:Nat):Int)),J):=by
 show some (Except.ok (V.int (if (n:Int)<32 then (n:Int) else 32)),J)=_;congr 4;split<;>lia
noncomputable def Et:Expr:=.BinOp (.Constant (.int 2) 0 ⟨663,32,663,33⟩) .Pow (.Call (.Name (Str.ofString "len") ⟨663,37,663,40⟩) [.Name (Str.ofString "simple") ⟨663,41,663,47⟩] [] ⟨663,37,663,48⟩) ⟨663,32,663,48⟩
noncomputable def Aw:Expr:=.Name (Str.ofString "min") ⟨663,24,663,27⟩
def acJ:Expr:=.Call Aw [.Constant (.int 32) 0 ⟨663,28,663,30⟩,Et] [] ⟨663,24,663,49⟩
def QU:Stmt:=.For DH (.Call (.Name (Str.ofString "range") ⟨663,18,663,23⟩) [acJ] [] ⟨663,18,663,50⟩) S8 [] ⟨663,4,666,24⟩
theorem adq(g:bH G)(hk:0<k)(hT:TypeName G.K cs (Str.ofString "enumerate") "enumerate")(hR:TypeName G.K cs (Str.ofString "range") "range")(hm:SE G O k cs Aw (.glob (.bi .min)))(he:SE G O k cs xl (.loc 7))
  (jZ:SE G O k cs Et (.bin .pow (.int 2) (.call (.glob (.bi .len)) [.loc 7]))) (xG:cs.names[9]?=some (iM,.local)) (oG:cs.names.lookup iM=some .local)
  (ju:cs.names.lookup d5=some .cell) (iX:∀ n,cellsFrom n cs.names []=[(d5,n)]) (hb:eg G F O k cs wY pb) (hs:eg G F O k cs ss gp) :
  gC G F O k cs 1 (QU :: ss) (.xt pb :: gp):=fun c J lv z Q E rd hr kx=>by
 obtain⟨a,r,oc,v0,dm,ba,h1,h2⟩:=hr rfl;rw[rd.cs,iX a]at dm;refine kb ?_;refine Ow (Q1:=fun f s'=>match f with|.next=>wpAny G.M c.A (execs ss c.env) Q E s'|f=>Q f s') kx (fun jS=>?_) (fun bA aa z1 aL=>hs c _ _ z1 Q E rd aL) fun u s q=>q;obtain⟨j,l,h7,hj,jS⟩:=Ol jS;have hl:l.length<=30:=by
  cases e:Nat.ble l.length 30 with
  |false=>rw[e]at jS;exact jS.elim
  |true=>exact bh e
 rw[y0 hl]at jS;have jS:dF z (ot (aD F O c.cv pb) (min 32 (2 ^ l.length)) 0 lv (J++[.raw])) _ E:=jS;refine v_ (au (uf g hR rd.cs rd.ok (nH rfl ?_))) (fun v=>rfl);refine ka ?_ (gQ rfl);show wpAny _ _ (eval (.Call Aw _ _ _) _) _ _ _;rw[Hb rfl];refine au (hm c _ _ z _ _ rd ?_);show KO (ao G) z (some (.ok (.bi .min),J)) _ _
 intro v z1 l1 rv;have rv:_=_:=rv;subst rv;refine nH rfl ?_;refine ka ?_ (gQ rfl);refine const_int fun u1 z2 l2 w1=>?_;refine ka ?_ (gQ rfl);refine jZ c _ _ z2 _ _ rd ?_;rw[abG h7 hj hl];intro u2 z3 l3 w2;refine nJ ⟨To _ .min,?_⟩;refine Tn .min (fun _=>hk) c _ _ z3 [.int 32,.int ((2 ^ l.length:Nat):Int)] [u1,u2] _ _ rd.rm (Ek (l3.rep w1) (w2)) ?_
 show KO (ao G) z3 (Ay [.int 32,.int ((2 ^ l.length:Nat):Int)] J) _ _;rw[acI];intro w z4 l4 rw4;obtain⟨tk,rfl⟩:=rw4;refine nJ ⟨AA _ _ _,?_⟩;refine call_range_1 ?_;have hM:min 32 (2 ^ l.length)<=32:=vT _ _;generalize min 32 (2 ^ l.length)=M at hM jS;refine wpAny_pyIter_range (IsRange.new ..) (small_one (by lia) (by lia) (by lia) (by lia)) ?_;rw[MY (by lia)]
 have Ou:=l1.trans (l2.trans (l3.trans l4));have ku:=z4.st.keep (tk:=z4.s.toks+1+1) (h':=z4.s.heap.push { cls:=.type "range",data:=.fields #[.int 0 z4.s.toks,.int (M:Int) tk,.int 1 (z4.s.toks+1)] }) fun _ _ e=>bD _ e;have l5:z.Le (z4.go ku):=Ou.trans (Z.ez (aC.refl _) (aA.refl _));rw[show((M:Int)-0).toNat=M by lia];have LZ:=(z4.go ku).st.EX (tk:=z4.s.toks+1+1) (o:={ cls:=.type "range_iterator",dict:=none,data:=.fields #[rawInt (0+((0:Nat):Int)),rawInt ((M:Int)-((0:Nat):Int)),rawInt 1],slots:=#[] }) rfl (by simp)
 have l6:z.Le ((z4.go ku).go LZ):=l5.trans (Z.ez (aC.refl _) (aA.app _ _));exact ado (z1:=(z4.go ku).go LZ) (ix:=z4.U.length) g rd hk hT he xG oG ju hb ba (dN (aX.mp h1).1 Ou.loc.len) dm (l6.loc.raw _ _ _ h1) h2 ⟨dc _,bx⟩ (jS.shift l6)
end
end
noncomputable def Ez(p:Arguments):Bool:=p.posonlyargs.isEmpty&&p.vararg.isNone&&p.kwonlyargs.isEmpty&&p.kwarg.isNone
noncomputable def slot1(s:List (Str×Value))(x:Str×Value):List (Str×Value):=if (s.lookup x.1).isNone then s++[x] else s
theorem Fe:∀ {a b:List (Str×Value)},x∉a.map (·.1)->(a++b).lookup x=b.lookup x
 |[],_=>fun _=>rfl
 |(y,v) :: a,b=>fun h=>by
  rw[vV,f5,show(x==y)=false from beq_eq_false_iff_ne.mpr fun q=>h (q▸.head _)];exact Fe fun q=>h (.tail _ q)
theorem Fd:∀ {a:List (Str×Value)},x∈a.map (·.1)->(a.lookup x).isNone=false
 |[]=>fun h=>nomatch h
 |(y,v) :: a=>fun h=>by
  rw[f5];cases e:x==y with
  |true=>rfl
  |false=>exact Fd ((bY.mp h).resolve_left (beq_eq_false_iff_ne.mp e))
theorem acY{x:Str}{a:List (Str×Value)}(h:x∉a.map (·.1)):(a.lookup x).isNone=true:=by
 have:=Fe (b:=[]) h;rw[dM]at this;rw[this]<;>rfl
theorem QZ:∀ {l:List (Str×Value)}{s:List (Str×Value)},(∀ x∈l,x.1∈s.map (·.1))->l.foldl slot1 s=s
 |[],_=>fun _=>rfl
 |x :: l,s=>fun h=>by
  show l.foldl slot1 (slot1 s x)=s;have:slot1 s x=s:=by unfold slot1;rw[Fd (h x (.head _))]<;>rfl
  rw[this];exact QZ fun y hy=>h y (.tail _ hy)
theorem QY:∀ {l:List (Str×Value)}{s:List (Str×Value)},((s++l).map (·.1)).Nodup->l.foldl slot1 s=s++l
 |[],s=>fun _=>(dM s).symm
 |x :: l,s=>fun h=>by
  show l.foldl slot1 (slot1 s x)=_;have hx:x.1∉s.map (·.1):=fun q=>by
   rw[j_]at h;exact(jE.mp h).2.2 _ q x.1 (.head _) rfl
  have:slot1 s x=s++[x]:=by unfold slot1;rw[acY hx]<;>rfl
  rw[this,QY (by rw[aH];exact h),aH]<;>rfl
theorem N8:∀ {l r:List (Str×Value)},((r++l).map (·.1)).Nodup->(l.map (·.1)).filterMap (fun n=>((r++l).lookup n).map (n,·))=l
 |[],_=>fun _=>rfl
 |(x,v) :: l,r=>fun h=>by
  have hx:x∉r.map (·.1):=fun q=>by
   rw[j_]at h;exact(jE.mp h).2.2 _ q x (.head _) rfl
  have e:(r++(x,v) :: l).lookup x=some v:=by rw[Fe hx,f5,beq_self_eq_true]
  have ih:=N8 (l:=l) (r:=r++[(x,v)]) (by rw[aH];exact h);rw[aH]at ih;rw[gO,Vp (b:=(x,v)) (by show Option.map _ (List.lookup x _)=_;rw[e];rfl)];exact congrArg _ ih
inductive zt(h:Heap)(fd:FuncData):List Value->Prop
 |no (e:fd.defaults=.none):zt h fd []
 |tup (T:Addr) (o:Obj) (xs:Array Value) (n:Nat) (e:fd.defaults=.ref T) (ho:h.get? T=some o) (hs:o.data=.seq xs n):zt h fd xs.toList
theorem ZI{bZ:List Value}(hd:zt s.heap fd bZ)(h:∀ r:Option (Array Value),(r.getD #[]).toList=bZ->Q r s):wpAny M A (seqItems? fd.defaults) Q E s:=by
 cases hd with
 |no e=>rw[e];exact au (a_ (a_ (h none rfl)))
 |tup T o xs n e ho hs=>rw[e];exact wpAny_seqItems ho hs (h _ rfl)
theorem GO:∀ {l:List (Str×Value)}{s:List (Str×Value)},Q (l.foldl slot1 s) sh ->
  wpAny M A (forIn l s fun x __s=>if (List.lookup x.fst __s).isNone=true then pure (ForInStep.yield (__s++[(x.fst,x.snd)])) else pure (ForInStep.yield __s)) Q E sh
 |[],s=>fun h=>a_ h
 |x :: l,s=>fun h=>by
  rw[IB];refine au ?_;have h:Q (l.foldl slot1 (slot1 s x)) sh:=h;by_cases e:(List.lookup x.fst s).isNone=true
  ·rw[show slot1 s x=s++[x] from if_pos e]at h;rw[if_pos e];exact a_ (GO h)
  ·rw[show slot1 s x=s from if_neg e]at h;rw[if_neg e];exact a_ (GO h)
theorem Dg{pn:List Str}{vs:List Value}(h1:vs.length<=pn.length):pn.zip vs=(pn.take vs.length).zip vs:=by
 have e:(pn.take vs.length++pn.drop vs.length).zip (vs++[])=_:=Iw (by rw[gL,mq h1]);rw[pj,dM,Vv,dM]at e;exact e
theorem Kv{pn:List Str}{vs ds:List Value}(h1:vs.length<=pn.length):pn.zip (vs++ds)=pn.zip vs++(pn.drop vs.length).zip ds:=by
 have e:(pn.take vs.length++pn.drop vs.length).zip (vs++ds)=_:=Iw (by rw[gL,mq h1]);rw[pj,<-Dg h1]at e;exact e
theorem wt{pn:List Str}{us:List Value}(h:us.length=pn.length):(pn.zip us).map (·.1)=pn:=CN (eR h.symm)
theorem YR{pn:List Str}{vs bZ:List Value}(nd:pn.Nodup)(h1:vs.length<=pn.length)(h2:pn.length-bZ.length<=vs.length)(h3:bZ.length<=pn.length) :
  ((pn.drop (pn.length-bZ.length)).zip bZ).foldl slot1 (pn.zip vs)=pn.zip (vs++bZ.drop (vs.length-(pn.length-bZ.length)))/\(vs++bZ.drop (vs.length-(pn.length-bZ.length))).length=pn.length:=by
 generalize hf:pn.length-bZ.length=f at h2;obtain⟨m,hm⟩:∃ m,m+f=vs.length:=⟨_,pF h2⟩;have hs:vs.length-f=m:=by rw[<-hm,Iv]
 rw[hs];have hd:bZ.length+f=pn.length:=by rw[<-hf,IE h3]
 have hmd:m<=bZ.length:=by rw[<-hm,<-hd]at h1;exact Nat.le_of_add_le_add_right h1
 have hl:(vs++bZ.drop m).length=pn.length:=by rw[bz,IF,<-hm,<-hd,vS,IE hmd]
 refine⟨?_,hl⟩;have e1:(pn.drop f).drop m=pn.drop vs.length:=by rw[List.drop_drop,v5,hm]
 have e2:(pn.drop f).zip bZ=((pn.drop f).take m).zip (bZ.take m)++(pn.drop vs.length).zip (bZ.drop m):=by
  have e:((pn.drop f).take m++(pn.drop f).drop m).zip (bZ.take m++bZ.drop m)=_:=Iw (by rw[gL,gL,IF,<-hd,Iv]);rw[pj,pj,e1]at e;exact e
 have e3:(((pn.drop f).take m).zip (bZ.take m)).foldl slot1 (pn.zip vs)=pn.zip vs:=QZ fun x hx=>by
  have FN:x.1∈(pn.drop f).take m:=(List.of_mem_zip hx).1;rw[Dg h1,wt (by rw[gL,mq h1]),<-hm,v5,List.take_add];exact fb _ FN
 rw[e2,List.foldl_append,e3,QY (by rw[<-Kv h1,wt hl];exact nd),<-Kv h1]
noncomputable def YS(l s:List (Str×Value)):Sem (List (Str×Value)):=forIn l s fun x __s=>if (List.lookup x.fst __s).isNone=true then pure (ForInStep.yield (__s++[(x.fst,x.snd)])) else pure (ForInStep.yield __s)
noncomputable def bindM(pn:List Str)(vs:List Value)(d:Value)(X1:Option (Array Value)->Sem (List (Str×Value)))(X2:Option (Array Value)->Sem (List (Str×Value))):Sem (List (Str×Value)):=seqItems? d>>=fun r=>
 if (decide (vs.length>pn.length)&&true)=true then X1 r else
 (fun ds:List Value=>if (!List.isEmpty ((pn.take (pn.length-ds.length)).filter fun n=>((pn.zip vs).lookup n).isNone))=true then X2 r else
  YS ((pn.drop (pn.length-ds.length)).zip ds) (pn.zip vs)>>=fun s=>pure ((pn++[]).filterMap fun n=>(s.lookup n).map (n,·))) ((r.getD #[]).toList.drop ((r.getD #[]).toList.length-pn.length))
theorem aiH{b e g}(h:(((a.isEmpty&&c.isNone)&&d.isEmpty)&&f.isNone)=true):(⟨a,b,c,d,e,f,g⟩:Arguments)=⟨[],b,none,[],e,none,g⟩:=by
 obtain⟨h,e4⟩:=aM.mp h;obtain⟨h,e3⟩:=aM.mp h;obtain⟨e1,e2⟩:=aM.mp h;rw[g_.mp e1,g_.mp e3,CG.mp e2,CG.mp e4]
theorem abX{p:Arguments}(h:Ez p=true):p=⟨[],p.args,none,[],p.kw_defaults,none,p.defaults⟩:=by cases p;exact aiH h
theorem ahb{fd:FuncData}{vs:List Value}:∃ X:(Option (Array Value)->Sem (List (Str×Value)))×(Option (Array Value)->Sem (List (Str×Value))),bindArgs { fd with params:=⟨[],as,none,[],ks,none,ds⟩ } ⟨vs,[]⟩=bindM (as.map (·.arg)) vs fd.defaults X.1 X.2:=⟨(_,_),rfl⟩
theorem ag9{vs bZ:List Value}(hp:Ez fd.params=true)(hpn:fd.params.args.map (·.arg)=pn)(nd:pn.Nodup)(hd:zt s.heap fd bZ)
  (h1:vs.length<=pn.length) (h2:pn.length-bZ.length<=vs.length) (h3:bZ.length<=pn.length) :
  BindsTo s fd ⟨vs,[]⟩ (pn.zip (vs++bZ.drop (vs.length-(pn.length-bZ.length)))):=fun M A E Q hq=>by
 obtain⟨X,e⟩:=ahb (fd:=fd) (vs:=vs) (as:=fd.params.args) (ks:=fd.params.kw_defaults) (ds:=fd.params.defaults);rw[<-abX hp,hpn]at e;have e:bindArgs fd ⟨vs,[]⟩=_:=e;rw[e];refine au (ZI hd fun r hr=>wpAny_ite_false (by simpa using h1) ?_);rw[hr,show bZ.drop (bZ.length-pn.length)=bZ by rw[Nat.sub_eq_zero_of_le h3];rfl];have hz:∀ x∈(pn.take vs.length),x∈(pn.zip vs).map (·.1):=fun x hx=>by
  rw[Dg h1,wt (by rw[gL,mq h1])];exact hx
 refine wpAny_ite_false ?_ (au (GO (a_ ?_)))
 ·rewrite [List.filter_eq_nil_iff.mpr fun x hx=>?_]
  ·rfl
  ·rw[Fd (hz x ((List.take_subset_take_left _ h2) hx))];exact k6
 obtain⟨e1,e2⟩:=YR nd h1 h2 h3;have e3:=N8 (l:=pn.zip (vs++bZ.drop (vs.length-(pn.length-bZ.length)))) (r:=[]) (by rw[Iu,wt e2];exact nd);rw[Iu,wt e2]at e3;rw[e1,dM,e3];exact hq
noncomputable def pw:Program:=PySem.Challenge.rw_pc0155_01.row.prog
def qv:Program:=view pw [93]
def lo:List Str:=pw.boundNames.filter fun x=>!(x==Str.ofString "law")
noncomputable def ann:Option Value:=some (.ref 6)
def wX(w:World)(os:OsState):Shared:=⟨boot_heap w.params,#[],boot_drawn,boot_toks,os⟩
def sa(w:World)(os:OsState):Shared:=((topGo treeTable pw w 11 ann 12 (wX w os) (topStub pw)).map Prod.fst).getD (wX w os)
noncomputable def treeOf(l:List Obj):BT:=(l.foldl (fun (t,n) o=>(t.ins n o,n+1)) (BT.nil,0)).1
def env:Env:={ scope:=pw.main.scope,locals:=mainNs,globals:=mainNs,cells:=[],code:=.ref 13,frame:=some 14 }
def vN:List Stmt:=behindTheImports pw
def cE:Code:=Code.body vN env
noncomputable abbrev tf:List Frame:=[topFrame default]
def sb(w:World)(os:OsState):SharedT:=⟨treeOf (sa w os).heap.objs.toList,15,{},#[],{},(sa w os).toks,os⟩
theorem pre(w:World)(os:OsState):topGo treeTable pw w 11 ann 12 (wX w os) (topStub pw)=some (sa w os,⟨denote treeTable cE,cE,default,tf⟩):=by kernel_rfl
theorem blk(w:World)(os:OsState):segRun treeTable pw w 11 ann 1 10 (sa w os) (blockOf vN env cE default tf)=some (.next,(sb w os).abs,cE,default):=by kernel_rfl
def Eb:=@PySem.W.Fast.tw10110043849684766642 PySem.W.Fast.tw14364793385576792824
theorem ZJ:@segRunT treeTable=Eb:=by
 unfold Eb;rw[PySem.W.Fast.te10110043849684766642,PySem.W.Fast.te14364793385576792824]
def Ew(l:List Stmt)(env:Env)(c:Code)(p:Pos)(B:List Frame):Thread:=⟨(PySem.W.Fast.tw12563942051412417395 l env).wrap doneF deadEnd id id,c,p,B⟩
theorem abP:@piecesOf=Ew:=by
 unfold Ew;funext l env c p B;unfold piecesOf;rw[PySem.W.Fast.te12563942051412417395]
abbrev Rt:=Flow×SharedT×Code×Pos
def top(w:World)(os:OsState):Option Rt:=Eb pw w 11 ann 1 6000 (sb w os) (Ew vN env cE default tf)
def HD(w:World)(r:Rt):=
 ((stepOk 11 ann ⟨doneF r.1,r.2.2.1,r.2.2.2,tf⟩&&(staticsOk [] (boot_heap w.params) r.2.1.abs.heap&&namesBound pw r.2.1.abs.heap&&gensDone r.2.1.abs&&laidKept (boot_heap w.params) r.2.1.abs.heap)),openSeen qv lo [] (fun _=>true) true r.2.1.abs)
theorem Xu{w:World}{os:OsState}{r:Rt}(h:top w os=some r)(he:stepOk 11 ann ⟨doneF r.1,r.2.2.1,r.2.2.2,tf⟩=true):topRun treeTable pw w 11 ann 6024 (wX w os) (topStub pw)=some r.2.1.abs:=by
 obtain⟨f,s,c,p⟩:=r;unfold top at h;rw[<-ZJ,<-abP]at h;obtain⟨a,ha,hN⟩:=seg_top (res:=id) (K':=doneF) (H':=leaveH env) (B:=tf) (gd:=id) (lv:=id) rfl 6000 (sb w os).abs (piecesOf vN env cE default tf) ⟨(execs vN env).wrap doneF (leaveH env) id id,cE,default,tf⟩ f s.abs c p ⟨rfl,rfl,.inl ⟨rfl,rfl,execs vN env,rfl,rfl⟩⟩ (segRun_of h);have ha:a=f:=ha;subst ha;have e:topRun treeTable pw w 11 ann 2 s.abs ⟨doneF a,c,p,tf⟩=some s.abs:=by
  unfold topRun;rw[show through ⟨doneF a,c,p,tf⟩=false from rfl,he];rfl
 exact go_top (n:=12) (N:=6012) (pre w os) (piece_block (n:=10) (N:=6002) (blk w os) (hN 2 _ e))
theorem opens:opening pw=plainProg pw.main.scope.names:=by kernel_rfl
theorem afG(s:Shared):fenceModules? pw s=some s:=by kernel_rfl
theorem size(w:World):((boot_heap w.params).isNs mainGlobals,(boot_heap w.params).objs.size,(boot_heap w.params).nsMap mainGlobals "__annotations__")=(true,11,ann):=by kernel_rfl
theorem FI:importedModules pw.main.body=[]:=by kernel_rfl
theorem afn{p:Program}{w:World}{N m:Nat}{an:Option Value}{s s':Shared}(z1:s.heap.isNs mainGlobals=true)(g:(s.gens.size==0)=true)(z2:s.heap.objs.size=m)(z3:s.heap.nsMap mainGlobals "__annotations__"=an)(im:importedModules p.main.body=[])
  (t:topRun treeTable p w m an N s (topStub p)=some s') (c:(staticsOk [] s.heap s'.heap&&namesBound p s'.heap&&gensDone s'&&laidKept s.heap s'.heap)=true):topFrom treeTable p w N s=some s':=by
 unfold topFrom;rw[z1,g,z2,z3,t,Bool.and_self,Vl,im,c]
theorem fop(w:World):∃ os,fencedOpening treeTable pw w 10000=some (wX w os):=by
 obtain⟨⟨hp,gs,d,k,os⟩,e,e'⟩:=eO.mp (boot_open (p:=pw) (N:=10000) opens rfl afG w);obtain⟨rfl,e'⟩:=eD e';obtain⟨rfl,e'⟩:=eD e';obtain⟨rfl,rfl⟩:=eD e';exact⟨os,e⟩
theorem ac7{w:World}{P:Rt->Prop}(h:∀ os,∃ r,top w os=some r/\(HD w r).1=true/\P r):∃ r,openEnds treeTable pw w 10000=some r.2.1.abs/\P r:=by
 obtain⟨os,e⟩:=fop w;obtain⟨r,hr,c1,c2⟩:=h os;have c1:(stepOk 11 ann ⟨doneF r.1,r.2.2.1,r.2.2.2,tf⟩&&(staticsOk [] (boot_heap w.params) r.2.1.abs.heap&&namesBound pw r.2.1.abs.heap&&gensDone r.2.1.abs&&laidKept (boot_heap w.params) r.2.1.abs.heap))=true:=c1;obtain⟨c1,c3⟩:=aM.mp c1;have z:=size w;refine⟨r,?_,c2⟩;unfold openEnds;rw[e,Vl];exact afn (congrArg Prod.fst z) rfl (congrArg (fun x=>x.2.1) z) (congrArg (fun x=>x.2.2) z) FI (topRun_mono 3976 _ _ _ _ (Xu hr c1)) c3
noncomputable def yQ{α:Type}(lt:Nat->Nat->Bool):KasT α->α
 |.ret a=>a
 |.ask i j k=>yQ lt (k (lt i j))
noncomputable def inR{α:Type}(n:Nat)(Q:α->Prop):KasT α->Prop
 |.ret a=>Q a
 |.ask i j k=>i<n/\j<n/\∀ b,inR n Q (k b)
section
variable {α β:Type}{n:Nat}{lt:Nat->Nat->Bool}
theorem aiJ(hc:∀ i j C s,i<n->j<n->C (lt i j) s->cmp i j C s)(t:KasT α)(h:inR n P t)(q:Q (yQ lt t) s):t.kasWp cmp Q s:=by
 induction t with
 |ret a=>exact q
 |ask i j k ih=>exact hc i j _ s h.1 h.2.1 (ih _ (h.2.2 _) q)
theorem xE(t:KasT α)(h:inR n P t)(hf:∀ a,P a->inR n Q (f a)):inR n Q (t.bind f):=by
 induction t with
 |ret a=>exact hf a h
 |ask i j k ih=>exact⟨h.1,h.2.1,fun b=>ih b (h.2.2 b)⟩
theorem lS{c:Prop}[Decidable c](x:inR n Q a)(y:inR n Q b):inR n Q (if c then a else b):=by
 by_cases h:c
 ·rw[if_pos h];exact x
 ·rw[if_neg h];exact y
def gD(n:Nat)(p:Array Nat):Prop:=p.Perm (List.toArray (List.range n))
theorem gD.below{p:Array Nat}(h:gD n p)(hn:0<n)(i:Nat):p.getD i 0<n:=by
 by_cases hi:i<p.size
 ·have e:p.getD i 0=p[i]:=by simp[Array.getD,hi]
  rw[e];have m:p[i]∈List.toArray (List.range n):=h.mem_iff.mp (Array.getElem_mem hi);simpa using m
 ·have e:p.getD i 0=0:=by simp[Array.getD,hi]
  rw[e];exact hn
theorem gD.rev{p:Array Nat}(h:gD n p)(i j:Nat):gD n (kas_rev p i j):=(mirror_perm _ _ _ _).trans h
theorem gD.bub{p:Array Nat}(h:gD n p)(i j:Nat):gD n (bubble p i j):=(bubble_perm _ _ _).trans h
variable {p:Array Nat}(hn:0<n)
include hn
theorem O_(h:gD n p):∀ f m,inR n (fun _=>True) (kas_asc p f m):=by
 intro f;induction f with
 |zero=>exact fun _=>True.intro
 |succ f ih=>exact fun m=>⟨h.below hn _,h.below hn _,fun b=>lS True.intro (ih _)⟩
theorem aek:∀ f {p:Array Nat} (h:gD n p) m q,inR n (fun r=>gD n r.1) (kas_desc f p m q):=by
 intro f;induction f with
 |zero=>exact fun h _ _=>h
 |succ f ih=>exact fun h m q=>⟨h.below hn _,h.below hn _,fun b=>lS (lS (ih (h.rev _ _) _ _) (ih h _ _)) ⟨h.below hn _,h.below hn _,fun b=>lS h (ih h _ _)⟩⟩
theorem O8(h:gD n p)(m r:Nat):inR n (fun x=>gD n x.2) (kas_tail3 m r p):=xE _ (O_ hn (h.rev _ _) _ _) fun _ _=>h.rev _ _
theorem O9(h:gD n p)(m r:Nat):inR n (fun x=>gD n x.2) (kas_descPart m r p):=xE _ (aek hn _ h _ _) fun x hx=>lS (O8 hn (hx.rev _ _) _ _) (O8 hn hx _ _)
theorem ael(h:gD n p)(r:Nat):inR n (fun x=>gD n x.2) (kas_count r p):=xE _ (O_ hn h _ _) fun m _=>
 lS h (lS ⟨h.below hn _,h.below hn _,fun b=>lS h (O9 hn (h.rev _ _) _ _)⟩ (O9 hn h _ _))
theorem aei(h:gD n p)(k:Nat):∀ f l r,inR n (fun _=>True) (kas_place p k f l r):=by
 intro f;induction f with
 |zero=>exact fun _ _=>True.intro
 |succ f ih=>exact fun l r=>lS True.intro ⟨h.below hn _,h.below hn _,fun b=>lS (ih _ _) (ih _ _)⟩
theorem aen:∀ f {p:Array Nat} (h:gD n p) k,inR n (fun _=>True) (kas_bin f p k):=by
 intro f;induction f with
 |zero=>exact fun _ _=>True.intro
 |succ f ih=>exact fun h k=>xE _ (aei hn h _ _ _ _) fun l _=>ih (h.bub _ _) _
theorem aeh:inR n (fun _=>True) (kas_sort n):=xE _ (ael hn (Array.Perm.refl _) _) fun x hx=>lS (aen hn _ hx _) True.intro
end
noncomputable def E8(kx:List Str)(i j:Nat):Bool:=decide ((kx.getD i ⟨#[]⟩).cps.toList<(kx.getD j ⟨#[]⟩).cps.toList)
def lz{α:Type}(d:α)(kx:List Str)(vs:List α):List α:=if vs.length<2 then vs else ((yQ (E8 kx) (kas_sort vs.length)).toList.map fun i=>vs.getD i d)
abbrev Keeps(h h':Heap):Prop:=∀ b o,h.get? b=some o->h'.get? b=some o
section
variable {prog:Program}{w:World}{A:Around}{E:VP}{s:Shared}
theorem LK:∀ {ks:List Value}{kx:List Str},StrsAre ks kx->∀ i,i<ks.length->∃ t,ks.getD i Value.none=.str (kx.getD i ⟨#[]⟩) t:=by
 intro ks kx h;induction h with
 |nil=>exact fun i hi=>absurd hi (hJ _)
 |cons y t _ ih=>exact fun i hi=>match i with
  |0=>⟨t,rfl⟩
  |i+1=>ih i (iH hi)
theorem XU(h:StrsAre ks kx):ks.length=kx.length:=by
 induction h with
 |nil=>rfl
 |cons _ _ _ ih=>exact congrArg (·+1) ih
theorem XT(x:StrsAre ks kx):∀ v∈ks,Looks M h (typeOf v) (.type "str"):=by
 induction x with
 |nil=>exact fun v hv=>absurd hv q_
 |cons y t _ ih=>exact fun v hv=>(bY.mp hv).elim (fun e=>e▸zf rfl) (ih v)
theorem L3{st:SortSt}(aeF:(arrOf st).map (·.2)=List.toArray out)(hz:out.length<64)(F8:ks.length<64)(hf:failedOf st=none)
  (hS:s.heap.get? kS=some (seqObj "list" (List.toArray ks) e)) (hD:s.heap.get? D=some (seqObj "list" #[] e1)) (aY:D≠kS)
  (h:P (.done (.ret .none)) { s with heap:=(s.heap.update kS (Obj.mapSeq fun _=>#[])).update D (Obj.mapSeq fun _=>List.toArray out) }):wpAny (model prog w) A (ksk_tail D false e1 (.ref kS) st) P E s:=by
 unfold ksk_tail;dsimp only;rw[aeF];have Gy:(s.heap.update kS (Obj.mapSeq fun _=>(#[]:Array Value))).get? D=some (seqObj "list" #[] e1):=(dq _ _ _ _ aY).trans hD;refine au (CD hS rfl ?_ (by rw[ja,q7];lia) (dc _));refine au (wpAny_letGo ?_);refine au (seqEpoch_at Gy rfl ?_);refine au (CD Gy rfl ?_ (dc _) (by rw[if_neg k6,ja,q7];lia))
 rw[hf];simp only[bne_self_eq_false,pG,if_false];exact a_ h
theorem X8(hk:StrsAre ks kx)(hl:ks.length=vs.length)(kR:vs.length<64)
  (hS:s.heap.get? kS=some (seqObj "list" (List.toArray ks) e)) (hD:s.heap.get? D=some (seqObj "list" #[] e1)) (aY:D≠kS)
  (h:P (.done (.ret .none)) { s with heap:=(s.heap.update kS (Obj.mapSeq fun _=>#[])).update D (Obj.mapSeq fun _=>List.toArray (lz .none kx vs)) }) :
  wpAny (model prog w) A (ksk_end D false vs.toArray e1 (.ref kS) (List.toArray ks)) P E s:=by
 have F8:ks.length<64:=hl▸kR;unfold ksk_end;dsimp only;rw[if_neg k6];by_cases h2:vs.length<2
 ·rw[if_pos (show vs.toArray.size<2 from h2),if_pos (show vs.toArray.size<2 from h2)];rw[show lz .none kx vs=vs from if_pos h2]at h;refine au (a_ (au (a_ ?_)));refine L3 ?_ kR F8 rfl hS hD aY h;refine Array.toList_inj.mp ?_;show(((List.toArray ks).zip vs.toArray).map (·.2)).toList=vs;rw[Array.toList_map,ksk_zip,I6 (eR hl.symm)]
 ·rw[if_neg (show ¬vs.toArray.size<2 from h2),if_neg (show ¬vs.toArray.size<2 from h2)];have qH:2<=vs.length:=Cy h2;have hn:0<vs.length:=dN ⋯ qH;refine au (kas_kind (hl▸qH) (XT hk) rfl rfl ?_)
  refine au (fI (kat_run (Q:=fun st s'=>∃ p:Array Nat,p=yQ (E8 kx) (kas_sort vs.length)/\p.size=vs.length/\arrOf st=p.map (kas_item ((List.toArray ks).zip vs.toArray))/\failedOf st=none/\s'=s)
   (G:=fun p s'=>p=yQ (E8 kx) (kas_sort vs.length)/\s'=s) hl qH kR (fun p st s' a1 a2 a3 a4=>⟨p,a4.1,a1,a2,a3,a4.2⟩) (aiJ (fun i j C s hi hj q=>?_) _ (aeh hn) ⟨rfl,rfl⟩)) (fun r s' q=>?_) fun _ _ x=>x)
  ·obtain⟨t,e1⟩:=LK hk i (hl▸hi);obtain⟨u,e2⟩:=LK hk j (hl▸hj);show wpAny _ _ (keyLt' oneType' _ _) _ _ _;rw[e1,e2];exact kas_lt_str q
  ·obtain⟨p,e0,e2,e3,e4,rfl⟩:=q;rw[show lz .none kx vs=p.toList.map fun i=>vs.getD i Value.none from (if_neg h2).trans (by rw[e0])]at h;exact L3 (kat_snds hl e3) (by rw[f7,Array.length_toList,e2];exact kR) F8 e4 hS hD aY h
end
def Kr(M:Model)(A:Around)(s:Shared)(h0:Heap)(v:Value)(x:Str):Prop:=
 ∀ h tk Q,Keeps h0 h->(∀ h' u gF,Keeps h h'->Q (.str x u) { s with heap:=h',toks:=gF })->wpAny M A (call (.builtin "repr") [v]) Q (fun _ _=>False) { s with heap:=h,toks:=tk }
inductive pJ(M:Model)(A:Around)(s:Shared)(h0:Heap):List Value->List Str->Prop
 |nil:pJ M A s h0 [] []
 |cons {v x vs kx} (h:Kr M A s h0 v x) (r:pJ M A s h0 vs kx):pJ M A s h0 (v :: vs) (x :: kx)
section
variable {prog:Program}{w:World}{A:Around}{E:VP}{s:Shared}{h0:Heap}{D kS:Addr}{e1:Nat}
theorem pJ.len(h:pJ M A s h0 vs kx):vs.length=kx.length:=by
 induction h with
 |nil=>rfl
 |cons _ _ ih=>exact congrArg (·+1) ih
inductive SI(s:Shared)(h0:Heap)(D kS:Addr)(e1:Nat)(ks:List Value):Shared->Prop
 |mk {h:Heap}{tk e:Nat} (kp:Keeps h0 h) (hD:h.get? D=some (seqObj "list" #[] e1)) (hS:h.get? kS=some (seqObj "list" (List.toArray ks) e)):SI s h0 D kS e1 ks { s with heap:=h,toks:=tk }
theorem strs_snoc(h:StrsAre ks kx)(x:Str)(u:Tok):StrsAre (ks++[.str x u]) (kx++[x]):=by
 induction h with
 |nil=>exact .cons x u .nil
 |cons y t _ ih=>exact .cons y t ih
theorem X7{body:Value->PUnit->Sem (ForInStep PUnit)}(hb:∀ v x ks s',Kr M' B s h0 v x->ks.length<64->SI s h0 D kS e1 ks s'->wpAny M A (body v ⟨⟩) (fun r mG=>r=.yield ⟨⟩/\∃ u,SI s h0 D kS e1 (ks++[.str x u]) mG) E s')
  (hk:pJ M' B s h0 vs kx):∀ {ks:List Value}{k0:List Str}{s':Shared},StrsAre ks k0->ks.length+vs.length<64->SI s h0 D kS e1 ks s' ->
  wpAny M A (forIn vs PUnit.unit body) (fun _ mG=>∃ OE,StrsAre OE (k0++kx)/\SI s h0 D kS e1 OE mG) E s':=by
 induction hk with
 |nil=>exact fun hs hl i=>by rw[List.forIn_nil];exact a_ ⟨_,by rw[dM];exact hs,i⟩
 |@cons v x vs kx h r ih=>
  intro ks k0 s' hs hl i;rw[qZ]at hl;rw[IB];refine au (fI (hb v x ks s' h (e_ (cL _ _) hl) i) (fun q s2 hq=>?_) fun _ _ x=>x);obtain⟨rfl,u,i2⟩:=hq;have:=ih (strs_snoc hs x u) (by rw[bz,zb,vS];exact hl) i2;rw[aH]at this;exact this
theorem X6(hk:pJ (model prog w) A s h0 vs kx)(kR:vs.length<64)(hD0:h0.objs.size<=D)(Qr:h0.objs.size<=kS)(aY:D≠kS)(i:SI s h0 D kS e1 [] s')
  (h:∀ h' tk c,Keeps h0 h'->h'.get? D=some (seqObj "list" (List.toArray (lz .none kx vs)) c)->P (.done (.ret .none)) { s with heap:=h',toks:=tk }):wpAny (model prog w) A (ksk_rest D (.builtin "repr") false vs.toArray e1 (.ref kS)) P E s':=by
 have up:∀ {h:Heap}{a:Addr}{f:Obj->Obj},h0.objs.size<=a->Keeps h0 h->Keeps h0 (h.update a f):=fun ha k b o e=>(dq _ _ _ _ (dG (dN (cS e) ha))).trans (k b o e);unfold ksk_rest;refine au (Cm ?_);rw[List.forIn_toArray];refine au (fI (X7 (fun v x ks s' hv hz i=>?_) hk (ks:=[]) .nil (by rw[tP,fy];exact kR) i) (fun _ s2 hd=>?_) fun _ _ x=>x)
 ·obtain⟨kp,hD,hS⟩:=i;refine au (wpAny_attempt (fI (hv _ _ (fun k s2=>∃ u h' gF,k=.str x u/\Keeps _ h'/\s2={ s with heap:=h',toks:=gF }) kp fun h' u gF k=>⟨u,h',gF,rfl,k,rfl⟩) (fun k s2 hq=>?_) fun _ _ hF=>hF.elim));obtain⟨u,h',gF,rfl,k,rfl⟩:=hq;dsimp only;refine au (CD (k _ _ hS) rfl ?_ (by rw[ja,q7];lia) (by rw[VF,ja,q7];lia))
  have g:=It (k _ _ hS) (·.push (Value.str x u));rw[List.push_toArray]at g;exact a_ ⟨rfl,u,.mk (up Qr fun b o e=>k _ _ (kp b o e)) ((dq _ _ _ _ aY).trans (k _ _ hD)) g⟩
 ·obtain⟨ks,hs,kp,hD,hS⟩:=hd;have hl:ks.length=vs.length:=(XU hs).trans hk.len.symm;refine au (listItems_at hS rfl ?_);exact X8 hs hl kR hS hD aY (h _ _ _ (up hD0 (up Qr kp)) (It ((dq _ _ _ _ aY).trans hD) _))
theorem L_(hl:s.heap.IsList l vs.toArray)(kR:vs.length<64)(hk:pJ (model prog w) A.in1.in1 s s.heap vs kx)
  (h:∀ h' tk D c,Keeps s.heap h'->s.heap.objs.size<=D->h'.get? D=some (seqObj "list" (List.toArray (lz .none kx vs)) c)->Q (.ref D) { s with heap:=h',toks:=tk }) :
  wpAny (model prog w) A (call (.builtin "sorted") [.ref l] [(Str.ofString "key",.builtin "repr")]) Q E s:=by
 refine call_function_entry_kw kind_sorted plain_sorted entry_sorted (ksk_s1 _ _) ?_;unfold Builtin.«sorted»;refine au (m:=checkCount "sorted" 1 1 _) (a_ ?_);refine au (collect_list hl ?_ (by rw[q7];lia));have k1:Keeps s.heap ((s.heap.push (seqObj "list" #[] 0)).update s.heap.objs.size (Obj.mapSeq (·++vs.toArray))):=fun b o e=>(dq _ _ _ _ (dG (cS e))).trans (bD _ e)
 have z1:s.heap.objs.size<((s.heap.push (seqObj "list" #[] 0)).update s.heap.objs.size (Obj.mapSeq (·++vs.toArray))).objs.size:=by rw[CC,CB];exact eQ _
 generalize (s.heap.push (seqObj "list" #[] 0)).update s.heap.objs.size (Obj.mapSeq (·++vs.toArray))=h1 at k1 z1;refine au (wpAny_newList ?_ (by rw[q7];lia));dsimp only;have ho:(h1.push (seqObj "list" vs.toArray 0)).get? h1.objs.size=some (seqObj "list" vs.toArray 0):=gN _ rfl;have k2:Keeps s.heap (h1.push (seqObj "list" vs.toArray 0)):=fun b o e=>bD _ (k1 b o e)
 show wpAny _ _ _ _ _ { s with heap:=h1.push (seqObj "list" vs.toArray 0) };have z2:h1.objs.size<(h1.push (seqObj "list" vs.toArray 0)).objs.size:=by rw[CB];exact eQ _
 generalize h1.objs.size=D at z1 ho z2;generalize h1.push (seqObj "list" vs.toArray 0)=h2 at ho k2 z2;refine au (gM (wpAny_call_entry_kw slot_list_sort ⟨_,ho,rfl⟩ entry_list_sort ?_ (ksk_l1 _ _)));rw[ksk_t4];unfold ksk_tree;have k3:Keeps s.heap (h2.update D (Obj.mapSeq fun _=>#[])):=fun b o e=>(dq _ _ _ _ (dG (pE (cS e) z1))).trans (k2 b o e)
 have hD:=It ho fun _=>(#[]:Array Value);refine au (listItems_at ho rfl ?_);refine au (CD ho rfl ?_ (by rw[ja,q7];lia) (dc _));refine au (seqEpoch_at hD rfl ?_);have z3:D<(h2.update D (Obj.mapSeq fun _=>(#[]:Array Value))).objs.size:=by rw[CC];exact z2
 dsimp only;generalize h2.update D (Obj.mapSeq fun _=>(#[]:Array Value))=h3 at k3 hD z3;refine au (wpAny_newTuple ?_ (by show vs.length<=_;rw[q7];lia));refine au (wpAny_newList ?_ (dc _));refine gM ?_;refine X6 hk kR (fH z1) (ak (fH z1) (ak (fH z3) ?_)) ?_ (s':={ s with heap:=(h3.push (seqObj "tuple" vs.toArray 0)).push (seqObj "list" #[] 0) }) (.mk (e:=0) (fun b o e=>bD _ (bD _ (k3 b o e))) (bD _ (bD _ hD)) (gN _ rfl)) ?_
 ·show _<=(h3.push _).objs.size;rw[CB];exact i_ _
 ·show _≠(h3.push _).objs.size;rw[CB];exact dG (pA z3)
 ·exact fun h' tk c kp hd=>⟨_,rfl,a_ ⟨_,rfl,h h' tk D c kp (fH z1) hd⟩⟩
end
section
variable {G:GI}{O:ay}{k:Nat}{cs:Scope}{I:Im}{U:List Loc}
mutual
theorem MT(im:∀ a o,I a=some o->h.get? a=some o):∀ {x:V}{v:Value},cU x=true->ao G I U x v->∃ as,Reads h v (dat x) as
 |.none,_=>fun _ r=>by have r:_=_:=r;subst r;exact⟨_,.none⟩
 |.int _,_=>fun _ r=>by obtain⟨t,rfl⟩:=r;exact⟨_,.int _ _⟩
 |.str _,_=>fun _ r=>by obtain⟨t,rfl⟩:=r;exact⟨_,.str _ _⟩
 |.tup l,_=>fun k r=>by
  obtain⟨a,vs,rfl,⟨o,n,e1,e2,e3⟩,hr⟩:=r;obtain⟨as,h⟩:=MS im k hr;exact⟨as,.tuple (im _ _ e1) e2 e3 h⟩
 |.bool _,_=>fun k _=>Bool.noConfusion k
 |.obj _ _,_=>fun k _=>Bool.noConfusion k
 |.ref _,_=>fun k _=>Bool.noConfusion k
 |.fn _,_=>fun k _=>Bool.noConfusion k
 |.bi _,_=>fun k _=>Bool.noConfusion k
 |.cz _ _,_=>fun k _=>Bool.noConfusion k
 |.gZ _ _,_=>fun k _=>Bool.noConfusion k
 |.eC _,_=>fun k _=>Bool.noConfusion k
 |.lam,_=>fun k _=>Bool.noConfusion k
 |.fE,_=>fun k _=>Bool.noConfusion k
theorem MS(im:∀ a o,I a=some o->h.get? a=some o):∀ {l:List V}{vs:List Value},fS l=true->av G I U l vs->∃ as,ReadsAll h vs (Hs l) as
 |[],_=>fun _ r=>by have r:_=_:=r;subst r;exact⟨_,.nil⟩
 |x :: l,_=>fun k r=>by
  obtain⟨v,ws,rfl,h1,h2⟩:=r;have k:=aM.mp k;obtain⟨as,r1⟩:=MT im k.1 h1;obtain⟨bs,r2⟩:=MS im k.2 h2;exact⟨_,.cons r1 r2⟩
end
def wO(x:V):Str:=(dat x).shown
theorem Zq{d:PyData}(h:(d.leavesShort 100&&Nat.ble d.weight 10000)=true):d.shown.length<=1048576:=by
 obtain⟨h1,h2⟩:=aM.mp h;exact ak (PyData.shown_le 100 ⋯ d h1) (ak (f9 (Nat.mul_le_mul_left 102 (bh h2)) 100) ⋯)
theorem adO{A:Around}{s:Shared}{x:V}{v:Value}(im:∀ a o,I a=some o->s.heap.get? a=some o)(hg:A.guards=some [])(hu:A.units+97<cLine)(hk:cU x=true)(hs:pV x=true)(r:ao G I U x v):Kr G.M A s s.heap v (wO x):=by
 obtain⟨as,rd⟩:=MT im hk r;obtain⟨ht,hd⟩:=aM.mp hs;obtain⟨hd,d4⟩:=aM.mp hd;obtain⟨hd,d3⟩:=aM.mp hd;obtain⟨d1,d2⟩:=aM.mp hd;cases x with
 |tup l=>
  obtain⟨a,vs,rfl,_⟩:=r;intro h tk Q kp hQ;exact repr_of_reads' rd d1 (fun e=>by rw[e]at d2;cases d2) hg (e_ (tY (cg (bh d3)) _) (e_ (tY ⋯ _) hu)) kp (fun h' u gF k=>hQ h' u gF k) (ak (Zq d4) ⋯)
 |_=>cases ht
theorem Fv(im:∀ a o,I a=some o->s.heap.get? a=some o)(hg:A.guards=some [])(hu:A.units+97<cLine):∀ {l:List V}{vs:List Value},fS l=true->l.all pV=true->av G I U l vs->pJ G.M A s s.heap vs (l.map wO)
 |[],_=>fun _ _ r=>by have r:_=_:=r;subst r;exact .nil
 |x :: l,_=>fun k h r=>by
  obtain⟨v,ws,rfl,h1,h2⟩:=r;have k:=aM.mp k;have h:=aM.mp h;exact .cons (adO im hg hu k.1 h.1 h1) (Fv im hg hu k.2 h.2 h2)
theorem MN:∀ {l:List V}{vs:List Value},av G I U l vs->∀ i,ao G I U (l.getD i .none) (vs.getD i .none)
 |[],_=>fun r i=>by have r:_=_:=r;subst r;exact rfl
 |x :: l,_=>fun r i=>by
  obtain⟨v,ws,rfl,h1,h2⟩:=r;cases i with
  |zero=>exact h1
  |succ i=>exact MN h2 i
theorem MM(r:av G I U l vs):∀ p:List Nat,av G I U (p.map fun i=>l.getD i .none) (p.map fun i=>vs.getD i .none)
 |[]=>rfl
 |i :: p=>Exists.intro _ ⟨_,rfl,MN r i,MM r p⟩
theorem L4(r:av G I U l vs)(kx:List Str):av G I U (lz .none kx l) (lz .none kx vs):=by
 unfold lz;rw[r.length];by_cases h:l.length<2
 ·rw[if_pos h,if_pos h];exact r
 ·rw[if_neg h,if_neg h];exact MM r _
theorem X9{α:Type}{d:α}{p:α->Prop}(hd:p d){l:List α}(h:∀ y∈l,p y)(kx:List Str):∀ y∈lz d kx l,p y:=fun y hy=>by
 unfold lz at hy;by_cases q:l.length<2
 ·rw[if_pos q]at hy;exact h y hy
 ·rw[if_neg q]at hy;obtain⟨i,_,rfl⟩:=pv.mp hy;rw[List.getD_eq_getElem?_getD];cases e:l[i]? with
  |none=>exact hd
  |some y=>exact h y (eP e)
theorem acf(h1:fS l=true)(h2:iD l<=90)(h:y∈l):cU y=true/\cZ y<=90:=by
 obtain⟨i,e⟩:=List.mem_iff_getElem?.mp h;exact⟨sq h1 e,ak (yC e) h2⟩
end
section
variable {G:GI}{O:ay}{k:Nat}{cs:Scope}
theorem afR{x:Str}{p pos:Pos}{args:List Expr}{fj:List Keyword}{env:Env}:eval (.Call (.Name x p) args fj pos) env=(do callWith pos (<-eval (.Name x p) env) [] (backTo pos (starEach args env)) (backToKw pos (keywordEach fj env))):=rfl
theorem Ma{ea:Expr}{p1 p2 p3 pos:Pos}{c:Cx}{J:LC}{lv:LV}{z:Z G c J lv}{Q:VP}{E:VP}(g:bH G)(bS:t7 G.K cs (Str.ofString "sorted") (.builtin "sorted"))(bR:t7 G.K cs (Str.ofString "repr") (.builtin "repr"))
  (hc:c.cs=cs) (ok:cx c) (hu:eH ea=true)
  (h:wpAny G.M c.A (eval ea c.env) (fun v s1=>∃ aa,∃ z1:Z G c aa lv,z1.s=s1/\wpAny G.M c.A (call (.builtin "sorted") [v] [(Str.ofString "key",.builtin "repr")]) Q E z1.s) E z.s) :
  wpAny G.M c.A (eval (.Call (.Name (Str.ofString "sorted") p1) [ea] [⟨some (Str.ofString "key"),.Name (Str.ofString "repr") p2,p3⟩] pos) c.env) Q E z.s:=by
 rw[afR];refine au (uf g bS hc ok ?_);refine callWith_kw ?_ (by rw[gQ hu];rfl) (TP (es:=[ea]) (by rw[o8,hu];rfl));refine ka (fI h (fun v s1 q=>?_) fun _ _ x=>x) (gQ hu);obtain⟨aa,z1,rfl,q⟩:=q;exact nJ (kws_cons (uf g bR hc ok (kws_nil q)))
theorem YQ(g:bH G)(bS:t7 G.K cs (Str.ofString "sorted") (.builtin "sorted"))(bR:t7 G.K cs (Str.ofString "repr") (.builtin "repr"))
  (ha:SE G O k cs ea pa) (hu:eH ea=true) (hb:SE G O k cs (.Name xb p5) (.loc j)) :
  ST G O k cs (.Compare (.Call (.Name (Str.ofString "sorted") p1) [ea] [⟨some (Str.ofString "key"),.Name (Str.ofString "repr") p2,p3⟩] p4) [.NotEq] [.Call (.Name (Str.ofString "sorted") p6) [.Name xb p5] [⟨some (Str.ofString "key"),.Name (Str.ofString "repr") p7,p8⟩] p9] pos) (.nX pa (.loc j)):=
 fun c J lv z Q E rd kv=>by
 refine Cu ?_ rfl;have kv:KO rh z (((aO O lv c.cv pa).bind fun x=>((aO O lv c.cv (.loc j)).bind fun y=>mD x y).bind gh) J) Q E:=by rw[<-Ev.bind_assoc];exact kv
 refine Ma g bS bR rd.cs rd.ok hu ?_;refine cy kv (ha c _ _ z _ _ rd) fun x aa v z1 l1 rv bb=>⟨aa,z1,rfl,?_⟩;have bb:KO rh z1 (((aS (lv[j]?.join) Ev.ret).bind fun y=>mD x y).bind gh aa) Q E:=bb;cases hj:lv[j]?.join with
 |none=>rw[hj]at bb;exact bb.elim
 |some y=>
 rw[hj]at bb;have bb:KO rh z1 ((mD x y).bind gh aa) Q E:=bb;unfold Ev.bind at bb;cases hs:mD x y aa with
 |none=>rw[hs]at bb;exact bb.elim
 |some q=>
 rw[hs]at bb;obtain⟨r,aj⟩:=q;obtain⟨i,rfl,Qn⟩:=Aa hs;obtain⟨i2,rfl,ha2⟩:=Aa Qn;obtain⟨a,h1,ha3⟩:=lst_inv ha2;obtain⟨b,h2,ha4⟩:=lst_inv ha3;obtain⟨hg,ha5⟩:=tc ha4;obtain⟨hg,g5⟩:=aM.mp hg;obtain⟨hg,g4⟩:=aM.mp hg;obtain⟨hg,g3⟩:=aM.mp hg;obtain⟨g1,g2⟩:=aM.mp hg;obtain rfl:=(wy g1).mp g2;obtain⟨rfl,rfl⟩:=eD (aU ha5)
 have bb:∀ b z',z1.Le z'->b=false->Q b z'.s:=bb;have Pn:c.A.in1.in1.units+97<cLine:=by have:=rd.rm.2.1;show c.A.units+1+1+97<9900;lia
 obtain⟨a1,vs1,n1,rfl,L1⟩:=z1.lst h1 rv;have kR:a.length<64:=bh g5;refine L_ L1.is (L1.rs.length▸kR) (Fv (A:=c.A.in1.in1) z1.st.im rd.ok.guards Pn g1 g4 L1.rs) fun hp1 jg D1 c1 k1 Qy q1=>?_;have Qv:z1.I D1=none:=z1.st.mX Qy;have dQ:=(z1.st.keep (tk:=jg) k1).ra Qv q1 (fun m=>absurd (z1.st.lt m) (fG.mpr Qy)) (by show Value.type "list"≠_;simp)
 refine Ma (z:=z1.go dQ) g bS bR rd.cs rd.ok rfl ?_;refine hb c _ _ (z1.go dQ) _ _ rd ?_;show KO (ao G) (z1.go dQ) (aS (lv[j]?.join) Ev.ret aa) _ _;rw[hj];intro u z3 l3 ru;refine⟨_,z3,rfl,?_⟩;obtain⟨a2,WL,n2,rfl,L2⟩:=z3.lst h2 ru;refine L_ L2.is (L2.rs.length▸kR) (Fv (A:=c.A.in1.in1) z3.st.im rd.ok.guards Pn g1 g4 L2.rs) fun sS uh D2 c2 k2 Gy q2=>?_;have Ov:z1.Le z3:=Z.Le.trans (Z.ez (fe Qv) (aA.refl _)) l3
 have rU:=z3.st.keep (tk:=uh) k2;have R1:=L4 (Ov.MO L1.rs) (a.map wO);have R2:=L4 L2.rs (a.map wO);have q1':=k2 _ _ (z3.st.im _ _ (l3.im _ _ (jM _ _ _)));have sT:∀ y∈lz V.none (a.map wO) a,cU y=true/\cZ y<=90:=X9 (p:=fun y=>cU y=true/\cZ y<=90) ⟨rfl,dc _⟩ (fun y hy=>acf g1 (bh g3) hy) _;refine RcNeAt.lists (e:=fun _=>true) ⟨_,q1',rfl,_,rfl⟩ ⟨_,q2,rfl,_,rfl⟩ (by rw[ja,ja,R1.length,R2.length]) (by have:=rd.rm.2.1;show c.A.units<9900;lia) (fun j e1 e2=>?_) _ _ _ _ ?_
 ·rw[ja]at e1 e2;obtain⟨x,ex,rx⟩:=R1.get e1;obtain⟨x',ex',rx'⟩:=R2.get e2;obtain rfl:=aU (ex.symm.trans ex');obtain⟨hx,hd⟩:=sT x (eP ex);refine Hk ((ue hx).mpr rfl▸(Eo (A:=c.A.in1) 90 (ak (vT _ _) hd) hx hx rx rx' rU.im (by have:=rd.rm.2.1;show c.A.units+1+90<9900;lia)).1) (EU hx rx) fun _=>rfl
 ·rw[iJ.mpr fun _ _=>rfl];exact o9 (bb false (z3.go rU) (Ov.trans (Z.ez (aC.refl _) (aA.refl _))) rfl)
end
noncomputable def ta:List Addr:=[302,767]
def FZ:List Nat:=[72,47,164,477,719]++(yk.flatMap fun p=>[p.1,p.1-1])++List.range 811
theorem aeG:FZ.all (fun a=>decide (a<811))=true:=by kernel_rfl
noncomputable def qj(T:BT):Frag:=FZ.filterMap fun a=>if ta.contains a then none else ((T.get a).bind alive).map fun o=>(a,o)
theorem acZ{f:Nat->Option Obj}:∀ {l:List Nat}{a:Addr}{o:Obj},(l.filterMap fun a=>(f a).map fun o=>(a,o)).lookup a=some o->a∈l/\f a=some o:=by
 intro l;induction l with
 |nil=>exact fun h=>ck h
 |cons b l ih=>
  intro a o h;rw[CM]at h;cases e:f b with
  |none=>rw[e]at h;exact⟨.tail _ (ih h).1,(ih h).2⟩
  |some p=>
   rw[e]at h;have h2:List.lookup a ((b,p) :: l.filterMap fun a=>(f a).map fun o=>(a,o))=some o:=h;rw[f5]at h2;cases q:a==b with
   |true=>
    rw[q]at h2;obtain rfl:=eq_of_beq q;exact⟨.head _,e.trans h2⟩
   |false=>rw[q]at h2;exact⟨.tail _ (ih h2).1,(ih h2).2⟩
def kF(T:BT)(a:Addr):Option Obj:=if ta.contains a then none else (T.get a).bind alive
theorem adU(T:BT):qj T=FZ.filterMap fun a=>(kF T a).map fun o=>(a,o):=by
 unfold qj kF;congr 1;funext a;cases ta.contains a<;>rfl
theorem adT{life:Life}(h:(qj T).lookup a=some o):(absHeap T 811 life).get? a=some o/\a∉ta:=by
 rw[adU]at h;obtain⟨h1,h2⟩:=acZ h;unfold kF at h2;cases e:ta.contains a with
 |true=>rw[if_pos e]at h2;exact ck h2
 |false=>
  rw[if_neg (by rw[e];exact k6)]at h2;obtain⟨p,hp,ha⟩:=f6.mp h2;exact⟨(abs_get (of_decide_eq_true (iJ.mp aeG a h1)) hp).trans ha,fun q=>by rw[tW.mpr q]at e;cases e⟩
noncomputable def ug(K:Frag)(a:Addr):Option (Array Value):=(K.lookup a).bind fun o=>if o.cls==.type "tuple" then (match o.data with|.seq xs _=>some xs|_=>none) else none
mutual
noncomputable def El(K:Frag):V->Value->Bool
 |.none,v=>v==.none
 |.bool b,v=>v==.bool b
 |.int i,v=>(match v with|.int j _=>decide (j=i)|_=>false)
 |.str l,v=>(match v with|.str s _=>s==S l|_=>false)
 |.tup l,v=>(match v with|.ref a=>(ug K a).any fun xs=>p_ K l xs.toList|_=>false)
 |.fn a,v=>v==.ref a
 |.bi n,v=>v==n.v
 |_,_=>false
noncomputable def p_(K:Frag):List V->List Value->Bool
 |[],vs=>vs.isEmpty
 |x :: r,vs=>(match vs with|v :: ws=>El K x v&&p_ K r ws|[]=>false)
end
theorem K8{K:Frag}{I:Im}(hI:∀ a o,K.lookup a=some o->I a=some o){a:Addr}{xs:Array Value}(h:ug K a=some xs):mu I a xs.toList:=by
 obtain⟨o,h1,h2⟩:=f6.mp h;cases e:o.cls==.type "tuple" with
 |false=>rw[e]at h2;exact ck h2
 |true=>
  rw[e]at h2;have h2:(match o.data with|.seq xs _=>some xs|_=>none)=some xs:=h2;cases d:o.data with
  |seq ys n=>rw[d]at h2;obtain rfl:=aU h2;exact⟨o,n,hI _ _ h1,eq_of_beq e,by rw[d,Vk]⟩
  |_=>rw[d]at h2;exact ck h2
mutual
theorem MP{G:GI}{K:Frag}{I:Im}{U:List Loc}(hI:∀ a o,K.lookup a=some o->I a=some o):∀ {x:V}{v:Value},El K x v=true->ao G I U x v
 |.none,_=>fun h=>eq_of_beq h
 |.bool _,_=>fun h=>eq_of_beq h
 |.int i,v=>fun h=>by cases v with
  |int j t=>exact Exists.intro t (congrArg (Value.int · t) (of_decide_eq_true h))
  |_=>exact nf h
 |.str i,v=>fun h=>by cases v with
  |str j t=>exact Exists.intro t (congrArg (Value.str · t) (eq_of_beq h))
  |_=>exact nf h
 |.tup l,v=>fun h=>by cases v with
  |ref a=>
   have h:(ug K a).any (fun xs=>p_ K l xs.toList)=true:=h;cases e:ug K a with
   |none=>rw[e]at h;exact nf h
   |some xs=>rw[e]at h;exact Exists.intro a ⟨xs.toList,rfl,K8 hI e,zZ hI h⟩
  |_=>exact nf h
 |.fn _,_=>fun h=>eq_of_beq h
 |.bi _,_=>fun h=>eq_of_beq h
 |.obj _ _,_=>fun h=>nf h
 |.ref _,_=>fun h=>nf h
 |.cz _ _,_=>fun h=>nf h
 |.gZ _ _,_=>fun h=>nf h
 |.eC _,_=>fun h=>nf h
 |.lam,_=>fun h=>nf h
 |.fE,_=>fun h=>nf h
theorem zZ{G:GI}{K:Frag}{I:Im}{U:List Loc}(hI:∀ a o,K.lookup a=some o->I a=some o):∀ {l:List V}{vs:List Value},p_ K l vs=true->av G I U l vs
 |[],vs=>fun h=>g_.mp h
 |x :: r,vs=>fun h=>by cases vs with
  |nil=>exact nf h
  |cons v ws=>
   obtain⟨h1,h2⟩:=aM.mp h;exact Exists.intro v ⟨ws,rfl,MP hI h1,zZ hI h2⟩
end
noncomputable def AO:List (List Nat)->List DictEntry->Bool
 |[],es=>es.isEmpty
 |k :: ks,es=>(match es with|e :: es=>e.key.isStrOf (S k)&&AO ks es|[]=>false)
noncomputable def qN(o:Obj):List DictEntry:=match o.data with
 |.dict es _=>es.toList
 |_=>[]
noncomputable def O5(o:Obj):Bool:=o.cls==.type "dict"&&o.dict.isNone&&o.slots.isEmpty&&(match o.data with|.dict _ _=>true|_=>false)
def Sz(K:Frag)(y:V)(v:Value):Bool:=match y,v with
 |.cz ks vs,.ref a=>(K.lookup a).any fun o=>O5 o&&AO ks (qN o)&&p_ K vs ((qN o).map (·.val))&&decide (ks.map S).Nodup&&!(a==sysModules)
 |_,_=>false
def FV(K:Frag)(v:Value):List Int:=match v with
 |.ref a=>((K.lookup a).elim [] qN).map (·.hash)
 |_=>[]
def FU(w:World)(y:V):List Int:=match y with
 |.cz ks _=>ks.map fun k=>hashStr w (S k)
 |_=>[]
theorem Su{prog:Program}:∀ {ks:List (List Nat)}{es:List DictEntry},AO ks es=true->es.map (·.hash)=(ks.map fun k=>hashStr w (S k)) ->
  (∀ e∈es,∃ k,(strKind prog w).is k e.key=true/\e.hash=(strKind prog w).hash k)/\Pairs (strKind prog w) es ((ks.map S).zip (es.map (·.val)))/\es.length=ks.length
 |[],es=>fun h _=>by
  obtain rfl:=g_.mp h;exact⟨fun e m=>absurd m q_,.nil,rfl⟩
 |k :: ks,[]=>fun h _=>nf h
 |k :: ks,e :: es=>fun h hh=>by
  obtain⟨h1,h2⟩:=aM.mp h;obtain⟨e1,e2⟩:=Ir hh;obtain⟨a1,a2,a3⟩:=Su (prog:=prog) h2 e2;exact⟨fun e' m=>(bY.mp m).elim (fun q=>q▸⟨S k,h1,e1⟩) (a1 e'),.cons h1 rfl a2,congrArg (·+1) a3⟩
theorem ago{G:GI}{K:Frag}{I:Im}{U:List Loc}(hI:∀ a o,K.lookup a=some o->I a=some o){y:V}{v:Value}(h:Sz K y v=true)(hh:FV K v=FU G.w y):ao G I U y v:=by
 cases y with
 |cz ks vs=>cases v with
  |ref a=>
   have h:(K.lookup a).any (fun o=>O5 o&&AO ks (qN o)&&p_ K vs ((qN o).map (·.val))&&decide (ks.map S).Nodup&&!(a==sysModules))=true:=h;have hh:((K.lookup a).elim [] qN).map (·.hash)=ks.map fun k=>hashStr G.w (S k):=hh;cases e:K.lookup a with
   |none=>rw[e]at h;exact nf h
   |some o=>
    rw[e]at h hh;obtain⟨h,h5⟩:=aM.mp h;obtain⟨h,h4⟩:=aM.mp h;obtain⟨h,h3⟩:=aM.mp h;obtain⟨h1,h2⟩:=aM.mp h;obtain⟨h1,d4⟩:=aM.mp h1;obtain⟨h1,d3⟩:=aM.mp h1;obtain⟨d1,d2⟩:=aM.mp h1;obtain⟨a1,a2,a3⟩:=Su (prog:=G.prog) h2 hh;cases d:o.data with
    |dict es ep=>
     have ee:qN o=es.toList:=by unfold qN;rw[d]
     rw[ee]at a1 a2 a3 h3;have hz:(ks.map S).length=(es.toList.map (·.val)).length:=by rw[f7,f7,a3]
     refine Exists.intro a ⟨o,(ks.map S).zip (es.toList.map (·.val)),rfl,hI _ _ e,q9 _ |>.mp h5,⟨es,ep,⟨eq_of_beq d1,CG.mp d2,Array.isEmpty_iff.mp d3⟩,d,fun x m=>a1 x (Array.mem_def.mp m),a2,?_⟩,?_,?_⟩
     ·rw[CN (eR hz)];exact of_decide_eq_true h4
     ·exact CN (eR hz)
     ·rw[I6 (eR hz.symm)];exact zZ hI h3
    |_=>rw[d]at d4;exact Bool.noConfusion (show false=true from d4)
  |_=>exact nf h
 |_=>exact nf h
noncomputable def codeB(cs:Scope)(cd:Value)(cn:Str):Bool:=((cs.names.lookup (Str.ofString "read_operand")).isNone||(cd==.ref 306&&cn==Str.ofString "read_primary"))&&((cs.names.lookup (Str.ofString "_law_reader")).isNone||(cd==.ref 771&&cn==Str.ofString "_law_read"))
noncomputable def fnAt(K:Frag)(a:Addr):Option FuncData:=(K.lookup a).bind fun o=>match o.data with
 |.func fd=>some fd
 |_=>none
def Hq(K:Frag)(v:Value):Option (List Value):=match v with
 |.none=>some []
 |.ref T=>(ug K T).map (·.toList)
 |_=>none
noncomputable def qQ(names:List (Str×NameKind)):List Str:=(names.filter fun y=>y.2==.cell).map (·.1)
theorem SV:∀ {names:List (Str×NameKind)}{n:Nat}{acc:List (Str×Addr)},qQ names=[]->cellsFrom n names acc=acc:=by
 intro names;induction names with
 |nil=>exact fun _=>rfl
 |cons y r ih=>
  obtain⟨x,k⟩:=y;intro n acc h;unfold qQ at h;rw[Iq]at h;show(if k==.cell then cellsFrom (n+1) r ((x,n) :: acc) else cellsFrom n r acc)=acc;cases e:k==.cell with
  |true=>rw[if_pos e]at h;cases h
  |false=>rw[if_neg (by rw[e];exact k6)]at h ⊢;exact ih h
theorem B5:∀ {names:List (Str×NameKind)},qQ names=[x]->∀ n,cellsFrom n names []=[(x,n)]:=by
 intro names;induction names with
 |nil=>exact fun h=>nomatch h
 |cons y r ih=>
  obtain⟨z,k⟩:=y;intro h n;unfold qQ at h;rw[Iq]at h;show(if k==.cell then cellsFrom (n+1) r [(z,n)] else cellsFrom n r [])=_;cases e:k==.cell with
  |true=>
   rw[if_pos e]at h;obtain⟨rfl,h2⟩:=Ir h;exact SV h2
  |false=>rw[if_neg (by rw[e];exact k6)]at h ⊢;exact ih h n
def HG(fp:aB)(names:List (Str×NameKind))(pn:List Str):Bool:=match qQ names with
 |[]=>decide (fp.eJ=0)&&fp.cm.all (! ·)
 |[x]=>(decide (fp.eJ=0)&&(pn.findIdx? (·==x)).any fun j=>decide (j<fp.np)&&decide (fp.cm=(List.range fp.cm.length).map fun i=>decide (i=j)))||(decide (fp.eJ=1)&&fp.cm.all (! ·)&&!pn.contains x&&decide (names.lookup x=some .cell))
 |_=>false
theorem all_false{l:List Bool}(h:l.all (! ·)=true):∀ b∈l,b=false:=fun b m=>q9 b |>.mp (iJ.mp h b m)
theorem agI{fp:aB}{names:List (Str×NameKind)}{pn:List Str}(h:HG fp names pn=true):C_ fp names pn:=by
 unfold HG at h;cases e:qQ names with
 |nil=>
  rw[e]at h;obtain⟨h1,h2⟩:=aM.mp h;exact .no (of_decide_eq_true h1) (all_false h2) fun n=>SV e
 |cons x r=>cases r with
  |cons=>rw[e]at h;exact nf h
  |nil=>
   rw[e]at h;rcases(vR _ _).mp h with h|h
   ·obtain⟨h1,h2⟩:=aM.mp h;cases q:pn.findIdx? (·==x)with
    |none=>rw[q]at h2;exact Bool.noConfusion (show false=true from h2)
    |some j=>
     rw[q]at h2;obtain⟨h2,h3⟩:=aM.mp (show(decide (j<fp.np)&&decide (fp.cm=(List.range fp.cm.length).map fun i=>decide (i=j)))=true from h2);obtain⟨aP,hb,_⟩:=zg.mp q;refine .par j x (of_decide_eq_true h1) (of_decide_eq_true h2) (fun i b hi=>?_) (by rw[dw aP,eq_of_beq hb]) (B5 e);rw[of_decide_eq_true h3,eS]at hi
     obtain⟨i',hi2,rfl⟩:=eO.mp hi;obtain⟨hl,rfl⟩:=aX.mp hi2;rw[Vz]
   ·obtain⟨h,h4⟩:=aM.mp h;obtain⟨h,h3⟩:=aM.mp h;obtain⟨h1,h2⟩:=aM.mp h;exact .own x (of_decide_eq_true h1) (all_false h2) (fun m=>by rw[tW.mpr m]at h3;cases h3) (of_decide_eq_true h4) (B5 e)
def yl(K:Frag)(fp:aB)(fd:FuncData):Bool:=
 (Ez fd.params&&fd.closure.isEmpty&&decide (fd.globals=mainGlobals)&&decide (fd.builtins=builtinsNs)&&codeIn K fd.code fd.qualname&&codeB fd.scope fd.code fd.qualname&&(Hq K fd.defaults).any fun ds=>p_ K fp.dY ds) &&
 (decide ((fd.params.args.map (·.arg)).length=fp.np/\fp.cm.length=fp.np/\fp.dY.length<=fp.np/\fd.scope.names.take fp.np=List.zipWith (fun x b=>(x,if b then NameKind.cell else .local)) (fd.params.args.map (·.arg)) fp.cm/\(fd.scope.names.map (·.1)).Nodup/\(fd.params.args.map (·.arg)).Nodup /\
  fd.scope.kind=.function/\fd.scope.isCoroutine=false/\fd.scope.isGenerator=false))&&HG fp fd.scope.names (fd.params.args.map (·.arg))
theorem afw{K:Frag}{a:Addr}{fd:FuncData}(h:fnAt K a=some fd):∃ o,K.lookup a=some o/\o.data=.func fd:=by
 obtain⟨o,e1,e2⟩:=f6.mp h;cases d:o.data with
 |func fd'=>rw[d]at e2;obtain rfl:=aU e2;exact⟨o,e1,d⟩
 |_=>rw[d]at e2;exact ck e2
theorem agj{K:Frag}{h:Heap}(X:K.In h){fd:FuncData}{ds:List Value}(e:Hq K fd.defaults=some ds):zt h fd ds:=by
 cases q:fd.defaults with
 |none=>rw[q]at e;obtain rfl:=aU e;exact .no q
 |ref T=>
  rw[q]at e;obtain⟨xs,e1,rfl⟩:=eO.mp (show(ug K T).map (·.toList)=some ds from e);obtain⟨o,n,h1,_,h3⟩:=K8 (I:=fun a=>h.get? a) X e1;rw[Vk]at h3;exact .tup T o xs n q h1 h3
 |_=>rw[q]at e;exact ck e
theorem abW(h1:pn.length=fp.np)(h2:fp.cm.length=fp.np)(h4:sc.names.take fp.np=List.zipWith (fun x b=>(x,if b then NameKind.cell else .local)) pn fp.cm)(h5:(sc.names.map (·.1)).Nodup):nP fp sc pn where
 len:=h1
 cm:=h2
 names i x b e1 e2:=by
  have hi:=(aX.mp e1).1;have e:(sc.names.take fp.np)[i]?=some (x,if b then NameKind.cell else .local):=by rw[h4,Vy,e1,e2]<;>rfl
  rwa[wc (h1▸hi)]at e
 nd:=h5
theorem adR{K:Frag}{a:Addr}{o:Obj}{fd:FuncData}(h:K.lookup a=some o)(hd:o.data=.func fd):keepIn K (.ref a)=true:=by
 obtain⟨x1,x2,x3,x4⟩:=o;have hd:x3=.func fd:=hd;subst hd;unfold keepIn;dsimp only;rw[h]
theorem Q3{G:GI}(hc:∀ cs cd cn,codeB cs cd cn=true->G.codeOk cs cd cn)(X:G.K.In G.H){a:Addr}{fp:aB}{fd:FuncData}{body:List Stmt}(h1:fnAt G.K a=some fd)(h2:fd.body=.stmts body)(h:yl G.K fp fd=true):rE G a fp fd body:=by
 obtain⟨o,ho,hd⟩:=afw h1;obtain⟨h,c9⟩:=aM.mp h;obtain⟨h,c8⟩:=aM.mp h;obtain⟨h,c7⟩:=aM.mp h;obtain⟨h,c6⟩:=aM.mp h;obtain⟨h,c5⟩:=aM.mp h;obtain⟨h,c4⟩:=aM.mp h;obtain⟨h,c3⟩:=aM.mp h;obtain⟨c1,c2⟩:=aM.mp h;obtain⟨n1,n2,n3,n4,n5,n6,k1,k2,k3⟩:=of_decide_eq_true c8
 have c3:=of_decide_eq_true c3;have c4:=of_decide_eq_true c4;have c2:=g_.mp c2;cases hv:Hq G.K fd.defaults with
 |none=>rw[hv]at c7;exact Bool.noConfusion (show false=true from c7)
 |some ds=>
 rw[hv]at c7;have c7:p_ G.K fp.dY ds=true:=c7;have hr:∀ I U,aC (fun a=>G.H.get? a) I->av G I U fp.dY ds:=fun I U i=>zZ (fun a o e=>i a o (X a o e)) c7;have hl:ds.length=fp.dY.length:=(hr _ [] (aC.refl _)).length;refine .mk o (fd.params.args.map (·.arg)) ds (adR ho hd) ho hd h2 (fun L=>?_) c2 c5 (hc _ _ _ c6) (fun s vs hK h5 h6=>?_) hr n3 (abW n1 n2 n4 n5) (agI c9) k1 k2 k3
 ·show newEnv fd.scope L fd.globals _ _ _ _ none fd.builtins=_;rw[c3,c4]<;>rfl
 ·rw[<-n1]at h5;rw[<-n1,<-hl]at h6;rw[<-n1,<-hl];exact ag9 c1 rfl n6 (agj hK hv) h5 h6 (by rw[hl,n1];exact n3)
noncomputable def lJ(K:Frag)(x:String):Option (Option Value):=nsIn K mainGlobals (Str.ofString x)
def B2(K:Frag)(c:Cl):Bool:=
 plainGet K (bG c) (Str.ofString "")&&hasDictIn K (bG c)&&(ec c).all (fun n=>findIn K (.ref (bG c)) n.s==some none&&takerIn K (bG c) n.s==some none) &&
 findIn K (.ref (bG c)) (Str.ofString "__setattr__")==some (some (.builtin "object.__setattr__"))&&plainOver K (bG c)&&yS.all (fun n=>(m8 c n).all fun a=>findIn K (.ref (bG c)) n.s==some (some (.ref a))&&isFn K (.ref a)) &&
 makesIn K (bG c)&&findIn K (.ref (bG c)) (Str.ofString "__init__")==some (some (.ref (qo c)))&&typeIn K (.ref (qo c))==some (.type "function")&&keepIn K (.ref (bG c))
def td(K:Frag)(x:String):Value:=((lJ K x).getD none).getD .none
def QI(K:Frag)(p:String×V):Bool:=lJ K p.1==some (some (td K p.1))&&(El K p.2 (td K p.1)||Sz K p.2 (td K p.1))
def kW(K:Frag)(x:String)(v:Value):Bool:=lJ K x==some none&&bootBuiltins (Str.ofString x)==some v&&!(Str.ofString x==Str.ofString "__name__")
def E3(K:Frag):Bool:=
 lJ K "reversed"==some none&&kW K "range" (.type "range")&&kW K "enumerate" (.type "enumerate")&&kW K "sorted" (.builtin "sorted")&&kW K "repr" (.builtin "repr") &&
 mroIn K d_ (.type "BaseException")==some true&&typeIn K (.ref d_)==some (.type "type")&&exmOne K (.ref d_) (.ref d_)==some true &&
 codeIn K (.ref 36) (Str.ofString "LedgerError.__init__")&&lJ K "Exception"==some none&&keepIn K (.ref d_) &&
 codeHdIn K 306 302&&codeHdIn K 771 767
noncomputable def pU:List Nat:=[307,772,784,810]
def GP:List (Nat×aB):=yk.filter fun p=>!pU.contains p.1
def g9(cs:Scope):CE:=tB cs (fun _=>none) (fun _=>none) (fun _=>none)
def SM(K:Frag)(a:Nat):Option (List PS):=(fnAt K a).bind fun fd=>match fd.body with
 |.stmts b=>some (jB (g9 fd.scope) 40 b)
 |_=>none
def vo:List (String×V):=te.take 61++te.drop 62
theorem afe:te=te.take 61++("RESERVED",yg) :: te.drop 62:=by kernel_rfl
theorem aff(h:p∈te):p∈vo∨p=("RESERVED",yg):=by
 rw[afe]at h;rcases hU.mp h with h|h
 ·exact .inl (vW _ h)
 ·exact(bY.mp h).elim .inr fun h=>.inl (fb _ h)
def zY(K:Frag):Option Str:=match lJ K "RESERVED" with
 |some (some (.str s _))=>some s
 |_=>none
def TY(K:Frag):Bool:=([Cl.token,.reader,.fu].all (B2 K)&&vo.all (QI K)&&HS.all fun p=>kW K p.1 p.2.v)&&E3 K
def TV(K:Frag):Bool:=yk.all fun p=>(fnAt K p.1).any (yl K p.2)
def allB(K:Frag):Bool:=TY K&&TV K
noncomputable def hW(w:World)(l:List (String×Nat×Value))(i:Nat):Int:=hashStr w (Str.ofString ((l[i]?.map (·.1)).getD ""))
def DY(i:Nat):Option (FuncBody×Scope):=(mK[i]?.bind fdOf).map fun x=>(.stmts x.2.1,x.2.2)
def B4(K:Frag):=(allB K,vo.map (fun p=>FV K (td K p.1)),GP.map (fun p=>SM K p.1),pU.map (fun a=>(fnAt K a).map fun fd=>(fd.body,fd.scope)),(K.lookup 72,K.lookup 47,K.lookup 71,K.lookup 46,K.lookup 37,K.lookup 30),findCls K (.type "Exception") (.type "type") (Str.ofString "__init__"),zY K)
def vq(w:World):Bool×List (List Int)×List (Option (List PS))×List (Option (FuncBody×Scope))×(Option Obj×Option Obj×Option Obj×Option Obj×Option Obj×Option Obj)×Option CFound×Option Str:=
 (true,vo.map (fun p=>FU w p.2),GP.map (fun p=>some p.2.body),[47,87,89,93].map DY,(some bM,some ie,some (dI (hW w ik) ik 2),some (dI (hW w il) il 3),some qd,some sy),some (.val (.builtin "Exception.__init__")),some mH)
noncomputable def Lo(T:BT):=((T.get 302).bind alive,(T.get 767).bind alive)
noncomputable def ib:Obj:={ cls:=.none,data:=.fields #[] }
noncomputable abbrev wF(w:World)(b:Bool):World:=w.withFollow "special-get-raises" b
def wW(w:World)(r:Rt):=(HD w r,r.2.1.n,B4 (qj r.2.1.tree),Lo r.2.1.tree)
def yf(w:World):=((true,openGood qv lo),811,vq w,some ib,some ib)
def zV(w:World)(r:Rt):=(HD w r,r.2.1.n,Lo r.2.1.tree)
def GA:=((true,openGood qv lo),811,some ib,some ib)
def Mu(r:Rt):=TY (qj r.2.1.tree)
def Ms(r:Rt):=TV (qj r.2.1.tree)
def Mt(r:Rt):=(B4 (qj r.2.1.tree)).2
def Ed(w:World)(r:Rt):=(zV w r,Mu r)
def Ec(r:Rt):=(Ms r,Mt r)
theorem M0{w:World}{o:Option Rt}(h1:o.map (Ed w)=some (GA,true))(h2:o.map Ec=some (true,(vq w).2)):o.map (wW w)=some (yf w):=by
 cases o with
 |none=>exact ck h1
 |some r=>
  obtain⟨hA,hB⟩:=eD (aU h1);obtain⟨hD,hC⟩:=eD (aU h2);show some ((zV w r).1,(zV w r).2.1,(Mu r&&Ms r,Mt r),(zV w r).2.2)=_;rw[hA,hB,hD,hC];rfl
theorem aaw(w:World)(os:OsState):(top (wF w false) os).map (Ed (wF w false))=some (GA,true):=by kernel_rfl
theorem aav(w:World)(os:OsState):(top (wF w true) os).map (Ed (wF w true))=some (GA,true):=by kernel_rfl
theorem aau(w:World)(os:OsState):(top (wF w false) os).map Ec=some (true,(vq (wF w false)).2):=by kernel_rfl
theorem aat(w:World)(os:OsState):(top (wF w true) os).map Ec=some (true,(vq (wF w true)).2):=by kernel_rfl
theorem run(w:World)(os:OsState):(top w os).map (wW w)=some (yf w):=
 byRow2 "special-get-raises" (P:=fun w=>(top w os).map (wW w)=some (yf w)) (fun w=>M0 (aaw w os) (aau w os)) (fun w=>M0 (aav w os) (aat w os)) w
def Qk.T:Qk->Type
 |.v=>Except Nat V×LC
 |.w=>Except Nat Bool×LC
 |.u=>Except Nat Unit×LC
 |.m=>V×Bool
 |.x=>Except Nat Fl×LV×LC
 |.t=>Bool
 |.s=>LC
inductive Tr(R:Type) where
 |ret (r:R)
 |none
 |q (κ:Qk) (o:Option κ.T) (k:κ.T->Tr R)
noncomputable def Tr.bind{R S:Type}:Tr R->(R->Tr S)->Tr S
 |.ret r,f=>f r
 |.none,_=>.none
 |.q κ o k,f=>.q κ o fun a=>(k a).bind f
noncomputable def Tr.run{R:Type}:Tr R->Option R
 |.ret r=>some r
 |.none=>Option.none
 |.q _ o k=>o.bind fun a=>(k a).run
theorem run_bind{R S:Type}(f:R->Tr S):∀ t:Tr R,(t.bind f).run=t.run.bind fun r=>(f r).run
 |.ret r=>rfl
 |.none=>rfl
 |.q κ o k=>by
  cases o with
  |none=>rfl
  |some a=>exact run_bind f (k a)
inductive Fact where
 |c
 |o (κ:Qk) (o:Option κ.T) (a:κ.T) (h:o=some a)
noncomputable abbrev Fact.v{o:Out V}{r:Except Nat V}{J:LC}(h:o=some (r,J)):Fact:=.o .v o (r,J) h
noncomputable abbrev Fact.w{o:Out Bool}{r:Except Nat Bool}{J:LC}(h:o=some (r,J)):Fact:=.o .w o (r,J) h
noncomputable abbrev Fact.u{o:Out Unit}{r:Except Nat Unit}{J:LC}(h:o=some (r,J)):Fact:=.o .u o (r,J) h
noncomputable abbrev Fact.m{o:Option (V×Bool)}{r:V×Bool}(h:o=some r):Fact:=.o .m o r h
noncomputable abbrev Fact.x{o:rk}{r:Except Nat Fl×LV×LC}(h:o=some r):Fact:=.o .x o r h
noncomputable abbrev Fact.b{b r:Bool}(h:b=r):Fact:=.o .t (some b) r (congrArg some h)
noncomputable abbrev Fact.s{J J':LC}(h:J=J'):Fact:=.o .s (some J) J' (congrArg some h)
abbrev Kt:=(κ:Qk)×Option κ.T
noncomputable def nG:List Fact->List Kt
 |[]=>[]
 |f :: fs=>match f with
  |.c=>nG fs
  |.o κ o _ _=>⟨κ,o⟩ :: nG fs
noncomputable def fq{R:Type}:List Fact->Tr R->Option (List Kt×R)
 |[],t=>match t with
  |.ret r=>some ([],r)
  |_=>Option.none
 |f :: fs,t=>match t with
  |.q κ o k=>match f with
   |.c=>o.bind fun a=>fq fs (k a)
   |.o t_ _ a _=>if e:t_=κ then (fq fs (k (e▸a))).map fun p=>(⟨κ,o⟩ :: p.1,p.2) else Option.none
  |_=>Option.none
theorem yh{R:Type}{r:R}{fs:List Fact}:∀ {t:Tr R},fq fs t=some (nG fs,r)->t.run=some r:=by
 induction fs with
 |nil=>
  intro t h;cases t with
  |ret=>cases h;rfl
  |_=>cases h
 |cons f fs ih=>
  intro t h;cases t with
  |q κ o k=>
   cases f with
   |c=>
    obtain⟨a,rfl,h'⟩:=f6.mp h;exact ih (t:=k a) h'
   |o t_ o' a ho=>
    have h:(if e:t_=κ then (fq fs (k (e▸a))).map fun p=>(⟨κ,o⟩ :: p.1,p.2) else Option.none)=some (⟨t_,o'⟩ :: nG fs,r):=h;split at h
    ·rename_i e;subst e;obtain⟨p,h1,h2⟩:=eO.mp h;obtain⟨e3,e4⟩:=Ir (congrArg Prod.fst h2:(⟨t_,o⟩ :: p.1:List Kt)=⟨t_,o'⟩ :: nG fs);have e5:o=o':=eq_of_heq (Sigma.mk.inj e3).2;show o.bind _=_;rw[e5,ho];exact ih (t:=k a) (h1.trans (congrArg some (Prod.ext e4 (congrArg Prod.snd h2:p.2=r))))
    ·cases h
  |_=>cases h
abbrev TE(α:Type):=LC->Tr (Except Nat α×LC)
noncomputable def TE.ret{α:Type}(a:α):TE α:=fun J=>.ret (.ok a,J)
noncomputable def TE.fail{α:Type}:TE α:=fun _=>.none
noncomputable def TE.go{α β:Type}(f:α->TE β)(p:Except Nat α×LC):Tr (Except Nat β×LC):=match p.1 with
 |.ok a=>f a p.2
 |.error i=>.ret (.error i,p.2)
def TE.bind{α β:Type}(m:TE α)(f:α->TE β):TE β:=fun J=>(m J).bind (TE.go f)
noncomputable def iR(m:Ev V):TE V:=fun J=>.q .v (m J) .ret
noncomputable def N_(m:Ev Bool):TE Bool:=fun J=>.q .w (m J) .ret
noncomputable def Fg(m:Ev Unit):TE Unit:=fun J=>.q .u (m J) .ret
noncomputable def qX(b:Bool):TE Bool:=fun J=>.q .t (some b) fun r=>.ret (.ok r,J)
def qc{α β:Type}(o:Option α)(f:α->TE β):TE β:=match o with
 |some a=>f a
 |none=>TE.fail
def Gz{α:Type}(b:Bool)(f:TE α):TE α:=match b with
 |true=>f
 |false=>TE.fail
def S7(x:V)(f:Bool->TE Bool):TE Bool:=qc (Ib x) f
def intD{α:Type}(x:V)(f:Int->TE α):TE α:=qc (tF x) f
def wH{α:Type}(x:V)(f:List Nat->TE α):TE α:=qc (Cg x) f
def newD(l:List V):TE V:=Gz (short l) fun J=>.ret (.ok (.ref J.length),J++[.lst l])
def lr(x:V):TE Bool:=(N_ (gh x)).bind qX
def E5(O:ay)(x:V)(n:Nm)(m:TE (List V)):TE V:=fun J=>.q .m (bU J x n) fun p=>(m.bind fun vs=>iR (mi O p.1 (cond p.2 (x :: vs) vs))) J
mutual
noncomputable def bp(O:ay)(lv:LV)(cv:LV):PE->TE V
 |.none=>TE.ret .none
 |.bool b=>TE.ret (.bool b)
 |.int i=>TE.ret (.int i)
 |.str l=>TE.ret (.str l)
 |.loc i=>qc (lv[i]?.join) TE.ret
 |.cvar i=>qc (cv[i]?.join) TE.ret
 |.glob v=>TE.ret v
 |.tup l=>(evalLT O lv cv l).bind fun vs=>Gz (short vs) (TE.ret (.tup vs))
 |.list l=>(evalLT O lv cv l).bind newD
 |.bin o a b=>(bp O lv cv a).bind fun x=>(bp O lv cv b).bind fun y=>iR (c_ o x y)
 |.neg a=>(bp O lv cv a).bind fun x=>intD x fun i=>TE.ret (.int (-i))
 |.not a=>(bp O lv cv a).bind fun x=>(lr x).bind fun b=>TE.ret (.bool !b)
 |.and l=>He O lv cv l
 |.or l=>Hc O lv cv l
 |.cmp o a b=>(bp O lv cv a).bind fun x=>(bp O lv cv b).bind fun y=>iR (bj o x y)
 |.o4 _ _ _=>TE.fail
 |.ite t a b=>(rO O lv cv t).bind fun r=>cond r (bp O lv cv a) (bp O lv cv b)
 |.idx a i=>(bp O lv cv a).bind fun x=>(bp O lv cv i).bind fun y=>iR (eM x y)
 |.sl a lo hi=>(bp O lv cv a).bind fun x=>(bp O lv cv lo).bind fun y=>(bp O lv cv hi).bind fun z=>iR (dA x y z)
 |.attr a n=>(bp O lv cv a).bind fun x=>iR (bB x n)
 |.call f as=>(bp O lv cv f).bind fun g=>(evalLT O lv cv as).bind fun vs=>iR (mi O g vs)
 |.ai a n as=>(bp O lv cv a).bind fun x=>E5 O x n (evalLT O lv cv as)
 |.nE ks vs=>TE.ret (.cz ks vs)
 |.qO ks vs=>TE.ret (.gZ ks vs)
 |.joinRev sep a=>(bp O lv cv a).bind fun x=>iR (m_ sep x)
 |.oy=>TE.ret .fE
 |.tv=>TE.ret .fE
 |.ou=>TE.ret .lam
 |.nX a b=>(bp O lv cv a).bind fun x=>(bp O lv cv b).bind fun y=>iR (mD x y)
 |.BY a b=>(bp O lv cv a).bind fun x=>(bp O lv cv b).bind fun y=>iR (yE x y)
 |.yF _ _=>TE.fail
noncomputable def evalLT(O:ay)(lv:LV)(cv:LV):List PE->TE (List V)
 |[]=>TE.ret []
 |e :: r=>(bp O lv cv e).bind fun x=>(evalLT O lv cv r).bind fun xs=>TE.ret (x :: xs)
noncomputable def He(O:ay)(lv:LV)(cv:LV):List PE->TE V
 |[]=>TE.fail
 |e :: r=>match r with
  |[]=>bp O lv cv e
  |_ :: _=>(bp O lv cv e).bind fun x=>(lr x).bind fun b=>cond b (He O lv cv r) (TE.ret x)
noncomputable def Hc(O:ay)(lv:LV)(cv:LV):List PE->TE V
 |[]=>TE.fail
 |e :: r=>match r with
  |[]=>bp O lv cv e
  |_ :: _=>(bp O lv cv e).bind fun x=>(lr x).bind fun b=>cond b (TE.ret x) (Hc O lv cv r)
noncomputable def rO(O:ay)(lv:LV)(cv:LV):PE->TE Bool
 |.not a=>(rO O lv cv a).bind fun b=>TE.ret !b
 |.and l=>DB O lv cv l
 |.or l=>DA O lv cv l
 |.ite _ _ _=>TE.fail
 |.cmp o a b=>((bp O lv cv a).bind fun x=>(bp O lv cv b).bind fun y=>iR (bj o x y)).bind fun z=>S7 z qX
 |.bool b=>TE.ret b
 |.o4 a b c=>(bp O lv cv a).bind fun x=>(bp O lv cv b).bind fun y=>wH x fun p=>wH y fun q=>(qX (decide (q<p))).bind fun t=>cond t (TE.ret false) ((bp O lv cv c).bind fun z=>wH z fun r=>qX (!decide (r<q)))
 |.loc i=>(qc (lv[i]?.join) TE.ret).bind lr
 |.attr a n=>((bp O lv cv a).bind fun x=>iR (bB x n)).bind lr
 |.call f as=>((bp O lv cv f).bind fun g=>(evalLT O lv cv as).bind fun vs=>iR (mi O g vs)).bind lr
 |.ai a n as=>((bp O lv cv a).bind fun x=>E5 O x n (evalLT O lv cv as)).bind lr
 |.nX a b=>((bp O lv cv a).bind fun x=>(bp O lv cv b).bind fun y=>iR (mD x y)).bind lr
 |_=>TE.fail
noncomputable def DB(O:ay)(lv:LV)(cv:LV):List PE->TE Bool
 |[]=>TE.ret true
 |e :: r=>(rO O lv cv e).bind fun b=>cond b (DB O lv cv r) (TE.ret false)
noncomputable def DA(O:ay)(lv:LV)(cv:LV):List PE->TE Bool
 |[]=>TE.ret false
 |e :: r=>(rO O lv cv e).bind fun b=>cond b (TE.ret true) (DA O lv cv r)
end
def ar{α:Type}(m:TE α)(e:Ev α):Prop:=∀ J,(m J).run=e J
theorem ar.lift{κ:Qk}{o:Option κ.T}:(Tr.q κ o .ret).run=o:=by cases o<;>rfl
theorem ar.bind{α β:Type}{m:TE α}{e:Ev α}{f:α->TE β}{g:α->Ev β}(h:ar m e)(h':∀ a,ar (f a) (g a)):ar (m.bind f) (e.bind g):=fun J=>by
 show((m J).bind (TE.go f)).run=_;rw[run_bind,h J];unfold Ev.bind;cases e J with
 |none=>rfl
 |some p=>
  obtain⟨r,J'⟩:=p;cases r with
  |ok a=>exact h' a J'
  |error i=>rfl
theorem ar.ret{α:Type}{a:α}:ar (TE.ret a) (Ev.ret a):=fun _=>rfl
theorem ar.fail{α:Type}:ar (TE.fail (α:=α)) Ev.fail:=fun _=>rfl
theorem ar.jq{m:Ev V}:ar (iR m) m:=fun J=>ar.lift
theorem ar.liW{m:Ev Bool}:ar (N_ m) m:=fun J=>ar.lift
theorem ar.Oa{m:Ev Unit}:ar (Fg m) m:=fun J=>ar.lift
theorem ar.ask{b:Bool}:ar (qX b) (Ev.ret b):=fun _=>rfl
theorem ar.opt{α β:Type}{o:Option α}{f:α->TE β}{g:α->Ev β}(h:∀ a,ar (f a) (g a)):ar (qc o f) (aS o g):=by
 cases o with
 |none=>exact ar.fail
 |some a=>exact h a
theorem ar.aF{α:Type}{b:Bool}{f:TE α}{g:Ev α}(h:ar f g):ar (Gz b f) (aF b g):=by
 cases b with
 |true=>exact h
 |false=>exact ar.fail
theorem ar.cond{α:Type}{b:Bool}{f f':TE α}{g g':Ev α}(h:ar f g)(h':ar f' g'):ar (cond b f f') (cond b g g'):=by
 cases b with
 |true=>exact h
 |false=>exact h'
theorem ar.bool{x:V}:ar (S7 x qX) (Aj x Ev.ret):=ar.opt fun _=>ar.ask
theorem ar.int{α:Type}{x:V}{f:Int->TE α}{g:Int->Ev α}(h:∀ i,ar (f i) (g i)):ar (intD x f) (cT x g):=ar.opt h
theorem ar.str{α:Type}{x:V}{f:List Nat->TE α}{g:List Nat->Ev α}(h:∀ i,ar (f i) (g i)):ar (wH x f) (onStr x g):=ar.opt h
theorem aha{α:Type}(e:Ev α):e.bind Ev.ret=e:=by
 funext J;unfold Ev.bind;cases e J with
 |none=>rfl
 |some p=>obtain⟨r,J'⟩:=p;cases r<;>rfl
theorem ar.truth{x:V}:ar (lr x) (gh x):=fun J=>by
 have:=ar.bind (ar.liW (m:=gh x)) (fun b=>ar.ask (b:=b)) J;rwa[aha]at this
theorem ar.new{l:List V}:ar (newD l) (mY l):=ar.aF fun _=>rfl
theorem ar.ai{O:ay}{x:V}{n:Nm}{m:TE (List V)}{e:Ev (List V)}(h:ar m e):ar (E5 O x n m) (E6 O x n e):=fun J=>by
 show(Option.bind (bU J x n) _)=aS _ _ J;cases bU J x n with
 |none=>rfl
 |some p=>exact ar.bind h (fun vs=>ar.jq) J
section
variable {O:ay}{lv cv:LV}
theorem ar.aiK{m:TE V}{e:Ev V}{f:TE V}{g:Ev V}(h:ar m e)(h':ar f g):ar (m.bind fun x=>(lr x).bind fun b=>_root_.cond b f (TE.ret x)) (e.bind fun x=>(gh x).bind fun b=>_root_.cond b g (Ev.ret x)):=
 h.bind fun _=>ar.truth.bind fun _=>h'.cond ar.ret
theorem ar.orE{m:TE V}{e:Ev V}{f:TE V}{g:Ev V}(h:ar m e)(h':ar f g):ar (m.bind fun x=>(lr x).bind fun b=>_root_.cond b (TE.ret x) f) (e.bind fun x=>(gh x).bind fun b=>_root_.cond b (Ev.ret x) g):=
 h.bind fun _=>ar.truth.bind fun _=>ar.ret.cond h'
mutual
theorem bw:∀ e,ar (bp O lv cv e) (aO O lv cv e)
 |.none=>ar.ret
 |.bool _=>ar.ret
 |.int _=>ar.ret
 |.str _=>ar.ret
 |.loc _=>ar.opt fun _=>ar.ret
 |.cvar _=>ar.opt fun _=>ar.ret
 |.glob _=>ar.ret
 |.tup l=>(tr l).bind fun _=>ar.ret.aF
 |.list l=>(tr l).bind fun _=>ar.new
 |.bin _ a b=>(bw a).bind fun _=>(bw b).bind fun _=>ar.jq
 |.neg a=>(bw a).bind fun _=>ar.int fun _=>ar.ret
 |.not a=>(bw a).bind fun _=>ar.truth.bind fun _=>ar.ret
 |.and l=>R4 l
 |.or l=>R3 l
 |.cmp _ a b=>(bw a).bind fun _=>(bw b).bind fun _=>ar.jq
 |.o4 _ _ _=>ar.fail
 |.ite t a b=>(ui t).bind fun _=>(bw a).cond (bw b)
 |.idx a i=>(bw a).bind fun _=>(bw i).bind fun _=>ar.jq
 |.sl a lo hi=>(bw a).bind fun _=>(bw lo).bind fun _=>(bw hi).bind fun _=>ar.jq
 |.attr a _=>(bw a).bind fun _=>ar.jq
 |.call f as=>(bw f).bind fun _=>(tr as).bind fun _=>ar.jq
 |.ai a _ as=>(bw a).bind fun _=>ar.ai (tr as)
 |.nE _ _=>ar.ret
 |.qO _ _=>ar.ret
 |.joinRev _ a=>(bw a).bind fun _=>ar.jq
 |.oy=>ar.ret
 |.tv=>ar.ret
 |.ou=>ar.ret
 |.nX a b=>(bw a).bind fun _=>(bw b).bind fun _=>ar.jq
 |.BY a b=>(bw a).bind fun _=>(bw b).bind fun _=>ar.jq
 |.yF _ _=>ar.fail
theorem tr:∀ l,ar (evalLT O lv cv l) (oY O lv cv l)
 |[]=>ar.ret
 |e :: r=>(bw e).bind fun _=>(tr r).bind fun _=>ar.ret
theorem R4:∀ l,ar (He O lv cv l) (evalAnd O lv cv l)
 |[]=>ar.fail
 |[e]=>bw e
 |e :: e2 :: r=>(bw e).aiK (R4 (e2 :: r))
theorem R3:∀ l,ar (Hc O lv cv l) (evalOr O lv cv l)
 |[]=>ar.fail
 |[e]=>bw e
 |e :: e2 :: r=>(bw e).orE (R3 (e2 :: r))
theorem ui:∀ e,ar (rO O lv cv e) (dh O lv cv e)
 |.not a=>(ui a).bind fun _=>ar.ret
 |.and l=>Lm l
 |.or l=>Ll l
 |.ite _ _ _=>ar.fail
 |.cmp _ a b=>((bw a).bind fun _=>(bw b).bind fun _=>ar.jq).bind fun _=>ar.bool
 |.bool _=>ar.ret
 |.o4 a b c=>(bw a).bind fun _=>(bw b).bind fun _=>ar.str fun p=>ar.str fun q=>fun J=>by
   have h:ar ((qX (decide (q<p))).bind fun t=>cond t (TE.ret false) ((bp O lv cv c).bind fun z=>wH z fun r=>qX (!decide (r<q)))) ((Ev.ret (decide (q<p))).bind fun t=>cond t (Ev.ret false) ((aO O lv cv c).bind fun z=>onStr z fun r=>Ev.ret (!decide (r<q)))):=
    ar.ask.bind fun _=>ar.ret.cond ((bw c).bind fun _=>ar.str fun _=>ar.ask)
   exact h J
 |.loc _=>(ar.opt fun _=>ar.ret).bind fun _=>ar.truth
 |.attr a _=>((bw a).bind fun _=>ar.jq).bind fun _=>ar.truth
 |.call f as=>((bw f).bind fun _=>(tr as).bind fun _=>ar.jq).bind fun _=>ar.truth
 |.ai a _ as=>((bw a).bind fun _=>ar.ai (tr as)).bind fun _=>ar.truth
 |.nX a b=>((bw a).bind fun _=>(bw b).bind fun _=>ar.jq).bind fun _=>ar.truth
 |.none=>ar.fail
 |.int _=>ar.fail
 |.str _=>ar.fail
 |.cvar _=>ar.fail
 |.glob _=>ar.fail
 |.tup _=>ar.fail
 |.list _=>ar.fail
 |.bin _ _ _=>ar.fail
 |.neg _=>ar.fail
 |.idx _ _=>ar.fail
 |.sl _ _ _=>ar.fail
 |.nE _ _=>ar.fail
 |.qO _ _=>ar.fail
 |.joinRev _ _=>ar.fail
 |.oy=>ar.fail
 |.tv=>ar.fail
 |.ou=>ar.fail
 |.BY _ _=>ar.fail
 |.yF _ _=>ar.fail
theorem Lm:∀ l,ar (DB O lv cv l) (zH O lv cv l)
 |[]=>ar.ret
 |e :: r=>(ui e).bind fun _=>(Lm r).cond ar.ret
theorem Ll:∀ l,ar (DA O lv cv l) (zG O lv cv l)
 |[]=>ar.ret
 |e :: r=>(ui e).bind fun _=>ar.ret.cond (Ll r)
end
end
abbrev TX:=LV->LC->Tr (Except Nat Fl×LV×LC)
noncomputable def TX.goE{α:Type}(f:α->TX)(lv:LV)(p:Except Nat α×LC):Tr (Except Nat Fl×LV×LC):=match p.1 with
 |.ok a=>f a lv p.2
 |.error i=>.ret (.error i,lv,p.2)
def TX.ev{α:Type}(m:TE α)(f:α->TX):TX:=fun lv J=>(m J).bind (TX.goE f lv)
noncomputable def TX.goS(f:TX)(p:Except Nat Fl×LV×LC):Tr (Except Nat Fl×LV×LC):=match p.1 with
 |.error i=>.ret (.error i,p.2)
 |.ok fl=>match fl with
  |.next=>f p.2.1 p.2.2
  |.ret v=>.ret (.ok (.ret v),p.2)
def TX.seq(m f:TX):TX:=fun lv J=>(m lv J).bind (TX.goS f)
noncomputable def TX.next:TX:=fun lv J=>.ret (.ok .next,lv,J)
noncomputable def TX.ret(v:V):TX:=fun lv J=>.ret (.ok (.ret v),lv,J)
noncomputable def TX.fail:TX:=fun _ _=>.none
noncomputable def TX.set(i:Nat)(v:V):TX:=fun lv J=>if i<lv.length then .ret (.ok .next,lv.set i (some v),J) else .none
noncomputable def kE(m:Ex):TX:=fun lv J=>.q .x (m lv J) .ret
noncomputable def wR:List Nat->List V->TX
 |[],vs=>match vs with
  |[]=>TX.next
  |_ :: _=>TX.fail
 |i :: is,vs=>match vs with
  |v :: vs=>TX.seq (TX.set i v) (wR is vs)
  |[]=>TX.fail
def K7(v:V)(f:List V->TX):TX:=match v with
 |.tup vs=>f vs
 |_=>TX.fail
def HM(m:TX)(h:Nat->Ex):TX:=fun lv J=>(m lv J).bind fun p=>match p.1 with
 |.ok f=>.ret (.ok f,p.2)
 |.error j=>kE (h j) p.2.1 p.2.2
mutual
noncomputable def RX(F:Nat)(O:ay)(cv:LV):PS->TX
 |.assign i e=>fun lv J=>TX.ev (bp O lv cv e) (TX.set i) lv J
 |.iE is e=>fun lv J=>TX.ev (bp O lv cv e) (fun v=>K7 v (wR is)) lv J
 |.setattr o n e=>fun lv J=>TX.ev (bp O lv cv e) (fun v=>TX.ev (bp O lv cv o) fun ov=>TX.ev (Fg (ic ov n v)) fun _=>TX.next) lv J
 |.pW o i e=>fun lv J=>TX.ev (bp O lv cv e) (fun v=>TX.ev (bp O lv cv o) fun ov=>TX.ev (bp O lv cv i) fun iv=>TX.ev (Fg (pX ov iv v)) fun _=>TX.next) lv J
 |.aE t a b=>fun lv J=>TX.ev (rO O lv cv t) (fun r=>cond r (nz F O cv a) (nz F O cv b)) lv J
 |.fP t b=>kE (dH (fun lv=>dh O lv cv t) (aD F O cv b) F)
 |.oW i e b=>fun lv J=>TX.ev (bp O lv cv e) (fun v=>kE (FA v fun nx=>jm 1 (cR nx (.one i) (aD F O cv b) F 0))) lv J
 |.forR i lo hi b=>fun lv J=>TX.ev (bp O lv cv lo) (fun x=>TX.ev (bp O lv cv hi) fun y=>kE (xC x fun a=>xC y fun b'=>iz (decide (0<=a/\a<=b'/\b'<1048576)) (jm 1 (cR (oh (MZ a b')) (.one i) (aD F O cv b) F 0)))) lv J
 |.qI i x e b=>fun lv J=>TX.ev (bp O lv cv e) (fun v=>kE (jO v fun j=>jR j <| jm 2 (cR (eI j) (.two i x) (aD F O cv b) F 0))) lv J
 |.ti i x e b=>fun lv J=>TX.ev (bp O lv cv e) (fun v=>kE (jO v fun j=>jR j <| jm 1 (cR (iQ j) (.two i x) (aD F O cv b) F 0))) lv J
 |.ret e=>fun lv J=>TX.ev (bp O lv cv e) TX.ret lv J
 |.expr e=>fun lv J=>TX.ev (bp O lv cv e) (fun _=>TX.next) lv J
 |.raise e=>fun lv J=>TX.ev (bp O lv cv e) (fun v=>kE (jO v Er)) lv J
 |.nU b i h=>HM (nz F O cv b) fun j=>uw i j (lY j (gone i (aD F cI cv h)))
 |.pO b i e=>HM (nz F O cv b) fun j=>uw i j (lY j fun lv=>uy i j (aO cI lv cv e) lv)
 |.ur=>kE (rV O)
 |.xt b=>kE (AF (aD F O cv b))
noncomputable def nz(F:Nat)(O:ay)(cv:LV):List PS->TX
 |[]=>TX.next
 |p :: r=>TX.seq (RX F O cv p) (nz F O cv r)
end
def aI(m:TX)(e:Ex):Prop:=∀ lv J,(m lv J).run=e lv J
theorem aI.ev{α:Type}{m:TE α}{e:Ev α}{f:α->TX}{g:α->Ex}{lv:LV}{J:LC}(h:ar m e)(h':∀ a,aI (f a) (g a)):(TX.ev m f lv J).run=Ex.ev e g lv J:=by
 show((m J).bind _).run=_;rw[run_bind,h J];unfold Ex.ev;cases e J with
 |none=>rfl
 |some p=>
  obtain⟨r,J'⟩:=p;cases r with
  |ok a=>exact h' a lv J'
  |error i=>rfl
theorem aI.seq{m f:TX}{e g:Ex}(h:aI m e)(h':aI f g):aI (m.seq f) (e.seq g):=fun lv J=>by
 show((m lv J).bind _).run=_;rw[run_bind,h lv J];unfold Ex.seq;cases e lv J with
 |none=>rfl
 |some p=>
  obtain⟨r,aJ,J'⟩:=p;cases r with
  |error i=>rfl
  |ok fl=>cases fl with
   |next=>exact h' aJ J'
   |ret v=>rfl
theorem aI.next:aI TX.next Ex.next:=fun _ _=>rfl
theorem aI.ret{v:V}:aI (TX.ret v) (Ex.ret v):=fun _ _=>rfl
theorem aI.fail:aI TX.fail Ex.fail:=fun _ _=>rfl
theorem aI.lift{m:Ex}:aI (kE m) m:=fun _ _=>ar.lift
theorem aI.set:aI (TX.set i v) (Ex.set i v):=fun lv J=>by
 show(if i<lv.length then _ else _:Tr _).run=if i<lv.length then _ else _;split<;>rfl
theorem aI.sets:∀ {is:List Nat}{vs:List V},aI (wR is vs) (Ex.sets is vs)
 |[],[]=>aI.next
 |[],_ :: _=>aI.fail
 |_ :: _,[]=>aI.fail
 |_ :: _,_ :: _=>aI.set.seq aI.sets
theorem aI.tup:aI (K7 v (wR is)) (zz v (Ex.sets is)):=by cases v<;>first|exact aI.sets|exact aI.fail
theorem aI.catch(hm:aI m e):aI (HM m h) (Ex.catch e h):=fun lv J=>by
 show((m lv J).bind _).run=_;rw[run_bind,hm lv J];unfold Ex.catch;cases e lv J with
 |none=>rfl
 |some p=>
  obtain⟨r,aJ,J'⟩:=p;cases r with
  |ok f=>rfl
  |error j=>exact aI.lift aJ J'
theorem aI.cond(h:aI f g)(h':aI f' g'):aI (_root_.cond b f f') (_root_.cond b g g'):=by
 cases b with
 |true=>exact h
 |false=>exact h'
section
variable {F:Nat}{O:ay}{cv:LV}
mutual
theorem afN:∀ p,aI (RX F O cv p) (yu F O cv p)
 |.assign _ e=>fun _ _=>aI.ev (bw e) fun _=>aI.set
 |.iE _ e=>fun _ _=>aI.ev (bw e) fun _=>aI.tup
 |.setattr o _ e=>fun _ _=>aI.ev (bw e) fun _ _ _=>aI.ev (bw o) fun _ _ _=>aI.ev ar.Oa fun _=>aI.next
 |.pW o i e=>fun _ _=>aI.ev (bw e) fun _ _ _=>aI.ev (bw o) fun _ _ _=>aI.ev (bw i) fun _ _ _=>aI.ev ar.Oa fun _=>aI.next
 |.aE t a b=>fun _ _=>aI.ev (ui t) fun _=>aI.cond (oX a) (oX b)
 |.fP _ _=>aI.lift
 |.oW _ e _=>fun _ _=>aI.ev (bw e) fun _=>aI.lift
 |.forR _ lo hi _=>fun _ _=>aI.ev (bw lo) fun _ _ _=>aI.ev (bw hi) fun _=>aI.lift
 |.qI _ _ e _=>fun _ _=>aI.ev (bw e) fun _=>aI.lift
 |.ti _ _ e _=>fun _ _=>aI.ev (bw e) fun _=>aI.lift
 |.ret e=>fun _ _=>aI.ev (bw e) fun _=>aI.ret
 |.expr e=>fun _ _=>aI.ev (bw e) fun _=>aI.next
 |.raise e=>fun _ _=>aI.ev (bw e) fun _=>aI.lift
 |.nU b _ _=>(oX b).catch
 |.pO b _ _=>(oX b).catch
 |.ur=>aI.lift
 |.xt _=>aI.lift
theorem oX:∀ l,aI (nz F O cv l) (aD F O cv l)
 |[]=>aI.next
 |p :: r=>(afN p).seq (oX r)
end
end
def K3(t:LV->TE Bool)(b:TX)(m:Ex):TX:=fun lv J=>TX.ev (t lv) (fun r=>cond r (TX.seq b (kE m)) TX.next) lv J
theorem Xf{t:LV->TE Bool}{t':LV->Ev Bool}{b:TX}{b':Ex}{n:Nat}(h:∀ lv,ar (t lv) (t' lv))(hb:aI b b'):aI (K3 t b (dH t' b' n)) (dH t' b' (n+1)):=fun lv J=>
 aI.ev (h lv) fun _=>aI.cond (hb.seq aI.lift) aI.next
def pairD(v:V)(i j:Nat):TX:=match v with
 |.tup l=>match l with
  |a :: r=>match r with
   |b :: r'=>match r' with
    |[]=>wR [i,j] [a,b]
    |_ :: _=>TX.fail
   |[]=>TX.fail
  |[]=>TX.fail
 |_=>TX.fail
def Lk(t:Tg)(v:V):TX:=match t with
 |.one i=>TX.set i v
 |.two i j=>pairD v i j
theorem XA:aI (Lk t v) (zF t v):=by
 cases t with
 |one i=>exact aI.set
 |two i j=>
  cases v with
  |tup l=>match l with
   |[]=>exact aI.fail
   |[_]=>exact aI.fail
   |[_,_]=>exact aI.sets
   |_ :: _ :: _ :: _=>exact aI.fail
  |_=>exact aI.fail
def K4(tg:Tg)(b:TX)(m:Ex)(v:V):TX:=TX.seq (Lk tg v) (TX.seq b (kE m))
theorem Xg{nx:Nx}{tg:Tg}{b:TX}{b':Ex}{f n:Nat}{v:V}{lv:LV}{J:LC}(hb:aI b b')(h:nx n J=some (some v)):(K4 tg b (cR nx tg b' f (n+1)) v lv J).run=cR nx tg b' (f+1) n lv J:=by
 refine(aI.seq XA (hb.seq aI.lift) lv J).trans ?_;show _=(match nx n J with|some (some v)=>_|some none=>_|none=>_);rw[h]
noncomputable def Kj(n:Nat)(J:LC):LC:=match n with
 |0=>J
 |n+1=>J++List.replicate (n+1) .raw
theorem aiQ(n:Nat)(J:LC):Kj n J=J++List.replicate n .raw:=by cases n<;>simp[Kj]
def Hm(fp:aB)(n:Nat)(p:Except Nat Fl×LV×LC):Tr (Except Nat V×LC):=match p.1 with
 |.ok fl=>cond fp.keep (.ret (.ok (ma fl),p.2.2)) (.q .t (some (low n (ma fl))) fun b=>cond b (.q .s (some (p.2.2.take n)) fun J'=>.ret (.ok (ma fl),J')) .none)
 |.error i=>.q .t (some (decide (n<=i/\isExc p.2.2 i=true))) fun b=>cond b (.q .s (some (p.2.2.take n)) fun (J':LC)=>.ret (.error n,J'++[Cell.exc])) .none
def MF(F:Nat)(O:ay)(fp:aB)(as:List V):TE V:=qc (vP fp as) fun full J=>(nz F O (me fp full) fp.body (cW fp full) (Kj fp.eJ J)).bind (Hm fp J.length)
theorem aas{F:Nat}{O:ay}:ar (MF F O fp as) (aq F O fp as):=ar.opt fun full J=>by
 show(Tr.bind _ _).run=xd fp J.length _;rw[run_bind,aiQ,oX];cases aD F O (me fp full) fp.body (cW fp full) (J++List.replicate fp.eJ .raw)with
 |none=>rfl
 |some p=>
  obtain⟨r,aJ,J'⟩:=p;cases r with
  |ok fl=>
   show(Hm fp J.length (.ok fl,aJ,J')).run=yz fp J.length fl J';unfold Hm yz;cases fp.keep with
   |true=>rfl
   |false=>
    show(cond (low J.length (ma fl)) _ _:Tr _).run=if low J.length (ma fl)=true then _ else _;cases low J.length (ma fl)<;>rfl
  |error i=>
   show(cond (decide (J.length<=i/\isExc J' i=true)) _ _:Tr _).run=if J.length<=i/\isExc J' i=true then _ else _;by_cases h:J.length<=i/\isExc J' i=true
   ·rw[if_pos h,decide_eq_true h];rfl
   ·rw[if_neg h,decide_eq_false h];rfl
theorem call_of{F:Nat}{O:ay}(fs:List Fact)
  (h:fq fs (MF F O fp as J)=some (nG fs,r):=by kernel_rfl!):aq F O fp as J=some r:=(aas J).symm.trans (yh h)
section
variable {J:LC}
theorem az(J:LC):J.take J.length=J:=Ip
theorem eu(J:LC)(r:Nat)(c:Cell):(J.set r c).take J.length=J.set r c:=k7 (eR (ef ..))
theorem eV(J τ:LC):(J++τ).take J.length=J:=mn rfl
theorem vO(n:Nm)(h:J[j]?=some (.ins c l))(hf:dX c n=some i)(hv:l[i]?=some v)(hj:lQ v=false):bB (.ref j) n J=some (.ok v,J):=by
 have e:Ce J (.ref j) n=some v:=by show(match J[j]?.bind qY with|some (c,l)=>_|none=>none)=_;rw[h];show(match dX c n with|some k=>_|none=>none)=_;rw[hf];exact hv
 show aS (Ce J (.ref j) n) _ J=_;rw[e];show aF (!lQ v) (Ev.ret v) J=_;rw[hj];rfl
theorem uQ(h:J[j]?=some (.lst l))(hs:short l=true):cw .len [.ref j] J=some (.ok (.int l.length),J):=by
 show bt j (fun l=>aF (short l) (Ev.ret (V.int l.length))) J=_;rw[d8 h,hs];rfl
theorem iV(h:J[j]?=some (.lst l))(hi:iu i=true)(hv:l[i.toNat]?=some v):eM (.ref j) (.int i) J=some (.ok v,J):=by
 show bt j (fun l=>aF (iu i) (aS l[i.toNat]? Ev.ret)) J=_;rw[d8 h,hi,hv];rfl
theorem Xm(h:J[j]?=some (.lst l))(hs:short l=true):gh (.ref j) J=some (.ok (!l.isEmpty),J):=by
 show bt j (fun l=>aF (short l) (Ev.ret (!l.isEmpty))) J=_;rw[d8 h,hs];rfl
theorem NU(h:J[j]?=some (.ins c l))(hf:dX c n=none)(hm:m8 c n=some a):bU J (.ref j) n=some (.fn a,true):=by
 show yG J[j]? n=_;rw[h];show xD c l n=_;unfold xD;rw[hf,hm];rfl
theorem lM(h:J[j]?=some (.lst l))(hm:xp n=some b):bU J (.ref j) n=some (.bi b,true):=by
 show yG J[j]? n=_;rw[h];show yJ (xp n)=_;rw[hm];rfl
theorem D8(n:Nm)(h:J[j]?=some (.ins c l))(hf:dX c n=some i)(hi:i<l.length)(hl:low j v=true):ic (.ref j) n v J=some (.ok (),J.set j (.ins c (l.set i v))):=by
 show mU j (fun c l=>aS (dX c n) fun i=>aF (low j v) (w6 j c l i v)) J=_;unfold mU;rw[h];show aS (dX c n) _ J=_;rw[hf];show aF (low j v) _ J=_;rw[hl];exact if_pos hi
theorem ZD(n:Nm)(h:J[j]?=some (.ins c l))(hf:dX c n=some l.length)(hl:low j v=true):ic (.ref j) n v J=some (.ok (),J.set j (.ins c (l++[v]))):=by
 show mU j (fun c l=>aS (dX c n) fun i=>aF (low j v) (w6 j c l i v)) J=_;unfold mU;rw[h];show aS (dX c n) _ J=_;rw[hf];show aF (low j v) _ J=_;rw[hl];exact(if_neg (iG _)).trans (if_pos rfl)
noncomputable def acX(p:PS):List PS:=match p with
 |.oW _ _ b=>b
 |.forR _ _ _ b=>b
 |.qI _ _ _ b=>b
 |.ti _ _ _ b=>b
 |.fP _ b=>b
 |.aE _ a _=>a
 |.nU b _ _=>b
 |.pO b _ _=>b
 |_=>[]
noncomputable def acW(p:PS):PE:=match p with
 |.fP t _=>t
 |_=>.none
def cq(b:List PS)(i:Nat):List PS:=(b[i]?.map acX).getD []
def fO(b:List PS)(i:Nat):PE:=(b[i]?.map acW).getD .none
theorem uI(h:J[j]?=some (.lst l))(hs:short l=true):iQ j n J=some l[n]?:=by
 unfold iQ;rw[h];exact if_pos hs
theorem QQ(hj:J[j]?=some (.lst l))(h:cR (iQ j) (.one i) (aD F O cv b) F 0 lv (J++[.raw])=o) :
  FA (.ref j) (fun nx=>jm 1 (cR nx (.one i) (aD F O cv b) F 0)) lv J=o:=by
 show jR j _ lv J=o;unfold jR;rw[hj];exact h
theorem yj{nx:Nx}{tg:Tg}{b:Ex}{f n:Nat}{lv:LV}(hn:nx n J=some none):cR nx tg b (f+1) n lv J=some (.ok .next,lv,J):=by
 show(match nx n J with|some (some v)=>_|some none=>_|none=>_)=_;rw[hn]
theorem j4{F:Nat}{O:ay}{cv lv:LV}{b:List PS}{nx:Nx}{tg:Tg}{f n:Nat}{v:V}{r:Except Nat Fl×LV×LC}(hn:nx n J=some (some v))(fs:List Fact)
  (h:fq fs (K4 tg (nz F O cv b) (cR nx tg (aD F O cv b) f (n+1)) v lv J)=some (nG fs,r):=by kernel_rfl!):cR nx tg (aD F O cv b) (f+1) n lv J=some r:=
 (Xg (oX b) hn).symm.trans (yh h)
theorem bX(fs:List Fact)
  (h:fq fs (K3 (fun lv=>rO O lv cv t) (nz F O cv b) (dH (fun lv=>dh O lv cv t) (aD F O cv b) n) lv J)=some (nG fs,r):=by kernel_rfl!):dH (fun lv=>dh O lv cv t) (aD F O cv b) (n+1) lv J=some r:=
 (Xf (fun _=>ui t) (oX b) lv J).symm.trans (yh h)
theorem B8(fs:List Fact)(h:fq fs (nz F O cv b lv J)=some (nG fs,r):=by kernel_rfl!):aD F O cv b lv J=some r:=
 (oX b lv J).symm.trans (yh h)
theorem si(h:isExc J j=true):jO (.ref j) Er lv J=some (.error j,lv,J):=by
 show iz (isExc J j) _ lv J=_;rw[h];rfl
theorem nc(J:LC):isExc (J++[.exc]) J.length=true:=by
 show Option.any _ (J++[.exc])[J.length]?=true;rw[bx];rfl
theorem xB{J J':LC}(h:J'.length=J.length):isExc (J'++[.exc]) J.length=true:=h▸nc J'
theorem add_str(h:(a++b).length<=1048576):c_ .add (.str a) (.str b) J=some (.ok (.str (a++b)),J):=by
 show aF (short (a++b)) _ J=_;rw[show short (a++b)=true from decide_eq_true h];rfl
theorem vD{p q:Prop}[Decidable p][Decidable q](hp:p)(hq:q):decide (p/\q)=true:=decide_eq_true ⟨hp,hq⟩
theorem nA(J:LC):decide (J.length<=J.length/\isExc (J++[.exc]) J.length=true)=true:=vD (aG _) (nc J)
theorem je(J:LC)(r:Nat)(c:Cell)(τ:LC):(J.set r c++τ).take J.length=J.set r c:=mn (ef ..)
theorem j7(J:LC)(r:Nat)(c:Cell):decide (J.length<=J.length/\isExc (J.set r c++[.exc]) J.length=true)=true:=vD (aG _) (xB (ef ..))
theorem R7(x y:List Nat):bj .eq (.str x) (.str y) J=some (.ok (.bool (decide (x=y))),J):=rfl
theorem NK(x y:List Nat):bj .ne (.str x) (.str y) J=some (.ok (.bool (!decide (x=y))),J):=rfl
theorem yy(h:x=y):bj .eq (.str x) (.str y) J=some (.ok (.bool true),J):=by rw[R7,decide_eq_true h]
theorem kT(h:¬x=y):bj .eq (.str x) (.str y) J=some (.ok (.bool false),J):=by rw[R7,decide_eq_false h]
theorem uL(h:¬x=y):bj .ne (.str x) (.str y) J=some (.ok (.bool true),J):=by rw[NK,decide_eq_false h];rfl
theorem acA(h:x=y):bj .ne (.str x) (.str y) J=some (.ok (.bool false),J):=by rw[NK,decide_eq_true h];rfl
theorem fuel(n:Nat)(h:1000<=F)(hn:n<=1000):∃ f,F=f+n:=⟨F-n,(pF (ak hn h)).symm⟩
theorem dt{p:Prop}[Decidable p](h:p):decide p=true:=decide_eq_true h
theorem df{p:Prop}[Decidable p](h:¬p):decide p=false:=decide_eq_false h
end
section
set_option genCtorIdx true in
inductive Tok where
 |A|B|FX|FY|IS|aV|lh|OR|rq|rI|rJ|ri|rA|hV|n1|n5|plus|minus|star|lp|rp|eq|lt|gt|le|ge
 deriving DecidableEq
noncomputable def Tok.w:Tok->List Nat
 |.A=>[65]|.B=>[66]|.FX=>[70,88]|.FY=>[70,89]|.IS=>[73,83]|.aV=>[78,79,84]|.lh=>[65,78,68]|.OR=>[79,82]
 |.rq=>[78,85,77,69,82,73,67]|.rI=>[65,76,80,72,65,66,69,84,73,67]|.rJ=>[65,76,80,72,65,66,69,84,73,67,45,76,79,87,69,82]
 |.ri=>[80,79,83,73,84,73,86,69]|.rA=>[78,69,71,65,84,73,86,69]|.hV=>[90,69,82,79]|.n1=>[49]|.n5=>[53]
 |.plus=>[43]|.minus=>[45]|.star=>[42]|.lp=>[40]|.rp=>[41]|.eq=>[61]|.lt=>[60]|.gt=>[62]|.le=>[60,61]|.ge=>[62,61]
noncomputable def Tok.k:Tok->Kd
 |.n1|.n5=>.num
 |.plus|.minus|.star|.lp|.rp|.eq|.lt|.gt|.le|.ge=>.sign
 |_=>.word
noncomputable def tH:List Tok:=[.A,.B,.FX,.FY,.IS,.aV,.lh,.OR,.rq,.rI,.rJ,.ri,.rA,.hV,.n1,.n5,.plus,.minus,.star,.lp,.rp,.eq,.lt,.gt,.le,.ge]
theorem Tok.all(h:tH.all p=true)(t:Tok):p t=true:=iJ.mp h t (tW.mp (by cases t<;>rfl))
theorem Tok.ag{α:Type}[DecidableEq α]{f g:Tok->α}(h:(tH.all fun t=>decide (f t=g t))=true)(t:Tok):f t=g t:=of_decide_eq_true (Tok.all (p:=fun t=>decide (f t=g t)) h t)
theorem Tok.on{q p:Tok->Bool}(h:(tH.all fun t=>!q t||p t)=true){t:Tok}(hq:q t=true):p t=true:=by
 have:=Tok.all h t;rw[hq]at this;exact this
theorem Tok.k8{k:Kd}{α:Type}[DecidableEq α]{f g:Tok->α}(h:(tH.all fun t=>!decide (t.k=k)||decide (f t=g t))=true){t:Tok}(hk:t.k=k):f t=g t:=of_decide_eq_true (Tok.on (q:=fun t=>decide (t.k=k)) (p:=fun t=>decide (f t=g t)) h (decide_eq_true hk))
noncomputable def Kd.w:Kd->List Nat
 |.word=>[119,111,114,100]|.num=>[110,117,109,98,101,114]|.sign=>[115,105,103,110]
def fQ(i:Nat)(t:Tok):V:=.obj .token [.str t.k.w,.str t.w,.tup [.int 1,.int ((i:Int)+1)],.bool false]
def gj(ts:List Tok):List V:=ts.mapIdx fQ
noncomputable def aw(tk:Nat)(ts rest:List Tok):Cell:=.ins .reader [.ref tk,.int ((ts.length-rest.length:Nat):Int),.fE]
structure RD(J:LC)(r tk:Nat)(ts rest:List Tok):Prop where
 rd:J[r]?=some (aw tk ts rest)
 tk:J[tk]?=some (.lst (gj ts))
 len:ts.length<=100000
 bO:rest <:+ ts
def pk(ts rest:List Tok)(a:Nat):V:=match rest[a]? with
 |some t=>fQ (ts.length-rest.length+a) t
 |none=>.none
theorem Dy(ts:List Tok):(gj ts).length=ts.length:=List.length_mapIdx
theorem Xx(ts:List Tok)(i:Nat):(gj ts)[i]?=(ts[i]?).map (fQ i):=List.getElem?_mapIdx ..
theorem Dx{ts:List Tok}(h:ts.length<=100000):short (gj ts)=true:=decide_eq_true (by rw[Dy];exact ak h ⋯)
theorem dD{α:Type}{l:List α}{i:Nat}{x:α}(h:l[i]?=some x):i<l.length:=(aX.mp h).1
theorem kr{ts rest:List Tok}(h:t :: rest <:+ ts):rest <:+ ts:=List.IsSuffix.trans (ml _ _) h
section
variable {J:LC}{r tk:Nat}{ts rest:List Tok}
theorem RD.le(h:RD J r tk ts rest):rest.length<=ts.length:=h.bO.length_le
theorem RD.get(h:RD J r tk ts rest)(a:Nat):ts[ts.length-rest.length+a]?=rest[a]?:=by
 obtain⟨pre,rfl⟩:=h.bO;rw[bz,Iv,iF (cL _ _),tQ]
theorem RD.lt(h:RD J r tk ts rest):r<J.length:=dD h.rd
theorem RD.ne(h:RD J r tk ts rest):r≠tk:=fun e=>by
 have h1:=h.rd;rw[e,h.tk]at h1;cases h1
theorem RD.set{Ej:List Tok}(h:RD J r tk ts rest)(h':Ej <:+ ts):RD (J.set r (aw tk ts Ej)) r tk ts Ej:=
 ⟨by rw[d0 h.lt],by rw[bW h.ne];exact h.tk,h.len,h'⟩
theorem RD.app(h:RD J r tk ts rest)(J':LC):RD (J++J') r tk ts rest:=
 ⟨by rw[dp h.lt];exact h.rd,by rw[dp (dD h.tk)];exact h.tk,h.len,h.bO⟩
theorem RD.same(h:RD J r tk ts rest):J.set r (aw tk ts rest)=J:=by
 refine q5 fun i=>?_;by_cases hi:r=i
 ·subst hi;rw[d0 h.lt,h.rd]
 ·rw[bW hi]
theorem RD.at(h:RD J r tk ts rest):bB (.ref r) .at_ J=some (.ok (.int ((ts.length-rest.length:Nat):Int)),J):=vO .at_ h.rd rfl rfl rfl
theorem RD.toks(h:RD J r tk ts rest):bB (.ref r) .tokens J=some (.ok (.ref tk),J):=vO .tokens h.rd rfl rfl rfl
theorem RD.Oc(h:RD J r tk ts rest):cw .len [.ref tk] J=some (.ok (.int (ts.length:Int)),J):=by
 rw[uQ h.tk (Dx h.len),Dy]
theorem RD.idx(h:RD J r tk ts rest){i:Int}{m:Nat}{t:Tok}(e:i=(m:Int))(ht:ts[m]?=some t):eM (.ref tk) (.int i) J=some (.ok (fQ m t),J):=by
 subst e;have hm:=dD ht;exact iV h.tk (decide_eq_true ⟨y6 _,e8.mpr (dN hm (ak h.len ⋯))⟩) (by rw[CJ,Xx,ht];rfl)
theorem RD.ai(h:RD J r tk ts rest)(hf:dX .reader n=none)(hm:m8 .reader n=some a):bU J (.ref r) n=some (.fn a,true):=NU h.rd hf hm
theorem RD.put(h:RD J r tk ts (t :: rest))(e:i=((ts.length-(t :: rest).length:Nat):Int)+1):ic (.ref r) .at_ (.int i) J=some (.ok (),J.set r (aw tk ts rest)):=by
 have:=h.le;have e2:i=((ts.length-rest.length:Nat):Int):=by
  have hn:ts.length-(rest.length+1)+1=ts.length-rest.length:=by rw[<-Nat.sub_sub,pF (Nat.sub_pos_of_lt this)]
  rw[e,<-hn]<;>rfl
 subst e2;exact D8 .at_ h.rd rfl (by decide:1<3) rfl
end
variable {F k:Nat}
section
variable {J:LC}{r tk:Nat}{ts rest:List Tok}
theorem qb(h:RD J r tk ts rest)(a:Nat)(ha:a<=10000):ah F ae (k+2) 573 [.ref r,.int a] J=some (.ok (pk ts rest a),J):=by
 show aq F (ah F ae (k+1)) Ry [.ref r,.int a] J=_;generalize ah F ae (k+1)=O;have h4:=h.le;have h1:=h.at;have h2:=h.toks;have h3:=h.Oc;have Ge:=h.get a;cases hg:rest[a]? with
 |some t=>
  have aP:=dD hg;rw[hg]at Ge;have e:pk ts rest a=fQ (ts.length-rest.length+a) t:=by unfold pk;rw[hg]
  rw[e];have hb:decide (((ts.length-rest.length:Nat):Int)+(a:Int)<(ts.length:Int))=true:=decide_eq_true (by lia);have hi:=h.idx (i:=((ts.length-rest.length:Nat):Int)+(a:Int)) (by lia) Ge;clear Ge e;exact call_of [.v h1,.c,.v h2,.v h3,.c,.b hb,.v h2,.v h1,.c,.v hi,.c,.s (az J)]
 |none=>
  have e:pk ts rest a=.none:=by unfold pk;rw[hg]
  rw[e];have aP:=pC.mp hg;have hb:decide (((ts.length-rest.length:Nat):Int)+(a:Int)<(ts.length:Int))=false:=decide_eq_false (by lia);exact call_of [.v h1,.c,.v h2,.v h3,.c,.b hb,.c,.s (az J)]
theorem w8(h:RD J r tk ts rest):ah F ae (k+2) 573 [.ref r] J=some (.ok (pk ts rest 0),J):=qb h 0 ⋯
def ql(kd:List Nat):Option Tok->Bool
 |some t=>decide (t.k.w=kd)
 |none=>false
def dR(s:List Nat):Option Tok->Bool
 |some t=>decide (t.k=.sign)&&decide (t.w=s)
 |none=>false
theorem mN(hg:rest[a]?=some t):pk ts rest a=fQ (ts.length-rest.length+a) t:=by unfold pk;rw[hg]
theorem uE(hg:rest[a]?=none):pk ts rest a=.none:=by unfold pk;rw[hg]
theorem AL(h:RD J r tk ts rest)(kd:List Nat)(a:Nat)(ha:a<=10000):ah F ae (k+3) 602 [.ref r,.str kd,.int a] J=some (.ok (.bool (ql kd rest[a]?)),J):=by
 show aq F (ah F ae (k+2)) RR [.ref r,.str kd,.int a] J=_;have hm:=h.ai (n:=.peek) rfl rfl;have hp:=qb (F:=F) (k:=k) h a ha;generalize ah F ae (k+2)=O at hp ⊢;cases hg:rest[a]? with
 |none=>
  rw[uE hg]at hp;exact call_of [.m hm,.v hp,.c,.c,.c,.c,.s (az J)]
 |some t=>
  rw[mN hg]at hp;exact call_of [.m hm,.v hp,.c,.c,.c,.c,.c,.c,.s (az J)]
theorem AM(h:RD J r tk ts rest)(kd:List Nat):ah F ae (k+3) 602 [.ref r,.str kd] J=some (.ok (.bool (ql kd rest[0]?)),J):=AL h kd 0 ⋯
theorem Zk(h:RD J r tk ts rest)(x:List Nat)(a:Nat)(ha:a<=10000):ah F ae (k+4) 667 [.ref r,.str x,.int a] J=some (.ok (.bool (dR x rest[a]?)),J):=by
 show aq F (ah F ae (k+3)) RI [.ref r,.str x,.int a] J=_;have hm:=h.ai (n:=.peek) rfl rfl;have bF:=h.ai (n:=.gU) rfl rfl;have hp:=qb (F:=F) (k:=k+1) h a ha;have hk:=AL (F:=F) (k:=k) h [115,105,103,110] a ha;generalize ah F ae (k+3)=O at hp hk ⊢;cases hg:rest[a]? with
 |none=>
  rw[hg]at hk;exact call_of [.m bF,.v hk,.c,.c,.c,.s (az J)]
 |some t=>
  rw[hg]at hk;rw[mN hg]at hp;show _=(some (.ok (.bool (decide (t.k=.sign)&&decide (t.w=x))),J):Out V);by_cases hs:t.k=.sign
  ·have e:ql [115,105,103,110] (some t)=true:=by show decide (t.k.w=_)=true;rw[hs];rfl
   rw[e]at hk;rw[decide_eq_true hs];exact call_of [.m bF,.v hk,.c,.c,.m hm,.v hp,.c,.c,.c,.s (az J)]
  ·have e:ql [115,105,103,110] (some t)=false:=decide_eq_false fun q=>hs (by revert q;generalize t.k=kd;cases kd<;>decide);rw[e]at hk;rw[decide_eq_false hs];exact call_of [.m bF,.v hk,.c,.c,.c,.s (az J)]
theorem rX(h:RD J r tk ts rest)(x:List Nat):ah F ae (k+4) 667 [.ref r,.str x] J=some (.ok (.bool (dR x rest[0]?)),J):=Zk h x 0 ⋯
theorem tj(h:RD J r tk ts rest)(x:List Nat):ah F ae (k+3) 587 [.ref r,.str x] J=some (.ok (.ref J.length),J++[.exc]):=by
 show aq F (ah F ae (k+2)) RU [.ref r,.str x] J=_;have h1:=h.at;have h2:=h.toks;have h3:=h.Oc;have h5:=h.le;have F6:∀ a b:Int,ah F ae (k+2) 1000000 [.int a,.int b] J=some (.ok (.int (if b<a then b else a)),J):=fun a b=>rfl;have Bs:∀ x y,ah F ae (k+2) 72 [x,y] J=some (.ok (.ref J.length),J++[.exc]):=fun a b=>rfl;generalize ah F ae (k+2)=O at F6 Bs ⊢;have ht:=Xm h.tk (Dx h.len)
 cases ts with
 |nil=>
  have hg:=Bs (.str x) (.tup [.int 0,.int 0]);exact call_of [.v h2,.w ht,.c,.v hg]
 |cons t0 kn=>
  obtain⟨m,hx,bF⟩:∃ m:Nat,(if ((t0 :: kn).length:Int)-1<(((t0 :: kn).length-rest.length:Nat):Int) then ((t0 :: kn).length:Int)-1 else (((t0 :: kn).length-rest.length:Nat):Int))=(m:Int)/\m<(t0 :: kn).length:=by
   have h0:0<(t0 :: kn).length:=iI _;split
   ·exact⟨(t0 :: kn).length-1,by lia,by lia⟩
   ·exact⟨(t0 :: kn).length-rest.length,rfl,by lia⟩
  have hi:=h.idx rfl (dw bF);have PK:=F6 (((t0 :: kn).length-rest.length:Nat):Int) (((t0 :: kn).length:Int)-1);rw[hx]at PK;have hg:=Bs (.str x) (.tup [.int 1,.int ((m:Int)+1)]);have he:(!(gj (t0 :: kn)).isEmpty)=true:=by
   cases e:gj (t0 :: kn)with
   |nil=>have:=congrArg List.length e;rw[Dy]at this;cases this
   |cons=>rfl
  clear F6 Bs;exact call_of [.v h2,.w ht,.b he,.v h2,.v h1,.v h2,.v h3,.c,.v PK,.v hi,.c,.v hg]
end
end
section
variable {F k:Nat}
section
variable {J:LC}{r tk:Nat}{ts rest:List Tok}
def C8(J:LC)(r tk:Nat)(ts:List Tok)(x:Option (Except Nat V×LC)):Prop:=∃ q,q <:+ ts/\x=some (.error J.length,J.set r (aw tk ts q)++[.exc])
theorem RD.Hg(h:RD J r tk ts rest)(e:x=some (.error J.length,J++[.exc])):C8 J r tk ts x:=⟨rest,h.bO,by rw[h.same];exact e⟩
theorem Nf(h:RD J r tk ts (t :: rest)):pk ts (t :: rest) 0=fQ (ts.length-rest.length-1) t:=by
 show fQ (ts.length-(rest.length+1)+0) t=_;rw[Nat.add_zero,Nat.sub_add_eq]
theorem mA(h:RD J r tk ts (t :: rest)):ah F ae (k+4) 594 [.ref r] J=some (.ok (fQ (ts.length-rest.length-1) t),J.set r (aw tk ts rest)):=by
 show aq F (ah F ae (k+3)) Rg [.ref r] J=_;have hm:=h.ai (n:=.peek) rfl rfl;have hp:=w8 (F:=F) (k:=k+1) h;rw[Nf h]at hp;have h1:=h.at;have h2:=h.put rfl;generalize ah F ae (k+3)=O at hp ⊢;generalize ts.length-rest.length-1=m at hp ⊢;exact call_of [.m hm,.v hp,.c,.c,.v h1,.c,.u h2,.c,.s (eu J r (aw tk ts rest))]
theorem Mh(h:RD J r tk ts (t :: rest))(hx:dR x (some t)=true):ah F ae (k+5) 674 [.ref r,.str x] J=some (.ok (.bool true),J.set r (aw tk ts rest)):=by
 show aq F (ah F ae (k+4)) GX [.ref r,.str x] J=_;have hm:=h.ai (n:=.isSign) rfl rfl;have hp:=rX (F:=F) (k:=k) h x;rw[yZ,hx]at hp;have h1:=h.at;have h2:=h.put rfl;generalize ah F ae (k+4)=O at hp ⊢;exact call_of [.m hm,.v hp,.c,.c,.v h1,.c,.u h2,.c,.s (eu J r (aw tk ts rest))]
theorem zP(h:RD J r tk ts rest)(hx:dR x rest[0]?=false):ah F ae (k+5) 674 [.ref r,.str x] J=some (.ok (.bool false),J):=by
 show aq F (ah F ae (k+4)) GX [.ref r,.str x] J=_;have hm:=h.ai (n:=.isSign) rfl rfl;have hp:=rX (F:=F) (k:=k) h x;rw[hx]at hp;generalize ah F ae (k+4)=O at hp ⊢;exact call_of [.m hm,.v hp,.c,.c,.c,.s (az J)]
theorem EY(h:RD J r tk ts (t :: rest))(hx:dR x (some t)=true):ah F ae (k+6) 681 [.ref r,.str x] J=some (.ok .none,J.set r (aw tk ts rest)):=by
 show aq F (ah F ae (k+5)) G6 [.ref r,.str x] J=_;have hm:=h.ai (n:=.lC) rfl rfl;have hp:=Mh (F:=F) (k:=k) h hx;generalize ah F ae (k+5)=O at hp ⊢;exact call_of [.m hm,.v hp,.c,.c,.c,.s (eu J r (aw tk ts rest))]
theorem NJ(h:RD J r tk ts rest)(hx:dR x rest[0]?=false)(hl:x.length<=1000):ah F ae (k+6) 681 [.ref r,.str x] J=some (.error J.length,J++[.exc]):=by
 show aq F (ah F ae (k+5)) G6 [.ref r,.str x] J=_;have hm:=h.ai (n:=.lC) rfl rfl;have bF:=h.ai (n:=.fault) rfl rfl;have hp:=zP (F:=F) (k:=k) h hx;have hf:=tj (F:=F) (k:=k+2) h (x++[32,105,115,32,97,115,107,101,100,32,104,101,114,101]);generalize ah F ae (k+5)=O at hp hf ⊢;have he:=si (lv:=[some (.ref r),some (.str x)]) (nc J);have ha:=add_str (J:=J) (a:=x) (b:=[32,105,115,32,97,115,107,101,100,32,104,101,114,101]) (by rw[bz];exact ak (f9 hl _) ⋯)
 exact call_of [.m hm,.v hp,.c,.c,.m bF,.v ha,.v hf,.x he,.b (nA J),.s (eV J [Cell.exc])]
end
end
section
variable {F k:Nat}
section
variable {J:LC}{r tk:Nat}{ts rest:List Tok}
theorem abS(h:RD J r tk ts rest):ah F ae (k+2) 573 [.ref r,.int 0] J=some (.ok (pk ts rest 0),J):=qb h 0 ⋯
theorem adM(h:RD J r tk ts rest)(kd:List Nat):ah F ae (k+3) 602 [.ref r,.str kd,.int 0] J=some (.ok (.bool (ql kd rest[0]?)),J):=AL h kd 0 ⋯
def xA(x:List Nat):Option Tok->Bool
 |some t=>decide (t.k=.word)&&decide (t.w=x)
 |none=>false
def sL:Option Tok->Bool
 |some t=>decide (t.k=.word)
 |none=>false
theorem FF:∀ o:Option Tok,ql [119,111,114,100] o=sL o
 |none=>rfl
 |some t=>by cases t<;>rfl
theorem L5(hx:lB.lookup x=some [x]):cw .nV [.str x,.str [32]] J=some (.ok (.ref J.length),J++[.lst [.str x]]):=by
 show aF (decide ([32]=[32])) (aS (lB.lookup x) _) J=_;rw[hx];rfl
theorem OW(hF:1000<=F)(h:RD J r tk ts rest)(hx:lB.lookup x=some [x]):ah F ae (k+5) 609 [.ref r,.str x] J=some (.ok (.bool (xA x rest[0]?)),J):=by
 show aq F (ah F ae (k+4)) G9 [.ref r,.str x] J=_;obtain⟨f,rfl⟩:=fuel 2 hF ⋯;have h1:RD (J++[.lst [V.str x]]++[.raw]) r tk ts rest:=(h.app _).app _;have hm:=h1.ai (n:=.peek) rfl rfl;have bF:=h1.ai (n:=.gU) rfl rfl;have hk:=AL (F:=f+2) (k:=k+1) h1 [119,111,114,100] 0 ⋯;have hp:=qb (F:=f+2) (k:=k+2) h1 0 ⋯;have sX:(J++[Cell.lst [V.str x]])[J.length]?=some (.lst [.str x]):=bx
 have hj:(J++[Cell.lst [V.str x]]++[.raw])[J.length]?=some (.lst [.str x]):=by rw[dp (dD sX)];exact sX
 have hs:=L5 (J:=J) hx;have oP:=uI (n:=0) hj rfl;rw[FF]at hk;generalize ah (f+2) ae (k+4)=O at hk hp ⊢;have jg:=eV J ([Cell.lst [V.str x]]++[Cell.raw]);rw[<-aH]at jg;have out:∀ {b:Bool}{r0:Except Nat Fl×LV×LC},cR (iQ J.length) (.one 3) (aD (f+2) O [none,none] (cq H8 1)) (f+2) 0 [some (.ref r),some (.str x),some (.int 0),none] (J++[Cell.lst [V.str x]]++[.raw])=some r0 ->
   r0.2.2=J++[Cell.lst [V.str x]]++[.raw]->r0.1=.ok (if b then .next else .ret (.bool false))->aq (f+2) O G9 [.ref r,.str x] J=some (.ok (.bool b),J):=fun {b}{r0} hg e1 e2=>by
  obtain⟨a,lv,s⟩:=r0;cases e1;cases e2;have hf:=QQ sX hg;cases b with
  |true=>exact call_of [.c,.v hs,.x hf,.c,.s jg]
  |false=>exact call_of [.c,.v hs,.x hf,.c,.s jg]
 cases hg:rest[0]? with
 |none=>
  rw[hg]at hk;refine out (b:=false) (r0:=(.ok (.ret (.bool false)),[some (.ref r),some (.str x),some (.int 0),some (.str x)],_)) ?_ rfl rfl;exact j4 oP [.m bF,.v hk,.c,.c]
 |some t=>
  rw[hg]at hk;rw[mN hg]at hp;show _=(some (.ok (.bool (decide (t.k=.word)&&decide (t.w=x))),J):Out V);by_cases hw:t.k=.word
  ·have e:sL (some t)=true:=decide_eq_true hw;rw[e]at hk;rw[decide_eq_true hw];by_cases nh:t.w=x
   ·rw[decide_eq_true nh];refine out (b:=true) (r0:=(.ok .next,[some (.ref r),some (.str x),some (.int 1),some (.str x)],_)) ?_ rfl rfl;have hb:(!decide (t.w=x))=false:=by rw[decide_eq_true nh];rfl
    have jX:=yj (tg:=.one 3) (b:=aD (f+2) O [none,none] (cq H8 1)) (f:=f) (lv:=[some (.ref r),some (.str x),some (.int 1),some (.str x)]) (uI (n:=1) hj rfl);exact j4 oP [.m bF,.v hk,.c,.c,.m hm,.v hp,.c,.c,.b hb,.c,.x jX]
   ·rw[decide_eq_false nh];refine out (b:=false) (r0:=(.ok (.ret (.bool false)),[some (.ref r),some (.str x),some (.int 0),some (.str x)],_)) ?_ rfl rfl;have hb:(!decide (t.w=x))=true:=by rw[decide_eq_false nh];rfl
    exact j4 oP [.m bF,.v hk,.c,.c,.m hm,.v hp,.c,.c,.b hb]
  ·have e:sL (some t)=false:=decide_eq_false hw;rw[e]at hk;rw[decide_eq_false hw];refine out (b:=false) (r0:=(.ok (.ret (.bool false)),[some (.ref r),some (.str x),some (.int 0),some (.str x)],_)) ?_ rfl rfl;exact j4 oP [.m bF,.v hk,.c,.c]
theorem RD.abf(h:RD J r tk ts (t :: rest))(e:i=((ts.length-(t :: rest).length:Nat):Int)+1):ic (.ref r) .at_ (.int i) (J++J')=some (.ok (),J.set r (aw tk ts rest)++J'):=by
 rw[(h.app J').put e,q6 _ _ h.lt]
theorem YY(hF:1000<=F)(h:RD J r tk ts (t :: rest))(hx:lB.lookup x=some [x])(hw:xA x (some t)=true):ah F ae (k+6) 616 [.ref r,.str x] J=some (.ok (.bool true),J.set r (aw tk ts rest)):=by
 show aq F (ah F ae (k+5)) GY [.ref r,.str x] J=_;have hm:=h.ai (n:=.isWord) rfl rfl;have hp:=OW (k:=k) hF h hx;rw[yZ,hw]at hp;have h1:=h.at;have hs:=L5 (J:=J) hx;have hl:=uQ (J:=J++[.lst [.str x]]) bx rfl;have h2:=h.abf (i:=((ts.length-(t :: rest).length:Nat):Int)+1) (J':=[.lst [.str x]]) rfl;have ht:(J.set r (aw tk ts rest)++[Cell.lst [V.str x]]).take J.length=J.set r (aw tk ts rest):=mn (ef ..)
 generalize ah F ae (k+5)=O at hp ⊢;exact call_of [.m hm,.v hp,.c,.c,.v h1,.c,.v hs,.v hl,.c,.u h2,.c,.s ht]
theorem zQ(hF:1000<=F)(h:RD J r tk ts rest)(hx:lB.lookup x=some [x])(hw:xA x rest[0]?=false):ah F ae (k+6) 616 [.ref r,.str x] J=some (.ok (.bool false),J):=by
 show aq F (ah F ae (k+5)) GY [.ref r,.str x] J=_;have hm:=h.ai (n:=.isWord) rfl rfl;have hp:=OW (k:=k) hF h hx;rw[hw]at hp;generalize ah F ae (k+5)=O at hp ⊢;exact call_of [.m hm,.v hp,.c,.c,.c,.s (az J)]
noncomputable def isNm:Tok->Bool
 |.A|.B|.FX|.FY=>true
 |_=>false
theorem aaJ(t:Tok)(h:t.k=.word):(cH ([32]++t.w++[32]) mI ^^ false)=!isNm t:=by
 exact Tok.k8 (f:=fun t=>cH ([32]++t.w++[32]) mI ^^ false) (g:=fun t=>!isNm t) (by decide +kernel) h
theorem Lg(t:Tok):t.w.length<=1000:=bh (Tok.all (p:=fun t=>Nat.ble t.w.length 1000) (by kernel_rfl) t)
theorem aaM(ht:t.k=.word):ah F ae (k+2) 545 [.str t.w] J=some (.ok (.bool (!isNm t)),J):=by
 show aq F (ah F ae (k+1)) RJ [.str t.w] J=_;rw[<-aaJ t ht];have h1:=add_str (J:=J) (a:=[32]) (b:=t.w) (ak (f9 (Lg t) 1) ⋯);have h2:=add_str (J:=J) (a:=[32]++t.w) (b:=[32]) (by rw[bz];exact ak (f9 (f9 (Lg t) 1) 1) ⋯);have h3:bj .isIn (.str ([32]++t.w++[32])) yg J=some (.ok (.bool (cH ([32]++t.w++[32]) mI ^^ false)),J):=rfl
 generalize ah F ae (k+1)=O;generalize t.w=w at h1 h2 h3 ⊢;generalize (cH ([32]++w++[32]) mI ^^ false)=b at h3 ⊢;exact call_of [.v h1,.v h2,.v h3,.c,.s (az J)]
def sN:Option Tok->Bool
 |some t=>isNm t
 |none=>false
theorem OY(h:RD J r tk ts rest):ah F ae (k+4) 645 [.ref r] J=some (.ok (.bool (sN rest[0]?)),J):=by
 show aq F (ah F ae (k+3)) RO [.ref r] J=_;have hm:=h.ai (n:=.peek) rfl rfl;have bF:=h.ai (n:=.gU) rfl rfl;have hp:=abS (F:=F) (k:=k+1) h;have hk:=adM (F:=F) (k:=k) h [119,111,114,100];rw[FF]at hk;have hr:=fun (t:Tok) (hs:t.k=.word)=>aaM (F:=F) (k:=k+1) (J:=J) hs;generalize ah F ae (k+3)=O at hp hk hr ⊢;cases hg:rest[0]? with
 |none=>
  rw[hg]at hk;clear hr;exact call_of [.m bF,.v hk,.c,.c,.c,.s (az J)]
 |some t=>
  rw[hg]at hk;rw[mN hg]at hp;by_cases hs:t.k=.word
  ·have hr:=hr t hs;have e:sL (some t)=true:=decide_eq_true hs;rw[e]at hk;show _=(some (.ok (.bool (isNm t)),J):Out V);rw[<-Bool.not_not (isNm t)];generalize (!isNm t)=b at hr ⊢;cases b with
   |true=>exact call_of [.m bF,.v hk,.c,.c,.m hm,.v hp,.c,.v hr,.c,.c,.c,.s (az J)]
   |false=>exact call_of [.m bF,.v hk,.c,.c,.m hm,.v hp,.c,.v hr,.c,.c,.c,.s (az J)]
  ·have e:sL (some t)=false:=decide_eq_false hs;rw[e]at hk;have hn:sN (some t)=false:=by cases t<;>first|rfl|exact absurd rfl hs
   rw[hn];clear hr;exact call_of [.m bF,.v hk,.c,.c,.c,.s (az J)]
theorem acD(h:RD J r tk ts (t :: rest))(hn:isNm t=true):ah F ae (k+5) 652 [.ref r] J=some (.ok (.str t.w),J.set r (aw tk ts rest)):=by
 show aq F (ah F ae (k+4)) G7 [.ref r] J=_;have hm:=h.ai (n:=.isName) rfl rfl;have bF:=h.ai (n:=.take) rfl rfl;have hp:=OY (F:=F) (k:=k) h;rw[yZ,show sN (some t)=true from hn]at hp;have ht:=mA (F:=F) (k:=k) h;generalize ah F ae (k+4)=O at hp ht ⊢;exact call_of [.m hm,.v hp,.c,.c,.m bF,.v ht,.c,.c,.s (eu J r (aw tk ts rest))]
theorem acF(h:RD J r tk ts rest)(hn:sN rest[0]?=false):ah F ae (k+5) 652 [.ref r] J=some (.error J.length,J++[.exc]):=by
 show aq F (ah F ae (k+4)) G7 [.ref r] J=_;have hm:=h.ai (n:=.isName) rfl rfl;have bF:=h.ai (n:=.fault) rfl rfl;have hp:=OY (F:=F) (k:=k) h;rw[hn]at hp;have hf:=tj (F:=F) (k:=k+1) h [97,32,110,97,109,101,32,105,115,32,97,115,107,101,100,32,104,101,114,101];have he:=si (lv:=[some (.ref r)]) (nc J);generalize ah F ae (k+4)=O at hp hf ⊢;exact call_of [.m hm,.v hp,.c,.c,.m bF,.v hf,.x he,.b (nA J),.s (eV J [Cell.exc])]
end
end
section
variable {F k:Nat}
section
variable {J:LC}{r tk:Nat}{ts rest:List Tok}
theorem Wu(hF:1000<=F)(c:Nat)(hc:c=49∨c=53):ah F ae (k+2) 124 [.str [c]] J=some (.ok (.int ((c:Int)-48)),J):=by
 show aq F (ah F ae (k+1)) Ra [.str [c]] J=_;obtain⟨f,rfl⟩:=fuel 3 hF ⋯;generalize ah (f+3) ae (k+1)=O;have ht:=eV J [.raw];rcases hc with rfl|rfl
 ·exact call_of [.c,.c,.s (eV J (List.replicate 1 Cell.raw))]
 ·exact call_of [.c,.c,.s (eV J (List.replicate 1 Cell.raw))]
theorem agm(hF:1000<=F)(a:Int):ah F ae (k+2) 89 [.int a,.int 0] J=some (.ok (.tup [.int a,.int 0]),J):=by
 show aq F (ah F ae (k+1)) RV [.int a,.int 0] J=_;obtain⟨f,rfl⟩:=fuel 3 hF ⋯;generalize ah (f+3) ae (k+1)=O;exact call_of [.c,.c,.c,.c,.s (az J)]
theorem acy(a b:Int):ah F ae (k+2) 96 [.tup [.int a,.int b]] J=some (.ok (.tup [.int (-a),.int b]),J):=by
 show aq F (ah F ae (k+1)) RA [.tup [.int a,.int b]] J=_;generalize ah F ae (k+1)=O;exact call_of [.c,.c,.c,.s (az J)]
theorem MU(hF:1000<=F)(c:Nat)(hc:c=49∨c=53):ah F ae (k+3) 131 [.str [c]] J=some (.ok (.tup [.int ((c:Int)-48),.int 0]),J):=by
 show aq F (ah F ae (k+2)) Ru [.str [c]] J=_;have hw:=Wu (k:=k) (J:=J++[.raw]) hF c hc;have hd:=agm (k:=k) (J:=J++[.raw]) hF ((c:Int)-48);obtain⟨f,rfl⟩:=fuel 3 hF ⋯;have ht:=eV J [.raw];generalize ah (f+3) ae (k+2)=O at hw hd ⊢;rcases hc with rfl|rfl
 ·exact call_of [.c,.c,.c,.c,.c,.c,.c,.c,.c,.c,.c,.c,.v hw,.c,.c,.c,.c,.v hd,.c,.s ht]
 ·exact call_of [.c,.c,.c,.c,.c,.c,.c,.c,.c,.c,.c,.c,.v hw,.c,.c,.c,.c,.v hd,.c,.s ht]
noncomputable def js:Option Tok->Bool
 |some .plus=>true
 |some .minus=>true
 |_=>false
noncomputable def isNum:Option Tok->Bool
 |some .n1=>true
 |some .n5=>true
 |_=>false
theorem ad5:∀ o:Option Tok,dR [43] o=decide (o=some .plus)
 |none=>rfl
 |some t=>by cases t<;>rfl
theorem ad6:∀ o:Option Tok,dR [45] o=decide (o=some .minus)
 |none=>rfl
 |some t=>by cases t<;>rfl
theorem AU:∀ o:Option Tok,dR [40] o=decide (o=some .lp)
 |none=>rfl
 |some t=>by cases t<;>rfl
theorem O2:∀ o:Option Tok,dR [41] o=decide (o=some .rp)
 |none=>rfl
 |some t=>by cases t<;>rfl
theorem ad9:∀ o:Option Tok,ql [110,117,109,98,101,114] o=isNum o
 |none=>rfl
 |some t=>by cases t<;>rfl
theorem As:∀ {o:Option Tok},js o=false->dR [43] o=false/\dR [45] o=false
 |none=>fun _=>⟨rfl,rfl⟩
 |some t=>fun h=>by rw[ad5,ad6];exact⟨decide_eq_false fun e=>(by rw[e]at h;cases h),decide_eq_false fun e=>(by rw[e]at h;cases h)⟩
theorem OX(h:RD J r tk ts rest)(hn:js rest[0]?=false):ah F ae (k+5) 688 [.ref r] J=some (.ok (.bool (isNum rest[0]?)),J):=by
 show aq F (ah F ae (k+4)) RN [.ref r] J=_;have hm:=h.ai (n:=.isSign) rfl rfl;have bF:=h.ai (n:=.gU) rfl rfl;have hp:=rX (F:=F) (k:=k) h [43];have hq:=rX (F:=F) (k:=k) h [45];have hk:=AM (F:=F) (k:=k+1) h [110,117,109,98,101,114];rw[(As hn).1]at hp;rw[(As hn).2]at hq;rw[ad9]at hk;generalize ah F ae (k+4)=O at hp hq hk ⊢;exact call_of [.m hm,.v hp,.c,.c,.m hm,.v hq,.c,.c,.m bF,.v hk,.c,.s (az J)]
noncomputable def numOf:Tok->Int
 |.n1=>1
 |.n5=>5
 |_=>0
theorem Aq(h:isNum (some t)=true):t=.n1∨t=.n5:=of_decide_eq_true (Tok.on (q:=fun t=>isNum (some t)) (p:=fun t=>decide (t=.n1∨t=.n5)) (by kernel_rfl) h)
theorem Zi(hF:1000<=F)(h:RD J r tk ts (t :: rest))(hn:isNum (some t)=true):ah F ae (k+6) 695 [.ref r] J=some (.ok (.tup [.int (numOf t),.int 0]),J.set r (aw tk ts rest)):=by
 show aq F (ah F ae (k+5)) Ri [.ref r] J=_;have oM:js (some t)=false:=by rcases Aq hn with rfl|rfl<;>rfl
 have hm:=h.ai (n:=.isNumber) rfl rfl;have bF:=h.ai (n:=.lC) rfl rfl;have kM:=h.ai (n:=.take) rfl rfl;have hi:=OX (F:=F) (k:=k) h oM;have h1:=zP (F:=F) (k:=k) h (x:=[45]) (As oM).2;have h2:=zP (F:=F) (k:=k) h (x:=[43]) (As oM).1;have ht:=mA (F:=F) (k:=k+1) h;rw[yZ,hn]at hi;have hd:ah F ae (k+5) 131 [.str t.w] (J.set r (aw tk ts rest))=some (.ok (.tup [.int (numOf t),.int 0]),J.set r (aw tk ts rest)):=by
  rcases Aq hn with rfl|rfl
  ·exact MU (k:=k+2) hF 49 (.inl rfl)
  ·exact MU (k:=k+2) hF 53 (.inr rfl)
 generalize ah F ae (k+5)=O at hi h1 h2 ht hd ⊢;exact call_of [.m hm,.v hi,.c,.c,.m bF,.v h1,.c,.c,.m bF,.v h2,.m kM,.v ht,.c,.v hd,.c,.c,.c,.s (eu J r (aw tk ts rest))]
end
end
section
variable {F k:Nat}
theorem Ak:∀ l:List (List Nat),fS (l.map V.str)=true/\iD (l.map V.str)=0
 |[]=>⟨rfl,rfl⟩
 |a :: l=>⟨(Ak l).1,by show max 0 _=0;rw[(Ak l).2];rfl⟩
theorem TS(x:List Nat):∀ l:List (List Nat),((l.map V.str).any fun y=>dz y (.str x))=l.contains x
 |[]=>rfl
 |a :: l=>by
  rw[gO,Ka,TS x l,CV];congr 1;show decide (a=x)=(x==a);by_cases h:a=x
  ·rw[decide_eq_true h,h,beq_self_eq_true]
  ·rw[decide_eq_false h,beq_eq_false_iff_ne.mpr fun e=>h e.symm]
theorem Pa(x:List Nat)(l:List (List Nat)):ir (.str x) (l.map V.str)=some (l.contains x):=by
 unfold ir;rw[(Ak l).1,(Ak l).2,TS];rfl
section
variable {J:LC}{r tk:Nat}{ts rest:List Tok}
theorem acv(x:List Nat)(l:List (List Nat)):bj .ig (.str x) (.tup (l.map V.str)) J=some (.ok (.bool (l.contains x ^^ true)),J):=by
 show aS (ir (.str x) (l.map V.str)) _ J=_;rw[Pa];rfl
theorem OB(t:Tok)(kd:Kd):decide (t.k.w=kd.w)=decide (t.k=kd):=by
 generalize t.k=x;cases x<;>cases kd<;>rfl
def wh:Option Tok->List Nat
 |some t=>if t.k=.word then t.w else []
 |none=>[]
theorem KC(h:t.k=.word):wh (some t)=t.w:=if_pos h
theorem KH(h:¬t.k=.word):wh (some t)=[]:=if_neg h
theorem AI{t:Tok}{kd:Kd}(h:t.k=kd):decide (t.k.w=kd.w)=true:=by rw[OB];exact decide_eq_true h
theorem AJ{t:Tok}{kd:Kd}(h:¬t.k=kd):decide (t.k.w=kd.w)=false:=by rw[OB];exact decide_eq_false h
theorem OD{t:Tok}{kd:Kd}(h:t.k=kd):(!decide (t.k.w=kd.w))=false:=by rw[AI h];rfl
theorem OC{t:Tok}{kd:Kd}(h:¬t.k=kd):(!decide (t.k.w=kd.w))=true:=by rw[AJ h];rfl
theorem uc(h:RD J r tk ts rest)(a:Nat)(ha:a<=10000):ah F ae (k+3) 355 [.ref r,.int a] J=some (.ok (.str (wh rest[a]?)),J):=by
 show aq F (ah F ae (k+2)) Rf [.ref r,.int a] J=_;have hm:=h.ai (n:=.peek) rfl rfl;have hp:=qb (F:=F) (k:=k) h a ha;generalize ah F ae (k+2)=O at hp ⊢;cases hg:rest[a]? with
 |none=>
  rw[uE hg]at hp;exact call_of [.m hm,.v hp,.c,.c,.c,.s (az J)]
 |some t=>
  rw[mN hg]at hp;by_cases hw:t.k=.word
  ·have hb:=AI hw;rw[KC hw];exact call_of [.m hm,.v hp,.c,.c,.c,.c,.b hb,.c,.c,.s (az J)]
  ·have hb:=AJ hw;rw[KH hw];exact call_of [.m hm,.v hp,.c,.c,.c,.c,.b hb,.c,.s (az J)]
theorem Kz(h:RD J r tk ts rest):ah F ae (k+3) 355 [.ref r] J=some (.ok (.str (wh rest[0]?)),J):=uc h 0 ⋯
def sg(l:List (List Nat)):Option Tok->List Nat
 |some t=>if t.k=.sign/\l.contains t.w=true then t.w else []
 |none=>[]
theorem wN(h:RD J r tk ts rest)(l:List (List Nat)):ah F ae (k+3) 265 [.ref r,.tup (l.map V.str)] J=some (.ok (.str (sg l rest[0]?)),J):=by
 show aq F (ah F ae (k+2)) Rk [.ref r,.tup (l.map V.str)] J=_;have hm:=h.ai (n:=.peek) rfl rfl;have hp:=w8 (F:=F) (k:=k) h;generalize ah F ae (k+2)=O at hp ⊢;cases hg:rest[0]? with
 |none=>
  rw[uE hg]at hp;exact call_of [.m hm,.v hp,.c,.c,.c,.s (az J)]
 |some t=>
  rw[mN hg]at hp;have hi:=acv (J:=J) t.w l;by_cases hw:t.k=.sign
  ·have hb:=OD hw;cases hc:l.contains t.w with
   |true=>
    rw[hc]at hi;rw[show sg l (some t)=t.w from if_pos ⟨hw,hc⟩];generalize l.map V.str=lv at hi ⊢;exact call_of [.m hm,.v hp,.c,.c,.c,.c,.b hb,.c,.v hi,.c,.c,.c,.s (az J)]
   |false=>
    rw[hc]at hi;rw[show sg l (some t)=[] from if_neg fun q=>by rw[hc]at q;cases q.2];generalize l.map V.str=lv at hi ⊢;exact call_of [.m hm,.v hp,.c,.c,.c,.c,.b hb,.c,.v hi,.c,.c,.s (az J)]
  ·have hb:=OC hw;rw[show sg l (some t)=[] from if_neg fun q=>hw q.1];generalize l.map V.str=lv at hi ⊢;exact call_of [.m hm,.v hp,.c,.c,.c,.c,.b hb,.c,.s (az J)]
noncomputable def mL:Option Tok->List Nat
 |some .plus=>[43]
 |some .minus=>[45]
 |_=>[]
noncomputable def LW:Option Tok->List Nat
 |some .star=>[42]
 |_=>[]
theorem D7:∀ o:Option Tok,sg [[43],[45]] o=mL o
 |none=>rfl
 |some t=>by cases t<;>rfl
theorem ZA:∀ o:Option Tok,sg [[42],[47]] o=LW o
 |none=>rfl
 |some t=>by cases t<;>rfl
theorem ZC:∀ o:Option Tok,sg [[42,42]] o=[]
 |none=>rfl
 |some t=>by cases t<;>rfl
theorem afE{t:Tok}(h:t≠.hV):bj .ig (.str t.w) BF J=some (.ok (.bool true),J):=by
 cases t<;>first|rfl|exact absurd rfl h
theorem afC(h:RD J r tk ts rest)(hz:rest[0]?≠some .hV):ah F ae (k+5) 219 [.ref r] J=some (.ok .none,J):=by
 show aq F (ah F ae (k+4)) G3 [.ref r] J=_;have hm:=h.ai (n:=.peek) rfl rfl;have bF:=h.ai (n:=.gU) rfl rfl;have hp:=w8 (F:=F) (k:=k+2) h;have hk:=AM (F:=F) (k:=k+1) h [119,111,114,100];rw[FF]at hk;generalize ah F ae (k+4)=O at hp hk ⊢;cases hg:rest[0]? with
 |none=>
  rw[hg]at hk;exact call_of [.m bF,.v hk,.c,.c,.c,.s (az J)]
 |some t=>
  rw[hg]at hk hz;rw[mN hg]at hp;have hf:=afE (J:=J) fun e=>hz (congrArg some e);by_cases hw:t.k=.word
  ·rw[show sL (some t)=true from decide_eq_true hw]at hk;exact call_of [.m bF,.v hk,.c,.c,.m hm,.v hp,.c,.v hf,.c,.c,.s (az J)]
  ·rw[show sL (some t)=false from decide_eq_false hw]at hk;exact call_of [.m bF,.v hk,.c,.c,.c,.s (az J)]
theorem afB(h:RD J r tk ts (.hV :: rest)):ah F ae (k+5) 219 [.ref r] J=some (.ok (.tup [.str [102,105,103,117,114,101],.str [90,69,82,79]]),J.set r (aw tk ts rest)):=by
 show aq F (ah F ae (k+4)) G3 [.ref r] J=_;have hm:=h.ai (n:=.peek) rfl rfl;have bF:=h.ai (n:=.gU) rfl rfl;have kM:=h.ai (n:=.take) rfl rfl;have hp:=w8 (F:=F) (k:=k+2) h;rw[Nf h]at hp;have hk:ah F ae (k+4) 602 [.ref r,.str [119,111,114,100]] J=some (.ok (.bool true),J):=AM (F:=F) (k:=k+1) h [119,111,114,100];have ht:=mA (F:=F) (k:=k) h;generalize ah F ae (k+4)=O at hp hk ht ⊢
 generalize ts.length-rest.length-1=m at hp ht;exact call_of [.m bF,.v hk,.c,.c,.m hm,.v hp,.c,.c,.c,.m kM,.v ht,.c,.c,.c,.s (eu J r (aw tk ts rest))]
theorem FD(x:List Nat)(hx:x=[79,70]∨x=[73,78]∨x=[65,76,76]):∀ o:Option Tok,xA x o=false
 |none=>rfl
 |some t=>by rcases hx with rfl|rfl|rfl<;>cases t<;>rfl
theorem ace(hF:1000<=F)(h:RD J r tk ts rest):ah F ae (k+7) 630 [.ref r,.str [79,70,32,73,78]] J=some (.ok (.str []),J):=by
 show aq F (ah F ae (k+6)) Rz [.ref r,.str [79,70,32,73,78]] J=_;have h1:RD (J++[.lst [V.str [79,70],V.str [73,78]]]++[.raw]) r tk ts rest:=(h.app _).app _;have hm:=h1.ai (n:=.skip) rfl rfl;have jW:=zQ (F:=F) (k:=k) hF h1 (x:=[79,70]) rfl (FD _ (.inl rfl) _);have gw:=zQ (F:=F) (k:=k) hF h1 (x:=[73,78]) rfl (FD _ (.inr (.inl rfl)) _);have sX:(J++[Cell.lst [V.str [79,70],V.str [73,78]]])[J.length]?=some (.lst [V.str [79,70],V.str [73,78]]):=bx
 have hj:(J++[Cell.lst [V.str [79,70],V.str [73,78]]]++[.raw])[J.length]?=some (.lst [V.str [79,70],V.str [73,78]]):=by rw[dp (dD sX)];exact sX
 obtain⟨f,rfl⟩:=fuel 3 hF ⋯;have jg:=eV J ([Cell.lst [V.str [79,70],V.str [73,78]]]++[Cell.raw]);rw[<-aH]at jg;generalize ah (f+3) ae (k+6)=O at jW gw ⊢;generalize dB:J++[Cell.lst [V.str [79,70],V.str [73,78]]]++[Cell.raw]=aa at *;have oP:=uI (n:=0) hj rfl;have jX:=uI (n:=1) hj rfl;have t2:=yj (tg:=.one 2) (b:=aD (f+3) O [none,none] (cq Cc 0)) (f:=f) (lv:=[some (.ref r),some (.str [79,70,32,73,78]),some (.str [73,78])]) (uI (n:=2) hj rfl)
 have t1:cR (iQ J.length) (.one 2) (aD (f+3) O [none,none] (cq Cc 0)) (f+2) 1 [some (.ref r),some (.str [79,70,32,73,78]),some (.str [79,70])] aa=some (.ok .next,[some (.ref r),some (.str [79,70,32,73,78]),some (.str [73,78])],aa):=by
  exact j4 jX [.m hm,.v gw,.c,.c,.x t2]
 have t0:cR (iQ J.length) (.one 2) (aD (f+3) O [none,none] (cq Cc 0)) (f+3) 0 [some (.ref r),some (.str [79,70,32,73,78]),none] aa=some (.ok .next,[some (.ref r),some (.str [79,70,32,73,78]),some (.str [73,78])],aa):=by
  exact j4 oP [.m hm,.v jW,.c,.c,.x t1]
 have hf:=QQ sX ((congrArg _ dB).trans t0);exact call_of [.c,.c,.x hf,.c,.s jg]
theorem abV(hF:1000<=F)(h:RD J r tk ts rest)(hn:rest[0]?≠some .lp):ah F ae (k+5) 184 [.ref r] J=some (.ok (.bool false),J):=by
 show aq F (ah F ae (k+4)) RM [.ref r] J=_;have hm:=h.ai (n:=.isSign) rfl rfl;have hs:=rX (F:=F) (k:=k) h [40];rw[AU,decide_eq_false hn]at hs;obtain⟨f,rfl⟩:=fuel 1 hF ⋯;generalize ah (f+1) ae (k+4)=O at hs ⊢;have hw:dH (fun lv=>dh O lv [none] (fO H9 1)) (aD (f+1) O [none] (cq H9 1)) (f+1) [some (.ref r),some (.int 0),some (.int 0)] J=some (.ok .next,[some (.ref r),some (.int 0),some (.int 0)],J):=by
  exact bX [.c,.c,.c,.c,.m hm,.v hs,.c,.c]
 exact call_of [.x hw,.c,.s (az J)]
end
end
section
variable {F k:Nat}
inductive E where
 |ref (t:Tok)
 |num (i:Int)
 |zero
 |neg (a:E)
 |bin (o:Tok) (a b:E)
noncomputable def E.v:E->V
 |.ref t=>.tup [.str [114,101,102],.str t.w,.tup [],.tup [],.none]
 |.num i=>.tup [.str [110,117,109,98,101,114],.tup [.int i,.int 0]]
 |.zero=>.tup [.str [102,105,103,117,114,101],.str [90,69,82,79]]
 |.neg a=>.tup [.str [110,101,103],a.v]
 |.bin o a b=>.tup [.str o.w,a.v,b.v]
theorem lN(h:a=true)(h':b=true):(a&&(b&&true))=true:=by rw[h,h'];rfl
theorem E.low(n:Nat):∀ e:E,low n e.v=true
 |.ref t=>rfl
 |.num i=>rfl
 |.zero=>rfl
 |.neg a=>lN rfl (E.low n a)
 |.bin o a b=>lN (E.low n a) (E.low n b)
def opT:Tok->Option E
 |.n1=>some (.num 1)
 |.n5=>some (.num 5)
 |.hV=>some .zero
 |t=>cond (isNm t) (some (.ref t)) none
def n_:List Tok->Option (E×List Tok)
 |[]=>none
 |t :: r=>(opT t).map fun e=>(e,r)
noncomputable def eY:List Tok->Bool
 |t :: u :: r=>!(isNm t&&decide (u=.lp))&&eY (u :: r)
 |_=>true
theorem lI{r:List Tok}(h:eY (t :: r)=true):eY r=true:=by
 cases r with
 |nil=>rfl
 |cons u r=>exact(and_true h).2
theorem og:∀ {l q:List Tok},eY l=true->q <:+ l->eY q=true
 |[],q=>fun h hq=>by rw[List.suffix_nil.mp hq];rfl
 |t :: r,q=>fun h hq=>by
  rcases List.suffix_cons_iff.mp hq with rfl|oK
  ·exact h
  ·exact og (lI h) oK
theorem Nr{r:List Tok}(h:eY (t :: r)=true)(hn:isNm t=true):r[0]?≠some .lp:=by
 cases r with
 |nil=>exact fun e=>by cases e
 |cons u r=>
  intro e;cases e;have:=(and_true h).1;rw[hn]at this;cases this
def Rd(J:LC)(r tk:Nat)(ts:List Tok)(o:Option (E×List Tok))(x:Option (Except Nat V×LC)):Prop:=match o with
 |some (e,q)=>x=some (.ok e.v,J.set r (aw tk ts q))
 |none=>C8 J r tk ts x
section
variable {J:LC}{r tk:Nat}{ts rest:List Tok}
theorem aaY(hF:1000<=F)(h:RD J r tk ts (t :: rest))(hn:isNm t=true)(aW:eY (t :: rest)=true)(u:V):ah F ae (k+8) 205 [.ref r,u] J=some (.ok (E.ref t).v,J.set r (aw tk ts rest)):=by
 show aq F (ah F ae (k+7)) G0 [.ref r,u] J=_;have hm:=h.ai (n:=.name) rfl rfl;have qx:=acD (F:=F) (k:=k+2) h hn;have h2:RD (J.set r (aw tk ts rest)++[.lst []]) r tk ts rest:=(h.set (kr h.bO)).app _;have bF:=h2.ai (n:=.oneOf) rfl rfl;have kM:=h2.ai (n:=.isSign) rfl rfl;have ho:=ace (k:=k) hF h2;have hs:=rX (F:=F) (k:=k+3) h2 [40];have hp:=abV (k:=k+2) hF h2 (Nr aW hn)
 rw[AU,decide_eq_false (Nr aW hn)]at hs;have dU:J.length=(J.set r (aw tk ts rest)).length:=(ef ..).symm;have ht:=eV (J.set r (aw tk ts rest)) [.lst []];rw[<-dU]at ht;obtain⟨f,rfl⟩:=fuel 1 hF ⋯;generalize ah (f+1) ae (k+7)=O at qx ho hs hp ⊢;generalize J.set r (aw tk ts rest)=aa at *;have hg:cw .tuple [.ref aa.length] (aa++[.lst []])=some (.ok (.tup []),aa++[.lst []]):=by
  show bt aa.length _ _=_;rw[d8 bx];rfl
 have hw:dH (fun lv=>dh O lv [none,none] (fO H0 2)) (aD (f+1) O [none,none] (cq H0 2)) (f+1) [some (.ref r),some u,some (.str t.w),some (.ref aa.length),none,none] (aa++[.lst []])=some (.ok .next,[some (.ref r),some u,some (.str t.w),some (.ref aa.length),none,none],aa++[.lst []]):=by
  exact bX [.m bF,.v ho,.c,.c]
 have hl:=E.low J.length (.ref t);exact call_of [.m hm,.v qx,.x hw,.m kM,.v hs,.c,.c,.v hp,.c,.c,.v hg,.c,.s ht]
theorem aaU(h:RD J r tk ts rest)(hn:sN rest[0]?=false)(u:V):ah F ae (k+8) 205 [.ref r,u] J=some (.error J.length,J++[.exc]):=by
 show aq F (ah F ae (k+7)) G0 [.ref r,u] J=_;have hm:=h.ai (n:=.name) rfl rfl;have qx:=acF (F:=F) (k:=k+2) h hn;generalize ah F ae (k+7)=O at qx ⊢;exact call_of [.m hm,.v qx,.b (nA J),.s (eV J [Cell.exc])]
theorem ac1:∀ o:Option Tok,ql [108,105,116,101,114,97,108] o=false
 |none=>rfl
 |some t=>by
  show decide (t.k.w=_)=false;cases t.k<;>rfl
theorem Nn(h:RD J r tk ts rest)(u:V)(hi:O 688 [.ref r] J=some (.ok (.bool true),J))(hs:O 695 [.ref r] J=some (.ok (.tup [.int x,.int 0]),J.set r (aw tk ts q))):aq F O yq [.ref r,u] J=some (.ok (E.num x).v,J.set r (aw tk ts q)):=by
 have hm:=h.ai (n:=.isNumber) rfl rfl;have bF:=h.ai (n:=.signed) rfl rfl;have hl:=E.low J.length (.num x);exact call_of [.m hm,.v hi,.c,.c,.m bF,.v hs,.c,.s (eu J r (aw tk ts q))]
theorem acb{o:Out V}(h:RD J r tk ts rest)(u:V)(hi:O 688 [.ref r] J=some (.ok (.bool false),J))(hk:O 602 [.ref r,.str [108,105,116,101,114,97,108]] J=some (.ok (.bool false),J))
  (ha:O 616 [.ref r,.str [65,76,76]] J=some (.ok (.bool false),J)) (hf:O 219 [.ref r] J=some (.ok .none,J)) :
  (∀ t q,O 205 [.ref r,u] J=some (.ok (E.ref t).v,J.set r (aw tk ts q))->aq F O yq [.ref r,u] J=some (.ok (E.ref t).v,J.set r (aw tk ts q))) /\
  (O 205 [.ref r,u] J=some (.error J.length,J++[.exc])->aq F O yq [.ref r,u] J=some (.error J.length,J++[.exc])):=by
 have hm:=h.ai (n:=.isNumber) rfl rfl;have kM:=h.ai (n:=.gU) rfl rfl;have lU:=h.ai (n:=.skip) rfl rfl;constructor
 ·intro t q hr;have hl:=E.low J.length (.ref t);exact call_of [.m hm,.v hi,.c,.c,.m kM,.v hk,.c,.c,.m lU,.v ha,.c,.c,.v hf,.c,.c,.v hr,.c,.s (eu J r (aw tk ts q))]
 ·intro hr;exact call_of [.m hm,.v hi,.c,.c,.m kM,.v hk,.c,.c,.m lU,.v ha,.c,.c,.v hf,.c,.c,.v hr,.b (nA J),.s (eV J [Cell.exc])]
theorem acd(h:RD J r tk ts rest)(u:V)(hi:O 688 [.ref r] J=some (.ok (.bool false),J))(hk:O 602 [.ref r,.str [108,105,116,101,114,97,108]] J=some (.ok (.bool false),J))
  (ha:O 616 [.ref r,.str [65,76,76]] J=some (.ok (.bool false),J)) (hf:O 219 [.ref r] J=some (.ok E.zero.v,J.set r (aw tk ts q))):aq F O yq [.ref r,u] J=some (.ok E.zero.v,J.set r (aw tk ts q)):=by
 have hm:=h.ai (n:=.isNumber) rfl rfl;have kM:=h.ai (n:=.gU) rfl rfl;have lU:=h.ai (n:=.skip) rfl rfl;exact call_of [.m hm,.v hi,.c,.c,.m kM,.v hk,.c,.c,.m lU,.v ha,.c,.c,.v hf,.c,.c,.c,.s (eu J r (aw tk ts q))]
theorem ab0(h:isNm t=true):n_ (t :: rest)=some (.ref t,rest):=by cases t<;>first|rfl|cases h
theorem ab1(h1:isNum rest[0]?=false)(h2:rest[0]?≠some .hV)(h3:sN rest[0]?=false):n_ rest=none:=by
 cases rest with
 |nil=>rfl
 |cons t rest=>cases t<;>first|rfl|exact Bool.noConfusion (show true=false from h1)|exact Bool.noConfusion (show true=false from h3)|exact absurd rfl h2
theorem aca(hF:1000<=F)(h:RD J r tk ts rest)(aW:eY rest=true)(oM:js rest[0]?=false)(u:V):Rd J r tk ts (n_ rest) (ah F ae (k+9) 226 [.ref r,u] J):=by
 have hi:=OX (F:=F) (k:=k+3) h oM;cases vb:isNum rest[0]? with
 |true=>
  cases rest with
  |nil=>cases vb
  |cons t rest=>
   have hs:=Zi (k:=k+2) hF h vb;rw[vb]at hi;rcases Aq vb with rfl|rfl
   ·exact Nn h u hi hs
   ·exact Nn h u hi hs
 |false=>
  rw[vb]at hi;have hk:=AM (F:=F) (k:=k+5) h [108,105,116,101,114,97,108];rw[ac1]at hk;have ha:=zQ (k:=k+2) hF h (x:=[65,76,76]) rfl (FD _ (.inr (.inr rfl)) _);by_cases hz:rest[0]?=some .hV
  ·cases rest with
   |nil=>cases hz
   |cons t rest=>
    cases hz;exact acd h u hi hk ha (afB (F:=F) (k:=k+3) h)
  ·have hf:=afC (F:=F) (k:=k+3) h hz;have Nj:=acb (F:=F) (o:=none) h u hi hk ha hf;cases hn:sN rest[0]? with
   |true=>
    cases rest with
    |nil=>cases hn
    |cons t rest=>
     rw[ab0 hn];exact Nj.1 t rest (aaY (k:=k) hF h hn aW u)
   |false=>
    rw[ab1 vb hz hn];exact h.Hg (Nj.2 (aaU h hn u))
theorem acm:isNum (some t)=decide (t.k=.num):=Tok.ag (f:=fun t=>isNum (some t)) (g:=fun t=>decide (t.k=.num)) (by kernel_rfl) t
theorem ac0(h:RD J r tk ts rest):ah F ae (k+3) 293 [.ref r] J=some (.ok (.bool (isNum rest[0]?)),J):=by
 show aq F (ah F ae (k+2)) RQ [.ref r] J=_;have hm:=h.ai (n:=.peek) rfl rfl;have hp:=w8 (F:=F) (k:=k) h;have hq:ah F ae (k+2) 573 [.ref r,.int 1] J=some (.ok (pk ts rest 1),J):=qb h 1 ⋯;generalize ah F ae (k+2)=O at hp hq ⊢;cases hg:rest[0]? with
 |none=>
  rw[uE hg]at hp;generalize pk ts rest 1=y at hq;exact call_of [.m hm,.v hp,.m hm,.v hq,.c,.c,.c,.s (az J)]
 |some t=>
  rw[mN hg]at hp;rw[acm];by_cases hn:t.k=.num
  ·have hb:=OD hn;rw[decide_eq_true hn];cases vd:rest[1]? with
   |none=>
    rw[uE vd]at hq;exact call_of [.m hm,.v hp,.m hm,.v hq,.c,.c,.c,.c,.b hb,.c,.c,.c,.c,.s (az J)]
   |some u=>
    rw[mN vd]at hq;by_cases hs:u.k=.sign
    ·have hc:=acA (J:=J) (x:=u.k.w) (y:=[115,105,103,110]) (congrArg Kd.w hs);have hd:=uL (J:=J) (x:=u.w) (y:=[42,42]) (by cases u<;>decide);exact call_of [.m hm,.v hp,.m hm,.v hq,.c,.c,.c,.c,.b hb,.c,.c,.c,.c,.v hc,.c,.c,.c,.v hd,.c,.s (az J)]
    ·have hc:=uL (J:=J) (x:=u.k.w) (y:=[115,105,103,110]) (of_decide_eq_false (AJ hs));exact call_of [.m hm,.v hp,.m hm,.v hq,.c,.c,.c,.c,.b hb,.c,.c,.c,.c,.v hc,.c,.c,.c,.s (az J)]
  ·have hb:=OC hn;rw[decide_eq_false hn];generalize pk ts rest 1=y at hq;exact call_of [.m hm,.v hp,.m hm,.v hq,.c,.c,.c,.c,.b hb,.c,.s (az J)]
end
end
section
variable {F k:Nat}
abbrev Ps:=Nat->List Tok->Option (E×List Tok)
noncomputable def hd(t:Tok):List Tok->Option (List Tok)
 |[]=>none
 |u :: r=>if u=t then some r else none
theorem fk{l r:List Tok}(h:hd t l=some r):l=t :: r:=by
 cases l with
 |nil=>cases h
 |cons u l=>
  have h:(if u=t then some l else none)=some r:=h;split at h
  ·rename_i e;cases h;rw[e]
  ·cases h
theorem qE(h:hd t l=none):l[0]?≠some t:=fun e=>by
 cases l with
 |nil=>cases e
 |cons u l=>
  obtain rfl:u=t:=aU e;have h:(if u=u then some l else none)=none:=h;rw[if_pos rfl]at h;cases h
def brk(x:Option (E×List Tok)):Option (E×List Tok):=x.bind fun p=>(hd .rp p.2).map fun q=>(p.1,q)
def EE(ps:Ps)(d:Nat)(l:List Tok):Option (E×List Tok):=match hd .lp l with
 |some r=>brk (ps (d+1) r)
 |none=>n_ l
def gG(ps:Ps)(d:Nat)(l:List Tok):Option (E×List Tok):=cond (js l[0]?) none (EE ps d l)
noncomputable def qf:E->E
 |.num i=>.num (-i)
 |e=>e
def Ax(r:List Tok)(e:E):E:=cond (isNum r[0]?) (qf e) (.neg e)
def Ai(ps:Ps)(d:Nat)(l:List Tok):Option (E×List Tok):=match hd .minus l with
 |some r=>(gG ps d r).map fun x=>(Ax r x.1,x.2)
 |none=>gG ps d l
def xc(ps:Ps)(d:Nat)(l:List Tok):Option (E×List Tok):=match hd .plus l with
 |some r=>gG ps d r
 |none=>Ai ps d l
def qg(l:List Tok):Option (Tok×List Tok):=(hd .star l).map fun r=>(.star,r)
def kD(l:List Tok):Option (Tok×List Tok):=match hd .plus l with
 |some r=>some (.plus,r)
 |none=>(hd .minus l).map fun r=>(.minus,r)
noncomputable def kA(nx:List Tok->Option (Tok×List Tok))(pg:List Tok->Option (E×List Tok)):Nat->E->List Tok->Option (E×List Tok)
 |0,_,_=>none
 |n+1,e,l=>match nx l with
  |some p=>(pg p.2).bind fun q=>kA nx pg n (.bin p.1 e q.1) q.2
  |none=>some (e,l)
def mQ(nx:List Tok->Option (Tok×List Tok))(pg:List Tok->Option (E×List Tok))(l:List Tok):Option (E×List Tok):=(pg l).bind fun p=>kA nx pg (p.2.length+1) p.1 p.2
def n9(ps:Ps)(d:Nat):List Tok->Option (E×List Tok):=mQ qg (xc ps d)
noncomputable def cA:Nat->Ps
 |0,_,_=>none
 |n+1,d,l=>if 20<d then none else mQ kD (n9 (cA n) d) l
def Sh(q l:List Tok):Prop:=q <:+ l/\q.length<l.length
def Suf(ps:Ps):Prop:=∀ d l e q,ps d l=some (e,q)->Sh q l
theorem Sh.one{r:List Tok}:Sh r (t :: r):=⟨ml _ _,eQ _⟩
theorem Sh.trans(h:Sh a b)(h':b <:+ c):Sh a c:=⟨h.1.trans h',dN h.2 h'.length_le⟩
theorem Sh.cons(h:Sh q l):Sh q (t :: l):=h.trans (ml _ _)
theorem Sh.hd{q l r:List Tok}(h:hd t l=some r)(h':Sh q r):Sh q l:=fk h▸h'.cons
theorem gB{α β:Type}{o:Option α}{f:α->Option β}{b:β}(h:o.bind f=some b):∃ a,o=some a/\f a=some b:=f6.mp h
theorem gq{α β:Type}{o:Option α}{f:α->β}{b:β}(h:o.map f=some b):∃ a,o=some a/\f a=b:=eO.mp h
theorem XO(h:n_ l=some (e,q)):Sh q l:=by
 cases l with
 |nil=>cases h
 |cons t r=>obtain⟨e',_,h2⟩:=gq h;cases h2;exact Sh.one
theorem XQ(h:brk x=some (e,q))(hx:∀ p,x=some p->Sh p.2 l):Sh q l:=by
 obtain⟨p,h1,h⟩:=gB h;obtain⟨r,h2,h⟩:=gq h;cases h;exact((fk h2▸Sh.one:Sh q p.2)).trans (hx p h1).1
theorem zL(hs:Suf ps):Suf (gG ps):=fun d l e q h=>by
 have h:cond (js l[0]?) none (EE ps d l)=some (e,q):=h;cases hp:js l[0]? with
 |true=>rw[hp]at h;cases h
 |false=>
  rw[hp]at h;have h:(match hd .lp l with|some r=>brk (ps (d+1) r)|none=>n_ l)=some (e,q):=h;cases hl:hd .lp l with
  |some r=>rw[hl]at h;exact Sh.hd hl (XQ h fun p hp=>hs _ _ _ _ hp)
  |none=>rw[hl]at h;exact XO h
theorem DP(hs:Suf ps):Suf (xc ps):=fun d l e q h=>by
 have h:(match hd .plus l with|some r=>gG ps d r|none=>Ai ps d l)=some (e,q):=h;cases hl:hd .plus l with
 |some r=>rw[hl]at h;exact Sh.hd hl (zL hs _ _ _ _ h)
 |none=>
  rw[hl]at h;have h:(match hd .minus l with|some r=>(gG ps d r).map fun x=>(Ax r x.1,x.2)|none=>gG ps d l)=some (e,q):=h;cases hm:hd .minus l with
  |some r=>
   rw[hm]at h;obtain⟨x,h1,h2⟩:=gq h;cases h2;exact Sh.hd hm (zL hs _ _ _ _ h1)
  |none=>rw[hm]at h;exact zL hs _ _ _ _ h
def t4(nx:List Tok->Option (Tok×List Tok)):Prop:=∀ l p,nx l=some p->l=p.1 :: p.2
theorem E0:t4 qg:=fun l p h=>by
 obtain⟨r,h1,rfl⟩:=gq h;exact fk h1
theorem E2:t4 kD:=fun l p h=>by
 have h:(match hd .plus l with|some r=>some (.plus,r)|none=>(hd .minus l).map fun r=>(.minus,r))=some p:=h;cases hl:hd .plus l with
 |some r=>rw[hl]at h;cases h;exact fk hl
 |none=>
  rw[hl]at h;obtain⟨r,h1,rfl⟩:=gq h;exact fk h1
theorem LB{nx:List Tok->Option (Tok×List Tok)}{pg:List Tok->Option (E×List Tok)}(hn:t4 nx)(hp:∀ l e q,pg l=some (e,q)->Sh q l):∀ n e l e' q,kA nx pg n e l=some (e',q)->q <:+ l
 |0=>fun _ _ _ _ h=>by cases h
 |n+1=>fun e l e' q h=>by
  have h:(match nx l with|some p=>(pg p.2).bind fun q=>kA nx pg n (.bin p.1 e q.1) q.2|none=>some (e,l))=some (e',q):=h;cases hl:nx l with
  |some p=>
   rw[hl]at h;obtain⟨x,h1,h2⟩:=gB h;rw[hn l p hl];exact(LB hn hp _ _ _ _ _ h2).trans (hp _ _ _ h1).cons.1
  |none=>rw[hl]at h;cases h;exact Cz _
theorem LG{nx:List Tok->Option (Tok×List Tok)}{pg:List Tok->Option (E×List Tok)}(hn:t4 nx)(hp:∀ l e q,pg l=some (e,q)->Sh q l){l q:List Tok}{e:E}(h:mQ nx pg l=some (e,q)):Sh q l:=by
 obtain⟨p,h1,h2⟩:=gB h;have a:=hp _ _ _ h1;have b:=LB hn hp _ _ _ _ _ h2;exact⟨b.trans a.1,e_ b.length_le a.2⟩
theorem DN(hs:Suf ps):Suf (n9 ps):=fun d l e q h=>LG E0 (DP hs d) h
theorem pR:∀ n,Suf (cA n)
 |0=>fun d l e q h=>by cases h
 |n+1=>fun d l e q h=>by
  have h:(if 20<d then none else mQ kD (n9 (cA n) d) l)=some (e,q):=h;split at h
  ·cases h
  ·exact LG E2 (DN (pR n) d) h
def ft(n:Nat)(l:List Tok):Prop:=l.count .lp<n
theorem ft.bO(h:ft n l)(hq:q <:+ l):ft n q:=e_ (List.Sublist.count_le _ hq.sublist) h
def HP(O:ay)(a n:Nat)(ps:Ps):Prop:=∀ (J:LC) (r tk:Nat) (ts rest:List Tok) (d:Nat),RD J r tk ts rest->eY rest=true->ft n rest->Rd J r tk ts (ps d rest) (O a [.ref r,.int (d:Int)] J)
theorem Rd.err{J:LC}{r tk:Nat}{ts q:List Tok}{O:ay}(h:Rd (J.set r (aw tk ts q)) r tk ts none (O a as (J.set r (aw tk ts q)))):∃ q',q' <:+ ts/\O a as (J.set r (aw tk ts q))=some (.error J.length,J.set r (aw tk ts q')++[.exc]):=by
 obtain⟨q',h1,h2⟩:=h;exact⟨q',h1,by rw[h2,ef,pq]⟩
theorem Rd.ok{J:LC}{r tk:Nat}{ts q q2:List Tok}{O:ay}(h:Rd (J.set r (aw tk ts q)) r tk ts (some (e,q2)) (O a as (J.set r (aw tk ts q)))):O a as (J.set r (aw tk ts q))=some (.ok e.v,J.set r (aw tk ts q2)):=by
 rw[show O a as (J.set r (aw tk ts q))=_ from h,pq]
section
variable {O:ay}{J:LC}{r tk:Nat}{ts rest:List Tok}{d:Nat}
theorem abo(h:RD J r tk ts rest)(hs:O 265 [.ref r,.tup [.str [43],.str [45]]] J=some (.ok (.str (x :: y)),J))(hf:∀ m,O 587 [.ref r,.str m] J=some (.ok (.ref J.length),J++[.exc])) :
  C8 J r tk ts (aq F O qK [.ref r,.int d] J):=by
 have bF:=h.ai (n:=.fault) rfl rfl;have hf:=hf [97,110,32,111,112,101,114,97,110,100,32,105,115,32,97,115,107,101,100,32,104,101,114,101];have he:=si (lv:=[some (.ref r),none,none]) (nc J);refine h.Hg ?_;exact call_of [.v hs,.c,.c,.m bF,.v hf,.x he,.b (nA J),.s (eV J [Cell.exc])]
theorem abp(h:RD J r tk ts rest)(hs:O 265 [.ref r,.tup [.str [43],.str [45]]] J=some (.ok (.str []),J))(hk:O 674 [.ref r,.str [40]] J=some (.ok (.bool false),J))
  (ho:Rd J r tk ts o (O 226 [.ref r,.fE] J)):Rd J r tk ts o (aq F O qK [.ref r,.int d] J):=by
 have fF:=h.ai (n:=.lC) rfl rfl;cases o with
 |none=>
  obtain⟨q,hq,hx⟩:=ho;refine⟨q,hq,?_⟩;exact call_of [.v hs,.c,.c,.m fF,.v hk,.c,.c,.v hx,.b (j7 J r (aw tk ts q)),.s (je J r (aw tk ts q) [Cell.exc])]
 |some p=>
  obtain⟨e,q⟩:=p;have hx:O 226 [.ref r,.fE] J=some (.ok e.v,J.set r (aw tk ts q)):=ho;have hl:=e.low J.length;show aq F O qK [.ref r,.int d] J=_;exact call_of [.v hs,.c,.c,.m fF,.v hk,.c,.c,.v hx,.b hl,.s (eu J r (aw tk ts q))]
theorem abr(h:RD J r tk ts rest)(hs:O 265 [.ref r,.tup [.str [43],.str [45]]] J=some (.ok (.str []),J))(Bh:r0 <:+ ts)(hk:O 674 [.ref r,.str [40]] J=some (.ok (.bool true),J.set r (aw tk ts r0)))
  (ho:Rd (J.set r (aw tk ts r0)) r tk ts o (O 272 [.ref r,.int ((d:Int)+1)] (J.set r (aw tk ts r0)))) (hq:∀ e q,o=some (e,q)->q <:+ ts)
  (hy:∀ q,.rp :: q <:+ ts->O 681 [.ref r,.str [41]] (J.set r (aw tk ts (.rp :: q)))=some (.ok .none,J.set r (aw tk ts q)))
  (hn:∀ q,q <:+ ts->hd .rp q=none->O 681 [.ref r,.str [41]] (J.set r (aw tk ts q))=some (.error J.length,J.set r (aw tk ts q)++[.exc])) :
  Rd J r tk ts (brk o) (aq F O qK [.ref r,.int d] J):=by
 have fF:=h.ai (n:=.lC) rfl rfl;cases o with
 |none=>
  obtain⟨q,hq,hx⟩:=ho.err;refine⟨q,hq,?_⟩;exact call_of [.v hs,.c,.c,.m fF,.v hk,.c,.c,.c,.v hx,.b (j7 J r (aw tk ts q)),.s (je J r (aw tk ts q) [Cell.exc])]
 |some p=>
  obtain⟨e,q⟩:=p;have hx:=ho.ok;have hq:=hq e q rfl;have lU:=(h.set hq).ai (n:=.needSign) rfl rfl;show Rd J r tk ts ((hd .rp q).map fun q=>(e,q)) _;cases xM:hd .rp q with
  |some q'=>
   have e1:=fk xM;subst e1;have hy:=hy q' hq;have hl:=e.low J.length;show aq F O qK [.ref r,.int d] J=_;exact call_of [.v hs,.c,.c,.m fF,.v hk,.c,.c,.c,.v hx,.m lU,.v hy,.b hl,.s (eu J r (aw tk ts q'))]
  |none=>
   have hn:=hn q hq xM;refine⟨q,hq,?_⟩;exact call_of [.v hs,.c,.c,.m fF,.v hk,.c,.c,.c,.v hx,.m lU,.v hn,.b (j7 J r (aw tk ts q)),.s (je J r (aw tk ts q) [Cell.exc])]
end
theorem abJ(h:js o=true):∃ x y,mL o=x :: y:=by
 cases o with
 |none=>exact nf h
 |some t=>exact⟨(mL (some t)).headD 0,(mL (some t)).tail,of_decide_eq_true (Tok.on (q:=fun t=>js (some t)) (p:=fun t=>decide (mL (some t)=(mL (some t)).headD 0 :: (mL (some t)).tail)) (by kernel_rfl) h)⟩
theorem Na(h:js o=false):mL o=[]:=by
 cases o with
 |none=>rfl
 |some t=>exact of_decide_eq_true (Tok.on (q:=fun t=>!js (some t)) (p:=fun t=>decide (mL (some t)=[])) (by kernel_rfl) (by rw[h];rfl))
theorem abn(hF:1000<=F)(gW:Suf ps)(hs:HP (ah F ae (k+9)) 272 n ps):HP (ah F ae (k+10)) 307 (n+1) (gG ps):=fun J r tk ts rest d h aW bf=>by
 show Rd J r tk ts _ (aq F (ah F ae (k+9)) qK [.ref r,.int d] J);have d9:=wN (F:=F) (k:=k+6) h [[43],[45]];rw[D7]at d9;unfold gG;cases oM:js rest[0]? with
 |true=>
  obtain⟨x,y,e⟩:=abJ oM;rw[e]at d9;exact abo h d9 fun m=>tj (F:=F) (k:=k+6) h m
 |false=>
  rw[Na oM]at d9;show Rd J r tk ts (match hd .lp rest with|some r=>brk (ps (d+1) r)|none=>n_ rest) _;cases hl:hd .lp rest with
  |some r0=>
   have e1:=fk hl;subst e1;have Bh:=kr h.bO;have h1:=h.set Bh;have Gh:ft n r0:=by unfold ft at bf ⊢;rw[Vj]at bf;exact iH bf
   refine abr h d9 Bh (Mh (F:=F) (k:=k+4) h (x:=[40]) rfl) (hs _ r tk ts r0 (d+1) h1 (lI aW) Gh) (fun e q he=>(gW _ _ _ _ he).1.trans Bh) (fun q hq=>?_) fun q hq hn=>?_
   ·rw[EY (F:=F) (k:=k+3) (h.set hq) (x:=[41]) rfl,pq]
   ·rw[NJ (F:=F) (k:=k+3) (h.set hq) (x:=[41]) (by rw[O2];exact decide_eq_false (qE hn)) ⋯,ef]
  |none=>exact abp h d9 (zP (F:=F) (k:=k+4) h (x:=[40]) (by rw[AU];exact decide_eq_false (qE hl))) (aca (k:=k) hF h aW oM .fE)
end
section
variable {F k:Nat}
section
variable {f:Nat}{O:ay}{J:LC}{r tk:Nat}{ts rest:List Tok}{d:Nat}
theorem abE(hp:Rd J r tk ts o (O 307 [.ref r,.int d] J))(hq:∀ e q,o=some (e,q)->q <:+ ts)
  (hs:∀ q,q <:+ ts->O 265 [.ref r,.tup [.str [42,42]]] (J.set r (aw tk ts q))=some (.ok (.str []),J.set r (aw tk ts q))):Rd J r tk ts o (aq (f+1) O G2 [.ref r,.int d] J):=by
 cases o with
 |none=>
  obtain⟨q,hq,hx⟩:=hp;refine⟨q,hq,?_⟩;exact call_of [.v hx,.b (j7 J r (aw tk ts q)),.s (je J r (aw tk ts q) [Cell.exc])]
 |some p=>
  obtain⟨e,q⟩:=p;have hx:O 307 [.ref r,.int d] J=some (.ok e.v,J.set r (aw tk ts q)):=hp;have hs:=hs q (hq e q rfl);have hl:=e.low J.length;have hw:dH (fun lv=>dh O lv [none,none] (fO H3 1)) (aD (f+1) O [none,none] (cq H3 1)) (f+1) [some (.ref r),some (.int d),some e.v] (J.set r (aw tk ts q))=some (.ok .next,[some (.ref r),some (.int d),some e.v],J.set r (aw tk ts q)):=by
   exact bX [.v hs,.c,.c]
  show aq (f+1) O G2 [.ref r,.int d] J=_;exact call_of [.v hx,.x hw,.b hl,.s (eu J r (aw tk ts q))]
theorem afK(hs:O 265 [.ref r,.tup [.str [43],.str [45]]] J=some (.ok (.str []),J))(hp:Rd J r tk ts o (O 300 [.ref r,.int d] J)):Rd J r tk ts o (aq F O qL [.ref r,.int d] J):=by
 cases o with
 |none=>
  obtain⟨q,hq,hx⟩:=hp;refine⟨q,hq,?_⟩;exact call_of [.v hs,.c,.c,.v hx,.b (j7 J r (aw tk ts q)),.s (je J r (aw tk ts q) [Cell.exc])]
 |some p=>
  obtain⟨e,q⟩:=p;have hx:O 300 [.ref r,.int d] J=some (.ok e.v,J.set r (aw tk ts q)):=hp;have hl:=e.low J.length;show aq F O qL [.ref r,.int d] J=_;exact call_of [.v hs,.c,.c,.v hx,.b hl,.s (eu J r (aw tk ts q))]
theorem afJ(h:RD J r tk ts rest)(hs:O 265 [.ref r,.tup [.str [43],.str [45]]] J=some (.ok (.str [43]),J))(ht:O 594 [.ref r] J=some (.ok v,J.set r (aw tk ts r0)))
  (hp:Rd (J.set r (aw tk ts r0)) r tk ts o (O 300 [.ref r,.int d] (J.set r (aw tk ts r0)))):Rd J r tk ts o (aq F O qL [.ref r,.int d] J):=by
 have fF:=h.ai (n:=.take) rfl rfl;cases o with
 |none=>
  obtain⟨q,hq,hx⟩:=hp.err;refine⟨q,hq,?_⟩;exact call_of [.v hs,.c,.c,.m fF,.v ht,.c,.c,.c,.v hx,.b (j7 J r (aw tk ts q)),.s (je J r (aw tk ts q) [Cell.exc])]
 |some p=>
  obtain⟨e,q⟩:=p;have hx:=hp.ok;have hl:=e.low J.length;show aq F O qL [.ref r,.int d] J=_;exact call_of [.v hs,.c,.c,.m fF,.v ht,.c,.c,.c,.v hx,.c,.c,.c,.c,.b hl,.s (eu J r (aw tk ts q))]
theorem afL(h:RD J r tk ts rest)(hs:O 265 [.ref r,.tup [.str [43],.str [45]]] J=some (.ok (.str [45]),J))(ht:O 594 [.ref r] J=some (.ok v,J.set r (aw tk ts r0)))
  (hb:O 293 [.ref r] (J.set r (aw tk ts r0))=some (.ok (.bool b),J.set r (aw tk ts r0))) (hi:b=true->∀ e q,o=some (e,q)->∃ i,e=.num i) (hg:∀ (q:List Tok) (i:Int),O 96 [.tup [.int i,.int 0]] (J.set r (aw tk ts q))=some (.ok (.tup [.int (-i),.int 0]),J.set r (aw tk ts q)))
  (hp:Rd (J.set r (aw tk ts r0)) r tk ts o (O 300 [.ref r,.int d] (J.set r (aw tk ts r0)))):Rd J r tk ts (o.map fun x=>(cond b (qf x.1) (.neg x.1),x.2)) (aq F O qL [.ref r,.int d] J):=by
 have fF:=h.ai (n:=.take) rfl rfl;cases o with
 |none=>
  obtain⟨q,hq,hx⟩:=hp.err;refine⟨q,hq,?_⟩;cases b with
  |true=>exact call_of [.v hs,.c,.c,.m fF,.v ht,.c,.c,.c,.v hb,.v hx,.b (j7 J r (aw tk ts q)),.s (je J r (aw tk ts q) [Cell.exc])]
  |false=>exact call_of [.v hs,.c,.c,.m fF,.v ht,.c,.c,.c,.v hb,.v hx,.b (j7 J r (aw tk ts q)),.s (je J r (aw tk ts q) [Cell.exc])]
 |some p=>
  obtain⟨e,q⟩:=p;have hx:=hp.ok;show aq F O qL [.ref r,.int d] J=_;cases b with
  |true=>
   obtain⟨i,rfl⟩:=hi rfl e q rfl;have hg:=hg q i;have hl:=(E.num (-i)).low J.length;clear hi;exact call_of [.v hs,.c,.c,.m fF,.v ht,.c,.c,.c,.v hb,.v hx,.c,.c,.c,.v hg,.c,.s (eu J r (aw tk ts q))]
  |false=>
   have hl:=(E.neg e).low J.length;clear hi hg;exact call_of [.v hs,.c,.c,.m fF,.v ht,.c,.c,.c,.v hb,.v hx,.c,.c,.c,.c,.b hl,.s (eu J r (aw tk ts q))]
end
theorem abD(hF:1000<=F)(gW:Suf ps)(hs:HP (ah F ae (k+4)) 307 n ps):HP (ah F ae (k+5)) 300 n ps:=fun J r tk ts rest d h aW bf=>by
 obtain⟨f,rfl⟩:=fuel 1 hF ⋯;refine abE (O:=ah (f+1) ae (k+4)) (hs J r tk ts rest d h aW bf) (fun e q he=>(gW _ _ _ _ he).1.trans h.bO) fun q hq=>?_;have:=wN (F:=f+1) (k:=k+1) (h.set hq) [[42,42]];rwa[ZC]at this
theorem abq{d:Nat}(h:gG ps d l=some (e,q))(hn:isNum l[0]?=true):∃ i,e=.num i:=by
 cases l with
 |nil=>cases hn
 |cons t l=>rcases Aq hn with rfl|rfl<;>cases h<;>exact⟨_,rfl⟩
theorem afI(hF:1000<=F)(gW:Suf ps)(hs:HP (ah F ae (k+5)) 300 n (gG ps)):HP (ah F ae (k+6)) 286 n (xc ps):=fun J r tk ts rest d h aW bf=>by
 have d9:=wN (F:=F) (k:=k+2) h [[43],[45]];rw[D7]at d9;show Rd J r tk ts (match hd .plus rest with|some r=>gG ps d r|none=>Ai ps d rest) (aq F (ah F ae (k+5)) qL [.ref r,.int d] J);cases hl:hd .plus rest with
 |some r0=>
  have e:=fk hl;subst e;exact afJ h d9 (mA (F:=F) (k:=k+1) h) (hs _ r tk ts r0 d (h.set (kr h.bO)) (lI aW) (bf.bO (ml _ _)))
 |none=>
  show Rd J r tk ts (match hd .minus rest with|some r=>(gG ps d r).map fun x=>(Ax r x.1,x.2)|none=>gG ps d rest) _;cases hm:hd .minus rest with
  |some r0=>
   have e:=fk hm;subst e;have h1:=h.set (kr h.bO);exact afL h d9 (mA (F:=F) (k:=k+1) h) (ac0 (F:=F) (k:=k+2) h1) (fun hb e q he=>abq he hb) (fun q i=>acy (F:=F) (k:=k+3) i 0) (hs _ r tk ts r0 d h1 (lI aW) (bf.bO (ml _ _)))
  |none=>
   rewrite [Na (by
    have h1:=qE hl;have h2:=qE hm;cases hg:rest[0]? with
    |none=>rfl
    |some t=>rw[hg]at h1 h2;cases t<;>first|rfl|exact absurd rfl h1|exact absurd rfl h2)]at d9
   exact afK d9 (hs J r tk ts rest d h aW bf)
def Lp(J:LC)(r tk:Nat)(ts:List Tok)(d:Nat)(o:Option (E×List Tok))(x:Option (Except Nat Fl×LV×LC)):Prop:=match o with
 |some (e,q)=>∃ x3,x=some (.ok .next,[some (.ref r),some (.int d),some e.v,x3],J.set r (aw tk ts q))
 |none=>∃ q aJ,q <:+ ts/\x=some (.error J.length,aJ,J.set r (aw tk ts q)++[.exc])
theorem Lp.set{J:LC}{r tk:Nat}{ts q0:List Tok}{d:Nat}(h:Lp (J.set r (aw tk ts q0)) r tk ts d o x):Lp J r tk ts d o x:=by
 cases o with
 |none=>
  obtain⟨q,aJ,h1,h2⟩:=h;exact⟨q,aJ,h1,by rw[h2,ef,pq]⟩
 |some eq=>
  obtain⟨x3,h2⟩:=h;exact⟨x3,by rw[h2,pq]⟩
structure Turn(O:ay)(W:Nat->Ex)(ws:List V)(fa:Nat):Prop where
 stop:∀ (n:Nat) (J:LC) (r d:Nat) (e:E) (x3:Option V),O 265 [.ref r,.tup ws] J=some (.ok (.str []),J)->W (n+1) [some (.ref r),some (.int (d:Int)),some e.v,x3] J=some (.ok .next,[some (.ref r),some (.int d),some e.v,x3],J)
 err:∀ (n:Nat) (J:LC) (r tk d m:Nat) (ts r0 q:List Tok) (e:E) (x3:Option V) (t:Tok) (x:Nat) (w:List Nat),bU J (.ref r) .take=some (.fn 594,true)->O 265 [.ref r,.tup ws] J=some (.ok (.str (x :: w)),J)->O 594 [.ref r] J=some (.ok (fQ m t),J.set r (aw tk ts r0)) ->
  O fa [.ref r,.int (d:Int)] (J.set r (aw tk ts r0))=some (.error J.length,J.set r (aw tk ts q)++[.exc])->W (n+1) [some (.ref r),some (.int (d:Int)),some e.v,x3] J=some (.error J.length,[some (.ref r),some (.int d),some e.v,some (.str t.w)],J.set r (aw tk ts q)++[.exc])
 go:∀ (n:Nat) (J:LC) (r tk d m:Nat) (ts r0 q:List Tok) (e f:E) (x3:Option V) (t:Tok) (x:Nat) (w:List Nat) (z:Except Nat Fl×LV×LC),bU J (.ref r) .take=some (.fn 594,true)->O 265 [.ref r,.tup ws] J=some (.ok (.str (x :: w)),J)->O 594 [.ref r] J=some (.ok (fQ m t),J.set r (aw tk ts r0)) ->
  O fa [.ref r,.int (d:Int)] (J.set r (aw tk ts r0))=some (.ok f.v,J.set r (aw tk ts q))->W n [some (.ref r),some (.int d),some (E.bin t e f).v,some (.str t.w)] (J.set r (aw tk ts q))=some z->W (n+1) [some (.ref r),some (.int (d:Int)),some e.v,x3] J=some z
theorem Tok.ud(t:Tok):∃ a b,t.w=a :: b:=⟨t.w.headD 0,t.w.tail,Tok.ag (f:=fun t=>t.w) (g:=fun t=>t.w.headD 0 :: t.w.tail) (by kernel_rfl) t⟩
theorem SR{O:ay}{W:Nat->Ex}{ws:List (List Nat)}{fa n:Nat}(T:Turn O W (ws.map V.str) fa){nx:List Tok->Option (Tok×List Tok)}{pg:Nat->List Tok->Option (E×List Tok)}(hn:t4 nx)
  (d9:∀ J r tk ts rest,RD J r tk ts rest->O 265 [.ref r,.tup (ws.map V.str)] J=some (.ok (.str (match nx rest with|some p=>p.1.w|none=>[])),J)) (ht:∀ J r tk ts t rest,RD J r tk ts (t :: rest)->∃ m,O 594 [.ref r] J=some (.ok (fQ m t),J.set r (aw tk ts rest)))
  (gW:Suf pg) (hs:HP O fa n pg) (d r tk:Nat) (ts:List Tok) (m:Nat):∀ (F':Nat) (J:LC) (rest:List Tok) (e:E) (x3:Option V),RD J r tk ts rest->eY rest=true->ft n rest->rest.length<m->rest.length<F' ->
  Lp J r tk ts d (kA nx (pg d) m e rest) (W F' [some (.ref r),some (.int d),some e.v,x3] J):=by
 induction m with
 |zero=>exact fun _ _ _ _ _ _ _ _ h _=>absurd h (hJ _)
 |succ m IH=>
  intro F' J rest e x3 h aW bf hm yd;cases F' with
  |zero=>exact absurd yd (hJ _)
  |succ F'=>
  have sR:=d9 J r tk ts rest h;show Lp J r tk ts d (match nx rest with|some p=>(pg d p.2).bind fun q=>kA nx (pg d) m (.bin p.1 e q.1) q.2|none=>some (e,rest)) _;cases hx:nx rest with
  |none=>
   rw[hx]at sR;exact⟨x3,by rw[T.stop _ _ _ _ _ _ sR,h.same]⟩
  |some p=>
   obtain⟨t,r0⟩:=p;rw[hx]at sR;have e1:=hn _ _ hx;subst e1;have fF:=h.ai (n:=.take) rfl rfl;obtain⟨m0,ni⟩:=ht _ _ _ _ _ _ h;obtain⟨w0,w1,hw⟩:=t.ud;have sR:O 265 [.ref r,.tup (ws.map V.str)] J=some (.ok (.str (w0 :: w1)),J):=by rw[sR,<-hw]
   have hf:=hs _ r tk ts r0 d (h.set (kr h.bO)) (lI aW) (bf.bO (ml _ _));show Lp J r tk ts d ((pg d r0).bind fun q=>kA nx (pg d) m (.bin t e q.1) q.2) _;cases xO:pg d r0 with
   |none=>
    rw[xO]at hf;obtain⟨q,hq,hx⟩:=hf.err;exact⟨q,_,hq,T.err _ _ _ _ _ _ _ _ _ _ _ _ _ _ fF sR ni hx⟩
   |some eq=>
    obtain⟨f,q⟩:=eq;rw[xO]at hf;have cP:=gW _ _ _ _ xO
    have ih:=(IH F' _ q (.bin t e f) (some (.str t.w)) (h.set (cP.1.trans (kr h.bO))) (og (lI aW) cP.1) ((bf.bO (ml _ _)).bO cP.1)
     (pE cP.2 (iH hm)) (pE cP.2 (iH yd))).set
    have go:=fun z (hz:W F' [some (.ref r),some (.int (d:Int)),some (E.bin t e f).v,some (.str t.w)] (J.set r (aw tk ts q))=some z)=>T.go F' J r tk d m0 ts r0 q e f x3 t w0 w1 z fF sR ni hf.ok hz;show Lp J r tk ts d (kA nx (pg d) m (.bin t e f) q) _;revert ih;cases kA nx (pg d) m (.bin t e f) q with
    |none=>intro ih;obtain⟨q',aJ,h1,h2⟩:=ih;exact⟨q',aJ,h1,go _ h2⟩
    |some x=>intro ih;obtain⟨y3,h2⟩:=ih;exact⟨y3,go _ h2⟩
section
variable {O:ay}
theorem Xa:Turn O (dH (fun lv=>dh O lv [none,none] (fO yL 1)) (aD F O [none,none] (cq yL 1))) [.str [42],.str [47]] 286 where
 stop n J r d e x3 hs:=by
  exact bX [.v hs,.c,.c]
 err n J r tk d m ts r0 q e x3 t x w hm hs ht hx:=by
  exact bX [.v hs,.c,.c,.m hm,.v ht,.c,.v hx]
 go n J r tk d m ts r0 q e f x3 t x w z hm hs ht hx hz:=by
  exact bX [.v hs,.c,.c,.m hm,.v ht,.c,.v hx,.x hz]
theorem W_:Turn O (dH (fun lv=>dh O lv [none,none] (fO yK 2)) (aD F O [none,none] (cq yK 2))) [.str [43],.str [45]] 279 where
 stop n J r d e x3 hs:=by
  exact bX [.v hs,.c,.c]
 err n J r tk d m ts r0 q e x3 t x w hm hs ht hx:=by
  exact bX [.v hs,.c,.c,.m hm,.v ht,.c,.v hx]
 go n J r tk d m ts r0 q e f x3 t x w z hm hs ht hx hz:=by
  exact bX [.v hs,.c,.c,.m hm,.v ht,.c,.v hx,.x hz]
end
end
section
variable {F k:Nat}
section
variable {O:ay}{J:LC}{r tk:Nat}{ts rest:List Tok}{d:Nat}
theorem abm(hp:Rd J r tk ts o (O 286 [.ref r,.int d] J))
  (hl:∀ e q,o=some (e,q)->Lp J r tk ts d (g (e,q)) (dH (fun lv=>dh O lv [none,none] (fO yL 1)) (aD F O [none,none] (cq yL 1)) F [some (.ref r),some (.int d),some e.v,none] (J.set r (aw tk ts q)))) :
  Rd J r tk ts (o.bind g) (aq F O G1 [.ref r,.int d] J):=by
 cases o with
 |none=>
  obtain⟨q,hq,hx⟩:=hp;refine⟨q,hq,?_⟩;clear hl;exact call_of [.v hx,.b (j7 J r (aw tk ts q)),.s (je J r (aw tk ts q) [Cell.exc])]
 |some p=>
  obtain⟨e,q⟩:=p;have hx:O 286 [.ref r,.int d] J=some (.ok e.v,J.set r (aw tk ts q)):=hp;have hl:=hl e q rfl;show Rd J r tk ts (g (e,q)) _;revert hl;cases g (e,q)with
  |none=>
   intro hl;obtain⟨q',aJ,oK,hw⟩:=hl;refine⟨q',oK,?_⟩;exact call_of [.v hx,.x hw,.b (j7 J r (aw tk ts q')),.s (je J r (aw tk ts q') [Cell.exc])]
  |some p'=>
   intro hl;obtain⟨e',q'⟩:=p';obtain⟨x3,hw⟩:=hl;have sU:=e'.low J.length;show aq F O G1 [.ref r,.int d] J=_;exact call_of [.v hx,.x hw,.b sU,.s (eu J r (aw tk ts q'))]
theorem XM(hd:d<=20)(hp:Rd J r tk ts o (O 279 [.ref r,.int d] J))
  (hl:∀ e q,o=some (e,q)->Lp J r tk ts d (g (e,q)) (dH (fun lv=>dh O lv [none,none] (fO yK 2)) (aD F O [none,none] (cq yK 2)) F [some (.ref r),some (.int d),some e.v,none] (J.set r (aw tk ts q)))) :
  Rd J r tk ts (o.bind g) (aq F O yp [.ref r,.int d] J):=by
 have hg:decide ((d:Int)>20)=false:=decide_eq_false (Ke.mpr (nN.mpr hd));cases o with
 |none=>
  obtain⟨q,hq,hx⟩:=hp;refine⟨q,hq,?_⟩;clear hl;exact call_of [.c,.b hg,.v hx,.b (j7 J r (aw tk ts q)),.s (je J r (aw tk ts q) [Cell.exc])]
 |some p=>
  obtain⟨e,q⟩:=p;have hx:O 279 [.ref r,.int d] J=some (.ok e.v,J.set r (aw tk ts q)):=hp;have hl:=hl e q rfl;show Rd J r tk ts (g (e,q)) _;revert hl;cases g (e,q)with
  |none=>
   intro hl;obtain⟨q',aJ,oK,hw⟩:=hl;refine⟨q',oK,?_⟩;exact call_of [.c,.b hg,.v hx,.x hw,.b (j7 J r (aw tk ts q')),.s (je J r (aw tk ts q') [Cell.exc])]
  |some p'=>
   intro hl;obtain⟨e',q'⟩:=p';obtain⟨x3,hw⟩:=hl;have sU:=e'.low J.length;show aq F O yp [.ref r,.int d] J=_;exact call_of [.c,.b hg,.v hx,.x hw,.b sU,.s (eu J r (aw tk ts q'))]
theorem XK(h:RD J r tk ts rest)(hd:20<d)(hf:O 587 [.ref r,.str [98,114,97,99,107,101,116,115,32,97,114,101,32,110,101,115,116,101,100,32,116,111,111,32,100,101,101,112]] J=some (.ok (.ref J.length),J++[.exc])) :
  C8 J r tk ts (aq F O yp [.ref r,.int d] J):=by
 have hg:decide ((d:Int)>20)=true:=decide_eq_true (e8.mpr hd);have hm:=h.ai (n:=.fault) rfl rfl;have he:=si (lv:=[some (.ref r),some (.int d),none,none]) (nc J);refine h.Hg ?_;exact call_of [.c,.b hg,.m hm,.v hf,.x he,.b (nA J),.s (eV J [Cell.exc])]
theorem afM(hp:Rd J r tk ts o (O 272 [.ref r,.int 0] J)):Rd J r tk ts o (aq F O G4 [.ref r] J):=by
 cases o with
 |none=>
  obtain⟨q,hq,hx⟩:=hp;refine⟨q,hq,?_⟩;exact call_of [.v hx,.b (j7 J r (aw tk ts q)),.s (je J r (aw tk ts q) [Cell.exc])]
 |some p=>
  obtain⟨e,q⟩:=p;have hx:O 272 [.ref r,.int 0] J=some (.ok e.v,J.set r (aw tk ts q)):=hp;have sU:=e.low J.length;show aq F O G4 [.ref r] J=_;exact call_of [.v hx,.b sU,.s (eu J r (aw tk ts q))]
end
theorem acG(l:List Tok):LW l[0]?=(match qg l with|some p=>p.1.w|none=>[]):=by
 cases l with
 |nil=>rfl
 |cons t l=>cases t<;>rfl
theorem acH(l:List Tok):mL l[0]?=(match kD l with|some p=>p.1.w|none=>[]):=by
 cases l with
 |nil=>rfl
 |cons t l=>cases t<;>rfl
theorem room{J:LC}{r tk:Nat}{ts rest q:List Tok}(hF:200000<=F)(h:RD J r tk ts rest)(hq:q <:+ rest):q.length<F:=
 e_ (ak hq.length_le (ak h.le h.len)) (dN ⋯ hF)
theorem abk(hF:200000<=F)(gW:Suf ps)(hs:HP (ah F ae (k+4)) 286 n (xc ps)):HP (ah F ae (k+5)) 279 n (n9 ps):=fun J r tk ts rest d h aW bf=>
 abm (O:=ah F ae (k+4)) (hs J r tk ts rest d h aW bf) fun e q he=>by
  have cP:=DP gW _ _ _ _ he
  exact(SR (ws:=[[42],[47]]) Xa E0 (fun J r tk ts rest h=>by
   have:=wN (F:=F) (k:=k+1) h [[42],[47]]
   rwa[ZA,acG]at this) (fun J r tk ts t rest h=>⟨_,mA (F:=F) (k:=k) h⟩) (DP gW) hs d r tk ts (q.length+1) F _ q e none (h.set (cP.1.trans h.bO)) (og aW cP.1) (bf.bO cP.1) (eQ _) (room hF h cP.1)).set
theorem XJ(hF:200000<=F)(hs:HP (ah F ae (k+4)) 279 (n+1) (n9 (cA n))):HP (ah F ae (k+5)) 272 (n+1) (cA (n+1)):=fun J r tk ts rest d h aW bf=>by
 show Rd J r tk ts (if 20<d then none else mQ kD (n9 (cA n) d) rest) (aq F (ah F ae (k+4)) yp [.ref r,.int d] J);split
 ·rename_i hd;exact XK h hd (tj (F:=F) (k:=k+1) h _)
 ·rename_i hd;exact XM (Cy hd) (hs J r tk ts rest d h aW bf) fun e q he=>by
   have cP:=DN (pR n) _ _ _ _ he
   exact(SR (ws:=[[43],[45]]) W_ E2 (fun J r tk ts rest h=>by
    have:=wN (F:=F) (k:=k+1) h [[43],[45]]
    rwa[D7,acH]at this) (fun J r tk ts t rest h=>⟨_,mA (F:=F) (k:=k) h⟩) (DN (pR n)) hs d r tk ts (q.length+1) F _ q e none (h.set (cP.1.trans h.bO)) (og aW cP.1) (bf.bO cP.1) (eQ _) (room hF h cP.1)).set
theorem sums(hF:200000<=F):∀ (n k:Nat),HP (ah F ae (k+9+5*n)) 272 n (cA n)
 |0=>fun k=>fun J r tk ts rest d h aW bf=>absurd bf (hJ _)
 |n+1=>fun k=>by
  have yc:1000<=F:=ak ⋯ hF;have ih:=sums hF n k;rw[show k+9+5*n=(k+5*n)+9 by lia]at ih;rw[show k+9+5*(n+1)=k+5*n+9+5 by lia];exact XJ (k:=k+5*n+9) hF (abk (k:=k+5*n+8) hF (pR n) (afI (k:=k+5*n+6) yc (pR n) (abD (k:=k+5*n+6) yc (zL (pR n)) (abn (k:=k+5*n) yc (pR n) ih))))
theorem aa1(hF:200000<=F)(n:Nat){J:LC}{r tk:Nat}{ts rest:List Tok}(h:RD J r tk ts rest)(aW:eY rest=true)(bf:ft n rest) :
  Rd J r tk ts (cA n 0 rest) (ah F ae (k+10+5*n) 258 [.ref r] J):=by
 have hp:Rd J r tk ts (cA n 0 rest) (ah F ae (k+9+5*n) 272 [.ref r,.int 0] J):=sums hF n k J r tk ts rest 0 h aW bf;have:=afM (F:=F) hp;rw[show k+9+5*n=(k+8+5*n)+1 by lia]at this;rw[show k+10+5*n=(k+8+5*n)+2 by lia];exact this
end
section
variable {F k:Nat}
noncomputable def Rs.w:Rs->List Nat
 |.eq=>[61]|.lt=>[60]|.gt=>[62]|.le=>[60,61]|.ge=>[62,61]|.ne=>[60,62]
noncomputable def Rs.lH:Rs->Rs
 |.eq=>.ne|.ne=>.eq|.lt=>.ge|.ge=>.lt|.gt=>.le|.le=>.gt
noncomputable def sf:Tok->Option Rs
 |.eq=>some .eq|.lt=>some .lt|.gt=>some .gt|.le=>some .le|.ge=>some .ge|_=>none
inductive C where
 |named (t:Tok)
 |cls (t:Tok) (e:E)
 |sgn (t:Tok) (e:E)
 |rel (s:Rs) (a b:E)
 |not (c:C)
 |and (a b:C)
 |or (a b:C)
noncomputable def C.v:C->V
 |.named t=>.tup [.str [110,97,109,101,100],(E.ref t).v]
 |.cls t e=>.tup [.str [99,108,97,115,115],.str t.w,e.v]
 |.sgn t e=>.tup [.str [115,105,103,110],.str t.w,e.v]
 |.rel s a b=>.tup [.str [114,101,108],.str s.w,a.v,b.v]
 |.not c=>.tup [.str [110,111,116],c.v]
 |.and a b=>.tup [.str [97,110,100],a.v,b.v]
 |.or a b=>.tup [.str [111,114],a.v,b.v]
theorem sD(h:a=true):(a&&true)=true:=by rw[h];rfl
theorem C.low(n:Nat):∀ c:C,low n c.v=true
 |.named t=>rfl
 |.cls t e=>sD (e.low n)
 |.sgn t e=>sD (e.low n)
 |.rel s a b=>lN (a.low n) (b.low n)
 |.not c=>sD (C.low n c)
 |.and a b=>lN (C.low n a) (C.low n b)
 |.or a b=>lN (C.low n a) (C.low n b)
abbrev Last:=Option (E×Rs)
def xu:Last->V
 |none=>.none
 |some p=>.tup [p.1.v,.str p.2.w]
def cY:Option Tok->Bool
 |some t=>(sf t).isSome
 |none=>false
noncomputable def lR:Tok->Bool
 |.rq|.rI|.rJ=>true
 |_=>false
noncomputable def kI:Tok->Bool
 |.ri|.rA|.hV=>true
 |_=>false
def vG:Option Tok->Bool
 |some t=>lR t
 |none=>false
def wQ:Option Tok->Bool
 |some t=>kI t
 |none=>false
def jT(o:Option Tok):Bool:=cY o||(vG o||wQ o)
noncomputable def aQ(t:Tok)(l:List Tok):List Tok:=if l[0]?=some t then l.tail else l
noncomputable def bQ(l:List Tok):Nat:=if l[0]?=some .IS then (if l[1]?=some .aV then 2 else 1) else (if l[0]?=some .aV then 1 else 0)
theorem Ag(l:List Tok):bQ l<=10000:=by
 unfold bQ;split<;>split<;>exact bh rfl
noncomputable def Kx:List Tok:=[.A,.B,.FX,.FY,.IS,.aV,.lh,.OR,.rq,.rI,.rJ,.ri,.rA,.hV]
theorem KW:∀ {t:Tok},t.k=.word->Kx.find? (fun u=>decide (u.w=t.w))=some t:=fun {t} h=>Tok.k8 (f:=fun t=>Kx.find? (fun u=>decide (u.w=t.w))) (g:=some) (by kernel_rfl) h
theorem Ky{u t:Tok}(hu:u.k=.word)(ht:t.k=.word)(h:u.w=t.w):u=t:=by
 have:=KW hu;rw[h,KW ht]at this;exact(aU this).symm
section
variable {J:LC}{r tk:Nat}{ts rest:List Tok}
theorem mE(t:Tok)(l:List Tok):aQ t l <:+ l:=by
 unfold aQ;split
 ·exact List.tail_suffix l
 ·exact Cz _
theorem wK(hF:1000<=F)(h:RD J r tk ts rest)(t:Tok)(hx:lB.lookup t.w=some [t.w])(hk:t.k=.word) :
  ah F ae (k+6) 616 [.ref r,.str t.w] J=some (.ok (.bool (decide (rest[0]?=some t))),J.set r (aw tk ts (aQ t rest))):=by
 by_cases ht:rest[0]?=some t
 ·cases rest with
  |nil=>cases ht
  |cons u rest=>
   have e:t=u:=(aU ht).symm;subst e;rw[show decide ((t :: rest)[0]?=some t)=true from decide_eq_true rfl,show aQ t (t :: rest)=rest from if_pos rfl];exact YY (F:=F) (k:=k) hF h hx (by show(decide _&&decide _)=true;rw[decide_eq_true hk,decide_eq_true (p:=t.w=t.w) rfl];rfl)
 ·have hw:xA t.w rest[0]?=false:=by
   cases hg:rest[0]? with
   |none=>rfl
   |some u=>
    rw[hg]at ht;show(decide (u.k=.word)&&decide (u.w=t.w))=false;by_cases hu:u.k=.word
    ·rw[decide_eq_false (p:=u.w=t.w) fun e=>ht (by rw[Ky hu hk e]),Bool.and_false]
    ·rw[decide_eq_false hu];rfl
  rw[decide_eq_false ht,show aQ t rest=rest from if_neg ht,h.same];exact zQ (F:=F) (k:=k) hF h hx hw
theorem KL(t:Tok):¬[]=t.w:=fun e=>by
 have h:t.w.isEmpty=false:=Tok.ag (f:=fun t=>t.w.isEmpty) (g:=fun _=>false) (by kernel_rfl) t;rw[<-e]at h;cases h
theorem KD{t:Tok}(ht:t.k=.word):∀ {o:Option Tok},wh o=t.w↔o=some t
 |none=>⟨fun e=>absurd e (KL t),fun e=>nomatch e⟩
 |some u=>by
  by_cases hu:u.k=.word
  ·rw[KC hu];exact⟨fun e=>congrArg some (Ky hu ht e),fun e=>congrArg Tok.w (aU e)⟩
  ·rw[KH hu];exact⟨fun e=>absurd e (KL t),fun e=>absurd ht (aU e▸hu)⟩
theorem Wz(o:Option Tok):(wh o=[73,83])↔o=some .IS:=KD (t:=.IS) rfl (o:=o)
theorem KG(o:Option Tok):(wh o=[78,79,84])↔o=some .aV:=KD (t:=.aV) rfl (o:=o)
theorem abO(h0:O 355 [.ref r] J=some (.ok (.str w0),J))(QE:O 355 [.ref r,.int 0] J=some (.ok (.str w0),J))(h1:O 355 [.ref r,.int 1] J=some (.ok (.str w1),J)) :
  aq F O Rw [.ref r] J=some (.ok (.int (if w0=[73,83] then (if w1=[78,79,84] then 2 else 1) else (if w0=[78,79,84] then 1 else 0))),J):=by
 by_cases hi:w0=[73,83]
 ·rw[if_pos hi];have e0:=yy (J:=J) hi;by_cases hn:w1=[78,79,84]
  ·rw[if_pos hn];have e1:=yy (J:=J) hn;exact call_of [.v h0,.v e0,.c,.v h1,.v e1,.c,.c,.c,.s (az J)]
  ·rw[if_neg hn];have e1:=kT (J:=J) hn;exact call_of [.v h0,.v e0,.c,.v h1,.v e1,.c,.c,.s (az J)]
 ·rw[if_neg hi];have e0:=kT (J:=J) hi;by_cases hn:w0=[78,79,84]
  ·rw[if_pos hn];have e1:=yy (J:=J) hn;exact call_of [.v h0,.v e0,.c,.v QE,.v e1,.c,.c,.c,.s (az J)]
  ·rw[if_neg hn];have e1:=kT (J:=J) hn;exact call_of [.v h0,.v e0,.c,.v QE,.v e1,.c,.c,.s (az J)]
theorem place_spec(h:RD J r tk ts rest):ah F ae (k+4) 369 [.ref r] J=some (.ok (.int (bQ rest:Nat)),J):=by
 have:=abO (F:=F) (O:=ah F ae (k+3)) (Kz (F:=F) (k:=k) h) (uc h 0 ⋯) (uc h 1 ⋯);refine this.trans ?_;unfold bQ;simp only[Wz,KG];split<;>split<;>rfl
theorem aaQ(t:Tok):bj .isIn (.str t.w) GH J=some (.ok (.bool (cY (some t))),J):=by cases t<;>rfl
theorem Ws:∀ o:Option Tok,bj .isIn (.str (wh o)) BE J=some (.ok (.bool false),J)
 |none=>rfl
 |some t=>by cases t<;>rfl
theorem SN:∀ o:Option Tok,bj .isIn (.str (wh o)) nt J=some (.ok (.bool (vG o)),J)
 |none=>rfl
 |some t=>by cases t<;>rfl
theorem agC:∀ o:Option Tok,bj .ig (.str (wh o)) nt J=some (.ok (.bool !(vG o)),J)
 |none=>rfl
 |some t=>by cases t<;>rfl
theorem Zy:∀ o:Option Tok,bj .isIn (.str (wh o)) lZ J=some (.ok (.bool (wQ o)),J)
 |none=>rfl
 |some t=>by cases t<;>rfl
theorem Zx:∀ o:Option Tok,bj .ig (.str (wh o)) lZ J=some (.ok (.bool !(wQ o)),J)
 |none=>rfl
 |some t=>by cases t<;>rfl
theorem aaP(h:¬t.k=.sign):cY (some t)=false:=by
 cases e:cY (some t)with
 |false=>rfl
 |true=>exact absurd (of_decide_eq_true (Tok.on (q:=fun t=>cY (some t)) (p:=fun t=>decide (t.k=.sign)) (by kernel_rfl) e)) h
theorem MR(h:RD J r tk ts rest)(a:Nat)(ha:a<=10000):ah F ae (k+4) 362 [.ref r,.int a] J=some (.ok (.bool (cY rest[a]?)),J):=by
 show aq F (ah F ae (k+3)) RK [.ref r,.int a] J=_;have hm:=h.ai (n:=.peek) rfl rfl;have hp:=qb (F:=F) (k:=k+1) h a ha;have hw:=uc (F:=F) (k:=k) h a ha;have A6:=Ws (J:=J) rest[a]?;generalize wh rest[a]?=w at hw A6;generalize ah F ae (k+3)=O at hp hw ⊢;cases hg:rest[a]? with
 |none=>
  rw[uE hg]at hp;exact call_of [.m hm,.v hp,.c,.c,.v hw,.v A6,.c,.s (az J)]
 |some t=>
  rw[mN hg]at hp;have hr:=aaQ (J:=J) t;by_cases hs:t.k=.sign
  ·have hb:=AI hs;revert hr;generalize cY (some t)=b;intro hr;cases b with
   |true=>exact call_of [.m hm,.v hp,.c,.c,.c,.c,.b hb,.c,.v hr,.c,.c,.s (az J)]
   |false=>exact call_of [.m hm,.v hp,.c,.c,.c,.c,.b hb,.c,.v hr,.c,.v hw,.v A6,.c,.s (az J)]
  ·have hb:=AJ hs;rw[aaP hs];exact call_of [.m hm,.v hp,.c,.c,.c,.c,.b hb,.v hw,.v A6,.c,.s (az J)]
theorem TF(h:RD J r tk ts rest):ah F ae (k+5) 383 [.ref r] J=some (.ok (.bool (cY rest[bQ rest]?)),J):=by
 show aq F (ah F ae (k+4)) RS [.ref r] J=_;have hp:=place_spec (F:=F) (k:=k) h;have hr:=MR (F:=F) (k:=k) h (bQ rest) (Ag rest);generalize ah F ae (k+4)=O at hp hr ⊢;generalize cY rest[bQ rest]?=b at hr ⊢;generalize bQ rest=n at hp hr;exact call_of [.v hp,.v hr,.c,.s (az J)]
theorem abz(hp:O 369 [.ref r] J=some (.ok (.int n),J))(hw:O 355 [.ref r,.int n] J=some (.ok (.str w),J))(hr:O 362 [.ref r,.int n] J=some (.ok (.bool b1),J))
  (hc:bj .isIn (.str w) nt J=some (.ok (.bool b2),J)) (hs:bj .isIn (.str w) lZ J=some (.ok (.bool b3),J)):aq F O RL [.ref r] J=some (.ok (.bool (b1||(b2||b3))),J):=by
 cases b1 with
 |true=>exact call_of [.v hp,.v hw,.v hr,.c,.c,.c,.s (az J)]
 |false=>
  cases b2 with
  |true=>exact call_of [.v hp,.v hw,.v hr,.c,.c,.v hc,.c,.c,.c,.s (az J)]
  |false=>exact call_of [.v hp,.v hw,.v hr,.c,.c,.v hc,.c,.c,.v hs,.c,.s (az J)]
theorem abw(h:RD J r tk ts rest):ah F ae (k+5) 376 [.ref r] J=some (.ok (.bool (jT rest[bQ rest]?)),J):=
 abz (O:=ah F ae (k+4)) (place_spec (F:=F) (k:=k) h) (uc (F:=F) (k:=k+1) h (bQ rest) (Ag rest)) (MR (F:=F) (k:=k) h (bQ rest) (Ag rest)) (SN _) (Zy _)
end
end
section
variable {F k:Nat}
def gA(r d:Nat)(l:Last):Cell:=.ins .fu [.ref r,.lam,.int (d:Int),xu l]
structure CR(J:LC)(c r tk:Nat)(ts rest:List Tok)(d:Nat)(l:Last):Prop where
 rd:RD J r tk ts rest
 cr:J[c]?=some (gA r d l)
def w2(J:LC)(c r tk:Nat)(ts:List Tok)(d:Nat)(q:List Tok)(l:Last):LC:=(J.set r (aw tk ts q)).set c (gA r d l)
theorem adx:∀ l:Last,lQ (xu l)=false
 |none=>rfl
 |some _=>rfl
theorem ady(n:Nat):∀ l:Last,low n (xu l)=true
 |none=>rfl
 |some p=>lN (p.1.low n) rfl
section
variable {J:LC}{c r tk d:Nat}{ts rest q q':List Tok}{l l':Last}
theorem CR.ne(h:CR J c r tk ts rest d l):c≠r:=fun e=>by
 have h1:=h.cr;rw[e,h.rd.rd]at h1;cases h1
theorem CR.ne2(h:CR J c r tk ts rest d l):c≠tk:=fun e=>by
 have h1:=h.cr;rw[e,h.rd.tk]at h1;cases h1
theorem CR.lt(h:CR J c r tk ts rest d l):c<J.length:=dD h.cr
theorem gg(J:LC)(c r tk:Nat)(ts:List Tok)(d:Nat)(q:List Tok)(l:Last):(w2 J c r tk ts d q l).length=J.length:=(ef ..).trans (ef ..)
theorem my(aY:c≠r):(w2 J c r tk ts d q l).set r (aw tk ts q')=w2 J c r tk ts d q' l:=by
 unfold w2;rw[List.set_comm _ _ aY,pq]
theorem KP:(w2 J c r tk ts d q l).set c (gA r d l')=w2 J c r tk ts d q l':=pq ..
theorem ll(aY:c≠r):w2 (w2 J c r tk ts d q l) c r tk ts d q' l'=w2 J c r tk ts d q' l':=by
 show(((w2 J c r tk ts d q l).set r (aw tk ts q')).set c (gA r d l'))=_;rw[my aY,KP]
theorem set_same{c:Nat}(h:J[c]?=some x):J.set c x=J:=by
 refine q5 fun i=>?_;by_cases hi:c=i
 ·subst hi;rw[d0 (dD h),h]
 ·rw[bW hi]
theorem CR.same(h:CR J c r tk ts rest d l):w2 J c r tk ts d rest l=J:=by
 unfold w2;rw[h.rd.same,set_same h.cr]
theorem CR.set(h:CR J c r tk ts rest d l)(hq:q <:+ ts)(l':Last):CR (w2 J c r tk ts d q l') c r tk ts q d l':=
 have h1:=h.rd.set hq
 ⟨⟨by unfold w2;rw[bW h.ne];exact h1.rd,by unfold w2;rw[bW h.ne2];exact h1.tk,h1.len,h1.bO⟩,by unfold w2;rw[d0 (by rw[ef];exact h.lt)]⟩
theorem CR.rZ(h:CR J c r tk ts rest d l):J.set r (aw tk ts q)=w2 J c r tk ts d q l:=by
 unfold w2;rw[set_same (c:=c) (by rw[bW (fun e=>h.ne e.symm)];exact h.cr)]
theorem CR.setC(h:CR J c r tk ts rest d l):J.set c (gA r d l')=w2 J c r tk ts d rest l':=by
 unfold w2;rw[h.rd.same]
theorem CR.app(h:CR J c r tk ts rest d l)(X:LC):CR (J++X) c r tk ts rest d l:=⟨h.rd.app X,by rw[dp h.lt];exact h.cr⟩
theorem CR.ai(h:CR J c r tk ts rest d l)(hf:dX .fu n=none)(hm:m8 .fu n=some a):bU J (.ref c) n=some (.fn a,true):=NU h.cr hf hm
theorem CR.cj(h:CR J c r tk ts rest d l):bB (.ref c) .reader J=some (.ok (.ref r),J):=vO .reader h.cr rfl rfl rfl
theorem CR.lst(h:CR J c r tk ts rest d l):bB (.ref c) .last J=some (.ok (xu l),J):=vO .last h.cr rfl rfl (adx l)
theorem CR.put(h:CR J c r tk ts rest d l)(l':Last):ic (.ref c) .last (xu l') J=some (.ok (),w2 J c r tk ts d rest l'):=by
 rw[<-h.setC];exact D8 .last h.cr rfl (by decide:3<4) (ady c l')
theorem jd(J:LC)(c r tk:Nat)(ts:List Tok)(d:Nat)(q:List Tok)(l:Last):(w2 J c r tk ts d q l).take J.length=w2 J c r tk ts d q l:=k7 (eR (gg ..))
theorem gE(J:LC)(c r tk:Nat)(ts:List Tok)(d:Nat)(q:List Tok)(l:Last)(X:LC):(w2 J c r tk ts d q l++X).take J.length=w2 J c r tk ts d q l:=mn (gg ..)
theorem j6(J:LC)(c r tk:Nat)(ts:List Tok)(d:Nat)(q:List Tok)(l:Last):decide (J.length<=J.length/\isExc (w2 J c r tk ts d q l++[.exc]) J.length=true)=true:=vD (aG _) (xB (gg ..))
def Rc(J:LC)(c r tk:Nat)(ts:List Tok)(d:Nat)(o:Option (C×Last×List Tok))(x:Option (Except Nat V×LC)):Prop:=match o with
 |some p=>x=some (.ok p.1.v,w2 J c r tk ts d p.2.2 p.2.1)
 |none=>∃ q l,q <:+ ts/\x=some (.error J.length,w2 J c r tk ts d q l++[.exc])
theorem Zl(h:CR J c r tk ts (t :: rest) d l)(hs:t.k=.sign):ah F ae (k+5) 474 [.ref c] J=some (.ok (.str t.w),w2 J c r tk ts d rest l):=by
 show aq F (ah F ae (k+4)) Rj [.ref c] J=_;have h1:=h.cj;have hm:=h.rd.ai (n:=.take) rfl rfl;have ht:=mA (F:=F) (k:=k) h.rd;rw[h.rZ]at ht;have hb:=AI hs;have h2:=jd J c r tk ts d rest l;generalize ah F ae (k+4)=O at ht ⊢;exact call_of [.v h1,.m hm,.v ht,.c,.c,.b hb,.c,.c,.s h2]
theorem LH(h:CR J c r tk ts rest d (some (e,s))):ah F ae (k+2) 446 [.ref c] J=some (.ok e.v,J):=by
 show aq F (ah F ae (k+1)) GW [.ref c] J=_;have h1:bB (.ref c) .last J=some (.ok (.tup [e.v,.str s.w]),J):=h.lst;have hl:=e.low J.length;generalize ah F ae (k+1)=O;exact call_of [.v h1,.c,.c,.v h1,.c,.b hl,.s (az J)]
theorem Zv(h:CR J c r tk ts rest d (some (e,s))):ah F ae (k+2) 453 [.ref c] J=some (.ok (.str s.w),J):=by
 show aq F (ah F ae (k+1)) GZ [.ref c] J=_;have h1:bB (.ref c) .last J=some (.ok (.tup [e.v,.str s.w]),J):=h.lst;generalize ah F ae (k+1)=O;exact call_of [.v h1,.c,.c,.v h1,.c,.c,.s (az J)]
theorem XR(h:CR J c r tk ts rest d none):ah F ae (k+4) 446 [.ref c] J=some (.error J.length,J++[.exc]):=by
 show aq F (ah F ae (k+3)) GW [.ref c] J=_;have h1:bB (.ref c) .last J=some (.ok .none,J):=h.lst;have h2:=h.cj;have hm:=h.rd.ai (n:=.fault) rfl rfl;have hf:=tj (F:=F) (k:=k) h.rd [97,32,114,101,108,97,116,105,111,110,32,105,115,32,109,105,115,115,105,110,103];have he:=si (lv:=[some (.ref c)]) (nc J);generalize ah F ae (k+3)=O at hf ⊢;exact call_of [.v h1,.c,.c,.v h2,.m hm,.v hf,.x he,.b (nA J),.s (eV J [Cell.exc])]
theorem Zw(h:CR J c r tk ts rest d none):ah F ae (k+4) 453 [.ref c] J=some (.error J.length,J++[.exc]):=by
 show aq F (ah F ae (k+3)) GZ [.ref c] J=_;have h1:bB (.ref c) .last J=some (.ok .none,J):=h.lst;have h2:=h.cj;have hm:=h.rd.ai (n:=.fault) rfl rfl;have hf:=tj (F:=F) (k:=k) h.rd [97,32,114,101,108,97,116,105,111,110,32,105,115,32,109,105,115,115,105,110,103];have he:=si (lv:=[some (.ref c)]) (nc J);generalize ah F ae (k+3)=O at hf ⊢;exact call_of [.v h1,.c,.c,.v h2,.m hm,.v hf,.x he,.b (nA J),.s (eV J [Cell.exc])]
def HE(O:ay)(n:Nat)(pe:List Tok->Option (E×List Tok)):Prop:=∀ (J:LC) (r tk:Nat) (ts rest:List Tok),RD J r tk ts rest->eY rest=true->ft n rest->Rd J r tk ts (pe rest) (O 258 [.ref r] J)
def rg(pe:List Tok->Option (E×List Tok)):Prop:=∀ l e q,pe l=some (e,q)->Sh q l
noncomputable def z_(aZ:E)(s:Rs)(p:E×List Tok):C×Last×List Tok:=(.rel s aZ p.1,some (aZ,s),p.2)
def EC(pe:List Tok->Option (E×List Tok))(aZ:E)(b:Bool):List Tok->Option (C×Last×List Tok)
 |[]=>none
 |t :: r=>(sf t).bind fun s=>(pe r).map (z_ aZ (cond b s.lH s))
def lG(pe:List Tok->Option (E×List Tok))(aZ:E)(rest:List Tok):Option (C×Last×List Tok):=EC pe aZ (decide ((aQ .IS rest)[0]?=some .aV)) (aQ .aV (aQ .IS rest))
theorem ab8(h:sf t=some s):eM vr (.str s.w) J=some (.ok (.str s.lH.w),J):=by cases s<;>rfl
theorem aaT(h:sf t=some s):t.w=s.w/\t.k=.sign:=by
 cases t<;>cases h<;>exact⟨rfl,rfl⟩
theorem Rd.qM{q0:List Tok}{l:Last}{O:ay}{a:Nat}{as:List V}(aY:c≠r)(h:Rd (w2 J c r tk ts d q0 l) r tk ts none (O a as (w2 J c r tk ts d q0 l))):∃ q,q <:+ ts/\O a as (w2 J c r tk ts d q0 l)=some (.error J.length,w2 J c r tk ts d q l++[.exc]):=by
 obtain⟨q,h1,h2⟩:=h;exact⟨q,h1,by rw[h2,gg,my aY]⟩
theorem Rd.okC{q0 q:List Tok}{l:Last}{e:E}{O:ay}{a:Nat}{as:List V}(aY:c≠r)(h:Rd (w2 J c r tk ts d q0 l) r tk ts (some (e,q)) (O a as (w2 J c r tk ts d q0 l))):O a as (w2 J c r tk ts d q0 l)=some (.ok e.v,w2 J c r tk ts d q l):=by
 rw[show O a as (w2 J c r tk ts d q0 l)=_ from h,my aY]
theorem aaO{O:ay}{l1 l2 l3:List Tok}{s:Rs}{b:Bool}{aZ:E}{o:Option (E×List Tok)}(h:CR J c r tk ts rest d l)(h1:l1 <:+ ts)(h2:l2 <:+ ts)(h3:l3 <:+ ts)
  (x1:O 616 [.ref r,.str [73,83]] J=some (.ok (.bool (decide (rest[0]?=some .IS))),w2 J c r tk ts d l1 l)) (x2:O 616 [.ref r,.str [78,79,84]] (w2 J c r tk ts d l1 l)=some (.ok (.bool b),w2 J c r tk ts d l2 l))
  (x3:O 474 [.ref c] (w2 J c r tk ts d l2 l)=some (.ok (.str s.w),w2 J c r tk ts d l3 l)) (x4:eM vr (.str s.w) (w2 J c r tk ts d l3 l)=some (.ok (.str s.lH.w),w2 J c r tk ts d l3 l))
  (x5:∀ l',Rd (w2 J c r tk ts d l3 l') r tk ts o (O 258 [.ref r] (w2 J c r tk ts d l3 l'))):Rc J c r tk ts d (o.map (z_ aZ (cond b s.lH s))) (aq F O BK [.ref c,aZ.v] J):=by
 have a0:=h.cj;have m0:=h.rd.ai (n:=.skip) rfl rfl;have c1:=h.set h1 l;have a1:=c1.cj;have m1:=c1.rd.ai (n:=.skip) rfl rfl;have m2:=(h.set h2 l).ai (n:=.zU) rfl rfl;have c3:=h.set h3 l;have go:∀ s':Rs,s'=cond b s.lH s->Rc J c r tk ts d (o.map (z_ aZ s')) (aq F O BK [.ref c,aZ.v] J):=fun s' qu=>by
  have p3:ic (.ref c) .last (.tup [aZ.v,.str s'.w]) (w2 J c r tk ts d l3 l)=some (.ok (),w2 J c r tk ts d l3 (some (aZ,s'))):=(c3.put (some (aZ,s'))).trans (by rw[ll h.ne]);have c4:=h.set h3 (some (aZ,s'));have a4:=c4.cj;have s4:bB (.ref c) .last (w2 J c r tk ts d l3 (some (aZ,s')))=some (.ok (.tup [aZ.v,.str s'.w]),w2 J c r tk ts d l3 (some (aZ,s'))):=c4.lst;have x5:=x5 (some (aZ,s'))
  cases o with
  |none=>
   obtain⟨q,hq,hx⟩:=x5.qM h.ne;refine⟨q,some (aZ,s'),hq,?_⟩;have e1:=j6 J c r tk ts d q (some (aZ,s'));have e2:=gE J c r tk ts d q (some (aZ,s')) [.exc];generalize w2 J c r tk ts d q (some (aZ,s'))=ia at *;cases b with
   |true=>
    subst qu;exact call_of [.v a0,.m m0,.v x1,.v a1,.m m1,.v x2,.m m2,.v x3,.c,.c,.v x4,.u p3,.v s4,.c,.v a4,.v hx,.b e1,.s e2]
   |false=>
    subst qu;exact call_of [.v a0,.m m0,.v x1,.v a1,.m m1,.v x2,.m m2,.v x3,.c,.c,.u p3,.v s4,.c,.v a4,.v hx,.b e1,.s e2]
  |some p=>
   obtain⟨e,q⟩:=p;have hx:=x5.okC h.ne;have e1:=(C.rel s' aZ e).low J.length;have e2:=jd J c r tk ts d q (some (aZ,s'));show aq F O BK [.ref c,aZ.v] J=some (.ok (C.rel s' aZ e).v,w2 J c r tk ts d q (some (aZ,s')));generalize w2 J c r tk ts d q (some (aZ,s'))=ia at *;cases b with
   |true=>
    subst qu;exact call_of [.v a0,.m m0,.v x1,.v a1,.m m1,.v x2,.m m2,.v x3,.c,.c,.v x4,.u p3,.v s4,.c,.v a4,.v hx,.b e1,.s e2]
   |false=>
    subst qu;exact call_of [.v a0,.m m0,.v x1,.v a1,.m m1,.v x2,.m m2,.v x3,.c,.c,.u p3,.v s4,.c,.v a4,.v hx,.b e1,.s e2]
 exact go _ rfl
theorem MQ(hF:1000<=F)(he:HE (ah F ae (k+10)) n pe)(h:CR J c r tk ts rest d l)(aW:eY rest=true)(bf:ft n rest)(aZ:E)
  (qw:cY (aQ .aV (aQ .IS rest))[0]?=true):Rc J c r tk ts d (lG pe aZ rest) (ah F ae (k+11) 467 [.ref c,aZ.v] J):=by
 have jW:=wK (k:=k+4) hF h.rd .IS rfl rfl;rw[h.rZ]at jW;have xI:aQ .IS rest <:+ ts:=(mE _ _).trans h.rd.bO;have c1:=h.set xI l;have gw:=wK (k:=k+4) hF c1.rd .aV rfl rfl;rw[my h.ne]at gw;have qr:aQ .aV (aQ .IS rest) <:+ rest:=(mE _ _).trans (mE _ _);have va:=og aW qr;have P8:=bf.bO qr;unfold lG;generalize decide ((aQ .IS rest)[0]?=some .aV)=b at gw ⊢
 generalize aQ .aV (aQ .IS rest)=l2 at qw va P8 qr gw ⊢;cases l2 with
 |nil=>cases qw
 |cons t r2=>
  cases Be:sf t with
  |none=>rw[show cY (t :: r2)[0]?=(sf t).isSome from rfl,Be]at qw;cases qw
  |some s=>
   obtain⟨hw,hk⟩:=aaT Be;have h2:=qr.trans h.rd.bO;have iW:=Zl (F:=F) (k:=k+5) (h.set h2 l) hk;rw[ll h.ne,hw]at iW;show Rc J c r tk ts d ((sf t).bind _) _;rw[Be];exact aaO (O:=ah F ae (k+10)) h xI h2 (kr h2) jW gw iW (ab8 Be) fun l'=>he _ r tk ts r2 (h.set (kr h2) l').rd (lI va) (P8.bO (ml _ _))
end
end
section
variable {F k:Nat}
theorem Nc:∀ l:List Tok,l[bQ l]?=(aQ .aV (aQ .IS l))[0]?
 |[]=>rfl
 |a :: l=>by
  by_cases ha:a=.IS
  ·subst ha;cases l with
   |nil=>rfl
   |cons b l=>
    by_cases hb:b=.aV
    ·subst hb;cases l<;>rfl
    ·have h1:¬(some b=some Tok.aV):=fun e=>hb (aU e);have e1:bQ (.IS :: b :: l)=1:=(if_pos rfl).trans (if_neg h1);have e2:aQ .IS (.IS :: b :: l)=b :: l:=if_pos rfl;rw[e1,e2,show aQ .aV (b :: l)=b :: l from if_neg h1];rfl
  ·have h0:¬(some a=some Tok.IS):=fun e=>ha (aU e);have e2:aQ .IS (a :: l)=a :: l:=if_neg h0;by_cases hb:a=.aV
   ·subst hb;cases l<;>rfl
   ·have h1:¬(some a=some Tok.aV):=fun e=>hb (aU e);have e1:bQ (a :: l)=0:=(if_neg h0).trans (if_neg h1);rw[e1,e2,show aQ .aV (a :: l)=a :: l from if_neg h1]
noncomputable def qe(b:Bool)(c:C):C:=cond b (.not c) c
def ED(pe:List Tok->Option (E×List Tok))(aZ:E)(rest:List Tok)(b:Bool):List Tok->Option (C×Last×List Tok)
 |[]=>lG pe aZ rest
 |t :: r=>cond (lR t) (some (qe b (.cls t aZ),none,r)) (cond (kI t) (some (qe b (.sgn t aZ),none,r)) (lG pe aZ rest))
def mO(pe:List Tok->Option (E×List Tok))(aZ:E)(rest:List Tok):Option (C×Last×List Tok):=ED pe aZ rest (decide ((aQ .IS rest)[0]?=some .aV)) (aQ .aV (aQ .IS rest))
theorem Zz{J:LC}(h:kI t=true):eM lZ (.str t.w) J=some (.ok (.str t.w),J):=by
 cases t<;>first|rfl|cases h
theorem WA(h:(lR t||kI t)=true):wh (some t)=t.w:=of_decide_eq_true (Tok.on (q:=fun t=>lR t||kI t) (p:=fun t=>decide (wh (some t)=t.w)) (by kernel_rfl) h)
section
variable {O:ay}{J:LC}{c r tk d:Nat}{ts rest q q':List Tok}{l l':Last}
theorem aby{n m:Nat}{t:Tok}{b b1:Bool}{aZ:E}{l1 l2 r2:List Tok}(h:CR J c r tk ts rest d l)(h1:l1 <:+ ts)(h2:l2 <:+ ts)
  (hp:O 369 [.ref r] J=some (.ok (.int (n:Int)),J)) (hw:O 355 [.ref r,.int (n:Int)] J=some (.ok (.str t.w),J))
  (hn:bj .ig (.str t.w) nt J=some (.ok (.bool !b1),J)) (hs:b1=false->bj .ig (.str t.w) lZ J=some (.ok (.bool false),J))
  (x1:O 616 [.ref r,.str [73,83]] (w2 J c r tk ts d rest none)=some (.ok (.bool (decide (rest[0]?=some .IS))),w2 J c r tk ts d l1 none)) (x2:O 616 [.ref r,.str [78,79,84]] (w2 J c r tk ts d l1 none)=some (.ok (.bool b),w2 J c r tk ts d l2 none))
  (x3:O 594 [.ref r] (w2 J c r tk ts d l2 none)=some (.ok (fQ m t),w2 J c r tk ts d r2 none)) (x4:bj .isIn (.str t.w) nt (w2 J c r tk ts d r2 none)=some (.ok (.bool b1),w2 J c r tk ts d r2 none))
  (x5:b1=false->eM lZ (.str t.w) (w2 J c r tk ts d r2 none)=some (.ok (.str t.w),w2 J c r tk ts d r2 none)) :
  Rc J c r tk ts d (some (qe b (cond b1 (.cls t aZ) (.sgn t aZ)),none,r2)) (aq F O yr [.ref c,aZ.v] J):=by
 have a0:=h.cj;have p0:ic (.ref c) .last .none J=some (.ok (),w2 J c r tk ts d rest none):=h.put none;have c0:=h.set h.rd.bO none;have a1:=c0.cj;have m1:=c0.rd.ai (n:=.skip) rfl rfl;have c1:=h.set h1 none;have a2:=c1.cj;have m2:=c1.rd.ai (n:=.skip) rfl rfl;have c2:=h.set h2 none;have a3:=c2.cj;have m3:=c2.rd.ai (n:=.take) rfl rfl;have e2:=jd J c r tk ts d r2 none;have e1:=(qe b (cond b1 (.cls t aZ) (.sgn t aZ))).low J.length
 show aq F O yr [.ref c,aZ.v] J=some (.ok (qe b (cond b1 (.cls t aZ) (.sgn t aZ))).v,w2 J c r tk ts d r2 none);generalize w2 J c r tk ts d r2 none=ia at *;cases b1 with
 |true=>
  clear hs x5;cases b with
  |true=>exact call_of [.v a0,.v a0,.v hp,.v hw,.v hn,.c,.u p0,.v a1,.m m1,.v x1,.v a2,.m m2,.v x2,.v a3,.m m3,.v x3,.v x4,.c,.c,.c,.b e1,.s e2]
  |false=>exact call_of [.v a0,.v a0,.v hp,.v hw,.v hn,.c,.u p0,.v a1,.m m1,.v x1,.v a2,.m m2,.v x2,.v a3,.m m3,.v x3,.v x4,.c,.c,.c,.b e1,.s e2]
 |false=>
  have hs:=hs rfl;have x5:=x5 rfl;cases b with
  |true=>exact call_of [.v a0,.v a0,.v hp,.v hw,.v hn,.c,.v hs,.c,.u p0,.v a1,.m m1,.v x1,.v a2,.m m2,.v x2,.v a3,.m m3,.v x3,.v x4,.c,.v x5,.c,.c,.b e1,.s e2]
  |false=>exact call_of [.v a0,.v a0,.v hp,.v hw,.v hn,.c,.v hs,.c,.u p0,.v a1,.m m1,.v x1,.v a2,.m m2,.v x2,.v a3,.m m3,.v x3,.v x4,.c,.v x5,.c,.c,.b e1,.s e2]
theorem abx{aZ:E}(h:CR J c r tk ts rest d l)
  (hp:O 369 [.ref r] J=some (.ok (.int (n:Int)),J)) (hw:O 355 [.ref r,.int (n:Int)] J=some (.ok (.str w),J))
  (hn:bj .ig (.str w) nt J=some (.ok (.bool true),J)) (hs:bj .ig (.str w) lZ J=some (.ok (.bool true),J))
  (hr:Rc J c r tk ts d o (O 467 [.ref c,aZ.v] J)):Rc J c r tk ts d o (aq F O yr [.ref c,aZ.v] J):=by
 have a0:=h.cj;have mr:=h.ai (n:=.se) rfl rfl;cases o with
 |none=>
  obtain⟨q,l',hq,hx⟩:=hr;refine⟨q,l',hq,?_⟩;have e1:=j6 J c r tk ts d q l';have e2:=gE J c r tk ts d q l' [.exc];exact call_of [.v a0,.v a0,.v hp,.v hw,.v hn,.c,.v hs,.c,.m mr,.v hx,.b e1,.s e2]
 |some p=>
  obtain⟨cd,l',q⟩:=p;have hx:O 467 [.ref c,aZ.v] J=some (.ok cd.v,w2 J c r tk ts d q l'):=hr;have e1:=cd.low J.length;have e2:=jd J c r tk ts d q l';show aq F O yr [.ref c,aZ.v] J=some (.ok cd.v,w2 J c r tk ts d q l');exact call_of [.v a0,.v a0,.v hp,.v hw,.v hn,.c,.v hs,.c,.m mr,.v hx,.b e1,.s e2]
theorem abv(hF:1000<=F){n:Nat}{pe:List Tok->Option (E×List Tok)}(he:HE (ah F ae (k+10)) n pe)(h:CR J c r tk ts rest d l)(aW:eY rest=true)(bf:ft n rest)(aZ:E)
  (FW:jT rest[bQ rest]?=true):Rc J c r tk ts d (mO pe aZ rest) (ah F ae (k+12) 460 [.ref c,aZ.v] J):=by
 have Bj:=place_spec (F:=F) (k:=k+7) h.rd;have hw:=uc (F:=F) (k:=k+8) h.rd (bQ rest) (Ag rest);rw[Nc]at FW hw;have vj:=agC (J:=J) (aQ .aV (aQ .IS rest))[0]?;have xK:=Zx (J:=J) (aQ .aV (aQ .IS rest))[0]?;have rel:vG (aQ .aV (aQ .IS rest))[0]?=false->wQ (aQ .aV (aQ .IS rest))[0]?=false->Rc J c r tk ts d (lG pe aZ rest) (ah F ae (k+12) 460 [.ref c,aZ.v] J):=fun hc hs=>by
  rw[hc]at vj;rw[hs]at xK;refine abx (O:=ah F ae (k+11)) h Bj hw vj xK (MQ (k:=k) hF he h aW bf aZ ?_);unfold jT at FW;rwa[hc,hs,Bool.or_self,I_]at FW
 have c0:=h.set h.rd.bO none;have jW:=wK (k:=k+5) hF c0.rd .IS rfl rfl;rw[my h.ne]at jW;have xI:aQ .IS rest <:+ ts:=(mE _ _).trans h.rd.bO;have gw:=wK (k:=k+5) hF (h.set xI none).rd .aV rfl rfl;rw[my h.ne]at gw;have qr:aQ .aV (aQ .IS rest) <:+ ts:=((mE _ _).trans (mE _ _)).trans h.rd.bO;unfold mO;generalize decide ((aQ .IS rest)[0]?=some .aV)=b at gw ⊢
 generalize aQ .aV (aQ .IS rest)=l2 at hw vj xK qr gw rel ⊢;cases l2 with
 |nil=>exact rel rfl rfl
 |cons t r2=>
  have c2:=h.set qr none;have ni:=mA (F:=F) (k:=k+7) c2.rd;rw[my h.ne]at ni;show Rc J c r tk ts d (cond (lR t) (some (qe b (.cls t aZ),(none:Last),r2)) (cond (kI t) (some (qe b (.sgn t aZ),none,r2)) (lG pe aZ rest))) _;have key:∀ b1:Bool,lR t=b1->(b1=false->kI t=true)->Rc J c r tk ts d (some (qe b (cond b1 (.cls t aZ) (.sgn t aZ)),none,r2)) (ah F ae (k+12) 460 [.ref c,aZ.v] J):=fun b1 hb hs=>by
   have Pj:wh (some t)=t.w:=WA (by cases b1 with
    |true=>rw[hb];rfl
    |false=>rw[hs rfl,vZ])
   rw[yZ,Pj]at hw vj xK;have kP:=SN (J:=w2 J c r tk ts d r2 none) (some t);rw[Pj,show vG (some t)=b1 from hb]at kP;rw[show vG (some t)=b1 from hb]at vj;exact aby (O:=ah F ae (k+11)) h xI qr Bj hw vj (fun e=>by rw[xK,show wQ (some t)=true from hs e];rfl) jW gw ni kP fun e=>Zz (hs e)
  cases dm:lR t with
  |true=>exact key true dm fun e=>nomatch e
  |false=>
   cases d9:kI t with
   |true=>exact key false dm fun _=>d9
   |false=>exact rel dm d9
end
end
section
variable {F k:Nat}
noncomputable def qn:Tok->Bool
 |.FX|.FY=>true
 |_=>false
def mZ:E->Option Tok
 |.ref t=>cond (qn t) (some t) none
 |_=>none
noncomputable def sG(l:Last)(e:E):Option C:=l.map fun p=>.rel p.2 p.1 e
def sj(pe:List Tok->Option (E×List Tok))(l:Last)(e:E)(q:List Tok):Option (C×Last×List Tok):=match mZ e with
 |some t=>some (.named t,none,q)
 |none=>cond (jT q[bQ q]?) (mO pe e q) ((sG l e).map fun c=>(c,l,q))
def fg(pe:List Tok->Option (E×List Tok))(l:Last)(rest:List Tok):Option (C×Last×List Tok):=
 cond (cY rest[bQ rest]?) (l.bind fun p=>lG pe p.1 rest) ((pe rest).bind fun p=>sj pe l p.1 p.2)
theorem Om(J:LC)(t:Tok)(u:V):ah F ae (k+2) 1000002 [.str t.w,u] J=some (.ok (.bool (qn t)),J):=by
 show Fp [.str t.w,u] J=_;cases t<;>rfl
def ek:E->List Nat
 |.ref _=>[114,101,102]
 |.num _=>[110,117,109,98,101,114]
 |.zero=>[102,105,103,117,114,101]
 |.neg _=>[110,101,103]
 |.bin o _ _=>o.w
theorem aeq{J:LC}:∀ e:E,eM e.v (.int 0) J=some (.ok (.str (ek e)),J)
 |.ref _=>rfl
 |.num _=>rfl
 |.zero=>rfl
 |.neg _=>rfl
 |.bin _ _ _=>rfl
theorem af3:∀ {e:E},(∀ t,e≠.ref t)->¬ek e=[114,101,102]
 |.ref t=>fun h=>absurd rfl (h t)
 |.num _=>fun _=>(by decide:¬([110,117,109,98,101,114]:List Nat)=[114,101,102])
 |.zero=>fun _=>(by decide:¬([102,105,103,117,114,101]:List Nat)=[114,101,102])
 |.neg _=>fun _=>(by decide:¬([110,101,103]:List Nat)=[114,101,102])
 |.bin o _ _=>fun _=>(by cases o<;>decide:¬o.w=[114,101,102])
section
variable {O:ay}{J:LC}{c r tk d:Nat}{ts rest q q':List Tok}{l l':Last}
theorem CR.named(h:CR J c r tk ts rest d l):bU J (.ref c) .isNamed=some (.lam,false):=by
 show yG J[c]? .isNamed=_;rw[h.cr];rfl
theorem W2(h:CR J c r tk ts rest d none)(hb:O 383 [.ref r] J=some (.ok (.bool true),J))(hs:O 446 [.ref c] J=some (.error J.length,J++[.exc])):Rc J c r tk ts d none (aq F O nu [.ref c] J):=by
 have a0:=h.cj;have m1:=h.ai (n:=.rR) rfl rfl;have m2:=h.ai (n:=.se) rfl rfl;refine⟨rest,none,h.rd.bO,?_⟩;rw[h.same];exact call_of [.v a0,.v hb,.c,.c,.m m2,.m m1,.v hs,.b (nA J),.s (eV J [Cell.exc])]
theorem W3{le:E}{o:Option (C×Last×List Tok)}(h:CR J c r tk ts rest d l)(hb:O 383 [.ref r] J=some (.ok (.bool true),J))(hs:O 446 [.ref c] J=some (.ok le.v,J))
  (hr:Rc J c r tk ts d o (O 467 [.ref c,le.v] J)):Rc J c r tk ts d o (aq F O nu [.ref c] J):=by
 have a0:=h.cj;have m1:=h.ai (n:=.rR) rfl rfl;have m2:=h.ai (n:=.se) rfl rfl;cases o with
 |none=>
  obtain⟨q,l',hq,hx⟩:=hr;refine⟨q,l',hq,?_⟩;have e1:=j6 J c r tk ts d q l';have e2:=gE J c r tk ts d q l' [.exc];exact call_of [.v a0,.v hb,.c,.c,.m m2,.m m1,.v hs,.v hx,.b e1,.s e2]
 |some p=>
  obtain⟨cd,l',q⟩:=p;have hx:O 467 [.ref c,le.v] J=some (.ok cd.v,w2 J c r tk ts d q l'):=hr;have e1:=cd.low J.length;have e2:=jd J c r tk ts d q l';show aq F O nu [.ref c] J=some (.ok cd.v,w2 J c r tk ts d q l');exact call_of [.v a0,.v hb,.c,.c,.m m2,.m m1,.v hs,.v hx,.b e1,.s e2]
theorem W0(h:CR J c r tk ts rest d l)(hb:O 383 [.ref r] J=some (.ok (.bool false),J))(hE:Rd J r tk ts none (O 258 [.ref r] J)):Rc J c r tk ts d none (aq F O nu [.ref c] J):=by
 have a0:=h.cj;obtain⟨q,hq,hx⟩:=hE;rw[h.rZ]at hx;refine⟨q,l,hq,?_⟩;have e1:=j6 J c r tk ts d q l;have e2:=gE J c r tk ts d q l [.exc];exact call_of [.v a0,.v hb,.c,.c,.v a0,.v hx,.b e1,.s e2]
theorem WZ(h:CR J c r tk ts rest d l)(hb:O 383 [.ref r] J=some (.ok (.bool false),J))(hq:q <:+ ts)(hx:O 258 [.ref r] J=some (.ok (E.ref t).v,w2 J c r tk ts d q l))
  (hn:O 1000002 [.str t.w,.tup []] (w2 J c r tk ts d q l)=some (.ok (.bool true),w2 J c r tk ts d q l)):Rc J c r tk ts d (some (.named t,none,q)) (aq F O nu [.ref c] J):=by
 have a0:=h.cj;have c1:=h.set hq l;have m1:=c1.named;have p0:ic (.ref c) .last .none (w2 J c r tk ts d q l)=some (.ok (),w2 J c r tk ts d q none):=(c1.put none).trans (by rw[ll h.ne]);have e2:=jd J c r tk ts d q none;show aq F O nu [.ref c] J=some (.ok (C.named t).v,w2 J c r tk ts d q none);exact call_of [.v a0,.v hb,.c,.c,.v a0,.v hx,.c,.c,.c,.m m1,.c,.c,.v hn,.c,.c,.u p0,.c,.s e2]
theorem WY(h:CR J c r tk ts rest d l)(hb:O 383 [.ref r] J=some (.ok (.bool false),J))(hq:q <:+ ts)(hx:O 258 [.ref r] J=some (.ok e.v,w2 J c r tk ts d q l))
  (hn:∀ t,e=.ref t->O 1000002 [.str t.w,.tup []] (w2 J c r tk ts d q l)=some (.ok (.bool false),w2 J c r tk ts d q l))
  (hp:O 376 [.ref r] (w2 J c r tk ts d q l)=some (.ok (.bool b),w2 J c r tk ts d q l)) (ht:b=true->Rc (w2 J c r tk ts d q l) c r tk ts d o (O 460 [.ref c,e.v] (w2 J c r tk ts d q l)))
  (hf:b=false->o=(sG l e).map fun c=>(c,l,q)) (h0:b=false->l=none->O 453 [.ref c] (w2 J c r tk ts d q l)=some (.error J.length,w2 J c r tk ts d q l++[.exc]))
  (h1:∀ p,l=some p->O 453 [.ref c] (w2 J c r tk ts d q l)=some (.ok (.str p.2.w),w2 J c r tk ts d q l)/\O 446 [.ref c] (w2 J c r tk ts d q l)=some (.ok p.1.v,w2 J c r tk ts d q l)) :
  Rc J c r tk ts d o (aq F O nu [.ref c] J):=by
 have a0:=h.cj;have c1:=h.set hq l;have m1:=c1.named;have a1:=c1.cj;have m4:=c1.ai (n:=.Af) rfl rfl;have m5:=c1.ai (n:=.zT) rfl rfl;have m6:=c1.ai (n:=.rR) rfl rfl;have i0:=aeq (J:=w2 J c r tk ts d q l) e;have hk:(∃ t,e=.ref t)∨¬ek e=[114,101,102]:=by
  by_cases he:∃ t,e=.ref t
  ·exact .inl he
  ·exact .inr (af3 fun t q=>he ⟨t,q⟩)
 cases b with
 |true=>
  have ht:=ht rfl;clear hf h0 h1;cases o with
  |none=>
   obtain⟨q',l',oK,hy⟩:=ht;rw[gg,ll h.ne]at hy;refine⟨q',l',oK,?_⟩;have e1:=j6 J c r tk ts d q' l';have e2:=gE J c r tk ts d q' l' [.exc];rcases hk with ⟨t,rfl⟩|hk
   ·have hn:=hn t rfl;exact call_of [.v a0,.v hb,.c,.c,.v a0,.v hx,.v i0,.c,.c,.m m1,.c,.c,.v hn,.c,.c,.v a1,.v hp,.c,.c,.m m4,.v hy,.b e1,.s e2]
   ·have aY:=kT (J:=w2 J c r tk ts d q l) hk;clear hn;exact call_of [.v a0,.v hb,.c,.c,.v a0,.v hx,.v i0,.v aY,.c,.v a1,.v hp,.c,.c,.m m4,.v hy,.b e1,.s e2]
  |some p=>
   obtain⟨cd,l',q'⟩:=p;have hy:O 460 [.ref c,e.v] (w2 J c r tk ts d q l)=some (.ok cd.v,w2 (w2 J c r tk ts d q l) c r tk ts d q' l'):=ht;rw[ll h.ne]at hy;have e1:=cd.low J.length;have e2:=jd J c r tk ts d q' l';show aq F O nu [.ref c] J=some (.ok cd.v,w2 J c r tk ts d q' l');rcases hk with ⟨t,rfl⟩|hk
   ·have hn:=hn t rfl;exact call_of [.v a0,.v hb,.c,.c,.v a0,.v hx,.v i0,.c,.c,.m m1,.c,.c,.v hn,.c,.c,.v a1,.v hp,.c,.c,.m m4,.v hy,.b e1,.s e2]
   ·have aY:=kT (J:=w2 J c r tk ts d q l) hk;clear hn;exact call_of [.v a0,.v hb,.c,.c,.v a0,.v hx,.v i0,.v aY,.c,.v a1,.v hp,.c,.c,.m m4,.v hy,.b e1,.s e2]
 |false=>
  rw[hf rfl];clear hf ht;cases l with
  |none=>
   have hy:=h0 rfl rfl;clear h0 h1;refine⟨q,none,hq,?_⟩;have e1:=j6 J c r tk ts d q none;have e2:=gE J c r tk ts d q none [.exc];rcases hk with ⟨t,rfl⟩|hk
   ·have hn:=hn t rfl;exact call_of [.v a0,.v hb,.c,.c,.v a0,.v hx,.v i0,.c,.c,.m m1,.c,.c,.v hn,.c,.c,.v a1,.v hp,.c,.c,.m m5,.v hy,.b e1,.s e2]
   ·have aY:=kT (J:=w2 J c r tk ts d q none) hk;clear hn;exact call_of [.v a0,.v hb,.c,.c,.v a0,.v hx,.v i0,.v aY,.c,.v a1,.v hp,.c,.c,.m m5,.v hy,.b e1,.s e2]
  |some p=>
   obtain⟨le,s⟩:=p;obtain⟨y1,y2⟩:=h1 (le,s) rfl;clear h0 h1;have e1:=(C.rel s le e).low J.length;have e2:=jd J c r tk ts d q (some (le,s));show aq F O nu [.ref c] J=some (.ok (C.rel s le e).v,w2 J c r tk ts d q (some (le,s)));rcases hk with ⟨t,rfl⟩|hk
   ·have hn:=hn t rfl;exact call_of [.v a0,.v hb,.c,.c,.v a0,.v hx,.v i0,.c,.c,.m m1,.c,.c,.v hn,.c,.c,.v a1,.v hp,.c,.c,.m m5,.v y1,.m m6,.v y2,.b e1,.s e2]
   ·have aY:=kT (J:=w2 J c r tk ts d q (some (le,s))) hk;clear hn;exact call_of [.v a0,.v hb,.c,.c,.v a0,.v hx,.v i0,.v aY,.c,.v a1,.v hp,.c,.c,.m m5,.v y1,.m m6,.v y2,.b e1,.s e2]
theorem acB(h:mZ e=some t):e=.ref t/\qn t=true:=by
 cases e<;>try cases h
 rename_i u;have h:cond (qn u) (some u) none=some t:=h;cases hu:qn u with
 |true=>rw[hu]at h;cases h;exact⟨rfl,hu⟩
 |false=>rw[hu]at h;cases h
theorem acC(h:mZ e=none)(he:e=.ref t):qn t=false:=by
 subst he;have h:cond (qn t) (some t) none=none:=h;cases hu:qn t with
 |true=>rw[hu]at h;cases h
 |false=>rfl
theorem KV(hF:1000<=F)(he:∀ j,HE (ah F ae (k+10+j)) n pe)(Bc:rg pe)(h:CR J c r tk ts rest d l)(aW:eY rest=true)(bf:ft n rest) :
  Rc J c r tk ts d (fg pe l rest) (ah F ae (k+13) 432 [.ref c] J):=by
 have hb:=TF (F:=F) (k:=k+7) h.rd;unfold fg;cases qw:cY rest[bQ rest]? with
 |true=>
  rw[qw]at hb;cases l with
  |none=>exact W2 (O:=ah F ae (k+12)) h hb (XR (F:=F) (k:=k+8) h)
  |some p=>exact W3 (O:=ah F ae (k+12)) h hb (LH (F:=F) (k:=k+10) h) (MQ (k:=k+1) hF (he 1) h aW bf p.1 (by rw[<-Nc];exact qw))
 |false=>
  rw[qw]at hb;have hE:=he 2 J r tk ts rest h.rd aW bf;show Rc J c r tk ts d ((pe rest).bind fun p=>sj pe l p.1 p.2) _;cases jt:pe rest with
  |none=>
   rw[jt]at hE;exact W0 (O:=ah F ae (k+12)) h hb hE
  |some p=>
   obtain⟨e,q⟩:=p;rw[jt]at hE;have hx:ah F ae (k+12) 258 [.ref r] J=some (.ok e.v,J.set r (aw tk ts q)):=hE;rw[h.rZ]at hx;have cP:=Bc _ _ _ jt;have hq:q <:+ ts:=cP.1.trans h.rd.bO;have c1:=h.set hq l;show Rc J c r tk ts d (sj pe l e q) _;unfold sj;cases hn:mZ e with
   |some t=>
    obtain⟨rfl,hfx⟩:=acB hn;have vc:=Om (F:=F) (k:=k+10) (w2 J c r tk ts d q l) t (.tup []);rw[hfx]at vc;exact WZ (O:=ah F ae (k+12)) h hb hq hx vc
   |none=>
    refine WY (O:=ah F ae (k+12)) h hb hq hx (fun t ht=>?_) (abw (F:=F) (k:=k+7) c1.rd) (fun hp=>?_) (fun hp=>?_) (fun _ hl=>?_) fun p hl=>?_
    ·rw[Om (F:=F) (k:=k+10) (w2 J c r tk ts d q l) t (.tup []),acC hn ht]
    ·show Rc _ c r tk ts d (cond (jT q[bQ q]?) (mO pe e q) ((sG l e).map fun c=>(c,l,q))) _;rw[hp];exact abv (k:=k) hF (he 0) c1 (og aW cP.1) (bf.bO cP.1) e hp
    ·show cond (jT q[bQ q]?) (mO pe e q) ((sG l e).map fun c=>(c,l,q))=_;rw[hp];rfl
    ·subst hl;have:=Zw (F:=F) (k:=k+8) c1;rwa[gg]at this
    ·subst hl;exact⟨Zv (F:=F) (k:=k+10) c1,LH (F:=F) (k:=k+10) c1⟩
end
end
section
variable {F k:Nat}
theorem rY(J:LC)(x y:Cell):(J++[x]).set J.length y=J++[y]:=by
 rw[vU _ _ (aG _),jF];rfl
theorem lK{J:LC}(n:Nm){c:Cl}{l:List V}(hf:dX c n=some l.length)(hl:low J.length v=true):ic (.ref J.length) n v (J++[.ins c l])=some (.ok (),J++[.ins c (l++[v])]):=by
 rw[ZD n bx hf hl,rY]
theorem Dz(J:LC)(x y:Cell):(J++[y]).take (J++[x]).length=J++[y]:=k7 (eR (by rw[bz,bz];rfl))
theorem NY{J:LC}{r:Nat}(hr:r<J.length)(d:Nat):ah F ae (k+3) 477 [.ref r,.lam,.int (d:Int)] J=some (.ok (.ref J.length),J++[gA r d none]):=by
 have p1:=lK (J:=J) .reader (c:=.fu) (l:=[]) (v:=.ref r) rfl (decide_eq_true hr);have p2:=lK (J:=J) .isNamed (c:=.fu) (l:=[.ref r]) (v:=.lam) rfl rfl;have p3:=lK (J:=J) .depth (c:=.fu) (l:=[.ref r,.lam]) (v:=.int (d:Int)) rfl rfl;have p4:=lK (J:=J) .last (c:=.fu) (l:=[.ref r,.lam,.int (d:Int)]) (v:=.none) rfl rfl;have t:=Dz J (.ins .fu []) (gA r d none)
 have key:aq F (ah F ae (k+2)) Ha [.ref J.length,.ref r,.lam,.int (d:Int)] (J++[.ins .fu []])=some (.ok .none,J++[gA r d none]):=by
  generalize ah F ae (k+2)=O;generalize J.length=n at *;exact call_of [.u p1,.u p2,.u p3,.u p4,.c,.s t]
 show xn .fu J.length (aq F (ah F ae (k+2)) Ha [.ref J.length,.ref r,.lam,.int (d:Int)] (J++[.ins .fu []]))=_;rw[key];rfl
section
variable {O:ay}{J aa aj bo dP ia cF:LC}{c r n d:Nat}{cd:C}
theorem aeg(a0:bB (.ref c) .depth J=some (.ok (.int (d:Int)),J))(hd:20<=d)(a1:bB (.ref c) .reader J=some (.ok (.ref r),J))(m:bU J (.ref r) .fault=some (.fn 587,true))
  (hf:O 587 [.ref r,.str [98,114,97,99,107,101,116,115,32,97,114,101,32,110,101,115,116,101,100,32,116,111,111,32,100,101,101,112]] J=some (.ok (.ref J.length),J++[.exc])):aq F O vA [.ref c] J=some (.error J.length,J++[.exc]):=by
 have hg:decide ((d:Int)≥20)=true:=decide_eq_true (nN.mpr hd);have he:=si (lv:=[some (.ref c),none]) (nc J);exact call_of [.v a0,.c,.b hg,.v a1,.m m,.v hf,.x he,.b (nA J),.s (eV J [Cell.exc])]
theorem aed(a0:bB (.ref c) .depth J=some (.ok (.int (d:Int)),J))(hd:¬20<=d)(a1:bB (.ref c) .reader J=some (.ok (.ref r),J))(m1:bU J (.ref r) .needSign=some (.fn 681,true))(x1:O 681 [.ref r,.str [40]] J=some (.ok .none,aa))
  (a2:bB (.ref c) .reader aa=some (.ok (.ref r),aa)) (a3:bB (.ref c) .isNamed aa=some (.ok .lam,aa)) (a4:bB (.ref c) .depth aa=some (.ok (.int (d:Int)),aa)) (x2:O 477 [.ref r,.lam,.int ((d:Int)+1)] aa=some (.ok (.ref n),aj))
  (m2:bU aj (.ref n) .either=some (.fn 404,true)) (x3:O 404 [.ref n] aj=some (.ok cd.v,bo)) (a5:bB (.ref c) .reader bo=some (.ok (.ref r),bo)) (m3:bU bo (.ref r) .needSign=some (.fn 681,true)) (x4:O 681 [.ref r,.str [41]] bo=some (.ok .none,dP))
  (p:ic (.ref c) .last .none dP=some (.ok (),ia)) (t:ia.take J.length=cF):aq F O vA [.ref c] J=some (.ok cd.v,cF):=by
 have hg:decide ((d:Int)≥20)=false:=decide_eq_false fun q=>hd (nN.mp q);have e1:=cd.low J.length;exact call_of [.v a0,.c,.b hg,.v a1,.m m1,.v x1,.v a2,.v a3,.v a4,.c,.v x2,.m m2,.v x3,.v a5,.m m3,.v x4,.u p,.b e1,.s t]
theorem aef(a0:bB (.ref c) .depth J=some (.ok (.int (d:Int)),J))(hd:¬20<=d)(a1:bB (.ref c) .reader J=some (.ok (.ref r),J))(m1:bU J (.ref r) .needSign=some (.fn 681,true))(x1:O 681 [.ref r,.str [40]] J=some (.ok .none,aa))
  (a2:bB (.ref c) .reader aa=some (.ok (.ref r),aa)) (a3:bB (.ref c) .isNamed aa=some (.ok .lam,aa)) (a4:bB (.ref c) .depth aa=some (.ok (.int (d:Int)),aa)) (x2:O 477 [.ref r,.lam,.int ((d:Int)+1)] aa=some (.ok (.ref n),aj))
  (m2:bU aj (.ref n) .either=some (.fn 404,true)) (x3:O 404 [.ref n] aj=some (.error i,bo)) (hi:decide (J.length<=i/\isExc bo i=true)=true) (t:bo.take J.length=cF):aq F O vA [.ref c] J=some (.error J.length,cF++[.exc]):=by
 have hg:decide ((d:Int)≥20)=false:=decide_eq_false fun q=>hd (nN.mp q);exact call_of [.v a0,.c,.b hg,.v a1,.m m1,.v x1,.v a2,.v a3,.v a4,.c,.v x2,.m m2,.v x3,.b hi,.s t]
theorem aee(a0:bB (.ref c) .depth J=some (.ok (.int (d:Int)),J))(hd:¬20<=d)(a1:bB (.ref c) .reader J=some (.ok (.ref r),J))(m1:bU J (.ref r) .needSign=some (.fn 681,true))(x1:O 681 [.ref r,.str [40]] J=some (.ok .none,aa))
  (a2:bB (.ref c) .reader aa=some (.ok (.ref r),aa)) (a3:bB (.ref c) .isNamed aa=some (.ok .lam,aa)) (a4:bB (.ref c) .depth aa=some (.ok (.int (d:Int)),aa)) (x2:O 477 [.ref r,.lam,.int ((d:Int)+1)] aa=some (.ok (.ref n),aj))
  (m2:bU aj (.ref n) .either=some (.fn 404,true)) (x3:O 404 [.ref n] aj=some (.ok cd.v,bo)) (a5:bB (.ref c) .reader bo=some (.ok (.ref r),bo)) (m3:bU bo (.ref r) .needSign=some (.fn 681,true)) (x4:O 681 [.ref r,.str [41]] bo=some (.error i,dP))
  (hi:decide (J.length<=i/\isExc dP i=true)=true) (t:dP.take J.length=cF):aq F O vA [.ref c] J=some (.error J.length,cF++[.exc]):=by
 have hg:decide ((d:Int)≥20)=false:=decide_eq_false fun q=>hd (nN.mp q);exact call_of [.v a0,.c,.b hg,.v a1,.m m1,.v x1,.v a2,.v a3,.v a4,.c,.v x2,.m m2,.v x3,.v a5,.m m3,.v x4,.b hi,.s t]
end
abbrev Pc:=Nat->Last->List Tok->Option (C×Last×List Tok)
def B7(o:Option (C×Last×List Tok)):Option (C×Last×List Tok):=o.bind fun p=>(hd .rp p.2.2).map fun q=>(p.1,none,q)
def gS(bL:Pc)(d:Nat)(r:List Tok):Option (C×Last×List Tok):=if 20<=d then none else B7 (bL (d+1) none r)
def HC(O:ay)(a n:Nat)(p:Pc):Prop:=∀ (J:LC) (c r tk:Nat) (ts rest:List Tok) (d:Nat) (l:Last),CR J c r tk ts rest d l->eY rest=true->ft n rest->Rc J c r tk ts d (p d l rest) (O a [.ref c] J)
def kh(p:Pc):Prop:=∀ d l rest c l' q,p d l rest=some (c,l',q)->Sh q rest
def Rb(J:LC)(c r tk:Nat)(ts:List Tok)(d:Nat)(l:Last)(o:Option (C×Last×List Tok))(x:Option (Except Nat V×LC)):Prop:=match o with
 |some p=>x=some (.ok p.1.v,w2 J c r tk ts d p.2.2 p.2.1)
 |none=>∃ q,q <:+ ts/\x=some (.error J.length,w2 J c r tk ts d q l++[.exc])
section
variable {J:LC}{c r tk d:Nat}{ts rest q q':List Tok}{l l':Last}
theorem CR.dep(h:CR J c r tk ts rest d l):bB (.ref c) .depth J=some (.ok (.int (d:Int)),J):=vO .depth h.cr rfl rfl rfl
theorem CR.EZ(h:CR J c r tk ts rest d l):bB (.ref c) .isNamed J=some (.ok .lam,J):=vO .isNamed h.cr rfl rfl rfl
theorem Dm(hr:r<J.length):w2 (J++[y]) J.length r tk ts d q l=J.set r (aw tk ts q)++[gA r d l]:=by
 unfold w2;rw[q6 _ _ hr,<-ef (as:=J) (i:=r) (a:=aw tk ts q),rY]
theorem Hf{J J':LC}(h:J'.length=i)(hi:J.length<=i):decide (J.length<=i/\isExc (J'++[.exc]) i=true)=true:=vD hi (h▸nc J')
theorem aec{n:Nat}(hc:HC (ah F ae (k+13)) 404 n bL)(FR:kh bL)(h:CR J c r tk ts (.lp :: rest) d l)(aW:eY (.lp :: rest)=true)(bf:ft (n+1) (.lp :: rest)) :
  Rb J c r tk ts d l (gS bL d rest) (ah F ae (k+14) 439 [.ref c] J):=by
 show Rb J c r tk ts d l (gS bL d rest) (aq F (ah F ae (k+13)) vA [.ref c] J);have hr:=h.rd.lt;unfold gS;split
 ·rename_i hD;refine⟨.lp :: rest,h.rd.bO,?_⟩;rw[h.same];exact aeg h.dep hD h.cj (h.rd.ai rfl rfl) (tj (F:=F) (k:=k+10) h.rd _)
 ·rename_i hD;have x1:=EY (F:=F) (k:=k+7) h.rd (x:=[40]) rfl;rw[h.rZ]at x1;have qt:=kr h.rd.bO;have c1:=h.set qt l;have hl:=gg J c r tk ts d rest l;have x2:=NY (F:=F) (k:=k+10) (J:=w2 J c r tk ts d rest l) (r:=r) (by rw[hl];exact hr) (d+1);have c2:CR (w2 J c r tk ts d rest l++[gA r (d+1) none]) (w2 J c r tk ts d rest l).length r tk ts rest (d+1) none:=⟨c1.rd.app _,bx⟩
  have Gh:ft n rest:=by unfold ft at bf ⊢;rw[Vj]at bf;exact iH bf
  have x3:=hc _ _ r tk ts rest (d+1) none c2 (lI aW) Gh;have hw:∀ q l',w2 (w2 J c r tk ts d rest l++[gA r (d+1) none]) (w2 J c r tk ts d rest l).length r tk ts (d+1) q l'=w2 J c r tk ts d q l++[gA r (d+1) l']:=fun q l'=>by
   rw[Dm (by rw[hl];exact hr),my h.ne]
  cases jt:bL (d+1) none rest with
  |none=>
   rw[jt]at x3;obtain⟨q,l',hq,hx⟩:=x3;rw[hw]at hx;refine⟨q,hq,?_⟩;exact aef h.dep hD h.cj (h.rd.ai rfl rfl) x1 c1.cj c1.EZ c1.dep x2 (c2.ai rfl rfl) hx
    (Hf (by rw[bz,bz,gg,gg];rfl) (by rw[bz,gg];exact cL _ _)) (by rw[aH];exact gE ..)
  |some p=>
   obtain⟨cd,l',q⟩:=p;rw[jt]at x3;have hx:ah F ae (k+13) 404 [.ref (w2 J c r tk ts d rest l).length] (w2 J c r tk ts d rest l++[gA r (d+1) none])=some (.ok cd.v,_):=x3;rw[hw]at hx;have hq:q <:+ ts:=(FR _ _ _ _ _ _ jt).1.trans qt;have c3:=(h.set hq l).app [gA r (d+1) l'];show Rb J c r tk ts d l ((hd .rp q).map fun q=>(cd,none,q)) _;cases xM:hd .rp q with
   |some q'=>
    have e1:=fk xM;subst e1;have x4:=EY (F:=F) (k:=k+7) c3.rd (x:=[41]) rfl;rw[q6 _ _ (by rw[gg];exact hr),my h.ne]at x4;have c4:=(h.set (kr hq) l).app [gA r (d+1) l'];have p:=c4.put none;rw[<-c4.setC,q6 _ _ (by rw[gg];exact h.lt),KP]at p;exact aed h.dep hD h.cj (h.rd.ai rfl rfl) x1 c1.cj c1.EZ c1.dep x2 (c2.ai rfl rfl) hx c3.cj (c3.rd.ai rfl rfl) x4 p (gE ..)
   |none=>
    have x4:=NJ (F:=F) (k:=k+7) c3.rd (x:=[41]) (by rw[O2];exact decide_eq_false (qE xM)) ⋯;refine⟨q,hq,?_⟩;exact aee h.dep hD h.cj (h.rd.ai rfl rfl) x1 c1.cj c1.EZ c1.dep x2 (c2.ai rfl rfl) hx c3.cj (c3.rd.ai rfl rfl) x4
     (Hf rfl (by rw[bz,gg];exact cL _ _)) (by rw[aH];exact gE ..)
end
end
section
variable {F k:Nat}
theorem R0{O:ay}{J:LC}{r:Except Nat V×LC}(fs:List Fact)(h:fq fs (bp O lv cv e J)=some (nG fs,r):=by kernel_rfl!):aO O lv cv e J=some r:=(bw e J).symm.trans (yh h)
theorem Dv{J J':LC}(he:isExc J j=true)(hb:aD F cI cv h (lv.set i (some (.ref j))) J=some (.ok fl,aJ,J')) :
  uw i j (lY j (gone i (aD F cI cv h))) lv J=some (.ok fl,aJ.set i none,J'):=by
 show iz (isExc J j) (gone i (aD F cI cv h)) (lv.set i (some (.ref j))) J=_;rw[he];show gone i (aD F cI cv h) (lv.set i (some (.ref j))) J=_;unfold gone;rw[hb]
theorem Xl{J:LC}(he:isExc J j=true)(hv:aO cI (lv.set i (some (.ref j))) cv e J=some (.ok (.ref n),J))(hn:isExc J n=true) :
  uw i j (lY j fun lv=>uy i j (aO cI lv cv e) lv) lv J=some (.error n,(lv.set i (some (.ref j))).set i none,if n=j then J else J.set j .dead):=by
 show iz (isExc J j) (fun lv=>uy i j (aO cI lv cv e) lv) (lv.set i (some (.ref j))) J=_;rw[he];show uy i j (aO cI (lv.set i (some (.ref j))) cv e) (lv.set i (some (.ref j))) J=_;unfold uy Ex.BP;rw[hv];show iz (isExc J j) (lY n _) (lv.set i (some (.ref j))) J=_;rw[he];show iz (isExc J n) _ (lv.set i (some (.ref j))) J=_;rw[hn];rfl
section
variable {O:ay}{J:LC}{c r tk d:Nat}{ts rest q q':List Tok}{l l':Last}
theorem Y3(h:CR J c r tk ts rest d l)(hs:O 667 [.ref r,.str [40]] J=some (.ok (.bool false),J))(hu:Rc J c r tk ts d o (O 432 [.ref c] J)):Rc J c r tk ts d o (aq F O tm [.ref c] J):=by
 have a0:=h.cj;have m0:=h.rd.ai (n:=.isSign) rfl rfl;have m1:=h.ai (n:=.rL) rfl rfl;cases o with
 |none=>
  obtain⟨q,l',hq,hx⟩:=hu;refine⟨q,l',hq,?_⟩;have e1:=j6 J c r tk ts d q l';have e2:=gE J c r tk ts d q l' [.exc];exact call_of [.v a0,.m m0,.v hs,.c,.c,.m m1,.v hx,.b e1,.s e2]
 |some p=>
  obtain⟨cd,l',q⟩:=p;have hx:O 432 [.ref c] J=some (.ok cd.v,w2 J c r tk ts d q l'):=hu;have e1:=cd.low J.length;have e2:=jd J c r tk ts d q l';show aq F O tm [.ref c] J=some (.ok cd.v,w2 J c r tk ts d q l');exact call_of [.v a0,.m m0,.v hs,.c,.c,.m m1,.v hx,.b e1,.s e2]
theorem Y5{cd:C}(h:CR J c r tk ts rest d l)(hs:O 667 [.ref r,.str [40]] J=some (.ok (.bool true),J))(hx:O 439 [.ref c] J=some (.ok cd.v,w2 J c r tk ts d q l')):aq F O tm [.ref c] J=some (.ok cd.v,w2 J c r tk ts d q l'):=by
 have a0:=h.cj;have a1:=h.rd.at;have m0:=h.rd.ai (n:=.isSign) rfl rfl;have m1:=h.ai (n:=.u3) rfl rfl;have e1:=cd.low J.length;have e2:=jd J c r tk ts d q l';exact call_of [.v a0,.m m0,.v hs,.c,.c,.v a0,.v a1,.m m1,.v hx,.b e1,.s e2]
noncomputable def ae5(p:PS):List PS:=match p with
 |.nU _ _ h=>h
 |_=>[]
def Gs(b:List PS)(i:Nat):List PS:=(b[i]?.map ae5).getD []
theorem Y2{cd:C}{P P2:Int}{j:Nat}{fN t9 h_ cF:LC}(a0:bB (.ref c) .reader J=some (.ok (.ref r),J))(m0:bU J (.ref r) .isSign=some (.fn 667,true))(hs:O 667 [.ref r,.str [40]] J=some (.ok (.bool true),J))
  (a1:bB (.ref r) .at_ J=some (.ok (.int P),J)) (m1:bU J (.ref c) .u3=some (.fn 439,true)) (hx:O 439 [.ref c] J=some (.error j,fN)) (he:isExc fN j=true)
  (a2:bB (.ref c) .reader fN=some (.ok (.ref r),fN)) (a3:bB (.ref r) .at_ fN=some (.ok (.int P2),fN)) (p:ic (.ref r) .at_ (.int P) fN=some (.ok (),t9)) (a4:bB (.ref c) .reader fN=some (.ok (.ref r),fN))
  (m2:bU t9 (.ref c) .rL=some (.fn 432,true)) (hy:O 432 [.ref c] t9=some (.ok cd.v,h_)) (t:h_.take J.length=cF):aq F O tm [.ref c] J=some (.ok cd.v,cF):=by
 have hb:aD F cI [none] (Gs Cb 2) [some (.ref c),some (.int P),some (.ref j),none,none] fN=some (.ok .next,[some (.ref c),some (.int P),some (.ref j),some (.ref j),some (.int P2)],fN):=by
  exact B8 [.v a2,.v a3]
 have hh:=Dv (lv:=[some (.ref c),some (.int P),none,none,none]) (i:=2) he hb;have e1:=cd.low J.length;exact call_of [.v a0,.m m0,.v hs,.c,.c,.v a0,.v a1,.m m1,.v hx,.x hh,.v a2,.u p,.m m2,.v hy,.b e1,.s t]
noncomputable def ae6(p:PS):PE:=match p with
 |.pO _ _ e=>e
 |_=>.none
def ae4(b:List PS)(i:Nat):PE:=(b[i]?.map ae6).getD .none
theorem Y4(a0:bB (.ref c) .reader J=some (.ok (.ref r),J))(m0:bU J (.ref r) .isSign=some (.fn 667,true))(hs:O 667 [.ref r,.str [40]] J=some (.ok (.bool true),J))
  (a1:bB (.ref r) .at_ J=some (.ok (.int P),J)) (m1:bU J (.ref c) .u3=some (.fn 439,true)) (hx:O 439 [.ref c] J=some (.error j,fN)) (he:isExc fN j=true)
  (a2:bB (.ref c) .reader fN=some (.ok (.ref r),fN)) (a3:bB (.ref r) .at_ fN=some (.ok (.int P2),fN)) (p:ic (.ref r) .at_ (.int P) fN=some (.ok (),t9))
  (m2:bU t9 (.ref c) .rL=some (.fn 432,true)) (hy:O 432 [.ref c] t9=some (.error j2,h_)) (jZ:isExc h_ j2=true) (lV:isExc h_ j=true)
  (a5:bB (.ref c) .reader h_=some (.ok (.ref r),h_)) (a6:bB (.ref r) .at_ h_=some (.ok (.int P3),h_)) (hi:(if P3≥P2 then j2 else j)=i) (hd:decide (J.length<=i/\isExc (if i=j2 then h_ else h_.set j2 .dead) i=true)=true)
  (t:(if i=j2 then h_ else h_.set j2 .dead).take J.length=cF):aq F O tm [.ref c] J=some (.error J.length,cF++[.exc]):=by
 have hb:aD F cI [none] (Gs Cb 2) [some (.ref c),some (.int P),some (.ref j),none,none] fN=some (.ok .next,[some (.ref c),some (.int P),some (.ref j),some (.ref j),some (.int P2)],fN):=by
  exact B8 [.v a2,.v a3]
 have hh:=Dv (lv:=[some (.ref c),some (.int P),none,none,none]) (i:=2) he hb;have hv:aO cI [some (.ref c),some (.int P),some (.ref j2),some (.ref j),some (.int P2)] [none] (ae4 Cb 4) h_=some (.ok (.ref i),h_):=by
  subst hi;by_cases hg:P3≥P2
  ·rw[if_pos hg];have hc:=dt hg;exact R0 [.v a5,.v a6,.c,.b hc]
  ·rw[if_neg hg];have hc:=df hg;exact R0 [.v a5,.v a6,.c,.b hc]
 have kQ:isExc h_ i=true:=by subst hi;split<;>assumption
 have hr:=Xl (lv:=[some (.ref c),some (.int P),none,some (.ref j),some (.int P2)]) (i:=2) jZ hv kQ;exact call_of [.v a0,.m m0,.v hs,.c,.c,.v a0,.v a1,.m m1,.v hx,.x hh,.v a2,.u p,.m m2,.v hy,.x hr,.b hd,.s t]
end
noncomputable def mR(a b:Option (C×Last×List Tok)):Option (C×Last×List Tok):=match a with
 |some x=>some x
 |none=>b
def fB(pe:List Tok->Option (E×List Tok))(bL:Pc):Pc:=fun d l rest=>match hd .lp rest with
 |some r=>mR (gS bL d r) (fg pe l rest)
 |none=>fg pe l rest
theorem KQ{J X:LC}{c r tk d:Nat}{ts q:List Tok}{l:Last}(hc:c<J.length)(hr:r<J.length):w2 (J++X) c r tk ts d q l=w2 J c r tk ts d q l++X:=by
 unfold w2;rw[q6 _ _ hr,q6 _ _ (by rw[ef];exact hc)]
theorem afQ(τ X:LC):isExc (τ++.exc :: X) τ.length=true:=by
 unfold isExc;rw[iF (aG _),jF];rfl
theorem Y1(hF:1000<=F)(he:∀ j,HE (ah F ae (k+10+j)) (n+1) pe)(Bc:rg pe)(hc:HC (ah F ae (k+13)) 404 n bL)(FR:kh bL) :
  HC (ah F ae (k+15)) 425 (n+1) (fB pe bL):=fun J c r tk ts rest d l h aW bf=>by
 have hr:=h.rd.lt;have d9:=rX (F:=F) (k:=k+10) h.rd [40];rw[AU]at d9;have dK:∀ j,HE (ah F ae (k+1+10+j)) (n+1) pe:=fun j=>by
  have:=he (1+j);rw[show k+1+10+j=k+10+(1+j) by lia];exact this
 show Rc J c r tk ts d (match hd .lp rest with|some r=>mR (gS bL d r) (fg pe l rest)|none=>fg pe l rest) (aq F (ah F ae (k+14)) tm [.ref c] J);cases hl:hd .lp rest with
 |none=>
  rw[decide_eq_false (qE hl)]at d9;exact Y3 h d9 (KV (k:=k+1) hF dK Bc h aW bf)
 |some r0=>
  have e1:=fk hl;subst e1;have hi:=aec hc FR h aW bf;have d9:ah F ae (k+14) 667 [.ref r,.str [40]] J=some (.ok (.bool true),J):=d9;show Rc J c r tk ts d (mR (gS bL d r0) (fg pe l (.lp :: r0))) _;cases hb:gS bL d r0 with
  |some x=>
   rw[hb]at hi;exact Y5 h d9 hi
  |none=>
   rw[hb]at hi;obtain⟨q,hq,hx⟩:=hi;have c1:=(h.set hq l).app [.exc];have c2:=h.app [.exc];have A9:=KV (k:=k+1) hF dK Bc c2 aW bf;have p:ic (.ref r) .at_ (.int ((ts.length-(Tok.lp :: r0).length:Nat):Int)) (w2 J c r tk ts d q l++[Cell.exc])=some (.ok (),J++[Cell.exc]):=by
    rw[D8 .at_ c1.rd.rd rfl (by decide:1<3) rfl];show some (_,(w2 J c r tk ts d q l++[Cell.exc]).set r (aw tk ts (.lp :: r0)))=_;rw[q6 _ _ (by rw[gg];exact hr),my h.ne,h.same]
   have hex:isExc (w2 J c r tk ts d q l++[Cell.exc]) J.length=true:=xB (gg J c r tk ts d q l);show Rc J c r tk ts d (fg pe l (.lp :: r0)) _;cases PA:fg pe l (.lp :: r0)with
   |some x=>
    obtain⟨cd,l',q2⟩:=x;rw[PA]at A9;have nh:ah F ae (k+14) 432 [.ref c] (J++[.exc])=some (.ok cd.v,w2 (J++[.exc]) c r tk ts d q2 l'):=A9;rw[KQ h.lt hr]at nh;exact Y2 h.cj (h.rd.ai rfl rfl) d9 h.rd.at (h.ai rfl rfl) hx hex c1.cj c1.rd.at p c1.cj (c2.ai rfl rfl) nh (gE ..)
   |none=>
    rw[PA]at A9;obtain⟨q2,l',iy,nh⟩:=A9;rw[KQ h.lt hr]at nh;have c3:=((h.set iy l').app [.exc]).app [.exc];have hlen:(w2 J c r tk ts d q2 l').length=J.length:=gg ..;have gX:(w2 J c r tk ts d q2 l'++[Cell.exc]).length=(J++[Cell.exc]).length:=by rw[bz,bz,hlen]
    have jZ:isExc (w2 J c r tk ts d q2 l'++[Cell.exc]++[Cell.exc]) (J++[Cell.exc]).length=true:=xB gX;have RZ:∀ X,isExc (w2 J c r tk ts d q2 l'++[Cell.exc]++X) J.length=true:=fun X=>by rw[aH,<-hlen];exact afQ _ X
    have oJ:(w2 J c r tk ts d q2 l'++[Cell.exc]++[Cell.exc]).set (J++[Cell.exc]).length .dead=w2 J c r tk ts d q2 l'++[Cell.exc]++[.dead]:=by rw[<-gX];exact rY _ _ _
    have aY:¬J.length=(J++[Cell.exc]).length:=by rw[bz];exact dG (eQ _)
    have uh:∀ X:LC,(w2 J c r tk ts d q2 l'++[Cell.exc]++X).take J.length=w2 J c r tk ts d q2 l':=fun X=>by rw[aH];exact gE ..
    refine⟨q2,l',iy,?_⟩;refine Y4 h.cj (h.rd.ai rfl rfl) d9 h.rd.at (h.ai rfl rfl) hx hex c1.cj c1.rd.at p (c2.ai rfl rfl) nh jZ (RZ _) c3.cj c3.rd.at rfl ?_ ?_
    ·split
     ·try rw[if_pos rfl]
      exact vD (by rw[bz];exact cL _ _) jZ
     ·first|rw[if_neg aY,oJ]|rw[oJ]
      exact vD (aG _) (RZ _)
    ·split
     ·try rw[if_pos rfl]
      exact uh _
     ·first|rw[if_neg aY,oJ]|rw[oJ]
      exact uh _
end
section
variable {F k:Nat}
abbrev Pe:=List Tok->Option (E×List Tok)
noncomputable def uK(x:C×Last×List Tok):C×Last×List Tok:=(.not x.1,x.2)
def uF(pe:Pe)(bL:Pc):Pc:=fun d l rest=>match hd .aV rest with
 |some r=>cond (cY rest[bQ rest]?) (fB pe bL d l rest) ((fB pe bL d l r).map uK)
 |none=>fB pe bL d l rest
noncomputable def j8(t:Tok)(mk:C->C->C)(p:Pc)(d:Nat):Nat->C->Last->List Tok->Option (C×Last×List Tok)
 |0,_,_,_=>none
 |n+1,cd,l,q=>match hd t q with
  |some r=>(p d l r).bind fun x=>j8 t mk p d n (mk cd x.1) x.2.1 x.2.2
  |none=>some (cd,l,q)
def mP(t:Tok)(mk:C->C->C)(p:Pc):Pc:=fun d l rest=>(p d l rest).bind fun x=>j8 t mk p d (x.2.2.length+1) x.1 x.2.1 x.2.2
noncomputable def fC:Nat->Pc
 |0=>fun _ _ _=>none
 |n+1=>mP .OR .or (mP .lh .and (uF (cA (n+1) 0) (fC n)))
theorem Sh.le{a b c:List Tok}(h:b <:+ c)(h':Sh a b):Sh a c:=h'.trans h
theorem DM(hs:rg pe){rest q:List Tok}{c:C}{l:Last}(h:lG pe e rest=some (c,l,q)):Sh q rest:=by
 have h0:aQ .aV (aQ .IS rest) <:+ rest:=(mE _ _).trans (mE _ _);refine Sh.le h0 ?_;have h:EC pe e _ (aQ .aV (aQ .IS rest))=_:=h;generalize aQ .aV (aQ .IS rest)=r at h;cases r with
 |nil=>cases h
 |cons t r=>
  obtain⟨s,_,h⟩:=gB h;obtain⟨p,h1,h2⟩:=gq h;cases h2;exact(hs _ _ _ h1).cons
theorem XN(hs:rg pe){rest q:List Tok}{c:C}{l:Last}(h:mO pe e rest=some (c,l,q)):Sh q rest:=by
 have h0:aQ .aV (aQ .IS rest) <:+ rest:=(mE _ _).trans (mE _ _);have h:ED pe e rest _ (aQ .aV (aQ .IS rest))=_:=h;generalize aQ .aV (aQ .IS rest)=r at h h0;cases r with
 |nil=>exact DM hs h
 |cons t r=>
  have h:cond (lR t) _ (cond (kI t) _ _)=some (c,l,q):=h;cases h1:lR t with
  |true=>rw[h1]at h;cases h;exact Sh.le h0 Sh.one
  |false=>
   cases h2:kI t with
   |true=>rw[h1,h2]at h;cases h;exact Sh.le h0 Sh.one
   |false=>rw[h1,h2]at h;exact DM hs h
theorem LA(hs:rg pe){l:Last}{rest q:List Tok}{c:C}{l':Last}(h:fg pe l rest=some (c,l',q)):Sh q rest:=by
 have h:cond (cY rest[bQ rest]?) _ _=some (c,l',q):=h;cases hr:cY rest[bQ rest]? with
 |true=>
  rw[hr]at h;obtain⟨p,_,h⟩:=gB h;exact DM hs h
 |false=>
  rw[hr]at h;obtain⟨p,h1,h⟩:=gB h;have a:=hs _ _ _ h1;have h:(match mZ p.1 with|some t=>some (.named t,none,p.2)|none=>cond (jT p.2[bQ p.2]?) (mO pe p.1 p.2) ((sG l p.1).map fun c=>(c,l,p.2)))=some (c,l',q):=h;cases hn:mZ p.1 with
  |some t=>rw[hn]at h;cases h;exact a
  |none=>
   rw[hn]at h;have h:cond (jT p.2[bQ p.2]?) _ _=some (c,l',q):=h;cases hp:jT p.2[bQ p.2]? with
   |true=>rw[hp]at h;exact(XN hs h).trans a.1
   |false=>rw[hp]at h;obtain⟨x,_,h⟩:=gq h;cases h;exact a
theorem DL(hs:rg pe)(hc:kh bL):kh (fB pe bL):=fun d l rest c l' q h=>by
 have h:(match hd .lp rest with|some r=>mR (gS bL d r) (fg pe l rest)|none=>fg pe l rest)=some (c,l',q):=h;cases hl:hd .lp rest with
 |none=>rw[hl]at h;exact LA hs h
 |some r=>
  rw[hl]at h;have h:mR (gS bL d r) (fg pe l rest)=some (c,l',q):=h;cases hb:gS bL d r with
  |none=>rw[hb]at h;exact LA hs h
  |some x=>
   rw[hb]at h;cases h;refine Sh.hd hl ?_;have hb:(if 20<=d then none else B7 (bL (d+1) none r))=some (c,l',q):=hb;split at hb
   ·cases hb
   ·obtain⟨p,h1,h2⟩:=gB hb;obtain⟨q2,h3,h4⟩:=gq h2;cases h4;exact((fk h3▸Sh.one:Sh q p.2.2)).trans (hc _ _ _ _ _ _ h1).1
theorem DK(hs:rg pe)(hc:kh bL):kh (uF pe bL):=fun d l rest c l' q h=>by
 have h:(match hd .aV rest with|some r=>cond (cY rest[bQ rest]?) (fB pe bL d l rest) ((fB pe bL d l r).map uK)|none=>fB pe bL d l rest)=some (c,l',q):=h;cases hl:hd .aV rest with
 |none=>rw[hl]at h;exact DL hs hc _ _ _ _ _ _ h
 |some r=>
  rw[hl]at h;have h:cond (cY rest[bQ rest]?) _ _=some (c,l',q):=h;cases hr:cY rest[bQ rest]? with
  |true=>rw[hr]at h;exact DL hs hc _ _ _ _ _ _ h
  |false=>
   rw[hr]at h;obtain⟨⟨x1,x2,x3⟩,h1,h2⟩:=gq h;cases h2;exact Sh.hd hl (DL hs hc _ _ _ _ _ _ h1)
theorem LD(hp:kh p){d:Nat}:∀ n cd l rest x,j8 t mk p d n cd l rest=some x->x.2.2 <:+ rest
 |0=>fun _ _ _ _ h=>by cases h
 |n+1=>fun cd l rest x h=>by
  have h:(match hd t rest with|some r=>(p d l r).bind fun x=>j8 t mk p d n (mk cd x.1) x.2.1 x.2.2|none=>some (cd,l,rest))=some x:=h;cases hl:hd t rest with
  |none=>rw[hl]at h;cases h;exact Cz _
  |some r=>
   rw[hl]at h;obtain⟨y,h1,h2⟩:=gB h;exact(LD hp _ _ _ _ _ h2).trans (Sh.hd hl (hp _ _ _ _ _ _ h1)).1
theorem DO(hp:kh p):kh (mP t mk p):=fun d l rest c l' q h=>by
 obtain⟨y,h1,h2⟩:=gB h;have a:=hp _ _ _ _ _ _ h1;have b:=LD hp _ _ _ _ _ h2;exact⟨b.trans a.1,e_ b.length_le a.2⟩
theorem zM(n:Nat):rg (cA n 0):=fun l e q h=>pR n _ _ _ _ h
theorem wG:∀ n,kh (fC n)
 |0=>fun d l rest c l' q h=>by cases h
 |n+1=>DO (DO (DK (zM _) (wG n)))
section
variable {O:ay}{J:LC}{c r tk d:Nat}{ts rest q q':List Tok}{l l':Last}
theorem K5(h:CR J c r tk ts rest d l)(hw:O 355 [.ref r] J=some (.ok (.str w),J))(hb:w=[78,79,84]->O 383 [.ref r] J=some (.ok (.bool true),J))
  (hs:Rc J c r tk ts d o (O 425 [.ref c] J)):Rc J c r tk ts d o (aq F O vy [.ref c] J):=by
 have a0:=h.cj;have m1:=h.ai (n:=.single) rfl rfl;cases o with
 |none=>
  obtain⟨q,l',hq,hx⟩:=hs;refine⟨q,l',hq,?_⟩;have e1:=j6 J c r tk ts d q l';have e2:=gE J c r tk ts d q l' [.exc];by_cases e:w=[78,79,84]
  ·have hb:=hb e;have e0:=yy (J:=J) e;exact call_of [.v a0,.v hw,.v e0,.c,.v a0,.v hb,.c,.c,.m m1,.v hx,.b e1,.s e2]
  ·clear hb;have e0:=kT (J:=J) e;exact call_of [.v a0,.v hw,.v e0,.c,.m m1,.v hx,.b e1,.s e2]
 |some p=>
  obtain⟨cd,l',q⟩:=p;have hx:O 425 [.ref c] J=some (.ok cd.v,w2 J c r tk ts d q l'):=hs;have e1:=cd.low J.length;have e2:=jd J c r tk ts d q l';show aq F O vy [.ref c] J=some (.ok cd.v,w2 J c r tk ts d q l');by_cases e:w=[78,79,84]
  ·have hb:=hb e;have e0:=yy (J:=J) e;exact call_of [.v a0,.v hw,.v e0,.c,.v a0,.v hb,.c,.c,.m m1,.v hx,.b e1,.s e2]
  ·clear hb;have e0:=kT (J:=J) e;exact call_of [.v a0,.v hw,.v e0,.c,.m m1,.v hx,.b e1,.s e2]
theorem Xh(h:CR J c r tk ts rest d l)(hq:q <:+ ts)(hw:O 355 [.ref r] J=some (.ok (.str [78,79,84]),J))(hb:O 383 [.ref r] J=some (.ok (.bool false),J))
  (ht:O 594 [.ref r] J=some (.ok v,w2 J c r tk ts d q l)) (hs:Rc (w2 J c r tk ts d q l) c r tk ts d o (O 425 [.ref c] (w2 J c r tk ts d q l))):Rc J c r tk ts d (o.map uK) (aq F O vy [.ref c] J):=by
 have a0:=h.cj;have m1:=h.rd.ai (n:=.take) rfl rfl;have c1:=h.set hq l;have m2:=c1.ai (n:=.single) rfl rfl;cases o with
 |none=>
  obtain⟨q',l',oK,hx⟩:=hs;rw[gg,ll h.ne]at hx;refine⟨q',l',oK,?_⟩;have e1:=j6 J c r tk ts d q' l';have e2:=gE J c r tk ts d q' l' [.exc];exact call_of [.v a0,.v hw,.c,.c,.v a0,.v hb,.c,.c,.v a0,.m m1,.v ht,.m m2,.v hx,.b e1,.s e2]
 |some p=>
  obtain⟨cd,l',q'⟩:=p;have hx:O 425 [.ref c] (w2 J c r tk ts d q l)=some (.ok cd.v,w2 (w2 J c r tk ts d q l) c r tk ts d q' l'):=hs;rw[ll h.ne]at hx;have e1:=(C.not cd).low J.length;have e2:=jd J c r tk ts d q' l';show aq F O vy [.ref c] J=some (.ok (C.not cd).v,w2 J c r tk ts d q' l');exact call_of [.v a0,.v hw,.c,.c,.v a0,.v hb,.c,.c,.v a0,.m m1,.v ht,.m m2,.v hx,.b e1,.s e2]
end
theorem W9(hs:HC (ah F ae (k+15)) 425 n (fB pe bL)):HC (ah F ae (k+16)) 418 n (uF pe bL):=fun J c r tk ts rest d l h aW bf=>by
 have hw:=Kz (F:=F) (k:=k+12) h.rd;have hb:=TF (F:=F) (k:=k+10) h.rd;have hS:=hs J c r tk ts rest d l h aW bf;show Rc J c r tk ts d (match hd .aV rest with|some r=>cond (cY rest[bQ rest]?) (fB pe bL d l rest) ((fB pe bL d l r).map uK)|none=>fB pe bL d l rest) (aq F (ah F ae (k+15)) vy [.ref c] J);cases hl:hd .aV rest with
 |none=>exact K5 h hw (fun e=>absurd ((KG _).mp e) (qE hl)) hS
 |some r0=>
  have e1:=fk hl;subst e1;show Rc J c r tk ts d (cond (cY (.aV :: r0)[bQ (.aV :: r0)]?) _ _) _;cases hr:cY (.aV :: r0)[bQ (.aV :: r0)]? with
  |true=>rw[hr]at hb;exact K5 h hw (fun _=>hb) hS
  |false=>
   rw[hr]at hb;have ni:=mA (F:=F) (k:=k+11) h.rd;rw[h.rZ]at ni;have qt:=kr h.rd.bO;exact Xh h qt hw hb ni (hs _ c r tk ts r0 d l (h.set qt l) (lI aW) (bf.bO (ml _ _)))
end
section
variable {F k:Nat}
def pH(J:LC)(c r tk:Nat)(ts:List Tok)(d:Nat)(o:Option (C×Last×List Tok))(x:Option (Except Nat Fl×LV×LC)):Prop:=match o with
 |some p=>x=some (.ok .next,[some (.ref c),some p.1.v],w2 J c r tk ts d p.2.2 p.2.1)
 |none=>∃ q l aJ,q <:+ ts/\x=some (.error J.length,aJ,w2 J c r tk ts d q l++[.exc])
theorem pH.of{J:LC}{c r tk d:Nat}{ts q0:List Tok}{l0:Last}{o:Option (C×Last×List Tok)}{x:Option (Except Nat Fl×LV×LC)}(aY:c≠r)(h:pH (w2 J c r tk ts d q0 l0) c r tk ts d o x):pH J c r tk ts d o x:=by
 cases o with
 |none=>
  obtain⟨q,l,aJ,h1,h2⟩:=h;exact⟨q,l,aJ,h1,by rw[h2,gg,ll aY]⟩
 |some p=>exact(show x=_ from h).trans (by rw[ll aY])
structure Kl(O:ay)(W:Nat->Ex)(w:List Nat)(fa:Nat)(nm:Nm)(mk:C->C->C):Prop where
 stop:∀ (n:Nat) (J:LC) (c r:Nat) (e:C),bB (.ref c) .reader J=some (.ok (.ref r),J)->bU J (.ref r) .skip=some (.fn 616,true)->O 616 [.ref r,.str w] J=some (.ok (.bool false),J) ->
  W (n+1) [some (.ref c),some e.v] J=some (.ok .next,[some (.ref c),some e.v],J)
 err:∀ (n:Nat) (J aa aj:LC) (c r i:Nat) (e:C),bB (.ref c) .reader J=some (.ok (.ref r),J)->bU J (.ref r) .skip=some (.fn 616,true)->O 616 [.ref r,.str w] J=some (.ok (.bool true),aa)->bU aa (.ref c) nm=some (.fn fa,true) ->
  O fa [.ref c] aa=some (.error i,aj)->W (n+1) [some (.ref c),some e.v] J=some (.error i,[some (.ref c),some e.v],aj)
 go:∀ (n:Nat) (J aa aj:LC) (c r:Nat) (e f:C) (z:Except Nat Fl×LV×LC),bB (.ref c) .reader J=some (.ok (.ref r),J)->bU J (.ref r) .skip=some (.fn 616,true)->O 616 [.ref r,.str w] J=some (.ok (.bool true),aa)->bU aa (.ref c) nm=some (.fn fa,true) ->
  O fa [.ref c] aa=some (.ok f.v,aj)->W n [some (.ref c),some (mk e f).v] aj=some z->W (n+1) [some (.ref c),some e.v] J=some z
section
variable {O:ay}
theorem Xc:Kl O (dH (fun lv=>dh O lv [none] (fO tD 1)) (aD F O [none] (cq tD 1))) [79,82] 411 .both .or where
 stop n J c r e a m s:=by
  exact bX [.v a,.m m,.v s,.c,.c]
 err n J aa aj c r i e a m s m2 hx:=by
  exact bX [.v a,.m m,.v s,.c,.c,.m m2,.v hx]
 go n J aa aj c r e f z a m s m2 hx hz:=by
  exact bX [.v a,.m m,.v s,.c,.c,.m m2,.v hx,.x hz]
theorem Xe:Kl O (dH (fun lv=>dh O lv [none] (fO tE 1)) (aD F O [none] (cq tE 1))) [65,78,68] 418 .turned .and where
 stop n J c r e a m s:=by
  exact bX [.v a,.m m,.v s,.c,.c]
 err n J aa aj c r i e a m s m2 hx:=by
  exact bX [.v a,.m m,.v s,.c,.c,.m m2,.v hx]
 go n J aa aj c r e f z a m s m2 hx hz:=by
  exact bX [.v a,.m m,.v s,.c,.c,.m m2,.v hx,.x hz]
end
theorem SO(T:Kl (ah F ae (k+6)) W t.w fa nm mk)(hF:1000<=F)(ht:lB.lookup t.w=some [t.w])(ni:t.k=.word)(hf:dX .fu nm=none)(hm:m8 .fu nm=some fa)
  (gW:kh p) (hs:HC (ah F ae (k+6)) fa n p) (d c r tk:Nat) (ts:List Tok) (m:Nat):∀ (F':Nat) (J:LC) (rest:List Tok) (e:C) (l:Last),CR J c r tk ts rest d l->eY rest=true->ft n rest->rest.length<m->rest.length<F' ->
  pH J c r tk ts d (j8 t mk p d m e l rest) (W F' [some (.ref c),some e.v] J):=by
 induction m with
 |zero=>exact fun _ _ _ _ _ _ _ _ h _=>absurd h (hJ _)
 |succ m IH=>
  intro F' J rest e l h aW bf qz yd;cases F' with
  |zero=>exact absurd yd (hJ _)
  |succ F'=>
  have xJ:=wK (k:=k) hF h.rd t ht ni;have m1:=h.rd.ai (n:=.skip) rfl rfl;show pH J c r tk ts d (match hd t rest with|some r0=>(p d l r0).bind fun x=>j8 t mk p d m (mk e x.1) x.2.1 x.2.2|none=>some (e,l,rest)) _;cases hx:hd t rest with
  |none=>
   have hn:=qE hx;rw[decide_eq_false hn,show aQ t rest=rest from if_neg hn,h.rd.same]at xJ;exact(T.stop _ _ _ _ _ h.cj m1 xJ).trans (by rw[h.same])
  |some r0=>
   have e1:=fk hx;subst e1;rw[show decide ((t :: r0)[0]?=some t)=true from decide_eq_true rfl,show aQ t (t :: r0)=r0 from if_pos rfl,h.rZ]at xJ;have qt:=kr h.rd.bO;have c1:=h.set qt l;have hS:=hs _ c r tk ts r0 d l c1 (lI aW) (bf.bO (ml _ _));show pH J c r tk ts d ((p d l r0).bind fun x=>j8 t mk p d m (mk e x.1) x.2.1 x.2.2) _;cases hp:p d l r0 with
   |none=>
    rw[hp]at hS;obtain⟨q,l',hq,hx⟩:=hS;rw[ll h.ne,gg]at hx;exact⟨q,l',_,hq,T.err _ _ _ _ _ _ _ _ h.cj m1 xJ (c1.ai hf hm) hx⟩
   |some x=>
    obtain⟨f,l',q⟩:=x;rw[hp]at hS;have hx:ah F ae (k+6) fa [.ref c] (w2 J c r tk ts d r0 l)=some (.ok f.v,w2 (w2 J c r tk ts d r0 l) c r tk ts d q l'):=hS;rw[ll h.ne]at hx;have cP:=gW _ _ _ _ _ _ hp
    have ih:=(IH F' _ q (mk e f) l' (h.set (cP.1.trans qt) l') (og (lI aW) cP.1) ((bf.bO (ml _ _)).bO cP.1)
     (pE cP.2 (iH qz)) (pE cP.2 (iH yd))).of h.ne
    have go:=fun z hz=>T.go F' _ _ _ c r e f z h.cj m1 xJ (c1.ai hf hm) hx hz;show pH J c r tk ts d (j8 t mk p d m (mk e f) l' q) _;revert ih;cases j8 t mk p d m (mk e f) l' q with
    |none=>intro ih;obtain⟨q',l2,aJ,h1,h2⟩:=ih;exact⟨q',l2,aJ,h1,go _ h2⟩
    |some x=>exact fun h2=>go _ h2
section
variable {O:ay}{J:LC}{c r tk d:Nat}{ts rest q q':List Tok}{l l':Last}
theorem agR(h:CR J c r tk ts rest d l)(hp:Rc J c r tk ts d o (O 418 [.ref c] J))
  (hl:∀ p,o=some p->pH J c r tk ts d (g p) (dH (fun lv=>dh O lv [none] (fO tE 1)) (aD F O [none] (cq tE 1)) F [some (.ref c),some p.1.v] (w2 J c r tk ts d p.2.2 p.2.1))) :
  Rc J c r tk ts d (o.bind g) (aq F O f_both [.ref c] J):=by
 have m0:=h.ai (n:=.turned) rfl rfl;cases o with
 |none=>
  obtain⟨q,l',hq,hx⟩:=hp;refine⟨q,l',hq,?_⟩;have e1:=j6 J c r tk ts d q l';have e2:=gE J c r tk ts d q l' [.exc];clear hl;exact call_of [.m m0,.v hx,.b e1,.s e2]
 |some p=>
  have hx:O 418 [.ref c] J=some (.ok p.1.v,w2 J c r tk ts d p.2.2 p.2.1):=hp;have hl:=hl p rfl;show Rc J c r tk ts d (g p) _;revert hl;cases g p with
  |none=>
   intro hl;obtain⟨q,l',aJ,hq,hw⟩:=hl;refine⟨q,l',hq,?_⟩;have e1:=j6 J c r tk ts d q l';have e2:=gE J c r tk ts d q l' [.exc];exact call_of [.m m0,.v hx,.x hw,.b e1,.s e2]
  |some y=>
   intro hw;have hw:dH (fun lv=>dh O lv [none] (fO tE 1)) (aD F O [none] (cq tE 1)) F [some (.ref c),some p.1.v] (w2 J c r tk ts d p.2.2 p.2.1)=some (.ok .next,[some (.ref c),some y.1.v],w2 J c r tk ts d y.2.2 y.2.1):=hw;have e1:=y.1.low J.length;have e2:=jd J c r tk ts d y.2.2 y.2.1;show aq F O f_both [.ref c] J=some (.ok y.1.v,w2 J c r tk ts d y.2.2 y.2.1);exact call_of [.m m0,.v hx,.x hw,.b e1,.s e2]
theorem af5(h:CR J c r tk ts rest d l)(hp:Rc J c r tk ts d o (O 411 [.ref c] J))
  (hl:∀ p,o=some p->pH J c r tk ts d (g p) (dH (fun lv=>dh O lv [none] (fO tD 1)) (aD F O [none] (cq tD 1)) F [some (.ref c),some p.1.v] (w2 J c r tk ts d p.2.2 p.2.1))) :
  Rc J c r tk ts d (o.bind g) (aq F O G_ [.ref c] J):=by
 have m0:=h.ai (n:=.both) rfl rfl;cases o with
 |none=>
  obtain⟨q,l',hq,hx⟩:=hp;refine⟨q,l',hq,?_⟩;have e1:=j6 J c r tk ts d q l';have e2:=gE J c r tk ts d q l' [.exc];clear hl;exact call_of [.m m0,.v hx,.b e1,.s e2]
 |some p=>
  have hx:O 411 [.ref c] J=some (.ok p.1.v,w2 J c r tk ts d p.2.2 p.2.1):=hp;have hl:=hl p rfl;show Rc J c r tk ts d (g p) _;revert hl;cases g p with
  |none=>
   intro hl;obtain⟨q,l',aJ,hq,hw⟩:=hl;refine⟨q,l',hq,?_⟩;have e1:=j6 J c r tk ts d q l';have e2:=gE J c r tk ts d q l' [.exc];exact call_of [.m m0,.v hx,.x hw,.b e1,.s e2]
  |some y=>
   intro hw;have hw:dH (fun lv=>dh O lv [none] (fO tD 1)) (aD F O [none] (cq tD 1)) F [some (.ref c),some p.1.v] (w2 J c r tk ts d p.2.2 p.2.1)=some (.ok .next,[some (.ref c),some y.1.v],w2 J c r tk ts d y.2.2 y.2.1):=hw;have e1:=y.1.low J.length;have e2:=jd J c r tk ts d y.2.2 y.2.1;show aq F O G_ [.ref c] J=some (.ok y.1.v,w2 J c r tk ts d y.2.2 y.2.1);exact call_of [.m m0,.v hx,.x hw,.b e1,.s e2]
end
theorem agQ(hF:200000<=F)(gW:kh p)(hs:HC (ah F ae (k+6)) 418 n p):HC (ah F ae (k+7)) 411 n (mP .lh .and p):=fun J c r tk ts rest d l h aW bf=>
 agR (O:=ah F ae (k+6)) h (hs J c r tk ts rest d l h aW bf) fun x hx=>by
  have cP:=gW _ _ _ _ _ _ hx;exact(SO Xe (ak ⋯ hF) rfl rfl rfl rfl gW hs d c r tk ts (x.2.2.length+1) F _ x.2.2 x.1 x.2.1 (h.set (cP.1.trans h.rd.bO) _) (og aW cP.1) (bf.bO cP.1) (eQ _) (room hF h.rd cP.1)).of h.ne
theorem af4(hF:200000<=F)(gW:kh p)(hs:HC (ah F ae (k+6)) 411 n p):HC (ah F ae (k+7)) 404 n (mP .OR .or p):=fun J c r tk ts rest d l h aW bf=>
 af5 (O:=ah F ae (k+6)) h (hs J c r tk ts rest d l h aW bf) fun x hx=>by
  have cP:=gW _ _ _ _ _ _ hx;exact(SO Xc (ak ⋯ hF) rfl rfl rfl rfl gW hs d c r tk ts (x.2.2.length+1) F _ x.2.2 x.1 x.2.1 (h.set (cP.1.trans h.rd.bO) _) (og aW cP.1) (bf.bO cP.1) (eQ _) (room hF h.rd cP.1)).of h.ne
theorem Sm(hF:200000<=F):∀ (n k:Nat),HC (ah F ae (k+18+5*n)) 404 n (fC n)
 |0=>fun k=>fun J c r tk ts rest d l h aW bf=>absurd bf (hJ _)
 |n+1=>fun k=>by
  have ih:=Sm hF n k;rw[show k+18+5*n=(k+5*n+5)+13 by lia]at ih;have he:∀ j,HE (ah F ae (k+5*n+5+10+j)) (n+1) (cA (n+1) 0):=fun j J r tk ts rest h aW bf=>by
   have:=aa1 (k:=k+j) hF (n+1) h aW bf;rwa[show k+j+10+5*(n+1)=k+5*n+5+10+j by lia]at this
  rw[show k+18+5*(n+1)=(k+5*n+5+11)+7 by lia];have ht:=W9 (Y1 (ak ⋯ hF) he (zM _) ih (wG n));exact af4 hF (DO (DK (zM _) (wG n))) (agQ (k:=k+5*n+5+10) hF (DK (zM _) (wG n)) ht)
end
section
variable {F k:Nat}
theorem tG{J:LC}{j:Nat}(h:J[j]?=some (.lst l))(hs:short l=true)(hl:low j v=true):cw .cX [.ref j,v] J=some (.ok .none,J.set j (.lst (l++[v]))):=by
 show bt j (fun l=>aF (short l&&low j v) (uv j (l++[v]) .none)) J=_;rw[d8 h,hs,hl];rfl
theorem D9(J:LC)(x y:Cell)(X:LC):(J++x :: X).set J.length y=J++y :: X:=by
 rw[vU _ _ (aG _),jF];rfl
theorem jz(J:LC)(x:Cell)(X:LC):(J++x :: X)[J.length]?=some x:=by
 rw[iF (aG _),jF];rfl
theorem Xv(J:LC)(kd w:List Nat)(i:Int):ah F ae (k+3) 164 [.str kd,.str w,.tup [.int 1,.int i]] J=some (.ok (.obj .token [.str kd,.str w,.tup [.int 1,.int i],.bool false]),J):=by
 have p1:=lK (J:=J) .kind (c:=.token) (l:=[]) (v:=.str kd) rfl rfl;have p2:=lK (J:=J) .worth (c:=.token) (l:=[.str kd]) (v:=.str w) rfl rfl;have p3:=lK (J:=J) .at_ (c:=.token) (l:=[.str kd,.str w]) (v:=.tup [.int 1,.int i]) rfl rfl;have p4:=lK (J:=J) .AV (c:=.token) (l:=[.str kd,.str w,.tup [.int 1,.int i]]) (v:=.bool false) rfl rfl;have t:=Dz J (.ins .token []) (.ins .token [.str kd,.str w,.tup [.int 1,.int i],.bool false])
 have key:aq F (ah F ae (k+2)) GV [.ref J.length,.str kd,.str w,.tup [.int 1,.int i]] (J++[.ins .token []])=some (.ok .none,J++[.ins .token [.str kd,.str w,.tup [.int 1,.int i],.bool false]]):=by
  generalize ah F ae (k+2)=O;generalize J.length=n at *;exact call_of [.u p1,.u p2,.u p3,.u p4,.c,.s t]
 show xn .token J.length (aq F (ah F ae (k+2)) GV [.ref J.length,.str kd,.str w,.tup [.int 1,.int i]] (J++[.ins .token []]))=_;rw[key];show mU J.length (zE J.length) _=_;unfold mU;rw[jz];show(if _ then some (_,List.take J.length (J++_)) else none)=_;rw[if_pos ⟨rfl,rfl,rfl⟩,mn rfl]
theorem aaW(J:LC)(ts:List Tok)(hT:T<J.length):ah F ae (k+3) 719 [.ref T] J=some (.ok (.ref J.length),J++[aw T ts ts]):=by
 have e:aw T ts ts=.ins .reader [.ref T,.int 0,.fE]:=by unfold aw;rw[jF];rfl
 rw[e];have p1:=lK (J:=J) .tokens (c:=.reader) (l:=[]) (v:=.ref T) rfl (decide_eq_true hT);have p2:=lK (J:=J) .at_ (c:=.reader) (l:=[.ref T]) (v:=.int 0) rfl rfl;have p3:=lK (J:=J) .named (c:=.reader) (l:=[.ref T,.int 0]) (v:=.fE) rfl rfl;have t:=Dz J (.ins .reader []) (.ins .reader [.ref T,.int 0,.fE]);have key:aq F (ah F ae (k+2)) G5 [.ref J.length,.ref T] (J++[.ins .reader []])=some (.ok .none,J++[.ins .reader [.ref T,.int 0,.fE]]):=by
  generalize ah F ae (k+2)=O;generalize J.length=n at *;exact call_of [.u p1,.u p2,.u p3,.c,.s t]
 show xn .reader J.length (aq F (ah F ae (k+2)) G5 [.ref J.length,.ref T] (J++[.ins .reader []]))=_;rw[key];rfl
def eh(ts:List Tok):List V:=ts.map fun t=>V.str t.w
theorem Dl(ts:List Tok):(eh ts).length=ts.length:=f7 ..
theorem ub{ts:List Tok}(h:ts.length<=100000):short (eh ts)=true:=decide_eq_true (by rw[Dl];exact ak h ⋯)
theorem Xw(l:List Tok)(x:Tok):gj (l++[x])=gj l++[fQ l.length x]:=List.mapIdx_concat
def hc(t:Tok):Nat:=t.w.headD 0
theorem WK(t:Tok):t.w[0]?=some (hc t):=Tok.ag (f:=fun t=>t.w[0]?) (g:=fun t=>some (hc t)) (by kernel_rfl) t
theorem aeZ(h:t.k=.word):decide ([hc t]<[65])=false/\(!decide ([90]<[hc t]))=true:=⟨Tok.k8 (f:=fun t=>decide ([hc t]<[65])) (g:=fun _=>false) (by kernel_rfl) h,Tok.k8 (f:=fun t=>!decide ([90]<[hc t])) (g:=fun _=>true) (by kernel_rfl) h⟩
theorem ae1(h:t.k=.num):decide ([hc t]<[65])=true/\cH [hc t] [48,49,50,51,52,53,54,55,56,57]=true:=⟨Tok.k8 (f:=fun t=>decide ([hc t]<[65])) (g:=fun _=>true) (by kernel_rfl) h,Tok.k8 (f:=fun t=>cH [hc t] [48,49,50,51,52,53,54,55,56,57]) (g:=fun _=>true) (by kernel_rfl) h⟩
theorem ae0(h:t.k=.sign):decide ([hc t]<[65])=true/\cH [hc t] [48,49,50,51,52,53,54,55,56,57]=false/\decide ([hc t]=[39])=false:=⟨Tok.k8 (f:=fun t=>decide ([hc t]<[65])) (g:=fun _=>true) (by kernel_rfl) h,Tok.k8 (f:=fun t=>cH [hc t] [48,49,50,51,52,53,54,55,56,57]) (g:=fun _=>false) (by kernel_rfl) h,Tok.k8 (f:=fun t=>decide ([hc t]=[39])) (g:=fun _=>false) (by kernel_rfl) h⟩
section
variable {J:LC}
theorem aeo(h:l[0]?=some c):eM (.str l) (.int 0) J=some (.ok (.str [c]),J):=by
 show aF (iu 0) (aS l[0]? fun v=>Ev.ret (V.str [v])) J=_;rw[h];rfl
theorem jU(h:cH a b=t):bj .isIn (.str a) (.str b) J=some (.ok (.bool t),J):=by
 show some (Except.ok (V.bool (cH a b ^^ false)),J)=_;rw[h,tX]
end
theorem aa3{O:ay}{j L n f:Nat}(hn:eI j n aa=some (some (.tup [.int n,.str t.w])))(hm:bU aa (.ref L) .append=some (.bi .cX,true))
  (ht:O 164 [.str t.k.w,.str t.w,.tup [.int 1,.int ((n:Int)+1)]] aa=some (.ok (fQ n t),aa)) (ha:cw .cX [.ref L,fQ n t] aa=some (.ok .none,aj))
  (hz:cR (eI j) (.two 2 3) (aD F O [none] (cq tC 1)) f (n+1) [some (.ref j),some (.ref L),some (.int n),some (.str t.w),some (.str t.k.w)] aj=some z) :
  cR (eI j) (.two 2 3) (aD F O [none] (cq tC 1)) (f+1) n [some (.ref j),some (.ref L),x2,x3,x4] aa=some z:=by
 have i:=aeo (J:=aa) (WK t);cases hk:t.k with
 |word=>
  rw[hk]at hz;have ht:O 164 [.str [119,111,114,100],.str t.w,.tup [.int 1,.int ((n:Int)+1)]] aa=some (.ok (fQ n t),aa):=by rw[hk]at ht;exact ht
  obtain⟨b1,b2⟩:=aeZ hk;exact j4 hn [.v i,.b b1,.b b2,.m hm,.c,.c,.c,.v ht,.v ha,.x hz]
 |num=>
  rw[hk]at hz;have ht:O 164 [.str [110,117,109,98,101,114],.str t.w,.tup [.int 1,.int ((n:Int)+1)]] aa=some (.ok (fQ n t),aa):=by rw[hk]at ht;exact ht
  obtain⟨b1,b2⟩:=ae1 hk;have b2:=jU (J:=aa) b2;exact j4 hn [.v i,.b b1,.v i,.v b2,.c,.m hm,.c,.c,.c,.v ht,.v ha,.x hz]
 |sign=>
  rw[hk]at hz;have ht:O 164 [.str [115,105,103,110],.str t.w,.tup [.int 1,.int ((n:Int)+1)]] aa=some (.ok (fQ n t),aa):=by rw[hk]at ht;exact ht
  obtain⟨b1,b2,b3⟩:=ae0 hk;have b2:=jU (J:=aa) b2;have b3:=kT (J:=aa) (of_decide_eq_false b3);exact j4 hn [.v i,.b b1,.v i,.v b2,.c,.v i,.v b3,.c,.m hm,.c,.c,.c,.v ht,.v ha,.x hz]
section
variable {O:ay}{j:Nat}{ts:List Tok}{J:LC}
theorem MV(ht:∀ J n t,O 164 [.str (Tok.k t).w,.str t.w,.tup [.int 1,.int ((n:Nat)+1)]] J=some (.ok (fQ n t),J))(dC:ts.length<=100000)(hj:J[j]?=some (.lst (eh ts))):∀ (m n F':Nat) (x2 x3 x4:Option V),n+m=ts.length->m<F' ->
  ∃ y2 y3 y4,cR (eI j) (.two 2 3) (aD F O [none] (cq tC 1)) F' n [some (.ref j),some (.ref J.length),x2,x3,x4] (J++[.lst (gj (ts.take n)),.raw,.raw]) =
   some (.ok .next,[some (.ref j),some (.ref J.length),y2,y3,y4],J++[.lst (gj ts),.raw,.raw])
 |m,n,0=>fun _ _ _ _ h=>absurd h (hJ _)
 |m,n,F'+1=>fun x2 x3 x4 h hm=>by
  have h1:(J++[Cell.lst (gj (ts.take n)),.raw,.raw])[j]?=some (.lst (eh ts)):=by rw[dp (dD hj)];exact hj
  have eB:eI j n (J++[Cell.lst (gj (ts.take n)),.raw,.raw])=some ((ts[n]?).map fun t=>V.tup [.int n,.str t.w]):=by
   unfold eI;rw[h1];show(if short (eh ts)=true then some (((ts.map fun t=>V.str t.w)[n]?).map fun v=>V.tup [.int n,v]) else none)=_;rw[if_pos (ub dC),eS,Vi];rfl
  cases m with
  |zero=>
   have hn:n=ts.length:=h;subst hn;rw[v7 (aG _)]at eB;refine⟨x2,x3,x4,?_⟩;rw[Ip]at eB ⊢;exact yj eB
  |succ m=>
   have hn:n<ts.length:=by lia
   rw[dw hn]at eB;obtain⟨y2,y3,y4,ih⟩:=MV ht dC hj m (n+1) F' (some (.int n)) (some (.str ts[n].w)) (some (.str ts[n].k.w)) (by lia) (iH hm);refine⟨y2,y3,y4,aa3 eB (lM (jz J _ _) rfl) (ht _ _ _) (tG (jz J _ _) (Dx (ak (List.length_take_le' ..) dC)) rfl) ?_⟩;rw[D9];rw[List.take_succ_eq_append_getElem hn,Xw,gL,mq (fH hn)]at ih
   exact ih
theorem aaX(hj:J[j]?=some (.lst (eh ts)))
  (hl:cR (eI j) (.two 2 3) (aD F O [none] (cq tC 1)) F 0 [some (.ref j),some (.ref J.length),none,none,none] (J++[.lst [],.raw,.raw])=some (.ok .next,[some (.ref j),some (.ref J.length),y2,y3,y4],aj))
  (hm:O 719 [.ref J.length] aj=some (.ok (.ref R),aa)):aq F O RE [.ref j] J=some (.ok (.ref R),aa):=by
 have hf:jO (.ref j) (fun j'=>jR j' (jm 2 (cR (eI j') (.two 2 3) (aD F O [none] (cq tC 1)) F 0))) [some (.ref j),some (.ref J.length),none,none,none] (J++[.lst []])=some (.ok .next,[some (.ref j),some (.ref J.length),y2,y3,y4],aj):=by
  show(match (J++[Cell.lst []])[j]?.bind i9 with|some _=>_|none=>none)=_;rw[dp (dD hj),hj];show cR (eI j) (.two 2 3) (aD F O [none] (cq tC 1)) F 0 [some (.ref j),some (.ref J.length),none,none,none] (J++[.lst []]++[.raw,.raw])=_;rw[aH];exact hl
 exact call_of [.x hf,.v hm]
end
theorem aaV(hF:200000<=F){J:LC}{j:Nat}{ts:List Tok}(dC:ts.length<=100000)(hj:J[j]?=some (.lst (eh ts))) :
  ah F ae (k+4) 744 [.ref j] J=some (.ok (.ref (J.length+3)),J++[.lst (gj ts),.raw,.raw,aw J.length ts ts]):=by
 obtain⟨y2,y3,y4,hl⟩:=MV (F:=F) (O:=ah F ae (k+3)) (fun J n t=>Xv (F:=F) (k:=k) J _ _ _) dC hj ts.length 0 F none none none (fy _) (e_ dC (dN ⋯ hF));have oQ:=aaW (F:=F) (k:=k) (J++[.lst (gj ts),.raw,.raw]) (T:=J.length) ts (by rw[bz];exact Iy (iI _));rw[aH,bz]at oQ
 exact aaX (O:=ah F ae (k+3)) hj hl oQ
end
section
variable {F k:Nat}
section
variable {O:ay}{J aa aj cF:LC}{r n i R j:Nat}{cd:C}
theorem aa5(x0:O 477 [.ref r,.lam,.int 0] J=some (.ok (.ref n),aa))(m:bU aa (.ref n) .either=some (.fn 404,true))(x:O 404 [.ref n] aa=some (.ok cd.v,aj))(t:aj.take J.length=cF):aq F O BL [.ref r,.lam] J=some (.ok cd.v,cF):=by
 have e1:=cd.low J.length;exact call_of [.c,.c,.v x0,.m m,.v x,.b e1,.s t]
theorem aa6(x0:O 477 [.ref r,.lam,.int 0] J=some (.ok (.ref n),aa))(m:bU aa (.ref n) .either=some (.fn 404,true))(x:O 404 [.ref n] aa=some (.error i,aj))(hi:decide (J.length<=i/\isExc aj i=true)=true)(t:aj.take J.length=cF) :
  aq F O BL [.ref r,.lam] J=some (.error J.length,cF++[.exc]):=by
 exact call_of [.c,.c,.v x0,.m m,.v x,.b hi,.s t]
theorem acT(x0:O 744 [.ref j] J=some (.ok (.ref R),aa))(x:O 489 [.ref R,.lam] aa=some (.error i,aj))(he:isExc aj i=true)(t:aj.take J.length=cF):aq F O yt [.ref j] J=some (.ok .none,cF):=by
 have hb:aD F cI [none] (Gs Cd 1) [some (.ref j),some (.ref R),some .none,some .none,some (.ref i)] aj=some (.ok .next,[some (.ref j),some (.ref R),some .none,some (.ref i),some (.ref i)],aj):=by
  exact B8 []
 have hh:=Dv (lv:=[some (.ref j),some (.ref R),some .none,some .none,none]) (i:=4) he hb;exact call_of [.v x0,.v x,.x hh,.c,.c,.c,.s t]
theorem acS(x0:O 744 [.ref j] J=some (.ok (.ref R),aa))(x:O 489 [.ref R,.lam] aa=some (.ok cd.v,aj))(a:bB (.ref R) .at_ aj=some (.ok (.int P),aj))(l:cw .len [.ref j] aj=some (.ok (.int Q),aj))(hb:decide (P=Q)=b)(t:aj.take J.length=cF)
  (ho:cond b cd.v .none=o):aq F O yt [.ref j] J=some (.ok o,cF):=by
 have e1:=cd.low J.length;cases b with
 |true=>subst ho;exact call_of [.v x0,.v x,.c,.c,.v a,.v l,.c,.b hb,.b e1,.s t]
 |false=>subst ho;exact call_of [.v x0,.v x,.c,.c,.v a,.v l,.c,.b hb,.c,.s t]
end
theorem aa2(hF:200000<=F)(n:Nat){J:LC}{r tk:Nat}{ts rest:List Tok}(h:RD J r tk ts rest)(aW:eY rest=true)(bf:ft n rest) :
  match fC n 0 none rest with
  |some p=>ah F ae (k+19+5*n) 489 [.ref r,.lam] J=some (.ok p.1.v,J.set r (aw tk ts p.2.2))
  |none=>∃ q,q <:+ ts/\ah F ae (k+19+5*n) 489 [.ref r,.lam] J=some (.error J.length,J.set r (aw tk ts q)++[.exc]):=by
 have e:ah F ae (k+19+5*n) 489 [.ref r,.lam] J=aq F (ah F ae (k+18+5*n)) BL [.ref r,.lam] J:=by
  rw[show k+19+5*n=(k+17+5*n)+2 by lia,show k+18+5*n=(k+17+5*n)+1 by lia];rfl
 rw[e];have hr:=h.lt;have oQ:ah F ae (k+18+5*n) 477 [.ref r,.lam,.int 0] J=some (.ok (.ref J.length),J++[gA r 0 none]):=by
  rw[show k+18+5*n=(k+15+5*n)+3 by lia];exact NY (F:=F) (k:=k+15+5*n) hr 0
 have c2:CR (J++[gA r 0 none]) J.length r tk ts rest 0 none:=⟨h.app _,bx⟩;have hE:=Sm hF n k _ J.length r tk ts rest 0 none c2 aW bf;cases jt:fC n 0 none rest with
 |none=>
  rw[jt]at hE;obtain⟨q,l',hq,hx⟩:=hE;rw[Dm hr]at hx;exact⟨q,hq,aa6 oQ (c2.ai rfl rfl) hx (Hf (by rw[bz,bz,ef];rfl) (by rw[bz];exact cL _ _)) (by rw[aH];exact mn (ef ..))⟩
 |some x=>
  rw[jt]at hE;have hx:ah F ae (k+18+5*n) 404 [.ref J.length] (J++[gA r 0 none])=some (.ok x.1.v,w2 (J++[gA r 0 none]) J.length r tk ts 0 x.2.2 x.2.1):=hE;rw[Dm hr]at hx;exact aa5 oQ (c2.ai rfl rfl) hx (mn (ef ..))
def uB(n:Nat)(ts:List Tok):Option C:=(fC n 0 none ts).bind fun p=>cond p.2.2.isEmpty (some p.1) none
def xg:Option C->V
 |some cd=>cd.v
 |none=>.none
theorem adl(hF:200000<=F)(n:Nat){J:LC}{j:Nat}(dC:ts.length<=100000)(hj:J[j]?=some (.lst (eh ts)))(aW:eY ts=true)(bf:ft n ts) :
  ah F ae (k+20+5*n) 772 [.ref j] J=some (.ok (xg (uB n ts)),J):=by
 have e:ah F ae (k+20+5*n) 772 [.ref j] J=aq F (ah F ae (k+19+5*n)) yt [.ref j] J:=by
  rw[show k+20+5*n=(k+18+5*n)+2 by lia,show k+19+5*n=(k+18+5*n)+1 by lia];rfl
 rw[e];have Bf:ah F ae (k+19+5*n) 744 [.ref j] J=some (.ok (.ref (J.length+3)),J++[.lst (gj ts),.raw,.raw,aw J.length ts ts]):=by
  rw[show k+19+5*n=(k+15+5*n)+4 by lia];exact aaV hF dC hj
 have hg:∀ (i:Nat) (X:LC),(J++X)[J.length+i]?=X[i]?:=fun i X=>by rw[iF (cL _ _),tQ]
 have h1:RD (J++[.lst (gj ts),.raw,.raw,aw J.length ts ts]) (J.length+3) J.length ts ts:=⟨hg 3 _,jz J _ _,dC,Cz _⟩;have Bg:=aa2 (k:=k) hF n h1 aW bf;have oJ:∀ q,(J++[.lst (gj ts),.raw,.raw,aw J.length ts ts]).set (J.length+3) (aw J.length ts q)=J++[.lst (gj ts),.raw,.raw,aw J.length ts q]:=fun q=>by
  rw[vU _ _ (cL _ _),tQ];rfl
 unfold uB;cases jt:fC n 0 none ts with
 |none=>
  rw[jt]at Bg;obtain⟨q,hq,hx⟩:=Bg;rw[oJ]at hx;refine acT Bf hx (xB (by rw[bz,bz];rfl)) ?_;rw[aH,mn rfl]
 |some x=>
  rw[jt]at Bg;have hx:ah F ae (k+19+5*n) 489 [.ref (J.length+3),.lam] _=some (.ok x.1.v,_):=Bg;rw[oJ]at hx;have Px:=(wG n _ _ _ _ _ _ jt).1;have h2:RD (J++[.lst (gj ts),.raw,.raw,aw J.length ts x.2.2]) (J.length+3) J.length ts x.2.2:=⟨hg 3 _,jz J _ _,dC,Px⟩;refine acS Bf hx h2.at (uQ (by rw[dp (dD hj)];exact hj) (ub dC)) (b:=x.2.2.isEmpty) ?_ (mn rfl) ?_
  ·rw[Dl];have hl:=Px.length_le;cases hq:x.2.2 with
   |nil=>exact decide_eq_true rfl
   |cons t q=>rw[hq]at hl;exact decide_eq_false fun e=>by rw[qZ]at *;lia
  ·show _=xg (cond x.2.2.isEmpty (some x.1) none);cases x.2.2.isEmpty<;>rfl
end
section
variable {F k:Nat}
theorem pM(t:Tok):t.w.length<=16:=bh (Tok.all (p:=fun t=>Nat.ble t.w.length 16) (by kernel_rfl) t)
theorem DQ:∀ l:List (List Nat),strsOf (l.map V.str)=some l
 |[]=>rfl
 |x :: r=>by show(strsOf (r.map V.str)).map (x :: ·)=_;rw[DQ r];rfl
theorem ON:∀ l:List (List Nat),kH [] l=l.flatten
 |[]=>rfl
 |[x]=>(dM x).symm
 |x :: y :: r=>by
  show x++[]++kH [] (y :: r)=x++(y :: r).flatten;rw[ON (y :: r),dM]
section
variable {J:LC}
theorem Ki(h:J[i]?=some (.lst a))(h':J[j]?=some (.lst b))(hs:short (a++b)=true):c_ .add (.ref i) (.ref j) J=some (.ok (.ref J.length),J++[.lst (a++b)]):=by
 show bt i (fun a=>bt j fun b=>mY (a++b)) J=_;rw[d8 h,d8 h'];show aF (short (a++b)) _ J=_;rw[hs];rfl
theorem adX(h:J[n]?=some (.lst (l.map V.str)))(hj:qk sep l=true)(hx:kH sep l=x):cw .nW [.str sep,.ref n] J=some (.ok (.str x),J):=by
 show bt n (fun l=>aS (strsOf l) fun ws=>aF (qk sep ws) (Ev.ret (V.str (kH sep ws)))) J=_;rw[d8 h,DQ];show aF (qk sep l) _ J=_;rw[hj,hx];rfl
theorem Fz(h:J[n]?=some (.lst (l.map V.str)))(hs:short l=true)(hj:(l.map List.length).sum<=1048576)(hx:l.reverse.flatten=x):m_ [] (.ref n) J=some (.ok (.str x),J):=by
 show bt n (fun l=>aF (short l) (aS (strsOf l.reverse) fun ws=>aF (qk [] ws) (Ev.ret (V.str (kH [] ws))))) J=_;rw[d8 h,<-Io,DQ,show short (l.map V.str)=true from (congrArg (fun n=>decide (n<=1048576)) (f7 ..)).trans hs];show aF (qk [] l.reverse) _ J=_;rw[ON,hx,show qk [] l.reverse=true from decide_eq_true (by rw[Io,Vh];exact hj)];rfl
theorem Zr(t:Tok)(u:V):ah F ae (k+2) 243 [(E.ref t).v,u] J=some (.ok (.str t.w),J):=by
 show aq F (ah F ae (k+1)) Rp [(E.ref t).v,u] J=_;generalize ah F ae (k+1)=O;have a:=Ki (J:=J++[Cell.lst [V.str t.w]]++[Cell.lst []]) (i:=J.length) (j:=(J++[Cell.lst [V.str t.w]]).length) (a:=[V.str t.w]) (b:=[]) (by rw[aH];exact jz ..) bx rfl;have j:=adX (J:=J++[Cell.lst [V.str t.w]]++[Cell.lst []]++[Cell.lst [V.str t.w]]) (sep:=[32,79,70,32]) (n:=(J++[Cell.lst [V.str t.w]]++[Cell.lst []]).length) (l:=[t.w]) (x:=t.w) bx (decide_eq_true (ak (f9 (pM t) _) (bh rfl))) rfl
 have e:List.take J.length (J++[Cell.lst [V.str t.w]]++[Cell.lst []]++[Cell.lst [V.str t.w]])=J:=by rw[aH,aH];exact eV ..
 exact call_of [.c,.c,.c,.c,.v a,.v j,.c,.c,.c,.c,.c,.c,.c,.s e]
end
inductive iK where
 |nm (t:Tok)|n1|n5|m5|Z
noncomputable def iK.e:iK->E
 |.nm t=>.ref t|.n1=>.num 1|.n5=>.num 5|.m5=>.num (-5)|.Z=>.zero
def iK.t:iK->List Nat
 |.nm t=>t.w|.n1=>[49]|.n5=>[53]|.m5=>[45,53]|.Z=>[90,69,82,79]
noncomputable def iK.l:iK->Int
 |.m5=>3|_=>5
theorem iK.len(o:iK):o.t.length<=16:=by
 cases o with
 |nm t=>exact pM t
 |_=>exact bh rfl
section
variable {J:LC}{O:ay}
theorem Nl(o:iK)(u:V):ah F ae (k+3) 250 [o.e.v,u] J=some (.ok (.str o.t),J):=by
 show aq F (ah F ae (k+2)) Rq [o.e.v,u] J=_;have hr:=fun t=>Zr (F:=F) (k:=k) (J:=J) t u;have h1:ah F ae (k+2) 138 [.tup [.int 1,.int 0]] J=some (.ok (.str [49]),J):=by
  show aq F (ah F ae (k+1)) BJ [.tup [.int 1,.int 0]] J=_;generalize ah F ae (k+1)=O;exact call_of [.c,.c,.c,.c,.c,.c,.c,.c,.c,.c,.s (az J)]
 have h5:ah F ae (k+2) 138 [.tup [.int 5,.int 0]] J=some (.ok (.str [53]),J):=by
  show aq F (ah F ae (k+1)) BJ [.tup [.int 5,.int 0]] J=_;generalize ah F ae (k+1)=O;exact call_of [.c,.c,.c,.c,.c,.c,.c,.c,.c,.c,.s (az J)]
 have hm:ah F ae (k+2) 138 [.tup [.int (-5),.int 0]] J=some (.ok (.str [45,53]),J):=by
  show aq F (ah F ae (k+1)) BJ [.tup [.int (-5),.int 0]] J=_;generalize ah F ae (k+1)=O;exact call_of [.c,.c,.c,.c,.c,.c,.c,.c,.c,.c,.c,.s (az J)]
 generalize ah F ae (k+2)=O at *;cases o with
 |nm t=>have hr:=hr t;exact call_of [.c,.c,.c,.v hr,.c,.s (az J)]
 |n1=>exact call_of [.c,.c,.c,.c,.c,.c,.c,.v h1,.c,.s (az J)]
 |n5=>exact call_of [.c,.c,.c,.c,.c,.c,.c,.v h5,.c,.s (az J)]
 |m5=>exact call_of [.c,.c,.c,.c,.c,.c,.c,.v hm,.c,.s (az J)]
 |Z=>exact call_of [.c,.c,.c,.c,.c,.c,.c,.c,.c,.c,.c,.c,.s (az J)]
theorem Ob(o:iK):ah F ae (k+2) 314 [o.e.v] J=some (.ok (.int o.l),J):=by
 show aq F (ah F ae (k+1)) G8 [o.e.v] J=_;generalize ah F ae (k+1)=O;have h:True:=trivial;cases o with
 |nm t=>exact call_of [.c,.c,.c,.c,.c,.c,.c,.c,.c,.c,.s (az J)]
 |n1=>exact call_of [.c,.c,.c,.c,.c,.c,.c,.c,.c,.c,.c,.c,.c,.c,.s (az J)]
 |n5=>exact call_of [.c,.c,.c,.c,.c,.c,.c,.c,.c,.c,.c,.c,.c,.c,.s (az J)]
 |m5=>exact call_of [.c,.c,.c,.c,.c,.c,.c,.c,.c,.c,.c,.s (az J)]
 |Z=>exact call_of [.c,.c,.c,.c,.c,.c,.c,.c,.c,.c,.s (az J)]
theorem Cj(J:LC)(x:V)(h:low J.length x=true):cw .cX [.ref J.length,x] (J++[Cell.lst []])=some (.ok .none,J++[Cell.lst [x]]):=by
 rw[tG bx rfl h,rY];rfl
theorem Fy(J:LC)(h:x.length<=1000):m_ [] (.ref J.length) (J++[Cell.lst [.str x]])=some (.ok (.str x),J++[Cell.lst [.str x]]):=
 Fz (l:=[x]) bx rfl (ak (f9 h 0) ⋯) (dM x)
theorem XE(o:iK)(ho:O 250 [o.e.v,.fn 328] (J++[Cell.lst []])=some (.ok (.str o.t),J++[Cell.lst []])):aq (f+1) O tn [o.e.v] J=some (.ok (.str o.t),J):=by
 have m:=lM (J:=J++[Cell.lst []]) (n:=.append) (l:=[]) (bx (a:=Cell.lst [])) rfl;have a:=Cj J (.str o.t) rfl;have j:=Fy J (ak o.len ⋯);have e:=eV J [Cell.lst [.str o.t]];have hw:dH (fun lv=>dh O lv [none] (fO mh 2)) (aD (f+1) O [none] (cq mh 2)) (f+1) [some o.e.v,some (.ref J.length),some o.e.v] (J++[Cell.lst []])=some (.ok .next,[some o.e.v,some (.ref J.length),some o.e.v],J++[Cell.lst []]):=by
  cases o<;>exact bX [.c,.c,.c]
 cases o with
 |nm t=>exact call_of [.c,.c,.c,.c,.c,.c,.c,.m m,.v ho,.v a,.v j,.c,.s e]
 |n1=>exact call_of [.c,.c,.c,.c,.c,.c,.c,.m m,.v ho,.v a,.v j,.c,.s e]
 |n5=>exact call_of [.c,.c,.c,.c,.c,.c,.c,.m m,.v ho,.v a,.v j,.c,.s e]
 |m5=>exact call_of [.c,.c,.c,.c,.c,.c,.c,.m m,.v ho,.v a,.v j,.c,.s e]
 |Z=>exact call_of [.c,.c,.c,.c,.c,.c,.c,.m m,.v ho,.v a,.v j,.c,.s e]
end
end
section
variable {F k:Nat}
noncomputable def Sd.e:Sd->E
 |.A=>.ref .A|.n5=>.num 5|.m5=>.num (-5)|.Z=>.zero|.nB=>.neg (.ref .B)|.pr=>.bin .star (.bin .plus (.ref .A) (.num 1)) (.ref .B)
abbrev Pz:=List (Option Tok)
def chr:Option Tok->List Nat
 |none=>[32]
 |some t=>t.w
noncomputable def txt:Pz->List Nat
 |[]=>[]
 |p :: r=>chr p++txt r
theorem fA:∀ a b:Pz,txt (a++b)=txt a++txt b
 |[]=>fun _=>rfl
 |p :: r=>fun b=>by show chr p++txt (r++b)=chr p++txt r++txt b;rw[fA r b,aH]
noncomputable def Sd.p:Sd->Pz
 |.A=>[some .A]|.n5=>[some .n5]|.m5=>[some .minus,some .n5]|.Z=>[some .hV]|.nB=>[some .minus,none,some .B]
 |.pr=>[some .lp,some .A,none,some .plus,none,some .n1,some .rp,none,some .star,none,some .B]
def Sd.t(s:Sd):List Nat:=txt s.p
section
variable {J:LC}{O:ay}
theorem agP(o:iK)(hn:n<=o.l)(hs:O 328 [o.e.v] J=some (.ok (.str o.t),J))(hl:O 314 [o.e.v] J=some (.ok (.int o.l),J)):aq F O RW [o.e.v,.int n] J=some (.ok (.str o.t),J):=by
 have b:=df (Ke.mpr hn);exact call_of [.v hs,.v hl,.c,.b b,.c,.s (az J)]
theorem aaH(ht:t=.plus∨t=.star)(a:E)(o:iK)(hb:∀ n:Int,n<=3->O 321 [o.e.v,.int n] J=some (.ok (.str o.t),J)):aq F O Rr [(E.bin t a o.e).v] J=some (.ok (.str ([32]++t.w++[32]++o.t)),J):=by
 have s:=add_str (J:=J) (a:=[32]++t.w++[32]) (b:=o.t) (by rw[bz];exact ak (tO (by rcases ht with rfl|rfl<;>exact bh rfl:_<=3) o.len) (bh rfl));rcases ht with rfl|rfl
 ·have hb:=hb 2 ⋯;exact call_of [.c,.c,.c,.c,.c,.c,.c,.v hb,.v s,.c,.s (az J)]
 ·have hb:=hb 3 ⋯;exact call_of [.c,.c,.c,.c,.c,.c,.c,.v hb,.v s,.c,.s (az J)]
theorem Zj(hb:O 321 [(E.ref .B).v,.int 4] J=some (.ok (.str [66]),J)):aq F O Rm [(E.ref .B).v] J=some (.ok (.str [66]),J):=by
 exact call_of [.c,.c,.c,.v hb,.c,.s (az J)]
theorem acz(hb:O 342 [(E.ref .B).v] (J++[.lst []])=some (.ok (.str [66]),J++[Cell.lst []])):aq (f+1) O tn [Sd.nB.e.v] J=some (.ok (.str Sd.nB.t),J):=by
 have m:=lM (J:=J++[Cell.lst []]) (n:=.append) (l:=[]) (bx (a:=Cell.lst [])) rfl;have a:=Cj J (.str [45,32,66]) rfl;have j:=Fy J (x:=[45,32,66]) (bh rfl);have e:=eV J [Cell.lst [.str [45,32,66]]];have hw:dH (fun lv=>dh O lv [none] (fO mh 2)) (aD (f+1) O [none] (cq mh 2)) (f+1) [some Sd.nB.e.v,some (.ref J.length),some Sd.nB.e.v] (J++[.lst []])=some (.ok .next,[some Sd.nB.e.v,some (.ref J.length),some Sd.nB.e.v],J++[Cell.lst []]):=by
  exact bX [.c,.c,.c]
 show aq (f+1) O tn [Sd.nB.e.v] J=some (.ok (.str [45,32,66]),J);exact call_of [.c,.c,.c,.c,.c,.c,.c,.m m,.c,.v hb,.c,.v a,.v j,.c,.s e]
theorem abL(hl:O 314 [(E.ref .A).v] (J++[.lst []])=some (.ok (.int 5),J++[Cell.lst []]))(hr:O 335 [(E.bin .plus (.ref .A) (.num 1)).v] (J++[.lst []])=some (.ok (.str [32,43,32,49]),J++[Cell.lst []]))
  (ho:∀ τ,O 250 [(E.ref .A).v,.fn 328] τ=some (.ok (.str [65]),τ)):aq (f+2) O tn [(E.bin .plus (.ref .A) (.num 1)).v] J=some (.ok (.str [65,32,43,32,49]),J):=by
 have m:=lM (J:=J++[Cell.lst []]) (n:=.append) (l:=[]) (bx (a:=Cell.lst [])) rfl;have a:=Cj J (.str [32,43,32,49]) rfl;have m2:=lM (J:=J++[Cell.lst [.str [32,43,32,49]]]) (n:=.append) (l:=[.str [32,43,32,49]]) (bx (a:=Cell.lst [.str [32,43,32,49]])) rfl;have a2:cw .cX [.ref J.length,.str [65]] (J++[Cell.lst [.str [32,43,32,49]]])=some (.ok .none,J++[Cell.lst [.str [32,43,32,49],.str [65]]]):=by
  rw[tG bx rfl rfl,rY];rfl
 have j:=Fz (J:=J++[Cell.lst [.str [32,43,32,49],.str [65]]]) (n:=J.length) (l:=[[32,43,32,49],[65]]) bx rfl (bh rfl) (x:=[65,32,43,32,49]) rfl;have e:=eV J [Cell.lst [.str [32,43,32,49],.str [65]]];have ho:=ho (J++[Cell.lst [.str [32,43,32,49]]]);have hw0:dH (fun lv=>dh O lv [none] (fO mh 2)) (aD (f+2) O [none] (cq mh 2)) (f+1) [some (E.bin .plus (.ref .A) (.num 1)).v,some (.ref J.length),some (E.ref .A).v] (J++[Cell.lst [.str [32,43,32,49]]]) =
   some (.ok .next,[some (E.bin .plus (.ref .A) (.num 1)).v,some (.ref J.length),some (E.ref .A).v],J++[Cell.lst [.str [32,43,32,49]]]):=by
  exact bX [.c,.c,.c]
 have hw:dH (fun lv=>dh O lv [none] (fO mh 2)) (aD (f+2) O [none] (cq mh 2)) (f+2) [some (E.bin .plus (.ref .A) (.num 1)).v,some (.ref J.length),some (E.bin .plus (.ref .A) (.num 1)).v] (J++[.lst []]) =
   some (.ok .next,[some (E.bin .plus (.ref .A) (.num 1)).v,some (.ref J.length),some (E.ref .A).v],J++[Cell.lst [.str [32,43,32,49]]]):=by
  exact bX [.c,.c,.c,.c,.v hl,.c,.c,.c,.c,.m m,.v hr,.v a,.c,.c]
 exact call_of [.x hw,.c,.c,.c,.c,.c,.c,.m m2,.v ho,.v a2,.v j,.c,.s e]
theorem abl(hl:O 314 [(E.bin .plus (.ref .A) (.num 1)).v] (J++[.lst []])=some (.ok (.int 1),J++[Cell.lst []]))(hs:O 328 [(E.bin .plus (.ref .A) (.num 1)).v] (J++[.lst []])=some (.ok (.str [65,32,43,32,49]),J++[Cell.lst []]))
  (hr:O 335 [Sd.pr.e.v] (J++[.lst []])=some (.ok (.str [32,42,32,66]),J++[Cell.lst []])):aq (f+1) O tn [Sd.pr.e.v] J=some (.ok (.str Sd.pr.t),J):=by
 have m:=lM (J:=J++[Cell.lst []]) (n:=.append) (l:=[]) (bx (a:=Cell.lst [])) rfl;have a:=Cj J (.str [40,65,32,43,32,49,41,32,42,32,66]) rfl;have j:=Fy J (x:=[40,65,32,43,32,49,41,32,42,32,66]) (bh rfl);have e:=eV J [Cell.lst [.str [40,65,32,43,32,49,41,32,42,32,66]]];have hw:dH (fun lv=>dh O lv [none] (fO mh 2)) (aD (f+1) O [none] (cq mh 2)) (f+1) [some Sd.pr.e.v,some (.ref J.length),some Sd.pr.e.v] (J++[.lst []])=some (.ok .next,[some Sd.pr.e.v,some (.ref J.length),some Sd.pr.e.v],J++[Cell.lst []]):=by
  exact bX [.c,.c,.c,.c,.v hl,.c,.c,.c,.c]
 show aq (f+1) O tn [Sd.pr.e.v] J=some (.ok (.str [40,65,32,43,32,49,41,32,42,32,66]),J);exact call_of [.x hw,.c,.c,.c,.m m,.c,.v hs,.c,.c,.v hr,.c,.v a,.v j,.c,.s e]
end
theorem uu(hF:1000<=F)(o:iK)(J:LC):ah F ae (k+4) 328 [o.e.v] J=some (.ok (.str o.t),J):=by
 obtain⟨f,rfl⟩:=fuel 1 hF ⋯;exact XE (O:=ah _ ae (k+3)) o (Nl (k:=k) o _)
theorem S5(hF:1000<=F)(o:iK)(hn:n<=o.l)(J:LC):ah F ae (k+5) 321 [o.e.v,.int n] J=some (.ok (.str o.t),J):=
 agP (O:=ah F ae (k+4)) o hn (uu (k:=k) hF o J) (Ob (k:=k+2) o)
theorem MH(hF:1000<=F){t:Tok}(ht:t=.plus∨t=.star)(a:E){o:iK}(h:3<=o.l)(J:LC):ah F ae (k+6) 335 [(E.bin t a o.e).v] J=some (.ok (.str ([32]++t.w++[32]++o.t)),J):=
 aaH (O:=ah F ae (k+5)) ht a o fun n hn=>S5 (k:=k) hF o (Int.le_trans hn h) J
theorem D4(hF:1000<=F)(s:Sd)(J:LC):ah F ae (k+8) 328 [s.e.v] J=some (.ok (.str s.t),J):=by
 cases s with
 |A=>exact uu (k:=k+4) hF (.nm .A) J
 |n5=>exact uu (k:=k+4) hF .n5 J
 |m5=>exact uu (k:=k+4) hF .m5 J
 |Z=>exact uu (k:=k+4) hF .Z J
 |nB=>
  have hb:=Zj (F:=F) (O:=ah F ae (k+6)) (S5 (k:=k+1) hF (.nm .B) (n:=4) ⋯ (J++[.lst []]));obtain⟨f,rfl⟩:=fuel 1 hF ⋯;exact acz (O:=ah _ ae (k+7)) hb
 |pr=>
  have hr:=MH (k:=k+1) hF (.inr rfl) (.bin .plus (.ref .A) (.num 1)) (o:=.nm .B) ⋯ (J++[.lst []]);have hs:ah F ae (k+7) 328 [(E.bin .plus (.ref .A) (.num 1)).v] (J++[.lst []])=some (.ok (.str [65,32,43,32,49]),J++[Cell.lst []]):=by
   have hr:=MH (k:=k) hF (.inl rfl) (.ref .A) (o:=.n1) ⋯ (J++[.lst []]++[.lst []]);obtain⟨f,rfl⟩:=fuel 2 hF ⋯;exact abL (O:=ah _ ae (k+6)) (Ob (k:=k+4) (.nm .A)) hr fun τ=>Nl (k:=k+3) (.nm .A) _
  have hl:ah F ae (k+7) 314 [(E.bin .plus (.ref .A) (.num 1)).v] (J++[.lst []])=some (.ok (.int 1),J++[Cell.lst []]):=by
   show aq F (ah F ae (k+6)) G8 [(E.bin .plus (.ref .A) (.num 1)).v] _=_;generalize ah F ae (k+6)=O;exact call_of [.c,.c,.c,.c,.c,.c,.c,.c,.c,.c,.s (az (J++[Cell.lst []]))]
  obtain⟨f,rfl⟩:=fuel 1 hF ⋯;exact abl (O:=ah _ ae (k+7)) hl hs hr
end
section
variable {F k:Nat}
noncomputable def Cw.tk:Cw->Tok
 |.rq=>.rq|.rI=>.rI|.rJ=>.rJ
noncomputable def Sw.tk:Sw->Tok
 |.ri=>.ri|.rA=>.rA|.hV=>.hV
inductive Lf where
 |named (y:Bool)
 |cls (x:Cw)
 |sgn (x:Sw) (s:Sd)
 |rel (r:Rs) (a b:Sd)
inductive D where
 |lf (l:Lf)
 |not (d:D)
 |bin (o:Bool) (a b:D)
noncomputable def l_(y:Bool):Tok:=cond y .FY .FX
def Lf.c:Lf->C
 |.named y=>.named (l_ y)
 |.cls x=>.cls x.tk (.ref .A)
 |.sgn x s=>.sgn x.tk s.e
 |.rel r a b=>.rel r a.e b.e
noncomputable def agu(o:Bool)(a b:C):C:=cond o (.and a b) (.or a b)
noncomputable def D.c:D->C
 |.lf l=>l.c
 |.not d=>.not d.c
 |.bin o a b=>agu o a.c b.c
def D.v(d:D):V:=d.c.v
theorem D.low(n:Nat)(d:D):Mine.low n d.v=true:=d.c.low n
noncomputable def aaS:Rs->Tok
 |.eq=>.eq|.lt=>.lt|.gt=>.gt|.le=>.le|.ge=>.ge|.ne=>.eq
def Rs.p(r:Rs):Pz:=cond (decide (r=.ne)) [some .aV,none,some .eq] [some (aaS r)]
def Lf.p:Lf->Pz
 |.named y=>[some (l_ y)]
 |.cls x=>[some .A]++[none,some .IS,none]++[some x.tk]
 |.sgn x s=>s.p++[none,some .IS,none]++[some x.tk]
 |.rel r a b=>a.p++[none]++r.p++[none]++b.p
noncomputable def ew(o:Bool):Nat:=cond o 2 1
noncomputable def kB(o:Bool):Tok:=cond o .lh .OR
def D.st:D->Nat
 |.lf _=>4
 |.not _=>3
 |.bin o _ _=>ew o
noncomputable def fX(b:Bool)(l:Pz):Pz:=cond b ([some .lp]++l++[some .rp]) l
noncomputable def ltB(a b:Nat):Bool:=decide (a<b)
noncomputable def D.p:D->Pz
 |.lf l=>l.p
 |.not d=>[some .aV,none]++fX (ltB d.st 4) d.p
 |.bin o a b=>fX (ltB a.st (ew o)) a.p++([none]++[some (kB o)]++[none]++fX (ltB b.st (ew o+1)) b.p)
def D.t(d:D):List Nat:=txt d.p
noncomputable def qU(b:Bool)(l:List Nat):List Nat:=cond b ([40]++l++[41]) l
theorem Dr(b:Bool)(l:Pz):txt (fX b l)=qU b (txt l):=by
 cases b with
 |true=>show txt ([some .lp]++l++[some .rp])=_;rw[fA,fA];rfl
 |false=>rfl
noncomputable def D.ht:D->Nat
 |.lf _=>0
 |.not d=>d.ht+1
 |.bin _ a b=>max a.ht b.ht+1
theorem la{a b:List Nat}{n m:Nat}(h:a.length<=n)(h':b.length<=m):(a++b).length<=n+m:=by rw[bz];exact tO h h'
theorem Sd.len:∀ s:Sd,s.t.length<=11
 |.A=>bh rfl
 |.n5=>bh rfl
 |.m5=>bh rfl
 |.Z=>bh rfl
 |.nB=>bh rfl
 |.pr=>bh rfl
theorem Rs.len(r:Rs):(txt r.p).length<=5:=by cases r<;>exact bh rfl
theorem Lf.len:∀ l:Lf,(txt l.p).length<=40
 |.named y=>by cases y<;>exact bh rfl
 |.cls x=>by cases x<;>exact bh rfl
 |.sgn x s=>by
  show(txt (s.p++_++_)).length<=_;rw[fA,fA];exact ak (la (la s.len (bh rfl:_<=4)) (la (pM x.tk) (aG _))) (bh rfl)
 |.rel r a b=>by
  show(txt (a.p++_++r.p++_++b.p)).length<=_;rw[fA,fA,fA,fA];exact ak (la (la (la (la a.len (bh rfl:_<=1)) r.len) (bh rfl:_<=1)) b.len) (bh rfl)
theorem vM{b:Bool}{l:List Nat}{n:Nat}(h:l.length<=n):(qU b l).length<=n+2:=by
 cases b with
 |true=>exact ak (la (la (n:=1) (aG _) h) (m:=1) (aG _)) (by lia)
 |false=>exact ak h (cL _ _)
theorem D.HT(o:Bool)(a b:D):(D.bin o a b).t=qU (ltB a.st (ew o)) a.t++([32]++(kB o).w++[32]++qU (ltB b.st (ew o+1)) b.t):=by
 show txt (fX _ a.p++([none]++[some (kB o)]++[none]++fX _ b.p))=_;rw[fA,fA,fA,fA,Dr,Dr];show _++([32]++((kB o).w++[])++[32]++_)=_;rw[dM];rfl
theorem D.NC(d:D):(D.not d).t=[78,79,84,32]++qU (ltB d.st 4) d.t:=by
 show txt ([some .aV,none]++_)=_;rw[fA,Dr];rfl
theorem D.len:∀ (d:D) (n:Nat),d.ht<=n->d.t.length<=40*4 ^ n
 |.lf l,n=>fun _=>ak l.len (Nat.le_mul_of_pos_right _ (Il ⋯))
 |.not d,0=>fun h=>absurd h (yT _)
 |.not d,n+1=>fun h=>by
  rw[D.NC];refine ak (la (aG 4) (vM (D.len d n (tI h)))) ?_;have:1<=4 ^ n:=Il ⋯;rw[Ik];lia
 |.bin o a b,0=>fun h=>absurd h (yT _)
 |.bin o a b,n+1=>fun h=>by
  have h:=tI h;rw[D.HT];refine ak (la (vM (D.len a n (ak (jD _ _) h))) (la (la (la (aG 1) (pM _)) (aG 1)) (vM (D.len b n (ak (jC _ _) h))))) ?_;have:1<=4 ^ n:=Il ⋯;rw[Ik];lia
theorem D.sF{d:D}(h:d.ht<=4):d.t.length<=10240:=d.len 4 h
section
variable {J:LC}{O:ay}
theorem jI(h:(a++b).length<=n)(hn:n<=1048576):c_ .add (.str a) (.str b) J=some (.ok (.str (a++b)),J):=add_str (ak h hn)
theorem aaR(r:Rs)(a b:Sd)(ha:O 328 [a.e.v] J=some (.ok (.str a.t),J))(hb:O 328 [b.e.v] J=some (.ok (.str b.t),J)):aq F O Ro [(C.rel r a.e b.e).v] J=some (.ok (.str (a.t++[32]++txt r.p++[32]++b.t)),J):=by
 have l1:=la a.len (aG [32].length);have l2:=la l1 r.len;have l3:=la l2 (aG [32].length);have l4:=la l3 b.len;have s1:=jI (J:=J) l1 (bh rfl);have s2:=jI (J:=J) l2 (bh rfl);have s3:=jI (J:=J) l3 (bh rfl);have s4:=jI (J:=J) l4 (bh rfl);clear l1 l2 l3 l4;by_cases aY:r=.ne
 ·subst aY;exact call_of [.c,.c,.c,.c,.v ha,.v s1,.v s2,.v s3,.c,.v hb,.v s4,.c,.s (az J)]
 ·have e:txt r.p=r.w:=by cases r<;>first|rfl|exact absurd rfl aY
  have e0:bj .eq (.str r.w) (.str [60,62]) J=some (.ok (.bool false),J):=by cases r<;>first|rfl|exact absurd rfl aY
  rw[e]at s2 s3 s4 ⊢;exact call_of [.c,.v e0,.c,.c,.c,.v ha,.v s1,.v s2,.v s3,.c,.v hb,.v s4,.c,.s (az J)]
theorem adh(l:Lf)(hs:∀ s:Sd,O 328 [s.e.v] J=some (.ok (.str s.t),J))(hn:∀ y,O 328 [(E.ref (l_ y)).v] J=some (.ok (.str (l_ y).w),J))(hr:∀ r a b,O 496 [(C.rel r (Sd.e a) (Sd.e b)).v] J=some (.ok (.str (a.t++[32]++txt r.p++[32]++b.t)),J)) :
  aq F O Rl [l.c.v] J=some (.ok (.str (txt l.p)),J):=by
 cases l with
 |named y=>
  have hn:=hn y;rw[show txt (Lf.named y).p=(l_ y).w from dM _];exact call_of [.c,.c,.c,.c,.c,.c,.c,.v hn,.c,.s (az J)]
 |cls x=>
  have hs:=hs .A;have s:=jI (J:=J) (a:=[65,32,73,83,32]) (la (aG _) (pM x.tk)) (bh rfl);rw[show txt (Lf.cls x).p=[65,32,73,83,32]++x.tk.w by show txt ([some Tok.A,none,some .IS,none]++[some x.tk])=_;rw[fA];exact congrArg _ (dM _)];exact call_of [.c,.c,.c,.c,.c,.c,.c,.v hs,.c,.c,.v s,.c,.s (az J)]
 |sgn x s=>
  have hs:=hs s;have l1:=la s.len (aG [32,73,83,32].length);have s1:=jI (J:=J) l1 (bh rfl);have s2:=jI (J:=J) (la l1 (pM x.tk)) (bh rfl);rw[show txt (Lf.sgn x s).p=s.t++[32,73,83,32]++x.tk.w by show txt (s.p++_++[some x.tk])=_;rw[fA,fA];exact congrArg _ (dM _)];exact call_of [.c,.c,.c,.c,.c,.c,.c,.v hs,.v s1,.c,.v s2,.c,.s (az J)]
 |rel r a b=>
  have hr:=hr r a b;rw[show txt (Lf.rel r a b).p=a.t++[32]++txt r.p++[32]++b.t by show txt (a.p++_++r.p++_++b.p)=_;rw[fA,fA,fA,fA];rfl];exact call_of [.c,.c,.c,.v hr,.c,.s (az J)]
theorem DW(d:D):ah F ae (k+2) 503 [d.v] J=some (.ok (.int (d.st:Nat)),J):=by
 show aq F (ah F ae (k+1)) Rh [d.v] J=_;generalize ah F ae (k+1)=O;have h:True:=trivial;cases d with
 |lf l=>
  cases l with
  |named y=>exact call_of [.c,.c,.c,.c,.s (az J)]
  |cls x=>exact call_of [.c,.c,.c,.c,.s (az J)]
  |sgn x s=>exact call_of [.c,.c,.c,.c,.s (az J)]
  |rel r a b=>exact call_of [.c,.c,.c,.c,.s (az J)]
 |not d=>exact call_of [.c,.c,.c,.c,.s (az J)]
 |bin o a b=>
  cases o with
  |true=>exact call_of [.c,.c,.c,.c,.s (az J)]
  |false=>exact call_of [.c,.c,.c,.c,.s (az J)]
theorem abN{d:D}(hd:d.t.length<=10240)(n:Nat)(hs:O 524 [d.v] J=some (.ok (.str d.t),J))(ht:O 503 [d.v] J=some (.ok (.int (d.st:Nat)),J)):aq F O RT [d.v,.int (n:Nat)] J=some (.ok (.str (qU (ltB d.st n) d.t)),J):=by
 have l1:=la (aG [40].length) hd;have s1:=jI (J:=J) l1 (bh rfl);have s2:=jI (J:=J) (la l1 (aG [41].length)) (bh rfl);by_cases aP:d.st<n
 ·rw[show ltB d.st n=true from decide_eq_true aP];have b:=dt (e8.mpr aP);exact call_of [.v hs,.v ht,.c,.b b,.v s1,.v s2,.c,.s (az J)]
 ·rw[show ltB d.st n=false from decide_eq_false aP];have b:=df (fun h=>aP (e8.mp h));exact call_of [.v hs,.v ht,.c,.b b,.c,.s (az J)]
end
theorem Of(hF:1000<=F)(l:Lf)(J:LC):ah F ae (k+10) 517 [l.c.v] J=some (.ok (.str (txt l.p)),J):=
 adh (O:=ah F ae (k+9)) l (fun s=>D4 (k:=k+1) hF s J) (fun y=>uu (k:=k+5) hF (.nm (l_ y)) J) fun r a b=>aaR (O:=ah F ae (k+8)) r a b (D4 hF a J) (D4 hF b J)
end
section
variable {F k:Nat}
structure Km(O:ay)(H:Nat):Prop where
 st:∀ (d:D) J,O 503 [d.v] J=some (.ok (.int (d.st:Nat)),J)
 ip:∀ (d:D) (n:Nat) J,d.ht<H->O 510 [d.v,.int (n:Nat)] J=some (.ok (.str (qU (ltB d.st n) d.t)),J)
 sc:∀ (d:D) J,d.ht<H->O 524 [d.v] J=some (.ok (.str d.t),J)
 ss:∀ (l:Lf) J,O 517 [l.c.v] J=some (.ok (.str (txt l.p)),J)
noncomputable def bJ(J:LC)(l:List (List Nat)):LC:=J++[.lst (l.map V.str)]
def D.stop:D->Bool
 |.bin o a _=>ltB a.st (ew o)
 |_=>true
section
variable {O:ay}{J:LC}{l:List (List Nat)}
theorem zN(J:LC)(l:List (List Nat)):bU (bJ J l) (.ref J.length) .append=some (.bi .cX,true):=lM bx rfl
theorem LO(J:LC){l:List (List Nat)}(x:List Nat)(hl:l.length<=1000):cw .cX [.ref J.length,.str x] (bJ J l)=some (.ok .none,bJ J (l++[x])):=by
 unfold bJ;rw[tG bx (decide_eq_true (by rw[f7];exact ak hl ⋯)) rfl,rY,j_];rfl
theorem X3(J:LC){l:List (List Nat)}(hx:l.reverse.flatten=x)(hl:l.length<=1000)(h:x.length<=10240):m_ [] (.ref J.length) (bJ J l)=some (.ok (.str x),bJ J l):=
 Fz bx (decide_eq_true (ak hl ⋯)) (by
  subst hx;rw[List.length_flatten,Io,Vh]at h
  exact ak h ⋯) hx
theorem DU(J:LC)(l:List (List Nat)):(bJ J l).take J.length=J:=eV ..
abbrev sd(F:Nat)(O:ay):Nat->Ex:=dH (fun lv=>dh O lv [none] (fO HZ 2)) (aD F O [none] (cq HZ 2))
theorem Ef{d:D}{v0:V}(n:Nat)(qs:∀ (d:D) J,O 503 [d.v] J=some (.ok (.int (d.st:Nat)),J))(h:d.stop=true):sd F O (n+1) [some v0,some (.ref J.length),some d.v] (bJ J l)=some (.ok .next,[some v0,some (.ref J.length),some d.v],bJ J l):=by
 cases d with
 |lf x=>
  cases x with
  |named y=>exact bX [.c,.c,.c]
  |cls x=>exact bX [.c,.c,.c]
  |sgn x s=>exact bX [.c,.c,.c]
  |rel r a b=>exact bX [.c,.c,.c]
 |not d=>exact bX [.c,.c,.c]
 |bin o a b=>
  have h1:=qs a (bJ J l);have h2:=qs (.bin o a b) (bJ J l);have h0:decide ((a.st:Int)≥((D.bin o a b).st:Nat))=false:=df fun e=>absurd (of_decide_eq_true h) (fG.mpr (nN.mp e));clear qs;cases o with
  |true=>exact bX [.c,.c,.c,.c,.v h1,.v h2,.c,.b h0]
  |false=>exact bX [.c,.c,.c,.c,.v h1,.v h2,.c,.b h0]
theorem ZP(h1:O 503 [a.v] (bJ J l)=some (.ok (.int (a.st:Nat)),bJ J l))(h2:O 503 [(D.bin o a b).v] (bJ J l)=some (.ok (.int (ew o:Nat)),bJ J l))(h:ltB a.st (ew o)=false)
  (hi:O 510 [b.v,.int ((ew o+1:Nat):Int)] (bJ J l)=some (.ok (.str x),bJ J l)) (hx:x.length<=20000) (ha:cw .cX [.ref J.length,.str ([32]++(kB o).w++[32]++x)] (bJ J l)=some (.ok .none,aa))
  (hz:sd F O n [some v0,some (.ref J.length),some a.v] aa=some z):sd F O (n+1) [some v0,some (.ref J.length),some (D.bin o a b).v] (bJ J l)=some z:=by
 have h0:decide ((a.st:Int)≥(ew o:Nat))=true:=dt (nN.mpr (fG.mp (of_decide_eq_false h)));have m:=zN J l;have s:=jI (J:=bJ J l) (la (la (la (aG [32].length) (pM (kB o))) (aG [32].length)) hx) (bh rfl);cases o with
 |true=>exact bX [.c,.c,.c,.c,.v h1,.v h2,.c,.b h0,.m m,.c,.c,.c,.c,.c,.c,.v h2,.c,.v hi,.v s,.v ha,.c,.x hz]
 |false=>exact bX [.c,.c,.c,.c,.v h1,.v h2,.c,.b h0,.m m,.c,.c,.c,.c,.c,.c,.v h2,.c,.v hi,.v s,.v ha,.c,.x hz]
theorem Mw(hO:Km O H)(hH:H<=4)(v0:V):∀ (d:D) (n:Nat) (l:List (List Nat)),d.ht<=H->d.ht<n->l.length+d.ht<=900 ->
  ∃ (d':D) (l':List (List Nat)),sd F O n [some v0,some (.ref J.length),some d.v] (bJ J l)=some (.ok .next,[some v0,some (.ref J.length),some d'.v],bJ J l')/\d'.stop=true/\d'.t++l'.reverse.flatten=d.t++l.reverse.flatten/\d'.ht<=d.ht/\l'.length<=900
 |d,0=>fun _ _ h _=>absurd h (hJ _)
 |.lf x,n+1=>fun l _ _ hl=>⟨.lf x,l,Ef n hO.st rfl,rfl,rfl,aG _,hl⟩
 |.not d,n+1=>fun l _ _ hl=>⟨.not d,l,Ef n hO.st rfl,rfl,rfl,aG _,ak (cL _ _) hl⟩
 |.bin o a b,n+1=>fun l hd hn hl=>by
  cases hs:ltB a.st (ew o)with
  |true=>exact⟨.bin o a b,l,Ef n hO.st hs,hs,rfl,aG _,ak (cL _ _) hl⟩
  |false=>
   have Qn:a.ht+1<=(D.bin o a b).ht:=cg (jD _ _);have lX:b.ht<(D.bin o a b).ht:=Nat.lt_succ_of_le (jC _ _);have ih:=Mw hO hH v0 a n (l++[[32]++(kB o).w++[32]++qU (ltB b.st (ew o+1)) b.t]) (by lia) (by lia) (by rw[bz,zb];lia);obtain⟨d',l',h1,h2,h3,h4,h5⟩:=ih;refine⟨d',l',ZP (hO.st _ _) (hO.st _ _) hs (hO.ip b _ _ (by lia)) (ak (vM (D.sF (by lia))) ⋯) (LO J _ (by lia)) h1,h2,?_,by lia,h5⟩
   rw[h3,D.HT,hs,Vg,Vf,Ve,Vd];exact(aH a.t _ _).symm
theorem ZO(hw:sd F O F [some v0,some (.ref J.length),some v0] (bJ J [])=some (.ok .next,[some v0,some (.ref J.length),some (D.lf y).v],bJ J l))(hp:O 517 [y.c.v] (bJ J l)=some (.ok (.str t),bJ J l))
  (ha:cw .cX [.ref J.length,.str t] (bJ J l)=some (.ok .none,aj)) (hj:m_ [] (.ref J.length) aj=some (.ok (.str x),aj)) (ht:aj.take J.length=J):aq F O yo [v0] J=some (.ok (.str x),J):=by
 have m:=zN J l;cases y with
 |named y=>exact call_of [.x hw,.c,.c,.c,.c,.c,.c,.m m,.v hp,.v ha,.v hj,.c,.s ht]
 |cls x=>exact call_of [.x hw,.c,.c,.c,.c,.c,.c,.m m,.v hp,.v ha,.v hj,.c,.s ht]
 |sgn x s=>exact call_of [.x hw,.c,.c,.c,.c,.c,.c,.m m,.v hp,.v ha,.v hj,.c,.s ht]
 |rel r a b=>exact call_of [.x hw,.c,.c,.c,.c,.c,.c,.m m,.v hp,.v ha,.v hj,.c,.s ht]
theorem ZN(hw:sd F O F [some v0,some (.ref J.length),some v0] (bJ J [])=some (.ok .next,[some v0,some (.ref J.length),some (D.not y).v],bJ J l))(hp:O 510 [y.v,.int 4] (bJ J l)=some (.ok (.str t),bJ J l))(hl:t.length<=20000)
  (ha:cw .cX [.ref J.length,.str ([78,79,84,32]++t)] (bJ J l)=some (.ok .none,aj)) (hj:m_ [] (.ref J.length) aj=some (.ok (.str x),aj)) (ht:aj.take J.length=J):aq F O yo [v0] J=some (.ok (.str x),J):=by
 have m:=zN J l;have s:=jI (J:=bJ J l) (la (aG [78,79,84,32].length) hl) (bh rfl);exact call_of [.x hw,.c,.c,.c,.c,.c,.c,.m m,.c,.v hp,.v s,.v ha,.v hj,.c,.s ht]
theorem ZQ(hw:sd F O F [some v0,some (.ref J.length),some v0] (bJ J [])=some (.ok .next,[some v0,some (.ref J.length),some (D.bin true a b).v],bJ J l))(h1:O 524 [a.v] (bJ J l)=some (.ok (.str t),bJ J l))(hl:t.length<=20000)
  (h2:O 510 [b.v,.int 3] (bJ J l)=some (.ok (.str u),bJ J l)) (gX:u.length<=20000)
  (ha:cw .cX [.ref J.length,.str ([40]++t++[41,32,65,78,68,32]++u)] (bJ J l)=some (.ok .none,aj)) (hj:m_ [] (.ref J.length) aj=some (.ok (.str x),aj)) (ht:aj.take J.length=J):aq F O yo [v0] J=some (.ok (.str x),J):=by
 have m:=zN J l;have l1:=la (aG [40].length) hl;have l2:=la l1 (aG [41,32,65,78,68,32].length);have s1:=jI (J:=bJ J l) l1 (bh rfl);have s2:=jI (J:=bJ J l) l2 (bh rfl);have s3:=jI (J:=bJ J l) (la l2 gX) (bh rfl);exact call_of [.x hw,.c,.c,.c,.m m,.c,.v h1,.v s1,.v s2,.c,.v h2,.v s3,.v ha,.v hj,.c,.s ht]
theorem D.DX:∀ d:D,0<d.st
 |.lf _=>iI _
 |.not _=>iI _
 |.bin o _ _=>by cases o<;>exact iI _
theorem Mv{H:Nat}(hO:Km O H)(hH:H<=4)(hF:1000<=F){d:D}(hd:d.ht<=H):aq F O yo [d.v] J=some (.ok (.str d.t),J):=by
 obtain⟨d',l,hw,hs,ht,hh,hl⟩:=Mw (F:=F) (J:=J) hO hH d.v d F [] hd (by lia) (by rw[tP];lia);have ht:d'.t++l.reverse.flatten=d.t:=ht.trans (dM _);have hj:∀ x,x=d'.t->m_ [] (.ref J.length) (bJ J (l++[x]))=some (.ok (.str d.t),bJ J (l++[x])):=fun x e=>
  X3 J (by rw[Vg,Vf,Ve,Vd,e,ht]) (by rw[bz];exact tO hl (bh rfl:[x].length<=100)) (D.sF (ak hd hH))
 have ha:∀ x,cw .cX [.ref J.length,.str x] (bJ J l)=some (.ok .none,bJ J (l++[x])):=fun x=>LO J x (ak hl ⋯);cases d' with
 |lf y=>exact ZO hw (hO.ss y _) (ha _) (hj _ rfl) (DU ..)
 |not y=>
  have hy:y.ht<H:=ak hh hd;exact ZN hw (hO.ip y 4 _ hy) (ak (vM (D.sF (ak (fH hy) hH))) ⋯) (ha _) (hj _ (D.NC y).symm) (DU ..)
 |bin o a b=>
  have h1:a.ht<H:=ak (cg (jD _ _)) (ak hh hd);have h2:b.ht<H:=ak (cg (jC _ _)) (ak hh hd);cases o with
  |false=>exact absurd (of_decide_eq_true hs) (fG.mpr (D.DX a))
  |true=>
   refine ZQ hw (hO.sc a _ h1) (ak (D.sF (ak (fH h1) hH)) ⋯) (hO.ip b 3 _ h2) (ak (vM (D.sF (ak (fH h2) hH))) ⋯) (ha _) (hj _ ?_) (DU ..);rw[D.HT,show ltB a.st (ew true)=true from hs];show _=([40]++a.t++[41])++([32,65,78,68,32]++_);rw[aH,aH,aH,aH];rfl
end
theorem Zs(hF:1000<=F):∀ (n:Nat) (d:D),d.ht<=n->n<=4->∀ (k:Nat) (J:LC),ah F ae (k+12+2*n) 524 [d.v] J=some (.ok (.str d.t),J):=by
 intro n;induction n with
 |zero=>
  intro d hd _ k J;exact Mv (O:=ah F ae (k+11)) (H:=0) ⟨fun d J=>DW (k:=k+9) d,fun d n J h=>absurd h (hJ _),fun d J h=>absurd h (hJ _),fun l J=>Of (k:=k+1) hF l J⟩ ⋯ hF hd
 |succ n ih=>
  intro d hd hn k J;have h:Km (ah F ae (k+13+2*n)) (n+1):=by
   have ih:=fun d (hd:D.ht d<n+1)=>ih d (CF hd) (vY hn);refine⟨fun d J=>?_,fun d' m J j0=>?_,fun d' J j0=>?_,fun l J=>?_⟩
   ·rw[show k+13+2*n=(k+11+2*n)+2 by lia];exact DW d
   ·have e:k+13+2*n=(k+11+2*n)+2:=by lia
    have h1:=ih d' j0 k J;have h2:=DW (F:=F) (k:=k+10+2*n) (J:=J) d';rw[show k+12+2*n=(k+11+2*n)+1 by lia]at h1;rw[show k+10+2*n+2=(k+11+2*n)+1 by lia]at h2;rw[e];exact abN (O:=ah F ae ((k+11+2*n)+1)) (D.sF (ak (fH j0) hn)) m h1 h2
   ·have:=ih d' j0 (k+1) J;rwa[show k+1+12+2*n=k+13+2*n by lia]at this
   ·rw[show k+13+2*n=(k+3+2*n)+10 by lia];exact Of hF l J
  rw[show k+12+2*(n+1)=(k+12+2*n)+2 by lia];rw[show k+13+2*n=(k+12+2*n)+1 by lia]at h;exact Mv h hn hF hd
end
section
variable {F k:Nat}
def uC(l:Lf)(b:Bool):D:=cond b (match l with
 |.rel r x y=>.lf (.rel r.lH x y)
 |l=>.not (.lf l)) (.lf l)
noncomputable def push:D->Bool->D
 |.lf l,b=>uC l b
 |.not d,b=>push d (!b)
 |.bin o x y,b=>.bin (o ^^ b) (push x b) (push y b)
theorem ab9{J:LC}(r:Rs):eM vr (.str r.w) J=some (.ok (.str r.lH.w),J):=by cases r<;>rfl
section
variable {J:LC}{O:ay}
theorem abi(l:Lf)(b:Bool):aq F O BM [(D.lf l).v,.bool b] J=some (.ok (uC l b).v,J):=by
 have e1:=(uC l b).low J.length;cases b with
 |false=>
  cases l with
  |named y=>exact call_of [.c,.c,.c,.c,.c,.c,.c,.c,.s (az J)]
  |cls x=>exact call_of [.c,.c,.c,.c,.c,.c,.c,.c,.s (az J)]
  |sgn x s=>exact call_of [.c,.c,.c,.c,.c,.c,.c,.b e1,.s (az J)]
  |rel r x y=>exact call_of [.c,.c,.c,.c,.c,.c,.c,.b e1,.s (az J)]
 |true=>
  cases l with
  |named y=>exact call_of [.c,.c,.c,.c,.c,.c,.c,.c,.c,.c,.s (az J)]
  |cls x=>exact call_of [.c,.c,.c,.c,.c,.c,.c,.c,.c,.c,.s (az J)]
  |sgn x s=>exact call_of [.c,.c,.c,.c,.c,.c,.c,.c,.c,.b e1,.s (az J)]
  |rel r x y=>
   have o:=ab9 (J:=J) r;exact call_of [.c,.c,.c,.c,.c,.c,.c,.c,.c,.c,.v o,.c,.c,.b e1,.s (az J)]
theorem abh{d r:D}{b:Bool}(h:O 538 [d.v,.bool !b] J=some (.ok r.v,J)):aq F O BM [(D.not d).v,.bool b] J=some (.ok r.v,J):=by
 have e1:=r.low J.length;cases b with
 |false=>exact call_of [.c,.c,.c,.c,.c,.c,.v h,.b e1,.s (az J)]
 |true=>exact call_of [.c,.c,.c,.c,.c,.c,.v h,.b e1,.s (az J)]
theorem abj(h1:O 538 [x.v,.bool b] J=some (.ok p.v,J))(h2:O 538 [y.v,.bool b] J=some (.ok q.v,J)):aq F O BM [(D.bin o x y).v,.bool b] J=some (.ok (D.bin (o ^^ b) p q).v,J):=by
 have e1:=(D.bin (o ^^ b) p q).low J.length;cases o with
 |false=>
  cases b with
  |false=>exact call_of [.c,.c,.c,.c,.c,.c,.c,.c,.v h1,.c,.v h2,.b e1,.s (az J)]
  |true=>exact call_of [.c,.c,.c,.c,.c,.c,.c,.c,.c,.v h1,.c,.v h2,.b e1,.s (az J)]
 |true=>
  cases b with
  |false=>exact call_of [.c,.c,.c,.c,.c,.c,.c,.c,.v h1,.c,.v h2,.b e1,.s (az J)]
  |true=>exact call_of [.c,.c,.c,.c,.c,.c,.c,.c,.c,.v h1,.c,.v h2,.b e1,.s (az J)]
noncomputable def Rs.fst:Rs->Rs
 |.eq=>.eq|.ne=>.eq|.lt=>.lt|.ge=>.lt|.le=>.le|.gt=>.le
def iT:Lf->Lf
 |.rel r a b=>.rel r.fst a b
 |l=>l
def oD:Lf->Bool
 |.rel r _ _=>decide (r.fst=r)
 |_=>true
theorem OI(l:Lf):ah F ae (k+2) 791 [l.c.v] J=some (.ok (.tup [(iT l).c.v,.bool (oD l)]),J):=by
 show aq F (ah F ae (k+1)) RH [l.c.v] J=_;generalize ah F ae (k+1)=O;have e1:low J.length (.tup [(iT l).c.v,.bool (oD l)])=true:=lN ((iT l).c.low J.length) rfl;cases l with
 |named y=>exact call_of [.c,.c,.c,.c,.s (az J)]
 |cls x=>exact call_of [.c,.c,.c,.c,.s (az J)]
 |sgn x s=>exact call_of [.c,.c,.c,.b e1,.s (az J)]
 |rel r x y=>
  have i:eM (.cz [[61],[60,62],[60],[62,61],[60,61],[62]] [(.str [61]),(.str [61]),(.str [60]),(.str [60]),(.str [60,61]),(.str [60,61])]) (.str r.w) J=some (.ok (.str r.fst.w),J):=by cases r<;>rfl
  have q:bj .eq (.str r.fst.w) (.str r.w) J=some (.ok (.bool (decide (r.fst=r))),J):=by cases r<;>rfl
  exact call_of [.c,.c,.c,.c,.v i,.c,.c,.c,.v i,.c,.v q,.b e1,.s (az J)]
noncomputable def NI:D->Bool
 |.lf (.rel _ _ _)=>false
 |.lf _=>true
 |_=>false
noncomputable def mM:D->Bool
 |.lf _=>true
 |.not d=>NI d
 |.bin _ a b=>mM a&&mM b
theorem ad1(l:Lf):aq F O BO [(D.lf l).v] J=some (.ok (.bool true),J):=by
 have h:True:=trivial;cases l with
 |named y=>exact call_of [.c,.c,.c,.c,.c,.c,.c,.c,.s (az J)]
 |cls x=>exact call_of [.c,.c,.c,.c,.c,.c,.c,.c,.s (az J)]
 |sgn x s=>exact call_of [.c,.c,.c,.c,.c,.c,.c,.c,.s (az J)]
 |rel r x y=>exact call_of [.c,.c,.c,.c,.c,.c,.c,.c,.s (az J)]
theorem ad0(d:D):aq F O BO [(D.not d).v] J=some (.ok (.bool (NI d)),J):=by
 have h:True:=trivial;cases d with
 |lf l=>
  cases l with
  |named y=>exact call_of [.c,.c,.c,.c,.c,.c,.c,.c,.c,.c,.c,.s (az J)]
  |cls x=>exact call_of [.c,.c,.c,.c,.c,.c,.c,.c,.c,.c,.c,.s (az J)]
  |sgn x s=>exact call_of [.c,.c,.c,.c,.c,.c,.c,.c,.c,.c,.c,.s (az J)]
  |rel r x y=>exact call_of [.c,.c,.c,.c,.c,.c,.c,.c,.c,.c,.c,.s (az J)]
 |not d=>exact call_of [.c,.c,.c,.c,.c,.c,.c,.c,.c,.c,.c,.s (az J)]
 |bin o x y=>
  cases o with
  |true=>exact call_of [.c,.c,.c,.c,.c,.c,.c,.c,.c,.c,.c,.s (az J)]
  |false=>exact call_of [.c,.c,.c,.c,.c,.c,.c,.c,.c,.c,.c,.s (az J)]
theorem ad2(h1:O 805 [x.v] J=some (.ok (.bool a),J))(h2:O 805 [y.v] J=some (.ok (.bool b),J)):aq F O BO [(D.bin o x y).v] J=some (.ok (.bool (a&&b)),J):=by
 cases o with
 |false=>
  cases a with
  |false=>exact call_of [.c,.c,.c,.c,.v h1,.c,.c,.c,.s (az J)]
  |true=>exact call_of [.c,.c,.c,.c,.v h1,.c,.c,.c,.v h2,.c,.s (az J)]
 |true=>
  cases a with
  |false=>exact call_of [.c,.c,.c,.c,.v h1,.c,.c,.c,.s (az J)]
  |true=>exact call_of [.c,.c,.c,.c,.v h1,.c,.c,.c,.v h2,.c,.s (az J)]
def wC(t:Lf->Bool)(l:Lf):Bool:=t (iT l)==oD l
noncomputable def truth(t:Lf->Bool):D->Bool
 |.lf l=>wC t l
 |.not d=>!truth t d
 |.bin o a b=>cond o (truth t a&&truth t b) (truth t a||truth t b)
def Wd(J:LC)(j:Nat)(t:Lf->Bool):Prop:=∀ l:Lf,bj .isIn l.c.v (.ref j) J=some (.ok (.bool (t l)),J)
theorem Xr(h:Wd J j t)(l:Lf)(hk:O 791 [l.c.v] J=some (.ok (.tup [(iT l).c.v,.bool (oD l)]),J)):aq F O BN [(D.lf l).v,.ref j] J=some (.ok (.bool (wC t l)),J):=by
 have h:=h (iT l);unfold wC;generalize t (iT l)=b at h ⊢;cases l with
 |named y=>exact call_of [.c,.c,.c,.c,.c,.c,.c,.c,.c,.v hk,.v h,.c,.c,.s (az J)]
 |cls x=>exact call_of [.c,.c,.c,.c,.c,.c,.c,.c,.c,.v hk,.v h,.c,.c,.s (az J)]
 |sgn x s=>exact call_of [.c,.c,.c,.c,.c,.c,.c,.c,.c,.v hk,.v h,.c,.c,.s (az J)]
 |rel r x y=>exact call_of [.c,.c,.c,.c,.c,.c,.c,.c,.c,.v hk,.v h,.c,.c,.s (az J)]
theorem Xq(h:O 798 [d.v,.ref j] J=some (.ok (.bool a),J)):aq F O BN [(D.not d).v,.ref j] J=some (.ok (.bool !a),J):=by
 cases a with
 |false=>exact call_of [.c,.c,.c,.c,.c,.c,.c,.c,.c,.c,.v h,.c,.c,.c,.s (az J)]
 |true=>exact call_of [.c,.c,.c,.c,.c,.c,.c,.c,.c,.c,.v h,.c,.c,.c,.s (az J)]
theorem Xs(h1:O 798 [x.v,.ref j] J=some (.ok (.bool a),J))(h2:O 798 [y.v,.ref j] J=some (.ok (.bool b),J)):aq F O BN [(D.bin o x y).v,.ref j] J=some (.ok (.bool (cond o (a&&b) (a||b))),J):=by
 cases o with
 |false=>
  cases a with
  |false=>exact call_of [.c,.c,.c,.c,.c,.c,.c,.v h1,.c,.c,.c,.v h2,.c,.s (az J)]
  |true=>exact call_of [.c,.c,.c,.c,.c,.c,.c,.v h1,.c,.c,.c,.s (az J)]
 |true=>
  cases a with
  |false=>exact call_of [.c,.c,.c,.c,.v h1,.c,.c,.c,.s (az J)]
  |true=>exact call_of [.c,.c,.c,.c,.v h1,.c,.c,.c,.v h2,.c,.s (az J)]
end
theorem kG(h:n+2<=L):∃ m,L=m+2/\n<=m:=⟨L-2,by lia,by lia⟩
theorem Ad:∀ (d:D) (L:Nat) (b:Bool) (J:LC),d.ht+2<=L->ah F ae L 538 [d.v,.bool b] J=some (.ok (push d b).v,J)
 |.lf l=>fun L b J h=>by obtain⟨m,rfl,_⟩:=kG h;exact abi l b
 |.not d=>fun L b J h=>by
  obtain⟨m,rfl,g⟩:=kG h;exact abh (Ad d (m+1) (!b) J (cg g))
 |.bin o x y=>fun L b J h=>by
  obtain⟨m,rfl,g⟩:=kG h;exact abj (Ad x (m+1) b J (cg (ak (cg (jD _ _)) g))) (Ad y (m+1) b J (cg (ak (cg (jC _ _)) g)))
theorem Eu:∀ (d:D) (L:Nat) (J:LC),d.ht+2<=L->ah F ae L 805 [d.v] J=some (.ok (.bool (mM d)),J)
 |.lf l=>fun L J h=>by obtain⟨m,rfl,_⟩:=kG h;exact ad1 l
 |.not d=>fun L J h=>by obtain⟨m,rfl,_⟩:=kG h;exact ad0 d
 |.bin o x y=>fun L J h=>by
  obtain⟨m,rfl,g⟩:=kG h;exact ad2 (Eu x (m+1) J (cg (ak (cg (jD _ _)) g))) (Eu y (m+1) J (cg (ak (cg (jC _ _)) g)))
theorem wB{J:LC}(hw:Wd J j t):∀ (d:D) (L:Nat),d.ht+3<=L->ah F ae L 798 [d.v,.ref j] J=some (.ok (.bool (truth t d)),J)
 |.lf l=>fun L h=>by
  obtain⟨m,rfl,g⟩:=kG (n:=1) h;obtain⟨m,rfl⟩:∃ n,m=n+1:=⟨m-1,by lia⟩;exact Xr hw l (OI l)
 |.not d=>fun L h=>by
  obtain⟨m,rfl,g⟩:=kG (n:=d.ht+2) h;exact Xq (wB hw d (m+1) (cg g))
 |.bin o x y=>fun L h=>by
  obtain⟨m,rfl,g⟩:=kG (n:=max x.ht y.ht+2) h;exact Xs (wB hw x (m+1) (cg (ak (f9 (jD _ _) 2) g))) (wB hw y (m+1) (cg (ak (f9 (jC _ _) 2) g)))
theorem Nd(d:D)(L:Nat)(J:LC)(hn:d.ht+3<=L):ah F ae L 531 [d.v] J=some (.ok (push d false).v,J):=by
 obtain⟨m,rfl,g⟩:=kG (n:=d.ht+1) hn;have h:=Ad (F:=F) d (m+1) false J (cg g);have e1:=(push d false).low J.length;show aq F (ah F ae (m+1)) Rv [d.v] J=_;generalize ah F ae (m+1)=O at h ⊢;exact call_of [.v h,.b e1,.s (az J)]
theorem abM(l:Lf)(b:Bool):mM (uC l b)=true:=by cases b<;>cases l<;>rfl
theorem w7:∀ (d:D) (b:Bool),mM (push d b)=true
 |.lf l=>fun b=>abM l b
 |.not d=>fun b=>w7 d (!b)
 |.bin o x y=>fun b=>by show(mM (push x b)&&mM (push y b))=true;rw[w7 x,w7 y];rfl
theorem push_plain:∀ (d:D),mM d=true->push d false=d
 |.lf l=>fun _=>rfl
 |.not d=>fun h=>by
  cases d with
  |lf l=>cases l<;>first|rfl|cases h
  |_=>cases h
 |.bin o x y=>fun h=>by
  have h:(mM x&&mM y)=true:=h;rw[hG]at h;show D.bin (o ^^ false) _ _=_;rw[push_plain x h.1,push_plain y h.2,tX]
theorem abg(d:D):push (push d false) false=push d false:=push_plain _ (w7 d false)
theorem Ae:∀ (d:D) (b:Bool),(push d b).ht<=d.ht+1
 |.lf l=>fun b=>by cases b<;>cases l<;>exact bh rfl
 |.not d=>fun b=>jG (Ae d (!b))
 |.bin o x y=>fun b=>by
  show max (push x b).ht (push y b).ht+1<=max x.ht y.ht+1+1;exact cg (yY.mpr ⟨ak (Ae x b) (cg (jD _ _)),ak (Ae y b) (cg (jC _ _))⟩)
theorem Xn(t:Lf->Bool)(l:Lf)(b:Bool):truth t (uC l b)=(wC t l ^^ b):=by
 cases b with
 |false=>exact(tX _).symm
 |true=>
  cases l with
  |rel r x y=>
   have e:iT (.rel r.lH x y)=iT (.rel r x y)/\oD (.rel r.lH x y)=!oD (.rel r x y):=by cases r<;>exact⟨rfl,rfl⟩
   show(t (iT (.rel r.lH x y))==oD (.rel r.lH x y))=_;rw[e.1,e.2];unfold wC;cases t (iT (.rel r x y))<;>cases oD (.rel r x y)<;>rfl
  |_=>exact(CU _).symm
theorem zB(t:Lf->Bool):∀ (d:D) (b:Bool),truth t (push d b)=(truth t d ^^ b)
 |.lf l=>fun b=>Xn t l b
 |.not d=>fun b=>by
  show truth t (push d (!b))=(!truth t d ^^ b);rw[zB t d];cases truth t d<;>cases b<;>rfl
 |.bin o x y=>fun b=>by
  show cond (o ^^ b) (truth t (push x b)&&truth t (push y b)) (truth t (push x b)||truth t (push y b))=(cond o (truth t x&&truth t y) (truth t x||truth t y) ^^ b);rw[zB t x,zB t y];cases o<;>cases b<;>cases truth t x<;>cases truth t y<;>rfl
end
section
variable {F k:Nat}
def Kw:List PS:=cq i8 1
noncomputable def af1(p:PS):List PS:=match p with
 |.aE _ _ b=>b
 |_=>[]
def af2(b:List PS)(i:Nat):List PS:=(b[i]?.map af1).getD []
def qp:List PS:=cq Kw 1
def inD:List PS:=cq (af2 Kw 1) 0
noncomputable abbrev HN:List Nat:=[65,66,67,68,69,70,71,72,73,74,75,76,77,78,79,80,81,82,83,84,85,86,87,88,89,90,45]
noncomputable abbrev vJ:List Nat:=[65,66,67,68,69,70,71,72,73,74,75,76,77,78,79,80,81,82,83,84,85,86,87,88,89,90]
noncomputable abbrev yB:List Nat:=[48,49,50,51,52,53,54,55,56,57]
noncomputable abbrev agf:List Nat:=[48,49,50,51,52,53,54,55,56,57,46]
abbrev gP(F:Nat)(O:ay)(b:List PS)(i:Nat):Nat->Ex:=dH (fun lv=>dh O lv [none] (fO b i)) (aD F O [none] (cq b i))
section
variable {O:ay}{J:LC}{T:List Nat}
theorem GD(P:List Nat)(c:Nat)(R:List Nat):(P++c :: R)[P.length]?=some c:=by rw[iF (aG _),jF];rfl
theorem sP(h:e<=200000):iu (e:Nat)=true:=by
 have h1:(e:Int)<(1048576:Nat):=e8.mpr (e_ h ⋯);unfold iu;exact decide_eq_true (And.intro (y6 e) h1)
theorem len_str(h:T.length<=100000):cw .len [.str T] J=some (.ok (.int T.length),J):=by
 show aF (short T) (Ev.ret (V.int T.length)) J=_;rw[show short T=true from decide_eq_true (ak h (bh rfl))];rfl
theorem aep(ho:iu n=true)(h:T[n.toNat]?=some c):eM (.str T) (.int n) J=some (.ok (.str [c]),J):=by
 show aF (iu n) (aS T[n.toNat]? fun v=>Ev.ret (V.str [v])) J=_;rw[ho,h];rfl
theorem oF(hT:T.length<=100000)(h:T[e]?=some c):eM (.str T) (.int (e:Nat)) J=some (.ok (.str [c]),J):=
 aep (sP (ak (fH (dD h)) (ak hT ⋯))) h
theorem HR(ho:iu n=true):qV (.int n) d=some n.toNat:=if_pos ho
theorem YX(hs:short T=true)(h:iu n=true)(h':iu m=true):dA (.str T) (.int n) (.int m) J=some (.ok (.str (cut T n.toNat m.toNat)),J):=by
 show aS (qV (.int n) 0) (fun x=>aS (qV (.int m) T.length) fun y=>aF (short T) (Ev.ret (V.str (cut T x y)))) J=_;rw[HR h,HR h'];show aF (short T) (Ev.ret (V.str (cut T n.toNat m.toNat))) J=_;rw[hs];rfl
theorem D0(hT:T.length<=100000)(ha:a<=200000)(hb:b<=200000):dA (.str T) (.int (a:Nat)) (.int (b:Nat)) J=some (.ok (.str (cut T a b)),J):=
 YX (decide_eq_true (ak hT ⋯)) (sP ha) (sP hb)
structure Ks(W:Nat->Ex)(S:List Nat):Prop where
 go:∀ (J:LC) (T:List Nat) (l a:V) (e c n:Nat) (z:Except Nat Fl×LV×LC),T.length<=100000->T[e]?=some c->cH [c] S=true->W n [some (.str T),some l,some a,some (.int ((e:Int)+1))] J=some z->W (n+1) [some (.str T),some l,some a,some (.int (e:Nat))] J=some z
 stop:∀ (J:LC) (T:List Nat) (l a:V) (e n:Nat),T.length<=100000->(∀ c,T[e]?=some c->cH [c] S=false)->W (n+1) [some (.str T),some l,some a,some (.int (e:Nat))] J=some (.ok .next,[some (.str T),some l,some a,some (.int (e:Nat))],J)
theorem aem:Ks (gP F O qp 0) HN where
 go J T l a e c n z hT hc hs hz:=by
  have l1:=len_str (J:=J) hT;have b:=dt (e8.mpr (dD hc));have i:=oF (J:=J) hT hc;have s:=jU (J:=J) hs;exact bX [.v l1,.c,.b b,.v i,.v s,.c,.c,.x hz]
 stop J T l a e n hT hs:=by
  have l1:=len_str (J:=J) hT;cases hc:T[e]? with
  |some c=>
   have b:=dt (e8.mpr (dD hc));have i:=oF (J:=J) hT hc;have s:=jU (J:=J) (hs c hc);clear hs;exact bX [.v l1,.c,.b b,.v i,.v s,.c]
  |none=>
   have b:=df (fun h=>fG.mpr (pC.mp hc) (e8.mp h));clear hs;exact bX [.v l1,.c,.b b]
theorem aej:Ks (gP F O inD 0) agf where
 go J T l a e c n z hT hc hs hz:=by
  have l1:=len_str (J:=J) hT;have b:=dt (e8.mpr (dD hc));have i:=oF (J:=J) hT hc;have s:=jU (J:=J) hs;exact bX [.v l1,.c,.b b,.v i,.v s,.c,.c,.x hz]
 stop J T l a e n hT hs:=by
  have l1:=len_str (J:=J) hT;cases hc:T[e]? with
  |some c=>
   have b:=dt (e8.mpr (dD hc));have i:=oF (J:=J) hT hc;have s:=jU (J:=J) (hs c hc);clear hs;exact bX [.v l1,.c,.b b,.v i,.v s,.c]
  |none=>
   have b:=df (fun h=>fG.mpr (pC.mp hc) (e8.mp h));clear hs;exact bX [.v l1,.c,.b b]
theorem FH{W:Nat->Ex}{S:List Nat}(h:Ks W S){l a:V}{R:List Nat}(hR:∀ c,R[0]?=some c->cH [c] S=false)(hT:T.length<=100000):∀ (w P:List Nat) (n:Nat),T=P++(w++R)->(∀ c∈w,cH [c] S=true)->w.length<n ->
  W n [some (.str T),some l,some a,some (.int (P.length:Nat))] J=some (.ok .next,[some (.str T),some l,some a,some (.int ((P.length+w.length:Nat):Int))],J)
 |w,P,0=>fun _ _ h=>absurd h (hJ _)
 |[],P,n+1=>fun e _ _=>h.stop J T l a P.length n hT fun c hc=>hR c (by rw[e,Iu,iF (aG _),jF]at hc;exact hc)
 |c :: w,P,n+1=>fun e hw hn=>by
  refine h.go J T l a P.length c n _ hT (by rw[e];exact GD ..) (hw c (List.mem_cons_self ..)) ?_;have:=FH h (l:=l) (a:=a) hR hT w (P++[c]) n (by rw[e,aH];rfl) (fun x hx=>hw x (List.mem_cons_of_mem _ hx)) (iH hn);rw[bz,vS]at this;exact this
end
end
section
variable {F k:Nat}
noncomputable abbrev rM:V:=.tup [.str [42,42],.str [60,61],.str [62,61]]
section
variable {O:ay}{J aj:LC}{T w:List Nat}{L n a e c:Nat}{x3:Option V}{z:Except Nat Fl×LV×LC}
theorem Wl(hT:T.length<=100000)(hc:T[a]?=some c)(h1:cH [c] vJ=true)(kP:gP F O qp 0 F [some (.str T),some (.ref L),some (.int (a:Nat)),some (.int ((a:Int)+1))] J=some (.ok .next,[some (.str T),some (.ref L),some (.int (a:Nat)),some (.int (e:Nat))],J))
  (hn:¬[c]=[32]) (sl:dA (.str T) (.int (a:Nat)) (.int (e:Nat)) J=some (.ok (.str w),J)) (m:bU J (.ref L) .append=some (.bi .cX,true)) (ap:cw .cX [.ref L,.str w] J=some (.ok .none,aj))
  (hz:gP F O i8 1 n [some (.str T),some (.ref L),some (.int (e:Nat)),some (.int (e:Nat))] aj=some z):gP F O i8 1 (n+1) [some (.str T),some (.ref L),some (.int (a:Nat)),x3] J=some z:=by
 have l1:=len_str (J:=J) hT;have b:=dt (e8.mpr (dD hc));have i:=oF (J:=J) hT hc;have s:=jU (J:=J) h1;have e0:=uL (J:=J) hn;clear hc h1 hn;exact bX [.v l1,.c,.b b,.c,.v i,.v s,.c,.x kP,.v i,.v e0,.c,.m m,.v sl,.v ap,.x hz]
theorem Wo(hT:T.length<=100000)(hc:T[a]?=some c)(h0:cH [c] vJ=false)(h1:cH [c] yB=true)(kP:gP F O inD 0 F [some (.str T),some (.ref L),some (.int (a:Nat)),some (.int ((a:Int)+1))] J=some (.ok .next,[some (.str T),some (.ref L),some (.int (a:Nat)),some (.int (e:Nat))],J))
  (hn:¬[c]=[32]) (sl:dA (.str T) (.int (a:Nat)) (.int (e:Nat)) J=some (.ok (.str w),J)) (m:bU J (.ref L) .append=some (.bi .cX,true)) (ap:cw .cX [.ref L,.str w] J=some (.ok .none,aj))
  (hz:gP F O i8 1 n [some (.str T),some (.ref L),some (.int (e:Nat)),some (.int (e:Nat))] aj=some z):gP F O i8 1 (n+1) [some (.str T),some (.ref L),some (.int (a:Nat)),x3] J=some z:=by
 have l1:=len_str (J:=J) hT;have b:=dt (e8.mpr (dD hc));have i:=oF (J:=J) hT hc;have s0:=jU (J:=J) h0;have s:=jU (J:=J) h1;have e0:=uL (J:=J) hn;clear hc h1 hn;exact bX [.v l1,.c,.b b,.c,.v i,.v s0,.c,.v i,.v s,.c,.x kP,.v i,.v e0,.c,.m m,.v sl,.v ap,.x hz]
theorem Wm(hT:T.length<=100000)(hc:T[a]?=some c)(h0:cH [c] vJ=false)(h1:cH [c] yB=false)(s2:dA (.str T) (.int (a:Nat)) (.int ((a:Int)+2)) J=some (.ok (.str v),J))(h2:bj .isIn (.str v) rM J=some (.ok (.bool true),J))
  (hn:¬[c]=[32]) (m:bU J (.ref L) .append=some (.bi .cX,true)) (ap:cw .cX [.ref L,.str v] J=some (.ok .none,aj))
  (hz:gP F O i8 1 n [some (.str T),some (.ref L),some (.int ((a:Int)+2)),some (.int ((a:Int)+2))] aj=some z):gP F O i8 1 (n+1) [some (.str T),some (.ref L),some (.int (a:Nat)),x3] J=some z:=by
 have l1:=len_str (J:=J) hT;have b:=dt (e8.mpr (dD hc));have i:=oF (J:=J) hT hc;have s0:=jU (J:=J) h0;have s:=jU (J:=J) h1;have e0:=uL (J:=J) hn;clear hc h1 hn;exact bX [.v l1,.c,.b b,.c,.v i,.v s0,.c,.v i,.v s,.c,.c,.v s2,.v h2,.c,.c,.v i,.v e0,.c,.m m,.v s2,.v ap,.x hz]
theorem Wn(hT:T.length<=100000)(hc:T[a]?=some c)(h0:cH [c] vJ=false)(h1:cH [c] yB=false)(s2:dA (.str T) (.int (a:Nat)) (.int ((a:Int)+2)) J=some (.ok (.str v),J))(h2:bj .isIn (.str v) rM J=some (.ok (.bool false),J))
  (hn:¬[c]=[32]) (sl:dA (.str T) (.int (a:Nat)) (.int ((a:Int)+1)) J=some (.ok (.str w),J)) (m:bU J (.ref L) .append=some (.bi .cX,true)) (ap:cw .cX [.ref L,.str w] J=some (.ok .none,aj))
  (hz:gP F O i8 1 n [some (.str T),some (.ref L),some (.int ((a:Int)+1)),some (.int ((a:Int)+1))] aj=some z):gP F O i8 1 (n+1) [some (.str T),some (.ref L),some (.int (a:Nat)),x3] J=some z:=by
 have l1:=len_str (J:=J) hT;have b:=dt (e8.mpr (dD hc));have i:=oF (J:=J) hT hc;have s0:=jU (J:=J) h0;have s:=jU (J:=J) h1;have e0:=uL (J:=J) hn;clear hc h1 hn;exact bX [.v l1,.c,.b b,.c,.v i,.v s0,.c,.v i,.v s,.c,.c,.v s2,.v h2,.c,.v i,.v e0,.c,.m m,.v sl,.v ap,.x hz]
theorem Wr(hT:T.length<=100000)(hc:T[a]?=some 32)(s2:dA (.str T) (.int (a:Nat)) (.int ((a:Int)+2)) J=some (.ok (.str v),J))(h2:bj .isIn (.str v) rM J=some (.ok (.bool false),J))
  (hz:gP F O i8 1 n [some (.str T),some (.ref L),some (.int ((a:Int)+1)),some (.int ((a:Int)+1))] J=some z):gP F O i8 1 (n+1) [some (.str T),some (.ref L),some (.int (a:Nat)),x3] J=some z:=by
 have l1:=len_str (J:=J) hT;have b:=dt (e8.mpr (dD hc));have i:=oF (J:=J) hT hc;clear hc;exact bX [.v l1,.c,.b b,.c,.v i,.c,.c,.v i,.c,.c,.c,.v s2,.v h2,.c,.v i,.c,.c,.x hz]
theorem Wq(hT:T.length<=100000):gP F O i8 1 (n+1) [some (.str T),some (.ref L),some (.int (T.length:Nat)),x3] J=some (.ok .next,[some (.str T),some (.ref L),some (.int (T.length:Nat)),x3],J):=by
 have l1:=len_str (J:=J) hT;have b:=df (Int.lt_irrefl (T.length:Int));exact bX [.v l1,.c,.b b]
end
noncomputable def toks:Pz->List Tok
 |[]=>[]
 |none :: r=>toks r
 |some t :: r=>t :: toks r
theorem d6:∀ a b:Pz,toks (a++b)=toks a++toks b
 |[]=>fun _=>rfl
 |none :: r=>fun b=>d6 r b
 |some t :: r=>fun b=>congrArg (t :: ·) (d6 r b)
noncomputable def r_:Option Nat->Bool
 |none=>true
 |some c=>decide (c=32)||decide (c=41)
def apart(t:Tok)(o:Option Nat):Bool:=r_ o||(decide (t=.lp)||(decide (t=.minus)&&decide (o=some 53)))
noncomputable def gd:Pz->Bool
 |[]=>true
 |none :: r=>gd r
 |some t :: r=>apart t (txt r)[0]?&&gd r
theorem ud(t:Tok):t.w=hc t :: t.w.tail:=Tok.ag (f:=fun t=>t.w) (g:=fun t=>hc t :: t.w.tail) (by kernel_rfl) t
theorem ae2(t:Tok):cH [hc t] vJ=decide (t.k=.word)/\cH [hc t] yB=decide (t.k=.num)/\decide ([hc t]=[32])=false:=⟨Tok.ag (f:=fun t=>cH [hc t] vJ) (g:=fun t=>decide (t.k=.word)) (by kernel_rfl) t,Tok.ag (f:=fun t=>cH [hc t] yB) (g:=fun t=>decide (t.k=.num)) (by kernel_rfl) t,Tok.ag (f:=fun t=>decide ([hc t]=[32])) (g:=fun _=>false) (by kernel_rfl) t⟩
theorem Xz(t:Tok)(h:t.k=.word):(t.w.tail.all fun c=>cH [c] HN)=true:=Tok.k8 (f:=fun t=>t.w.tail.all fun c=>cH [c] HN) (g:=fun _=>true) (by kernel_rfl) h
theorem Xy(t:Tok)(h:t.k=.num):t.w.tail=[]:=Tok.k8 (f:=fun t=>t.w.tail) (g:=fun _=>[]) (by kernel_rfl) h
theorem Mq{o:Option Nat}{S:List Nat}(h:r_ o=true)(h1:cH [32] S=false)(h2:cH [41] S=false):∀ c,o=some c->cH [c] S=false:=fun c e=>by
 subst e;rcases CT.mp h with h|h
 ·rw[of_decide_eq_true h];exact h1
 ·rw[of_decide_eq_true h];exact h2
theorem Ic(h:apart t o=true)(h1:t≠.lp)(h2:t≠.minus):r_ o=true:=by
 unfold apart at h;rw[decide_eq_false h1,decide_eq_false h2]at h;simpa using h
noncomputable def uV(t:Tok):Bool:=decide (t=.le)||decide (t=.ge)
theorem W8{J:LC}(hk:t.k=.sign)(h:apart t R[0]?=true):bj .isIn (.str ((t.w++R).take 2)) rM J=some (.ok (.bool (uV t)),J)/\t.w.length=cond (uV t) 2 1:=by
 have k:t≠.lp->t≠.minus->R=[]∨(∃ q,R=32 :: q)∨∃ q,R=41 :: q:=fun h1 h2=>by
  have:=Ic h h1 h2;cases R with
  |nil=>exact .inl rfl
  |cons c q=>
   rcases CT.mp this with h|h
   ·exact .inr (.inl ⟨q,by rw[of_decide_eq_true h]⟩)
   ·exact .inr (.inr ⟨q,by rw[of_decide_eq_true h]⟩)
 have len:∀ q,(t.w++q).take 2=(t.w++q.take 1).take 2:=fun q=>by
  rw[ud t];cases t.w.tail with
  |nil=>cases q<;>rfl
  |cons _ _=>rfl
 have key:∀ x:List Nat,bj .isIn (.str x) rM J=some (.ok (.bool ([[42,42],[60,61],[62,61]].contains x ^^ false)),J):=fun x=>by
  show(aS (ir (.str x) ([[42,42],[60,61],[62,61]].map V.str)) fun b=>Ev.ret (V.bool (b ^^ false))) J=_;rw[Pa];rfl
 have on:∀ q:List Nat,(tH.all fun t=>!(decide (t.k=.sign))||decide (([[42,42],[60,61],[62,61]].contains ((t.w++q.take 1).take 2) ^^ false)=uV t))=true->bj .isIn (.str ((t.w++q).take 2)) rM J=some (.ok (.bool (uV t)),J):=fun q hq=>by
  rw[key,len,of_decide_eq_true (Tok.on hq (decide_eq_true hk))]
 refine⟨?_,Tok.k8 (f:=fun t=>t.w.length) (g:=fun t=>cond (uV t) 2 1) (by kernel_rfl) hk⟩;by_cases h1:t=.lp
 ·subst h1;cases R<;>rfl
 by_cases h2:t=.minus
 ·subst h2;cases R<;>rfl
 rcases k h1 h2 with e|⟨q,e⟩|⟨q,e⟩<;>rw[e]<;>exact on _ (by kernel_rfl)
theorem Hv(P X:List Nat)(m:Nat):cut (P++X) P.length (P.length+m)=X.take m:=by
 unfold cut;rw[List.take_length_add_append,List.drop_left' rfl]
end
section
variable {F k:Nat}
section
variable {O:ay}{J:LC}{T:List Nat}
def bI(S:List Tok):Cell:=.lst (eh S)
theorem WC(J:LC)(S:List Tok):bU (J++[bI S]) (.ref J.length) .append=some (.bi .cX,true):=lM bx rfl
theorem WD(J:LC){S:List Tok}(t:Tok)(h:S.length<=100000):cw .cX [.ref J.length,.str t.w] (J++[bI S])=some (.ok .none,J++[bI (S++[t])]):=by
 unfold bI;rw[tG bx (ub h) rfl,rY];unfold eh;rw[j_];rfl
theorem ag1(R:List Nat):bj .isIn (.str ((32 :: R).take 2)) rM J=some (.ok (.bool false),J):=by cases R<;>rfl
theorem Dj(hF:200000<=F)(hT:T.length<=100000):∀ (ps:Pz) (P:List Nat) (S:List Tok) (n:Nat) (x3:Option V),T=P++txt ps->gd ps=true->ps.length<n->S.length+ps.length<=100000 ->
  ∃ y3,gP F O i8 1 n [some (.str T),some (.ref J.length),some (.int (P.length:Nat)),x3] (J++[bI S])=some (.ok .next,[some (.str T),some (.ref J.length),some (.int (T.length:Nat)),y3],J++[bI (S++toks ps)])
 |ps,P,S,0=>fun _ _ _ h _=>absurd h (hJ _)
 |[],P,S,n+1=>fun x3 e _ _ _=>by
  have e:T=P:=e.trans (dM P);subst e;refine⟨x3,?_⟩;show _=some (_,_,J++[bI (S++[])]);rw[dM];exact Wq hT
 |none :: r,P,S,n+1=>fun x3 e hg hn hs=>by
  have e2:T=P++(32 :: txt r):=e;have hP:P.length<=100000:=by rw[e2,bz]at hT;exact ak (cL _ _) hT
  obtain⟨y3,ih⟩:=Dj hF hT r (P++[32]) S n (some (.int ((P.length:Int)+1))) (by rw[e2,aH];rfl) hg (iH hn) (vY hs);rw[bz]at ih;exact⟨y3,Wr hT (by rw[e2];exact GD ..) ((D0 (b:=P.length+2) hT (ak hP ⋯) (ak (f9 hP 2) ⋯)).trans (by rw[e2,Hv])) (ag1 _) ih⟩
 |some t :: r,P,S,n+1=>fun x3 e hg hn hs=>by
  have e2:T=P++(t.w++txt r):=e;have e3:T=P++(hc t :: (t.w.tail++txt r)):=by rw[e2,ud t];rfl
  have e4:T=(P++[hc t])++(t.w.tail++txt r):=by rw[e3,aH];rfl
  have hw:1+t.w.tail.length=t.w.length:=by rw[ud t];exact v5 _ _
  have hP:P.length+t.w.length<=100000:=by rw[e2,bz,bz]at hT;lia
  have Gw:P.length<=100000:=ak (cL _ _) hP;obtain⟨vd,hg2⟩:=aM.mp hg;obtain⟨c1,c2,c3⟩:=ae2 t;have lW:T[P.length]?=some (hc t):=by rw[e3];exact GD ..
  have jW:S.length<=100000:=ak (cL _ _) hs;have ih:=fun x3=>Dj hF hT r (P++t.w) (S++[t]) n x3 (by rw[e2,aH]) hg2 (iH hn) (by rw[bz,zb];exact ak (eR (by rw[qZ];lia)) hs);rw[bz,aH]at ih;have sl:∀ J,dA (.str T) (.int (P.length:Nat)) (.int ((P.length+t.w.length:Nat):Int)) J=some (.ok (.str t.w),J):=fun J=>(D0 hT (ak Gw ⋯) (ak hP ⋯)).trans (by rw[e2,Hv,mn rfl])
  have hlen:(P++[hc t]).length+t.w.tail.length=P.length+t.w.length:=by rw[bz,<-hw];exact v9 ..
  have m:=WC J S;have ap:=WD J t jW;have Qx:∀ {q:List Nat},q.length<=16->q.length<F:=fun h=>e_ h (dN ⋯ hF);have Ba:t.w.tail.length<=16:=by have:=pM t;lia
  cases hk:t.k with
  |word=>
   rw[hk]at c1 c2;obtain⟨y3,ih⟩:=ih (some (.int ((P.length+t.w.length:Nat):Int)));have ha:r_ (txt r)[0]?=true:=Ic vd (fun e=>by rw[e]at hk;cases hk) (fun e=>by rw[e]at hk;cases hk);have kP:=FH (J:=J++[bI S]) (aem (F:=F) (O:=O)) (l:=.ref J.length) (a:=.int (P.length:Nat)) (Mq ha rfl rfl) hT t.w.tail (P++[hc t]) F e4 (iJ.mp (Xz t hk)) (Qx Ba);rw[hlen,bz]at kP
   exact⟨y3,Wl hT lW c1 kP (of_decide_eq_false c3) (sl _) m ap ih⟩
  |num=>
   rw[hk]at c1 c2;obtain⟨y3,ih⟩:=ih (some (.int ((P.length+t.w.length:Nat):Int)));have ha:r_ (txt r)[0]?=true:=Ic vd (fun e=>by rw[e]at hk;cases hk) (fun e=>by rw[e]at hk;cases hk);have kP:=FH (J:=J++[bI S]) (aej (F:=F) (O:=O)) (l:=.ref J.length) (a:=.int (P.length:Nat)) (Mq ha rfl rfl) hT t.w.tail (P++[hc t]) F e4 (fun c h=>by rw[Xy t hk]at h;cases h) (Qx Ba);rw[hlen,bz]at kP
   exact⟨y3,Wo hT lW c1 c2 kP (of_decide_eq_false c3) (sl _) m ap ih⟩
  |sign=>
   rw[hk]at c1 c2;obtain⟨h2,hl⟩:=W8 (J:=J++[bI S]) hk vd;have s2:dA (.str T) (.int (P.length:Nat)) (.int ((P.length:Int)+2)) (J++[bI S])=some (.ok (.str ((t.w++txt r).take 2)),J++[bI S]):=(D0 (b:=P.length+2) hT (ak Gw ⋯) (ak (f9 Gw 2) ⋯)).trans (by rw[e2,Hv]);cases ht:uV t with
   |true=>
    rw[ht]at h2 hl;have hl:t.w.length=2:=hl;rw[hl]at ih;obtain⟨y3,ih⟩:=ih (some (.int ((P.length:Int)+2)));rw[mn hl]at s2 h2;exact⟨y3,Wm hT lW c1 c2 s2 h2 (of_decide_eq_false c3) m ap ih⟩
   |false=>
    rw[ht]at h2 hl;have hl:t.w.length=1:=hl;rw[hl]at ih sl;obtain⟨y3,ih⟩:=ih (some (.int ((P.length:Int)+1)));exact⟨y3,Wn hT lW c1 c2 s2 h2 (of_decide_eq_false c3) (sl _) m ap ih⟩
theorem Wy(hw:gP F O i8 1 F [some (.str T),some (.ref J.length),some (.int 0),none] (J++[.lst []])=some (.ok .next,[some (.str T),some (.ref J.length),some (.int (T.length:Nat)),y3],l)):aq F O RB [.str T] J=some (.ok (.ref J.length),l):=by
 exact call_of [.x hw]
end
theorem Wx(hF:200000<=F)(hT:(txt ps).length<=50000)(hp:ps.length<=50000)(hg:gd ps=true)(J:LC):ah F ae (k+2) 751 [.str (txt ps)] J=some (.ok (.ref J.length),J++[bI (toks ps)]):=by
 obtain⟨y3,h⟩:=Dj (O:=ah F ae (k+1)) (J:=J) hF (ak hT ⋯) ps [] [] F none rfl hg (e_ hp (dN ⋯ hF)) (by rw[tP,fy];exact ak hp ⋯);exact Wy (O:=ah F ae (k+1)) h
end
section
variable {F k:Nat}
theorem ZE(J:LC)(x y z:Cell)(X:LC):(J++x :: y :: X).set (J.length+1) z=J++x :: z :: X:=by
 rw[vU _ _ (cL _ _),tQ];rfl
theorem GC(J:LC)(x y:Cell)(X:LC):(J++x :: y :: X)[J.length+1]?=some y:=by
 rw[iF (cL _ _),tQ];rfl
theorem abH{J:LC}{j:Nat}(h:J[j]?=some (.lst (l++[v])))(hs:l.length<=100000):cw .lP [.ref j] J=some (.ok v,J.set j (.lst l)):=by
 show bt j (fun l=>aF (short l) (aS l.getLast? fun v=>uv j l.dropLast v)) J=_;rw[d8 h,show short (l++[v])=true from decide_eq_true (by rw[bz,zb];exact ak (cg hs) ⋯),List.getLast?_concat,List.dropLast_concat];rfl
noncomputable def uZ(n:Nat):V:=.int (n:Int)
def iO(p:Nat×Nat):V:=.tup [uZ p.1,uZ p.2]
abbrev nZ(F:Nat)(O:ay)(j:Nat):Nat->Nat->Ex:=cR (eI j) (.two 3 4) (aD F O [none] (cq H6 1))
section
variable {O:ay}{J aa aj:LC}{j L n f b:Nat}{w:List Nat}{x3 x4:Option V}{z:Except Nat Fl×LV×LC}
theorem abB(hn:eI j n J=some (some (.tup [.int n,.str w])))(h1:¬w=[40])(h2:¬w=[41])(hz:nZ F O j f (n+1) [some (.ref j),some (.ref L),some (.ref (L+1)),some (.int n),some (.str w)] J=some z) :
  nZ F O j (f+1) n [some (.ref j),some (.ref L),some (.ref (L+1)),x3,x4] J=some z:=by
 have e1:=kT (J:=J) h1;have e2:=kT (J:=J) h2;exact j4 hn [.v e1,.c,.v e2,.c,.x hz]
theorem abC(hn:eI j n J=some (some (.tup [.int n,.str [40]])))(m:bU J (.ref L) .append=some (.bi .cX,true))(a:cw .cX [.ref L,.int n] J=some (.ok .none,aa))
  (hz:nZ F O j f (n+1) [some (.ref j),some (.ref L),some (.ref (L+1)),some (.int n),some (.str [40])] aa=some z):nZ F O j (f+1) n [some (.ref j),some (.ref L),some (.ref (L+1)),x3,x4] J=some z:=by
 exact j4 hn [.c,.c,.m m,.v a,.c,.c,.x hz]
theorem abA(hn:eI j n J=some (some (.tup [.int n,.str [41]])))(m1:bU J (.ref (L+1)) .append=some (.bi .cX,true))(m:bU J (.ref L) .pop=some (.bi .lP,true))(p:cw .lP [.ref L] J=some (.ok (.int b),aa))
  (a:cw .cX [.ref (L+1),.tup [.int b,.int n]] aa=some (.ok .none,aj)) (hz:nZ F O j f (n+1) [some (.ref j),some (.ref L),some (.ref (L+1)),some (.int n),some (.str [41])] aj=some z) :
  nZ F O j (f+1) n [some (.ref j),some (.ref L),some (.ref (L+1)),x3,x4] J=some z:=by
 exact j4 hn [.c,.c,.c,.c,.m m1,.m m,.v p,.v a,.x hz]
end
theorem NV{α:Type}{l:List α}{P:α->Prop}{a:α}(h:∀ b∈l,P b)(ha:P a):∀ b∈l++[a],P b:=fun b hb=>by
 rcases hU.mp hb with h1|h1
 ·exact h b h1
 ·rw[b_.mp h1];exact ha
noncomputable def gJ:Nat->List Tok->Bool
 |_,[]=>true
 |d,t :: r=>cond (decide (t=.lp)) (gJ (d+1) r) (cond (decide (t=.rp)) (match d with
  |0=>false
  |d+1=>gJ d r) (gJ d r))
def Gp(ts:List Tok)(p:Nat×Nat):Prop:=p.1<p.2/\ts[p.1]?=some .lp/\ts[p.2]?=some .rp
theorem acU{t:Tok}(h:t≠.lp):¬t.w=[40]:=fun e=>h (of_decide_eq_true (Tok.on (q:=fun t=>decide (t.w=[40])) (p:=fun t=>decide (t=.lp)) (by kernel_rfl) (decide_eq_true e)))
theorem aaB{t:Tok}(h:t≠.rp):¬t.w=[41]:=fun e=>h (of_decide_eq_true (Tok.on (q:=fun t=>decide (t.w=[41])) (p:=fun t=>decide (t=.rp)) (by kernel_rfl) (decide_eq_true e)))
theorem acj{J:LC}{j n:Nat}{ts:List Tok}(dC:ts.length<=100000)(h:J[j]?=some (.lst (eh ts))):eI j n J=some ((ts[n]?).map fun t=>V.tup [.int n,.str t.w]):=by
 unfold eI;rw[h];show(if short (eh ts)=true then some (((ts.map fun t=>V.str t.w)[n]?).map fun v=>V.tup [.int n,v]) else none)=_;rw[if_pos (ub dC),eS,Vi];rfl
def n8(J:LC)(os:List Nat)(fs:List (Nat×Nat)):LC:=J++[.lst (os.map uZ),.lst (fs.map iO),.raw,.raw]
section
variable {O:ay}{J:LC}{j:Nat}{ts:List Tok}
theorem mF{α:Type}{l:List α}(f:α->V)(h:l.length<=100000):short (l.map f)=true:=decide_eq_true (by rw[f7];exact ak h ⋯)
theorem M8(dC:ts.length<=50000)(hj:J[j]?=some (.lst (eh ts))):∀ (m n f:Nat) (os:List Nat) (fs:List (Nat×Nat)) (x3 x4:Option V),n+m=ts.length->m<f->gJ os.length (ts.drop n)=true->os.length<=n->fs.length<=n ->
  (∀ b∈os,b<n/\ts[b]?=some .lp)->(∀ p∈fs,Gp ts p)->∃ so oU y3 y4,nZ F O j f n [some (.ref j),some (.ref J.length),some (.ref (J.length+1)),x3,x4] (n8 J os fs)=some (.ok .next,[some (.ref j),some (.ref J.length),some (.ref (J.length+1)),y3,y4],n8 J so oU)/\oU.length<=ts.length/\∀ p∈oU,Gp ts p
 |m,n,0=>fun _ _ _ _ _ h _ _ _ _ _=>absurd h (hJ _)
 |m,n,f+1=>fun os fs x3 x4 hm hf hb ho jy F0 oR=>by
  have Pp:ts.length<=100000:=ak dC ⋯;have h1:(n8 J os fs)[j]?=some (.lst (eh ts)):=by unfold n8;rw[dp (dD hj)];exact hj
  have eB:=acj (n:=n) Pp h1;cases m with
  |zero=>
   have hn:n=ts.length:=hm;rw[v7 (eR hn.symm)]at eB;exact⟨os,fs,x3,x4,yj eB,ak jy (eR hn),oR⟩
  |succ m=>
   have hn:n<ts.length:=by lia
   have jX:n<=100000:=ak (fH hn) Pp;rw[dw hn]at eB;rw[y9 hn]at hb;have Gf:=dw hn;generalize ts[n]=t at eB hb Gf;have next:=M8 dC hj m (n+1) f;have mono:∀ b∈os,b<n+1/\ts[b]?=some .lp:=fun b h=>⟨pA (F0 b h).1,(F0 b h).2⟩;by_cases hl:t=.lp
   ·subst hl;obtain⟨so,oU,y3,y4,ih,hg⟩:=next (os++[n]) fs (some (.int n)) (some (.str [40])) (by lia) (iH hf) (by rw[bz];exact hb) (by rw[bz];exact cg ho) (jG jy)
     (NV mono ⟨eQ _,Gf⟩) oR
    refine⟨so,oU,y3,y4,abC eB (lM (jz J _ _) rfl) (tG (jz J _ _) (mF _ (ak ho jX)) rfl) ?_,hg⟩;unfold n8 at ih ⊢;rw[D9];rw[j_]at ih;exact ih
   ·by_cases hr:t=.rp
    ·subst hr;have hb:(match os.length with|0=>false|d+1=>gJ d (ts.drop (n+1)))=true:=hb;rcases List.eq_nil_or_concat os with h0|⟨xe,b,h0⟩
     ·rw[h0]at hb;cases hb
     ·rw[List.concat_eq_append]at h0;subst h0;rw[bz]at hb ho;have PD:xe.length<=n:=ak (i_ _) ho;obtain⟨hbn,hbl⟩:=F0 b (hU.mpr (.inr (b_.mpr rfl)));obtain⟨so,oU,y3,y4,ih,hg⟩:=next xe (fs++[(b,n)]) (some (.int n)) (some (.str [41])) (by lia) (iH hf) hb (jG PD) (by rw[bz];exact cg jy)
       (fun b h=>mono b (hU.mpr (.inl h))) (NV oR ⟨hbn,hbl,Gf⟩)
      have hp:cw .lP [.ref J.length] (n8 J (xe++[b]) fs)=some (.ok (.int b),J++[.lst (xe.map uZ),.lst (fs.map iO),.raw,.raw]):=by
       unfold n8;rw[abH (l:=xe.map uZ) (v:=uZ b) (by rw[jz,j_];rfl) (by rw[f7];exact ak PD jX),D9];rfl
      refine⟨so,oU,y3,y4,abA eB (lM (GC J _ _ _) rfl) (lM (jz J _ _) rfl) hp (tG (GC J _ _ _) (mF _ (ak jy jX)) rfl) ?_,hg⟩;rw[ZE];unfold n8 at ih;rw[j_]at ih;exact ih
    ·obtain⟨so,oU,y3,y4,ih,hg⟩:=next os fs (some (.int n)) (some (.str t.w)) (by lia) (iH hf) (by
      have hb:cond (decide (t=.lp)) _ (cond (decide (t=.rp)) _ (gJ os.length (ts.drop (n+1))))=true:=hb;rw[decide_eq_false hl,decide_eq_false hr]at hb
      exact hb) (jG ho) (jG jy) mono oR
     exact⟨so,oU,y3,y4,abB eB (acU hl) (aaB hr) ih,hg⟩
theorem abZ{aj:LC}(hj:J[j]?=some (.lst (eh ts)))
  (hl:nZ F O j F 0 [some (.ref j),some (.ref J.length),some (.ref (J.length+1)),none,none] (n8 J [] [])=some (.ok .next,[some (.ref j),some (.ref J.length),some (.ref (J.length+1)),y3,y4],aj)):aq F O RG [.ref j] J=some (.ok (.ref (J.length+1)),aj):=by
 have hq:(J++[Cell.lst []]).length=J.length+1:=bz ..;have hf:jO (.ref j) (fun j'=>jR j' (jm 2 (cR (eI j') (.two 3 4) (aD F O [none] (cq H6 1)) F 0))) [some (.ref j),some (.ref J.length),some (.ref (J++[Cell.lst []]).length),none,none] (J++[.lst []]++[.lst []])=some (.ok .next,[some (.ref j),some (.ref J.length),some (.ref (J.length+1)),y3,y4],aj):=by
  show(match (J++[Cell.lst []]++[Cell.lst []])[j]?.bind i9 with|some _=>_|none=>none)=_;rw[aH,dp (dD hj),hj,hq];show nZ F O j F 0 _ (J++([.lst []]++[.lst []])++[.raw,.raw])=_;rw[aH];exact hl
 exact call_of [.x hf]
end
theorem abY(hF:200000<=F){J:LC}{j:Nat}{ts:List Tok}(dC:ts.length<=50000)(hj:J[j]?=some (.lst (eh ts)))(hb:gJ 0 ts=true) :
  ∃ (c:Cell) (fs:List (Nat×Nat)),ah F ae (k+2) 779 [.ref j] J=some (.ok (.ref (J.length+1)),J++[c,.lst (fs.map iO),.raw,.raw])/\fs.length<=ts.length/\∀ p∈fs,Gp ts p:=by
 obtain⟨os,fs,y3,y4,h,hg⟩:=M8 (F:=F) (O:=ah F ae (k+1)) dC hj ts.length 0 F [] [] none none (fy _) (e_ dC (dN ⋯ hF)) hb (aG _) (aG _) (fun _ h=>nomatch h) (fun _ h=>nomatch h);exact⟨_,fs,abZ (O:=ah F ae (k+1)) hj h,hg⟩
end
section
variable {F k:Nat}
noncomputable def di(s a:Nat)(b c:Int):List V:=[.ref s,.int (a:Nat),.int b,.int c]
structure eG(J:LC)(p s:Nat)(l:List Int)(a:Nat)(b c:Int):Prop where
 pc:J[p]?=some (.lst (di s a b c))
 sc:J[s]?=some (.lst (l.map V.int))
 len:l.length<=1000
section
variable {J:LC}{p s a:Nat}{l:List Int}{b c:Int}
theorem eG.ne(h:eG J p s l a b c):p≠s:=fun e=>by
 have h1:=h.pc;rw[e,h.sc]at h1;have h2:l.map V.int=di s a b c:=by injection h1 with h1;injection h1
 cases l with
 |nil=>cases h2
 |cons x l=>injection h2 with h2;cases h2
theorem eG.lt(h:eG J p s l a b c):p<J.length:=dD h.pc
theorem eG.set(h:eG J p s l a b c)(a':Nat)(b':Int):eG (J.set p (.lst (di s a' b' c))) p s l a' b' c:=
 ⟨by rw[d0 h.lt],by rw[bW h.ne];exact h.sc,h.len⟩
theorem eG.app(h:eG J p s l a b c)(X:LC):eG (J++X) p s l a b c:=⟨by rw[dp h.lt];exact h.pc,by rw[dp (dD h.sc)];exact h.sc,h.len⟩
theorem wU{l:List V}(h:J[j]?=some (.lst l))(hn:n<l.length)(hs:short l=true)(hl:low j v=true):pX (.ref j) (.int (n:Nat)) v J=some (.ok (),J.set j (.lst (l.set n v))):=by
 show bt j (fun l=>aF (decide (0<=(n:Int)/\(n:Int)<l.length/\short l=true/\low j v=true)) fun J=>some (.ok (),J.set j (.lst (l.set (n:Int).toNat v)))) J=_;rw[d8 h,show decide (0<=(n:Int)/\(n:Int)<l.length/\short l=true/\low j v=true)=true from decide_eq_true ⟨y6 n,e8.mpr hn,hs,hl⟩];rfl
theorem Md{n:Nat}(h:n<=1000000):small (n:Int)=true:=decide_eq_true (e_ h ⋯)
theorem NS(h:small y=true):c_ .mul (.int x) (.int y) J=some (.ok (.int (x*y)),J):=by
 show aF (small x||small y) _ J=_;rw[h,vZ];rfl
theorem xm(x:Int){m:Nat}(hm:0<m):∃ g:Nat,g<m/\∀ J,c_ .mod (.int x) (.int (m:Nat)) J=some (.ok (.int (g:Nat)),J):=by
 have qz:(0:Int)<(m:Int):=e8.mpr hm;obtain⟨g,hg⟩:=Int.eq_ofNat_of_zero_le (Int.emod_nonneg x (Int.ne_of_gt qz));refine⟨g,e8.mp (hg▸Int.emod_lt_of_pos x qz),fun J=>?_⟩;show aF (decide (0<(m:Int))) (Ev.ret (V.int (x % m))) J=_;rw[decide_eq_true qz,hg];rfl
theorem Hp(x:Int){m:Nat}(hm:0<m)(h:m<=1000):∃ y:Int,∀ J,c_ .fdiv (.int x) (.int (m:Nat)) J=some (.ok (.int y),J):=by
 refine⟨x / m,fun J=>?_⟩;have h1:(m:Int)<(1073741824:Nat):=e8.mpr (e_ h ⋯);have h2:decide (0<(m:Int)/\(m:Int)<1073741824)=true:=decide_eq_true (And.intro (e8.mpr hm) h1);show aF (decide (0<(m:Int)/\(m:Int)<1073741824)) (Ev.ret (V.int (x / m))) J=_;rw[h2];rfl
theorem abF:∃ B:Int,∀ J,c_ .pow (.int 10) (.int 18) J=some (.ok (.int B),J):=⟨_,fun J=>rfl⟩
theorem V0(x:Int):∃ m:Int,∀ J,cw .abs [.int x] J=some (.ok (.int m),J):=⟨_,fun J=>rfl⟩
end
section
variable {O:ay}{J:LC}{p s a m:Nat}{l:List Int}{b c:Int}
abbrev t6(J:LC)(p s a m:Nat)(c:Int)(o:Out V):Prop:=∃ (g a':Nat) (b':Int),o=some (.ok (.int (g:Nat)),J.set p (.lst (di s a' b' c)))/\g<m/\a'<=a+1
theorem agc(h:eG J p s l a b c)(hm:0<m)(bF:m<=1000)(hb:b>0):t6 J p s a m c (aq F O vz [.ref p,.int (m:Nat)] J):=by
 obtain⟨g,hg,e1⟩:=xm b hm;obtain⟨y,e2⟩:=Hp b hm bF;have i:=iV (i:=2) h.pc rfl rfl;have b0:=dt hb;have st:=wU (n:=2) (v:=.int y) h.pc (bh rfl) rfl rfl;have t:=eu J p (.lst (di s a y c));have e1:=e1 J;have e2:=e2 J;refine⟨g,a,y,?_,hg,i_ a⟩;exact call_of [.v i,.c,.b b0,.v i,.v e1,.v i,.v e2,.u st,.c,.s (eu J p (Cell.lst ((di s a b c).set 2 (V.int y))))]
theorem age(h:eG J p s l a b c)(hm:0<m)(ha:a<=100000)(hb:¬b>0)(hl:l.length<=a):t6 J p s a m c (aq F O vz [.ref p,.int (m:Nat)] J):=by
 have i2:=iV (i:=2) h.pc rfl rfl;have i1:=iV (i:=1) h.pc rfl rfl;have b0:=df hb;have st:=wU (n:=1) (v:=.int ((a:Int)+1)) h.pc (bh rfl) rfl rfl;have h1:=h.set (a+1) b;have i0:=iV (i:=0) h1.pc rfl rfl;have i3:=iV (i:=3) h1.pc rfl rfl;have ln:=uQ h1.sc (mF V.int (ak h.len ⋯));rw[f7]at ln;have b1:=dt (nN.mpr hl:(a:Int)≥(l.length:Int))
 have u1:c_ .mul (.int (c+5)) (.int ((a:Int)+3)) (J.set p (.lst (di s (a+1) b c)))=some (.ok (.int ((c+5)*((a:Int)+3))),J.set p (.lst (di s (a+1) b c))):=NS (Md (n:=a+3) (by lia));have u2:c_ .mul (.int ((c+5)*((a:Int)+3))) (.int ((a:Int)+11)) (J.set p (.lst (di s (a+1) b c)))=some (.ok (.int ((c+5)*((a:Int)+3)*((a:Int)+11))),J.set p (.lst (di s (a+1) b c))):=NS (Md (n:=a+11) (by lia))
 obtain⟨y,e2⟩:=Hp ((c+5)*((a:Int)+3)*((a:Int)+11)) (m:=7) ⋯ ⋯;obtain⟨g,hg,e1⟩:=xm y hm;have e1:=e1 (J.set p (.lst (di s (a+1) b c)));have e2:c_ .fdiv (.int ((c+5)*((a:Int)+3)*((a:Int)+11))) (.int 7) (J.set p (.lst (di s (a+1) b c)))=some (.ok (.int y),J.set p (.lst (di s (a+1) b c))):=e2 _;have t:=eu J p (.lst (di s (a+1) b c));refine⟨g,a+1,b,?_,hg,aG _⟩;exact call_of [.v i2,.c,.b b0,.v i1,.c,.u st,.v i0,.v ln,.c,.b b1,.v i3,.c,.c,.v u1,.c,.v u2,.v e2,.v e1,.c,.s t]
theorem agb(h:eG J p s l a b c)(hm:0<m)(hb:¬b>0)(hx:l[a]?=some x)(hB:∀ J,c_ .pow (.int 10) (.int 18) J=some (.ok (.int B),J))(hq:∀ J,cw .abs [.int x] J=some (.ok (.int q),J))(hs:q<B):t6 J p s a m c (aq F O vz [.ref p,.int (m:Nat)] J):=by
 have i2:=iV (i:=2) h.pc rfl rfl;have i1:=iV (i:=1) h.pc rfl rfl;have b0:=df hb;have st:=wU (n:=1) (v:=.int ((a:Int)+1)) h.pc (bh rfl) rfl rfl;have h1:=h.set (a+1) b;have i0:=iV (i:=0) h1.pc rfl rfl;have ln:=uQ h1.sc (mF V.int (ak h.len ⋯));rw[f7]at ln;have aP:=dD hx;have b1:=df (fun e=>I4.mpr aP (nN.mp e):¬(a:Int)≥(l.length:Int))
 have ix:=iV (i:=(a:Nat)) (v:=.int x) h1.sc (sP (ak (fH aP) (ak h.len ⋯))) (by rw[CJ,eS,hx];rfl);have hB:=hB (J.set p (.lst (di s (a+1) b c)));have hq:=hq (J.set p (.lst (di s (a+1) b c)));have b2:=dt hs;obtain⟨g,hg,e1⟩:=xm x hm;have e1:=e1 (J.set p (.lst (di s (a+1) b c)));have t:=eu J p (.lst (di s (a+1) b c));refine⟨g,a+1,b,?_,hg,aG _⟩
 clear hs hx;exact call_of [.v i2,.c,.b b0,.v i1,.c,.u st,.v i0,.v ln,.c,.b b1,.v i0,.v ix,.v hq,.v hB,.c,.b b2,.v e1,.c,.s t]
theorem agd(h:eG J p s l a b c)(hm:0<m)(bF:m<=1000)(hb:¬b>0)(hx:l[a]?=some x)(hB:∀ J,c_ .pow (.int 10) (.int 18) J=some (.ok (.int B),J))(hq:∀ J,cw .abs [.int x] J=some (.ok (.int q),J))(hs:¬q<B):t6 J p s a m c (aq F O vz [.ref p,.int (m:Nat)] J):=by
 have i2:=iV (i:=2) h.pc rfl rfl;have i1:=iV (i:=1) h.pc rfl rfl;have b0:=df hb;have st:=wU (n:=1) (v:=.int ((a:Int)+1)) h.pc (bh rfl) rfl rfl;have h1:=h.set (a+1) b;have i0:=iV (i:=0) h1.pc rfl rfl;have ln:=uQ h1.sc (mF V.int (ak h.len ⋯));rw[f7]at ln;have aP:=dD hx;have b1:=df (fun e=>I4.mpr aP (nN.mp e):¬(a:Int)≥(l.length:Int))
 have ix:=iV (i:=(a:Nat)) (v:=.int x) h1.sc (sP (ak (fH aP) (ak h.len ⋯))) (by rw[CJ,eS,hx];rfl);have hB:=hB (J.set p (.lst (di s (a+1) b c)));have hq:=hq (J.set p (.lst (di s (a+1) b c)));have b2:=df hs;obtain⟨w,hw⟩:∃ w:Int,(if x<0 then 1 else 0)=w:=⟨_,rfl⟩;obtain⟨g,hg,e1⟩:=xm (2*(q-B)+w) hm;obtain⟨y,e2⟩:=Hp (2*(q-B)+w) hm bF
 have e1:=e1 (J.set p (.lst (di s (a+1) y c)));have e2:=e2 (J.set p (.lst (di s (a+1) b c)));have s2:pX (.ref p) (.int 2) (.int y) (J.set p (.lst (di s (a+1) b c)))=some (.ok (),J.set p (.lst (di s (a+1) y c))):=(wU (n:=2) (v:=.int y) h1.pc (bh rfl) rfl rfl).trans (by rw[pq];rfl);have t:=eu J p (.lst (di s (a+1) y c));refine⟨g,a+1,y,?_,hg,aG _⟩
 clear hs hx;by_cases hn:x<0
 ·rw[if_pos hn]at hw;subst hw;have b3:=dt hn;exact call_of [.v i2,.c,.b b0,.v i1,.c,.u st,.v i0,.v ln,.c,.b b1,.v i0,.v ix,.v hq,.v hB,.c,.b b2,.v hq,.v hB,.c,.c,.c,.b b3,.c,.v e2,.u s2,.v e1,.c,.s t]
 ·rw[if_neg hn]at hw;subst hw;have b3:=df hn;exact call_of [.v i2,.c,.b b0,.v i1,.c,.u st,.v i0,.v ln,.c,.b b1,.v i0,.v ix,.v hq,.v hB,.c,.b b2,.v hq,.v hB,.c,.c,.c,.b b3,.c,.v e2,.u s2,.v e1,.c,.s t]
end
theorem yA{J:LC}{p s a m:Nat}{l:List Int}{b c:Int}(h:eG J p s l a b c)(hm:0<m)(bF:m<=1000)(ha:a<=100000):t6 J p s a m c (ah F ae (k+2) 730 [.ref p,.int (m:Nat)] J):=by
 show t6 J p s a m c (aq F (ah F ae (k+1)) vz [.ref p,.int (m:Nat)] J);by_cases hb:b>0
 ·exact agc h hm bF hb
 ·cases hx:l[a]? with
  |none=>exact age h hm ha hb (pC.mp hx)
  |some x=>
   obtain⟨B,hB⟩:=abF;obtain⟨q,hq⟩:=V0 x;by_cases hs:q<B
   ·exact agb h hm hb hx hB hq hs
   ·exact agd h hm bF hb hx hB hq hs
end
section
variable {F k:Nat}
def pz(J:LC)(p s:Nat)(c:Int)(a:Nat)(b:Int):LC:=J.set p (.lst (di s a b c))
theorem mJ(J:LC)(p s:Nat)(c:Int)(a a':Nat)(b b':Int):pz (pz J p s c a b) p s c a' b'=pz J p s c a' b':=pq ..
noncomputable def ZL:List Sd:=[.A,.n5,.m5,.Z,.nB,.pr]
abbrev uq:List V:=ZL.map fun s=>s.e.v
theorem Y0:∀ {g:Nat},g<6->∃ s:Sd,uq[g]?=some s.e.v
 |0=>fun _=>⟨.A,rfl⟩
 |1=>fun _=>⟨.n5,rfl⟩
 |2=>fun _=>⟨.m5,rfl⟩
 |3=>fun _=>⟨.Z,rfl⟩
 |4=>fun _=>⟨.nB,rfl⟩
 |5=>fun _=>⟨.pr,rfl⟩
 |g+6=>fun h=>absurd h (by lia)
section
variable {O:ay}{J aa aj:LC}{p s a:Nat}{l:List Int}{b c:Int}
theorem eG.z(h:eG J p s l a b c)(a':Nat)(b':Int):eG (pz J p s c a' b') p s l a' b' c:=h.set a' b'
theorem Zo{x:V}(hd:O 730 [.ref p,.int 6] (J++[.lst uq])=some (.ok (.int (g:Nat)),aa))(hi:eM (.ref J.length) (.int (g:Nat)) aa=some (.ok x,aa))(e1:low J.length x=true)(t:aa.take J.length=aj):aq F O RC [.ref p] J=some (.ok x,aj):=by
 exact call_of [.v hd,.v hi,.b e1,.s t]
inductive wo(J:LC)(p s:Nat)(c:Int)(n:Nat)(X:V->Prop)(o:Out V):Prop
 |mk (v:V) (a':Nat) (b':Int) (h1:o=some (.ok v,pz J p s c a' b')) (h2:X v) (h3:a'<=n)
def O1(v:V):Prop:=∃ s:Sd,v=s.e.v
theorem Mj(h:eG J p s l a b c)(ha:a<=100000):wo J p s c (a+1) O1 (ah F ae (k+3) 758 [.ref p] J):=by
 obtain⟨g,a',b',e,hg,hl⟩:=yA (F:=F) (k:=k) (h.app [.lst uq]) (m:=6) ⋯ ⋯ ha;obtain⟨x,hx⟩:=Y0 hg;have hp:=h.lt;rw[q6 _ _ hp]at e;have hn:(J.set p (Cell.lst (di s a' b' c))++[Cell.lst uq])[J.length]?=some (.lst uq):=by
  have:=bx (l:=J.set p (Cell.lst (di s a' b' c))) (a:=Cell.lst uq);rwa[ef]at this
 exact⟨x.e.v,a',b',Zo (O:=ah F ae (k+2)) e (iV hn (sP (ak (fH hg) ⋯)) hx) (x.e.low _) (je J p _ _),⟨x,rfl⟩,hl⟩
theorem afm(h:g<2):∃ y:Bool,∀ J,eM (.str [88,89]) (.int (g:Nat)) J=some (.ok (.str [cond y 89 88]),J):=by
 cases g with
 |zero=>exact⟨false,fun _=>rfl⟩
 |succ g=>
  cases g with
  |zero=>exact⟨true,fun _=>rfl⟩
  |succ g=>
   exact absurd h (fG.mpr (j9 2 g))
theorem agp(h:g<3):∃ x:Cw,∀ J,eM (.tup [(.str [78,85,77,69,82,73,67]),(.str [65,76,80,72,65,66,69,84,73,67]),(.str [65,76,80,72,65,66,69,84,73,67,45,76,79,87,69,82])]) (.int (g:Nat)) J=some (.ok (.str x.tk.w),J):=by
 cases g with
 |zero=>exact⟨.rq,fun _=>rfl⟩
 |succ g=>
  cases g with
  |zero=>exact⟨.rI,fun _=>rfl⟩
  |succ g=>
   cases g with
   |zero=>exact⟨.rJ,fun _=>rfl⟩
   |succ g=>
    exact absurd h (fG.mpr (j9 3 g))
theorem XH(h:g<3):∃ x:Sw,∀ J,eM (.tup [(.str [80,79,83,73,84,73,86,69]),(.str [78,69,71,65,84,73,86,69]),(.str [90,69,82,79])]) (.int (g:Nat)) J=some (.ok (.str x.tk.w),J):=by
 cases g with
 |zero=>exact⟨.ri,fun _=>rfl⟩
 |succ g=>
  cases g with
  |zero=>exact⟨.rA,fun _=>rfl⟩
  |succ g=>
   cases g with
   |zero=>exact⟨.hV,fun _=>rfl⟩
   |succ g=>
    exact absurd h (fG.mpr (j9 3 g))
theorem aaz(h:g<6):∃ x:Rs,∀ J,eM (.tup [(.str [61]),(.str [60]),(.str [62]),(.str [60,61]),(.str [62,61]),(.str [60,62])]) (.int (g:Nat)) J=some (.ok (.str x.w),J):=by
 cases g with
 |zero=>exact⟨.eq,fun _=>rfl⟩
 |succ g=>
  cases g with
  |zero=>exact⟨.lt,fun _=>rfl⟩
  |succ g=>
   cases g with
   |zero=>exact⟨.gt,fun _=>rfl⟩
   |succ g=>
    cases g with
    |zero=>exact⟨.le,fun _=>rfl⟩
    |succ g=>
     cases g with
     |zero=>exact⟨.ge,fun _=>rfl⟩
     |succ g=>
      cases g with
      |zero=>exact⟨.ne,fun _=>rfl⟩
      |succ g=>
       exact absurd h (fG.mpr (j9 6 g))
inductive Way(O:ay)(J:LC)(p:Nat)(w:Int)(aa:LC):Int->Prop where
 |top (n:Int) (h:n>0) (hd:O 730 [.ref p,.int 7] J=some (.ok (.int w),aa)):Way O J p w aa n
 |low (g:Int) (e:3+g=w) (hd:O 730 [.ref p,.int 4] J=some (.ok (.int g),aa)):Way O J p w aa 0
variable {n:Int}{p:Nat}{x:V}{w:List Nat}{bo:LC}
theorem WI(hw:Way O J p 3 aa n)(hd:O 730 [.ref p,.int 2] aa=some (.ok (.int g),aj))(hi:eM (.str [88,89]) (.int g) aj=some (.ok (.str [cond y 89 88]),aj))(t:aj.take J.length=aj):aq F O nv [.ref p,.int n] J=some (.ok (D.lf (.named y)).v,aj):=by
 have e:(D.lf (.named y)).v=.tup [.str [110,97,109,101,100],.tup [.str [114,101,102],.str [70,cond y 89 88],.tup [],.tup [],.none]]:=by cases y<;>rfl
 rw[e];cases hw with
 |top _ h h0=>
  have b:=dt h;exact call_of [.c,.b b,.v h0,.c,.c,.c,.c,.c,.c,.v hd,.v hi,.c,.c,.s t]
 |low g0 e h0=>
  obtain rfl:g0=0:=by lia
  exact call_of [.c,.c,.v h0,.c,.c,.c,.c,.c,.c,.c,.v hd,.v hi,.c,.c,.s t]
theorem WJ(hw:Way O J p 4 aa n)(hd:O 730 [.ref p,.int 3] aa=some (.ok (.int g),aj))(hi:∀ J,eM (.tup [(.str [78,85,77,69,82,73,67]),(.str [65,76,80,72,65,66,69,84,73,67]),(.str [65,76,80,72,65,66,69,84,73,67,45,76,79,87,69,82])]) (.int g) J=some (.ok (.str z.tk.w),J))(t:aj.take J.length=aj) :
  aq F O nv [.ref p,.int n] J=some (.ok (D.lf (.cls z)).v,aj):=by
 have hi:=hi aj;cases hw with
 |top _ h h0=>
  have b:=dt h;exact call_of [.c,.b b,.v h0,.c,.c,.c,.c,.c,.c,.c,.c,.v hd,.v hi,.c,.s t]
 |low g0 e h0=>
  obtain rfl:g0=1:=by lia
  exact call_of [.c,.c,.v h0,.c,.c,.c,.c,.c,.c,.c,.c,.c,.v hd,.v hi,.c,.s t]
theorem WE(hw:Way O J p 5 aa n)(hd:O 730 [.ref p,.int 3] aa=some (.ok (.int g),aj))(hi:∀ J,eM (.tup [(.str [80,79,83,73,84,73,86,69]),(.str [78,69,71,65,84,73,86,69]),(.str [90,69,82,79])]) (.int g) J=some (.ok (.str z.tk.w),J))(hs:O 758 [.ref p] aj=some (.ok y.e.v,bo))(t:bo.take J.length=bo) :
  aq F O nv [.ref p,.int n] J=some (.ok (D.lf (.sgn z y)).v,bo):=by
 have hi:=hi aj;have e1:=(D.lf (.sgn z y)).low J.length;cases hw with
 |top _ h h0=>
  have b:=dt h;exact call_of [.c,.b b,.v h0,.c,.c,.c,.c,.c,.c,.c,.c,.c,.c,.v hd,.v hi,.v hs,.b e1,.s t]
 |low g0 e h0=>
  obtain rfl:g0=2:=by lia
  exact call_of [.c,.c,.v h0,.c,.c,.c,.c,.c,.c,.c,.c,.c,.c,.c,.v hd,.v hi,.v hs,.b e1,.s t]
theorem WG(hw:Way O J p 6 aa n)(hd:O 730 [.ref p,.int 6] aa=some (.ok (.int g),aj))(hi:∀ J,eM (.tup [(.str [61]),(.str [60]),(.str [62]),(.str [60,61]),(.str [62,61]),(.str [60,62])]) (.int g) J=some (.ok (.str z.w),J))(hs:O 758 [.ref p] aj=some (.ok y1.e.v,bo))
  (gw:O 758 [.ref p] bo=some (.ok y2.e.v,dP)) (t:dP.take J.length=dP):aq F O nv [.ref p,.int n] J=some (.ok (D.lf (.rel z y1 y2)).v,dP):=by
 have hi:=hi aj;have e1:=(D.lf (.rel z y1 y2)).low J.length;cases hw with
 |top _ h h0=>
  have b:=dt h;exact call_of [.c,.b b,.v h0,.c,.c,.c,.c,.c,.c,.c,.c,.c,.c,.v hd,.v hi,.v hs,.v gw,.b e1,.s t]
 |low g0 e h0=>
  obtain rfl:g0=3:=by lia
  exact call_of [.c,.c,.v h0,.c,.c,.c,.c,.c,.c,.c,.c,.c,.c,.c,.v hd,.v hi,.v hs,.v gw,.b e1,.s t]
theorem WH(h:n>0)(h0:O 730 [.ref p,.int 7] J=some (.ok (.int 2),aa))(hd:O 765 [.ref p,.int (n-1)] aa=some (.ok d.v,aj))(t:aj.take J.length=aj):aq F O nv [.ref p,.int n] J=some (.ok (D.not d).v,aj):=by
 have b:=dt h;have e1:=(D.not d).low J.length;exact call_of [.c,.b b,.v h0,.c,.c,.c,.c,.c,.v hd,.b e1,.s t]
theorem KI(h:n>0)(h0:O 730 [.ref p,.int 7] J=some (.ok (.int (cond o 0 1)),aa))(hd:O 765 [.ref p,.int (n-1)] aa=some (.ok d1.v,aj))(hd2:O 765 [.ref p,.int (n-1)] aj=some (.ok d2.v,bo))(t:bo.take J.length=bo) :
  aq F O nv [.ref p,.int n] J=some (.ok (D.bin o d1 d2).v,bo):=by
 have b:=dt h;have e1:=(D.bin o d1 d2).low J.length;cases o with
 |true=>exact call_of [.c,.b b,.v h0,.c,.c,.c,.v hd,.c,.c,.v hd2,.b e1,.s t]
 |false=>exact call_of [.c,.b b,.v h0,.c,.c,.c,.v hd,.c,.c,.v hd2,.b e1,.s t]
end
end
section
variable {F k:Nat}
noncomputable def dr:Nat->Nat
 |0=>4
 |n+1=>2*dr n+5
def AY(n:Nat)(v:V):Prop:=∃ d:D,v=d.v/\d.ht<=n
section
variable {J:LC}{p s a:Nat}{l:List Int}{b c:Int}
theorem rN(J:LC)(p s:Nat)(c:Int)(a:Nat)(b:Int):(pz J p s c a b).take J.length=pz J p s c a b:=eu ..
theorem Oe{O:ay}(h:eG (pz J p s c a b) p s l a b c)(ha:a<=10000)(hw:Way O J p (w:Nat) (pz J p s c a b) n)(h3:3<=w)(h7:w<7)
  (hd:∀ (a:Nat) (b:Int) (m:Nat),eG (pz J p s c a b) p s l a b c->0<m->m<=1000->a<=100000->t6 (pz J p s c a b) p s a m c (O 730 [.ref p,.int (m:Nat)] (pz J p s c a b)))
  (hs:∀ (a:Nat) (b:Int),eG (pz J p s c a b) p s l a b c->a<=100000->wo (pz J p s c a b) p s c (a+1) O1 (O 758 [.ref p] (pz J p s c a b))):wo J p s c (a+3) (AY 0) (aq F O nv [.ref p,.int n] J):=by
 have P:∀ (a':Nat) (b':Int),eG (pz J p s c a' b') p s l a' b' c:=fun a' b'=>by have:=h.z a' b';rwa[mJ]at this
 have hd:=fun a b m=>hd a b m (P a b);have hs:=fun a b=>hs a b (P a b);obtain rfl|rfl|rfl|rfl:w=3∨w=4∨w=5∨w=6:=by lia
 ·obtain⟨g,a1,b1,e,hg,hl⟩:=hd a b 2 ⋯ ⋯ (by lia);rw[show(pz J p s c a b).set p (.lst (di s a1 b1 c))=pz J p s c a1 b1 from mJ ..]at e;obtain⟨y,hy⟩:=afm hg;exact⟨_,a1,b1,WI hw e (hy _) (rN ..),⟨.lf (.named y),rfl,aG _⟩,by lia⟩
 ·obtain⟨g,a1,b1,e,hg,hl⟩:=hd a b 3 ⋯ ⋯ (by lia);rw[show(pz J p s c a b).set p (.lst (di s a1 b1 c))=pz J p s c a1 b1 from mJ ..]at e;obtain⟨y,hy⟩:=agp hg;exact⟨_,a1,b1,WJ hw e hy (rN ..),⟨.lf (.cls y),rfl,aG _⟩,by lia⟩
 ·obtain⟨g,a1,b1,e,hg,hl⟩:=hd a b 3 ⋯ ⋯ (by lia);rw[show(pz J p s c a b).set p (.lst (di s a1 b1 c))=pz J p s c a1 b1 from mJ ..]at e;obtain⟨y,hy⟩:=XH hg;obtain⟨_,a2,b2,e2,⟨x,rfl⟩,gX⟩:=hs a1 b1 (by lia);rw[mJ]at e2;exact⟨_,a2,b2,WE hw e hy e2 (rN ..),⟨.lf (.sgn y x),rfl,aG _⟩,by lia⟩
 ·obtain⟨g,a1,b1,e,hg,hl⟩:=hd a b 6 ⋯ ⋯ (by lia);rw[show(pz J p s c a b).set p (.lst (di s a1 b1 c))=pz J p s c a1 b1 from mJ ..]at e;obtain⟨y,hy⟩:=aaz hg;obtain⟨_,a2,b2,e2,⟨x,rfl⟩,gX⟩:=hs a1 b1 (by lia);rw[mJ]at e2;obtain⟨_,a3,b3,e3,⟨x3,rfl⟩,xP⟩:=hs a2 b2 (by lia);rw[mJ]at e3;exact⟨_,a3,b3,WG hw e hy e2 e3 (rN ..),⟨.lf (.rel y x x3),rfl,aG _⟩,by lia⟩
theorem agt:∀ (n L:Nat) (J:LC) (a:Nat) (b:Int),n+4<=L->eG J p s l a b c->a+dr n<=5000->wo J p s c (a+dr n) (AY n) (ah F ae L 765 [.ref p,.int (n:Nat)] J):=by
 intro n;induction n with
 |zero=>
  intro L J a b hL h ha;obtain⟨k,rfl⟩:∃ k,L=k+4:=⟨L-4,by lia⟩;show wo J p s c (a+4) (AY 0) (aq F (ah F ae (k+3)) nv [.ref p,.int 0] J);obtain⟨g,a1,b1,e,hg,hl⟩:=yA (F:=F) (k:=k+1) h (m:=4) ⋯ ⋯ (by lia);have ha:a+4<=5000:=ha;obtain⟨v,a',b',e',hv,cD⟩:=Oe (F:=F) (O:=ah F ae (k+3)) (w:=3+g) (h.z a1 b1) (by lia) (.low (g:Int) (by lia) e) (by lia) (by lia) (fun a b m P=>yA (k:=k+1) P) (fun a b P=>Mj (k:=k) P)
  exact⟨v,a',b',e',hv,by lia⟩
 |succ n ih=>
  intro L J a b hL h ha;obtain⟨k,rfl⟩:∃ k,L=k+4:=⟨L-4,by lia⟩;have hdr:dr (n+1)=2*dr n+5:=rfl;have Bk:((n+1:Nat):Int)>0:=by lia
  have jX:((n+1:Nat):Int)-1=(n:Nat):=by lia
  show wo J p s c (a+dr (n+1)) (AY (n+1)) (aq F (ah F ae (k+3)) nv [.ref p,.int ((n+1:Nat):Int)] J);obtain⟨g,a1,b1,e,hg,hl⟩:=yA (F:=F) (k:=k+1) h (m:=7) ⋯ ⋯ (by lia);have ih:=fun J a b=>ih (k+3) J a b (by lia);by_cases h3:3<=g
  ·obtain⟨v,a',b',e',⟨d,rfl,hd⟩,cD⟩:=Oe (F:=F) (O:=ah F ae (k+3)) (h.z a1 b1) (by lia) (.top _ Bk e) h3 hg (fun a b m P=>yA (k:=k+1) P) (fun a b P=>Mj (k:=k) P);exact⟨d.v,a',b',e',⟨d,rfl,ak hd (dc _)⟩,by lia⟩
  ·obtain⟨_,a2,b2,e2,⟨d1,rfl,h1⟩,gX⟩:=ih _ a1 b1 (h.z a1 b1) (by lia);rw[mJ,<-jX]at e2;by_cases h2:g=2
   ·subst h2;exact⟨_,a2,b2,WH Bk e e2 (rN ..),⟨.not d1,rfl,cg h1⟩,by lia⟩
   ·obtain⟨_,a3,b3,e3,⟨d2,rfl,qH⟩,xP⟩:=ih _ a2 b2 (h.z a2 b2) (by lia);rw[mJ,<-jX]at e3;obtain rfl|rfl:g=0∨g=1:=by lia
    ·exact⟨_,a3,b3,KI (o:=true) Bk e e2 e3 (rN ..),⟨.bin true d1 d2,rfl,cg (yY.mpr ⟨h1,qH⟩)⟩,by lia⟩
    ·exact⟨_,a3,b3,KI (o:=false) Bk e e2 e3 (rN ..),⟨.bin false d1 d2,rfl,cg (yY.mpr ⟨h1,qH⟩)⟩,by lia⟩
end
section
variable {O:ay}{J aa aj bo:LC}{x y:Int}{L:V}{i1 i2 i3:Nat}
theorem abR(s1:dA L .none (.int 63) J=some (.ok (.ref i1),aa))(ls:cw .list [.ref i1] aa=some (.ok (.ref i2),aj))(s2:dA L .none (.int 63) aj=some (.ok (.ref i3),bo))(sm:O 1000001 [.ref i3] bo=some (.ok (.int x),bo))(ab:cw .abs [.int x] bo=some (.ok (.int y),bo))
  (md:c_ .mod (.int y) (.int 1009) bo=some (.ok (.int g),bo)):aq F O RF [L] J=some (.ok (.ref bo.length),bo++[.lst (di i2 0 0 g)]):=by
 exact call_of [.v s1,.v ls,.v s2,.v sm,.v ab,.v md]
theorem OJ:∀ l:List Int,oB (l.map V.int)=some l
 |[]=>rfl
 |x :: r=>by show(oB (r.map V.int)).map (x :: ·)=_;rw[OJ r];rfl
theorem abQ{l:List Int}(hl:l.length<=63)(J:LC):∃ (c:Int) (τ:LC) (p s:Nat),ah F ae (k+3) 737 [.eC (l.map V.int)] J=some (.ok (.ref p),τ)/\eG τ p s l 0 0 c:=by
 have hs:short (l.map V.int)=true:=mF _ (ak hl ⋯);have hc:cut (l.map V.int) 0 63=l.map V.int:=k7 (by rw[f7];exact hl);have sl:∀ J,dA (.eC (l.map V.int)) .none (.int 63) J=some (.ok (.ref J.length),J++[.lst (l.map V.int)]):=fun J=>by
  show aF (short (l.map V.int)) (fun J=>some (.ok (V.ref J.length),J++[Cell.lst (cut (l.map V.int) 0 63)])) J=_;rw[hs,hc];rfl
 have ls:cw .list [.ref J.length] (J++[.lst (l.map V.int)])=some (.ok (.ref (J++[Cell.lst (l.map V.int)]).length),J++[Cell.lst (l.map V.int)]++[Cell.lst (l.map V.int)]):=by
  show bt J.length mY _=_;rw[d8 bx];show aF (short (l.map V.int)) _ _=_;rw[hs];rfl
 have sm:∀ J:LC,ah F ae (k+2) 1000001 [.ref J.length] (J++[.lst (l.map V.int)])=some (.ok (.int l.sum),J++[.lst (l.map V.int)]):=fun J=>by
  show bt J.length (fun l=>aS (oB l) fun ns=>Ev.ret (V.int ns.sum)) _=_;rw[d8 bx,OJ];rfl
 obtain⟨y,hy⟩:=V0 l.sum;obtain⟨g,_,hg⟩:=xm y (m:=1009) ⋯;have e:=abR (F:=F) (O:=ah F ae (k+2)) (sl J) ls (sl _) (sm _) (hy _) (hg _);refine⟨(g:Int),_,_,(J++[Cell.lst (l.map V.int)]).length,e,⟨bx,?_,ak hl ⋯⟩⟩;rw[aH,aH];exact jz ..
end
end
section
variable {F k:Nat}
def bc(S:List Lf):List V:=S.map fun l=>l.c.v
def isIn(f:List Lf)(x:Lf):Bool:=f.any fun y=>dz y.c.v x.c.v
def eF(f g:List Lf):List Lf:=f++g.filter fun x=>!isIn f x
noncomputable def simp:D->List Lf
 |.lf l=>[iT l]
 |.not d=>eF [] (simp d)
 |.bin _ a b=>eF (eF [] (simp a)) (simp b)
theorem su:∀ e:E,cU e.v=true
 |.ref t=>rfl
 |.num i=>rfl
 |.zero=>rfl
 |.neg a=>sD (su a)
 |.bin o a b=>lN (su a) (su b)
theorem kC:∀ c:C,cU c.v=true
 |.named t=>rfl
 |.cls t e=>sD (su e)
 |.sgn t e=>sD (su e)
 |.rel s a b=>lN (su a) (su b)
 |.not c=>sD (kC c)
 |.and a b=>lN (kC a) (kC b)
 |.or a b=>lN (kC a) (kC b)
theorem Sd.dep(s:Sd):cZ s.e.v<=5:=by cases s<;>exact bh rfl
theorem mx{a b n:Nat}(h:a<=n)(h':b<=n):max a b<=n:=yY.mpr ⟨h,h'⟩
theorem Lf.dep:∀ l:Lf,cZ l.c.v<=6
 |.named y=>bh rfl
 |.cls x=>bh rfl
 |.sgn x s=>cg (mx (dc _) (mx (dc _) (mx s.dep (dc _))))
 |.rel r a b=>cg (mx (dc _) (mx (dc _) (mx a.dep (mx b.dep (dc _)))))
theorem D.dep:∀ d:D,cZ d.v<=d.ht+6
 |.lf l=>l.dep
 |.not d=>ak (cg (mx (dc _) (mx d.dep (dc _)))) (eR (vS d.ht 6 1))
 |.bin o a b=>by
  have h1:cZ a.v<=max a.ht b.ht+6:=ak a.dep (f9 (jD _ _) 6);have h2:cZ b.v<=max a.ht b.ht+6:=ak b.dep (f9 (jC _ _) 6);refine ak ?_ (eR (vS (max a.ht b.ht) 6 1));cases o<;>exact cg (mx (dc _) (mx h1 (mx h2 (dc _))))
theorem Az:∀ S:List Lf,fS (bc S)=true
 |[]=>rfl
 |l :: S=>by show(cU l.c.v&&fS (bc S))=true;rw[kC,Az S];rfl
theorem Pb(x:Lf)(S:List Lf):ir x.c.v (bc S)=some (isIn S x):=by
 unfold ir;rw[Az,kC,decide_eq_true (ak (tJ _ _) (ak x.dep ⋯:_<=90))];show some ((S.map fun l=>l.c.v).any fun y=>dz y x.c.v)=_;rw[List.any_map];rfl
theorem OL(f:List Lf):∀ g:List Lf,m9 (bc f) (bc g)=some (bc (g.filter fun x=>!isIn f x))
 |[]=>rfl
 |x :: g=>by
  show((ir x.c.v (bc f)).bind fun b=>(m9 (bc f) (bc g)).bind fun l=>some (if b then l else x.c.v :: l))=_;rw[Pb,OL f g,Iq];cases isIn f x<;>rfl
theorem wd(f g:List Lf):(eF f g).length<=f.length+g.length:=by
 unfold eF;rw[bz];exact tY (List.length_filter_le _ _) _
theorem rW:∀ d:D,(simp d).length<=2 ^ d.ht
 |.lf l=>aG _
 |.not d=>by
  have h:=wd [] (simp d);have h2:=rW d;show(eF [] (simp d)).length<=2 ^ (d.ht+1);rw[tP,fy]at h;exact ak h (ak h2 (q8 ⋯ (i_ _)))
 |.bin o a b=>by
  have h1:=wd (eF [] (simp a)) (simp b);have h2:=wd [] (simp a);rw[tP,fy]at h2;have h3:=ak (rW a) (q8 ⋯ (jD a.ht b.ht):_<=2 ^ max a.ht b.ht);have h4:=ak (rW b) (q8 ⋯ (jC a.ht b.ht):_<=2 ^ max a.ht b.ht);show(eF (eF [] (simp a)) (simp b)).length<=2 ^ (max a.ht b.ht+1)
  rw[Ik];lia
section
variable {O:ay}{J aa aj:LC}
theorem ach{α:Type}{m:Ev α}{a:α}(h:m J=some (.ok a,aa)):sv m J=some (.ok a,aa):=by unfold sv;rw[h];rfl
theorem bind_eq{α β:Type}{m:Ev α}{f:α->Ev β}{a:α}(h:m J=some (.ok a,aa)):m.bind f J=f a aa:=by unfold Ev.bind;rw[h]
theorem Dt(hx:O 784 [p] J=some (.ok (.ref jx),aa))(h1:aa[jx]?=some (.lst (bc g)))(h2:aa[jf]?=some (.lst (bc f)))(hl:(eF f g).length<=100000)(hg:g.length<=100000) :
  kz O (p :: r) (.ref jf) J=kz O r (.ref (aa++[Cell.lst (bc (g.filter fun x=>!isIn f x))]).length) (aa++[.lst (bc (g.filter fun x=>!isIn f x))]++[.lst (bc (eF f g))]):=by
 have hc:yE (.ref jx) (.ref jf) aa=some (.ok (.ref aa.length),aa++[.lst (bc (g.filter fun x=>!isIn f x))]):=by
  show bt jx (fun a=>bt jf fun b=>aF (short a) (aS (m9 b a) fun l J=>some (.ok (V.ref J.length),J++[Cell.lst l]))) aa=_;rw[d8 h1,d8 h2,OL,show short (bc g)=true from mF _ hg];rfl
 have ha:=Ki (J:=aa++[.lst (bc (g.filter fun x=>!isIn f x))]) (i:=jf) (j:=aa.length) (a:=bc f) (b:=bc (g.filter fun x=>!isIn f x)) (by rw[dp (dD h2)];exact h2) bx (by
  unfold bc;rw[<-j_];exact mF _ hl)
 have he:bc f++bc (g.filter fun x=>!isIn f x)=bc (eF f g):=(j_ ..).symm;rw[he]at ha;show((sv (O 784 [p])).bind fun x=>(yE x (.ref jf)).bind fun y=>(c_ .add (.ref jf) y).bind fun j'=>kz O r j') J=_;rw[bind_eq (ach hx),bind_eq hc,bind_eq ha]
inductive k9(J:LC)(S:List Lf)(o:Out V):Prop
 |mk (X:LC) (j:Nat) (h1:o=some (.ok (.ref j),J++X)) (h2:(J++X)[j]?=some (.lst (bc S)))
theorem k9.of{S:List Lf}{o:Out V}(Z:LC)(h:o=some (.ok (.ref (J++Z).length),J++Z++[Cell.lst (bc S)])):k9 J S o:=
 ⟨Z++[Cell.lst (bc S)],(J++Z).length,by rw[<-aH];exact h,by rw[<-aH];exact bx⟩
theorem Zc(hk:∀ J,O 791 [l.c.v] J=some (.ok (.tup [(iT l).c.v,.bool (oD l)]),J)):k9 J [iT l] (aq F O yn [l.c.v] J):=by
 have hk:=hk (J++[.raw]);refine k9.of [.raw] ?_;cases l with
 |named y=>exact call_of [.c,.c,.c,.v hk,.c]
 |cls x=>exact call_of [.c,.c,.c,.v hk,.c]
 |sgn x s=>exact call_of [.c,.c,.c,.v hk,.c]
 |rel r a b=>exact call_of [.c,.c,.c,.v hk,.c]
theorem Mi(hv:dA v (.int 1) .none (J++[.raw])=some (.ok (.tup l),J++[Cell.raw]))(h:kz O l (.ref (J++[Cell.raw]).length) (J++[.raw]++[.lst [],.raw])=some (.ok (.ref j),τ)):rV O [some v,none,none] (J++[.raw])=some (.ok (.ret (.ref j)),[],τ):=by
 show xh (((dA v (.int 1) .none).bind fun y=>EK y (zR O)) (J++[.raw]))=_;rw[bind_eq hv];show xh (kz O l (.ref (J++[Cell.raw]).length) (J++[.raw]++[.lst [],.raw]))=_;rw[h];rfl
theorem Za{d:D}{S:List Lf}(hS:S.length<=1000)(h:∀ J,k9 J S (O 784 [d.v] J)):k9 J (eF [] S) (aq F O yn [(D.not d).v] J):=by
 obtain⟨X,j,e,hj⟩:=h (J++[.raw]++[.lst [],.raw]);have hf:(J++[.raw]++[.lst [],.raw]++X)[(J++[Cell.raw]).length]?=some (.lst (bc [])):=by rw[aH];exact jz ..
 have s9:S.length<=100000:=ak hS ⋯;have key:=Dt (r:=[]) (f:=[]) e hj hf (ak (wd [] S) (by rw[tP,fy];exact s9)) s9;have hX:=Mi (v:=(D.not d).v) (l:=[d.v]) rfl (key.trans rfl);refine k9.of ([.raw]++[.lst [],.raw]++X++[Cell.lst (bc (S.filter fun x=>!isIn [] x))]) ?_;rw[<-aH J,<-aH J,<-aH J];exact call_of [.c,.c,.c,.x hX]
theorem Zf{o:Bool}{a b:D}{S T:List Lf}(hS:S.length+T.length<=1000)(h:∀ J,k9 J S (O 784 [a.v] J))(h':∀ J,k9 J T (O 784 [b.v] J)):k9 J (eF (eF [] S) T) (aq F O yn [(D.bin o a b).v] J):=by
 obtain⟨X,j,e,hj⟩:=h (J++[.raw]++[.lst [],.raw]);have hf:(J++[.raw]++[.lst [],.raw]++X)[(J++[Cell.raw]).length]?=some (.lst (bc [])):=by rw[aH];exact jz ..
 have h1:=wd [] S;rw[tP,fy]at h1;have s9:S.length<=100000:=ak (ak (cL _ _) hS) ⋯;have ya:T.length<=100000:=ak (ak (j9 _ _) hS) ⋯;have key:=Dt (r:=[b.v]) (f:=[]) e hj hf (ak h1 s9) s9;obtain⟨Y,j2,e2,hj2⟩:=h' (J++[.raw]++[.lst [],.raw]++X++[.lst (bc (S.filter fun x=>!isIn [] x))]++[.lst (bc (eF [] S))])
 have vg:(J++[Cell.raw]++[.lst [],.raw]++X++[Cell.lst (bc (S.filter fun x=>!isIn [] x))]++[.lst (bc (eF [] S))]++Y)[(J++[Cell.raw]++[Cell.lst [],Cell.raw]++X++[Cell.lst (bc (S.filter fun x=>!isIn [] x))]).length]?=some (.lst (bc (eF [] S))):=by
  rw[aH _ [_] Y];exact jz ..
 have adQ:=Dt (r:=[]) (f:=eF [] S) e2 hj2 vg (ak (wd _ T) (ak (f9 h1 _) (ak hS ⋯))) ya;have hX:=Mi (v:=(D.bin o a b).v) (l:=[a.v,b.v]) (by cases o<;>rfl) ((key.trans adQ).trans rfl);refine k9.of ([.raw]++[.lst [],.raw]++X++[Cell.lst (bc (S.filter fun x=>!isIn [] x))]++[.lst (bc (eF [] S))]++Y++[Cell.lst (bc (T.filter fun x=>!isIn (eF [] S) x))]) ?_
 rw[<-aH J,<-aH J,<-aH J,<-aH J,<-aH J,<-aH J];cases o with
 |true=>exact call_of [.c,.c,.c,.x hX]
 |false=>exact call_of [.c,.c,.c,.x hX]
end
theorem wL:∀ (d:D) (L:Nat) (J:LC),d.ht<=8->d.ht+3<=L->k9 J (simp d) (ah F ae L 784 [d.v] J)
 |.lf l=>fun L J _ h=>by
  obtain⟨m,rfl⟩:∃ m,L=m+3:=⟨L-3,(pF (ak (j9 3 _) h)).symm⟩;exact Zc (O:=ah F ae (m+2)) fun J=>OI l
 |.not d=>fun L J h8 h=>by
  obtain⟨m,rfl,g⟩:=kG (n:=d.ht+2) h;have h8:=vY h8;exact Za (O:=ah F ae (m+1)) (ak (rW d) (ak (q8 ⋯ h8:_<=2 ^ 8) ⋯)) fun J=>wL d (m+1) J h8 (cg g)
 |.bin o a b=>fun L J h8 h=>by
  obtain⟨m,rfl,g⟩:=kG (n:=max a.ht b.ht+2) h;have h8:=vY h8;have ha:=ak (jD a.ht b.ht) h8;have hb:=ak (jC a.ht b.ht) h8;exact Zf (O:=ah F ae (m+1)) (ak (tO (ak (rW a) (q8 ⋯ ha:_<=2 ^ 8)) (ak (rW b) (q8 ⋯ hb:_<=2 ^ 8))) ⋯)
   (fun J=>wL a (m+1) J ha (cg (ak (f9 (jD _ _) 2) g))) fun J=>wL b (m+1) J hb (cg (ak (f9 (jC _ _) 2) g))
theorem Zh(l:Lf)(b:Bool):simp (uC l b)=[iT l]:=by
 cases b with
 |false=>rfl
 |true=>
  cases l with
  |rel r x y=>cases r<;>rfl
  |_=>rfl
theorem aiP(S:List Lf):eF [] S=S:=by
 unfold eF;exact List.filter_eq_self.mpr fun _ _=>rfl
theorem zS:∀ (d:D) (b:Bool),simp (push d b)=simp d
 |.lf l=>fun b=>Zh l b
 |.not d=>fun b=>(zS d (!b)).trans (aiP _).symm
 |.bin o x y=>fun b=>by show eF (eF [] (simp (push x b))) (simp (push y b))=_;rw[zS x,zS y];rfl
end
noncomputable def fl:Tok->Bool
 |.A|.B|.FX|.FY|.n1|.n5|.hV|.rp|.IS=>true
 |_=>false
noncomputable def kU(t:Tok)(r:List Tok):Bool:=match t with
 |.lp=>false
 |.aV=>decide (r[0]?=some .eq)
 |_=>true
noncomputable def cC:Bool->List Tok->Bool
 |_,[]=>true
 |b,t :: r=>(!b||kU t r)&&cC (fl t) r
structure Good(ps:Pz):Prop where
 b:∀ k r,gJ k (toks ps++r)=gJ k r
 s:∀ r,(∀ b,cC b r=true)->cC false (toks ps++r)=true
 g:∀ r,gd r=true->r_ (txt r)[0]?=true->gd (ps++r)=true
structure C4(m:Pz):Prop where
 b:∀ k r,gJ k (toks m++r)=gJ k r
 s:∀ b r,cC b (toks m++r)=cC false r
 g:∀ r,gd (m++r)=gd r
 c:∀ r,r_ (txt (m++r))[0]?=true
theorem Good.mid{a m b:Pz}(ha:Good a)(hm:C4 m)(hb:Good b):Good (a++(m++b)) where
 b k r:=by rw[d6,d6,aH,aH,ha.b,hm.b,hb.b]
 s r h:=by
  rw[d6,d6,aH,aH];exact ha.s _ fun b=>by rw[hm.s];exact hb.s r h
 g r h h':=by
  rw[aH,aH];exact ha.g _ (by rw[hm.g];exact hb.g r h h') (hm.c _)
theorem Good.br(h:Good d)(b:Bool):Good (fX b d):=by
 cases b with
 |false=>exact h
 |true=>
  show Good ([some .lp]++d++[some .rp]);refine⟨fun k r=>?_,fun r hr=>?_,fun r hr hs=>?_⟩
  ·rw[d6,d6,aH,aH];show gJ (k+1) (toks d++_)=_;rw[h.b];rfl
  ·rw[d6,d6,aH,aH];exact h.s _ fun b=>(by cases b<;>exact hr true:((!b||true)&&cC true r)=true)
  ·rw[aH,aH];have h1:gd ([some .rp]++r)=true:=by
    show(apart .rp (txt r)[0]?&&gd r)=true;rw[hr];unfold apart;rw[hs];rfl
   have h2:=h.g _ h1 rfl;show(apart .lp (txt (d++([some .rp]++r)))[0]?&&gd (d++([some .rp]++r)))=true;rw[h2];unfold apart;exact congrArg (·&&true) (vZ _)
theorem Good.not(h:Good d):Good ([some .aV,none]++d) where
 b k r:=h.b k r
 s r hr:=h.s r hr
 g r hr hs:=h.g r hr hs
theorem Good.one(h1:t≠.lp)(h2:t≠.rp):Good [some t] where
 b k r:=by
  show cond (decide (t=.lp)) _ (cond (decide (t=.rp)) _ (gJ k r))=_;rw[decide_eq_false h1,decide_eq_false h2];rfl
 s r h:=h (fl t)
 g r h hs:=by
  show(apart t (txt r)[0]?&&gd r)=true;rw[h];unfold apart;rw[hs];rfl
theorem uM(h1:t≠.lp)(h2:t≠.rp)(h3:fl t=false)(h4:∀ r,kU t r=true):C4 [none,some t,none] where
 b k r:=by
  show cond (decide (t=.lp)) _ (cond (decide (t=.rp)) _ (gJ k r))=_;rw[decide_eq_false h1,decide_eq_false h2];rfl
 s b r:=by
  show((!b||kU t r)&&cC (fl t) r)=_;rw[h4,h3,vZ];rfl
 g r:=by show(apart t (some 32)&&gd r)=gd r;rfl
 c r:=rfl
theorem Good.is(ha:Good a)(h1:x≠.lp)(h2:x≠.rp)(h4:∀ r,kU x r=true):Good (a++[none,some .IS,none]++[some x]) where
 b k r:=by
  rw[d6,d6,aH,aH,ha.b];show cond (decide (x=.lp)) _ (cond (decide (x=.rp)) _ (gJ k r))=_;rw[decide_eq_false h1,decide_eq_false h2];rfl
 s r h:=by
  rw[d6,d6,aH,aH];refine ha.s _ fun b=>?_;show((!b||true)&&((!true||kU x r)&&cC (fl x) r))=true;rw[h4,h (fl x),vZ];rfl
 g r h hs:=by
  rw[aH,aH];refine ha.g _ ?_ rfl;show(apart x (txt r)[0]?&&gd r)=true;rw[h];unfold apart;rw[hs];rfl
theorem Sd.good(s:Sd):Good s.p:=by
 cases s with
 |A=>exact .one ⋯ ⋯
 |n5=>exact .one ⋯ ⋯
 |Z=>exact .one ⋯ ⋯
 |m5=>exact⟨fun k r=>rfl,fun r h=>h true,fun r h hs=>(by show(apart .n5 (txt r)[0]?&&gd r)=true;rw[h];unfold apart;rw[hs];rfl)⟩
 |nB=>exact⟨fun k r=>rfl,fun r h=>h true,fun r h hs=>(by show(apart .B (txt r)[0]?&&gd r)=true;rw[h];unfold apart;rw[hs];rfl)⟩
 |pr=>exact⟨fun k r=>rfl,fun r h=>h true,fun r h hs=>(by show(apart .B (txt r)[0]?&&gd r)=true;rw[h];unfold apart;rw[hs];rfl)⟩
theorem Lf.good:∀ l:Lf,Good l.p
 |.named y=>by cases y<;>exact .one ⋯ ⋯
 |.cls x=>by
  cases x<;>exact(Good.one (t:=.A) ⋯ ⋯).is ⋯ ⋯ fun _=>rfl
 |.sgn x s=>by
  cases x<;>exact s.good.is ⋯ ⋯ fun _=>rfl
 |.rel r a b=>by
  have hm:C4 ([none]++r.p++[none]):=by
   cases r with
   |ne=>exact⟨fun k r=>rfl,fun b r=>by cases b<;>rfl,fun r=>rfl,fun r=>rfl⟩
   |eq=>exact uM (t:=.eq) ⋯ ⋯ rfl fun _=>rfl
   |lt=>exact uM (t:=.lt) ⋯ ⋯ rfl fun _=>rfl
   |gt=>exact uM (t:=.gt) ⋯ ⋯ rfl fun _=>rfl
   |le=>exact uM (t:=.le) ⋯ ⋯ rfl fun _=>rfl
   |ge=>exact uM (t:=.ge) ⋯ ⋯ rfl fun _=>rfl
  have:=a.good.mid hm b.good;rw[<-aH,<-aH,<-aH]at this;exact this
theorem D.good:∀ d:D,Good d.p
 |.lf l=>l.good
 |.not d=>(d.good.br _).not
 |.bin o a b=>by
  have hm:C4 [none,some (kB o),none]:=by cases o<;>exact uM ⋯ ⋯ rfl fun _=>rfl
  exact(a.good.br _).mid hm (b.good.br _)
theorem EN:∀ (l:List Tok) (b:Bool),cC b l=true->eY l=true
 |[]=>fun _ _=>rfl
 |[t]=>fun _ _=>rfl
 |t :: u :: r=>fun b h=>by
  have h1:=(aM.mp (show((!b||kU t (u :: r))&&cC (fl t) (u :: r))=true from h)).2;show(!(isNm t&&decide (u=.lp))&&eY (u :: r))=true;rw[EN (u :: r) _ h1];by_cases hu:u=.lp
  ·subst hu;have h2:(!fl t||false)=true:=(aM.mp h1).1;cases t<;>first|rfl|exact absurd h2 k6
  ·rw[decide_eq_false hu,Bool.and_false];rfl
theorem D.cC(d:D):Mine.cC false (toks d.p)=true:=by
 have:=d.good.s [] fun _=>rfl;rwa[dM]at this
theorem D.gJ(d:D):Mine.gJ 0 (toks d.p)=true:=by
 have:=d.good.b 0 [];rwa[dM]at this
theorem D.gd(d:D):Mine.gd d.p=true:=by
 have:=d.good.g [] rfl rfl;rwa[dM]at this
theorem agG:∀ p:Option Tok,1<=(chr p).length
 |none=>aG _
 |some t=>by show 1<=t.w.length;rw[ud t];exact iI _
theorem M6:∀ p:Pz,p.length<=(txt p).length
 |[]=>aG _
 |x :: p=>by show p.length+1<=(chr x++txt p).length;rw[bz,v5];exact tO (agG x) (M6 p)
theorem wD:∀ p:Pz,(toks p).length<=p.length
 |[]=>aG _
 |none :: p=>jG (wD p)
 |some t :: p=>cg (wD p)
noncomputable def xo:Tok->Nat
 |.rp=>1|.OR=>2|.lh=>3|_=>4
def En(k:Nat):List Tok->Prop
 |[]=>True
 |t :: _=>xo t<=k
theorem En.hd{q:List Tok}{t:Tok}(h:En k q)(ht:k<xo t):hd t q=none:=by
 cases q with
 |nil=>rfl
 |cons u q=>exact if_neg fun e=>by subst e;exact iG _ (e_ h ht)
theorem En.nx{q:List Tok}(h:En 3 q):qg q=none/\kD q=none:=by
 unfold qg kD;rw[h.hd (by decide:3<xo .star),h.hd (by decide:3<xo .plus),h.hd (by decide:3<xo .minus)];exact⟨rfl,rfl⟩
section
variable {nx:List Tok->Option (Tok×List Tok)}{pg:Pe}{l q r1:List Tok}{e f:E}{t:Tok}
theorem vH(h:pg l=some (e,q))(hn:nx q=none):mQ nx pg l=some (e,q):=by
 show(pg l).bind _=_;rw[h];show(match nx q with|some p=>_|none=>some (e,q))=_;rw[hn]
theorem SU(h:pg l=some (e,t :: r1))(h1:nx (t :: r1)=some (t,r1))(h2:pg r1=some (f,q))(hn:nx q=none):mQ nx pg l=some (.bin t e f,q):=by
 show(pg l).bind _=_;rw[h];show(match nx (t :: r1)with|some p=>(pg p.2).bind fun q=>kA nx pg (r1.length+1) (.bin p.1 e q.1) q.2|none=>some (e,t :: r1))=_;rw[h1];show(pg r1).bind _=_;rw[h2];show(match nx q with|some p=>_|none=>some (E.bin t e f,q))=_;rw[hn]
end
theorem DJ{l:List Tok}(hd:d<=20)(h:mQ kD (n9 (cA n) d) l=x):cA (n+1) d l=x:=(if_neg (fG.mpr hd)).trans h
theorem Nb{M d:Nat}(X:List Tok)(hd:d<=20):cA (M+1) d (.A :: .plus :: .n1 :: .rp :: X)=some (.bin .plus (.ref .A) (.num 1),.rp :: X):=
 DJ hd (SU (vH rfl rfl) rfl (vH rfl rfl) rfl)
theorem Mk(s:Sd){N:Nat}{q:List Tok}(hs:qg q=none)(hp:kD q=none):cA (N+2) 0 (toks s.p++q)=some (s.e,q):=by
 refine DJ (dc _) (vH ?_ hp);cases s with
 |pr=>
  refine SU (r1:=.B :: q) (f:=.ref .B) ?_ rfl rfl hs;show brk (cA (N+1) 1 (.A :: .plus :: .n1 :: .rp :: .star :: .B :: q))=_;rw[Nb _ ⋯];rfl
 |_=>exact vH rfl hs
theorem Zm(s:Sd)(X:List Tok):cY (toks s.p++X)[bQ (toks s.p++X)]?=false:=by cases s<;>rfl
theorem Zn(s:Sd):mZ s.e=none:=by cases s<;>rfl
section
variable {N:Nat}{last:Last}{q:List Tok}
theorem Dq(s:Sd){X:List Tok}(hs:qg X=none)(hp:kD X=none)(h:sj (cA (N+2) 0) last s.e X=o):fg (cA (N+2) 0) last (toks s.p++X)=o:=by
 show cond (cY (toks s.p++X)[bQ (toks s.p++X)]?) _ ((cA (N+2) 0 (toks s.p++X)).bind _)=_;rw[Zm,Mk s hs hp];exact h
theorem DC(s:Sd){X:List Tok}:sj pe last s.e X=cond (jT X[bQ X]?) (mO pe s.e X) ((sG last s.e).map fun c=>(c,last,X)):=by
 show(match mZ s.e with|some t=>_|none=>_)=_;rw[Zn]
theorem ac9(l:Lf)(hq:En 3 q):∃ l',fg (cA (N+2) 0) last (toks l.p++q)=some (l.c,l',q):=by
 obtain⟨h1,h2⟩:=hq.nx;cases l with
 |named y=>
  refine⟨none,?_⟩;have e:cA (N+2) 0 (l_ y :: q)=some (.ref (l_ y),q):=DJ (dc _) (vH (vH (by cases y<;>rfl) h1) h2);show cond (cY (l_ y :: q)[bQ (l_ y :: q)]?) _ ((cA (N+2) 0 (l_ y :: q)).bind _)=_;rw[e];cases y<;>rfl
 |cls x=>exact⟨none,Dq .A (X:=.IS :: x.tk :: q) rfl rfl ((DC .A).trans (by cases x<;>rfl))⟩
 |sgn x s=>
  refine⟨none,?_⟩;have e:toks (Lf.sgn x s).p++q=toks s.p++(.IS :: x.tk :: q):=by
   show toks (s.p++[none,some .IS,none]++[some x.tk])++q=_;rw[d6,d6,aH,aH];rfl
  rw[e];exact Dq s rfl rfl ((DC s).trans (by cases x<;>rfl))
 |rel r a b=>
  refine⟨some (a.e,r),?_⟩;have e:toks (Lf.rel r a b).p++q=toks a.p++(toks r.p++(toks b.p++q)):=by
   show toks (a.p++[none]++r.p++[none]++b.p)++q=_;rw[d6,d6,d6,d6,aH,aH,aH,aH];rfl
  rw[e];have key:(cA (N+2) 0 (toks b.p++q)).map (z_ a.e r)=some (.rel r a.e b.e,some (a.e,r),q):=by rw[Mk b h1 h2];rfl
  exact Dq a (by cases r<;>rfl) (by cases r<;>rfl) ((DC a).trans (Eq.trans (by cases r<;>rfl) key))
end
theorem Gi(l:Lf)(q:List Tok):hd .aV (toks l.p++q)=none/\cY (toks l.p++q)[0]?=false/\(hd .lp (toks l.p++q)=none∨∃ X,hd .lp (toks l.p++q)=some (.A :: .plus :: .n1 :: .rp :: X)):=by
 cases l with
 |named y=>cases y<;>exact⟨rfl,rfl,.inl rfl⟩
 |cls x=>exact⟨rfl,rfl,.inl rfl⟩
 |sgn x s=>cases s<;>first|exact⟨rfl,rfl,.inl rfl⟩|exact⟨rfl,rfl,.inr ⟨_,rfl⟩⟩
 |rel r a b=>cases a<;>first|exact⟨rfl,rfl,.inl rfl⟩|exact⟨rfl,rfl,.inr ⟨_,rfl⟩⟩
theorem NX{t:Tok}{mk:C->C->C}{p:Pc}{dd:Nat}{l:Last}{X:List Tok}(h:p dd l X=none):mP t mk p dd l X=none:=by show(p dd l X).bind _=_;rw[h];rfl
theorem abK{M dd:Nat}(X:List Tok):gS (fC M) dd (.A :: .plus :: .n1 :: .rp :: X)=none:=by
 unfold gS;split
 ·rfl
 ·cases M with
  |zero=>rfl
  |succ M=>
   have e:fg (cA (M+1) 0) none (.A :: .plus :: .n1 :: .rp :: X)=none:=by
    show((cA (M+1) 0 (.A :: .plus :: .n1 :: .rp :: X)).bind fun p=>sj (cA (M+1) 0) none p.1 p.2)=none;rw[Nb X (dc _)];rfl
   have e2:fC (M+1) (dd+1) none (.A :: .plus :: .n1 :: .rp :: X)=none:=NX (NX (p:=uF (cA (M+1) 0) (fC M)) e);rw[e2];rfl
theorem ade(l:Lf){N M dd:Nat}{last:Last}{q:List Tok}(hq:En 3 q):∃ l',fB (cA (N+2) 0) (fC M) dd last (toks l.p++q)=some (l.c,l',q):=by
 obtain⟨l',h⟩:=ac9 (N:=N) (last:=last) l hq;refine⟨l',?_⟩;show(match hd .lp (toks l.p++q)with|some r=>mR (gS (fC M) dd r) (fg (cA (N+2) 0) last (toks l.p++q))|none=>fg (cA (N+2) 0) last (toks l.p++q))=_;rcases(Gi l q).2.2 with h0|⟨X,h0⟩
 ·rw[h0];exact h
 ·rw[h0];show mR (gS (fC M) dd _) _=_;rw[abK];exact h
abbrev pT(M:Nat):Pc:=uF (cA (M+1) 0) (fC M)
abbrev pB(M:Nat):Pc:=mP .lh .and (pT M)
def Ch(t:Tok)(mk:C->C->C)(p:Pc)(dd:Nat)(last:Last)(X:List Tok)(c:C)(q:List Tok):Prop:=∃ l' m,q.length<m/\mP t mk p dd last X=j8 t mk p dd m c l' q
def Lv(M dd:Nat)(last:Last)(X:List Tok)(c:C)(q:List Tok):Nat->Prop
 |4=>∃ l',fB (cA (M+1) 0) (fC M) dd last X=some (c,l',q)
 |3=>∃ l',pT M dd last X=some (c,l',q)
 |2=>Ch .lh .and (pT M) dd last X c q
 |_=>Ch .OR .or (pB M) dd last X c q
section
variable {t:Tok}{mk:C->C->C}{p:Pc}{dd:Nat}{last l':Last}{X q Y:List Tok}{c c2:C}
theorem Ch.one(h:p dd last X=some (c,l',q)):Ch t mk p dd last X c q:=⟨l',q.length+1,eQ _,by show(p dd last X).bind _=_;rw[h];rfl⟩
theorem Ch.fin(h:Ch t mk p dd last X c q)(hq:hd t q=none):∃ l',mP t mk p dd last X=some (c,l',q):=by
 obtain⟨l',m,hm,e⟩:=h;cases m with
 |zero=>exact absurd hm (hJ _)
 |succ m=>
  refine⟨l',e.trans ?_⟩;show(match hd t q with|some r=>_|none=>some (c,l',q))=_;rw[hq]
theorem Ch.step(h:Ch t mk p dd last X c (t :: Y))(hp:∀ l,∃ l',p dd l Y=some (c2,l',q))(hl:q.length<=Y.length):Ch t mk p dd last X (mk c c2) q:=by
 obtain⟨l',m,hm,e⟩:=h;cases m with
 |zero=>exact absurd hm (hJ _)
 |succ m=>
  obtain⟨l2,h2⟩:=hp l';refine⟨l2,m,e_ hl (iH hm),e.trans ?_⟩;show(match (if t=t then some Y else none)with|some r=>(p dd l' r).bind fun x=>j8 t mk p dd m (mk c x.1) x.2.1 x.2.2|none=>some (c,l',t :: Y))=_;rw[if_pos rfl];show(p dd l' Y).bind _=_;rw[h2];rfl
end
section
variable {M dd:Nat}{last:Last}{X q:List Tok}{c:C}
theorem Lv.Sr(h:Lv M dd last X c q 3):∀ k,k<=3->(k<=1->En 2 q)->Lv M dd last X c q k
 |3=>fun _ _=>h
 |2=>fun _ _=>by obtain⟨l',h⟩:=h;exact Ch.one h
 |1=>fun _ hq=>by obtain⟨l',h⟩:=h;obtain⟨l2,h2⟩:=(Ch.one (t:=.lh) (mk:=.and) h).fin ((hq (aG _)).hd ⋯);exact Ch.one h2
 |0=>fun _ hq=>by obtain⟨l',h⟩:=h;obtain⟨l2,h2⟩:=(Ch.one (t:=.lh) (mk:=.and) h).fin ((hq (dc _)).hd ⋯);exact Ch.one h2
 |k+4=>fun h _=>absurd h (by lia)
theorem Lv.WS(h:Lv M dd last X c q 4)(hn:hd .aV X=none):Lv M dd last X c q 3:=by
 obtain⟨l',h⟩:=h;refine⟨l',?_⟩;show(match hd .aV X with|some r=>_|none=>fB (cA (M+1) 0) (fC M) dd last X)=_;rw[hn];exact h
theorem Lv.Sq(h:Lv M dd last X c q 4)(hn:hd .aV X=none)(hk:k<=4)(hq:k<=1->En 2 q):Lv M dd last X c q k:=by
 rcases Vc hk with h1|rfl
 ·exact(h.WS hn).Sr k (CF h1) hq
 ·exact h
end
def Uu(d:D):Prop:=∀ (M dd:Nat) (last:Last) (q:List Tok),d.ht+1<=M->dd+d.ht<=19->En 3 q->(d.st<=1->En 2 q)->Lv M dd last (toks d.p++q) d.c q d.st
theorem Uu.down(hu:Uu d){M dd:Nat}{last:Last}{q:List Tok}(hk:k<=d.st)(hM:d.ht+1<=M)(hd:dd+d.ht<=19)(hq:En 3 q)(iy:k<=1->En 2 q):Lv M dd last (toks d.p++q) d.c q k:=by
 have h:=hu M dd last q hM hd hq fun h=>iy (ak hk h);cases d with
 |lf l=>exact Lv.Sq h (Gi l q).1 hk iy
 |not d=>exact Lv.Sr h k hk iy
 |bin o a b=>
  cases o with
  |true=>
   have h:Ch .lh .and (pT M) dd last _ _ q:=h;have hk:k<=2:=hk;rcases Vc hk with h1|rfl
   ·obtain⟨l2,h2⟩:=h.fin ((iy (CF h1)).hd ⋯)
    match k,h1 with
    |0,_=>exact Ch.one h2
    |1,_=>exact Ch.one h2
   ·exact h
  |false=>
   have h:Ch .OR .or (pB M) dd last _ _ q:=h;have hk:k<=1:=hk
   match k,hk with
   |0,_=>exact h
   |1,_=>exact h
theorem HQ(p:Pz)(q:List Tok):toks (fX true p)++q=.lp :: (toks p++(.rp :: q)):=by
 show toks ([some .lp]++p++[some .rp])++q=_;rw[d6,d6,aH,aH];rfl
theorem Uu.item(hu:Uu d){M dd:Nat}{last:Last}{q:List Tok}(hk:k<=4)(hM:d.ht+2<=M)(hd:dd+d.ht+1<=19)(hq:En 3 q)(iy:k<=1->En 2 q):Lv M dd last (toks (fX (ltB d.st k) d.p)++q) d.c q k:=by
 cases hb:ltB d.st k with
 |false=>exact hu.down (fG.mp (of_decide_eq_false hb)) (vY hM) (vY hd) hq iy
 |true=>
  obtain⟨M,rfl⟩:∃ m,M=m+1:=⟨M-1,(pF (ak (j9 1 _) hM)).symm⟩;have h:Lv M (dd+1) none (toks d.p++(.rp :: q)) d.c (.rp :: q) 1:=hu.down (D.DX d) (tI hM) (by lia) (by decide:1<=3) fun _=>(by decide:1<=2);obtain⟨l',e⟩:=Ch.fin h rfl;have e:fC (M+1) (dd+1) none (toks d.p++(.rp :: q))=some (d.c,l',.rp :: q):=e;rw[HQ];refine Lv.Sq ⟨none,?_⟩ rfl hk iy
  show mR (if 20<=dd then none else B7 (fC (M+1) (dd+1) none (toks d.p++(.rp :: q)))) _=_;rw[if_neg (by lia),e];rfl
theorem Ah:∀ d:D,Uu d
 |.lf l=>fun M dd last q hM hd hq _=>by
  obtain⟨N,rfl⟩:∃ m,M=m+1:=⟨M-1,(pF (ak (j9 1 _) hM)).symm⟩;exact ade l hq
 |.not d=>fun M dd last q hM hd hq _=>by
  obtain⟨l',h⟩:=(Ah d).item (last:=last) (k:=4) (aG _) hM hd hq fun h=>absurd h ⋯;have hr:cY (toks (fX (ltB d.st 4) d.p)++q)[0]?=false:=by
   cases d with
   |lf l=>exact(Gi l q).2.1
   |not d=>show cY (toks (fX true _)++q)[0]?=false;rw[HQ];rfl
   |bin o a b=>rw[show ltB (D.bin o a b).st 4=true by cases o<;>rfl,HQ];rfl
  refine⟨l',?_⟩;show cond (cY (toks (fX (ltB d.st 4) d.p)++q)[0]?) _ ((fB (cA (M+1) 0) (fC M) dd last (toks (fX (ltB d.st 4) d.p)++q)).map uK)=_;rw[hr,h];rfl
 |.bin o a b=>fun M dd last q hM hd hq iy=>by
  have h1:a.ht<=max a.ht b.ht:=jD _ _;have h2:b.ht<=max a.ht b.ht:=jC _ _;have hM:max a.ht b.ht+1+1<=M:=hM;have hd:dd+(max a.ht b.ht+1)<=19:=hd;have e:toks (D.bin o a b).p++q=toks (fX (ltB a.st (ew o)) a.p)++(kB o :: (toks (fX (ltB b.st (ew o+1)) b.p)++q)):=by
   show toks (fX _ a.p++([none]++[some (kB o)]++[none]++fX _ b.p))++q=_;rw[d6,d6,aH,aH];rfl
  have hl:q.length<=(toks (fX (ltB b.st (ew o+1)) b.p)++q).length:=by rw[bz];exact j9 _ _
  rw[e];have A:=fun hq iy=>(Ah a).item (M:=M) (dd:=dd) (last:=last) (q:=kB o :: (toks (fX (ltB b.st (ew o+1)) b.p)++q)) (k:=ew o) (by cases o<;>decide) (by lia) (by lia) hq iy;have B:=fun last iy=>(Ah b).item (M:=M) (dd:=dd) (last:=last) (q:=q) (k:=ew o+1) (by cases o<;>decide) (by lia) (by lia) hq iy;cases o with
  |true=>exact Ch.step (A (aG 3) fun h=>absurd h ⋯) (fun l=>B l fun h=>absurd h ⋯) hl
  |false=>exact Ch.step (A (by decide:2<=3) fun _=>aG 2) (fun l=>Ch.fin (B l fun h=>absurd h ⋯) ((iy (aG _)).hd ⋯)) hl
theorem aa4{d:D}{n:Nat}(hn:d.ht+2<=n)(hh:d.ht<=19):uB n (toks d.p)=some d.c:=by
 obtain⟨n,rfl⟩:∃ m,n=m+1:=⟨n-1,(pF (ak (j9 1 _) hn)).symm⟩;have h:Lv n 0 none (toks d.p++[]) d.c [] 1:=(Ah d).down (D.DX d) (tI hn) (by lia) trivial fun _=>trivial;obtain⟨l',e⟩:=Ch.fin h rfl;have e:fC (n+1) 0 none (toks d.p++[])=some (d.c,l',[]):=e;rw[dM]at e;unfold uB;rw[e];rfl
noncomputable def jo:Tok->Nat
 |.A|.B|.FX|.FY|.n1|.n5|.hV=>1
 |_=>0
noncomputable def uN:Tok->Nat
 |.lp=>1|_=>0
noncomputable def cO:List Tok->Nat
 |[]=>0
 |t :: r=>jo t+cO r
noncomputable def cB:List Tok->Nat
 |[]=>0
 |t :: r=>uN t+cB r
structure Bd(y:Bool)(l q:List Tok)(o b:Nat):Prop where
 no:cO l<=o+cO q
 nb:cO l=o+cO q->b+cB q<=cB l
 nf:cC false l=true->cC y q=true
theorem Nq{l:List Tok}(h:cC true l=true)(b:Bool):cC b l=true:=by
 cases b with
 |true=>exact h
 |false=>
  cases l with
  |nil=>rfl
  |cons t l=>exact(aM.mp (show((!true||kU t l)&&cC (fl t) l)=true from h)).2
theorem xi{l:List Tok}{b:Bool}(h:cC b l=true):cC false l=true:=by
 cases b with
 |true=>exact Nq h false
 |false=>exact h
theorem sr{t:Tok}{l:List Tok}{b:Bool}(h:cC b (t :: l)=true):cC (fl t) l=true:=(aM.mp (show((!b||kU t l)&&cC (fl t) l)=true from h)).2
section
variable {l q r:List Tok}{o o' b b':Nat}{t:Tok}{y z:Bool}
theorem Bd.trans(h:Bd y l q o b)(h':Bd z q r o' b'):Bd z l r (o+o') (b+b'):=⟨by have:=h.no;have:=h'.no;lia,fun e=>by have h1:=h.no;have h2:=h'.no;have h3:=h.nb (by lia);have h4:=h'.nb (by lia);lia,fun e=>h'.nf (xi (h.nf e))⟩
theorem Bd.low(h:Bd y l q o b)(hb:b'<=b):Bd y l q o b':=⟨h.no,fun e=>ak (f9 hb _) (h.nb e),h.nf⟩
theorem Bd.less(h:Bd y l q o b)(ho:o<o')(b':Nat):Bd y l q o' b':=⟨by have:=h.no;lia,fun e=>by have:=h.no;lia,h.nf⟩
theorem Bd.weak(h:Bd y l q o b):Bd false l q o b:=⟨h.no,h.nb,fun e=>xi (h.nf e)⟩
theorem Bd.tok(t:Tok)(q:List Tok):Bd (fl t) (t :: q) q (jo t) (uN t):=⟨aG _,fun _=>aG _,sr⟩
theorem Bd.cons(h:Bd y l q o b)(t:Tok)(ht:jo t=0):Bd y (t :: l) q o (uN t+b):=by
 have:=(Bd.tok t l).trans h;rwa[ht,fy]at this
theorem Bd.tA(h:Bd y l q o b)(t:Tok)(ht:jo t=0):Bd y (t :: l) q o b:=(h.cons t ht).low (j9 _ _)
theorem Bd.behind(h:Bd y l (t :: q) o b)(ht:jo t=0):Bd (fl t) l q o b:=by
 have:=h.trans (Bd.tok t q);rw[ht]at this;exact this.low (cL _ _)
end
noncomputable def oE:E->Nat
 |.ref _=>1
 |.num _=>1
 |.zero=>1
 |.neg a=>oE a
 |.bin _ a b=>oE a+oE b
noncomputable def gv:E->Nat
 |.bin t _ _=>cond (decide (t=.star)) 0 1
 |_=>0
noncomputable def bE:E->Nat
 |.neg a=>bE a
 |.bin t a b=>cond (decide (t=.star)) (bE a+gv a+(bE b+gv b)) (bE a+bE b)
 |_=>0
theorem Am:∀ e:E,0<oE e
 |.ref _=>iI _
 |.num _=>iI _
 |.zero=>iI _
 |.neg a=>Am a
 |.bin _ a b=>dN (Am a) (cL _ _)
def jc(x:Nat)(pg:Pe):Prop:=∀ l e q,pg l=some (e,q)->Bd true l q (oE e) (bE e+x*gv e)
theorem ahf{l q:List Tok}(h:n_ l=some (e,q)):Bd true l q (oE e) (bE e+1*gv e):=by
 cases l with
 |nil=>cases h
 |cons t r=>
  have k:=Bd.tok t r;obtain⟨e',h1,h2⟩:=gq h;cases h2;cases t<;>first|(cases h1;done)|(cases h1;exact k)
theorem HX(hs:∀ d,jc 0 (ps d))(d:Nat):jc 1 (gG ps d):=fun l e q h=>by
 have h:cond (js l[0]?) none (EE ps d l)=some (e,q):=h;cases hp:js l[0]? with
 |true=>rw[hp]at h;cases h
 |false=>
  rw[hp]at h;have h:(match hd .lp l with|some r=>brk (ps (d+1) r)|none=>n_ l)=some (e,q):=h;cases hl:hd .lp l with
  |none=>rw[hl]at h;exact ahf h
  |some r=>
   rw[hl]at h;have e1:=fk hl;subst e1;obtain⟨p,h1,h2⟩:=gB h;obtain⟨r2,h3,h4⟩:=gq h2;cases h4;have h5:=hs (d+1) _ p.1 p.2 h1;rw[fk h3]at h5;refine((h5.behind rfl).cons .lp rfl).low ?_;have:gv p.1<=1:=by
    cases p.1 with
    |bin t a b=>show cond (decide (t=.star)) 0 1<=1;cases decide (t=Tok.star)<;>decide
    |_=>exact dc _
   show bE p.1+1*gv p.1<=1+(bE p.1+0*gv p.1);lia
theorem ahg(hs:∀ d,jc 0 (ps d))(d:Nat):jc 1 (xc ps d):=fun l e q h=>by
 have h:(match hd .plus l with|some r=>gG ps d r|none=>Ai ps d l)=some (e,q):=h;cases hl:hd .plus l with
 |some r=>rw[hl]at h;rw[fk hl];exact(HX hs d _ _ _ h).tA _ rfl
 |none=>
  rw[hl]at h;have h:(match hd .minus l with|some r=>(gG ps d r).map fun x=>(Ax r x.1,x.2)|none=>gG ps d l)=some (e,q):=h;cases hm:hd .minus l with
  |none=>rw[hm]at h;exact HX hs d _ _ _ h
  |some r=>
   rw[hm]at h;obtain⟨x,h1,h2⟩:=gq h;cases h2;rw[fk hm];have h3:=(HX hs d _ x.1 x.2 h1).tA .minus rfl;show Bd true _ _ (oE (cond (isNum r[0]?) (qf x.1) (.neg x.1))) (bE (cond (isNum r[0]?) (qf x.1) (.neg x.1))+1*gv (cond (isNum r[0]?) (qf x.1) (.neg x.1)));cases isNum r[0]? with
   |false=>exact h3.low (cL _ _)
   |true=>
    show Bd true _ _ (oE (qf x.1)) (bE (qf x.1)+1*gv (qf x.1));cases he:x.1<;>(rw[he]at h3;exact h3)
theorem Tx{y x:Nat}{nx:List Tok->Option (Tok×List Tok)}{pg:Pe}(hn:t4 nx)(h0:∀ l p,nx l=some p->jo p.1=0)(hp:jc y pg)(hb:∀ l p e f,nx l=some p->bE (.bin p.1 e f)+x*gv (.bin p.1 e f)<=(bE e+x*gv e)+(bE f+y*gv f)) :
  ∀ n e l l0 e' q,Bd true l0 l (oE e) (bE e+x*gv e)->kA nx pg n e l=some (e',q)->Bd true l0 q (oE e') (bE e'+x*gv e')
 |0=>fun _ _ _ _ _ _ h=>by cases h
 |n+1=>fun e l l0 e' q ha h=>by
  have h:(match nx l with|some p=>(pg p.2).bind fun q=>kA nx pg n (.bin p.1 e q.1) q.2|none=>some (e,l))=some (e',q):=h;cases hl:nx l with
  |none=>rw[hl]at h;cases h;exact ha
  |some p=>
   rw[hl]at h;obtain⟨x,h1,h2⟩:=gB h;have h3:=(hp _ x.1 x.2 h1).tA p.1 (h0 _ _ hl);rw[<-hn _ _ hl]at h3;exact Tx hn h0 hp hb n _ _ l0 _ _ ((ha.trans h3).low (hb _ _ _ _ hl)) h2
theorem TB{y x:Nat}{nx:List Tok->Option (Tok×List Tok)}{pg:Pe}(hn:t4 nx)(h0:∀ l p,nx l=some p->jo p.1=0)(hx:x<=y)(hp:jc y pg)(hb:∀ l p e f,nx l=some p->bE (.bin p.1 e f)+x*gv (.bin p.1 e f)<=(bE e+x*gv e)+(bE f+y*gv f)):jc x (mQ nx pg):=fun l e q h=>by
 obtain⟨p,h1,h2⟩:=gB h;exact Tx hn h0 hp hb _ _ _ l _ _ ((hp _ p.1 p.2 h1).low (tY (Nat.mul_le_mul_right _ hx) _)) h2
theorem NO{l:List Tok}(h:qg l=some p):p.1=.star:=by
 obtain⟨r,_,rfl⟩:=gq h;rfl
theorem NP{l:List Tok}(h:kD l=some p):p.1=.plus∨p.1=.minus:=by
 have h:(match hd .plus l with|some r=>some (.plus,r)|none=>(hd .minus l).map fun r=>(.minus,r))=some p:=h;cases hl:hd .plus l with
 |some r=>rw[hl]at h;cases h;exact .inl rfl
 |none=>rw[hl]at h;obtain⟨r,_,rfl⟩:=gq h;exact .inr rfl
theorem ahd{ps:Ps}(hs:∀ d,jc 0 (ps d))(d:Nat):jc 1 (n9 ps d):=
 TB E0 (fun l p h=>by rw[NO h];rfl) (aG _) (ahg hs d) fun l p e f h=>by
  rw[NO h];show bE e+gv e+(bE f+gv f)+1*0<=_;lia
theorem Tt:∀ n d,jc 0 (cA n d)
 |0=>fun d=>fun l e q h=>by cases h
 |n+1=>fun d=>fun l e q h=>by
  have h:(if 20<d then none else mQ kD (n9 (cA n) d) l)=some (e,q):=h;split at h
  ·cases h
  ·refine TB E2 (fun l p h=>by rcases NP h with e|e<;>rw[e]<;>rfl) (dc _) (ahd (Tt n) d) (fun l p e f h=>?_) l e q h;rcases NP h with e1|e1<;>rw[e1]<;>exact ak (eR (by show bE e+bE f+0*1=_;rw[Nat.zero_mul,Nat.add_zero])) (tO (cL _ _) (cL _ _))
noncomputable def stC:C->Nat
 |.and _ _=>2|.or _ _=>1|.not _=>3|_=>4
def below(c:C)(k:Nat):Nat:=cond (ltB (stC c) k) 1 0
noncomputable def oC:C->Nat
 |.named _=>1
 |.cls t e=>oE e+jo t
 |.sgn t e=>oE e+jo t
 |.rel _ a b=>oE a+oE b
 |.not c=>oC c
 |.and a b=>oC a+oC b
 |.or a b=>oC a+oC b
noncomputable def bC:C->Nat
 |.named _=>0
 |.cls _ e=>bE e
 |.sgn _ e=>bE e
 |.rel _ a b=>bE a+bE b
 |.not c=>bC c+below c 4
 |.and a b=>bC a+below a 2+(bC b+below b 3)
 |.or a b=>bC a+below a 1+(bC b+below b 2)
abbrev t8(rest q:List Tok)(c:C)(k:Nat):Prop:=Bd false rest q (oC c) (bC c+below c k)
def rG(k:Nat)(p:Pc):Prop:=∀ d l rest c l' q,p d l rest=some (c,l',q)->cC false rest=true->t8 rest q c k
theorem Ca(c:C)(k:Nat):below c k<=1:=by unfold below;cases ltB (stC c) k<;>decide
theorem HW{y:Bool}{t:Tok}(ht:jo t=0){l q:List Tok}{o b:Nat}(h:Bd y (aQ t l) q o b):Bd y l q o b:=by
 unfold aQ at h;split at h
 ·rename_i e;cases l with
  |nil=>cases e
  |cons u l=>cases e;exact h.tA _ ht
 ·exact h
theorem Tv(hp:jc 0 pe){rest q:List Tok}{l:Last}(h:lG pe e rest=some (c,l,q)):∃ s f,c=.rel s e f/\Bd true rest q (oE f) (bE f):=by
 have h:EC pe e _ (aQ .aV (aQ .IS rest))=_:=h;have k:∀ {q o b},Bd true (aQ .aV (aQ .IS rest)) q o b->Bd true rest q o b:=fun h=>HW (t:=.IS) rfl (HW (t:=.aV) rfl h);generalize aQ .aV (aQ .IS rest)=r at h k;cases r with
 |nil=>cases h
 |cons t r=>
  obtain⟨s,h0,h⟩:=gB h;obtain⟨p,h1,h2⟩:=gq h;cases h2;refine⟨_,p.1,rfl,k (((hp _ p.1 p.2 h1).tA t ?_).low (cL _ _))⟩;cases t<;>first|rfl|(cases h0;done)
theorem YZ{rest:List Tok}(h:cC true rest=true):(∃ r,aQ .aV (aQ .IS rest)=.eq :: r)∨(decide ((aQ .IS rest)[0]?=some .aV)=false/\aQ .aV (aQ .IS rest)=aQ .IS rest):=by
 have h1:cC true (aQ .IS rest)=true:=by
  unfold aQ;split
  ·rename_i e;cases rest with
   |nil=>cases e
   |cons u l=>cases e;exact sr h
  ·exact h
 generalize aQ .IS rest=l at h1;by_cases hn:l[0]?=some .aV
 ·cases l with
  |nil=>cases hn
  |cons u l=>
   cases hn;have h2:(!true||decide (l[0]?=some .eq))=true:=(aM.mp h1).1;have h3:l[0]?=some .eq:=of_decide_eq_true h2;cases l with
   |nil=>cases h3
   |cons v l=>cases h3;exact .inl ⟨l,if_pos rfl⟩
 ·exact .inr ⟨decide_eq_false hn,if_neg hn⟩
theorem ahe(hp:jc 0 pe){l0 rest q:List Tok}{l:Last}(hs:Bd true l0 rest (oE e) (bE e))(h0:cC false l0=true)(h:mO pe e rest=some (c,l,q)):t8 l0 q c 4:=by
 have rel:lG pe e rest=some (c,l,q)->t8 l0 q c 4:=fun h=>by
  obtain⟨s,f,rfl,hb⟩:=Tv hp h;exact(hs.trans hb).weak
 have h:ED pe e rest (decide ((aQ .IS rest)[0]?=some .aV)) (aQ .aV (aQ .IS rest))=_:=h;rcases YZ (hs.nf h0)with ⟨r,h1⟩|⟨h1,h2⟩
 ·rw[h1]at h;exact rel h
 ·rw[h1,h2]at h;have k:∀ {y q o b},Bd y (aQ .IS rest) q o b->Bd y rest q o b:=fun h=>HW (t:=.IS) rfl h;generalize aQ .IS rest=r at h k;cases r with
  |nil=>exact rel h
  |cons t r=>
   have h:cond (lR t) (some (C.cls t e,none,r)) (cond (kI t) (some (C.sgn t e,none,r)) (lG pe e rest))=some (c,l,q):=h;have hb:=(hs.trans (k (Bd.tok t r))).weak.low (cL _ _);cases h3:lR t with
   |true=>rw[h3]at h;cases h;exact hb
   |false=>
    cases h4:kI t with
    |true=>rw[h3,h4]at h;cases h;exact hb
    |false=>rw[h3,h4]at h;exact rel h
theorem Ts(hp:jc 0 pe){l:Last}{rest q:List Tok}(h:fg pe l rest=some (c,l',q))(h0:cC false rest=true):t8 rest q c 4:=by
 have h:cond (cY rest[bQ rest]?) _ _=some (c,l',q):=h;cases hr:cY rest[bQ rest]? with
 |true=>
  rw[hr]at h;obtain⟨p,_,h⟩:=gB h;obtain⟨s,f,rfl,hb⟩:=Tv hp h;exact hb.weak.less (Vb (Am p.1)) _
 |false=>
  rw[hr]at h;obtain⟨p,h1,h⟩:=gB h;have hb:=(hp _ p.1 p.2 h1).low (cL _ _);have h:(match mZ p.1 with|some t=>some (.named t,none,p.2)|none=>cond (jT p.2[bQ p.2]?) (mO pe p.1 p.2) ((sG l p.1).map fun c=>(c,l,p.2)))=some (c,l',q):=h;cases hn:mZ p.1 with
  |some t=>
   rw[hn]at h;cases h;have:oE p.1=1:=by
    cases he:p.1 with
    |ref u=>rfl
    |_=>rw[he]at hn;cases hn
   rw[this]at hb;exact hb.weak.low (dc _)
  |none=>
   rw[hn]at h;have h:cond (jT p.2[bQ p.2]?) _ _=some (c,l',q):=h;cases hq:jT p.2[bQ p.2]? with
   |true=>rw[hq]at h;exact ahe hp hb h0 h
   |false=>
    rw[hq]at h;obtain⟨x,h2,h3⟩:=gq h;cases h3;obtain⟨y,_,rfl⟩:=gq h2;exact hb.weak.less (Vb (Am y.1)) _
theorem Tu(hp:jc 0 pe)(hc:rG 1 bL):rG 4 (fB pe bL):=fun d l rest c l' q h h0=>by
 have h:(match hd .lp rest with|some r=>mR (gS bL d r) (fg pe l rest)|none=>fg pe l rest)=some (c,l',q):=h;cases hl:hd .lp rest with
 |none=>rw[hl]at h;exact Ts hp h h0
 |some r=>
  rw[hl]at h;have h:mR (gS bL d r) (fg pe l rest)=some (c,l',q):=h;cases hb:gS bL d r with
  |none=>rw[hb]at h;exact Ts hp h h0
  |some x=>
   rw[hb]at h;cases h;have e1:=fk hl;subst e1;have hb:(if 20<=d then none else B7 (bL (d+1) none r))=some (c,l',q):=hb;split at hb
   ·cases hb
   ·obtain⟨p,h1,h2⟩:=gB hb;obtain⟨q2,h3,h4⟩:=gq h2;cases h4;have h5:=hc _ _ _ p.1 p.2.1 p.2.2 h1 (xi (sr h0));rw[fk h3]at h5
    exact((h5.behind rfl).weak.cons .lp rfl).low (by
     have:=Ca p.1 4;show bC p.1+below p.1 4<=1+(bC p.1+below p.1 1)
     lia)
theorem ahc(hp:jc 0 pe)(hc:rG 1 bL):rG 3 (uF pe bL):=fun d l rest c l' q h h0=>by
 have plain:fB pe bL d l rest=some (c,l',q)->t8 rest q c 3:=fun h=>(Tu hp hc _ _ _ _ _ _ h h0).low (tY (by
  unfold below;cases h3:ltB (stC c) 3 with
  |false=>exact dc _
  |true=>rw[show ltB (stC c) 4=true from decide_eq_true (pA (of_decide_eq_true h3))];exact aG _) _)
 have h:(match hd .aV rest with|some r=>cond (cY rest[bQ rest]?) (fB pe bL d l rest) ((fB pe bL d l r).map uK)|none=>fB pe bL d l rest)=some (c,l',q):=h;cases hl:hd .aV rest with
 |none=>rw[hl]at h;exact plain h
 |some r=>
  rw[hl]at h;have h:cond (cY rest[bQ rest]?) _ _=some (c,l',q):=h;cases hr:cY rest[bQ rest]? with
  |true=>rw[hr]at h;exact plain h
  |false=>
   rw[hr]at h;obtain⟨⟨c1,l1,q1⟩,h1,h2⟩:=gq h;cases h2;have e1:=fk hl;subst e1;exact((Tu hp hc _ _ _ _ _ _ h1 (xi (sr h0))).tA .aV rfl).low (aG _)
theorem TA{t:Tok}(ht:jo t=0)(hp:rG k p)(hm:∀ a b,oC (mk a b)=oC a+oC b/\bC (mk a b)=bC a+below a k'+(bC b+below b k)/\below (mk a b) k'=0)(d:Nat)(rest:List Tok)(h0:cC false rest=true) :
  ∀ n cd l r c l' q,t8 rest r cd k'->j8 t mk p d n cd l r=some (c,l',q)->t8 rest q c k'
 |0=>fun _ _ _ _ _ _ _ h=>by cases h
 |n+1=>fun cd l r c l' q hb h=>by
  have h:(match hd t r with|some r=>(p d l r).bind fun x=>j8 t mk p d n (mk cd x.1) x.2.1 x.2.2|none=>some (cd,l,r))=some (c,l',q):=h;cases hl:hd t r with
  |none=>rw[hl]at h;cases h;exact hb
  |some r1=>
   rw[hl]at h;obtain⟨y,h1,h2⟩:=gB h;have e1:=fk hl;subst e1;have hy:=(hp _ _ _ y.1 y.2.1 y.2.2 h1 (xi (sr (hb.nf h0)))).tA t ht;refine TA ht hp hm d rest h0 n _ _ _ _ _ _ ?_ h2;obtain⟨m1,m2,m3⟩:=hm cd y.1;have:=hb.trans hy;show Bd false rest y.2.2 (oC (mk cd y.1)) (bC (mk cd y.1)+below (mk cd y.1) k');rw[m1,m2,m3];exact this
theorem Tw{t:Tok}(ht:jo t=0)(hk:k'<=k)(hp:rG k p)(hm:∀ a b,oC (mk a b)=oC a+oC b/\bC (mk a b)=bC a+below a k'+(bC b+below b k)/\below (mk a b) k'=0):rG k' (mP t mk p):=fun d l rest c l' q h h0=>by
 obtain⟨y,h1,h2⟩:=gB h;refine TA ht hp hm d rest h0 _ _ _ _ _ _ _ ((hp _ _ _ y.1 y.2.1 y.2.2 h1 h0).low (tY ?_ _)) h2;unfold below;cases h3:ltB (stC y.1) k' with
 |false=>exact dc _
 |true=>rw[show ltB (stC y.1) k=true from decide_eq_true (dN (of_decide_eq_true h3) hk)];exact aG _
theorem Tz:∀ n,rG 1 (fC n)
 |0=>fun d l rest c l' q h=>by cases h
 |n+1=>Tw rfl ⋯ (Tw rfl ⋯ (ahc (Tt (n+1) 0) (Tz n)) fun a b=>⟨rfl,rfl,rfl⟩) fun a b=>⟨rfl,rfl,rfl⟩
theorem vK:∀ a b:List Tok,cO (a++b)=cO a+cO b
 |[]=>fun b=>(fy _).symm
 |t :: a=>fun b=>by show jo t+cO (a++b)=jo t+cO a+cO b;rw[vK a b,v9]
theorem vL:∀ a b:List Tok,cB (a++b)=cB a+cB b
 |[]=>fun b=>(fy _).symm
 |t :: a=>fun b=>by show uN t+cB (a++b)=uN t+cB a+cB b;rw[vL a b,v9]
structure Cn(p:Pz)(o b:Nat):Prop where
 o:cO (toks p)=o
 b:cB (toks p)=b
theorem Cn.app{p q:Pz}{o b o' b':Nat}(h:Cn p o b)(h':Cn q o' b'):Cn (p++q) (o+o') (b+b'):=⟨by rw[d6,vK,h.o,h'.o],by rw[d6,vL,h.b,h'.b]⟩
theorem Cn.br{p:Pz}{o b:Nat}(h:Cn p o b)(c:Bool):Cn (fX c p) o (b+cond c 1 0):=by
 cases c with
 |false=>exact h
 |true=>
  have h1:=(Cn.app (p:=[some .lp]) (o:=0) (b:=1) ⟨rfl,rfl⟩ h).app (q:=[some .rp]) (o':=0) (b':=0) ⟨rfl,rfl⟩;rw[fy,v5 1 b]at h1;exact h1
theorem Sd.cn(s:Sd):Cn s.p (oE s.e) (bE s.e):=by cases s<;>exact⟨rfl,rfl⟩
theorem Lf.cn:∀ l:Lf,Cn l.p (oC l.c) (bC l.c)
 |.named y=>by cases y<;>exact⟨rfl,rfl⟩
 |.cls x=>by cases x<;>exact⟨rfl,rfl⟩
 |.sgn x s=>by cases x<;>exact(s.cn.app (q:=[none,some .IS,none]) (o':=0) (b':=0) ⟨rfl,rfl⟩).app (b':=0) ⟨rfl,rfl⟩
 |.rel r a b=>by
  have hr:Cn r.p 0 0:=by cases r<;>exact⟨rfl,rfl⟩
  exact(((a.cn.app (q:=[none]) (o':=0) (b':=0) ⟨rfl,rfl⟩).app hr).app (q:=[none]) (o':=0) (b':=0) ⟨rfl,rfl⟩).app b.cn
theorem X4:∀ d:D,stC d.c=d.st
 |.lf l=>by cases l<;>rfl
 |.not d=>rfl
 |.bin o a b=>by cases o<;>rfl
theorem HV(d:D)(k:Nat):below d.c k=cond (ltB d.st k) 1 0:=by unfold below;rw[X4]
theorem D.cn:∀ d:D,Cn d.p (oC d.c) (bC d.c)
 |.lf l=>l.cn
 |.not d=>by
  have h:=Cn.app (p:=[some .aV,none]) (o:=0) (b:=0) ⟨rfl,rfl⟩ (d.cn.br (ltB d.st 4));rw[<-HV,fy,fy]at h;exact h
 |.bin o a b=>by
  have hm:Cn ([none]++[some (kB o)]++[none]) 0 0:=by cases o<;>exact⟨rfl,rfl⟩
  have h:=(a.cn.br (ltB a.st (ew o))).app (hm.app (b.cn.br (ltB b.st (ew o+1))));rw[<-HV,<-HV,fy,fy]at h;cases o<;>exact h
theorem Hy:∀ l:List Tok,l.count .lp=cB l
 |[]=>rfl
 |t :: l=>by
  rw[List.count_cons,Hy l];show cB l+_=uN t+cB l;rw[v5];cases t<;>rfl
noncomputable def kX:Nat->Nat
 |0=>2
 |n+1=>2*kX n+2
theorem Lf.kX(l:Lf):bC l.c<=2:=by
 have k:∀ s:Sd,bE s.e<=1:=fun s=>by cases s<;>decide
 cases l with
 |named y=>exact dc _
 |cls x=>exact dc _
 |sgn x s=>exact jG (k s)
 |rel r a b=>exact tO (k a) (k b)
theorem agZ:∀ n,2<=kX n
 |0=>aG _
 |n+1=>j9 _ _
theorem D.kX:∀ (d:D) (n:Nat),d.ht<=n->bC d.c<=Mine.kX n
 |.lf l,n=>fun _=>ak l.kX (agZ n)
 |.not d,0=>fun h=>absurd h (yT _)
 |.not d,n+1=>fun h=>by
  have h1:=D.kX d n (tI h);have h2:=Ca d.c 4;show bC d.c+below d.c 4<=2*Mine.kX n+2;lia
 |.bin o a b,0=>fun h=>absurd h (yT _)
 |.bin o a b,n+1=>fun h=>by
  have h:=tI h;have h1:=D.kX a n (ak (jD _ _) h);have h2:=D.kX b n (ak (jC _ _) h);have h3:=Ca a.c (ew o);have h4:=Ca b.c (ew o+1);have e:bC (D.bin o a b).c=bC a.c+below a.c (ew o)+(bC b.c+below b.c (ew o+1)):=by cases o<;>rfl
  rw[e];show _<=2*Mine.kX n+2;lia
theorem KN(t:Tok):tH.find? (fun u=>decide (u.w=t.w))=some t:=Tok.ag (f:=fun t=>tH.find? (fun u=>decide (u.w=t.w))) (g:=some) (by kernel_rfl) t
theorem wx{t u:Tok}(h:t.w=u.w):t=u:=by
 have:=KN t;rw[h,KN u]at this;exact(aU this).symm
noncomputable def KY:V->List V
 |.tup l=>l
 |_=>[]
noncomputable def pN:V->List Nat
 |.str l=>l
 |_=>[]
noncomputable def W6:V->Int
 |.int i=>i
 |_=>0
def eZ(v:V)(i:Nat):V:=((KY v)[i]?).getD .none
def jh(v:V):Nat×List Nat:=((KY v).length,pN (eZ v 0))
theorem E.nT:∀ {a b:E},a.v=b.v->a=b
 |.ref t,b=>fun h=>by
  cases b with
  |ref u=>exact congrArg E.ref (wx (congrArg (fun v=>pN (eZ v 1)) h))
  |_=>exact absurd (congrArg (fun v=>(jh v).1) h) (by show ¬5=_;exact fun h=>by cases h)
 |.num i,b=>fun h=>by
  cases b with
  |num j=>exact congrArg E.num (congrArg (fun v=>W6 (eZ (eZ v 1) 0)) h)
  |bin o a b=>exact absurd (congrArg (fun v=>(jh v).1) h) (by show ¬2=3;decide)
  |ref u=>exact absurd (congrArg (fun v=>(jh v).1) h) (by show ¬2=5;decide)
  |zero=>exact absurd (congrArg (fun v=>(jh v).2) h) (by show ¬[110,117,109,98,101,114]=[102,105,103,117,114,101];decide)
  |neg a=>exact absurd (congrArg (fun v=>(jh v).2) h) (by show ¬[110,117,109,98,101,114]=[110,101,103];decide)
 |.zero,b=>fun h=>by
  cases b with
  |zero=>rfl
  |bin o a b=>exact absurd (congrArg (fun v=>(jh v).1) h) (by show ¬2=3;decide)
  |ref u=>exact absurd (congrArg (fun v=>(jh v).1) h) (by show ¬2=5;decide)
  |num i=>exact absurd (congrArg (fun v=>(jh v).2) h) (by show ¬[102,105,103,117,114,101]=[110,117,109,98,101,114];decide)
  |neg a=>exact absurd (congrArg (fun v=>(jh v).2) h) (by show ¬[102,105,103,117,114,101]=[110,101,103];decide)
 |.neg a,b=>fun h=>by
  cases b with
  |neg b=>exact congrArg E.neg (E.nT (congrArg (fun v=>eZ v 1) h))
  |bin o a b=>exact absurd (congrArg (fun v=>(jh v).1) h) (by show ¬2=3;decide)
  |ref u=>exact absurd (congrArg (fun v=>(jh v).1) h) (by show ¬2=5;decide)
  |num i=>exact absurd (congrArg (fun v=>(jh v).2) h) (by show ¬[110,101,103]=[110,117,109,98,101,114];decide)
  |zero=>exact absurd (congrArg (fun v=>(jh v).2) h) (by show ¬[110,101,103]=[102,105,103,117,114,101];decide)
 |.bin o a b,c=>fun h=>by
  cases c with
  |bin o' a' b'=>
   have h1:o=o':=wx (congrArg (fun v=>pN (eZ v 0)) h);have h2:a=a':=E.nT (congrArg (fun v=>eZ v 1) h);have h3:b=b':=E.nT (congrArg (fun v=>eZ v 2) h);rw[h1,h2,h3]
  |_=>exact absurd (congrArg (fun v=>(jh v).1) h) (by show ¬3=_;exact fun h=>by cases h)
noncomputable def DD:C->Nat
 |.named _=>0|.cls _ _=>1|.sgn _ _=>2|.rel _ _ _=>3|.not _=>4|.and _ _=>5|.or _ _=>6
noncomputable def XC:List (List Nat):=[[110,97,109,101,100],[99,108,97,115,115],[115,105,103,110],[114,101,108],[110,111,116],[97,110,100],[111,114]]
def tg(v:V):Nat:=XC.findIdx fun s=>decide (s=pN (eZ v 0))
theorem kq(c:C):tg c.v=DD c:=by cases c<;>rfl
theorem aay{r s:Rs}(h:r.w=s.w):r=s:=by
 have k:∀ r:Rs,[Rs.eq,.lt,.gt,.le,.ge,.ne].find? (fun u=>decide (u.w=r.w))=some r:=fun r=>by cases r<;>rfl
 have:=k r;rw[h,k s]at this;exact(aU this).symm
theorem C.nT:∀ {a b:C},a.v=b.v->a=b:=fun {a b} h=>by
 have ht:DD a=DD b:=by rw[<-kq,<-kq,h]
 induction a generalizing b with
 |named t=>
  cases b with
  |named u=>exact congrArg C.named (wx (congrArg (fun v=>pN (eZ (eZ v 1) 1)) h))
  |_=>exact absurd ht (tN rfl)
 |cls t e=>
  cases b with
  |cls u f=>rw[wx (congrArg (fun v=>pN (eZ v 1)) h:t.w=u.w),E.nT (congrArg (fun v=>eZ v 2) h:e.v=f.v)]
  |_=>exact absurd ht (tN rfl)
 |sgn t e=>
  cases b with
  |sgn u f=>rw[wx (congrArg (fun v=>pN (eZ v 1)) h:t.w=u.w),E.nT (congrArg (fun v=>eZ v 2) h:e.v=f.v)]
  |_=>exact absurd ht (tN rfl)
 |rel s x y=>
  cases b with
  |rel s' x' y'=>rw[aay (congrArg (fun v=>pN (eZ v 1)) h:s.w=s'.w),E.nT (congrArg (fun v=>eZ v 2) h:x.v=x'.v),E.nT (congrArg (fun v=>eZ v 3) h:y.v=y'.v)]
  |_=>exact absurd ht (tN rfl)
 |not c ih=>
  cases b with
  |not d=>
   have h1:c.v=d.v:=congrArg (fun v=>eZ v 1) h;rw[ih h1 (by rw[<-kq,<-kq,h1])]
  |_=>exact absurd ht (tN rfl)
 |and x y FK FJ=>
  cases b with
  |and x' y'=>
   have h1:x.v=x'.v:=congrArg (fun v=>eZ v 1) h;have h2:y.v=y'.v:=congrArg (fun v=>eZ v 2) h;rw[FK h1 (by rw[<-kq,<-kq,h1]),FJ h2 (by rw[<-kq,<-kq,h2])]
  |_=>exact absurd ht (tN rfl)
 |or x y FK FJ=>
  cases b with
  |or x' y'=>
   have h1:x.v=x'.v:=congrArg (fun v=>eZ v 1) h;have h2:y.v=y'.v:=congrArg (fun v=>eZ v 2) h;rw[FK h1 (by rw[<-kq,<-kq,h1]),FJ h2 (by rw[<-kq,<-kq,h2])]
  |_=>exact absurd ht (tN rfl)
theorem aaN{d:D}{n:Nat}{ts:List Tok}(h1:cO ts=cO (toks d.p))(h2:cB ts<cB (toks d.p))(aW:cC false ts=true){c:C}(h:uB n ts=some c):c.v≠d.v:=fun e=>by
 have e:c=d.c:=C.nT e;subst e;obtain⟨p,h3,h4⟩:=gB h;have hp:p.2.2=[]/\p.1=d.c:=by
  cases hq:p.2.2 with
  |nil=>rw[hq]at h4;exact⟨rfl,aU h4⟩
  |cons t q=>rw[hq]at h4;cases h4
 have hb:=Tz n 0 none ts p.1 p.2.1 p.2.2 h3 aW;rw[hp.1,hp.2]at hb;rw[d.cn.o]at h1;rw[d.cn.b]at h2;have h5:=hb.nb h1;exact iG _ (dN h2 (ak (cL _ _) h5))
theorem EM{t0:Tok}(ht:t0=.lp∨t0=.rp):∀ (X W:List Tok) (b:Bool),cC b (X++t0 :: W)=true->cC b (X++W)=true
 |[]=>fun W b h=>by
  rcases ht with rfl|rfl
  ·cases b with
   |false=>exact sr h
   |true=>exact absurd (aM.mp h).1 k6
  ·exact Nq (sr h) b
 |t :: X=>fun W b h=>by
  have h:((!b||kU t (X++t0 :: W))&&cC (fl t) (X++t0 :: W))=true:=h;obtain⟨h1,h2⟩:=aM.mp h;show((!b||kU t (X++W))&&cC (fl t) (X++W))=true;rw[EM ht X W _ h2,I8];cases b with
  |false=>rfl
  |true=>
   have h1:(false||kU t (X++t0 :: W))=true:=h1;show(false||kU t (X++W))=true;by_cases hn:t=.aV
   ·subst hn;have h3:decide ((X++t0 :: W)[0]?=some .eq)=true:=h1;cases X with
    |nil=>rcases ht with rfl|rfl<;>exact absurd (of_decide_eq_true h3) (by intro h;cases h)
    |cons x X=>exact h3
   ·cases t<;>first|exact h1|exact absurd rfl hn
theorem L6{ts:List Tok}{i:Nat}{t:Tok}(h:ts[i]?=some t):ts=ts.take i++t :: ts.drop (i+1):=by
 obtain⟨h1,h2⟩:=aX.mp h;rw[<-h2,<-y9 h1,pj]
noncomputable def oZ(ts:List Tok)(p:Nat×Nat):List Tok:=ts.take p.1++(ts.take p.2).drop (p.1+1)++ts.drop (p.2+1)
theorem ab4{ts:List Tok}{p:Nat×Nat}(h:Gp ts p):∃ X Y Z,ts=X++.lp :: (Y++.rp :: Z)/\oZ ts p=X++Y++Z:=by
 obtain⟨b,e⟩:=p;obtain⟨aP,hb,he⟩:=h;have aP:b<e:=aP;have hb:ts[b]?=some .lp:=hb;have he:ts[e]?=some .rp:=he;have h1:=L6 he;have h2:(ts.take e)[b]?=some .lp:=by rw[List.getElem?_take,if_pos aP];exact hb
 have h3:=L6 h2;rw[List.take_take,mq (fH aP)]at h3;refine⟨ts.take b,(ts.take e).drop (b+1),ts.drop (e+1),?_,rfl⟩;rw[<-vV,<-aH,<-h3];exact h1
theorem ab3{ts:List Tok}{p:Nat×Nat}(h:Gp ts p)(hs:cC false ts=true):cC false (oZ ts p)=true/\cO (oZ ts p)=cO ts/\cB (oZ ts p)<cB ts/\(oZ ts p).length<=ts.length:=by
 obtain⟨X,Y,Z,e1,e2⟩:=ab4 h;subst e1;rw[e2];refine⟨?_,?_,?_,?_⟩
 ·have h1:=EM (.inl rfl) X _ false hs;rw[<-aH]at h1;exact EM (.inr rfl) (X++Y) Z false h1
 ·rw[vK,vK,vK];show cO X+cO Y+cO Z=cO X+(0+cO (Y++.rp :: Z));rw[vK,fy,v9];show _=cO X+(cO Y+(0+cO Z));rw[fy]
 ·rw[vL,vL,vL];show cB X+cB Y+cB Z<cB X+(1+cB (Y++.rp :: Z));rw[vL];show _<cB X+(1+(cB Y+(0+cB Z)));lia
 ·simp only[bz,qZ];lia
section
variable {F k:Nat}
theorem C.tup:∀ c:C,∃ l,c.v=.tup l
 |.named _=>⟨_,rfl⟩
 |.cls _ _=>⟨_,rfl⟩
 |.sgn _ _=>⟨_,rfl⟩
 |.rel _ _ _=>⟨_,rfl⟩
 |.not _=>⟨_,rfl⟩
 |.and _ _=>⟨_,rfl⟩
 |.or _ _=>⟨_,rfl⟩
section
variable {O:ay}{J:LC}
theorem R6(c:C){d:D}(hd:d.ht<=20):tu c.v d.v=some (dz c.v d.v):=by
 have h1:=kC c;have h2:cU d.v=true:=kC d.c;have h3:decide (min (cZ c.v) (cZ d.v)<=90)=true:=decide_eq_true (ak (tJ _ _) (ak d.dep (ak (f9 hd 6) ⋯)));obtain⟨l,hl⟩:=C.tup c;obtain⟨m,hm⟩:∃ l,d.v=.tup l:=C.tup d.c;rw[hl]at h1 h3 ⊢;rw[hm]at h2 h3 ⊢;show(if (cU (.tup l)&&cU (.tup m)&&decide (min (cZ (.tup l)) (cZ (.tup m))<=90))=true then some (dz (.tup l) (.tup m)) else none)=_
 rw[h1,h2,h3];rfl
theorem WM(d:D):dz d.v d.v=true:=(ue (kC d.c)).mpr rfl
theorem ne_self{d:D}(hd:d.ht<=20):bj .ne d.v d.v J=some (.ok (.bool false),J):=by
 show aS (tu d.c.v d.v) (fun b=>Ev.ret (V.bool !b)) J=_;rw[R6 d.c hd,show dz d.c.v d.v=true from WM d];rfl
theorem afU{o:Option C}{d:D}(hd:d.ht<=20)(h:∀ c,o=some c->c.v≠d.v):bj .eq (xg o) d.v J=some (.ok (.bool false),J):=by
 show aS (tu (xg o) d.v) (fun b=>Ev.ret (V.bool b)) J=_;cases o with
 |some c=>
  show aS (tu c.v d.v) _ J=_;have hf:dz c.v d.v=false:=by
   cases hb:dz c.v d.v with
   |false=>rfl
   |true=>exact absurd ((ue (kC c)).mp hb) (h c rfl)
  rw[R6 c hd,hf];rfl
 |none=>
  have h2:cU d.v=true:=kC d.c;obtain⟨m,hm⟩:∃ l,d.v=.tup l:=C.tup d.c;rw[hm]at h2 ⊢;show aS (if (true&&cU (.tup m)&&decide (min 0 (cZ (.tup m))<=90))=true then some false else none) _ J=_;rw[h2,Nat.zero_min];rfl
theorem Di{w:Nat}{ts:List Tok}{lo hi:V}{a b:Nat}(h:J[w]?=some (bI ts))(hs:ts.length<=100000)(h1:qV lo 0=some a)(h2:∀ n,ts.length=n->qV hi n=some b):dA (.ref w) lo hi J=some (.ok (.ref J.length),J++[bI (cut ts a b)]):=by
 show bt w (fun l=>mV lo 0 fun x=>mV hi l.length fun y=>aF (short l) fun J=>some (.ok (V.ref J.length),J++[Cell.lst (cut l x y)])) J=_;rw[d8 h];unfold mV;rw[h1];show aS (qV hi (eh ts).length) (fun y=>aF (short (eh ts)) fun J=>some (.ok (V.ref J.length),J++[Cell.lst (cut (eh ts) a y)])) J=_;rw[h2 _ (Dl ts).symm];show aF (short (eh ts)) (fun J=>some (.ok (V.ref J.length),J++[Cell.lst (cut (eh ts) a b)])) J=_
 rw[ub hs];show some (_,J++[Cell.lst (cut (ts.map fun t=>V.str t.w) a b)])=_;unfold cut;rw[<-Kf,<-List.map_drop];rfl
theorem KJ{i j:Nat}{a b:List Tok}(h:J[i]?=some (bI a))(h':J[j]?=some (bI b))(hs:(a++b).length<=100000):c_ .add (.ref i) (.ref j) J=some (.ok (.ref J.length),J++[bI (a++b)]):=by
 have e:eh a++eh b=eh (a++b):=(j_ ..).symm;have:=Ki h h' (by rw[e];exact ub hs);rwa[e]at this
theorem gl{w:Nat}{c:Cell}(h:J[w]?=some c)(X:LC):(J++X)[w]?=some c:=by rw[dp (dD h)];exact h
abbrev Hw(F:Nat)(O:ay)(j:Nat):Nat->Nat->Ex:=cR (iQ j) (.two 4 5) (aD F O [none] (cq yM 4))
theorem agq{j w b e f n i1 i2 i3 i4 i5:Nat}{x0 x1 x2:V}{x4 x5:Option V}{v:V}{aa aj bo dP ia:LC}{z:Except Nat Fl×LV×LC}(hn:iQ j n J=some (some (iO (b,e))))
  (s1:dA (.ref w) .none (.int (b:Nat)) J=some (.ok (.ref i1),aa)) (s2:dA (.ref w) (.int ((b:Int)+1)) (.int (e:Nat)) aa=some (.ok (.ref i2),aj)) (a1:c_ .add (.ref i1) (.ref i2) aj=some (.ok (.ref i3),bo))
  (s3:dA (.ref w) (.int ((e:Int)+1)) .none bo=some (.ok (.ref i4),dP)) (a2:c_ .add (.ref i3) (.ref i4) dP=some (.ok (.ref i5),ia)) (hr:O 772 [.ref i5] ia=some (.ok v,ia)) (he:bj .eq v x2 ia=some (.ok (.bool false),ia))
  (hz:Hw F O j f (n+1) [some x0,some x1,some x2,some (.ref w),some (.int (b:Nat)),some (.int (e:Nat)),none,none,none,none] ia=some z) :
  Hw F O j (f+1) n [some x0,some x1,some x2,some (.ref w),x4,x5,none,none,none,none] J=some z:=by
 exact j4 hn [.v s1,.c,.v s2,.v a1,.c,.v s3,.v a2,.v hr,.v he,.c,.x hz]
end
theorem SD{d:D}{n0:Nat}(hd:d.ht<=20)(oP:bC d.c<n0)(hlen:(toks d.p).length<=50000){O:ay}(hO:∀ (J:LC) (j:Nat) (ts:List Tok),ts.length<=100000->J[j]?=some (.lst (eh ts))->eY ts=true->ft n0 ts->O 772 [.ref j] J=some (.ok (xg (uB n0 ts)),J))
  {j w:Nat}{fs:List (Nat×Nat)} (oR:∀ p∈fs,Gp (toks d.p) p) (hl:fs.length<=1000) (x0 x1:V):∀ (m n f:Nat) (J:LC) (x4 x5:Option V),n+m=fs.length->m<f->J[w]?=some (bI (toks d.p))->J[j]?=some (.lst (fs.map iO)) ->
  ∃ y4 y5 τ,Hw F O j f n [some x0,some x1,some d.v,some (.ref w),x4,x5,none,none,none,none] J=some (.ok .next,[some x0,some x1,some d.v,some (.ref w),y4,y5,none,none,none,none],τ)
 |m,n,0=>fun _ _ _ _ h _ _=>absurd h (hJ _)
 |m,n,f+1=>fun J x4 x5 hm hf hw hj=>by
  have eB:=uI (n:=n) hj (mF iO (ak hl ⋯));rw[eS]at eB;cases m with
  |zero=>
   rw[v7 (eR (show fs.length=n from hm.symm))]at eB;exact⟨x4,x5,J,yj eB⟩
  |succ m=>
   have hn:n<fs.length:=by lia
   rw[dw hn]at eB;have hg:=oR fs[n] (CS hn);generalize fs[n]=p at eB hg;have dC:(toks d.p).length<=100000:=ak hlen ⋯;have BB:p.1<p.2:=hg.1;have hel:p.2<(toks d.p).length:=dD hg.2.2;obtain⟨g1,g2,g3,g4⟩:=ab3 hg d.cC;have bk:∀ {a c:Nat},a<=200000->qV (.int (a:Nat)) c=some a:=fun {a c} h=>HR (sP h);have s1:=Di (lo:=.none) (hi:=.int (p.1:Nat)) hw dC rfl fun _ _=>bk (by lia)
   have w1:=gl hw [bI (cut (toks d.p) 0 p.1)];have s2:=Di (lo:=.int ((p.1+1:Nat):Int)) (hi:=.int (p.2:Nat)) w1 dC (bk (by lia)) fun _ _=>bk (by lia);have hAB:(cut (toks d.p) 0 p.1++cut (toks d.p) (p.1+1) p.2).length<=100000:=by
    have h1:(oZ (toks d.p) p).length=(cut (toks d.p) 0 p.1++cut (toks d.p) (p.1+1) p.2).length+((toks d.p).drop (p.2+1)).length:=bz ..;lia
   have a1:=KJ (gl (bx (l:=J)) [bI (cut (toks d.p) (p.1+1) p.2)]) bx hAB;have w3:=gl (gl w1 [bI (cut (toks d.p) (p.1+1) p.2)]) [bI (cut (toks d.p) 0 p.1++cut (toks d.p) (p.1+1) p.2)];have s3:=Di (lo:=.int ((p.2+1:Nat):Int)) (hi:=.none) w3 dC (bk (by lia)) fun n h=>congrArg some h.symm;have hC:cut (toks d.p) (p.2+1) (toks d.p).length=(toks d.p).drop (p.2+1):=by unfold cut;rw[Ip]
   rw[hC]at s3;have a2:=KJ (gl (bx (l:=J++[bI (cut (toks d.p) 0 p.1)]++[bI (cut (toks d.p) (p.1+1) p.2)]) (a:=bI (cut (toks d.p) 0 p.1++cut (toks d.p) (p.1+1) p.2))) [bI ((toks d.p).drop (p.2+1))]) bx (ak g4 dC);have hr:=hO _ _ (oZ (toks d.p) p) (ak g4 dC) (bx (l:=J++[bI (cut (toks d.p) 0 p.1)]++[bI (cut (toks d.p) (p.1+1) p.2)]++[bI (cut (toks d.p) 0 p.1++cut (toks d.p) (p.1+1) p.2)]++[bI ((toks d.p).drop (p.2+1))])) (EN _ _ g1) (by unfold ft;rw[Hy];exact pE g3 (by rw[d.cn.b];exact oP))
   have he:=afU (J:=J++[bI (cut (toks d.p) 0 p.1)]++[bI (cut (toks d.p) (p.1+1) p.2)]++[bI (cut (toks d.p) 0 p.1++cut (toks d.p) (p.1+1) p.2)]++[bI ((toks d.p).drop (p.2+1))]++[bI (oZ (toks d.p) p)]) hd fun c hc=>aaN (n:=n0) g2 g3 g1 hc;obtain⟨y4,y5,τ,ih⟩:=SD hd oP hlen hO oR hl x0 x1 m (n+1) f _ (some (.int (p.1:Nat))) (some (.int (p.2:Nat))) (by lia) (iH hf) (gl (gl w3 [bI ((toks d.p).drop (p.2+1))]) [bI (oZ (toks d.p) p)]) (gl (gl (gl (gl (gl hj _) _) _) _) _)
   exact⟨y4,y5,τ,agq eB s1 s2 a1 s3 a2 hr he ih⟩
end
section
variable {F k:Nat}
noncomputable def qW(t:Nat):Nat->List Lf->List Lf
 |_,[]=>[]
 |i,x :: r=>if t / 2 ^ i % 2=1 then x :: qW t (i+1) r else qW t (i+1) r
theorem Tc(t:Nat):∀ (S:List Lf) (i:Nat),fY t i (bc S)=bc (qW t i S)
 |[]=>fun _=>rfl
 |x :: S=>fun i=>by
  show(if t / 2 ^ i % 2=1 then x.c.v :: fY t (i+1) (bc S) else fY t (i+1) (bc S))=bc (if t / 2 ^ i % 2=1 then x :: qW t (i+1) S else qW t (i+1) S);rw[Tc t S];split<;>rfl
theorem WB{J:LC}{j:Nat}{W:List Lf}(h:J[j]?=some (.lst (bc W))):Wd J j (isIn W):=fun l=>by
 show aF (!false) (bt j fun m=>aS (ir l.c.v m) fun b=>Ev.ret (V.bool b)) J=_;show bt j (fun m=>aS (ir l.c.v m) fun b=>Ev.ret (V.bool b)) J=_;rw[d8 h,Pb];rfl
theorem Xd{O:ay}{J:LC}{lv:LV}{v p:V}{j:Nat}{b:Bool}{x0 x1 x3 x4 x5 x7 x8:Option V}(h1:O 798 [p,.ref j] J=some (.ok (.bool b),J))(h2:O 798 [v,.ref j] J=some (.ok (.bool b),J)) :
  aD F O [none] o6 [x0,x1,some v,x3,x4,x5,some p,x7,x8,some (.ref j)] J=some (.ok .next,[x0,x1,some v,x3,x4,x5,some p,x7,x8,some (.ref j)],J):=by
 cases b<;>exact B8 [.v h1,.v h2,.c,.c]
theorem Oj{f:List V->Ex}{lv:LV}{J:LC}{j:Nat}{l:List V}(h7:lv[7]?=some (some (.ref j)))(hj:J[j]?=some (.lst l)):uS f lv J=f l lv J:=by
 show Fj f (lv[7]?.join) lv J=_;rw[h7];show Fn f J[j]? lv J=_;rw[hj];rfl
theorem K1{O:ay}{d:D}{S:List Lf}{x0 x1 x3 x4 x5 x8:Option V}{jl:Nat}(hS:(bc S).length<=30)(hO:∀ (J:LC) (j:Nat) (t:Lf->Bool),Wd J j t->O 798 [(push d false).v,.ref j] J=some (.ok (.bool (truth t d)),J)/\O 798 [d.v,.ref j] J=some (.ok (.bool (truth t d)),J)) :
  ∀ (m t:Nat) (J:LC) (x9:Option V),J[jl]?=some (.lst (bc S))->∃ lv τ,ot (aD F O [none] o6) m t [x0,x1,some d.v,x3,x4,x5,some (push d false).v,some (.ref jl),x8,x9] J=some (.ok .next,lv,τ)
 |0=>fun t J x9 _=>⟨_,_,rfl⟩
 |m+1=>fun t J x9 hj=>by
  have hg:(J++[Cell.lst (bc (qW t 0 S)),.raw,.raw,.raw])[J.length]?=some (.lst (bc (qW t 0 S))):=by rw[iF (aG _),jF];rfl
  obtain⟨h1,h2⟩:=hO _ _ _ (WB hg);obtain⟨lv,τ,ih⟩:=K1 hS hO m (t+1) _ (some (.ref J.length)) (gl hj [Cell.lst (bc (qW t 0 S)),.raw,.raw,.raw]);refine⟨lv,τ,?_⟩;show uS (xr (aD F O [none] o6) (ot (aD F O [none] o6) m (t+1)) t) _ J=_;rw[Oj rfl hj];unfold xr;rw[y0 hS];show Ex.seq (aD F O [none] o6) (ot (aD F O [none] o6) m (t+1)) [x0,x1,some d.v,x3,x4,x5,some (push d false).v,some (.ref jl),x8,some (.ref J.length)] (J++[.lst (fY t 0 (bc S)),.raw,.raw,.raw])=_
  rw[Tc];unfold Ex.seq;rw[Xd (lv:=[]) h1 h2];exact ih
theorem adu{O:ay}{τ aa aj bo dP ia cF mw zw:LC}{s v q:V}{p w n i j j':Nat}{T:List Nat}{y4 y5:Option V}{lv:LV}{J:LC}
  (a1:O 737 [s] (J++[.raw])=some (.ok (.ref p),aa)) (a2:O 765 [.ref p,.int 3] aa=some (.ok v,aj)) (a3:O 524 [v] aj=some (.ok (.str T),aj)) (a4:O 751 [.str T] aj=some (.ok (.ref w),bo)) (a5:O 772 [.ref w] bo=some (.ok v,bo)) (a6:bj .ne v v bo=some (.ok (.bool false),bo))
  (a7:O 779 [.ref w] bo=some (.ok (.ref n),dP)) (a8:dA (.ref n) .none (.int 4) dP=some (.ok (.ref i),ia)) (a9:jR i (jm 1 (cR (iQ i) (.two 4 5) (aD F O [none] (cq yM 4)) F 0)) [some s,some (.ref p),some v,some (.ref w),none,none,none,none,none,none] ia=some (.ok .next,[some s,some (.ref p),some v,some (.ref w),y4,y5,none,none,none,none],cF))
  (b1:O 531 [v] cF=some (.ok q,cF)) (b2:O 784 [v] cF=some (.ok (.ref j),mw)) (b3:O 805 [q] mw=some (.ok (.bool true),mw)) (b4:O 531 [q] mw=some (.ok q,mw)) (b5:bj .ne q q mw=some (.ok (.bool false),mw)) (b6:O 784 [q] mw=some (.ok (.ref j'),zw))
  (b7:mD (.ref j') (.ref j) zw=some (.ok (.bool false),zw))
  (b8:AF (aD F O [none] o6) [some s,some (.ref p),some v,some (.ref w),y4,y5,some q,some (.ref j),none,none] zw=some (.ok .next,lv,τ)):aq F O j5 [s] J=some (.ok (.bool true),τ):=by
 exact call_of [.v a1,.v a2,.v a3,.v a4,.v a5,.v a6,.c,.v a7,.v a8,.x a9,.v b1,.v b2,.v b3,.c,.c,.v b4,.v b5,.c,.v b6,.v b7,.c,.c,.x b8]
theorem Sd.all{p:Sd->Bool}(h:[Sd.A,.n5,.m5,.Z,.nB,.pr].all p=true)(a:Sd):p a=true:=iJ.mp h a (by cases a<;>decide)
def Al(l:Lf):Bool:=Nat.ble (cZ l.c.v) 90&&pV l.c.v
theorem ac4:∀ l:Lf,Al l=true
 |.named y=>by cases y<;>decide +kernel
 |.cls x=>by cases x<;>decide +kernel
 |.sgn x s=>Sd.all (p:=fun s=>Al (.sgn x s)) (by cases x<;>decide +kernel) s
 |.rel r a b=>Sd.all (p:=fun b=>Al (.rel r a b)) (Sd.all (p:=fun a=>[Sd.A,.n5,.m5,.Z,.nB,.pr].all fun b=>Al (.rel r a b)) (by cases r<;>decide +kernel) a) b
theorem N2:∀ S:List Lf,(Nat.ble (iD (bc S)) 90&&(bc S).all pV)=true
 |[]=>rfl
 |l :: S=>by
  have h:=aM.mp (ac4 l);have h':=aM.mp (N2 S);show(Nat.ble (max (cZ l.c.v) (iD (bc S))) 90&&(pV l.c.v&&(bc S).all pV))=true;rw[h.2,h'.2,y0 (yY.mpr ⟨bh h.1,bh h'.1⟩)];rfl
theorem YO{J:LC}{i j:Nat}{S:List Lf}(hl:(bc S).length<=30)(h:J[i]?=some (.lst (bc S)))(h':J[j]?=some (.lst (bc S))):mD (.ref i) (.ref j) J=some (.ok (.bool false),J):=by
 have k:=aM.mp (N2 S);show bt i (fun a=>bt j fun b=>aF (fS a&&mz a b&&Nat.ble (iD a) 90&&a.all pV&&Nat.ble (a.length+1) 64) (Ev.ret (V.bool false))) J=_;rw[d8 h,d8 h',Az,(wy (Az S)).mpr rfl,k.1,k.2,y0 (ak (cg hl) ⋯)];rfl
theorem adv{m:Ex}{lv:LV}{J:LC}{j:Nat}{l:List V}{o:rk}(h7:lv[7]?=some (some (.ref j)))(hj:J[j]?=some (.lst l))(hl:l.length<=30)(ht:ot m (min 32 (2 ^ l.length)) 0 lv (J++[.raw])=o):AF m lv J=o:=by
 show uS _ lv J=_;rw[Oj h7 hj,y0 hl];exact ht
theorem adn(hF:200000<=F){l:List Int}(hl:l.length<=63)(J:LC):∃ τ,ah F ae 201 810 [.eC (l.map V.int)] J=some (.ok (.bool true),τ):=by
 have yc:1000<=F:=ak ⋯ hF;obtain⟨c,aa,p,s,a1,P⟩:=abQ (F:=F) (k:=197) hl (J++[.raw]);obtain⟨_,a',b',a2,⟨d,rfl,hd⟩,_⟩:=agt (F:=F) 3 200 aa 0 0 ⋯ P ⋯;have xX:d.ht<=4:=jG hd;have Qg:d.ht<=20:=ak hd ⋯;have a3:=Zs yc 3 d hd ⋯ 182 (pz aa p s c a' b');have hT:d.t.length<=10240:=D.sF xX;have hP:d.p.length<=10240:=ak (M6 d.p) hT;have a4:=Wx (k:=198) hF (ak hT ⋯) (ak hP ⋯) d.gd (pz aa p s c a' b')
 have dC:(toks d.p).length<=100000:=ak (wD d.p) (ak hP ⋯);have hb:bC d.c<32:=e_ (d.kX 3 hd) ⋯;have hO:=fun (J:LC) (j:Nat) (ts:List Tok) dC hj aW bf=>adl (F:=F) (k:=20) hF 32 (J:=J) (j:=j) (ts:=ts) dC hj aW bf;have a5:=hO (pz aa p s c a' b'++[bI (toks d.p)]) _ _ dC bx (EN _ _ d.cC) (by unfold ft;rw[Hy,d.cn.b];exact hb)
 rw[aa4 (ak (f9 hd 2) ⋯) (ak hd ⋯)]at a5;have a5:ah F ae 200 772 [.ref (pz aa p s c a' b').length] (pz aa p s c a' b'++[bI (toks d.p)])=some (.ok d.v,pz aa p s c a' b'++[bI (toks d.p)]):=a5;generalize pz aa p s c a' b'=aj at *;have hw:(aj++[bI (toks d.p)])[aj.length]?=some (bI (toks d.p)):=bx;obtain⟨c4,fs,a7,jy,oR⟩:=abY (k:=198) hF (ak (wD d.p) (ak hP ⋯)) hw d.gJ
 have hf4:(aj++[bI (toks d.p)]++[c4,.lst (fs.map iO),.raw,.raw])[(aj++[bI (toks d.p)]).length+1]?=some (.lst (fs.map iO)):=GC ..;have w4:=gl hw [c4,.lst (fs.map iO),.raw,.raw];generalize aj++[bI (toks d.p)]++[c4,.lst (fs.map iO),.raw,.raw]=dP at *;have a8:dA (.ref ((aj++[bI (toks d.p)]).length+1)) .none (.int 4) dP=some (.ok (.ref dP.length),dP++[.lst ((fs.take 4).map iO)]):=by
  show bt _ (fun l=>aF (short l) fun J=>some (.ok (V.ref J.length),J++[Cell.lst (cut l 0 4)])) dP=_;rw[d8 hf4,mF iO (ak jy dC)];show some (_,dP++[Cell.lst ((fs.map iO).take 4)])=_;rw[<-Kf]
 obtain⟨y4,y5,cF,a9⟩:=SD (F:=F) (O:=ah F ae 200) (w:=aj.length) (j:=dP.length) (fs:=fs.take 4) Qg hb (ak (wD d.p) (ak hP ⋯)) hO (fun p h=>oR p (List.mem_of_mem_take h)) (ak (Va 4 fs) ⋯) (.eC (l.map V.int)) (.ref p) (fs.take 4).length 0 F (dP++[.lst ((fs.take 4).map iO)]++[.raw]) none none (fy _) (e_ (Va 4 fs) (dN ⋯ hF))
  (gl (gl w4 _) _) (gl bx _)
 have a9':jR dP.length (jm 1 (cR (iQ dP.length) (.two 4 5) (aD F (ah F ae 200) [none] (cq yM 4)) F 0)) [some (.eC (l.map V.int)),some (.ref p),some d.v,some (.ref aj.length),none,none,none,none,none,none] (dP++[.lst ((fs.take 4).map iO)])=some (.ok .next,[some (.eC (l.map V.int)),some (.ref p),some d.v,some (.ref aj.length),y4,y5,none,none,none,none],cF):=by
  unfold jR;rw[bx];exact a9
 have hp:=Ae d false;have hp4:(push d false).ht<=4:=ak hp (cg hd);have b1:=Nd (F:=F) d 200 cF (by lia);obtain⟨X,j,b2,hj⟩:=wL (F:=F) d 200 cF (by lia) (by lia);have b3:=Eu (F:=F) (push d false) 200 (cF++X) (by lia);rw[w7]at b3;have b4:=Nd (F:=F) (push d false) 200 (cF++X) (by lia);rw[abg]at b4;obtain⟨Y,j',b6,gH⟩:=wL (F:=F) (push d false) 200 (cF++X) (by lia) (by lia)
 rw[zS]at gH;have jV:(bc (simp d)).length<=30:=by
  unfold bc;rw[f7];exact ak (rW d) (ak (q8 ⋯ xX) ⋯)
 have A:=fun lv τ h=>adu (F:=F) (lv:=lv) (τ:=τ) a1 a2 a3 a4 a5 (ne_self Qg) a7 a8 a9' b1 b2 b3 b4 (ne_self (ak hp4 ⋯)) b6 (YO jV gH (gl hj Y)) h
 obtain⟨lv,τ,ht⟩:=K1 (F:=F) (O:=ah F ae 200) (d:=d) (S:=simp d) (x0:=some (.eC (l.map V.int))) (x1:=some (.ref p)) (x3:=some (.ref aj.length)) (x4:=y4) (x5:=y5) (jl:=j) (x8:=none) jV (fun J j t hw=>by
  have h1:=wB (F:=F) hw (push d false) 200 (by lia);rw[zB,tX]at h1
  exact⟨h1,wB (F:=F) hw d 200 (by lia)⟩) (min 32 (2 ^ (bc (simp d)).length)) 0 (cF++X++Y++[.raw]) none (gl (gl hj Y) _)
 exact⟨τ,A lv τ (adv rfl (gl hj Y) jV ht)⟩
end
structure Kg(w:World)(K:Frag):Prop where
 all:allB K=true
 hs:∀ p∈vo,FV K (td K p.1)=FU w p.2
 fn:∀ p∈GP,SM K p.1=some p.2.body
 sp:pU.map (fun a=>(fnAt K a).map fun fd=>(fd.body,fd.scope))=[47,87,89,93].map DY
 bM:K.lookup 72=some bM
 ie:K.lookup 47=some ie
 o71:K.lookup 71=some (dI (hW w ik) ik 2)
 o46:K.lookup 46=some (dI (hW w il) il 3)
 qd:K.lookup 37=some qd
 sy:K.lookup 30=some sy
 ei:findCls K (.type "Exception") (.type "type") (Str.ofString "__init__")=some (.val (.builtin "Exception.__init__"))
 mI:zY K=some mH
theorem adN{w:World}{K:Frag}(h:B4 K=vq w):Kg w K:=by
 obtain⟨h1,h⟩:=eD h;obtain⟨h2,h⟩:=eD h;obtain⟨h3,h⟩:=eD h;obtain⟨h4,h⟩:=eD h;obtain⟨h5,h⟩:=eD h;obtain⟨h6,h7⟩:=eD h;obtain⟨a1,h5⟩:=eD h5;obtain⟨a2,h5⟩:=eD h5;obtain⟨a3,h5⟩:=eD h5;obtain⟨a4,h5⟩:=eD h5;obtain⟨a5,a6⟩:=eD h5;exact⟨h1,T_.mp h2,T_.mp h3,h4,a1,a2,a3,a4,a5,a6,h6,h7⟩
section
variable {w:World}{K:Frag}
theorem yR{a b c d e:Bool}(h:(a&&b&&c&&d&&e)=true):a=true/\b=true/\c=true/\d=true/\e=true:=by
 rw[hG,hG,hG,hG]at h;exact⟨h.1.1.1.1,h.1.1.1.2,h.1.1.2,h.1.2,h.2⟩
theorem Kg.vx(k:Kg w K):[Cl.token,.reader,.fu].all (B2 K)=true/\vo.all (QI K)=true/\(HS.all fun p=>kW K p.1 p.2.v)=true/\E3 K=true/\(yk.all fun p=>(fnAt K p.1).any (yl K p.2))=true:=yR k.all
theorem Kg.cl(k:Kg w K)(c:Cl):B2 K c=true:=iJ.mp k.vx.1 c (by cases c<;>simp)
theorem Kg.mf(k:Kg w K)(c:Cl):plainGet K (bG c) (Str.ofString "")=true/\hasDictIn K (bG c)=true/\(∀ n∈ec c,findIn K (.ref (bG c)) n.s=some none/\takerIn K (bG c) n.s=some none) /\
  findIn K (.ref (bG c)) (Str.ofString "__setattr__")=some (some (.builtin "object.__setattr__"))/\plainOver K (bG c)=true/\(∀ n∈yS,∀ a,m8 c n=some a->findIn K (.ref (bG c)) n.s=some (some (.ref a))/\isFn K (.ref a)=true) /\
  makesIn K (bG c)=true/\findIn K (.ref (bG c)) (Str.ofString "__init__")=some (some (.ref (qo c)))/\typeIn K (.ref (qo c))=some (.type "function")/\keepIn K (.ref (bG c))=true:=by
 have h:=k.cl c;unfold B2 at h;obtain⟨h,b10⟩:=aM.mp h;obtain⟨h,b9⟩:=aM.mp h;obtain⟨h,b8⟩:=aM.mp h;obtain⟨h,b7⟩:=aM.mp h;obtain⟨h,b6⟩:=aM.mp h;obtain⟨h1,h2,h3,h4,h5⟩:=yR h;refine⟨h1,h2,fun n m=>?_,eq_of_beq h4,h5,fun n m a e=>?_,b7,eq_of_beq b8,eq_of_beq b9,b10⟩
 ·have q:=aM.mp (iJ.mp h3 n m);exact⟨eq_of_beq q.1,eq_of_beq q.2⟩
 ·have q:=iJ.mp b6 n m;rw[e]at q;have q:=aM.mp q;exact⟨eq_of_beq q.1,q.2⟩
theorem Kg.ko(k:Kg w K):t5 K where
 get c n:=(k.mf c).1
 dict c:=(k.mf c).2.1
 fld c n m:=((k.mf c).2.2.1 n m).1
 set c:=(k.mf c).2.2.2.1
 over c:=(k.mf c).2.2.2.2.1
 Lq c n m:=((k.mf c).2.2.1 n m).2
 ai c n a e:=(k.mf c).2.2.2.2.2.1 n (tW.mp (iJ.mp (show((Ab++BX).map (·.1)).all yS.contains=true from by decide +kernel) n (NT e))) a e
theorem Kg.mo(k:Kg w K):Kq K where
 makes c:=(k.mf c).2.2.2.2.2.2.1
 init c:=(k.mf c).2.2.2.2.2.2.2.1
 fn c:=(k.mf c).2.2.2.2.2.2.2.2.1
 keep c:=(k.mf c).2.2.2.2.2.2.2.2.2
theorem Kg.parts(k:Kg w K):(lJ K "reversed"=some none/\kW K "range" (.type "range")=true/\kW K "enumerate" (.type "enumerate")=true/\kW K "sorted" (.builtin "sorted")=true/\kW K "repr" (.builtin "repr")=true) /\
  rF K/\codeIn K (.ref 36) (Str.ofString "LedgerError.__init__")=true/\lJ K "Exception"=some none/\keepIn K (.ref d_)=true/\codeHdIn K 306 302=true/\codeHdIn K 771 767=true:=by
 have h:=k.vx.2.2.2.1;unfold E3 at h;obtain⟨h,c10,c11,c12,c13⟩:=yR h;obtain⟨h,c6,c7,c8,c9⟩:=yR h;obtain⟨c1,c2,c3,c4,c5⟩:=yR h;exact⟨⟨eq_of_beq c1,c2,c3,c4,c5⟩,⟨eq_of_beq c6,eq_of_beq c7,eq_of_beq c8⟩,c9,eq_of_beq c10,c11,c12,c13⟩
theorem Kg.em(k:Kg w K):C9 K:=⟨⟨_,_,k.bM,k.ie,k.o71,k.o46,k.qd⟩,k.sy,k.parts.2.2.1,k.ei,k.parts.2.2.2.1,k.parts.2.2.2.2.1⟩
theorem B6{x:String}{v:Value}(h:kW K x v=true):nsIn K mainGlobals (Str.ofString x)=some none/\bootBuiltins (Str.ofString x)=some v/\Str.ofString x≠Str.ofString "__name__":=by
 obtain⟨h,h3⟩:=aM.mp h;obtain⟨h1,h2⟩:=aM.mp h;exact⟨eq_of_beq h1,eq_of_beq h2,fun e=>by rw[e,beq_self_eq_true]at h3;exact Bool.noConfusion h3⟩
theorem Kg.ty(k:Kg w K){x:Str}{T:String}(h:K0 x T=true):nsIn K mainGlobals x=some none/\bootBuiltins x=some (.type T)/\x≠Str.ofString "__name__":=by
 obtain⟨h1,h2⟩:=aM.mp h;have e:x=Str.ofString T:=eq_of_beq h1;rw[e];rcases(vR _ _).mp h2 with q|q
 all_goals have e:T=_:=eq_of_beq q
 all_goals rw[e]
 ·exact B6 k.parts.1.2.1
 ·exact B6 k.parts.1.2.2.1
theorem Kg.bu(k:Kg w K){x:Str}{n:Bi}(h:Tb x=some n):nsIn K mainGlobals x=some none/\bootBuiltins x=some n.v/\x≠Str.ofString "__name__":=by
 obtain⟨p,hp,rfl⟩:=eO.mp h;have e:=Iz hp;have e:x=Str.ofString p.1:=eq_of_beq e;rw[e];exact B6 (iJ.mp k.vx.2.2.1 p (T9 hp))
theorem aaL(h:zY K=some mH):∃ t,lJ K "RESERVED"=some (some (.str mH t)):=by
 unfold zY at h;cases e:lJ K "RESERVED" with
 |none=>rw[e]at h;exact ck h
 |some o=>cases o with
  |none=>rw[e]at h;exact ck h
  |some v=>cases v with
   |str s t=>rw[e]at h;exact⟨t,by rw[aU h]⟩
   |_=>rw[e]at h;exact ck h
theorem Kg.glob{G:GI}(k:Kg G.w G.K)(hH:G.K.In G.H){x:Str}{y:V}(h:QH x=some y):C7 G x y:=by
 obtain⟨p,hp,rfl⟩:=eO.mp h;have e:=Iz hp;have e:x=Str.ofString p.1:=eq_of_beq e;rw[e];rcases aff (T9 hp)with m|rfl
 ·obtain⟨h1,h2⟩:=aM.mp (iJ.mp k.vx.2.1 p m);refine⟨td G.K p.1,eq_of_beq h1,fun I U i=>?_⟩;rcases(vR _ _).mp h2 with q|q
  ·exact MP (fun a o e=>i a o (hH a o e)) q
  ·exact ago (fun a o e=>i a o (hH a o e)) q (k.hs p m)
 ·obtain⟨t,e⟩:=aaL k.mI;exact⟨_,e,fun I U i=>Exists.intro t (congrArg (Value.str · t) Ei)⟩
theorem Kg.ce{G:GI}{F k:Nat}{O:ay}{cs:Scope}{ex ext:Expr->Option PE}(g:Kg G.w G.K)(gr:bH G)(sc:ki G O k)(hk:0<k)(hc:cs.kind=.function)(h1:∀ e pe,ex e=some pe->SE G O k cs e pe)(h2:∀ e pe,ext e=some pe->ST G O k cs e pe) :
  fM G F O k (tB cs ex ext fun _=>none):=
 ⟨gr,g.ko,g.parts.2.1,sc,fun _ _=>g.glob gr.K,fun _ _=>g.bu,fun _ _=>g.ty,fun _=>g.parts.1.1,fun _=>hk,hc,h1,h2,fun _ _ h=>ck h⟩
theorem Kg.HJ{G:GI}{F k:Nat}{O:ay}{cs:Scope}(g:Kg G.w G.K)(gr:bH G)(sc:ki G O k)(hk:0<k)(hc:cs.kind=.function):fM G F O k (g9 cs):=g.ce gr sc hk hc (fun _ _ h=>ck h) (fun _ _ h=>ck h)
end
noncomputable def aR(i:Nat):List Stmt×Scope:=((mK[i]?.bind fdOf).map (·.2)).getD ([],ls)
theorem Yd:[47,87,89,93].map DY=[47,87,89,93].map fun i=>some (.stmts (aR i).1,(aR i).2):=by kernel_rfl
theorem Kg.Yc{w:World}{K:Frag}(k:Kg w K){a i:Nat}(j:Nat)(h1:pU[j]?=some a)(h2:[47,87,89,93][j]?=some i){fd:FuncData}(h:fnAt K a=some fd):fd.body=.stmts (aR i).1/\fd.scope=(aR i).2:=by
 have e:=congrArg (fun l=>l[j]?) (k.sp.trans Yd);have e:(pU.map fun a=>(fnAt K a).map fun fd=>(fd.body,fd.scope))[j]?=([47,87,89,93].map fun i=>some (FuncBody.stmts (aR i).1,(aR i).2))[j]?:=e;rw[eS,eS,h1,h2]at e;have e:=aU (show some ((fnAt K a).map fun fd=>(fd.body,fd.scope))=some _ from e);rw[h]at e;exact eD (aU e)
noncomputable def adF:Arguments:=⟨[],[⟨Str.ofString "inner",none,⟨221,43,221,48⟩⟩],none,[],[],none,[]⟩
noncomputable def adE:Expr:=.Call (.Name (Str.ofString "read_sum") ⟨221,50,221,58⟩) [.Name (Str.ofString "inner") ⟨221,59,221,64⟩,.BinOp (.Name (Str.ofString "depth") ⟨221,66,221,71⟩) .Add (.Constant (.int 1) 0 ⟨221,74,221,75⟩) ⟨221,66,221,75⟩] [] ⟨221,50,221,76⟩
noncomputable def Oq:Scope:=⟨.function,[(Str.ofString "inner",.local),(Str.ofString "depth",.free),(Str.ofString "read_sum",.globalImplicit)],false,false,[]⟩
noncomputable def M_:Pos:=⟨221,36,221,76⟩
noncomputable def M9:Pos:=⟨614,39,614,84⟩
noncomputable def qJ:Str:=Str.ofString "read_primary.<locals>.<lambda>"
def gi(w:World)(H:Heap)(gens:Array GenState)(os:OsState)(K:Frag):GI where
 prog:=PySem.Challenge.rw_pc0155_01.row.prog
 w:=w
 H:=H
 gens:=gens
 os:=os
 zq:=V_
 tabs:=[.tab 302 #[] M_ qJ,.tab 767 #[] M9 lq]
 codeOk cs cd cn:=codeB cs cd cn=true
 K:=K
 Oo:=fun h x=>by
  obtain⟨pm,c',gz,oc,vs,t,h1,h2,h3,h4⟩:=x;exact⟨pm,c',gz,oc,vs,t,h _ _ h1,h _ _ h2,h3,h4⟩
noncomputable def only(e0:Expr)(p:PE)(e:Expr):Option PE:=by
 classical exact if e=e0 then some p else none
theorem EH(e0:Expr)(p:PE):only e0 p e0=some p:=by unfold only;rw[if_pos rfl]
theorem EI{e0 e:Expr}{p q:PE}(h:only e0 p e=some q):e=e0/\q=p:=by
 unfold only at h;split at h
 ·rename_i a;exact⟨a,(aU h).symm⟩
 ·exact ck h
def qh(f:Expr->Option PE)(e:Expr):Option PE:=cond (iU e 4) (f e) none
noncomputable def O0(e:Expr):Bool:=if h:e.ctorIdx=15 then Expr.Compare.elim e h fun l _ _ _=>(if h:l.ctorIdx=16 then Expr.Call.elim l h fun _ _ ks _=>!ks.isEmpty else false) else false
def Ee(f:Expr->Option PE)(e:Expr):Option PE:=cond (O0 e) (f e) none
theorem Ot{f:Expr->Option PE}{e:Expr}{p:PE}(h:qh f e=some p):f e=some p:=by
 unfold qh at h;cases q:iU e 4 with
 |false=>rw[q]at h;exact ck h
 |true=>rw[q]at h;exact h
theorem ZM{f:Expr->Option PE}{e:Expr}{p:PE}(h:Ee f e=some p):f e=some p:=by
 unfold Ee at h;cases q:O0 e with
 |false=>rw[q]at h;exact ck h
 |true=>rw[q]at h;exact h
noncomputable def tq:Expr->Option PE:=fun _=>none
def BU:Expr:=.Lambda adF adE Oq M_
def BS:Expr:=.Lambda lp lb ls M9
theorem abu(f:Expr->Option PE):jB (tB (aR 47).2 (qh f) tq fun _=>none) 40 (aR 47).1=H5 ((f BU).getD bN):=by kernel_rfl
theorem aa0(f:Expr->Option PE):jB (tB (aR 87).2 (qh f) tq fun _=>none) 40 (aR 87).1=H4 ((f BS).getD bN):=by kernel_rfl
theorem abt:jB (tB (aR 47).2 (qh (only BU .oy)) tq fun _=>none) 40 (aR 47).1=H2:=(abu _).trans (congrArg (fun x=>H5 (x.getD bN)) (EH BU .oy))
theorem aaZ:jB (tB (aR 87).2 (qh (only BS .ou)) tq fun _=>none) 40 (aR 87).1=Cd:=(aa0 _).trans (congrArg (fun x=>H4 (x.getD bN)) (EH BS .ou))
noncomputable def Lw:Expr:=match (aR 89).1 with
 |.If t _ _ _ :: _=>t
 |_=>default
noncomputable def Es:List Stmt:=(aR 89).1.drop 1
theorem Y7:(aR 89).1=.If Lw HO [] ⟨627,4,631,20⟩ :: Es:=by kernel_rfl
theorem Zd:(fW (g9 (aR 89).2) 40).E sJ=.call (.glob (.fn 784)) [.loc 2]:=by kernel_rfl
theorem Y8:(fW (g9 (aR 89).2) 40).E zO=.sl (.loc 0) (.int 1) .none:=by kernel_rfl
theorem Y_:HY=.aE ((fW (g9 (aR 89).2) 40).T Lw) [.ur] [] :: jB (g9 (aR 89).2) 40 Es:=by kernel_rfl
theorem wM:(aR 89).2.kind=.function/\(aR 89).2.names.lookup dg=some .cell/\(aR 89).2.names[2]?=some (ua,.local)/\(aR 89).2.names.lookup ua=some .local/\qQ (aR 89).2.names=[dg]:=by decide +kernel
noncomputable def HI(f:Expr->Option PE):CE:=tB (aR 93).2 tq (Ee f) fun _=>none
noncomputable def Sn:Expr:=.Call (.Name (Str.ofString "_law_simple") ⟨661,77,661,88⟩) [.Name (Str.ofString "plain") ⟨661,89,661,94⟩] [] ⟨661,77,661,95⟩
noncomputable def So(ea:Expr)(p1 p2 p3 p4:Pos):Expr:=.Call (.Name (Str.ofString "sorted") p1) [ea] [⟨some (Str.ofString "key"),.Name (Str.ofString "repr") p2,p3⟩] p4
def BR:Expr:=.Compare (So Sn ⟨661,70,661,76⟩ ⟨661,101,661,105⟩ ⟨661,97,661,105⟩ ⟨661,70,661,106⟩) [.NotEq] [So (.Name (Str.ofString "simple") ⟨661,117,661,123⟩) ⟨661,110,661,116⟩ ⟨661,129,661,133⟩ ⟨661,125,661,133⟩ ⟨661,110,661,134⟩] ⟨661,70,661,134⟩
noncomputable def EB:PE:=.nX (.call (.glob (.fn 784)) [.loc 6]) (.loc 7)
theorem adj:(aR 93).1=(aR 93).1.take 7++QU :: (aR 93).1.drop 8:=by kernel_rfl
theorem ads(f:Expr->Option PE):jB (HI f) 40 ((aR 93).1.take 7)=H7 ((f BR).getD (.cmp .ne bN bN)):=by kernel_rfl
theorem adp:jB (HI (only BR EB)) 40 ((aR 93).1.take 7)=yM:=(ads _).trans (congrArg (fun x=>H7 (x.getD (.cmp .ne bN bN))) (EH BR EB))
theorem Oi:jB (g9 (aR 93).2) 40 wY=o6/\jB (g9 (aR 93).2) 40 ((aR 93).1.drop 8)=[.ret (.bool true)]:=⟨by kernel_rfl,by kernel_rfl⟩
theorem adm:(fW (g9 (aR 93).2) 40).E Aw=.glob (.bi .min)/\(fW (g9 (aR 93).2) 40).E xl=.loc 7/\(fW (g9 (aR 93).2) 40).E Et=.bin .pow (.int 2) (.call (.glob (.bi .len)) [.loc 7])/\(fW (g9 (aR 93).2) 40).E Sn=.call (.glob (.fn 784)) [.loc 6] /\
  (fW (g9 (aR 93).2) 40).E (.Name (Str.ofString "simple") ⟨661,117,661,123⟩)=.loc 7:=⟨by kernel_rfl,by kernel_rfl,by kernel_rfl,by kernel_rfl,by kernel_rfl⟩
theorem adk:((aR 93).2.kind=.function/\(aR 93).2.names[9]?=some (iM,.local)/\(aR 93).2.names.lookup iM=some .local/\(aR 93).2.names.lookup d5=some .cell/\qQ (aR 93).2.names=[d5]) /\
  (["sorted","repr","range","enumerate"].all fun x=>decide ((aR 93).2.names.lookup (Str.ofString x)=some .globalImplicit)&&!(Str.ofString x==Str.ofString "__debug__"))=true:=by decide +kernel
section
variable {w:World}{H:Heap}{gens:Array GenState}{os:OsState}{K:Frag}{F k:Nat}{O:ay}
theorem pY{G:GI}{ce:CE}(o:fM G F O k ce){e:Expr}{p:PE}(h:(fW ce 40).E e=p):SE G O k ce.cs e p:=h▸(qP o 40).E e
theorem adC:(fW (g9 ls).off 40).E lb=uT:=by kernel_rfl
theorem adA(kg:Kg w K)(g:bH (gi w H gens os K)):wj (gi w H gens os K) where
 iff _ _:=Iff.rfl
 body:=pY (F:=0) (ce:=(g9 ls).off) ⟨g,kg.ko,kg.parts.2.1,BI g,fun _ _=>kg.glob (G:=gi w H gens os K) g.K,fun _ _=>kg.bu,fun _ _=>kg.ty,fun _=>kg.parts.1.1,fun h=>Bool.noConfusion h,rfl,fun _ _ h=>ck h,fun _ _ h=>ck h,fun _ _ h=>ck h⟩ adC
 code cd cn:=have e:codeB ls cd cn=true:=by kernel_rfl
  e
theorem agz{cd:Value}{cn:Str}(h:codeB (aR 47).2 cd cn=true):cd=.ref 306/\qJ=cn++Str.ofString ".<locals>."++Str.ofString "<lambda>":=by
 obtain⟨h,_⟩:=aM.mp h;have e:((aR 47).2.names.lookup (Str.ofString "read_operand")).isNone=false:=by kernel_rfl
 rw[e]at h;obtain⟨h1,h2⟩:=aM.mp (show(cd==.ref 306&&cn==Str.ofString "read_primary")=true from h);exact⟨eq_of_beq h1,by rw[eq_of_beq h2];kernel_rfl⟩
theorem agy{cd:Value}{cn:Str}(h:codeB (aR 87).2 cd cn=true):cd=.ref 771/\lq=cn++Str.ofString ".<locals>."++Str.ofString "<lambda>":=by
 obtain⟨_,h⟩:=aM.mp h;have e:((aR 87).2.names.lookup (Str.ofString "_law_reader")).isNone=false:=by kernel_rfl
 rw[e]at h;obtain⟨h1,h2⟩:=aM.mp (show(cd==.ref 771&&cn==Str.ofString "_law_read")=true from h);exact⟨eq_of_beq h1,by rw[eq_of_beq h2];kernel_rfl⟩
theorem afp:∀ y∈Oq.names,y.2=.free->(aR 47).2.names.lookup y.1=some .cell:=by decide +kernel
variable (kg:Kg w K)(g:bH (gi w H gens os K))(lo:wj (gi w H gens os K))(hk:0<k)(sc:ki (gi w H gens os K) O k)
include kg g hk sc
theorem agW(hc:(aR 47).2.kind=.function):gC (gi w H gens os K) F O k (aR 47).2 0 (aR 47).1 H2:=by
 have h:=vE (G:=gi w H gens os K) (F:=F) (kg.ce (cs:=(aR 47).2) (ex:=qh (only BU .oy)) (ext:=tq) g sc hk hc (fun e pe q=>by
  obtain⟨rfl,rfl⟩:=EI (Ot q)
  exact Yt (i:=0) (P:=302) (C:=306) g rfl (fun cd cn h=>agz h) kg.parts.2.2.2.2.2.1 ⋯ (fun _=>rfl) afp) fun _ _ h=>ck h) 40 (aR 47).1
 rw[abt]at h;exact h.sb
theorem agU:gC (gi w H gens os K) F O k (aR 89).2 1 (aR 89).1 HY:=by
 have o:=kg.HJ (G:=gi w H gens os K) (F:=F) (cs:=(aR 89).2) g sc hk wM.1;rw[Y7,Y_];exact ZZ ((qP o 40).T _) (Y9 ⟨wM.2.1,wM.2.2.1,wM.2.2.2.1⟩ (pY o Zd) hk (pY o Y8) (B5 wM.2.2.2.2)) (vE o 40 Es)
include lo
theorem agV(hc:(aR 87).2.kind=.function):gC (gi w H gens os K) F O k (aR 87).2 0 (aR 87).1 Cd:=by
 have h:=vE (G:=gi w H gens os K) (F:=F) (kg.ce (cs:=(aR 87).2) (ex:=qh (only BS .ou)) (ext:=tq) g sc hk hc (fun e pe q=>by
  obtain⟨rfl,rfl⟩:=EI (Ot q)
  exact Ys (i:=1) (P:=767) (C:=771) g lo rfl (fun cd cn h=>agy h) kg.parts.2.2.2.2.2.2 ⋯) fun _ _ h=>ck h) 40 (aR 87).1
 rw[aaZ]at h;exact h.sb
omit lo in
theorem agX:gC (gi w H gens os K) F O k (aR 93).2 1 (aR 93).1 TG:=by
 obtain⟨⟨hc,c1,c2,c3,c4⟩,c5⟩:=adk;have bu:∀ x∈["sorted","repr","range","enumerate"],(aR 93).2.names.lookup (Str.ofString x)=some .globalImplicit/\(Str.ofString x==Str.ofString "__debug__")=false:=fun x m=>by
  have q:=aM.mp (iJ.mp c5 x m);exact⟨of_decide_eq_true q.1,q9 _ |>.mp q.2⟩
 have bn:∀ x v,x∈["sorted","repr","range","enumerate"]->kW K x v=true->t7 K (aR 93).2 (Str.ofString x) v:=fun x v m h=>
  let q:=B6 h
  ⟨q.1,q.2.1,q.2.2,bu x m⟩
 obtain⟨_,bR,bE,bS,bP⟩:=kg.parts.1;have o:=kg.HJ (G:=gi w H gens os K) (F:=F) (cs:=(aR 93).2) g sc hk hc;obtain⟨p1,p2,p3,p4,p5⟩:=adm
 have h:=Mz (G:=gi w H gens os K) (F:=F) (O:=O) (k:=k) (ce:=HI (only BR EB)) (kg.ce g sc hk hc (fun _ _ h=>ck h) fun e pe q=>by
  obtain⟨rfl,rfl⟩:=EI (ZM q)
  exact YQ g (bn _ _ (.head _) bS) (bn _ _ (.tail _ (.head _)) bP) (pY o p4) rfl (pY o p5)) 40
  (adq g hk (bn _ _ (.tail _ (.tail _ (.tail _ (.head _)))) bE) (bn _ _ (.tail _ (.tail _ (.head _))) bR) (pY o p1) (pY o p2) (pY o p3) c1 c2 c3 (B5 c4) (Oi.1▸vE o 40 wY) (Oi.2▸vE o 40 _)) ((aR 93).1.take 7)
 rw[adp,<-adj]at h;exact h
end
section
variable {w:World}{H:Heap}{gens:Array GenState}{os:OsState}{K:Frag}{F:Nat}
theorem GQ{a:Nat}{fp:aB}:∀ {l:List (Nat×aB)},l.lookup a=some fp->(a,fp)∈l
 |[]=>fun h=>nomatch h
 |(b,q) :: l=>fun h=>by
  rw[f5]at h;cases e:a==b with
  |true=>rw[e]at h;rw[eq_of_beq e,<-aU h];exact .head _
  |false=>rw[e]at h;exact .tail _ (GQ h)
theorem Q4(kg:Kg w K){a:Nat}{fp:aB}(h:ae a=some fp):∃ fd,fnAt K a=some fd/\yl K fp fd=true/\fd.scope.kind=.function:=by
 have q:=iJ.mp kg.vx.2.2.2.2 _ (GQ h);cases e:fnAt K a with
 |none=>rw[show fnAt K (a,fp).1=none from e]at q;exact Bool.noConfusion q
 |some fd=>
  rw[show fnAt K (a,fp).1=some fd from e]at q;have q:yl K fp fd=true:=q;exact⟨fd,rfl,q,(of_decide_eq_true (aM.mp (aM.mp q).1).2).2.2.2.2.2.2.1⟩
theorem BG(kg:Kg w K)(g:bH (gi w H gens os K)){a:Nat}{fp:aB}{i:Nat}(j:Nat)(h:ae a=some fp)(h1:pU[j]?=some a)(h2:[47,87,89,93][j]?=some i)
  (hb:∀ O k,0<k->ki (gi w H gens os K) O k->(aR i).2.kind=.function->gC (gi w H gens os K) F O k (aR i).2 fp.eJ (aR i).1 fp.body):∃ fd body,rE (gi w H gens os K) a fp fd body/\BodyOk (gi w H gens os K) F fd.scope body fp:=by
 obtain⟨fd,e1,e2,e3⟩:=Q4 kg h;obtain⟨b1,b2⟩:=kg.Yc j h1 h2 e1;exact⟨fd,(aR i).1,Q3 (fun _ _ _ h=>h) g.K e1 b1 e2,fun O k hk sc=>b2▸hb O k hk sc (b2▸e3)⟩
theorem aiL(kg:Kg w K)(g:bH (gi w H gens os K)):zv (gi w H gens os K) F ae:=by
 have lo:=adA kg g;refine⟨g,kg.mo,kg.em,lo,fun a fp h=>?_⟩;cases e:pU.contains a with
 |true=>
  have m:a∈[307,772,784,810]:=tW.mp e;have inj:∀ {b:Nat}{f:aB},ae b=some f->a=b->fp=f:=fun q r=>by subst r;exact aU (h.symm.trans q)
  rcases bY.mp m with r|m
  ·obtain rfl:=inj (show ae 307=some qK by kernel_rfl) r;exact BG kg g 0 h (by rw[r];rfl) rfl fun O k hk sc hc=>agW kg g hk sc hc
  rcases bY.mp m with r|m
  ·obtain rfl:=inj (show ae 772=some yt by kernel_rfl) r;exact BG kg g 1 h (by rw[r];rfl) rfl fun O k hk sc hc=>agV kg g lo hk sc hc
  rcases bY.mp m with r|m
  ·obtain rfl:=inj (show ae 784=some yn by kernel_rfl) r;exact BG kg g 2 h (by rw[r];rfl) rfl fun O k hk sc hc=>agU kg g hk sc
  ·obtain rfl:=inj (show ae 810=some j5 by kernel_rfl) (b_.mp m);exact BG kg g 3 h (by rw[b_.mp m];rfl) rfl fun O k hk sc hc=>agX kg g hk sc
 |false=>
  obtain⟨fd,e1,e2,e3⟩:=Q4 kg h;have q:=kg.fn (a,fp) (List.mem_filter.mpr ⟨GQ h,by rw[show pU.contains (a,fp).1=false from e];rfl⟩);have q:((fnAt K a).bind fun fd=>match fd.body with|.stmts b=>some (jB (g9 fd.scope) 40 b)|_=>none)=some fp.body:=q;rw[e1]at q;have q:(match fd.body with|.stmts b=>some (jB (g9 fd.scope) 40 b)|_=>none)=some fp.body:=q;cases eb:fd.body with
  |stmts b=>
   rw[eb]at q;exact⟨fd,b,Q3 (fun _ _ _ h=>h) g.K e1 eb e2,fun O k hk sc=>(aU q▸vE (kg.HJ g sc hk e3) 40 b:eg (gi w H gens os K) F O k fd.scope b fp.body).sb⟩
  |_=>rw[eb]at q;exact ck q
end
section
noncomputable def kill(o:Obj):Obj:={ o with data:=.freed }
def kJ(h:Heap):Heap:=(h.update 302 kill).update 767 kill
set_option backward.match.sparseCases true in
theorem AN(h:Heap)(a:Addr):(h.update a kill).get? a=none:=by
 obtain⟨objs,l⟩:=h;show(match (objs.modify a kill)[a]? with|some ⟨_,_,.freed,_⟩=>none|o=>o)=none;rw[Array.getElem?_modify,if_pos rfl];cases objs[a]?<;>rfl
theorem A8{h:Heap}{b:Addr}{o:Obj}(e:h.get? b=some o)(h1:b∉ta):(kJ h).get? b=some o:=
 (dq _ _ _ _ fun q=>h1 (by rw[q];exact .tail _ (.head _))).trans ((dq _ _ _ _ fun q=>h1 (by rw[q];exact .head _)).trans e)
theorem aeu{h:Heap}{b:Addr}{o:Obj}(e:(kJ h).get? b=some o):h.get? b=some o/\b∉ta:=by
 have h2:b≠767:=fun q=>ck ((AN _ _).symm.trans (q▸e));have e:(h.update 302 kill).get? b=some o:=(dq _ _ _ _ h2).symm.trans e;have h1:b≠302:=fun q=>ck ((AN _ _).symm.trans (q▸e));exact⟨(dq _ _ _ _ h1).symm.trans e,fun m=>(bY.mp m).elim h1 fun m=>h2 (b_.mp m)⟩
theorem FP(h:Heap):(kJ h).objs.size=h.objs.size:=(CC _ _ _).trans (CC _ _ _)
section
variable {h:Heap}(t1:h.get? 302=some ib)(t2:h.get? 767=some ib)
include t1 t2
omit t1 t2 in
theorem aiD(a:asItWas h h' b o):∃ o',h'.get? b=some o':=a.elim (fun q=>⟨_,q⟩) fun a=>a.elim (fun a=>a.2.2.elim fun _ x=>x.elim fun _ y=>⟨_,y.2⟩) fun a=>a.2.2.1.elim fun o x=>x.elim fun _ y=>y.elim fun _ z=>⟨o,z.1⟩
omit t1 t2 in
theorem Lr{K:Frag}{c0:Addr}(hk:K.In h)(c:codeHdIn K c0 P=true)(t:CX I h' P #[] ps q):asItWas h h' P ib:=by
 cases t with|mk _ more h1 h2 _ _=>
 obtain⟨oc,us,_,_,_,_,_,_,_,e1,e2,e3,e4,_⟩:=codeHd_of_K hk c;exact .inr (.inl ⟨⟨_,oc,us,e1,e2,e3,e4⟩,rfl,#[],more,rfl,h2▸h1⟩)
omit t1 t2 in
theorem agH(c:C_ j5 ns pn):∃ x,(∀ b∈j5.cm,b=false)/\∀ n,cellsFrom n ns []=[(x,n)]:=by
 cases c with
 |no h0=>exact absurd h0 ⋯
 |par j x h0=>exact absurd h0 ⋯
 |own x hr iY hny hlx iX=>exact⟨x,iY,iX⟩
theorem DF(m:b∈ta):h.get? b=some ib:=(bY.mp m).elim (fun q=>q▸t1) fun m=>b_.mp m▸t2
theorem Pm{b:Addr}{o:Obj}(e:h.get? b=some o)(hd:∀ vs,o.data≠.fields vs):(kJ h).get? b=some o:=
 A8 e fun m=>hd #[] (aU (e.symm.trans (DF t1 t2 m))▸rfl)
theorem xH{b:Addr}{m:Str->Option Value}(n:h.Ns b m):(kJ h).Ns b m:=by
 obtain⟨o,es,ep,e1,e2,e3⟩:=n;exact⟨o,es,ep,Pm t1 t2 e1 (fun vs q=>by rw[e2]at q;cases q),e2,e3⟩
theorem afc{w:World}{K:Frag}{gens:Array GenState}{os:OsState}{L:List Str}{E7:ExcName->Option Value}{mg mb:Str->Option Value}(T:Top qv L E7 mg mb h)(X:∀ a o,K.lookup a=some o->h.get? a=some o/\a∉ta)(kg:Kg w K):bH (gi w (kJ h) gens os K) where
 K a o e:=A8 (X a o e).1 (X a o e).2
 big:=by
  show sysModules<(kJ h).objs.size;rw[FP];exact pE ⋯ (cS (X _ _ kg.bM).1)
 lim:=let ⟨mc,a,b⟩:=T.nolimit;⟨mc,xH t1 t2 a,b⟩
 lam:=by
  obtain⟨bm,ob,a1,a2,a3,a4,a5,a6⟩:=T.bmain;have e:=Pm t1 t2 a3 (fun vs q=>by rw[a6]at q;cases q);refine⟨mg,xH t1 t2 T.g,fun P hP=>⟨bm,ob,a1,a2,fun q=>?_,fun q=>?_,e,a4,a5,a6⟩⟩
  ·obtain⟨o,es,ep,e1,e2,_⟩:=T.g;rw[q,e1]at a3;rw[<-aU a3,e2]at a6;cases a6
  ·rw[q]at e;exact ck (hP.symm.trans e)
 top:=⟨L++((recsOf qv).map (·.name)++((litsOf qv).map (·.1)++(clssOf qv L).map (·.name))),mg,mb,xH t1 t2 T.g,xH t1 t2 T.b,(let ⟨mc,a,b⟩:=T.nolimit;⟨mc,xH t1 t2 a,b⟩),T.builtins,fun x h1 h2 _ _ _=>by
  rw[hU,hU,hU,not_or,not_or,not_or]at h2
  exact T.free x h1 h2.1 h2.2.1 h2.2.2.1 h2.2.2.2⟩
omit t1 t2 in
theorem ints_rep{G:GI}{I:Im}{U:List Loc}{vs:List Value}{l:List Int}(h:IntsAre vs l):av G I U (l.map V.int) vs:=by
 induction h with
 |nil=>rfl
 |cons n t _ ih=>exact Exists.intro _ ⟨_,rfl,Exists.intro t rfl,ih⟩
omit t1 t2 in
theorem ab5{fp:aB}{n:Nat}(k:fp.keep=true):∀ {o:rk},xd fp n o=some (.ok v,τ)->∃ fl lv J,o=some (.ok fl,lv,J)/\ma fl=v
 |none,h=>ck h
 |some (.ok fl,lv,J),h=>⟨fl,lv,J,rfl,y7 (eD (aU ((if_pos k).symm.trans h))).1⟩
 |some (.error i,lv,J),h=>by
  have h:(if n<=i/\isExc J i=true then some (Except.error n,J.take n++[Cell.exc]) else none)=some (Except.ok v,τ):=h;split at h<;>cases h
omit t1 t2 in
theorem acu(h:810<n):[n,302,767,n+1].Nodup:=
 .cons (vX.mpr ⟨fun q=>absurd (q▸h) ⋯,vX.mpr ⟨fun q=>absurd (q▸h) ⋯,vX.mpr ⟨dG (eQ _),nofun⟩⟩⟩)
  (.cons (vX.mpr ⟨by decide,vX.mpr ⟨fun q=>absurd (show 810<302 from q▸pA h) ⋯,nofun⟩⟩) (.cons (vX.mpr ⟨fun q=>absurd (show 810<767 from q▸pA h) ⋯,nofun⟩) (.cons nofun .nil)))
omit t1 t2 in
theorem aev(hm:a∈[h.objs.size,302,767,h.objs.size+1]):(kJ h).get? a=none:=by
 have hI:∀ a,h.objs.size<=a->(kJ h).get? a=none:=fun a ha=>Option.eq_none_iff_forall_ne_some.mpr fun o e=>fG.mpr (FP h▸ha) (cS e);exact(bY.mp hm).elim (fun q=>hI _ (eR q.symm)) fun m=>(bY.mp m).elim (fun q=>q▸(dq _ _ _ _ ⋯).trans (AN _ _)) fun m=>(bY.mp m).elim (fun q=>q▸AN _ _) fun m=>b_.mp m▸hI _ (i_ _)
omit t1 t2 in
theorem adt{w:World}{K:Frag}{s:Shared}{L:List Str}{E7:ExcName->Option Value}{mg mb:Str->Option Value}{A0:Addr}{vs:List Value}{l:List Int}{Q:VP}{E:VP}(kg:Kg w K)(X:∀ a o,K.lookup a=some o->s.heap.get? a=some o/\a∉ta)
  (t1:s.heap.get? 302=some ib) (t2:s.heap.get? 767=some ib) (T:Top qv L E7 mg mb s.heap) (hl:s.heap.get? A0=some (listOf vs.toArray 0)) (hv:IntsAre vs l) (QB:l.length<=63)
  (h:∀ s',OldK s.heap s'.heap->s'.os=s.os->s'.gens=s.gens->Q (.bool true) s'):wpAny (model PySem.Challenge.rw_pc0155_01.row.prog w) callerA (call (.ref 810) [.ref A0]) Q E s:=by
 let G:=gi w (kJ s.heap) s.gens s.os K;let n:=s.heap.objs.size;have g:bH G:=afc t1 t2 T X kg;have A:zv G 200000 ae:=aiL kg g;obtain⟨fd,body,f,hb⟩:=A.fo 810 j5 (by kernel_rfl);cases f with|mk o pn bZ keep hK hd hbd he hc code BZ bind dY dl P cells kind co gen=>
 have jv:K.In s.heap:=fun a o e=>(X a o e).1;obtain rfl:bZ=[]:=dY _ [] (aC.refl _);refine y_ (IC (R:=Wb Q E) (Vw ⋯ (jv _ _ hK) hd co gen hbd (codeRec_of jv code) ?_) fun r s' h=>by rcases r with e|(v|_|_|_)<;>exact h);rw[hc];have pl:=P.len;refine bind s [.ref A0] jv (aG 1) (aG 1) _ _ _ _ (ID kind (fun x hx=>?_) fun env e s1 x1=>?_)
 ·obtain⟨i,h1,h2⟩:=Df hx;obtain⟨b,lX,vk,j1⟩:=P.at h1;cases b with
  |false=>exact .inl j1
  |true=>exact .inr ⟨j1,vI (.inr (mem_of_lookup j1))⟩
 have e:env=callEnvC fd n 810:=e;subst e;obtain⟨h1,jg,rfl,kO⟩:=x1.done;refine⟨((let ⟨mc,a,b⟩:=T.nolimit;⟨mc,a,b⟩:s.heap.NoLimit)).keeps kO,codeAny_func ?_⟩;have ns:=x1.toInCall.ns;have cell:=x1.cell;rw[he]at ns cell ⊢;obtain⟨x,iY,iX⟩:=agH cells;obtain⟨oc,nk,oN⟩:=cell x _ (by rw[iX,f5,beq_self_eq_true]);have hA:A0∉ta:=fun m=>Value.noConfusion (congrArg Obj.cls (aU ((DF t1 t2 m).symm.trans hl)))
 let c':Cx:={ cn:=fd.qualname,cs:=fd.scope,fa:=810,cd:=fd.code,cl:=cellsFrom (n+1) fd.scope.names [],L:=n,A:=callerA.deeper (envX fd.qualname fd.scope n 810 fd.code (cellsFrom (n+1) fd.scope.names [])),outer:=[],fr:=[],cv:=me j5 [.eC (l.map V.int)],de:=G.tabs };have rx:∀ U,av G (fun a=>(kJ s.heap).get? a) U [.eC (l.map V.int)] [.ref A0]:=fun U=>wZ (Exists.intro A0 ⟨vs,0,rfl,A8 hl hA,ints_rep hv⟩)
 have st:St G c' (fun a=>(kJ s.heap).get? a) (G.tabs++[.raw (n+1) oc]) ([.tab,.tab]++[.raw]) (cW j5 [.eC (l.map V.int)]) { s with heap:=h1,toks:=jg }:=by
  refine⟨fun a o e=>kO _ _ (aeu e).1,fun a o e=>e,eR (FP _),⟨_,ns,P.locs (fun x=>by rw[Env.kindOf]) (rx _) rfl⟩,fun p hp=>absurd hp q_,⟨rfl,fun i l y e1 e2=>?_⟩,acu (cS (jv _ _ hK)),fun a ha=>aev ha,fun i y e=>(Ht iY e).elim,aA.app _ _,fun v hv=>ck hv,fun a o ha e=>absurd (cS e) (fG.mpr ha),fun i y e=>?_,⟨_,rfl⟩,fun l hl=>?_,BZ,rfl,rfl⟩
  ·match i,e1,e2 with
   |0,e1,e2=>cases e1;cases e2;exact⟨#[],#[],kO _ _ t1,rfl,True.intro,.inl rfl⟩
   |1,e1,e2=>cases e1;cases e2;exact⟨#[],#[],kO _ _ t2,rfl,True.intro,.inl rfl⟩
   |2,e1,e2=>cases e1;cases e2;exact⟨nk,HH oN⟩
  ·match i,e with
   |0,e=>cases e;rfl
   |1,e=>cases e;rfl
   |2,e=>cases e;rfl
  ·rcases bY.mp hl with rfl|hl
   ·exact⟨_,_,_,_,rfl⟩
   ·exact⟨_,_,_,_,b_.mp hl⟩
 obtain⟨τ,ht⟩:=adn (F:=200000) (aG _) QB [.tab,.tab];have rd:Ready c' 200 fd.scope:=⟨rfl,⟨kind,Vx rfl,rfl,P.nd,True.intro,fun x hx=>vI (.inr (mem_of_lookup hx))⟩,show 1+claimMargin+1+3*200+20<990 by decide,show 4+3+16*200+100<9900 by decide,fun _=>rfl⟩;refine hb (ah 200000 ae 200) 200 ⋯ (Nk A 200) c' _ _ ⟨_,_,_,st⟩ _ _ rd (fun _=>⟨_,_,oc,_,rfl,aG _,bx,oN⟩) ?_
 have ht:xd j5 2 (aD 200000 (ah 200000 ae 200) c'.cv j5.body (cW j5 [.eC (l.map V.int)]) ([.tab,.tab]++[.raw]))=some (.ok (.bool true),τ):=ht;show dF (Z.mk _ _ _ st) (aD 200000 (ah 200000 ae 200) c'.cv j5.body (cW j5 [.eC (l.map V.int)]) ([.tab,.tab]++[.raw])) _ _;obtain⟨fl,bA,aa,eo,e⟩:=ab5 rfl ht;rw[eo];intro f' z' l' rf;have rv:=Sl rf;rw[e]at rv;have rv:zX f'=.bool true:=rv
 show Q (zX f') z'.s;rw[rv];have old:∀ b o,s.heap.get? b=some o->asItWas s.heap z'.s.heap b o:=fun b o eb=>by
  by_cases m:b∈ta
  ·obtain rfl:=aU ((DF t1 t2 m).symm.trans eb);rcases bY.mp m with rfl|m
   ·exact Lr jv kg.parts.2.2.2.2.2.1 (z'.st.tabAt (i:=0) rfl).2.2
   ·obtain rfl:=b_.mp m;exact Lr jv kg.parts.2.2.2.2.2.2 (z'.st.tabAt (i:=1) rfl).2.2
  ·exact .inl (z'.st.im _ _ (z'.st.h0 _ _ (A8 eb m)))
 refine h z'.s ⟨old,fun b o eb=>aiD (old b o eb)⟩ z'.st.os z'.st.gens
end
end
inductive Yp(w:World)(h:Heap):Prop
 |mk (K:Frag) (kg:Kg w K) (X:∀ a o,K.lookup a=some o->h.get? a=some o/\a∉ta) (t1:h.get? 302=some ib) (t2:h.get? 767=some ib)
theorem Yp.keeps{w:World}{h h':Heap}(y:Yp w h)(k:∀ b o,h.get? b=some o->h'.get? b=some o):Yp w h':=
 let ⟨K,kg,X,t1,t2⟩:=y
 ⟨K,kg,fun a o e=>⟨k _ _ (X a o e).1,(X a o e).2⟩,k _ _ t1,k _ _ t2⟩
theorem ends(w:World):∃ r,openEnds treeTable pw w 10000=some r.2.1.abs/\wW w r=yf w:=
 ac7 fun os=>by
  obtain⟨r,h1,h2⟩:=eO.mp (run w os);exact⟨r,h1,congrArg (fun x=>x.1.1) h2,h2⟩
theorem Ls{T:BT}{n:Nat}{l:Life}{a:Nat}(h:a<n)(e:(T.get a).bind alive=some ib):(absHeap T n l).get? a=some ib:=by
 obtain⟨o,h1,h2⟩:=f6.mp e;exact(abs_get h h1).trans h2
theorem Wi{w:World}{s:Shared}(e:openEnds treeTable pw w 10000=some s):Yp w s.heap:=by
 obtain⟨r,h1,h2⟩:=ends w;obtain rfl:=aU (h1.symm.trans e);have hn:r.2.1.n=811:=congrArg (fun x=>x.2.1) h2;have hk:B4 (qj r.2.1.tree)=vq w:=congrArg (fun x=>x.2.2.1) h2;have b1:(r.2.1.tree.get 302).bind alive=some ib:=congrArg (fun x=>x.2.2.2.1) h2;have b2:(r.2.1.tree.get 767).bind alive=some ib:=congrArg (fun x=>x.2.2.2.2) h2;refine⟨_,adN hk,fun a o e=>?_,?_,?_⟩
 ·show(absHeap _ _ _).get? a=_/\_;rw[hn];exact adT e
 ·show(absHeap _ _ _).get? _=_;rw[hn];exact Ls ⋯ b1
 ·show(absHeap _ _ _).get? _=_;rw[hn];exact Ls ⋯ b2
theorem acP{α β:Type}{o:Option α}{s:α}{f:α->β}{b:β}(h:o=some s)(e:f s=b):(o.map fun s=>(f s,some s))=some (b,o):=by subst h;subst e;rfl
theorem ZK{w:World}{r:Rt}(h:wW w r=yf w){m:List Str}(hm:m=[]):openSeen qv lo m (fun _=>true) true r.2.1.abs=openGood qv lo:=by
 subst hm;exact congrArg (fun x=>x.1.2) h
theorem ac6:LeftO PySem.Challenge.rw_pc0155_01.row.prog qv lo (fun _=>true) (fun s=>some s) (fun w=>openEnds treeTable pw w 10000) 10000:=fun w=>
 let ⟨r,h1,h2⟩:=ends w
 acP (f:=fun s=>openSeen qv lo (importedModules pw.main.body) (fun _=>true) true s) h1 (ZK h2 FI)
abbrev jk:OpenLaw:=PySem.Challenge.rw_pc0155_01
theorem ac3{P:Params}{h:Heap}{a:Addr}{xs:List WData}{vs:List Value}(W:Well P h (.ref a) (.list xs))(hl:h.IsList a vs.toArray):h.get? a=some (listOf vs.toArray 0):=by
 obtain⟨o,e,hc,n,hd⟩:=hl;cases W with
 |list e' _=>
  obtain rfl:=aU (e'.symm.trans e);cases hd;exact e
theorem adi{d:DefRec}{kwd:List (Str×Expr)}(hn:d.name=Str.ofString "law"):WalkO qv lo (fun _ _=>True) Yp jk.row.toRowW d kwd (fun f vs=>PySem.call f vs):=by
 intro w s0 s1 mg mb G Y a o pm cd doc dV kV ho hd Bz hD PM hg args vals as aeC aeM Bf oG cQ;obtain⟨K,kg,X,t1,t2⟩:=Y;have hl:lJ K "law"=some (some (.ref 810)):=by
  obtain⟨h1,h2⟩:=aM.mp (iJ.mp kg.vx.2.1 ("law",.fn 810) (.head _));rcases(vR _ _).mp h2 with q|q
  ·exact(eq_of_beq h1).trans (by rw[show td K "law"=.ref 810 from eq_of_beq q])
  ·exact nf q
 have e:a=810:=by
  have q:=mg_of (fun a o e=>(X a o e).1) G.T.g hl;rw[hn,q]at PM;exact(Value.ref.inj (aU PM)).symm
 subst e;clear hd Bz hD ho
 wrow_args aeC aeM Bf oG cQ
 rename_i W R I R2 QB _;refine adt kg X t1 t2 G.T (ac3 W (by assumption)) I (by omega) fun s' k ho s7=>?_;exact⟨.inl ⟨.bool true,.bool true,[],rfl,fun _=>rfl,.bool true,by wrow_post,fun _=>⟨.nil,fun _ h=>nomatch h⟩⟩,k,ho,.of_eq (s7.trans hg)⟩
theorem aiY(ok:jk.wellSaid=true):jk.Holds:=holds_law ok fun Z1=>by
 refine holds_open (q:=qv) (loose:=lo) (Xt:=fun _=>true) (XP:=fun _ _=>True) (Yf:=fun s=>some s) (Ya:=fun w=>openEnds treeTable pw w 10000) (YP:=Yp) (N:=10000) ac6 (fun w s e=>Wi e.symm) (fun w h h' y k=>y.keeps k) (fun _ _=>True.intro) (fun _ _ _ x _=>x)
  (by rfl) (by rfl) (by rfl) (fun s e=>recFacts_nil rfl) (by rfl) Z1 (by decide +kernel) ⟨rfl,rfl,rfl,rfl,rfl,by decide +kernel⟩ ?_ (adi (by rfl))
 w_witness2
theorem ES(lk:Look):∀ (a b:List Stmt),noRoadLSs lk (a++b)=(noRoadLSs lk a&&noRoadLSs lk b)
 |[]=>fun b=>rfl
 |s :: r=>fun b=>(congrArg (noRoadLS lk s&&·) (ES lk r b)).trans (Bool.and_assoc ..).symm
noncomputable abbrev lO:Look:={ strict:=!true,foot:=none,bare:=[] }
theorem aaK:lO.str mH=true:=by
 have h1:roadStr mH=false:=by
  rw[Ei];unfold roadStr;rw[T8,T8,show List.any mI (fun c=>c==123||c==125)=false by decide +kernel,show List.any mI (fun c=>c==46)=false by decide +kernel];rfl
 have h2:lO.word mH=true:=by rw[Ei];decide +kernel
 unfold Look.str;rw[h1,h2,vZ];rfl
theorem MG{l:List Stmt}(h:PySem.W.Fast.tw8326940854005059898 lO l=true):noRoadLSs lO l=true:=by rw[T7];exact h
noncomputable def tR:List Expr:=[.Name (Str.ofString "RESERVED") ⟨500,0,500,8⟩]
theorem aaE:noRoadLSs lO ((mK.drop 76).take 1)=true:=by
 have e:noRoadLSs lO ((mK.drop 76).take 1)=((lO.stores tR&&noRoadLs lO tR&&lO.str mH)&&true):=by kernel_rfl
 rw[e,aaK];decide +kernel
theorem aaG:noRoadLSs lO mK=true:=by
 have e:mK=mK.take 76++((mK.drop 76).take 1++mK.drop 77):=by kernel_rfl
 rw[e,ES,ES];exact look_both (MG (by kernel_rfl)) (look_both aaE (MG (by kernel_rfl)))
theorem aaF:List.filter (readsOut pw pw.main.body) (["vars","dir","locals"]:List Str)=[]:=by
 rw[PySem.W.Fast.te13343964577679436407]
 kernel_rfl
theorem aaC:(importedModules pw.main.body).all cThrough.contains=true:=by rw[FI];rfl
theorem aaD:noRoadLSs { strict:=!(importedModules jk.row.prog.main.body).all cThrough.contains,foot:=none,bare:=List.filter (readsOut jk.row.prog jk.row.prog.main.body) (["vars","dir","locals"]:List Str) } jk.row.prog.main.body=true:=by
 have e:=aaG;rw[show({ strict:=!(importedModules jk.row.prog.main.body).all cThrough.contains,foot:=none,bare:=List.filter (readsOut jk.row.prog jk.row.prog.main.body) (["vars","dir","locals"]:List Str) }:Look)=lO by rw[show List.filter (readsOut jk.row.prog jk.row.prog.main.body) (["vars","dir","locals"]:List Str)=[] from aaF,show(importedModules jk.row.prog.main.body).all cThrough.contains=true from aaC]]
 exact e
theorem aiX:jk.wellSaid=true:=by
 unfold OpenLaw.wellSaid OpenRow.wellSaid OpenRow.partSaid looksOpen
 repeat' (with_reducible refine look_both ?_ ?_)
 all_goals try with_reducible exact aaD
 all_goals try rewrite [PySem.W.Fast.te10501279942588096481]
 all_goals try rewrite [PySem.W.Fast.te8179353310426384613]
 all_goals try rewrite [T7]
 all_goals try rewrite [PySem.W.Fast.te9558739934217749035]
 all_goals try rewrite [PySem.W.Fast.te16286561074155671207]
 all_goals try rewrite [PySem.W.Fast.te17119622794617984870]
 all_goals try rewrite [PySem.W.Fast.te11788848310118352699]
 all_goals try rewrite [PySem.W.Fast.te12862048085361865435]
 all_goals try rewrite [PySem.W.Fast.te8377067652309620493]
 all_goals try rewrite [PySem.W.Fast.te13582783067957832011]
 all_goals try rewrite [PySem.W.Fast.te6984425678791042302]
 all_goals kernel_rfl
end
end Mine
theorem PySem.Challenge.cw_pc0155_01_holds : PySem.Challenge.rw_pc0155_01.Holds := by
  exact Mine.aiY Mine.aiX
