import PyProof.Rows.All
import Wide.All
import OpenK.AllK
import Wide.FinOn
import KE.KSortAsk
import Lean
import PySem.Challenge.RW_nz0539_01
open PySem PySem.W PySem.Calls PyProof.Rows
set_option Elab.async false
set_option maxRecDepth 100000
set_option maxHeartbeats 4000000
set_option linter.all false
set_option genSizeOf false
set_option genInjectivity false
set_option bootstrap.genMatcherCode false
set_option compiler.extract_closed false
namespace Mine.Internal
open Nat renaming le_trans->aB,le_of_eq->fh,le_refl->br,le_of_ble_eq_true->fu,lt_of_lt_of_le->eW,le_succ_of_le->gP,le_of_succ_le_succ->uK,lt_succ_of_le->qO,le_of_not_lt->qN,ne_of_lt->lu,zero_le->jU,lt_irrefl->qL,lt_trans->Br,le_of_lt->Bq,le_add_right->xj,eq_of_beq_eq_true->ES,ne_of_gt->rG,lt_succ_of_lt->BG,lt_of_le_of_lt->Kp,succ_le_succ->Kg,not_lt_of_le->Kf,add_right_cancel->OQ,min_le_left->Kd,mul_comm->EF,lt_succ_self->OG,lt_add_of_pos_right->YW,add_comm->J9,le_add_left->OC,lt_of_sub_eq_succ->YO,mul_le_mul->OB,le_sub_of_add_le->YL,add_assoc->Ov,sub_add_cancel->Yz,not_lt->J7,add_right_comm->Yy,succ_pos->Ou,succ_mul->Ot,mod_eq_of_lt->Yp,not_lt_zero->Yk,min_eq_left->Yj,le_antisymm->Yi,sub_le->Om,mod_lt->Ol,blt_eq->Oj,add_le_add->Yb,succ_inj->X0,lt_or_ge->XZ,lt_asymm->XY,eq_zero_of_not_pos->ad6,le_of_add_left_le->ad1,sub_succ_lt_self->adV,mul_le_mul_right->adU,le_succ->XS,add_lt_add_left->adQ,add_le_add_left->adP,lt_of_lt_of_eq->adK,lt_of_le_of_ne->adJ,zero_lt_of_lt->adG,le_of_succ_le->adF,casesOn->O2
open _root_.List renaming length_map->bw,getD_eq_getElem?_getD->dS,getElem?_eq_getElem->eE,mem_map->bN,map_map->eL,length_range->iU,map_congr_left->dZ,mem_cons->bW,append_assoc->eN,map_append->dN,mem_range->dh,length_append->fK,length_filter_le->jk,size_toArray->g7,getElem?_map->g9,map_cons->fJ,mem_append_right->lz,drop_eq_getElem_cons->pQ,mem_map_of_mem->j9,getElem_mem->jj,mem_singleton->ly,mem_filter->ji,all_eq_true->j8,nodup_cons->j7,mem_append->j6,perm_middle->nS,mem_append_left->uJ,getElem?_eq_some_iff->Bu,getElem?_eq_none->yt,append_nil->pP,sublist_cons_self->Bt,length_cons->wx,filter_sublist->yr,getElem_map->yq,take_succ_eq_append_getElem->SN,flatten_cons->Bs,length_singleton->J3,map_id->sF,nodup_append->G6,getElem?_eq_none_iff->SJ,pairwise_cons->J1,pairwise_map->J0,getElem?_range->MG,not_mem_nil->JZ,mem_reverse->JY,perm_append_comm->ET,filter_congr->BH,map_eq_nil_iff->ER,nodup_range->BE,length_take->BD,length_eq_zero_iff->Kv,mem_filterMap->EO,filter_append->EN,ext_getElem?->EM,mem_of_getElem?->Ks,mem_iff_getElem->Kr,getElem?_append_right->O0,filter_cons->EJ,any_eq_true->EI,sublist_append_left->OY,idxOf_lt_length_iff->OX,any_cons->BB,getElem_range->Kq,pairwise_singleton->OW,pairwise_lt_range->OV,flatMap_cons->Ko,take_append_drop->OU,length_replicate->OT,cons_append->OS,filter_nil->Ke,length_reverse->OP,nodup_nil->Ka,sublist_append_right->YY,lookup_cons->OL,length_drop->OJ,ext_getElem->OI,cons_ne_nil->OH,take_of_length_le->YV,not_of_lt_findIdx->YU,drop_eq_nil_of_le->YT,length_nil->YR,idxOf_cons->OE,forIn_cons->OD,mem_of_mem_take->YN,cons_merge_cons->YM,toList_toArray->YK,length_flatMap->YJ,flatMap_append->YI,append_toArray->YH,sum_cons->YG,map_take->Ox,mem_cons_self->YF,lookup_append->YE,getElem_idxOf->YD,reverse_cons->Yx,map_inj_left->Yw,foldl_append->Yv,isEmpty_iff->Ys,drop_length->Yr,range_succ->Yo,foldl_cons->Yn,length_eraseIdx_of_lt->aej,zipWith_nil_right->aeb,zipWith_cons_cons->aea,merge_perm_append->ad9,map_nil->ad8,getElem?_toArray->ad5,eq_replicate_iff->ad4,countP_mono_left->ad3,mem_of_getLast?->ad0,length_take_le'->adZ,contains_eq_mem->adY,filter_eq_self->adT,zip_cons_cons->adO,map_replicate->adN,any_eq_false->adI,casesOn->nU
open PySem renaming wpAny_bind->aN,wpAny_pure->cG,wpAny_mono->fk,sizeLine_eq->nR,mem_of_lookup_some->Dk,wpAny_holding->wo,wpAny_newObj_type->G4,wpAny_call_entry->xh,wpAny_setField->uN,codeAny_builtin->xf,wpAny_setState_of->BF,wpAny_askSetting->BC,wpAny_standAt->xe,strKind_is->rE,plainId_quiet->BA,wpAny_loadPart_at->Kl,wpAny_loadPart->EH,wpAny_assign_Name->Kh,wpAny_field->Bx,wpAny_call->Bw,call_meets->Bv,getMethod_builtin->OF,wpAny_rule->EE,codeAny_of_tree->OA,codeAny_call_builtin->YB,wpAny_setEntries_of->Yu,intBits_le_64->Oq,wpAny_getItem_list->Yq,intKind_is->J6,wpAny_pyIter_list->Ym,wpAny_mkText->Oo,fits_of_scanBound->Yl,wpAny_updatePart->Yg,wpAny_lookBehind->Ye,wpAny_Dict_empty->Yd,pastItsLine_dict->Yc,wpAny_of_eq->Oi,wpAny_updateSeq->X8,isSubtype_type->X5,wpAny_newList->XW,wpAny_getItem_list_slice->adW,call_len_dict->XT,wpAny_callSpecial?_slot->adR,call_meetsIn->XR,aRefKeyMayBeTheName_at->adL,builtinLookup_eq_fast->adH,wpAny_alloc->XQ,wpAny_setItem_pairs->adE,wpAny_isSubtype_exc->adD,kt_meets_setdefault->adC,wpAny_Constant_str->adB,wpAny_Constant_int->adA,wpAny_truthy_bool->adx,wpAny_storeSet_of->adw,wpAny_pyIter_slot->adu,slot_list_setitem->adt,slot_list_getitem->ads,slot_dict_getitem->adq
open PySem.Heap renaming get?_push_of_some->gj,get?_update_self->mV,get?_push_size->mU,lt_size->g6,dictOf_iff->Di,size_push->Dh,get?_update_other->Ku,get?_push_ne->EL,size_update->Km,get?_none_of_le->adX,get?_update_ne->adS
open List.Sublist renaming refl->fZ,nodup->YS
open Bool renaming and_eq_true->iK,false_ne_true->sG,eq_iff_iff->qM,or_eq_false_iff->G8,and_eq_true_iff->J2,not_eq_true'->G5,false_eq_true->BI,or_eq_true->xg,or_false->EG,and_false->Yh,casesOn->pR
open Option renaming getD_some->jV,map_eq_some_iff->J4,bind_eq_some_iff->YX,isNone_iff_eq_none->aep,isSome_iff_exists->aek,some_ne_none->ad7,casesOn->fL
open PySem.Heap.SameBut renaming update->qP,refl->aeh
open PySem.W renaming look_both->e9,piece_app->jW,putName_dict->rF,looks_findIn->J8,kqd_lay->uL,looks_clsIn->Oh,cellsFrom_some->X4,row_kept->Og
open Option.some renaming inj->mT
open Eq renaming symm->fH,trans->ED
open Or renaming elim->fU
open Int renaming neg_natCast_le_ofNat->J5,natCast_nonneg->Dl,toNat_natCast->Dj,ne_of_lt->By,sub_eq_iff_eq_add'->YQ,ofNat_lt->XX
open _root_.Array renaming length_toList->G7,getElem?_eq_getElem->SK,getElem?_toList->EU,any_toList->OM,getElem?_setIfInBounds_self_of_lt->aew,toList_inj->Yt,getElem?_eq_some_iff->aeo,getElem?_eq_none->aec,toList_push->adM
open List.Pairwise renaming imp_of_mem->SM
open PyProof.Rows.F renaming plain_set_update_loop->ace,entry_set_update_loop->aeB
open PySem.W.Fast renaming te17119622794617984870->acd,te10792542408131684335->ab9,te8326940854005059898->Y3,te18344453789297297638->aeA,te14364793385576792824->aez,te9572597257264208301->aey,te797321630700447069->aex,named_eq->aet
open Ne renaming symm->lq
open PySem.F renaming called_set->EP,slot_list_getitem->O1,plainAttrs_list->OZ,slot_dict_setdefault->Y0,args_dict_setdefault_3->aev,entry_dict_setdefault->aeu,slot_list_reverse->aes,slot_tuple_index->aer,slot_list_extend->aeq,slot_list_index->aen,plain_list_iadd->aem,plainAttrs_dict->ael,slot_set_iter->aeg,slot_int_rmul->aef,slot_dict_get->aee,slot_list_lt->aed
open PySem.Str renaming length_append->EK
open PySem.Around renaming under_plainId->OR
open List.Nodup renaming idxOf_getElem->YZ
open PySem.Calls renaming Name_function_global->OO,call_function_entry->aei,loadGlobal_builtin->adz,loadGlobal_global->adp
open List.cons renaming inj->Kc
open PySem.IntMulOk renaming of_right->ON
open PyProof.Rows renaming tail_any->uM,entry_list_sort->X7,slot_list_sort->X6,args_list_sort->X3,listUpdate_at->XU,seqEpoch_at->XO,size_push'->XN,assignInOrder_cons->ady
open Nat.succ renaming inj->Oz
open PySem.Code renaming quiet_builtin->YC
open PySem.Obj renaming data_mapFields->YA,isFreed_of_fields->ad2
open PySem.Flow renaming casesOn->Zc3
open PySem.Value renaming casesOn->Zc5
open PySem.Operator renaming casesOn->Zc6
def aT:=@congrArg
def aG:=@if_neg
def bg:=@if_pos
def jx:=@of_decide_eq_true
def i7:=@decide_eq_true_iff
def eH:=@beq_iff_eq
def i6:=@decide_eq_true
abbrev eX:=List (Str×Option Value)
abbrev dU:=List (Str×Value)
abbrev d8:=List (Option Nat)
abbrev pT:=List (List Nat)
abbrev B6:=List (List Int)
abbrev nV:=Option Value
abbrev gF:=Option Nat
abbrev aS:=Value->Shared->Prop
abbrev ay:=List Str
abbrev bC:=List Value
abbrev bF:=List Nat
abbrev cH:=List Int
abbrev c7:=List Expr
abbrev cP:=List Addr
abbrev fc:=List Stmt
abbrev ao:=Value
abbrev av:=Addr
abbrev cO:=Shared
abbrev aD:=Expr
abbrev aY:=Params
abbrev aQ:=Around
abbrev aa:=Str
abbrev eO:=Scope
abbrev bZ:=World
section
noncomputable abbrev pw:Program:=PySem.Challenge.pw_nz0539_01
noncomputable def pB:fc:=PySem.Challenge.pw_nz0539_01.main.body
noncomputable def ao1:Arguments:=⟨[],[],none,[],[],none,[]⟩
noncomputable def amV:eO:=⟨.function,[],false,false,[]⟩
noncomputable def aOf:Option Stmt->Arguments
 |some (.FunctionDef _ a _ _ _ _ _ _ _ _)=>a
 |_=>ao1
noncomputable def bOf:Option Stmt->fc
 |some (.FunctionDef _ _ b _ _ _ _ _ _ _)=>b
 |_=>[]
noncomputable def aiL:Option Stmt->eO
 |some (.FunctionDef _ _ _ _ _ _ s _ _ _)=>s
 |_=>amV
noncomputable def WG (j:Nat):Option Stmt->Option Stmt
 |some (.ClassDef _ _ _ b _ _ _ _ _ _ _)=>b[j]?
 |_=>none
noncomputable def fA (i:Nat):Arguments:=aOf pB[i]?
noncomputable def fB (i:Nat):fc:=bOf pB[i]?
noncomputable def fS (i:Nat):eO:=aiL pB[i]?
noncomputable def mA (i j:Nat):Arguments:=aOf (WG j pB[i]?)
noncomputable def mB (i j:Nat):fc:=bOf (WG j pB[i]?)
noncomputable def mS (i j:Nat):eO:=aiL (WG j pB[i]?)
noncomputable section
noncomputable abbrev zA {α:Type}(l:List α):Array α:=l.toArray
noncomputable abbrev zT (s:String):aa:=Str.ofString s
noncomputable abbrev qt (l:bC):Obj:=⟨.type "tuple",none,.seq l.toArray 0, #[]⟩
noncomputable abbrev qs (t:Nat)(l:ay):Obj:=qt (l.rec (motive:=λz=>Nat->bC) (λz=>[]) (λs z ih t=> .str s t::ih (t+1)) t)
noncomputable abbrev qe (p:aY)(s:aa)(t:Tok)(v:ao):DictEntry:=⟨PyData.keyHash p s,.str s t,v⟩
noncomputable abbrev qd (l:List DictEntry)(n:Nat):Obj:=⟨.type "dict",none,.dict l.toArray n, #[]⟩
noncomputable abbrev qf (n:aa)(i:Nat):Obj:=⟨.none,none,.func ⟨n,n,fA i,.stmts (fB i),fS i,0,[],.none,.none,.none,.none,none,.none,.none,0⟩, #[]⟩
noncomputable abbrev qm (n q:aa)(i j:Nat):Obj:=⟨.none,none,.func ⟨n,q,mA i j,.stmts (mB i j),mS i j,0,[],.none,.none,.none,.none,none,.none,.none,0⟩, #[]⟩
noncomputable abbrev qg (n:aa)(i:Nat)(s:aa)(t:Tok)(c:Nat)(d:ao):Obj:=⟨.type "function",none,.func ⟨n,n,fA i,.stmts (fB i),fS i,3,[],d,.none,.none,.str s t,none,.ref c,.none,0⟩, #[]⟩
noncomputable abbrev qn (n q:aa)(i j:Nat)(s:aa)(t:Tok)(c:Nat)(d:ao):Obj:=⟨.type "function",none,.func ⟨n,q,mA i j,.stmts (mB i j),mS i j,3,[],d,.none,.none,.str s t,none,.ref c,.none,0⟩, #[]⟩
def s0:aa:=zT "__name__"
def s1:aa:=zT "builtins"
def s2:aa:=zT "__doc__"
def s3:aa:=zT "__package__"
def s4:aa:=zT "__loader__"
def s5:aa:=zT "__spec__"
def s6:aa:=zT "__build_class__"
def aaa:aa:=zT "/claim/cut.py"
def Lo:aa:=zT "vectorcove.numtext"
def Vj:aa:=zT "_wall"
def aiX:aa:=zT "NAN"
def aiW:aa:=zT "INF"
def aiV:aa:=zT "ZERO"
def Vi:aa:=zT "gcd"
def Vh:aa:=zT "make"
def Rg:aa:=zT "from_int"
def Vg:aa:=zT "is_na"
def Vf:aa:=zT "is_finite"
def Ve:aa:=zT "neg"
def Vd:aa:=zT "to_whole"
def Vb:aa:=zT "nearest_whole"
def Va:aa:=zT "exponent"
def U9:aa:=zT "compare"
def aiU:aa:=zT "MOST_EXPONENT"
def aiT:aa:=zT "vectorcove.rational"
def Rf:aa:=zT "whole_text"
def Rd:aa:=zT "special_text"
def U8:aa:=zT "scaled"
def U7:aa:=zT "significant"
def U6:aa:=zT "without_tail"
def U5:aa:=zT "scientific_text"
def U4:aa:=zT "fixed_text"
def U3:aa:=zT "measures"
def U1:aa:=zT "chosen_form"
def U0:aa:=zT "formed"
def UZ:aa:=zT "common_texts"
def UY:aa:=zT "number_text"
def Ik:aa:=zT "digits"
def rP:aa:=zT "vectorcove.values"
def UX:aa:=zT "decimal_places"
def Rc:aa:=zT "exact_text"
def UW:aa:=zT "digits_value"
def UU:aa:=zT "digit_run"
def UT:aa:=zT "exponent_value"
def US:aa:=zT "powered"
def UR:aa:=zT "unsigned_number"
def UQ:aa:=zT "parse_number"
def Fi:aa:=zT "Null"
def Cm:aa:=zT "__module__"
def Z9:aa:=zT "__qualname__"
def Ck:aa:=zT "__firstlineno__"
def oB:aa:=zT "__init__"
def Cj:aa:=zT "__static_attributes__"
def kY:aa:=zT "kind"
def Ij:aa:=zT "__weakref__"
def Fg:aa:=zT "Vector"
def Rb:aa:=zT "integer"
def Ra:aa:=zT "character"
def Q9:aa:=zT "length"
def Q8:aa:=zT "is_atomic"
def Z8:aa:=zT "Vector.__init__"
def zE:aa:=zT "vectorcove.errors"
def Q7:aa:=zT "share"
def Q6:aa:=zT "get_attr"
def Q5:aa:=zT "label_text"
def Q4:aa:=zT "level_at"
def Q3:aa:=zT "label_texts"
def Q2:aa:=zT "names_of"
def Q0:aa:=zT "dim_of"
def UP:aa:=zT "dimnames_of"
def QZ:aa:=zT "class_attr"
def aiS:aa:=zT "vectorcove.attrs"
def aiR:aa:=zT "type.__subclasses__.Exception.0"
def aiQ:aa:=zT "type.__subclasses__.Exception.n"
def oq:aa:=zT "CoveError"
def Z7:aa:=zT "vectorcove.coerce"
def ve:aa:=zT "Refusal"
def aiP:aa:=zT "MOST_INTEGER"
def QY:aa:=zT "kind_order"
def QX:aa:=zT "common_kind"
def UO:aa:=zT "note"
def UN:aa:=zT "as_logical_text"
def Z6:aa:=zT "Refusal.__init__"
def UM:aa:=zT "double_to_integer"
def UL:aa:=zT "text_to_double"
def UK:aa:=zT "to_logical"
def UJ:aa:=zT "to_integer"
def QW:aa:=zT "to_double"
def UI:aa:=zT "to_text"
def QV:aa:=zT "item_as"
def QU:aa:=zT "is_atomic_kind"
def UH:aa:=zT "list_item_as"
def UG:aa:=zT "refuse_type"
def UE:aa:=zT "as_vector_kind"
def QT:aa:=zT "with_names"
def QS:aa:=zT "as_kind"
def aiO:aa:=zT "vectorcove.identical"
def UD:aa:=zT "as_list"
def QR:aa:=zT "is_lacking"
def QO:aa:=zT "compare_items"
def QN:aa:=zT "check_sortable"
def QM:aa:=zT "compare_places"
def QL:aa:=zT "compare_keys"
def QK:aa:=zT "merge_runs"
def QJ:aa:=zT "merge_sort"
def QI:aa:=zT "each_key"
def QH:aa:=zT "kept_places"
def QG:aa:=zT "order_by"
def UC:aa:=zT "same_attrs"
def Z5:aa:=zT "vectorcove.sorting"
def zD:aa:=zT "place"
def UB:aa:=zT "same_items"
def UA:aa:=zT "same_formals"
def Uz:aa:=zT "same_slots"
def Uy:aa:=zT "same_dots"
def Ux:aa:=zT "same_kernel"
def Uw:aa:=zT "identical"
def QE:aa:=zT "item_key"
def QD:aa:=zT "is_listed"
def Uv:aa:=zT "list_place"
def QC:aa:=zT "first_places"
def QA:aa:=zT "unique_places"
def Uu:aa:=zT "make_unique"
def aiN:aa:=zT "vectorcove.sets"
def Z4:aa:=zT "vectorcove.framebind"
def Qz:aa:=zT "is_factor"
def Qy:aa:=zT "new_frame"
def Qx:aa:=zT "plain_rows"
def Qw:aa:=zT "frame_rows"
def Qv:aa:=zT "column_names"
def Ut:aa:=zT "row_names"
def Qu:aa:=zT "kept_attrs"
def Us:aa:=zT "lacking"
def Qt:aa:=zT "pick_items"
def Qs:aa:=zT "picked_labels"
def Qq:aa:=zT "pick_rows"
def Ur:aa:=zT "joined_factor"
def Qp:aa:=zT "joined_column"
def aiM:aa:=zT "vectorcove.frames"
def Ii:aa:=zT "column"
def afb:aa:=zT "vectorcove.joins"
def Qo:aa:=zT "dimnames_list"
def Qn:aa:=zT "new_array"
def Qm:aa:=zT "column_keys"
def Ql:aa:=zT "row_keys"
def Qk:aa:=zT "first_of_keys"
def Qj:aa:=zT "duplicated_rows"
def Qi:aa:=zT "unique_rows"
def Qh:aa:=zT "complete_rows"
def Qg:aa:=zT "sort_key"
def Qf:aa:=zT "is_complete"
def Qe:aa:=zT "grouped_places"
def Qd:aa:=zT "joined_results"
def Qc:aa:=zT "check_groups"
def Z3:aa:=zT "vectorcove.matrix"
def Uq:aa:=zT "law_nz0539_01"
def Qa:aa:=zT "aggregate_by"
def P9:aa:=zT "stack_frame"
def P8:aa:=zT "level_row"
def P7:aa:=zT "cross_table"
def P6:aa:=zT "_law_pick"
def P5:aa:=zT "_law_column"
def P4:aa:=zT "_law_frame_of"
def P0:aa:=zT "_law_is_factor"
def PZ:aa:=zT "_law_texts"
def PY:aa:=zT "_law_ranked"
def PX:aa:=zT "_law_sum"
def PW:aa:=zT "_law_count"
def PV:aa:=zT "_law_two"
def PU:aa:=zT "law"
def oS:String:="ppqPk......78..78.7......78.7...78.7...78.7.kk78.7...78.7...78.7...78.7...78.7...78.7...78.7...78.7.kk78.7.kk78.7...78.7...78.7...78.7...78.7...78.7...78.7...78.7...78....78.7...78.7...78.7.kk78.7...78.7...78.7...78.7...78.7...78.7...7.p7...78.7....Pkkk..7ap7...k78.7.kk78.7....Pkkk..78.7.kk78.7.kk78.7.kk78.7.kk78.7.kk78.7.kk78.7.kk78.7.kk78.kk78.kk78.7.kk78...78.7.kk.ap78..7Pkk...ap7...78.7.kk.Pk..78.7.kk78.7.kk78.7...78.7...78.7...78.7...78.7...78.7...78.7.kk78.7...78.7.kk78.7.kk78.7...78.7...78...78.7.kk78.kk78.7...78.7.kk78.7.kk78.7.kk78.7.kk78.7.kk78.7.kk78.kk78.kk78.7.kkk78.7.kk78.7...78.7...78.7...78.7...78.7...78.7...78.7...78.7.kk78.7.kk78.7...78.7.kk78.kk78.7...78.7.kk78.kk78.7.kk78.7.kk78.kk78.7...78.7.kk78.7...78.7.kk78.kk78.kk78.7...78.kk78.kk78.7.kk78.kk78.kk78.kk78.kk78.kk78.7.kk78.7.kk78.7.kk78.kk78.7.kk78.7.kk78.kk78.7.kk78.kk78.7.kk78.7.kk78.kk78.7.kk78.7.kk78.kk78.kk78.kk78.7.kk78.7.kk78.kk"
def oN (v:List String)(i:Nat):Lean.Term:=
 let c:=String.Pos.Raw.get oS ⟨i⟩;let n:=(v.find? (·.startsWith s!"{i}v")).getD (if c== '7' then "7" else if c== '8' then "8" else if c== 'a' then "235" else s!"{i}");let d:=Lean.mkIdent (.mkSimple ("o"++n))
 if c== 'p'||c== 'P'||c== 'q'&&n !="2" then Lean.Syntax.mkApp d #[Lean.mkIdent `p] else d
def oA (f:Lean.Name)(l:Array Lean.Term):Lean.Term:=Lean.Syntax.mkApp (Lean.mkIdent f) l
def oT (v:List String)(n:Nat):Nat->Nat->Lean.Term
 |0,_=>oA `BT.nil #[]
 |f+1,i=>if i<n then
   let d:=2 ^ (i+1).log2
   oA `BT.node #[oN v i,oT v n f (i+d),oT v n f (i+2*d)]
  else oA `BT.nil #[]
def oL (v:List String)(k:Bool):Nat->Nat->Lean.Term
 |0,_=>oA `List.nil #[]
 |f+1,i=>
  let r:=oL v k f (i+1)
  if k then(if "Pqk".contains (String.Pos.Raw.get oS ⟨i⟩) then oA `List.cons #[oA `Prod.mk #[Lean.quote i,oN v i],r] else r) else oA `List.cons #[oN v i,r]
def oM (s:String):Lean.Term:=
 let v:=s.splitOn " ";let n:=(v.getD 1 "").toNat!
 if s.startsWith "t" then oT v n 12 0 else oL v (s.startsWith "k") n 0
local macro_rules
  | `(tactic| fail $x:str) => `(tactic| exact $(oM x.getString))
noncomputable abbrev Fq (n:aa)(i c:Nat):Obj:=qg n i Lo 288 c .none
noncomputable abbrev HA (n:aa)(i c:Nat):Obj:=qg n i Z7 716 c .none
noncomputable abbrev Lv (n:aa)(i c:Nat):Obj:=qg n i afb 1229 c .none
noncomputable abbrev Vv (n:aa)(i c:Nat):Obj:=qg n i aiM 1106 c .none
noncomputable abbrev ZC (n:aa)(i c:Nat):Obj:=qg n i aiT 194 c .none
noncomputable abbrev ZA (n:aa)(i c:Nat):Obj:=qg n i Uq 1349 c .none
noncomputable abbrev qg7 (n:aa)(i c:Nat):Obj:=qg n i Z5 868 c .none
noncomputable abbrev qg8 (n:aa)(i c:Nat):Obj:=qg n i aiS 609 c .none
noncomputable abbrev qg9 (n:aa)(i c:Nat):Obj:=qg n i aiO 972 c .none
noncomputable abbrev Vy (n:aa)(i c:Nat):Obj:=qg n i rP 500 c .none
noncomputable abbrev Vw (n:aa)(i c:Nat):Obj:=qg n i aiN 1044 c .none
noncomputable abbrev qc (n q:aa)(a b c:Tok)(l i j k f:Int)(r:Nat)(x:Bool)(g:Int)(y:Nat)(u v w:ao)(z:Int)(t:Tok):Obj:=⟨.type "code",none,.fields #[.str n a,.str q b,.str aaa c,.int l 0,.int i 0,.int j 0,.int k 0,.int f 0,.ref r,.bool x,.int g 0,.ref y,.none,u,v,w,.int z 0,.int l 0,.str aaa t], #[]⟩
noncomputable abbrev qb (n q:aa)(a:Nat)(l i:Int)(r z:Nat):Obj:=qc n q a (a+1) (a+2) l i 0 0 3 r true 181 (r+1) (.ref (r+2)) (.ref (r+3)) (.ref (r+4)) z (z+1)
noncomputable abbrev qB (n:aa):=qb n n
noncomputable abbrev qC (n:aa)(a:Nat)(l i:Int)(r z:Nat):Obj:=qc n n a (a+1) (a+2) l i 0 0 3 r true 181 (r+1) .none .none (.ref (r+2)) z (z+1)
def o0(p:aY):Obj:=qd [qe p s0 1 (.str s1 160),qe p s2 2 (.builtin "builtins.__doc__:str#opaque"),qe p s3 3 (.builtin "builtins.__package__:str#opaque"),qe p s4 4 (.builtin "builtins.__loader__:shared#opaque"),qe p s5 5 (.builtin "builtins.__spec__#opaque"),qe p s6 6 (.builtin "__build_class__"),qe p "__import__" 7 (.builtin "__import__"),qe p "abs" 8 (.builtin "abs"),qe p "all" 9 (.builtin "all"),qe p "any" 10 (.builtin "any"),qe p "ascii" 11 (.builtin "ascii"),qe p "bin" 12 (.builtin "bin"),qe p "breakpoint" 13 (.builtin "breakpoint"),qe p "callable" 14 (.builtin "callable"),qe p "chr" 15 (.builtin "chr"),qe p "compile" 16 (.builtin "compile"),qe p "delattr" 17 (.builtin "delattr"),qe p "dir" 18 (.builtin "dir"),qe p "divmod" 19 (.builtin "divmod"),qe p "eval" 20 (.builtin "eval"),qe p "exec" 21 (.builtin "exec"),qe p "format" 22 (.builtin "format"),qe p "getattr" 23 (.builtin "getattr"),qe p "globals" 24 (.builtin "globals"),qe p "hasattr" 25 (.builtin "hasattr"),qe p "hash" 26 (.builtin "hash"),qe p "hex" 27 (.builtin "hex"),qe p "id" 28 (.builtin "id"),qe p "input" 29 (.builtin "input"),qe p "isinstance" 30 (.builtin "isinstance"),qe p "issubclass" 31 (.builtin "issubclass"),qe p "iter" 32 (.builtin "iter"),qe p "aiter" 33 (.builtin "aiter"),qe p "len" 34 (.builtin "len"),qe p "locals" 35 (.builtin "locals"),qe p "max" 36 (.builtin "max"),qe p "min" 37 (.builtin "min"),qe p "next" 38 (.builtin "next"),qe p "anext" 39 (.builtin "anext"),qe p "oct" 40 (.builtin "oct"),qe p "ord" 41 (.builtin "ord"),qe p "pow" 42 (.builtin "pow"),qe p "print" 43 (.builtin "print"),qe p "repr" 44 (.builtin "repr"),qe p "round" 45 (.builtin "round"),qe p "setattr" 46 (.builtin "setattr"),qe p "sorted" 47 (.builtin "sorted"),qe p "sum" 48 (.builtin "sum"),qe p "vars" 49 (.builtin "vars"),qe p "None" 50 .none,qe p "Ellipsis" 51 .ellipsis,qe p "NotImplemented" 52 .notImplemented,qe p "False" 53 (.bool false),qe p "True" 54 (.bool true),qe p "bool" 55 (.type "bool"),qe p "memoryview" 56 (.type "memoryview"),qe p "bytearray" 57 (.type "bytearray"),qe p "bytes" 58 (.type "bytes"),qe p "classmethod" 59 (.type "classmethod"),qe p "complex" 60 (.type "complex"),qe p "dict" 61 (.type "dict"),qe p "enumerate" 62 (.type "enumerate"),qe p "filter" 63 (.type "filter"),qe p "float" 64 (.type "float"),qe p "frozenset" 65 (.type "frozenset"),qe p "property" 66 (.type "property"),qe p "int" 67 (.type "int"),qe p "list" 68 (.type "list"),qe p "map" 69 (.type "map"),qe p "object" 70 (.type "object"),qe p "range" 71 (.type "range"),qe p "reversed" 72 (.type "reversed"),qe p "set" 73 (.type "set"),qe p "slice" 74 (.type "slice"),qe p "staticmethod" 75 (.type "staticmethod"),qe p "str" 76 (.type "str"),qe p "super" 77 (.type "super"),qe p "tuple" 78 (.type "tuple"),qe p "type" 79 (.type "type"),qe p "zip" 80 (.type "zip"),qe p "__debug__" 81 (.bool true),qe p "BaseException" 82 (.type "BaseException"),qe p "BaseExceptionGroup" 83 (.type "BaseExceptionGroup"),qe p "Exception" 84 (.type "Exception"),qe p "GeneratorExit" 85 (.type "GeneratorExit"),qe p "KeyboardInterrupt" 86 (.type "KeyboardInterrupt"),qe p "SystemExit" 87 (.type "SystemExit"),qe p "ArithmeticError" 88 (.type "ArithmeticError"),qe p "AssertionError" 89 (.type "AssertionError"),qe p "AttributeError" 90 (.type "AttributeError"),qe p "BufferError" 91 (.type "BufferError"),qe p "EOFError" 92 (.type "EOFError"),qe p "ImportError" 93 (.type "ImportError"),qe p "LookupError" 94 (.type "LookupError"),qe p "MemoryError" 95 (.type "MemoryError"),qe p "NameError" 96 (.type "NameError"),qe p "OSError" 97 (.type "OSError"),qe p "ReferenceError" 98 (.type "ReferenceError"),qe p "RuntimeError" 99 (.type "RuntimeError"),qe p "StopAsyncIteration" 100 (.type "StopAsyncIteration"),qe p "StopIteration" 101 (.type "StopIteration"),qe p "SyntaxError" 102 (.type "SyntaxError"),qe p "SystemError" 103 (.type "SystemError"),qe p "TypeError" 104 (.type "TypeError"),qe p "ValueError" 105 (.type "ValueError"),qe p "Warning" 106 (.type "Warning"),qe p "FloatingPointError" 107 (.type "FloatingPointError"),qe p "OverflowError" 108 (.type "OverflowError"),qe p "ZeroDivisionError" 109 (.type "ZeroDivisionError"),qe p "BytesWarning" 110 (.type "BytesWarning"),qe p "DeprecationWarning" 111 (.type "DeprecationWarning"),qe p "EncodingWarning" 112 (.type "EncodingWarning"),qe p "FutureWarning" 113 (.type "FutureWarning"),qe p "ImportWarning" 114 (.type "ImportWarning"),qe p "PendingDeprecationWarning" 115 (.type "PendingDeprecationWarning"),qe p "ResourceWarning" 116 (.type "ResourceWarning"),qe p "RuntimeWarning" 117 (.type "RuntimeWarning"),qe p "SyntaxWarning" 118 (.type "SyntaxWarning"),qe p "UnicodeWarning" 119 (.type "UnicodeWarning"),qe p "UserWarning" 120 (.type "UserWarning"),qe p "BlockingIOError" 121 (.type "BlockingIOError"),qe p "ChildProcessError" 122 (.type "ChildProcessError"),qe p "ConnectionError" 123 (.type "ConnectionError"),qe p "FileExistsError" 124 (.type "FileExistsError"),qe p "FileNotFoundError" 125 (.type "FileNotFoundError"),qe p "InterruptedError" 126 (.type "InterruptedError"),qe p "IsADirectoryError" 127 (.type "IsADirectoryError"),qe p "NotADirectoryError" 128 (.type "NotADirectoryError"),qe p "PermissionError" 129 (.type "PermissionError"),qe p "ProcessLookupError" 130 (.type "ProcessLookupError"),qe p "TimeoutError" 131 (.type "TimeoutError"),qe p "IndentationError" 132 (.type "IndentationError"),qe p "_IncompleteInputError" 133 (.type "_IncompleteInputError"),qe p "IndexError" 134 (.type "IndexError"),qe p "KeyError" 135 (.type "KeyError"),qe p "ModuleNotFoundError" 136 (.type "ModuleNotFoundError"),qe p "NotImplementedError" 137 (.type "NotImplementedError"),qe p "PythonFinalizationError" 138 (.type "PythonFinalizationError"),qe p "RecursionError" 139 (.type "RecursionError"),qe p "UnboundLocalError" 140 (.type "UnboundLocalError"),qe p "UnicodeError" 141 (.type "UnicodeError"),qe p "BrokenPipeError" 142 (.type "BrokenPipeError"),qe p "ConnectionAbortedError" 143 (.type "ConnectionAbortedError"),qe p "ConnectionRefusedError" 144 (.type "ConnectionRefusedError"),qe p "ConnectionResetError" 145 (.type "ConnectionResetError"),qe p "TabError" 146 (.type "TabError"),qe p "UnicodeDecodeError" 147 (.type "UnicodeDecodeError"),qe p "UnicodeEncodeError" 148 (.type "UnicodeEncodeError"),qe p "UnicodeTranslateError" 149 (.type "UnicodeTranslateError"),qe p "ExceptionGroup" 150 (.type "ExceptionGroup"),qe p "EnvironmentError" 151 (.type "OSError"),qe p "IOError" 152 (.type "OSError"),qe p "open" 153 (.builtin "open"),qe p "quit" 154 (.builtin "builtins.quit#opaque"),qe p "exit" 155 (.builtin "builtins.exit#opaque"),qe p "copyright" 156 (.builtin "builtins.copyright#opaque"),qe p "credits" 157 (.builtin "builtins.credits#opaque"),qe p "license" 158 (.builtin "builtins.license#opaque"),qe p "help" 159 (.builtin "builtins.help#opaque")] 159
def o1(p:aY):Obj:=qd [qe p s1 162 (.ref 4),qe p "__main__" 163 (.ref 5)] 2
noncomputable def o2:Obj:=⟨.none,none,(.dict #[] 0),#[]⟩
def o3(p:aY):Obj:=qd [qe p s0 165 (.str "__main__" 164),qe p s2 166 .none,qe p s3 167 .none,qe p s4 168 (.builtin "__main__.__loader__#opaque"),qe p s5 169 .none,qe p "__annotations__" 170 (.ref 6),qe p "__builtins__" 171 (.ref 4),qe p "__file__" 173 (.str aaa 172),qe p "__cached__" 174 .none] 9
noncomputable def o4:Obj:=⟨(.type "module"),(some 0),.plain,#[]⟩
noncomputable def o5:Obj:=⟨(.type "module"),(some 3),.plain,#[]⟩
noncomputable def o6:Obj:=⟨(.type "dict"),none,(.dict #[] 0),#[]⟩
def o7:Obj:=qt []
noncomputable def o8:Obj:=⟨.none,none,(.fields #[]),#[]⟩
def o9:Obj:=qc "<module>" "<module>" 176 177 178 1 0 0 0 0 7 false 175 8 .none .none .none 179 180
noncomputable def o10:Obj:=⟨(.type "frame"),none,.plain,(#[(some (.ref 9)),(some (.ref 3)),(some (.ref 3)),none,(some (.str "__main__" 164)),none,(some (.ref 0))])⟩
def o13:Obj:=qc "<module>" "<module>" 182 183 184 1 0 0 0 0 11 false 181 12 .none .none .none 185 186
noncomputable def o14:Obj:=⟨(.type "frame"),none,.plain,(#[(some (.ref 13)),(some (.ref 3)),(some (.ref 3)),none,(some (.str "__main__" 164)),none,(some (.ref 0))])⟩
noncomputable def e3 (p:aY):List DictEntry:=[qe p s2 166 .none,qe p s3 167 .none,qe p s4 168 (.builtin "__main__.__loader__#opaque"),qe p s5 169 .none,qe p "__annotations__" 170 (.ref 6),qe p "__builtins__" 171 (.ref 4),qe p "__file__" 173 (.str aaa 172),qe p "__cached__" 174 .none,qe p Vj 193 (.ref 21),qe p aiX 198 (.ref 22),qe p aiW 201 (.ref 23),qe p aiV 204 (.ref 24),qe p Vi 212 (.ref 31),qe p Vh 221 (.ref 38),qe p Rg 228 (.ref 45),qe p Vg 235 (.ref 52),qe p Vf 242 (.ref 59),qe p Ve 249 (.ref 66),qe p Vd 257 (.ref 73),qe p Vb 267 (.ref 80),qe p Va 277 (.ref 87),qe p U9 287 (.ref 94),qe p aiU 291 (.int 4096 290),qe p Rf 301 (.ref 101),qe p Rd 308 (.ref 108),qe p U8 318 (.ref 115),qe p U7 328 (.ref 122),qe p U6 336 (.ref 129),qe p U5 348 (.ref 136),qe p U4 358 (.ref 143),qe p U3 371 (.ref 150),qe p U1 388 (.ref 157),qe p U0 397 (.ref 164),qe p UZ 403 (.ref 169),qe p UY 412 (.ref 177),qe p UX 421 (.ref 184),qe p Rc 431 (.ref 191),qe p UW 441 (.ref 198),qe p UU 450 (.ref 205),qe p UT 459 (.ref 212),qe p US 468 (.ref 219),qe p UR 487 (.ref 226),qe p UQ 499 (.ref 233),qe p Fi 530 (.ref 250),qe p Fg 572 (.ref 279),qe p Rb 579 (.ref 290),qe p Ra 586 (.ref 297),qe p Q9 594 (.ref 304),qe p Q8 601 (.ref 311),qe p Q7 608 (.ref 318),qe p Q6 618 (.ref 325),qe p Q5 626 (.ref 332),qe p Q4 634 (.ref 339),qe p Q3 640 (.ref 344),qe p Q2 646 (.ref 349),qe p Q0 654 (.ref 356),qe p UP 660 (.ref 361),qe p QZ 668 (.ref 368),qe p oq 690 (.ref 378),qe p ve 715 (.ref 398),qe p aiP 719 (.int 2147483647 718),qe p QY 727 (.ref 407),qe p QX 737 (.ref 414),qe p UO 745 (.ref 421),qe p UN 752 (.ref 428),qe p UM 761 (.ref 435),qe p UL 771 (.ref 442),qe p UK 779 (.ref 449),qe p UJ 788 (.ref 456),qe p QW 797 (.ref 463),qe p UI 805 (.ref 470),qe p QV 815 (.ref 477),qe p QU 822 (.ref 484),qe p UH 832 (.ref 491),qe p UG 840 (.ref 498),qe p UE 846 (.ref 503),qe p QT 854 (.ref 510),qe p QS 860 (.ref 515),qe p UD 867 (.ref 522),qe p QR 877 (.ref 529),qe p QO 886 (.ref 536),qe p QN 893 (.ref 543),qe p QM 909 (.ref 550),qe p QL 922 (.ref 557),qe p QK 936 (.ref 564),qe p QJ 942 (.ref 569),qe p QI 948 (.ref 574),qe p QH 960 (.ref 581),qe p QG 971 (.ref 589),qe p UC 984 (.ref 596),qe p UB 994 (.ref 603),qe p UA 1003 (.ref 610),qe p Uz 1012 (.ref 617),qe p Uy 1025 (.ref 624),qe p Ux 1035 (.ref 631),qe p Uw 1043 (.ref 638),qe p QE 1053 (.ref 645),qe p QD 1060 (.ref 652),qe p Uv 1070 (.ref 659),qe p QC 1082 (.ref 666),qe p QA 1088 (.ref 671),qe p Uu 1105 (.ref 678),qe p Qz 1114 (.ref 685),qe p Qy 1120 (.ref 690),qe p Qx 1127 (.ref 697),qe p Qw 1134 (.ref 704),qe p Qv 1140 (.ref 709),qe p Ut 1147 (.ref 716),qe p Qu 1156 (.ref 723),qe p Us 1163 (.ref 730),qe p Qt 1174 (.ref 737),qe p Qs 1180 (.ref 742),qe p Qq 1186 (.ref 747),qe p Ur 1202 (.ref 754),qe p Qp 1208 (.ref 759),qe p Qo 1216 (.ref 764),qe p Qn 1228 (.ref 771),qe p Qm 1236 (.ref 776),qe p Ql 1242 (.ref 781),qe p Qk 1248 (.ref 786),qe p Qj 1254 (.ref 791),qe p Qi 1260 (.ref 796),qe p Qh 1270 (.ref 803),qe p Qg 1277 (.ref 810),qe p Qf 1286 (.ref 817),qe p Qe 1292 (.ref 822),qe p Qd 1300 (.ref 829),qe p Qc 1310 (.ref 836),qe p Qa 1316 (.ref 841),qe p P9 1328 (.ref 848),qe p P8 1334 (.ref 853),qe p P7 1348 (.ref 860),qe p P6 1360 (.ref 867),qe p P5 1366 (.ref 872),qe p P4 1376 (.ref 879),qe p P0 1383 (.ref 886),qe p PZ 1389 (.ref 891),qe p PY 1395 (.ref 896),qe p PX 1401 (.ref 901),qe p PW 1408 (.ref 908),qe p PV 1415 (.ref 915),qe p PU 1421 (.ref 920)]
def o3v1(p:aY):Obj:=qd (qe p s0 165 (.str Lo 288)::(e3 p).take 23) 24
noncomputable def Mp:bC:=[.int 1 0,.int 0 0,.ref 20,.int 8 0,.int 0 0,.ref 30,.int 12 0,.int 0 0,.ref 37,.int 22 0,.int 0 0,.ref 44,.int 26 0,.int 0 0,.ref 51,.int 28 0,.int 0 0,.ref 58,.int 30 0,.int 0 0,.ref 65,.int 34 0,.int 0 0,.ref 72,.int 39 0,.int 0 0,.ref 79,.int 45 0,.int 0 0,.ref 86,.int 56 0,.int 0 0,.ref 93,.int 76 0,.int 0 0,.ref 100,.int 87 0,.int 0 0,.ref 107,.int 95 0,.int 0 0,.ref 114,.int 100 0,.int 0 0,.ref 121,.int 109 0,.int 0 0,.ref 128,.int 114 0,.int 0 0,.ref 135,.int 121 0,.int 0 0,.ref 142,.int 129 0,.int 0 0,.ref 149,.int 136 0,.int 0 0,.ref 156,.int 156 0,.int 0 0,.ref 163,.int 163 0,.int 0 0,.ref 168,.int 167 0,.int 0 0,.ref 176,.int 169 0,.int 0 0,.ref 183,.int 181 0,.int 0 0,.ref 190,.int 193 0,.int 0 0,.ref 197,.int 198 0,.int 0 0,.ref 204,.int 202 0,.int 0 0,.ref 211,.int 212 0,.int 0 0,.ref 218,.int 222 0,.int 0 0,.ref 225,.int 254 0,.int 0 0,.ref 232,.int 272 0,.int 0 0,.ref 239,.int 277 0,.int 0 0,.ref 260,.int 288 0,.int 0 0,.ref 289,.int 290 0,.int 0 0,.ref 296,.int 292 0,.int 0 0,.ref 303,.int 303 0,.int 0 0,.ref 310,.int 305 0,.int 0 0,.ref 317,.int 310 0,.int 0 0,.ref 324,.int 314 0,.int 0 0,.ref 331,.int 322 0,.int 0 0,.ref 338,.int 326 0,.int 0 0,.ref 343,.int 332 0,.int 0 0,.ref 348,.int 348 0,.int 0 0,.ref 355,.int 353 0,.int 0 0,.ref 360,.int 358 0,.int 0 0,.ref 367,.int 364 0,.int 0 0,.ref 374,.int 366 0,.int 0 0,.ref 387,.int 372 0,.int 0 0,.ref 406,.int 377 0,.int 0 0,.ref 413,.int 383 0,.int 0 0,.ref 420,.int 386 0,.int 0 0,.ref 427,.int 392 0,.int 0 0,.ref 434,.int 400 0,.int 0 0,.ref 441,.int 406 0,.int 0 0,.ref 448,.int 416 0,.int 0 0,.ref 455,.int 424 0,.int 0 0,.ref 462,.int 430 0,.int 0 0,.ref 469,.int 438 0,.int 0 0,.ref 476,.int 452 0,.int 0 0,.ref 483,.int 454 0,.int 0 0,.ref 490,.int 460 0,.int 0 0,.ref 497,.int 462 0,.int 0 0,.ref 502,.int 476 0,.int 0 0,.ref 509,.int 480 0,.int 0 0,.ref 514,.int 487 0,.int 0 0,.ref 521,.int 490 0,.int 0 0,.ref 528,.int 492 0,.int 0 0,.ref 535,.int 500 0,.int 0 0,.ref 542,.int 503 0,.int 0 0,.ref 549,.int 516 0,.int 0 0,.ref 556,.int 522 0,.int 0 0,.ref 563,.int 534 0,.int 0 0,.ref 568,.int 546 0,.int 0 0,.ref 573,.int 550 0,.int 0 0,.ref 580,.int 561 0,.int 0 0,.ref 588,.int 571 0,.int 0 0,.ref 595,.int 580 0,.int 0 0,.ref 602,.int 587 0,.int 0 0,.ref 609,.int 594 0,.int 0 0,.ref 616,.int 601 0,.int 0 0,.ref 623,.int 610 0,.int 0 0,.ref 630,.int 632 0,.int 0 0,.ref 637,.int 637 0,.int 0 0,.ref 644,.int 645 0,.int 0 0,.ref 651,.int 647 0,.int 0 0,.ref 658,.int 652 0,.int 0 0,.ref 665,.int 668 0,.int 0 0,.ref 670,.int 672 0,.int 0 0,.ref 677,.int 694 0,.int 0 0,.ref 684,.int 696 0,.int 0 0,.ref 689,.int 700 0,.int 0 0,.ref 696,.int 702 0,.int 0 0,.ref 703,.int 706 0,.int 0 0,.ref 708,.int 709 0,.int 0 0,.ref 715,.int 713 0,.int 0 0,.ref 722,.int 721 0,.int 0 0,.ref 729,.int 725 0,.int 0 0,.ref 736,.int 734 0,.int 0 0,.ref 741,.int 750 0,.int 0 0,.ref 746,.int 754 0,.int 0 0,.ref 753,.int 770 0,.int 0 0,.ref 758,.int 787 0,.int 0 0,.ref 763,.int 794 0,.int 0 0,.ref 770,.int 802 0,.int 0 0,.ref 775,.int 809 0,.int 0 0,.ref 780,.int 815 0,.int 0 0,.ref 785,.int 818 0,.int 0 0,.ref 790,.int 821 0,.int 0 0,.ref 795,.int 824 0,.int 0 0,.ref 802,.int 831 0,.int 0 0,.ref 809,.int 833 0,.int 0 0,.ref 816,.int 838 0,.int 0 0,.ref 821,.int 851 0,.int 0 0,.ref 828,.int 858 0,.int 0 0,.ref 835,.int 863 0,.int 0 0,.ref 840,.int 876 0,.int 0 0,.ref 847,.int 885 0,.int 0 0,.ref 852,.int 899 0,.int 0 0,.ref 859,.int 910 0,.int 0 0,.ref 866,.int 921 0,.int 0 0,.ref 871,.int 935 0,.int 0 0,.ref 878,.int 939 0,.int 0 0,.ref 885,.int 941 0,.int 0 0,.ref 890,.int 945 0,.int 0 0,.ref 895,.int 952 0,.int 0 0,.ref 900,.int 954 0,.int 0 0,.ref 907,.int 956 0,.int 0 0,.ref 914,.int 958 0,.int 0 0,.ref 919]
noncomputable def o12v1:Obj:=⟨.none,none,.fields (Mp.take 33).toArray,#[]⟩
def o17:Obj:=qt [.str "k" 190]
def o19:Obj:=qf Vj 0
def o20:Obj:=qB Vj 187 1 1 15 191
def o21:Obj:=qg Vj 0 "__main__" 164 20 .none
def o22:Obj:=qt [.int 0 196,.int 0 197]
def o23:Obj:=qt [.int 1 199,.int 0 200]
def o24:Obj:=qt [.int 0 202,.int 1 203]
def o27:Obj:=qs 208 ["a","b"]
def o29:Obj:=qf Vi 5
def o30:Obj:=qB Vi 205 8 2 25 210
def o31:Obj:=ZC Vi 5 30
def o34:Obj:=qs 216 ["n","d","common"]
def o36:Obj:=qf Vh 6
def o37:Obj:=qB Vh 213 12 2 32 219
def o38:Obj:=ZC Vh 6 37
def o41:Obj:=qt [.str "n" 225]
def o43:Obj:=qf Rg 7
def o44:Obj:=qB Rg 222 22 1 39 226
def o45:Obj:=ZC Rg 7 44
def o48:Obj:=qt [.str "x" 232]
def o50:Obj:=qf Vg 8
def o51:Obj:=qB Vg 229 26 1 46 233
def o52:Obj:=ZC Vg 8 51
def o55:Obj:=qt [.str "x" 239]
def o57:Obj:=qf Vf 9
def o58:Obj:=qB Vf 236 28 1 53 240
def o59:Obj:=ZC Vf 9 58
def o62:Obj:=qt [.str "x" 246]
def o64:Obj:=qf Ve 10
def o65:Obj:=qB Ve 243 30 1 60 247
def o66:Obj:=ZC Ve 10 65
def o69:Obj:=qs 253 ["x","found"]
def o71:Obj:=qf Vd 11
def o72:Obj:=qB Vd 250 34 1 67 255
def o73:Obj:=ZC Vd 11 72
def o76:Obj:=qs 261 ["n","d","low","rest"]
def o78:Obj:=qf Vb 12
def o79:Obj:=qB Vb 258 39 2 74 265
def o80:Obj:=ZC Vb 12 79
def o83:Obj:=qs 271 ["x","n","d","e"]
def o85:Obj:=qf Va 13
def o86:Obj:=qB Va 268 45 1 81 275
def o87:Obj:=ZC Va 13 86
def o90:Obj:=qs 281 ["x","y","left","right"]
def o92:Obj:=qf U9 14
def o93:Obj:=qB U9 278 56 2 88 285
def o94:Obj:=ZC U9 14 93
def o3v2(p:aY):Obj:=qd (qe p s0 165 (.str Lo 288)::(e3 p).take 35) 36
noncomputable def o12v2:Obj:=⟨.none,none,.fields (Mp.take 69).toArray,#[]⟩
def o97:Obj:=qs 295 ["n","rest","row","part"]
def o99:Obj:=qf Rf 17
def o100:Obj:=qB Rf 292 76 1 95 299
def o101:Obj:=Fq Rf 17 100
def o104:Obj:=qt [.str "x" 305]
def o106:Obj:=qf Rd 18
def o107:Obj:=qB Rd 302 87 1 102 306
def o108:Obj:=Fq Rd 18 107
def o111:Obj:=qs 312 ["x","e",Ik,"shift"]
def o113:Obj:=qf U8 19
def o114:Obj:=qB U8 309 95 3 109 316
def o115:Obj:=Fq U8 19 114
def o118:Obj:=qs 322 ["x",Ik,"e","n"]
def o120:Obj:=qf U7 20
def o121:Obj:=qB U7 319 100 2 116 326
def o122:Obj:=Fq U7 20 121
def o125:Obj:=qs 332 ["text","end"]
def o127:Obj:=qf U6 21
def o128:Obj:=qB U6 329 109 1 123 334
def o129:Obj:=Fq U6 21 128
def o132:Obj:=qs 340 ["x",Ik,"side","text","e","row"]
def o134:Obj:=qf U5 22
def o135:Obj:=qB U5 337 114 2 130 346
def o136:Obj:=Fq U5 22 135
def o139:Obj:=qs 352 ["x","places","n","text"]
def o141:Obj:=qf U4 23
def o142:Obj:=qB U4 349 121 2 137 356
def o143:Obj:=Fq U4 23 142
def o146:Obj:=qs 362 ["x",Ik,"side","text","e","count","left"]
def o148:Obj:=qf U3 24
def o149:Obj:=qB U3 359 129 2 144 369
def o150:Obj:=Fq U3 24 149
def o153:Obj:=qs 375 ["xs",Ik,"count","left","places","wide","minus","x","row","fixed_width","scientific_width"]
def o155:Obj:=qf U1 25
def o156:Obj:=qB U1 372 136 2 151 386
def o157:Obj:=Fq U1 25 156
def o160:Obj:=qs 392 ["x","form","text"]
def o162:Obj:=qf U0 26
def o163:Obj:=qB U0 389 156 2 158 395
def o164:Obj:=Fq U0 26 163
def o167:Obj:=qf UZ 27
def o168:Obj:=qC UZ 398 163 2 165 401
def o169:Obj:=Fq UZ 27 168
def o170:Obj:=qt [.int 7 404]
def o173:Obj:=qs 408 ["x",Ik]
def o175:Obj:=qf UY 28
def o176:Obj:=qB UY 405 167 2 171 410
def o177:Obj:=qg UY 28 Lo 288 176 (.ref 170)
def o3v3(p:aY):Obj:=qd (qe p s0 165 (.str rP 500)::(e3 p).take 43) 44
noncomputable def o12v3:Obj:=⟨.none,none,.fields (Mp.take 93).toArray,#[]⟩
def o180:Obj:=qs 416 ["d","twos","fives"]
def o182:Obj:=qf UX 29
def o183:Obj:=qB UX 413 169 1 178 419
def o184:Obj:=Fq UX 29 183
def o187:Obj:=qs 425 ["x","text","places","n"]
def o189:Obj:=qf Rc 30
def o190:Obj:=qB Rc 422 181 1 185 429
def o191:Obj:=Fq Rc 30 190
def o194:Obj:=qs 435 ["text","base","value","char"]
def o196:Obj:=qf UW 31
def o197:Obj:=qB UW 432 193 2 192 439
def o198:Obj:=Fq UW 31 197
def o201:Obj:=qs 445 ["text","at",Ik]
def o203:Obj:=qf UU 32
def o204:Obj:=qB UU 442 198 3 199 448
def o205:Obj:=Fq UU 32 204
def o208:Obj:=qs 454 ["text","start","value"]
def o210:Obj:=qf UT 33
def o211:Obj:=qB UT 451 202 1 206 457
def o212:Obj:=Fq UT 33 211
def o215:Obj:=qs 463 ["n","base","e"]
def o217:Obj:=qf US 34
def o218:Obj:=qB US 460 212 3 213 466
def o219:Obj:=Fq US 34 218
def o222:Obj:=qs 472 ["text","base",Ik,"mark","scale","end","before","behind","start","e","ok","n","found"]
def o224:Obj:=qf UR 35
def o225:Obj:=qB UR 469 222 1 220 485
def o226:Obj:=Fq UR 35 225
def o229:Obj:=qs 491 ["text","body","negative","small","found","ok"]
def o231:Obj:=qf UQ 36
def o232:Obj:=qB UQ 488 254 1 227 497
def o233:Obj:=Fq UQ 36 232
def o3v4(p:aY):Obj:=qd (qe p s0 165 (.str rP 500)::(e3 p).take 44) 45
noncomputable def o12v4:Obj:=⟨.none,none,.fields (Mp.take 96).toArray,#[]⟩
noncomputable def o235:Obj:=⟨(.type "builtin_function_or_method"),none,(.fields (#[(.builtin "type.__prepare__"),(.type "type")])),#[]⟩
def o236(p:aY):Obj:=qd [qe p Cm 509 (.str rP 500),qe p Z9 511 (.str Fi 510),qe p Ck 513 (.int 272 512),qe p oB 520 (.ref 247),qe p Cj 523 (.ref 248)] 5
noncomputable def o238:Obj:=⟨.none,none,(.fields (#[(.int 274 0),(.int 4 0),(.ref 246)])),#[]⟩
def o239:Obj:=qc Fi Fi 504 505 506 272 0 0 0 0 237 false 181 238 .none .none .none 507 508
noncomputable def o240:Obj:=⟨(.type "frame"),none,.plain,(#[(some (.ref 239)),(some (.ref 3)),(some (.ref 236)),none,(some (.str rP 500)),none,(some (.ref 0))])⟩
def o243:Obj:=qt [.str "self" 517]
def o245:Obj:=qm oB "Null.__init__" 38 0
def o246:Obj:=qb oB "Null.__init__" 514 274 1 241 518
def o247:Obj:=qn oB "Null.__init__" 38 0 rP 500 246 .none
def o248:Obj:=qs 521 ["attrs",kY]
def o249(p:aY):Obj:=qd [qe p Cm 509 (.str rP 500),qe p Ck 513 (.int 272 512),qe p oB 520 (.ref 247),qe p Cj 523 (.ref 248),qe p "__dict__" 525 (.ref 251),qe p Ij 527 (.ref 252),qe p s2 528 .none] 4
noncomputable def o250:Obj:=⟨(.type "type"),none,(.cls ⟨Fi,[(.type "object")],[(.ref 250),(.type "object")],249,Fi,true,[],[],false,none,false⟩),(#[none,none,(some (.str Fi 502)),(some (.str Fi 510)),(some (.builtin "object.__new__")),(some (.bool true))])⟩
noncomputable def o251:Obj:=⟨(.type "getset_descriptor"),none,(.fields (#[(.str "__dict__" 524),(.ref 250),(.builtin "function.__dict__"),(.builtin "function.__dict__#set")])),#[]⟩
noncomputable def o252:Obj:=⟨(.type "getset_descriptor"),none,(.fields (#[(.str Ij 526),(.ref 250),(.builtin "ExceptionGroup.__weakref__"),.none])),#[]⟩
noncomputable def o253:Obj:=⟨(.type "super"),none,(.fields (#[(.ref 250),(.ref 250),(.ref 250)])),#[]⟩
noncomputable def o254:Obj:=⟨(.type "builtin_function_or_method"),none,(.fields (#[(.builtin "object.__init_subclass__"),(.ref 250)])),#[]⟩
def o3v5(p:aY):Obj:=qd (qe p s0 165 (.str rP 500)::(e3 p).take 49) 50
noncomputable def o12v5:Obj:=⟨.none,none,.fields (Mp.take 111).toArray,#[]⟩
def o257(p:aY):Obj:=qd [qe p Cm 538 (.str rP 500),qe p Z9 540 (.str Fg 539),qe p Ck 542 (.int 277 541),qe p oB 552 (.ref 269),qe p "copy" 559 (.ref 276),qe p Cj 565 (.ref 277)] 6
noncomputable def o259:Obj:=⟨.none,none,(.fields (#[(.int 279 0),(.int 4 0),(.ref 268),(.int 286 0),(.int 4 0),(.ref 275)])),#[]⟩
def o260:Obj:=qc Fg Fg 533 534 535 277 0 0 0 0 258 false 181 259 .none .none .none 536 537
noncomputable def o261:Obj:=⟨(.type "frame"),none,.plain,(#[(some (.ref 260)),(some (.ref 3)),(some (.ref 257)),none,(some (.str rP 500)),none,(some (.ref 0))])⟩
def o262:Obj:=qt [.none]
def o265:Obj:=qs 546 ["self",kY,"items","attrs"]
def o267:Obj:=qm oB Z8 39 0
def o268:Obj:=qb oB Z8 543 279 4 263 550
def o269:Obj:=qn oB Z8 39 0 rP 500 268 (.ref 262)
def o272:Obj:=qt [.str "self" 556]
def o274:Obj:=qm "copy" "Vector.copy" 39 1
def o275:Obj:=qb "copy" "Vector.copy" 553 286 1 270 557
def o276:Obj:=qn "copy" "Vector.copy" 39 1 rP 500 275 .none
def o277:Obj:=qs 560 ["attrs","items",kY,"loose","shared"]
def o278(p:aY):Obj:=qd [qe p Cm 538 (.str rP 500),qe p Ck 542 (.int 277 541),qe p oB 552 (.ref 269),qe p "copy" 559 (.ref 276),qe p Cj 565 (.ref 277),qe p "__dict__" 567 (.ref 280),qe p Ij 569 (.ref 281),qe p s2 570 .none] 4
noncomputable def o279:Obj:=⟨(.type "type"),none,(.cls ⟨Fg,[(.type "object")],[(.ref 279),(.type "object")],278,Fg,true,[],[],false,none,false⟩),(#[none,none,(some (.str Fg 531)),(some (.str Fg 539)),(some (.builtin "object.__new__")),(some (.bool true))])⟩
noncomputable def o280:Obj:=⟨(.type "getset_descriptor"),none,(.fields (#[(.str "__dict__" 566),(.ref 279),(.builtin "function.__dict__"),(.builtin "function.__dict__#set")])),#[]⟩
noncomputable def o281:Obj:=⟨(.type "getset_descriptor"),none,(.fields (#[(.str Ij 568),(.ref 279),(.builtin "ExceptionGroup.__weakref__"),.none])),#[]⟩
noncomputable def o282:Obj:=⟨(.type "super"),none,(.fields (#[(.ref 279),(.ref 279),(.ref 279)])),#[]⟩
noncomputable def o283:Obj:=⟨(.type "builtin_function_or_method"),none,(.fields (#[(.builtin "object.__init_subclass__"),(.ref 279)])),#[]⟩
def o286:Obj:=qt [.str "items" 576]
def o288:Obj:=qf Rb 40
def o289:Obj:=qB Rb 573 288 1 284 577
def o290:Obj:=Vy Rb 40 289
def o293:Obj:=qt [.str "items" 583]
def o295:Obj:=qf Ra 41
def o296:Obj:=qB Ra 580 290 1 291 584
def o297:Obj:=Vy Ra 41 296
def o300:Obj:=qs 590 ["v",kY]
def o302:Obj:=qf Q9 42
def o303:Obj:=qB Q9 587 292 1 298 592
def o304:Obj:=Vy Q9 42 303
def o307:Obj:=qt [.str "v" 598]
def o309:Obj:=qf Q8 43
def o310:Obj:=qB Q8 595 303 1 305 599
def o311:Obj:=Vy Q8 43 310
def o3v6(p:aY):Obj:=qd (qe p s0 165 (.str zE 669)::(e3 p).take 58) 59
noncomputable def o12v6:Obj:=⟨.none,none,.fields (Mp.take 138).toArray,#[]⟩
def o314:Obj:=qt [.str "v" 605]
def o316:Obj:=qf Q7 44
def o317:Obj:=qB Q7 602 305 1 312 606
def o318:Obj:=Vy Q7 44 317
def o321:Obj:=qs 614 ["v","name"]
def o323:Obj:=qf Q6 46
def o324:Obj:=qB Q6 611 310 2 319 616
def o325:Obj:=qg8 Q6 46 324
def o328:Obj:=qs 622 [kY,"item"]
def o330:Obj:=qf Q5 47
def o331:Obj:=qB Q5 619 314 2 326 624
def o332:Obj:=qg8 Q5 47 331
def o335:Obj:=qs 630 ["texts","code"]
def o337:Obj:=qf Q4 48
def o338:Obj:=qB Q4 627 322 2 333 632
def o339:Obj:=qg8 Q4 48 338
def o342:Obj:=qf Q3 49
def o343:Obj:=qC Q3 635 326 1 340 638
def o344:Obj:=qg8 Q3 49 343
def o347:Obj:=qf Q2 50
def o348:Obj:=qC Q2 641 332 1 345 644
def o349:Obj:=qg8 Q2 50 348
def o352:Obj:=qs 650 ["v","dims"]
def o354:Obj:=qf Q0 51
def o355:Obj:=qB Q0 647 348 1 350 652
def o356:Obj:=qg8 Q0 51 355
def o359:Obj:=qf UP 52
def o360:Obj:=qC UP 655 353 1 357 658
def o361:Obj:=qg8 UP 52 360
def o364:Obj:=qs 664 ["v","found"]
def o366:Obj:=qf QZ 53
def o367:Obj:=qB QZ 661 358 1 362 666
def o368:Obj:=qg8 QZ 53 367
noncomputable def o2v7(p:aY):Obj:=⟨.none,none,(.dict (#[⟨PyData.keyHash p aiR,(.str aiR 687),(.int 378 0)⟩,⟨PyData.keyHash p aiQ,(.str aiQ 688),(.int 1 0)⟩]) 2),#[]⟩
def o3v7(p:aY):Obj:=qd (qe p s0 165 (.str zE 669)::(e3 p).take 59) 60
noncomputable def o12v7:Obj:=⟨.none,none,.fields (Mp.take 141).toArray,#[]⟩
def o369:Obj:=qt [.type "Exception"]
def o371(p:aY):Obj:=qd [qe p Cm 678 (.str zE 669),qe p Z9 680 (.str oq 679),qe p Ck 682 (.int 364 681),qe p Cj 683 (.ref 376)] 4
def o374:Obj:=qc oq oq 673 674 675 364 0 0 0 0 372 false 181 373 .none .none .none 676 677
noncomputable def o375:Obj:=⟨(.type "frame"),none,.plain,(#[(some (.ref 374)),(some (.ref 3)),(some (.ref 371)),none,(some (.str zE 669)),none,(some (.ref 0))])⟩
def o377(p:aY):Obj:=qd [qe p Cm 678 (.str zE 669),qe p Ck 682 (.int 364 681),qe p Cj 683 (.ref 376),qe p Ij 685 (.ref 379),qe p s2 686 .none] 3
noncomputable def o378:Obj:=⟨(.type "type"),none,(.cls ⟨oq,[(.type "Exception")],[(.ref 378),(.type "Exception"),(.type "BaseException"),(.type "object")],377,oq,true,[],[],false,none,false⟩),(#[(some (.ref 369)),none,(some (.str oq 671)),(some (.str oq 679)),(some (.builtin "Exception.__new__")),(some (.bool true))])⟩
noncomputable def o379:Obj:=⟨(.type "getset_descriptor"),none,(.fields (#[(.str Ij 684),(.ref 378),(.builtin "ExceptionGroup.__weakref__"),.none])),#[]⟩
noncomputable def o380:Obj:=⟨(.type "super"),none,(.fields (#[(.ref 378),(.ref 378),(.ref 378)])),#[]⟩
noncomputable def o381:Obj:=⟨(.type "builtin_function_or_method"),none,(.fields (#[(.builtin "object.__init_subclass__"),(.ref 378)])),#[]⟩
def o3v8(p:aY):Obj:=qd (qe p s0 165 (.str Z7 716)::(e3 p).take 65) 66
noncomputable def o12v8:Obj:=⟨.none,none,.fields (Mp.take 156).toArray,#[]⟩
noncomputable def o378v8:Obj:=⟨(.type "type"),none,(.cls ⟨oq,[(.type "Exception")],[(.ref 378),(.type "Exception"),(.type "BaseException"),(.type "object")],377,oq,true,[],[(.ref 398)],false,none,false⟩),(#[(some (.ref 369)),none,(some (.str oq 671)),(some (.str oq 679)),(some (.builtin "Exception.__new__")),(some (.bool true))])⟩
def o382:Obj:=qt [.ref 378]
def o384(p:aY):Obj:=qd [qe p Cm 698 (.str zE 669),qe p Z9 700 (.str ve 699),qe p Ck 702 (.int 366 701),qe p oB 710 (.ref 395),qe p Cj 712 (.ref 396)] 5
noncomputable def o386:Obj:=⟨.none,none,(.fields (#[(.int 368 0),(.int 4 0),(.ref 394)])),#[]⟩
def o387:Obj:=qc ve ve 693 694 695 366 0 0 0 0 385 false 181 386 .none .none .none 696 697
noncomputable def o388:Obj:=⟨(.type "frame"),none,.plain,(#[(some (.ref 387)),(some (.ref 3)),(some (.ref 384)),none,(some (.str zE 669)),none,(some (.ref 0))])⟩
def o391:Obj:=qs 706 ["self","message"]
def o393:Obj:=qm oB Z6 56 0
def o394:Obj:=qb oB Z6 703 368 2 389 708
def o395:Obj:=qn oB Z6 56 0 zE 669 394 .none
def o396:Obj:=qt [.str "message" 711]
def o397(p:aY):Obj:=qd [qe p Cm 698 (.str zE 669),qe p Ck 702 (.int 366 701),qe p oB 710 (.ref 395),qe p Cj 712 (.ref 396),qe p s2 713 .none] 2
noncomputable def o398:Obj:=⟨(.type "type"),none,(.cls ⟨ve,[(.ref 378)],[(.ref 398),(.ref 378),(.type "Exception"),(.type "BaseException"),(.type "object")],397,ve,true,[],[],false,none,false⟩),(#[(some (.ref 382)),none,(some (.str ve 691)),(some (.str ve 699)),(some (.builtin "Exception.__new__")),(some (.bool true))])⟩
noncomputable def o399:Obj:=⟨(.type "super"),none,(.fields (#[(.ref 398),(.ref 398),(.ref 398)])),#[]⟩
noncomputable def o400:Obj:=⟨(.type "builtin_function_or_method"),none,(.fields (#[(.builtin "object.__init_subclass__"),(.ref 398)])),#[]⟩
def o403:Obj:=qs 723 [kY,"kinds"]
def o405:Obj:=qf QY 59
def o406:Obj:=qB QY 720 372 1 401 725
def o407:Obj:=HA QY 59 406
def o410:Obj:=qs 731 ["kinds","names","most",kY]
def o412:Obj:=qf QX 60
def o413:Obj:=qB QX 728 377 1 408 735
def o414:Obj:=HA QX 60 413
def o417:Obj:=qs 741 ["notes","message"]
def o419:Obj:=qf UO 61
def o420:Obj:=qB UO 738 383 2 415 743
def o421:Obj:=HA UO 61 420
def o424:Obj:=qt [.str "s" 749]
def o426:Obj:=qf UN 62
def o427:Obj:=qB UN 746 386 1 422 750
def o428:Obj:=HA UN 62 427
def o3v9(p:aY):Obj:=qd (qe p s0 165 (.str Z7 716)::(e3 p).take 78) 79
noncomputable def o12v9:Obj:=⟨.none,none,.fields (Mp.take 195).toArray,#[]⟩
def o431:Obj:=qs 756 ["x","notes","found"]
def o433:Obj:=qf UM 63
def o434:Obj:=qB UM 753 392 2 429 759
def o435:Obj:=HA UM 63 434
def o438:Obj:=qs 765 ["s","notes","ok","found"]
def o440:Obj:=qf UL 64
def o441:Obj:=qB UL 762 400 2 436 769
def o442:Obj:=HA UL 64 441
def o445:Obj:=qs 775 [kY,"item"]
def o447:Obj:=qf UK 65
def o448:Obj:=qB UK 772 406 2 443 777
def o449:Obj:=HA UK 65 448
def o452:Obj:=qs 783 [kY,"item","notes"]
def o454:Obj:=qf UJ 66
def o455:Obj:=qB UJ 780 416 3 450 786
def o456:Obj:=HA UJ 66 455
def o459:Obj:=qs 792 [kY,"item","notes"]
def o461:Obj:=qf QW 67
def o462:Obj:=qB QW 789 424 3 457 795
def o463:Obj:=HA QW 67 462
def o466:Obj:=qs 801 [kY,"item"]
def o468:Obj:=qf UI 68
def o469:Obj:=qB UI 798 430 2 464 803
def o470:Obj:=HA UI 68 469
def o473:Obj:=qs 809 [kY,"item","to","notes"]
def o475:Obj:=qf QV 69
def o476:Obj:=qB QV 806 438 4 471 813
def o477:Obj:=HA QV 69 476
def o480:Obj:=qt [.str kY 819]
def o482:Obj:=qf QU 70
def o483:Obj:=qB QU 816 452 1 478 820
def o484:Obj:=HA QU 70 483
def o487:Obj:=qs 826 [kY,"item","to","notes"]
def o489:Obj:=qf UH 71
def o490:Obj:=qB UH 823 454 4 485 830
def o491:Obj:=HA UH 71 490
def o494:Obj:=qs 836 ["v",kY]
def o496:Obj:=qf UG 72
def o497:Obj:=qB UG 833 460 2 492 838
def o498:Obj:=HA UG 72 497
def o501:Obj:=qf UE 73
def o502:Obj:=qC UE 841 462 2 499 844
def o503:Obj:=HA UE 73 502
def o506:Obj:=qs 850 ["v","names"]
def o508:Obj:=qf QT 74
def o509:Obj:=qB QT 847 476 2 504 852
def o510:Obj:=HA QT 74 509
def o513:Obj:=qf QS 75
def o514:Obj:=qC QS 855 480 3 511 858
def o515:Obj:=HA QS 75 514
def o3v10(p:aY):Obj:=qd (qe p s0 165 (.str aiO 972)::(e3 p).take 90) 91
noncomputable def o12v10:Obj:=⟨.none,none,.fields (Mp.take 231).toArray,#[]⟩
def o518:Obj:=qt [.str "v" 864]
def o520:Obj:=qf UD 76
def o521:Obj:=qB UD 861 487 1 516 865
def o522:Obj:=HA UD 76 521
def o525:Obj:=qs 873 [kY,"item"]
def o527:Obj:=qf QR 78
def o528:Obj:=qB QR 870 490 2 523 875
def o529:Obj:=qg7 QR 78 528
def o532:Obj:=qs 881 [kY,"a","b"]
def o534:Obj:=qf QO 79
def o535:Obj:=qB QO 878 492 3 530 884
def o536:Obj:=qg7 QO 79 535
def o539:Obj:=qt [.str "v" 890]
def o541:Obj:=qf QN 80
def o542:Obj:=qB QN 887 500 1 537 891
def o543:Obj:=qg7 QN 80 542
def o546:Obj:=qs 897 ["v","i","j","decreasing","na_last","left","right","left_lacking","right_lacking","result"]
def o548:Obj:=qf QM 81
def o549:Obj:=qB QM 894 503 5 544 907
def o550:Obj:=qg7 QM 81 549
def o553:Obj:=qs 913 ["vs","i","j","decreasing","na_last","number","result"]
def o555:Obj:=qf QL 82
def o556:Obj:=qB QL 910 516 5 551 920
def o557:Obj:=qg7 QL 82 556
def o560:Obj:=qs 926 ["left","right","vs","decreasing","na_last","merged","i","j"]
def o562:Obj:=qf QK 83
def o563:Obj:=qB QK 923 522 5 558 934
def o564:Obj:=qg7 QK 83 563
def o567:Obj:=qf QJ 84
def o568:Obj:=qC QJ 937 534 4 565 940
def o569:Obj:=qg7 QJ 84 568
def o572:Obj:=qf QI 85
def o573:Obj:=qC QI 943 546 2 570 946
def o574:Obj:=qg7 QI 85 573
def o577:Obj:=qs 952 ["vs","na_last","places",zD,"keep","v"]
def o579:Obj:=qf QH 86
def o580:Obj:=qB QH 949 550 2 575 958
def o581:Obj:=qg7 QH 86 580
def o582:Obj:=qt [.bool false,.bool true]
def o585:Obj:=qs 964 ["vs","decreasing","na_last","v","flags"]
def o587:Obj:=qf QG 87
def o588:Obj:=qB QG 961 561 3 583 969
def o589:Obj:=qg QG 87 Z5 868 588 (.ref 582)
def o592:Obj:=qs 977 ["u","v","left","right","name"]
def o594:Obj:=qf UC 89
def o595:Obj:=qB UC 974 571 2 590 982
def o596:Obj:=qg9 UC 89 595
def o3v11(p:aY):Obj:=qd (qe p s0 165 (.str "vectorcove.texts" 1089)::(e3 p).take 102) 103
noncomputable def o12v11:Obj:=⟨.none,none,.fields (Mp.take 267).toArray,#[]⟩
def o599:Obj:=qs 988 ["u","v","same",zD]
def o601:Obj:=qf UB 90
def o602:Obj:=qB UB 985 580 3 597 992
def o603:Obj:=qg9 UB 90 602
def o606:Obj:=qs 998 ["u","v",zD]
def o608:Obj:=qf UA 91
def o609:Obj:=qB UA 995 587 2 604 1001
def o610:Obj:=qg9 UA 91 609
def o613:Obj:=qs 1007 ["u","v","name"]
def o615:Obj:=qf Uz 92
def o616:Obj:=qB Uz 1004 594 2 611 1010
def o617:Obj:=qg9 Uz 92 616
def o620:Obj:=qs 1016 ["u","v",zD,"tag","value","other","against"]
def o622:Obj:=qf Uy 93
def o623:Obj:=qB Uy 1013 601 2 618 1023
def o624:Obj:=qg9 Uy 93 623
def o627:Obj:=qs 1029 ["u","v",kY,"same_home"]
def o629:Obj:=qf Ux 94
def o630:Obj:=qB Ux 1026 610 2 625 1033
def o631:Obj:=qg9 Ux 94 630
def o634:Obj:=qs 1039 ["u","v"]
def o636:Obj:=qf Uw 95
def o637:Obj:=qB Uw 1036 632 2 632 1041
def o638:Obj:=qg9 Uw 95 637
def o641:Obj:=qs 1049 [kY,"item"]
def o643:Obj:=qf QE 97
def o644:Obj:=qB QE 1046 637 2 639 1051
def o645:Obj:=Vw QE 97 644
def o648:Obj:=qt [.str "v" 1057]
def o650:Obj:=qf QD 98
def o651:Obj:=qB QD 1054 645 1 646 1058
def o652:Obj:=Vw QD 98 651
def o655:Obj:=qs 1064 ["item","items","places",zD]
def o657:Obj:=qf Uv 99
def o658:Obj:=qB Uv 1061 647 3 653 1068
def o659:Obj:=Vw Uv 99 658
def o662:Obj:=qs 1074 ["v","kept","found",zD,"first","known"]
def o664:Obj:=qf QC 100
def o665:Obj:=qB QC 1071 652 1 660 1080
def o666:Obj:=Vw QC 100 665
def o669:Obj:=qf QA 101
def o670:Obj:=qC QA 1083 668 1 667 1086
def o671:Obj:=Vw QA 101 670
def o674:Obj:=qs 1094 ["names","sep","taken","name","seen","counts","found","number","fresh"]
def o676:Obj:=qf Uu 103
def o677:Obj:=qB Uu 1091 672 2 672 1103
def o678:Obj:=qg Uu 103 "vectorcove.texts" 1089 677 .none
def o3v12(p:aY):Obj:=qd (qe p s0 165 (.str Z4 1187)::(e3 p).take 115) 116
noncomputable def o12v12:Obj:=⟨.none,none,.fields (Mp.take 306).toArray,#[]⟩
def o681:Obj:=qt [.str "v" 1111]
def o683:Obj:=qf Qz 105
def o684:Obj:=qB Qz 1108 694 1 679 1112
def o685:Obj:=Vv Qz 105 684
def o688:Obj:=qf Qy 106
def o689:Obj:=qC Qy 1115 696 3 686 1118
def o690:Obj:=Vv Qy 106 689
def o693:Obj:=qt [.str "count" 1124]
def o695:Obj:=qf Qx 107
def o696:Obj:=qB Qx 1121 700 1 691 1125
def o697:Obj:=Vv Qx 107 696
def o700:Obj:=qt [.str "df" 1131]
def o702:Obj:=qf Qw 108
def o703:Obj:=qB Qw 1128 702 1 698 1132
def o704:Obj:=Vv Qw 108 703
def o707:Obj:=qf Qv 109
def o708:Obj:=qC Qv 1135 706 1 705 1138
def o709:Obj:=Vv Qv 109 708
def o712:Obj:=qt [.str "df" 1144]
def o714:Obj:=qf Ut 110
def o715:Obj:=qB Ut 1141 709 1 710 1145
def o716:Obj:=Vv Ut 110 715
def o719:Obj:=qs 1151 [Ii,"kept","name"]
def o721:Obj:=qf Qu 111
def o722:Obj:=qB Qu 1148 713 1 717 1154
def o723:Obj:=Vv Qu 111 722
def o726:Obj:=qt [.str kY 1160]
def o728:Obj:=qf Us 112
def o729:Obj:=qB Us 1157 721 1 724 1161
def o730:Obj:=Vv Us 112 729
def o733:Obj:=qs 1167 [Ii,"places","items","count",zD]
def o735:Obj:=qf Qt 113
def o736:Obj:=qB Qt 1164 725 2 731 1172
def o737:Obj:=Vv Qt 113 736
def o740:Obj:=qf Qs 114
def o741:Obj:=qC Qs 1175 734 2 738 1178
def o742:Obj:=Vv Qs 114 741
def o745:Obj:=qf Qq 115
def o746:Obj:=qC Qq 1181 750 2 743 1184
def o747:Obj:=Vv Qq 115 746
def o750:Obj:=qs 1192 ["parts","levels","known","part","texts","one","codes","attrs"]
def o752:Obj:=qf Ur 117
def o753:Obj:=qB Ur 1189 754 1 748 1200
def o754:Obj:=qg Ur 117 Z4 1187 753 .none
def o757:Obj:=qf Qp 118
def o758:Obj:=qC Qp 1203 770 1 755 1206
def o759:Obj:=qg Qp 118 Z4 1187 758 .none
def o3v13(p:aY):Obj:=qd (qe p s0 165 (.str afb 1229)::(e3 p).take 128) 129
noncomputable def o12v13:Obj:=⟨.none,none,.fields (Mp.take 345).toArray,#[]⟩
def o762:Obj:=qf Qo 120
def o763:Obj:=qC Qo 1211 787 1 760 1214
def o764:Obj:=qg Qo 120 Z3 1209 763 .none
def o767:Obj:=qs 1220 [kY,"items","extents","names","made","dimnames"]
def o769:Obj:=qf Qn 121
def o770:Obj:=qB Qn 1217 794 4 765 1226
def o771:Obj:=qg Qn 121 Z3 1209 770 .none
def o774:Obj:=qf Qm 123
def o775:Obj:=qC Qm 1231 802 1 772 1234
def o776:Obj:=Lv Qm 123 775
def o779:Obj:=qf Ql 124
def o780:Obj:=qC Ql 1237 809 2 777 1240
def o781:Obj:=Lv Ql 124 780
def o784:Obj:=qf Qk 125
def o785:Obj:=qC Qk 1243 815 1 782 1246
def o786:Obj:=Lv Qk 125 785
def o789:Obj:=qf Qj 126
def o790:Obj:=qC Qj 1249 818 1 787 1252
def o791:Obj:=Lv Qj 126 790
def o794:Obj:=qf Qi 127
def o795:Obj:=qC Qi 1255 821 1 792 1258
def o796:Obj:=Lv Qi 127 795
def o799:Obj:=qs 1264 ["df","flags",Ii,zD]
def o801:Obj:=qf Qh 128
def o802:Obj:=qB Qh 1261 824 1 797 1268
def o803:Obj:=Lv Qh 128 802
def o806:Obj:=qt [.str Ii 1274]
def o808:Obj:=qf Qg 129
def o809:Obj:=qB Qg 1271 831 1 804 1275
def o810:Obj:=Lv Qg 129 809
def o813:Obj:=qs 1281 ["columns",zD,Ii]
def o815:Obj:=qf Qf 130
def o816:Obj:=qB Qf 1278 833 2 811 1284
def o817:Obj:=Lv Qf 130 816
def o820:Obj:=qf Qe 131
def o821:Obj:=qC Qe 1287 838 1 818 1290
def o822:Obj:=Lv Qe 131 821
def o825:Obj:=qs 1296 ["results","one"]
def o827:Obj:=qf Qd 132
def o828:Obj:=qB Qd 1293 851 1 823 1298
def o829:Obj:=Lv Qd 132 828
def o832:Obj:=qs 1304 ["values","groups","rows",Ii]
def o834:Obj:=qf Qc 133
def o835:Obj:=qB Qc 1301 858 2 830 1308
def o836:Obj:=Lv Qc 133 835
def o3v14(p:aY):Obj:=qd (qe p s0 165 (.str Uq 1349)::(e3 p).take 141) 142
noncomputable def o12v14:Obj:=⟨.none,none,.fields (Mp.take 384).toArray,#[]⟩
def o839:Obj:=qf Qa 134
def o840:Obj:=qC Qa 1311 863 5 837 1314
def o841:Obj:=Lv Qa 134 840
def o844:Obj:=qs 1320 ["df","names","codes",zD,"ind","values"]
def o846:Obj:=qf P9 135
def o847:Obj:=qB P9 1317 876 1 842 1326
def o848:Obj:=Lv P9 135 847
def o851:Obj:=qf P8 136
def o852:Obj:=qC P8 1329 885 1 849 1332
def o853:Obj:=Lv P8 136 852
def o856:Obj:=qs 1338 ["u","v","rows","first","columns","second","counts",zD]
def o858:Obj:=qf P7 137
def o859:Obj:=qB P7 1335 899 2 854 1346
def o860:Obj:=Lv P7 137 859
def o863:Obj:=qs 1354 ["hand","limit","figure","digit"]
def o865:Obj:=qf P6 139
def o866:Obj:=qB P6 1351 910 2 861 1358
def o867:Obj:=ZA P6 139 866
def o870:Obj:=qf P5 140
def o871:Obj:=qC P5 1361 921 3 868 1364
def o872:Obj:=ZA P5 140 871
def o875:Obj:=qs 1370 ["columns","names","rows","df"]
def o877:Obj:=qf P4 141
def o878:Obj:=qB P4 1367 935 3 873 1374
def o879:Obj:=ZA P4 141 878
def o882:Obj:=qt [.str "v" 1380]
def o884:Obj:=qf P0 142
def o885:Obj:=qB P0 1377 939 1 880 1381
def o886:Obj:=ZA P0 142 885
def o889:Obj:=qf PZ 143
def o890:Obj:=qC PZ 1384 941 1 887 1387
def o891:Obj:=ZA PZ 143 890
def o894:Obj:=qf PY 144
def o895:Obj:=qC PY 1390 945 1 892 1393
def o896:Obj:=ZA PY 144 895
def o899:Obj:=qf PX 145
def o900:Obj:=qC PX 1396 952 1 897 1399
def o901:Obj:=ZA PX 145 900
def o904:Obj:=qt [.str Ii 1405]
def o906:Obj:=qf PW 146
def o907:Obj:=qB PW 1402 954 1 902 1406
def o908:Obj:=ZA PW 146 907
def o911:Obj:=qt [.str Ii 1412]
def o913:Obj:=qf PV 147
def o914:Obj:=qB PV 1409 956 1 909 1413
def o915:Obj:=ZA PV 147 914
def o3v15(p:aY):Obj:=qd (qe p s0 165 (.str Uq 1349)::(e3 p).take 142) 143
noncomputable def o12v15:Obj:=⟨.none,none,.fields (Mp.take 387).toArray,#[]⟩
def o918:Obj:=qf PU 148
def o919:Obj:=qC PU 1416 958 1 916 1419
def o920:Obj:=ZA PU 148 919
def t0 (p:aY):BT:=by fail"t 15"
def t1 (p:aY):BT:=by fail"t 95 3v1 12v1"
def t2 (p:aY):BT:=by fail"t 178 3v2 12v2"
def t3 (p:aY):BT:=by fail"t 234 3v3 12v3"
def t4 (p:aY):BT:=by fail"t 255 3v4 12v4"
def t5 (p:aY):BT:=by fail"t 312 3v5 12v5"
def t6 (p:aY):BT:=by fail"t 369 3v6 12v6"
def t7 (p:aY):BT:=by fail"t 382 3v7 2v7 12v7"
def t8 (p:aY):BT:=by fail"t 429 3v8 2v7 12v8 378v8"
def t9 (p:aY):BT:=by fail"t 516 3v9 2v7 12v9 378v8"
def t10 (p:aY):BT:=by fail"t 597 3v10 2v7 12v10 378v8"
def t11 (p:aY):BT:=by fail"t 679 3v11 2v7 12v11 378v8"
def t12 (p:aY):BT:=by fail"t 760 3v12 2v7 12v12 378v8"
def t13 (p:aY):BT:=by fail"t 837 3v13 2v7 12v13 378v8"
def t14 (p:aY):BT:=by fail"t 916 3v14 2v7 12v14 378v8"
def t15 (p:aY):BT:=by fail"t 921 3v15 2v7 12v15 378v8"
def hF (p:aY):Heap:=⟨zA (by fail"h 921 2v7 3v15 12v15 378v8"),{}⟩
def K (p:aY):Frag:=by fail"k 921 2v7 3v15 378v8"
end
end
section
noncomputable def sL (a b:Nat):fc:=(pB.drop a).take (b-a)
noncomputable def env:Env:={scope:=PySem.Challenge.pw_nz0539_01.main.scope,locals:=mainNs,globals:=mainNs,cells:=[],code:=.ref 13,frame:=some 14}
noncomputable def cE:Code:=.body (behindTheImports PySem.Challenge.pw_nz0539_01) env
noncomputable abbrev HS:=PySem.W.Fast.tw14364793385576792824
noncomputable abbrev oG:=PySem.W.Fast.tw10110043849684766642
theorem aab:segRunT treeTable=oG HS:=by rw[PySem.W.Fast.te10110043849684766642,aez]
noncomputable def n9 (t:aY->BT)(n k:Nat)(w:bZ)(os:OsState):SharedT:=⟨t w.params,n,{}, #[],{},k,os⟩
theorem pc0 (w:bZ)(os:OsState):oG HS pw w 11 (some (.ref 6)) 1 396 (n9 t0 15 187 w os) (piecesOf (sL 0 17) env cE ⟨0,0,0,0⟩ [topFrame ⟨0,0,0,0⟩])=some (.next,n9 t1 95 292 w os,cE,⟨75,0,75,13⟩):=by kernel_rfl
theorem pc1 (w:bZ)(os:OsState):oG HS pw w 11 (some (.ref 6)) 1 385 (n9 t1 95 292 w os) (piecesOf (sL 17 29) env cE ⟨75,0,75,13⟩ [topFrame ⟨0,0,0,0⟩])=some (.next,n9 t2 178 413 w os,cE,⟨167,0,168,39⟩):=by kernel_rfl
theorem pc2 (w:bZ)(os:OsState):oG HS pw w 11 (some (.ref 6)) 1 273 (n9 t2 178 413 w os) (piecesOf (sL 29 38) env cE ⟨167,0,168,39⟩ [topFrame ⟨0,0,0,0⟩])=some (.next,n9 t3 234 502 w os,cE,⟨271,0,271,8⟩):=by kernel_rfl
theorem pc3 (w:bZ)(os:OsState):oG HS pw w 11 (some (.ref 6)) 1 223 (n9 t3 234 502 w os) (piecesOf (sL 38 39) env cE ⟨271,0,271,8⟩ [topFrame ⟨0,0,0,0⟩])=some (.next,n9 t4 255 531 w os,cE,⟨272,0,276,25⟩):=by kernel_rfl
theorem pc4 (w:bZ)(os:OsState):oG HS pw w 11 (some (.ref 6)) 1 378 (n9 t4 255 531 w os) (piecesOf (sL 39 44) env cE ⟨272,0,276,25⟩ [topFrame ⟨0,0,0,0⟩])=some (.next,n9 t5 312 602 w os,cE,⟨303,0,304,66⟩):=by kernel_rfl
theorem pc5 (w:bZ)(os:OsState):oG HS pw w 11 (some (.ref 6)) 1 276 (n9 t5 312 602 w os) (piecesOf (sL 44 55) env cE ⟨303,0,304,66⟩ [topFrame ⟨0,0,0,0⟩])=some (.next,n9 t6 369 671 w os,cE,⟨363,0,363,8⟩):=by kernel_rfl
theorem pc6 (w:bZ)(os:OsState):oG HS pw w 11 (some (.ref 6)) 1 197 (n9 t6 369 671 w os) (piecesOf (sL 55 56) env cE ⟨363,0,363,8⟩ [topFrame ⟨0,0,0,0⟩])=some (.next,n9 t7 382 691 w os,cE,⟨364,0,365,8⟩):=by kernel_rfl
theorem pc7 (w:bZ)(os:OsState):oG HS pw w 11 (some (.ref 6)) 1 385 (n9 t7 382 691 w os) (piecesOf (sL 56 63) env cE ⟨364,0,365,8⟩ [topFrame ⟨0,0,0,0⟩])=some (.next,n9 t8 429 753 w os,cE,⟨386,0,391,15⟩):=by kernel_rfl
theorem pc8 (w:bZ)(os:OsState):oG HS pw w 11 (some (.ref 6)) 1 391 (n9 t8 429 753 w os) (piecesOf (sL 63 76) env cE ⟨386,0,391,15⟩ [topFrame ⟨0,0,0,0⟩])=some (.next,n9 t9 516 861 w os,cE,⟨480,0,486,61⟩):=by kernel_rfl
theorem pc9 (w:bZ)(os:OsState):oG HS pw w 11 (some (.ref 6)) 1 400 (n9 t9 516 861 w os) (piecesOf (sL 76 90) env cE ⟨480,0,486,61⟩ [topFrame ⟨0,0,0,0⟩])=some (.next,n9 t10 597 985 w os,cE,⟨571,0,579,15⟩):=by kernel_rfl
theorem am9 (w:bZ)(os:OsState):oG HS pw w 11 (some (.ref 6)) 1 398 (n9 t10 597 985 w os) (piecesOf (sL 90 104) env cE ⟨571,0,579,15⟩ [topFrame ⟨0,0,0,0⟩])=some (.next,n9 t11 679 1106 w os,cE,⟨672,0,692,16⟩):=by kernel_rfl
theorem am8 (w:bZ)(os:OsState):oG HS pw w 11 (some (.ref 6)) 1 394 (n9 t11 679 1106 w os) (piecesOf (sL 104 119) env cE ⟨672,0,692,16⟩ [topFrame ⟨0,0,0,0⟩])=some (.next,n9 t12 760 1209 w os,cE,⟨770,0,785,52⟩):=by kernel_rfl
theorem am7 (w:bZ)(os:OsState):oG HS pw w 11 (some (.ref 6)) 1 389 (n9 t12 760 1209 w os) (piecesOf (sL 119 134) env cE ⟨770,0,785,52⟩ [topFrame ⟨0,0,0,0⟩])=some (.next,n9 t13 837 1311 w os,cE,⟨858,0,862,60⟩):=by kernel_rfl
theorem am6 (w:bZ)(os:OsState):oG HS pw w 11 (some (.ref 6)) 1 387 (n9 t13 837 1311 w os) (piecesOf (sL 134 148) env cE ⟨858,0,862,60⟩ [topFrame ⟨0,0,0,0⟩])=some (.next,n9 t14 916 1416 w os,cE,⟨956,0,957,52⟩):=by kernel_rfl
theorem am5 (w:bZ)(os:OsState):oG HS pw w 11 (some (.ref 6)) 1 27 (n9 t14 916 1416 w os) (piecesOf (sL 148 149) env cE ⟨956,0,957,52⟩ [topFrame ⟨0,0,0,0⟩])=some (.next,n9 t15 921 1422 w os,cE,⟨958,0,1021,82⟩):=by kernel_rfl
end
section
theorem amT:sL 0 17++(sL 17 29++(sL 29 38++(sL 38 39++(sL 39 44++(sL 44 55++(sL 55 56++(sL 56 63++(sL 63 76++(sL 76 90++(sL 90 104++(sL 104 119++(sL 119 134++(sL 134 148++(sL 148 149++[]))))))))))))))=behindTheImports PySem.Challenge.pw_nz0539_01:=by kernel_rfl
noncomputable abbrev ann:nV:=some (.ref 6)
noncomputable abbrev q0:Pos:=⟨0,0,0,0⟩
theorem gz {w:bZ}{N:Nat}{s s':SharedT}{t:Thread}{r:Code×Pos}(h:oG HS pw w 11 ann 1 N s t=some (.next,s',r)):segRun treeTable pw w 11 ann 1 N s.abs t=some (.next,s'.abs,r):=by obtain⟨c,p⟩:=r;exact segRun_of (by rw[aab];exact h)
theorem ajL (w:bZ)(os:OsState):topGo treeTable pw w 11 ann 12 ⟨boot_heap w.params, #[],boot_drawn,boot_toks,os⟩ (topStub pw)=some ((n9 t0 15 187 w os).abs,⟨denote treeTable cE,cE,q0,[topFrame q0]⟩):=by
 rw[show @topGo=PySem.W.Fast.tw15667345088766844465 from PySem.W.Fast.te15667345088766844465,aez,show @denote=PySem.W.Fast.tw11892475500146522536 from PySem.W.Fast.te11892475500146522536]
 kernel_rfl
theorem abc (w:bZ)(os:OsState):segRun treeTable pw w 11 ann 1 1 (n9 t0 15 187 w os).abs (blockOf (behindTheImports pw) env cE q0 [topFrame q0])=some (.next,(n9 t0 15 187 w os).abs,cE,q0):=by kernel_rfl
theorem ajM (w:bZ)(os:OsState):topRun treeTable pw w 11 ann 2 (n9 t15 921 1422 w os).abs ⟨doneF .next,cE,⟨958,0,1021,82⟩,[topFrame q0]⟩=some ⟨hF w.params, #[],{},1422,os⟩:=by kernel_rfl
theorem agb (w:bZ)(os:OsState):topRun treeTable pw w 11 ann (396+(385+(273+(223+(378+(276+(197+(385+(391+(400+(398+(394+(389+(387+(27+(2)))))))))))))))) (n9 t0 15 187 w os).abs (restOf (behindTheImports pw) env cE q0 [topFrame q0])=some ⟨hF w.params, #[],{},1422,os⟩:=by rw[<-amT];refine jW (gz (pc0 w os)) ?_;refine jW (gz (pc1 w os)) ?_;refine jW (gz (pc2 w os)) ?_;refine jW (gz (pc3 w os)) ?_;refine jW (gz (pc4 w os)) ?_;refine jW (gz (pc5 w os)) ?_;refine jW (gz (pc6 w os)) ?_;refine jW (gz (pc7 w os)) ?_;refine jW (gz (pc8 w os)) ?_;refine jW (gz (pc9 w os)) ?_;refine jW (gz (am9 w os)) ?_;refine jW (gz (am8 w os)) ?_;refine jW (gz (am7 w os)) ?_;refine jW (gz (am6 w os)) ?_;refine jW (gz (am5 w os)) ?_;exact ajM w os
theorem ajK (w:bZ)(os:OsState):topRun treeTable pw w 11 ann (12+(1+(396+(385+(273+(223+(378+(276+(197+(385+(391+(400+(398+(394+(389+(387+(27+(2)))))))))))))))))) ⟨boot_heap w.params, #[],boot_drawn,boot_toks,os⟩ (topStub pw)=some ⟨hF w.params, #[],{},1422,os⟩:=
 go_top (ajL w os) (piece_block (abc w os) (agb w os))
theorem k_size (w:bZ):((boot_heap w.params).isNs mainGlobals&&(#[]:Array GenState).size==0,(boot_heap w.params).objs.size,(boot_heap w.params).nsMap mainGlobals "__annotations__")=(true,11,ann):=by kernel_rfl
theorem aga (w:bZ):(fencedOpening treeTable pw w 10000).map (λs=>(s.heap,s.gens,s.drawn,s.toks))=some (boot_heap w.params,Array.mk [],boot_drawn,boot_toks):=boot_open (by kernel_rfl) (by decide) (λs=>by kernel_rfl) w
end
section
noncomputable def kas:cP:=[2,3,4,44,45,100,101,107,108,190,191,249,250,251,252,262,268,269,278,279,280,281,289,290,296,297,303,304,310,311,317,318,324,325,331,332,338,339,343,344,348,349,355,356,367,368,377,378,379,394,395,397,398,406,407,413,414,462,463,476,477,483,484,509,510,514,515,528,529,535,536,542,543,549,550,556,557,563,564,568,569,573,574,580,581,582,588,589,644,645,651,652,665,666,670,671,684,685,689,690,696,697,703,704,708,709,722,723,736,737,741,742,746,747,758,759,763,764,770,771,775,776,780,781,785,786,790,791,795,796,802,803,809,810,816,817,821,822,828,829,835,836,840,841,847,848,852,853,859,860,866,867,871,872,878,879,885,886,890,891,895,896,900,901,907,908,914,915,919,920]
theorem Wv (p:aY):kas=(K p).map (·.1):=by kernel_rfl
noncomputable def AG:Hook:=kHook K kas Wv
noncomputable def loose:ay:=[Vj,aiX,aiW,aiV,Vi,Vh,Rg,Vg,Vf,Ve,Vd,Vb,Va,U9,aiU,Rf,Rd,U8,U7,U6,U5,U4,U3,U1,U0,UZ,UY,UX,Rc,UW,UU,UT,US,UR,UQ,Fi,Fg,Rb,Ra,Q9,Q8,Q7,Q6,Q5,Q4,Q3,Q2,Q0,UP,QZ,oq,ve,aiP,QY,QX,UO,UN,UM,UL,UK,UJ,QW,UI,QV,QU,UH,UG,UE,QT,QS,UD,QR,QO,QN,QM,QL,QK,QJ,QI,QH,QG,UC,UB,UA,Uz,Uy,Ux,Uw,QE,QD,Uv,QC,QA,Uu,Qz,Qy,Qx,Qw,Qv,Ut,Qu,Us,Qt,Qs,Qq,Ur,Qp,Qo,Qn,Qm,Ql,Qk,Qj,Qi,Qh,Qg,Qf,Qe,Qd,Qc,Qa,P9,P8,P7,P6,P5,P4,P0,PZ,PY,PX,PW,PV]
noncomputable def qv:Program:={PySem.Challenge.pw_nz0539_01 with main:={PySem.Challenge.pw_nz0539_01.main with body:=pB.drop 148}}
noncomputable def ai5:Option Stmt->Pos
 |some (.FunctionDef _ _ _ _ _ _ _ _ _ p)=>p
 |_=>⟨0,0,0,0⟩
noncomputable def afY:Pos:=ai5 pB[148]?
noncomputable def Gg:DefRec:=⟨Str.ofString "law",fA 148,fB 148,fS 148,afY⟩
abbrev xR:RowW:=PySem.Challenge.rw_nz0539_01.row.toRowW
noncomputable def xt (s:cO):Bool:=xlAt qv [] s&&recOk (RowW.records xR) s
theorem RO (w:bZ)(os:OsState):staticsOk (importedModules pw.main.body) (boot_heap w.params) (hF w.params)=true:=by kernel_rfl
theorem aa7 (w:bZ)(os:OsState):namesBound pw (hF w.params)=true:=by kernel_rfl
theorem af3 (w:bZ)(os:OsState):laidKept (boot_heap w.params) (hF w.params)=true:=by kernel_rfl
theorem af1 (w:bZ):(λos=>openSeen qv loose (importedModules pw.main.body) xt true ⟨hF w.params, #[],{},1422,os⟩)=λz=>openGood qv loose:=by kernel_rfl
theorem af4 (w:bZ):(λos=>AG.obs ⟨hF w.params, #[],{},1422,os⟩)=λz=>AG.val w:=by kernel_rfl
theorem af2:LeftO pw qv loose xt AG.obs AG.val 10000 true:=
 LeftO.of_pieces (open_:=aga) (size:=k_size) (run:=λw os=>ajK w os) (le:=by decide+kernel)
  (looks:=λw=>by funext os;rw[RO w os,aa7 w os,af3 w os];exact Prod.ext rfl (Prod.ext (congrFun (af1 w) os) (congrFun (af4 w) os)))
end
section
theorem L0:(["vars","dir","locals"]:ay).filter (readsOut pw pw.main.body)=[]:=by rw[PySem.W.Fast.te13343964577679436407];kernel_rfl
theorem L1:sreFenced pw.main=true:=by rw[PySem.W.Fast.te11788848310118352699];kernel_rfl
theorem L2:(moduleNames pw.main.body).isEmpty=true:=by rw[PySem.W.Fast.te9807087744658564304];kernel_rfl
theorem L4:(pw.boundNames.all λn=> !worldNames.contains n)=true:=by rw[aeA,PySem.W.Fast.te14412699480532031325];kernel_rfl
theorem L3:namesResolve pw=true:=by rw[PySem.W.Fast.te8377067652309620493];kernel_rfl
theorem L5a:(importedModules pw.main.body).all cThrough.contains=true:=by rw[PySem.W.Fast.te5923862056798008813];kernel_rfl
theorem zX (lk:Look):∀a b:fc,noRoadLSs lk a=true->noRoadLSs lk b=true->noRoadLSs lk (a++b)=true
 |[],_,_,h=>h
 |s::a,b,h,k=>by have h':(noRoadLS lk s&&noRoadLSs lk a)=true:=h;obtain⟨h1,h2⟩:=J2.mp h';show(noRoadLS lk s&&noRoadLSs lk (a++b))=true;rw[h1,zX lk a b h2 k];rfl
noncomputable abbrev lk0:Look:={strict:=false,foot:=none,bare:=[]}
theorem L5b:noRoadLSs lk0 (pw.main.body.take 80)=true:=by rw[Y3];kernel_rfl
theorem L5c:noRoadLSs lk0 (pw.main.body.drop 80)=true:=by rw[Y3];kernel_rfl
theorem L5:noRoadLSs lk0 pw.main.body=true:=by
 have:=zX lk0 _ _ L5b L5c
 rwa [OU] at this
theorem L6:(namesMeet pw pw.main.body λz n=>attrL n)=true:=by rw[acd,show @attrL=PySem.W.Fast.tw17868728402115742887 from PySem.W.Fast.te17868728402115742887];kernel_rfl
theorem P1:looksOpen pw=true:=by unfold looksOpen;rw[L0,L5a,L1,L2,L3,L4];refine e9 (e9 rfl ?_) L6;exact L5
noncomputable abbrev lA:OpenLaw:=PySem.Challenge.rw_nz0539_01
theorem A1p:lA.row.partSaid=true:=by
 unfold OpenRow.partSaid;refine e9 (e9 (e9 (e9 (e9 (e9 (e9 (e9 (e9 (e9 (e9 (e9 (e9 P1 ?_) ?_) ?_) ?_) ?_) ?_) ?_) ?_) ?_) ?_) ?_) ?_) ?_
 all_goals kernel_rfl
theorem A1b:lA.row.prog.boundNames.contains lA.row.name=true:=by rw[aeA];kernel_rfl
theorem A1c:(!startupNames.contains lA.row.name)=true:=by kernel_rfl
theorem A1:lA.row.wellSaid=true:=by unfold OpenRow.wellSaid;exact e9 (e9 A1p A1b) A1c
theorem A2:(decide (lA.foot<=(behindTheImports lA.prog).length))=true:=by kernel_rfl
theorem A3:lA.footing.all footLine=true:=by rw[PySem.W.Fast.te10501279942588096481];kernel_rfl
theorem A4:noClassBlock lA.prog lA.footing=true:=by rw[PySem.W.Fast.te8179353310426384613];kernel_rfl
theorem A5:(lA.most.all (λn=>decide (63<=n)))=true:=by kernel_rfl
theorem A6:(lA.bound.all (λn=>decide (2 ^ 63<=n)))=true:=by kernel_rfl
theorem A7:noRoadLSs {strict:=true,foot:=some lA.bound',writes:=lA.writes,may:=lA.may} lA.footing=true:=by rw[Y3,aex,aey];kernel_rfl
theorem A8:defStands lA.about lA.above=true:=by rw[PySem.W.Fast.te9558739934217749035];kernel_rfl
theorem A9:lA.namesIt=true:=by rw[PySem.W.Fast.te16286561074155671207];kernel_rfl
theorem A10:((["type","isinstance","issubclass","getattr","hasattr"]:ay).all (fun n=>lA.about !=[n]))=true:=by kernel_rfl
theorem A11:lA.bound'.all (λn=> !builtinNamed n||lA.about==[n]|| !lA.reads n)=true:=by rw[aex,show @builtinNamed=PySem.W.Fast.qNamed from aet,show @OpenLaw.reads=PySem.W.Fast.tw6984425678791042302 from PySem.W.Fast.te6984425678791042302];kernel_rfl
theorem A12:(!lA.writes||(lA.prog.main.body.flatMap importedNames).all λn=> !lA.reads n)=true:=by kernel_rfl
theorem A13:((lA.prog.main.body.flatMap importedNames).all fun n=> !lA.reads n||(drawsOf n lA.prog.main.body).all fun mn=>mn.2 !=("attrgetter":aa)&&mn.2 !=("methodcaller":aa))=true:=by kernel_rfl
theorem A14:namesMeet lA.prog lA.footing (fun sc n=>(!(["type","isinstance","issubclass","getattr","hasattr"]:ay).contains n||sc.names.lookup n==some .globalImplicit)&&
  (lA.may !=some n||sc.kind==.module||sc.names.lookup n==some .globalImplicit))=true:=by
 rw[acd,aey];kernel_rfl
theorem A15:lA.own.contains lA.name=true:=by rw[ab9];kernel_rfl
theorem A16:(lA.own.eraseDups.length==lA.own.length)=true:=by rw[ab9];kernel_rfl
theorem A17:lA.own.all (λn=> !builtinNamed n)=true:=by rw[ab9,show @builtinNamed=PySem.W.Fast.qNamed from aet];kernel_rfl
theorem A18:(namesMeet lA.prog lA.above (λz n=> !lA.own.contains n))=true:=by rw[acd,ab9];kernel_rfl
theorem A19:(namesMeet lA.prog lA.footing λsc n=>sc.kind==.module||sc.names.lookup n !=some .globalExplicit)=true:=by rw[acd];kernel_rfl
theorem agC:PySem.Challenge.rw_nz0539_01.wellSaid=true:=by unfold OpenLaw.wellSaid;exact e9 (e9 (e9 (e9 (e9 (e9 (e9 (e9 (e9 (e9 (e9 (e9 (e9 (e9 (e9 (e9 (e9 (e9 A1 A2) A3) A4) A5) A6) A7) A8) A9) A10) A11) A12) A13) A14) A15) A16) A17) A18) A19
theorem akH:defOf qv xR.name=some (Gg,[]):=by kernel_rfl
theorem akC:xR.prog.theDef xR.name=some (Gg.params,Gg.body,Gg.scope):=by
 rw[PySem.W.Fast.te10235530238920679567]
 kernel_rfl
theorem aom:kwWritten? Gg.params.kwonlyargs Gg.params.kw_defaults=some []:=by kernel_rfl
theorem akG:chainsOk qv=true:=by kernel_rfl
theorem akF:(opening pw).tameTopW=true:=by kernel_rfl
theorem akE:bearImports (behindTheImports pw)=false:=by kernel_rfl
theorem akD:(frees xR&&PySem.Challenge.rw_nz0539_01.row.within.isEmpty)=true:=by kernel_rfl
theorem aol:(chainsOk qv&&opensWell xR.prog&&(frees xR&&PySem.Challenge.rw_nz0539_01.row.within.isEmpty))=true:=by refine e9 (e9 akG ?_) akD;unfold opensWell;refine e9 akF ?_;show(!bearImports (behindTheImports pw))=true;rw[akE];rfl
theorem akB:xR.promised:=by
 w_witness2
theorem head (walk:WalkO qv loose (XL qv []) (Hook.says AG) xR Gg [] (λf vs=>PySem.call f vs)):PySem.Challenge.rw_nz0539_01.Holds:=
 holds_law agC λamU=>holds_open (q:=qv) (loose:=loose) (Xt:=xt) (XP:=XL qv []) (Yf:=AG.obs) (Ya:=AG.val) (YP:=AG.says) (N:=10000) (d:=Gg) (kwd:=[])
  af2 (Hook.of AG) (Hook.keeps AG) (λs e=>xl_of s (J2.mp e).1) XL.keeps akH akC aom (λs e=>recFacts_of (J2.mp e).2) (by rfl) amU aol ⟨rfl,rfl,rfl,rfl,rfl,by decide+kernel⟩ akB walk
end
def wu : Lean.Syntax := Lean.Unhygienic.run do return (← `(Lean.Parser.Tactic.tacticSeq| intros; with_unfolding_all rfl)).raw
theorem aR {α:Type u}{a:α}{P:Prop}(h:a∈([]:List α)):P:=(JZ h).elim
theorem aA {α:Type u}{a:α}{P:Prop}(h:none=some a):P:=nomatch h
theorem fD {α:Type u}{a:α}{P:Prop}(h:some a=none):P:=nomatch h
theorem g5 {P:Prop}(h:false=true):P:=nomatch h
theorem Pz {P:Prop}(h:true=false):P:=nomatch h
section
variable{α:Sort u1}{β:Sort u2}{γ:Sort u3}{δ:Sort u4}{ε:Sort u5}{z1 z2 z3 z4 z5 z6 z7 z8:Prop}{p1 p2 p3 p4 p5 p6 p7 p8:α->Prop}{q1 q2 q3 q4 q5 q6 q7 q8:α->β->Prop}{r1 r2 r3 r4 r5 r6 r7 r8:α->β->γ->Prop}{s1 s2 s3 s4 s5 s6 s7 s8:α->β->γ->δ->Prop}{t1 t2 t3 t4 t5 t6 t7 t8:α->β->γ->δ->ε->Prop}{G:Prop}
theorem xA(h:z1/\z2)(k:z1->z2->G):G:=by obtain⟨f,g⟩:=h;exact k f g
theorem xE(h:∃a,p1 a)(k:∀a,p1 a->G):G:=by obtain⟨a,f⟩:=h;exact k a f
theorem nX(h:z1/\z2/\z3)(k:z1->z2->z3->G):G:=by obtain⟨f,g,h'⟩:=h;exact k f g h'
theorem aq(h:∃a,p1 a/\p2 a)(k:∀a,p1 a->p2 a->G):G:=by obtain⟨a,f,g⟩:=h;exact k a f g
theorem Hv(h:∃a b,q1 a b)(k:∀a b,q1 a b->G):G:=by obtain⟨a,b,f⟩:=h;exact k a b f
theorem kU(h:z1/\z2/\z3/\z4)(k:z1->z2->z3->z4->G):G:=by obtain⟨f,g,h',i⟩:=h;exact k f g h' i
theorem ZN(h:z1/\z2/\∃a,p1 a)(k:z1->z2->∀a,p1 a->G):G:=by obtain⟨f,g,a,h'⟩:=h;exact k f g a h'
theorem gy(h:z1/\∃a,p1 a/\p2 a)(k:z1->∀a,p1 a->p2 a->G):G:=by obtain⟨f,a,g,h'⟩:=h;exact k f a g h'
theorem gb(h:∃a,p1 a/\p2 a/\p3 a)(k:∀a,p1 a->p2 a->p3 a->G):G:=by obtain⟨a,f,g,h'⟩:=h;exact k a f g h'
theorem sP(h:∃a,p1 a/\∃b,q1 a b)(k:∀a,p1 a->∀b,q1 a b->G):G:=by obtain⟨a,f,b,g⟩:=h;exact k a f b g
theorem dw(h:∃a b,q1 a b/\q2 a b)(k:∀a b,q1 a b->q2 a b->G):G:=by obtain⟨a,b,f,g⟩:=h;exact k a b f g
theorem rI(h:∃a b c,r1 a b c)(k:∀a b c,r1 a b c->G):G:=by obtain⟨a,b,c,f⟩:=h;exact k a b c f
theorem jl(h:z1/\z2/\z3/\z4/\z5)(k:z1->z2->z3->z4->z5->G):G:=by obtain⟨f,g,h',i,j⟩:=h;exact k f g h' i j
theorem M3(h:∃a,p1 a/\p2 a/\p3 a/\p4 a)(k:∀a,p1 a->p2 a->p3 a->p4 a->G):G:=by obtain⟨a,f,g,h',i⟩:=h;exact k a f g h' i
theorem jF(h:∃a,p1 a/\∃b,q1 a b/\q2 a b)(k:∀a,p1 a->∀b,q1 a b->q2 a b->G):G:=by obtain⟨a,f,b,g,h'⟩:=h;exact k a f b g h'
theorem dm(h:∃a b,q1 a b/\q2 a b/\q3 a b)(k:∀a b,q1 a b->q2 a b->q3 a b->G):G:=by obtain⟨a,b,f,g,h'⟩:=h;exact k a b f g h'
theorem qQ(h:∃a b c,r1 a b c/\r2 a b c)(k:∀a b c,r1 a b c->r2 a b c->G):G:=by obtain⟨a,b,c,f,g⟩:=h;exact k a b c f g
theorem b8(h:z1/\z2/\z3/\∃a,p1 a/\p2 a)(k:z1->z2->z3->∀a,p1 a->p2 a->G):G:=by obtain⟨f,g,h',a,i,j⟩:=h;exact k f g h' a i j
theorem u0(h:z1/\∃a b,q1 a b/\q2 a b/\q3 a b)(k:z1->∀a b,q1 a b->q2 a b->q3 a b->G):G:=by obtain⟨f,a,b,g,h',i⟩:=h;exact k f a b g h' i
theorem ig(h:∃a b,q1 a b/\q2 a b/\q3 a b/\q4 a b)(k:∀a b,q1 a b->q2 a b->q3 a b->q4 a b->G):G:=by obtain⟨a,b,f,g,h',i⟩:=h;exact k a b f g h' i
theorem i9(h:∃a b c,r1 a b c/\r2 a b c/\r3 a b c)(k:∀a b c,r1 a b c->r2 a b c->r3 a b c->G):G:=by obtain⟨a,b,c,f,g,h'⟩:=h;exact k a b c f g h'
theorem rH(h:∃a b c d,s1 a b c d/\s2 a b c d)(k:∀a b c d,s1 a b c d->s2 a b c d->G):G:=by obtain⟨a,b,c,d,f,g⟩:=h;exact k a b c d f g
theorem fX(h:∃a b c d e,t1 a b c d e)(k:∀a b c d e,t1 a b c d e->G):G:=by obtain⟨a,b,c,d,e,f⟩:=h;exact k a b c d e f
theorem M1(h:∃a b,q1 a b/\q2 a b/\q3 a b/\q4 a b/\q5 a b)(k:∀a b,q1 a b->q2 a b->q3 a b->q4 a b->q5 a b->G):G:=by obtain⟨a,b,f,g,h',i,j⟩:=h;exact k a b f g h' i j
theorem gw(h:∃a b c,r1 a b c/\r2 a b c/\r3 a b c/\r4 a b c)(k:∀a b c,r1 a b c->r2 a b c->r3 a b c->r4 a b c->G):G:=by obtain⟨a,b,c,f,g,h',i⟩:=h;exact k a b c f g h' i
theorem gv(h:∃a b c d,s1 a b c d/\s2 a b c d/\s3 a b c d)(k:∀a b c d,s1 a b c d->s2 a b c d->s3 a b c d->G):G:=by obtain⟨a,b,c,d,f,g,h'⟩:=h;exact k a b c d f g h'
theorem f9(h:∃a b,q1 a b/\q2 a b/\q3 a b/\q4 a b/\q5 a b/\q6 a b)(k:∀a b,q1 a b->q2 a b->q3 a b->q4 a b->q5 a b->q6 a b->G):G:=by obtain⟨a,b,f,g,h',i,j,k'⟩:=h;exact k a b f g h' i j k'
theorem bB(h:∃a b c,r1 a b c/\r2 a b c/\r3 a b c/\r4 a b c/\r5 a b c)(k:∀a b c,r1 a b c->r2 a b c->r3 a b c->r4 a b c->r5 a b c->G):G:=by obtain⟨a,b,c,f,g,h',i,j⟩:=h;exact k a b c f g h' i j
theorem gR(h:∃a b c d,s1 a b c d/\s2 a b c d/\s3 a b c d/\s4 a b c d)(k:∀a b c d,s1 a b c d->s2 a b c d->s3 a b c d->s4 a b c d->G):G:=by obtain⟨a,b,c,d,f,g,h',i⟩:=h;exact k a b c d f g h' i
theorem Dw(h:∃a b c,r1 a b c/\r2 a b c/\r3 a b c/\r4 a b c/\r5 a b c/\r6 a b c)(k:∀a b c,r1 a b c->r2 a b c->r3 a b c->r4 a b c->r5 a b c->r6 a b c->G):G:=by obtain⟨a,b,c,f,g,h',i,j,k'⟩:=h;exact k a b c f g h' i j k'
theorem l9(h:∃a b c,r1 a b c/\r2 a b c/\r3 a b c/\r4 a b c/\r5 a b c/\r6 a b c/\r7 a b c)(k:∀a b c,r1 a b c->r2 a b c->r3 a b c->r4 a b c->r5 a b c->r6 a b c->r7 a b c->G):G:=by obtain⟨a,b,c,f,g,h',i,j,k',l⟩:=h;exact k a b c f g h' i j k' l
theorem cU(h:∃a b c d,s1 a b c d/\s2 a b c d/\s3 a b c d/\s4 a b c d/\s5 a b c d/\s6 a b c d)(k:∀a b c d,s1 a b c d->s2 a b c d->s3 a b c d->s4 a b c d->s5 a b c d->s6 a b c d->G):G:=by obtain⟨a,b,c,d,f,g,h',i,j,k'⟩:=h;exact k a b c d f g h' i j k'
theorem Tv(h:∃a b c d,s1 a b c d)(k:∀a b c d,s1 a b c d->G):G:=by obtain⟨a,b,c,d,f⟩:=h;exact k a b c d f
theorem xAE(h:z1/\∃a,p1 a)(k:z1->∀a,p1 a->G):G:=by obtain⟨f,a,g⟩:=h;exact k f a g
theorem ape(h:z1/\z2/\∃a,p1 a/\p2 a)(k:z1->z2->∀a,p1 a->p2 a->G):G:=by obtain⟨f,g,a,h',i⟩:=h;exact k f g a h' i
theorem iA(f:z1)(g:z2):z1/\z2:=⟨f,g⟩
theorem iE(a)(f:p1 a):∃a,p1 a:=⟨a,f⟩
theorem iAA(f:z1)(g:z2)(h:z3):z1/\z2/\z3:=⟨f,g,h⟩
theorem Tf(a)(b)(f:q1 a b):∃a b,q1 a b:=⟨a,b,f⟩
theorem abm(a)(f:p1 a)(b)(g:q1 a b):∃a,p1 a/\∃b,q1 a b:=⟨a,f,b,g⟩
theorem r9(a)(b)(f:q1 a b)(g:q2 a b):∃a b,q1 a b/\q2 a b:=⟨a,b,f,g⟩
theorem ua(a)(b)(c)(f:r1 a b c):∃a b c,r1 a b c:=⟨a,b,c,f⟩
theorem WJ(a)(f:p1 a)(g:p2 a)(b)(h:q1 a b):∃a,p1 a/\p2 a/\∃b,q1 a b:=⟨a,f,g,b,h⟩
theorem pH(a)(f:p1 a)(b)(g:q1 a b)(h:q2 a b):∃a,p1 a/\∃b,q1 a b/\q2 a b:=⟨a,f,b,g,h⟩
theorem eB(a)(b)(f:q1 a b)(g:q2 a b)(h:q3 a b):∃a b,q1 a b/\q2 a b/\q3 a b:=⟨a,b,f,g,h⟩
theorem WI(a)(b)(c)(f:r1 a b c)(g:r2 a b c):∃a b c,r1 a b c/\r2 a b c:=⟨a,b,c,f,g⟩
theorem wZ(a)(b)(c)(d)(f:s1 a b c d):∃a b c d,s1 a b c d:=⟨a,b,c,d,f⟩
theorem Gz(f:z1)(a)(b)(g:q1 a b)(h:q2 a b)(i:q3 a b):z1/\∃a b,q1 a b/\q2 a b/\q3 a b:=⟨f,a,b,g,h,i⟩
theorem pG(a)(b)(f:q1 a b)(g:q2 a b)(h:q3 a b)(i:q4 a b):∃a b,q1 a b/\q2 a b/\q3 a b/\q4 a b:=⟨a,b,f,g,h,i⟩
theorem gE(a)(b)(c)(f:r1 a b c)(g:r2 a b c)(h:r3 a b c):∃a b c,r1 a b c/\r2 a b c/\r3 a b c:=⟨a,b,c,f,g,h⟩
theorem Gy(a)(b)(c)(d)(f:s1 a b c d)(g:s2 a b c d):∃a b c d,s1 a b c d/\s2 a b c d:=⟨a,b,c,d,f,g⟩
theorem yO(a)(f:p1 a)(b)(c)(g:r1 a b c)(h:r2 a b c)(i:r3 a b c):∃a,p1 a/\∃b c,r1 a b c/\r2 a b c/\r3 a b c:=⟨a,f,b,c,g,h,i⟩
theorem kH(a)(b)(c)(f:r1 a b c)(g:r2 a b c)(h:r3 a b c)(i:r4 a b c):∃a b c,r1 a b c/\r2 a b c/\r3 a b c/\r4 a b c:=⟨a,b,c,f,g,h,i⟩
theorem af(a)(b)(c)(d)(f:s1 a b c d)(g:s2 a b c d)(h:s3 a b c d):∃a b c d,s1 a b c d/\s2 a b c d/\s3 a b c d:=⟨a,b,c,d,f,g,h⟩
theorem gg(a)(b)(f:q1 a b)(g:q2 a b)(h:q3 a b)(i:q4 a b)(j:q5 a b)(k:q6 a b):∃a b,q1 a b/\q2 a b/\q3 a b/\q4 a b/\q5 a b/\q6 a b:=⟨a,b,f,g,h,i,j,k⟩
theorem aV(a)(b)(c)(f:r1 a b c)(g:r2 a b c)(h:r3 a b c)(i:r4 a b c)(j:r5 a b c):∃a b c,r1 a b c/\r2 a b c/\r3 a b c/\r4 a b c/\r5 a b c:=⟨a,b,c,f,g,h,i,j⟩
theorem cZ(a)(b)(c)(d)(f:s1 a b c d)(g:s2 a b c d)(h:s3 a b c d)(i:s4 a b c d):∃a b c d,s1 a b c d/\s2 a b c d/\s3 a b c d/\s4 a b c d:=⟨a,b,c,d,f,g,h,i⟩
theorem mK(a)(b)(c)(f:r1 a b c)(g:r2 a b c)(h:r3 a b c)(i:r4 a b c)(j:r5 a b c)(k:r6 a b c)(l:r7 a b c):∃a b c,r1 a b c/\r2 a b c/\r3 a b c/\r4 a b c/\r5 a b c/\r6 a b c/\r7 a b c:=⟨a,b,c,f,g,h,i,j,k,l⟩
theorem aL(a)(b)(c)(d)(f:s1 a b c d)(g:s2 a b c d)(h:s3 a b c d)(i:s4 a b c d)(j:s5 a b c d)(k:s6 a b c d):∃a b c d,s1 a b c d/\s2 a b c d/\s3 a b c d/\s4 a b c d/\s5 a b c d/\s6 a b c d:=⟨a,b,c,d,f,g,h,i,j,k⟩
end
local macro_rules | `(tactic| omega) => `(tactic| first
  | with_reducible assumption
  | with_reducible exact jU _
  | with_reducible exact br _
  | decide
  | with_reducible exact Dl _
  | exact aB (by assumption) (by decide)
  | (refine aB ?_ (by assumption) <;> decide)
  | exact Bq (by assumption)
  | exact Kp (by assumption) (by decide)
  | (exfalso; exact qL _ (Kp (by assumption) (by assumption)))
  | lia
  | omega (splitDisjunctions := true))
local macro_rules
  | `(tactic| rw [$h:term]) => `(tactic| ((first | refine Eq.substr $h ?_ | rewrite [$h:term]); try with_reducible rfl))
  | `(tactic| rw [← $h:term]) => `(tactic| ((first | refine Eq.substr (fH $h) ?_ | rewrite [← $h:term]); try with_reducible rfl))
local macro_rules
  | `(tactic| rw [$r:rwRule, $rs:rwRule,*]) => `(tactic| (rw [$r:rwRule]; rw [$rs,*]))
noncomputable abbrev fy:av:=279
inductive jz {α β:Type} (R:α->β->Prop):List α->List β->Prop
 |nil:jz R [] []
 |cons {a b l m}:R a b->jz R l m->jz R (a::l) (b::m)
inductive Cell where
 |list (vs:bC)
 |tup (vs:bC)
 |inst (d:av)
 |dJ (k i a:ao)
 |dict (es:dU) (ep:Nat)
 |bh (es:List (Int×ao))
 |obj (p:Obj->Prop)
 |rng (a b c:Int)
abbrev cN:=List (Addr×Cell)
noncomputable def N4 (P:aY)(n:aa)(t:Tok)(v:ao):DictEntry:=⟨PyData.keyHash P n,.str n t,v⟩
def VD (P:aY)(k i a:ao)(o:Obj):Prop:=∃n t1 t2 t3 t4 t5,∃(sh lo:Bool),o=dictOf [N4 P "kind" t1 k,N4 P "items" t2 i,N4 P "attrs" t3 a,N4 P "shared" t4 (.bool sh),N4 P "loose" t5 (.bool lo)] n
def Cell.ok (w:bZ):Cell->Obj->Prop
 | .list vs,o=>∃n,o={cls:=.type "list",data:=.seq vs.toArray n}
 | .tup vs,o=>o={cls:=.type "tuple",data:=.seq vs.toArray 0}
 | .inst d,o=>o=instObj fy d
 | .dJ k i a,o=>VD w.params k i a o
 | .dict es ep,o=>o.IsDictOf (strKind pw w) es/\∃a,o.data=.dict a ep
 | .bh es,o=>o.IsDictOf (intKind pw w) es
 | .obj p,o=>p o
 | .rng a b c,o=>∃t u v,o={cls:=.type "range",dict:=none,data:=.fields #[.int a t,.int b u,.int c v],slots:= #[]}
theorem Cell.Nu {h:Heap}{a:av}{vs:bC}(e:h.get? a=some o)(x:(Cell.list vs).ok w o):h.IsList a vs.toArray:=by refine xE x λn z0=>?_;try clear x;subst z0;exact(WJ _ e rfl n rfl)
theorem Cell.afC {vs:bC}(e:h.get? a=some o)(x:(Cell.tup vs).ok w o):IsTup h a vs.toArray:=by have x:o=_:=x;subst x;exact(WJ _ e rfl 0 rfl)
abbrev ah:=av->Option Cell
structure S where
 F:ah
 V:eX
 own:cN
abbrev yw:=Value->S->Prop
structure Fm where
 w:bZ
 os:OsState
 hb:Heap
 h₀:Heap
 F₀:ah
 mt:cP
 e:Env
def ajP (F:ah)(a:av):Prop:=∃k i t,F a=some (.dJ k i t)
def cW (h:Heap)(a:av):Prop:=∃o,h.get? a=some o
def nJ (h:Heap)(a:av):Prop:=cW h a\/a=sysModules
structure xo (h:Heap) (F F':ah):Prop where
 le:∀a c,F a=some c->F' a=some c
 old:∀a,cW h a->F' a=F a
theorem xo.refl (h:Heap)(F:ah):xo h F F:=⟨λz z h=>h,λz z=>rfl⟩
theorem xo.trans {F F' ZL:ah}(x:xo n F F')(y:xo m F' ZL)(h:∀a,cW n a->cW m a):xo n F ZL:=
 ⟨λa c e=>y.le a c (x.le a c e),λa l=>(y.old a (h a l)).trans (x.old a l)⟩
theorem aaF (e:h.get? a=none):¬cW h a:=λz0=>xE z0 λo x=>by rw[e] at x;exact aA x
theorem eG:¬cW h h.objs.size:=λz0=>xE z0 λz e=>absurd (g6 e) (qL _)
structure alI (e:Env):Prop where
 kind:e.scope.kind=.function
 glob:e.globals=mainGlobals
 XC:e.builtins=builtinsNs
 inj:∀x y c,e.cells.lookup x=some c->e.cells.lookup y=some c->x=y
 ne:∀x c,e.cells.lookup x=some c->c≠e.locals
structure alD (fr:Fm) (V:eX) (h:Heap):Prop where
 loc:∃m,h.Ns fr.e.locals m/\∀x v,(x,some v)∈V->fr.e.kindOf x=some .local->m x=some v
 Oa:∀x ov,(x,ov)∈V->(fr.e.kindOf x=some .cell\/fr.e.kindOf x=some .free)->∃c,fr.e.cells.lookup x=some c/\∃Fz,h.IsCell c Fz/\∀v,ov=some v->Fz=some v
 kinds:∀x ov,(x,ov)∈V->fr.e.kindOf x=some .local\/fr.e.kindOf x=some .cell\/fr.e.kindOf x=some .free
 nd:(V.map (·.1)).Nodup
structure St (fr:Fm) (σ:S) (h:Heap):Prop where
 keep:∀a o,fr.hb.get? a=some o->h.get? a=some o
 kb:∀a,cW fr.hb a->cW fr.h₀ a
 mg:cW fr.hb mainGlobals
 Rz:∀a∈fr.mt,cW h a
 ext:∀a o,a∉fr.mt->fr.h₀.get? a=some o->∃o',h.get? a=some o'/\(o'=o\/ajP fr.F₀ a)
 gr:xo fr.h₀ fr.F₀ σ.F
 sees:∀a c,σ.F a=some c->¬nJ fr.hb a/\∃o,h.get? a=some o/\c.ok fr.w o
 own:∀p∈σ.own,(¬cW fr.h₀ p.1\/p.1∈fr.mt)/\σ.F p.1=none/\¬nJ fr.hb p.1/\∃o,h.get? p.1=some o/\p.2.ok fr.w o
 nd:(σ.own.map (·.1)).Nodup
 env:alI fr.e
 vars:alD fr σ.V h
 fY:σ.F fr.e.locals=none/\∀p∈σ.own,p.1≠fr.e.locals
 dM:∀x c,fr.e.cells.lookup x=some c->σ.F c=none/\(∀p∈σ.own,p.1≠c)/\∃ov,h.IsCell c ov
theorem St.cell (st:St fr σ h)(hp:p∈σ.own):∃o,h.get? p.1=some o/\p.2.ok fr.w o:=(st.own p hp).2.2.2
theorem St.stay (st:St fr σ h)(l:cW fr.h₀ a):cW h a:=by
 by_cases q:a∈fr.mt
 .exact st.Rz a q
 .exact xE l λo e=>aq (st.ext a o q e) λo' e' z=>⟨o',e'⟩
def Po (fr:Fm){α:Type}(Q:α->S->Prop)(a:α)(s':cO):Prop:=∃(h':Heap) (d':Drawn) (cX:Nat) (σ':S),s'=⟨h', #[],d',cX,fr.os⟩/\St fr σ' h'/\Q a σ'
def T (fr:Fm)(A:aQ){α:Type}(t:Sem α)(E:aS)(σ:S)(Q:α->S->Prop):Prop:=
 ∀(h:Heap) (d:Drawn) (tk:Nat),St fr σ h->wpAny (model pw fr.w) A t (Po fr Q) E ⟨h, #[],d,tk,fr.os⟩
section
variable {fr:Fm}{A:aQ}{α β:Type}{E E':aS}{σ:S}
theorem T.mono (x:T fr A t E σ Q)(h:∀a σ',Q a σ'->Q' a σ'):T fr A t E σ Q':=
 λhp d tk st=>fk (x hp d tk st) (λa s' z0=>gv z0 λh' d' cX σ' e cI q=>(af h' d' cX σ' e cI (h _ _ q))) λz z y=>y
theorem T.monoE (x:T fr A t E σ Q)(h:∀e s,E e s->E' e s):T fr A t E' σ Q:=
 λhp d tk st=>fk (x hp d tk st) (λz z y=>y) h
theorem T.pure (h:Q a σ):T fr A (pure a) E σ Q:=λhp d tk st=>cG (af hp d tk σ rfl st h)
theorem T.bind {f:α->Sem β}(h:T fr A m E σ λa σ'=>T fr A (f a) E σ' Q):T fr A (m>>=f) E σ Q:=
 λhp d tk st=>aN (fk (h hp d tk st) (λa s' z0=>gv z0 λh' d' cX σ' e cI q=>clear% z0;by rw[e];exact q h' d' cX cI) λz z y=>y)
theorem T.shift (h:∀hp,St fr σ hp->St fr σ' hp)(x:T fr A t E σ' Q):T fr A t E σ Q:=λhp d tk st=>x hp d tk (h hp st)
theorem T.of (h:∀hp d tk,St fr σ hp->∀(Q':α->cO->Prop),(∀a cX,Q a σ->Q' a ⟨hp, #[],d,cX,fr.os⟩)->wpAny (model pw fr.w) A t Q' E ⟨hp, #[],d,tk,fr.os⟩):T fr A t E σ Q:=
 λhp d tk st=>h hp d tk st _ λa cX q=>(af hp d cX σ rfl st q)
end
structure Stp (mt:cP) (M:cP) (F:ah) (h h':Heap):Prop where
 live:∀a∈M,a∈mt->cW h' a
 ext:∀a o,a∉M->h.get? a=some o->∃o',h'.get? a=some o'/\(o'=o\/ajP F a)
theorem Stp.same {mt:cP}{F:ah}(x:Stp mt M F h h')(hM:a∉M)(hF:F a=none)(e:h.get? a=some o):h'.get? a=some o:=by
 refine aq (x.ext a o hM e) λo' e' q=>?_;clear x hM e;rcases q with rfl|⟨k,i,t,q⟩
 .exact e'
 .rw[hF] at q;exact aA q
theorem zW {α:Type}{a:α}{l₁ l₂:List α}:(l₁++a::l₂).Nodup↔(a::(l₁++l₂)).Nodup:=List.Perm.nodup_iff nS
section
variable {fr:Fm}{F F':ah}{V V':eX}{own own':cN}{h h':Heap}
theorem St.step {M:cP}(st:St fr ⟨F,V,own⟩ h)(x:Stp fr.mt M F h h')(hM:∀a∈M,∃c,(a,c)∈own)
  (gr:xo h F F')(sees:∀a c,F' a=some c->¬nJ fr.hb a/\∃o,h'.get? a=some o/\c.ok fr.w o)
  (R5:∀p∈own',((¬cW fr.h₀ p.1\/p.1∈fr.mt)/\¬nJ fr.hb p.1/\p.1≠fr.e.locals/\∀y c,fr.e.cells.lookup y=some c->p.1≠c)/\F' p.1=none/\∃o,h'.get? p.1=some o/\p.2.ok fr.w o)
  (nd:(own'.map (·.1)).Nodup):St fr ⟨F',V,own'⟩ h':=by
 have hLM:fr.e.locals∉M:=λq=>xE (hM _ q) λc hc=>st.fY.2 _ hc rfl;have hCM:∀x c,fr.e.cells.lookup x=some c->c∉M:=λx c e q=>xE (hM _ q) λc' hc=>(st.dM x c e).2.1 _ hc rfl;have nF:∀a,F a=none->(∃o,h.get? a=some o)->F' a=none:=λa e z0=>xE z0 λo ho=>(gr.old a ⟨o,ho⟩).trans e;refine aq (st.vars.loc) λm hm hmv=>⟨λa o e=>?_,st.kb,st.mg,λa ha=>?_,λa o ha e=>?_,st.gr.trans gr (λa l=>st.stay l),sees,λp hp=>?_,nd,st.env,⟨⟨m,?_,hmv⟩,?_,st.vars.kinds,st.vars.nd⟩,⟨nF _ st.fY.1 ?_,λp hp=>(R5 p hp).1.2.2.1⟩,λy c e=>⟨nF _ (st.dM y c e).1 ?_,λp hp=>(R5 p hp).1.2.2.2 y c e,?_⟩⟩
 .have e':=st.keep a o e
  have hM':a∉M:=λq=>by exact xE (hM _ q) λc hc=>(st.own _ hc).2.2.1 (.inl ⟨o,e⟩)
  refine x.same hM' ?_ e';induction q:F a using fL with
  |none=>rfl
  |some c=>exact absurd (.inl ⟨o,e⟩) (st.sees a c q).1
 .by_cases q:a∈M
  .exact x.live a q ha
  .exact xE (st.Rz a ha) λo e=>aq (x.ext a o q e) λo' e' z=>⟨o',e'⟩
 .refine aq (st.ext a o ha e) λo' e' q=>?_
  have hM':a∉M:=λq'=>by
   refine xE (hM _ q') λc hc=>?_;rcases (st.own _ hc).1 with l|l
   .exact l ⟨o,e⟩
   .exact ha l
  refine aq (x.ext a o' hM' e') λo'' e'' q'=>⟨o'',e'',?_⟩;clear x hM sees R5 nd hLM hCM nF hm hmv ha e' hM' e'';rcases q with rfl|q
  .rcases q' with rfl|⟨k,i,t,q'⟩
   .exact .inl rfl
   .exact .inr (ua k i t (by rw[<-st.gr.old a ⟨_,e⟩];exact q'))
  .exact .inr q
 .exact nX (R5 p hp) λa b c=>⟨a.1,b,a.2.1,c⟩
 .exact qQ hm λo es ep ho r=>(WI o es ep (x.same hLM st.fY.1 ho) r)
 .intro y ov hy hk
  exact jF (st.vars.Oa y ov hy hk) λc hc Fz z1 hv=>aq z1 λo ho hd=>(pH c hc Fz ⟨o,x.same (hCM y c hc) (st.dM y c hc).1 ho,hd⟩ hv)
 .exact qQ hm λo z z ho z=>⟨o,ho⟩
 .exact dw ((st.dM y c e).2.2) λov o ho z=>⟨o,ho⟩
 .exact dw ((st.dM y c e).2.2) λov o ho hd=>(r9 ov o (x.same (hCM y c e) (st.dM y c e).1 ho) hd)
theorem St.fresh (st:St fr ⟨F,V,own⟩ h):¬cW fr.h₀ h.objs.size/\¬nJ fr.hb h.objs.size/\h.objs.size∉fr.mt/\F h.objs.size=none:=
 ⟨λl=>eG (st.stay l),λl=>l.elim (λz0=>xE z0 λo e=>eG ⟨o,st.keep _ o e⟩) (λe=>by refine xE (st.mg) λo q=>?_;have:=g6 (st.keep _ o q);simp only[e] at this;exact absurd this (by decide)),λq=>eG (st.Rz _ q),by
  induction q:F h.objs.size using fL with
  |none=>rfl
  |some c=>refine gy (st.sees _ _ q) λz o e z=>?_;exact absurd ⟨o,e⟩ eG⟩
theorem St.bM (st:St fr ⟨F,V,own⟩ h)(ho:c.ok fr.w o)(hf:o.isFreed=false):St fr ⟨F,V,(h.objs.size,c)::own⟩ (h.push o):=by
 refine kU (st.fresh) λf1 f2 f3 hnF=>st.step (M:=[]) ⟨(λa ha=>nomatch ha),λa o' z e=>⟨o',gj _ e,.inl rfl⟩⟩ (λa ha=>nomatch ha) (.refl _ _) (λa c e=>?_) (λp hp=>?_) ?_
 .refine gy (st.sees a c e) λl o' e' q=>?_
  exact⟨l,o',gj _ e',q⟩
 .rcases bW.mp hp with rfl|hp
  .refine⟨⟨.inl f1,f2,λq=>?_,λy c e q=>?_⟩,hnF,o,mU _ hf,ho⟩
   .exact aq (st.vars.loc) λm z0 z=>qQ z0 λo z z e z=>eG ⟨o,by rw[show h.objs.size=_ from q];exact e⟩
   .exact dw ((st.dM y c e).2.2) λov o e' z=>eG ⟨o,by rw[show h.objs.size=_ from q];exact e'⟩
  .refine b8 (st.own p hp) λa b c o' e' q=>?_
   exact⟨⟨a,c,st.fY.2 p hp,λy c e=>(st.dM y c e).2.1 p hp⟩,b,o',gj _ e',q⟩
 .refine j7.mpr ⟨λq=>?_,st.nd⟩
  exact aq (bN.mp q) λp hp e=>b8 (st.own p hp) λz z z o' e' z=>eG ⟨o',by rw[show h.objs.size=_ from e.symm];exact e'⟩
noncomputable def ah.set (F:ah)(a:av)(c:Cell):ah:=λb=>if b=a then some c else F b
theorem ah.sW (F:ah)(a:av)(c:Cell):(F.set a c) a=some c:=bg rfl
theorem St.freeze {a:av}{c:Cell}(st:St fr ⟨F,V,pre++(a,c)::post⟩ h)(hn:a∉fr.mt):St fr ⟨F.set a c,V,pre++post⟩ h:=by
 have hm:(a,c)∈pre++(a,c)::post:=lz _ (.head _);have sub:∀p∈pre++post,p∈pre++(a,c)::post:=λp hp=>by
  refine fU (j6.mp hp) (λq=>?_) λq=>?_
  .exact uJ _ q
  .exact lz _ (.tail _ q)
 have nd:=st.nd;simp only[dN,fJ] at nd;have ne:∀p∈pre++post,p.1≠a:=λp hp e=>by have h1:=(zW.mp nd);refine(j7.mp h1).1 ?_;rw[<-dN];exact bN.mpr ⟨p,hp,e⟩
 refine b8 (st.own _ hm) λoa ob oc o oe ok=>?_;have lo:¬cW fr.h₀ a:=oa.resolve_right hn;have Ib:∀b,b≠a->(F.set a c) b=F b:=λb q=>aG q;refine⟨st.keep,st.kb,st.mg,st.Rz,st.ext,⟨λb c' e=>?_,λb l=>?_⟩,λb c' e=>?_,λp hp=>?_,?_,st.env,st.vars,⟨?_,λp hp=>st.fY.2 p (sub p hp)⟩,λy c' e=>⟨?_,λp hp=>(st.dM y c' e).2.1 p (sub p hp),(st.dM y c' e).2.2⟩⟩
 .have q:=st.gr.le b c' e
  have:b≠a:=λz=>by clear st hn hm sub nd ne oa oc oe ok lo Ib e;subst z;rw[ob] at q;exact aA q
  exact(Ib b this).trans q
 .have:b≠a:=λz=>by clear hn hm sub nd ne oa ob oc oe ok;subst z;exact lo l
  exact(Ib b this).trans (st.gr.old b l)
 .clear hn hm sub nd ne oa ob lo;by_cases q:b=a
  .clear st Ib;subst q
   have:c=c':=by have e':(F.set b c) b=some c':=e;rw[ah.sW] at e';exact mT e'
   subst this;exact⟨oc,o,oe,ok⟩
  .exact st.sees b c' ((Ib b q).symm.trans e)
 .exact nX (st.own p (sub p hp)) λx y z=>⟨x,(Ib _ (ne p hp)).trans y,z⟩
 .rw[dN];exact(j7.mp (zW.mp nd)).2
 .exact(Ib _ (λq=>st.fY.2 _ hm q.symm)).trans st.fY.1
 .exact(Ib _ (λq=>(st.dM y c' e).2.1 _ hm q.symm)).trans (st.dM y c' e).1
theorem St.change {a:av}{c c':Cell}{o':Obj}(st:St fr ⟨F,V,pre++(a,c)::post⟩ h)(hs:Heap.SameBut a h h')(e:h'.get? a=some o')(ok:c'.ok fr.w o'):
  St fr ⟨F,V,pre++(a,c')::post⟩ h':=by
 have hm:(a,c)∈pre++(a,c)::post:=lz _ (.head _);have nd:=st.nd;rw[dN,fJ] at nd;have ne:∀p∈pre++post,p.1≠a:=λp hp e=>by have h1:=(zW.mp nd);refine(j7.mp h1).1 ?_;rw[<-dN];exact bN.mpr ⟨p,hp,e⟩
 refine kU (st.own _ hm) λoa ob oc v=>st.step (M:=[a]) ⟨(λb hb v=>by cases hb with|head=>exact⟨o',e⟩|tail v q=>exact aR q),λb o hb e=>⟨o,(hs.2 b (λq=>hb (q▸.head _))).trans e,.inl rfl⟩⟩ (λb hb=>⟨c,by cases hb with|head=>exact hm|tail v q=>exact aR q⟩) (.refl _ _) (λb d q=>?_) (λp hp=>?_) ?_
 .refine gy (st.sees b d q) λl o e' k=>?_
  have:b≠a:=λz=>by clear st hs e ok hm nd ne oa oc l e' k;subst z;rw[show F b=none from ob] at q;exact aA q
  exact⟨l,o,(hs.2 b this).trans e',k⟩
 .have:p=(a,c')\/(p∈pre++post):=by
   rcases j6.mp hp with q|q
   .exact .inr (uJ _ q)
   .refine fU (bW.mp q) (λq=>?_) λq=>?_
    .exact .inl q
    .exact .inr (lz _ q)
  clear nd hp;rcases this with rfl|q
  .exact⟨⟨oa,oc,(show a≠_ from st.fY.2 _ hm),λy d e=>(show a≠_ from(st.dM y d e).2.1 _ hm)⟩,ob,o',e,ok⟩
  .have mL:p∈pre++(a,c)::post:=by
    refine fU (j6.mp q) (λq=>?_) λq=>?_
    .exact uJ _ q
    .exact lz _ (.tail _ q)
   exact b8 (st.own p mL) λx y z o eo k=>⟨⟨x,z,st.fY.2 p mL,λy d e=>(st.dM y d e).2.1 p mL⟩,y,o,(hs.2 _ (ne p q)).trans eo,k⟩
 .rw[dN,fJ];exact nd
end
theorem aoD {s s':cO}(h1:s'.gens=s.gens)(h2:s'.drawn=s.drawn)(h3:s'.os=s.os):s'={s with heap:=s'.heap,toks:=s'.toks}:=by rw[<-h1,<-h2,<-h3]
theorem aoE {s s':cO}(h1:s'.gens=s.gens)(h3:s'.os=s.os):s'={s with heap:=s'.heap,drawn:=s'.drawn,toks:=s'.toks}:=by rw[<-h1,<-h3]
def MT (t:SetTable):Prop:=t.place.toList.Pairwise (·< ·)/\t.dummies= #[]
section
variable {xs:Array Nat}{j:Nat}
theorem mP (h:i<xs.size):xs.getD i d=xs.toList[i]'h:=dif_pos h
theorem AL (h:xs.size<=i):xs.getD i d=d:=dif_neg (J7.mpr h)
theorem LW (hx:xs.toList.Pairwise (·< ·)){a b:Nat}(ha:a<b)(hb:b<xs.size):xs.toList[a]'(Br ha hb)<xs.toList[b]'hb:=List.pairwise_iff_getElem.mp hx a b _ hb ha
theorem agf (hx:xs.toList.Pairwise (·< ·))(ha:a<=b)(h:xs.getD b j<j):xs.getD a j<j:=by
 refine fU (XZ b xs.size) (λhb=>?_) λhb=>?_
 .refine fU (Nat.lt_or_eq_of_le ha) (λha=>?_) λha=>?_
  .rw[mP hb] at h;rw[mP (Br ha hb)];exact Br (LW hx ha hb) h
  .rw[ha];exact h
 .rw[AL hb] at h;exact absurd h (qL j)
theorem XG (an:∀{a b},a<=b->xs.getD b j<j->xs.getD a j<j)(i:Nat):∀(qH lo hi:Nat),hi<=lo+qH->(∀i,i<lo->xs.getD i j<j)->(∀i,hi<=i->¬xs.getD i j<j)->
  (xs.getD i j<j↔i<SetTable.below.go xs j qH lo hi):=by
 intro qH;induction qH with
 |zero=>exact λlo hi h p q=>⟨λx=>Nat.lt_of_not_le λy=>q i (aB h y) x,p i⟩
 |succ qH ih=>
  intro lo hi h p q;unfold SetTable.below.go;by_cases hl:lo<hi
  .rw[bg hl]
   by_cases hm:xs.getD ((lo+hi)/2) j<j
   .exact(ih _ hi (by omega) (λi x=>an (Nat.le_of_lt_succ x) hm) q).trans (by rw[bg hm])
   .exact(ih lo _ (by omega) p λi x y=>hm (an x y)).trans (by rw[aG hm])
  .rw[aG hl]
   exact⟨λx=>Nat.lt_of_not_le λy=>q i (aB (qN hl) y) x,p i⟩
theorem lW (hx:xs.toList.Pairwise (·< ·))(i:Nat):xs.getD i j<j↔i<SetTable.below xs j:=
 XG (agf hx) i _ _ _ (OC ..) (λi h=>absurd h (Yk i)) λi h=>by rw[AL h];exact qL j
theorem My (hx:xs.toList.Pairwise (·< ·)):SetTable.below xs 0=0:=ad6 λh=>Yk _ ((lW hx 0).mpr h)
theorem Mz (hx:xs.toList.Pairwise (·< ·)){i:Nat}(hi:i<xs.size):SetTable.below xs (xs.getD i 0+1)=i+1:=by
 rw[mP hi];refine Yi (qN λh=>?_) ((lW hx i).mp (by rw[mP hi];exact OG _));have h:=(lW hx _).mpr h;refine fU (XZ (i+1) xs.size) (λhb=>?_) λhb=>?_
 .rw[mP hb] at h;exact J7.mpr (LW hx (OG i) hb) h
 .rw[AL hb] at h;exact qL _ h
theorem NC (hx:xs.toList.Pairwise (·< ·)){a:Nat}(ha:a∈xs.toList.take (SetTable.below xs j)):a<j:=
 (List.mem_take_iff_getElem.mp ha).elim λi h=>h.elim λhi e=>by have h:=(lW hx i).mpr (eW hi (Kd ..));rw[mP (eW hi (Nat.min_le_right ..)),e] at h;exact h
theorem abC (hx:xs.toList.Pairwise (·< ·))(hn:xs[SetTable.below xs j]? ≠some j)(hy:y∈xs.toList.drop (SetTable.below xs j)):j<y:=
 (List.mem_drop_iff_getElem.mp hy).elim λi h=>h.elim λhi e=>by
  have nb:∀i,SetTable.below xs j<=i->∀h:i<xs.size,j<=xs.toList[i]'h:=λi hb h=>qN λq=>J7.mpr hb ((lW hx i).mp (by rw[mP h];exact q));have qG:SetTable.below xs j+i<xs.size:=by rw[J9];exact hi
  refine adJ (e▸nb _ (xj ..) qG) λq=>?_;clear hy;subst q;induction i using O2 with
  |zero=>exact hn (by rw[<-EU];exact Bu.mpr ⟨qG,e⟩)
  |succ i=>have h:=LW hx (YW (Ou i)) qG;simp only[e] at h;exact J7.mpr (nb _ (br _) (Br (YW (Ou i)) qG)) h
end
theorem Ny (j:Nat):SetTable.has #[] j=false:=by unfold SetTable.has;rfl
theorem Ll {t:SetTable}(h:t.slot j=.empty):t.place[SetTable.below t.place j]? ≠some j:=by intro q;unfold SetTable.slot at h;dsimp only at h;rw[q] at h;simp at h
theorem MT.put {t:SetTable}(h:MT t){j:Nat}(he:t.slot j=.empty):MT (t.put j).1:=xA h λhp hd=>by
 refine⟨?_,?_⟩
 .show(SetTable.insertAt t.place (SetTable.below t.place j) j).toList.Pairwise (·< ·)
  simp only[SetTable.toList_insertAt];have hg:∀y∈t.place.toList.drop (SetTable.below t.place j),j<y:=λy=>abC hp (Ll he);exact List.pairwise_append.mpr ⟨hp.sublist (List.take_sublist _ _),J1.mpr ⟨hg,hp.sublist (List.drop_sublist _ _)⟩,λa ha b hb=>(bW.mp hb).elim (λe=>e▸NC hp ha) λhb=>Br (NC hp ha) (hg b hb)⟩
 .show(if SetTable.has t.dummies j=true then _ else t.dummies)=_
  rw[hd,Ny];rfl
theorem Fd {t:SetTable}(h:t.dummies= #[])(j:Nat):t.slot j≠.dummy:=by unfold SetTable.slot;rw[h,Ny];dsimp only;split<;>simp
theorem Iz {t:SetTable}(hd:t.dummies= #[]):∀(qH:Nat) (p:SetTable.Probe) {j:Nat} {d:gF},SetTable.probe.go t f h qH p=some (.empty j d)->t.slot j=.empty/\d=p.dummy:=by
 intro qH;induction qH with
 |zero=>intro p j d e;simp[SetTable.probe.go] at e
 |succ qH ih=>
  intro p j d e;have adv:(t.advance p).dummy=p.dummy:=by unfold SetTable.advance;split<;>rfl
  unfold SetTable.probe.go at e;split at e
  .rename_i hs
   simp at e;refine xA e λz0 z1=>?_;try clear e;subst z0;rw[z1]
   exact⟨hs,rfl⟩
  .rename_i hs
   exact absurd hs (Fd hd _)
  .split at e
   .simp at e
   .exact xA (ih _ e) λh1 h2=>⟨h1,h2.trans adv⟩
theorem MT.standIn {t:SetTable}(n:Nat):MT (t.standIn n):=by refine⟨?_,rfl⟩;rw[Array.toList_range];exact OV
theorem LJ {t:SetTable}(h:MT t)(es:Array (Int×ao))(k:Int)(x:ao):MT (layNew t es k x).2.1/\(layNew t es k x).2.1.led=t.led:=by
 unfold layNew;split
 .rename_i slot wd e
  have hs:t.slot slot=.empty:=by
   unfold SetTable.freeSlot SetTable.probe at e;split at e
   .rename_i j d e'
    refine xA (Iz h.2 _ _ e') λh1 h2=>?_;have h2:d=none:=h2;subst h2;simp at e;rw[<-e.1];exact h1
   .simp at e
  dsimp only;unfold SetTable.orStandIn;split
  .exact⟨h.put hs,rfl⟩
  .exact⟨MT.standIn _,rfl⟩
 .exact⟨MT.standIn _,rfl⟩
theorem Wo (e:SetTable.laid m f mv l p hs=some (t',o)):MT t'/\t'.led=l:=
 aq (YX.mp e) λowner z e=>by have e:_=t':=aT Prod.fst (mT e);rw[<-e];refine⟨⟨?_,rfl⟩,rfl⟩;refine J0.mpr (List.pairwise_filterMap.mpr (OV.imp λ{a b} N2 x hx y hy=>?_));refine aq (J4.mp hx) λz z hx=>aq (J4.mp hy) λz z hy=>?_;rw[<-hx,<-hy];exact N2
theorem Fl (t:SetTable)(es:Array (Int×ao))(n:Nat):MT (relayAll t es n).2.1/\(relayAll t es n).2.1.led=t.led:=by
 unfold relayAll;split
 .rename_i t' order e
  dsimp only;split
  .exact Wo e
  .exact⟨MT.standIn _,rfl⟩
 .exact⟨MT.standIn _,rfl⟩
section
variable {bu:Program}{w:bZ}{K:Type}[DecidableEq K]{knd:KeyKind bu w K}{A:aQ}{E:aS}{s:cO}
noncomputable def yS (w:bZ):Bool:=w.params.followText "set-order"
structure nW (knd:KeyKind bu w K) (L:bC) (ks:List K) (es:Array (Int×ao)) (ep:Nat) (t:SetTable) (o:Obj):Prop where
 ex:o.ExactSet
 dat:o.data=.set es ep t
 el:ElemsOf knd es.toList
 perm:(es.toList.map (·.2)).Perm L
 keys:jz (λv k=>knd.is k v=true) L ks
 bd:es.size<scanBound
 fit:t.fits es.size=true
 inc:MT t
 led:t.led= !yS w
theorem jz.ajn {α β:Type}{R:α->β->Prop}{l:List α}{m:List β}(h:jz R l m):∀a∈l,∃b∈m,R a b:=by
 induction h with
 |nil=>intro a ha;exact aR ha
 |cons r z ih=>
  intro a ha;rcases bW.mp ha with rfl|ha
  .exact⟨_,.head _,r⟩
  .refine aq (ih a ha) λb hb q=>?_;exact⟨b,.tail _ hb,q⟩
theorem jz.ajm {α β:Type}{R:α->β->Prop}{l:List α}{m:List β}(h:jz R l m):∀b∈m,∃a∈l,R a b:=by
 induction h with
 |nil=>intro a ha;exact aR ha
 |cons r z ih=>
  intro a ha;rcases bW.mp ha with rfl|ha
  .exact⟨_,.head _,r⟩
  .refine aq (ih a ha) λb hb q=>?_;exact⟨b,.tail _ hb,q⟩
theorem jz.app {α β:Type}{R:α->β->Prop}{l l':List α}{m m':List β}(h:jz R l m)(h':jz R l' m'):jz R (l++l') (m++m'):=by
 induction h with
 |nil=>exact h'
 |cons r z ih=>exact .cons r ih
theorem jz.len {α β:Type}{R:α->β->Prop}{l:List α}{m:List β}(h:jz R l m):l.length=m.length:=by
 induction h with
 |nil=>rfl
 |cons _ _ ih=>exact X0.mpr ih
theorem nW.len (h:nW knd L ks es ep t o):es.size=L.length:=by rw[<-h.perm.length_eq];exact(bw ..).symm
theorem nW.has {L:bC}{ks:List K}{es:Array (Int×ao)}(h:nW knd L ks es ep t o)(k:K):k∈ks↔∃e∈es.toList,knd.is k e.2=true:=by
 constructor
 .intro hk
  refine aq (h.keys.ajm k hk) λv hv q=>aq (bN.mp (h.perm.mem_iff.mpr hv)) λe he z0=>?_;subst z0;exact⟨e,he,q⟩
 .intro z1;refine aq z1 λe he q=>aq (h.keys.ajn e.2 (h.perm.mem_iff.mp (j9 he))) λk' iR q'=>?_
  have:=knd.inj e.2 k k' q q';clear h z1 he q q';rw[this];exact iR
def nI (knd:KeyKind bu w K)(h:Heap)(a:av)(L:bC)(ks:List K):Prop:=∃o es ep t,h.get? a=some o/\nW knd L ks es ep t o
theorem PS {a:av}{L:bC}{ks:List K}(hS:nI knd s.heap a L ks)(uc:knd.is k x=true)(hsc:x.scannable=true)(Jk:L.length+1<scanBound)
  (h1:k∈ks->Q false s)(h2:k∉ks->∀h',Heap.SameBut a s.heap h'->nI knd h' a (L++[x]) (ks++[k])->Q true {s with heap:=h'}):
  wpAny (model bu w) A (setAddHashed a x (knd.hash k)) Q E s:=by
 refine rH hS λo es ep t ho hS=>?_;have qE:=hS.has k;have ZH:es.size+1<scanBound:=by rw[hS.len];exact Jk
 obtain⟨hex,hd,Tp,WR,iY,hb,hf,akk,R9⟩:=hS;unfold setAddHashed setAddHashedIn;refine wo (aN (BF ho hd hf ?_));dsimp only;rw[byScan_of hsc hb Tp];simp only[↓reduceIte];unfold setAddByScan;refine aN (aN (EE ?_));refine aN (wpAny_setScan_of uc ho hd hf Tp ?_);induction hr:List.findIdx? (λe=>knd.is k e.2) es.toList using fL with
 |some j=>dsimp only;refine aq (List.findIdx?_eq_some_iff_getElem.mp hr) λhj hpj z=>?_;exact cG (cG (h1 (qE.mpr ⟨es.toList[j],jj hj,hpj⟩)))
 |none=>
  dsimp only;have hnk:k∉ks:=λq=>by refine aq (qE.mp q) λe he hp=>?_;have:=List.findIdx?_eq_none_iff.mp hr e he;rw[hp] at this;exact Bool.noConfusion this
  have dQ:=layNew_perm t es (knd.hash k) x;have Ei:=layNew_fits t es (knd.hash k) x;have ue:=LJ akk es (knd.hash k) x;generalize hL:layNew t es (knd.hash k) x=Ly at dQ Ei ue ⊢;obtain⟨vP,t1,TA,gave⟩:=Ly;dsimp only at dQ Ei ue ⊢;rw[adM] at dQ;have agw:ElemsOf knd vP.toList:=(Tp.push uc hsc).perm dQ;have aj1:vP.size=es.size+1:=by rw[<-G7,dQ.length_eq,fK,G7];rfl
  have abz:vP.size<scanBound:=by rw[aj1];exact ZH
  have hp1:(vP.toList.map (·.2)).Perm (L++[x]):=by refine(dQ.map _).trans ?_;rw[dN];exact WR.append_right _
  have hk1:jz (λv k=>knd.is k v=true) (L++[x]) (ks++[k]):=iY.app (.cons uc .nil);have akM:∀{g:Sem Unit} {Q':Unit->cO->Prop},(∀b:Bool,g=(match b with|true=>rule "set.scan.the-table-gave-way"|false=>pure ())->Q' () s->wpAny (model bu w) A g Q' E s):=by intro g Q' b e q;subst e;induction b using pR<;>first|exact cG q|exact EE q
  refine aN (akM gave (by clear hS uc hsc Jk h1 h2 ho qE ZH hex hd Tp WR iY hb hf akk R9 hr hnk hL dQ Ei ue agw aj1 abz hp1 hk1 akM;cases gave<;>rfl) ?_);have ajI:∀t2:SetTable,t2.fits vP.size=true->MT t2->t2.led=(!yS w)->wpAny (model bu w) A (do
    storeSet a vP t2
    if(!TA&&t2.tooFull)=true then do
      (match(relayAll t2 vP (SetTable.grown vP.size)).2.2 with|true=>rule "set.scan.the-table-gave-way"|false=>pure ())
      storeSet a (relayAll t2 vP (SetTable.grown vP.size)).1 (relayAll t2 vP (SetTable.grown vP.size)).2.1
      pure (some true)
     else pure (some true)) (λr s'=>r=some true/\Q true s') E s:=by
   intro t2 hf2 hi2 hl2;have WL:∀(h:Heap) (o:Obj) (ep:Nat) (es0:Array (Int×ao)) (t0:SetTable),h.get? a=some o->o.ExactSet->o.data=.set es0 ep t0->∀(uW:Array (Int×ao)) (t':SetTable),(h.update a (Obj.putSet uW t')).get? a=some {o with data:=.set uW (ep+1) t'}:=by intro h o ep es0 t0 ho hex hd uW t';have:=mV (Obj.putSet uW t') ho (by rw[putSet_of uW t' hd];rfl);rw[putSet_of uW t' hd] at this;exact this
   refine aN (adw ho hd ?_ (Yl abz));have ho1:=WL s.heap o ep es t ho hex hd vP t2;have aj5:=qP s.heap a (Obj.putSet vP t2);split
   .have hp:=relayAll_perm t2 vP (SetTable.grown vP.size)
    have AI:=relayAll_fits t2 vP (SetTable.grown vP.size);have hir:=Fl t2 vP (SetTable.grown vP.size);generalize hRl:relayAll t2 vP (SetTable.grown vP.size)=Rl at hp AI hir ⊢;obtain⟨es2,t3,akP⟩:=Rl;dsimp only at hp AI hir ⊢;have jm:es2.size=vP.size:=by rw[<-G7,hp.length_eq,G7]
    have hb2:es2.size<scanBound:=by rw[jm];exact abz
    refine aN ?_;have qI:wpAny (model bu w) A (do storeSet a es2 t3;pure (some true)) (λr s'=>r=some true/\Q true s') E {s with heap:=s.heap.update a (Obj.putSet vP t2)}:=by refine aN (adw ho1 rfl ?_ (Yl hb2));refine cG ⟨rfl,h2 hnk _ (aj5.trans (qP _ a _)) ⟨_,es2,_,t3,WL _ _ _ _ _ ho1 hex rfl es2 t3,hex,rfl,agw.perm hp,(hp.map _).trans hp1,hk1,hb2,AI,hir.1,hir.2.trans hl2⟩⟩
    cases akP<;>first|exact cG qI|exact EE qI
   .exact cG ⟨rfl,h2 hnk _ aj5 ⟨_,vP,_,t2,ho1,hex,rfl,agw,hp1,hk1,abz,hf2,hi2,hl2⟩⟩
  split
  .refine aN ?_
   rw[hashByValue_scannable 8 hsc];refine cG ?_;refine fk (ajI _ ?_ ?_ ?_) (λr s' z0=>xA z0 λe q=>clear% z0;by subst e;exact cG q) λz z e=>e
   .split
    .exact Ei
    .exact SetTable.fits_plain_off Ei
   .split
    .exact ue.1
    .exact ue.1
   .split
    .exact ue.2.trans R9
    .exact ue.2.trans R9
  .refine aN (cG ?_)
   exact fk (ajI _ Ei ue.1 (ue.2.trans R9)) (λr s' z1=>xA z1 λe q=>clear% z1;by subst e;exact cG q) λz z e=>e
noncomputable def jT (ks:List K):List K:=ks.foldl (λacc k=>if k∈acc then acc else acc++[k]) []
theorem lT (ks:List K)(k:K):jT (ks++[k])=if k∈jT ks then jT ks else jT ks++[k]:=by unfold jT;simp only[Yv];rfl
theorem kM (ks:List K):(jT ks).length<=ks.length:=by
 have key:∀(ks acc:List K),(ks.foldl (λacc k=>if k∈acc then acc else acc++[k]) acc).length<=acc.length+ks.length:=by
  intro ks;induction ks with
  |nil=>intro acc;simp
  |cons a l ih=>intro acc;simp only[Yn];refine aB (ih _) ?_;split<;>simp<;>omega
 have:=key ks [];simpa[jT] using this
end
section
variable {bu:Program}{w:bZ}{K:Type}[DecidableEq K]{knd:KeyKind bu w K}{A:aQ}{E:aS}{s:cO}
theorem nI.keep {a:av}{L:bC}{ks:List K}(x:nI knd h a L ks)(e:∀o,h.get? a=some o->h'.get? a=some o):nI knd h' a L ks:=
 rH x λo es ep t ho q=>(Gy o es ep t (e o ho) q)
theorem Un {St:Nat->cO->Prop}
  (W:WalksS bu w A.in1 I fp wr G n P St)(a:av)(ha:a∉fp)(ks:List K)(hn:ks.length=n)(CY:∀i v,P i v->∃k,ks[i]? =some k/\knd.is k v=true/\v.scannable=true)(hb:n+1<scanBound):
  ∀(m i:Nat) (s:cO) (L:bC),n-i=m->i<=n->St i s->nI knd s.heap a L (jT (ks.take i))->(∀v∈L,∃j,P j v)->
   (∀s' L',Moved (a::wr) G s s'->nI knd s'.heap a L' (jT ks)->(∀v∈L',∃j,P j v)->R (.ok (.ret .none)) s')->
   codeAny (model bu w) A (.builtin "set.update.loop" ⟨[.ref a,.ref I],[]⟩) R s:=by
 have haw:a∉wr:=λh=>ha (W.sub _ h);have gh:∀b∈wr,b∈a::wr:=λb hb=>List.mem_cons_of_mem _ hb;intro m;induction m with
 |zero=>
  intro i s L hm hi hst hS hL hR;have vJ:i=n:=by grind
  clear ha CY hb hi;subst vJ;refine xf aeB ?_;rw[OR ace _];show wpAny _ A.in1 (pyNext (.ref I)>>=_) _ _ s;refine aN (W.done s _ _ hst λs' hm=>?_);simp only[<-hn,List.take_length] at hS;exact cG (hR s' L (hm.mono gh) (hS.keep λo e=>hm.heap a o haw e) hL)
 |succ m ih=>
  intro i s L hm hi hst hS hL hR;have jQ:i<n:=YO hm;refine xf aeB ?_;rw[OR ace _];refine aN (W.item i s _ _ jQ hst λv s' hP aj3 hm=>?_);refine gb (CY i v hP) λk hk hkv hsc=>?_;have hS':nI knd s'.heap a L (jT (ks.take i)):=hS.keep λo e=>hm.heap a o haw e;have hLl:L.length=(jT (ks.take i)).length:=by refine rH hS' λz z z z z q=>?_;exact q.keys.len
  have htk:ks.take (i+1)=ks.take i++[k]:=by
   have qG:i<ks.length:=by simp_all
   rw[SN qG];rw[eE qG] at hk;cases hk;rfl
  have Jk:L.length+1<scanBound:=by have:=kM (ks.take i);simp at this;omega
  have AI:∀h':Heap,Heap.SameBut a s'.heap h'->St (i+1) {s' with heap:=h',toks:=s'.toks+1}:=λh' hsb=>
   W.frame _ s' _ _ aj3 (XS _) λb hb o e=>by rw[hsb.2 b (λh:b=a=>ha (by rw[<-h];exact hb))];exact e
  have hmv:∀h':Heap,Heap.SameBut a s'.heap h'->Moved (a::wr) G s {s' with heap:=h',toks:=s'.toks+1}:=λh' hsb=>
   (hm.mono gh).then_heap (XS _) λb o hb e=>by rw[hsb.2 b (λh:b=a=>hb (by rw[h];exact YF))];exact e
  refine aN (wo ?_);unfold setAdd;refine wo (aN (knd.pyHash hkv ?_));refine PS (knd:=knd) (s:={s' with toks:=s'.toks+1}) hS' hkv hsc Jk (λvJ=>?_) λvJ h' hsb hS2=>?_
  .have e1:jT (ks.take (i+1))=jT (ks.take i):=by rw[htk,lT,bg vJ]
   refine cG ⟨BA ace _,ih (i+1) _ L (by grind) jQ (AI s'.heap (aeh _ _)) (by rw[e1];exact hS') hL λVk L'' agq agD agF=>?_⟩;exact hR Vk L'' (Moved.trans W.gtrans (hmv s'.heap (aeh _ _)) agq) agD agF
  .have e1:jT (ks.take (i+1))=jT (ks.take i)++[k]:=by rw[htk,lT,aG vJ]
   refine cG ⟨BA ace _,ih (i+1) _ (L++[v]) (by omega) jQ (AI h' hsb) (by rw[e1];exact hS2) (λu hu=>?_) λVk L'' agq agD agF=>?_⟩
   .clear W ha hn CY hb haw gh ih hm hi hst hS hR jQ aj3 hk hkv hsc hS' hLl htk Jk AI hmv vJ hsb hS2 e1;rcases j6.mp hu with hu|hu
    .exact hL u hu
    .rw[ly] at hu;rw[hu];exact⟨i,hP⟩
   .exact hR Vk L'' (Moved.trans W.gtrans (hmv h' hsb) agq) agD agF
theorem Lm (a:ao)
  (h:Q₁ (.ref s.heap.objs.size) {s with heap:=s.heap.push {cls:=.type "set",dict:=none,data:=.set #[] 0 (.fresh 0 0 (!yS w))}}):
  codeAny (model bu w) A (.call (.builtin "set.__new__") ⟨[.type "set",a],[]⟩) (wants Q₁ E) s:=by
 refine OA ?_;refine aN (Oi (PySem.F.newCall_set_1 a) (cG ⟨BA PySem.F.plain_set_new _,xf PySem.F.entry_set_new ?_⟩));delta Builtin.«set.__new__» Builtin.Frozenset.newClass;have gh:=sub_set_self;obtain⟨hp,g,d,tk,os⟩:=s
 wp_walk
 refine BC (cG ?_);refine aN (XQ (cG ?_));exact cG h
end
section
variable {bu:Program}{w:bZ}{K:Type}[DecidableEq K]{knd:KeyKind bu w K}{A:aQ}{E:aS}{s:cO}
noncomputable def sOb (led:Bool):Obj:={cls:=.type "set",dict:=none,data:=.set #[] 0 (.fresh 0 0 led)}
theorem IsList.obj {h:Heap}(q:h.IsList l xs):∃d n sl,h.get? l=some {cls:=.type "list",dict:=d,data:=.seq xs n,slots:=sl}:=by refine gb q λo ho hc bK=>xE bK λn hd=>clear% bK;?_;obtain⟨c,d,da,sl⟩:=o;subst hc;subst hd;exact⟨_,_,_,ho⟩
theorem jz.get {α β:Type}{R:α->β->Prop}{l:List α}{m:List β}(x:jz R l m):∀(i:Nat) (v:α),l[i]? =some v->∃k,m[i]? =some k/\R v k:=by
 induction x with
 |nil=>exact λi v e=>nomatch e
 |cons r z ih=>exact λi=>match i with
  |0=>λv e=>⟨_,rfl,mT e▸r⟩
  |i+1=>λv e=>ih i v e
theorem Ul {S l:av}{items:Array ao}{ks:List K}(hd:(!yS w)=led)(hS:s.heap.get? S=some (sOb led))(hSl:S≠l)
  (hh:A.handled=none)(hl:s.heap.IsList l items)(hk:jz (λv k=>knd.is k v=true/\v.scannable=true) items.toList ks)(hb:items.size+1<scanBound)
  (h:∀(h':Heap) (tk:Nat) (L:bC),nI knd h' S L (jT ks)->(∀v∈L,v∈items.toList)->
   (∀b o,b≠S->s.heap.get? b=some o->h'.get? b=some o)->Q .none {s with heap:=h',toks:=tk}):
  codeAny (model bu w) A (.call (.builtin "set.__init__") {pos:=[.ref S,.ref l]}) (wants Q E) s:=by
 refine YB EP.init.plain PySem.F.entry_set_init (check_set_init_1 ⟨_,hS,rfl⟩ ?_);refine rI (IsList.obj hl) λapE nl ane hol=>?_;have hT:s.TypeIs (.ref S) "set":=⟨_,hS,rfl⟩;have arQ:=PySem.F.sub_list_set;have arR:=PySem.F.sub_list_frozenset;have jr:(Value.type "list"==Value.type "dict")=false:=by decide
 delta Builtin.«set.__init__» noKeywords Builtin.Frozenset.updateFrom;generalize hPI:pyIter=PI
 wp_walk
 subst hPI;refine Ym hl (aN (wpAny_runValue ?_));have hlI:=lu (g6 hol);have hSI:=lu (g6 hS);refine Un (knd:=knd) ((Walks.list (by with_reducible assumption) _ l hlI items).toS) S (by simp only[bW,JZ,or_false,not_or];exact⟨hSI,hSl⟩) ks (by rw[<-hk.len];exact G7 ..) (λi v e=>hk.get i v (by rw[EU];exact e)) hb (items.size-0) 0 _ [] (Nat.sub_zero items.size) (jU _)
  ⟨⟨_,mU _ rfl,rfl,rfl⟩,(hl.push _)⟩ ⟨_, #[],0,_,gj _ hS,⟨rfl,rfl,rfl⟩,rfl,(λe he=>nomatch he),.nil,.nil,by unfold scanBound;decide,rfl,⟨.nil,rfl⟩,hd.symm⟩ (λv hv=>aR hv) λs' L' hm hS' hL'=>?_;refine cG (cG ?_);rw[aoD hm.gens hm.drawn hm.os];refine h _ _ L' hS' (λv hv=>?_) λb o hbS e=>?_
 .refine xE (hL' v hv) λj hj=>?_
  exact Ks (i:=j) (by rw[EU];exact hj)
 .exact hm.heap b o (by simp only[bW,JZ,or_false,not_or];exact⟨hbS,lu (g6 e)⟩) (gj _ e)
theorem Uo {l:av}
  (hh:A.handled=none)(hl:s.heap.IsList l items)(hk:jz (λv k=>knd.is k v=true/\v.scannable=true) items.toList ks)(hb:items.size+1<scanBound)
  (h:∀(h':Heap) (tk:Nat) (L:bC),nI knd h' s.heap.objs.size L (jT ks)->(∀v∈L,v∈items.toList)->
   (∀b o,s.heap.get? b=some o->h'.get? b=some o)->Q (.ref s.heap.objs.size) {s with heap:=h',toks:=tk}):
  wpAny (model bu w) A (call (.type "set") [.ref l]) Q E s:=by
 refine Hv (EP.mro) λc tl WU=>?_;have ac3:=EP.made;have gh:=EP.sub;refine Bw (OA ?_);refine cG ⟨YC _ (by decide+kernel),xf PySem.F.entry_type_call ?_⟩;simp only[Around.under_plain (weight_type_call_type "set" [.ref l] []) rfl];have hct:=PySem.F.typeCall_set_1 (.ref l)
 repeat (any_goals (first|assumption|wp_step))
 refine codeAny_mono (Lm (.ref l) (E:=E) (Q₁:=λobj PD=>obj=.ref s.heap.objs.size/\PD={s with heap:=s.heap.push (sOb (!yS w))}) ⟨rfl,rfl⟩) λr PD hr=>?_;generalize R9:(!yS w)=led at hr;cases r with
 |error e=>exact hr
 |ok fl=>
  induction fl using Zc3 with
  |ret obj=>
   obtain⟨rfl,rfl⟩:=hr;have hS:=mU s.heap (o:=sOb led) rfl;have hT:Shared.TypeIs {s with heap:=s.heap.push (sOb led)} (.ref s.heap.objs.size) "set":=⟨_,hS,rfl⟩;have hli:=EP.init.lookup;have hbi:=EP.init.bind (.ref s.heap.objs.size)
   repeat (any_goals (first|assumption|wp_step))
   refine codeAny_mono (Ul (E:=E) (Q:=λr aiA=>r=.none/\Q (.ref s.heap.objs.size) aiA) R9 hS (λq=>xE hl λo ho=>qL _ (q▸g6 ho.1)) hh (hl.push _) hk hb λh' tk L q1 q2 q3=>⟨rfl,h h' tk L q1 q2 λb o e=>q3 b o (lu (g6 e)) (gj _ e)⟩) λamW aiA WM=>?_;cases amW with
   |error e=>exact WM
   |ok akT=>
    cases akT with
    |ret r=>
     refine xA WM λz0 q=>?_;rw[z0]
     repeat (any_goals (first|assumption|wp_step))
    |_=>exact WM.elim
  |_=>exact hr.elim
end
theorem AS:entryFor table "set.__iter__"=some Builtin.«frozenset.__iter__»:=
 entryFor_alias (id':="frozenset.__iter__") (by kernel_rfl) rfl (by decide+kernel) (by kernel_rfl)
theorem gT:Slot "set_iterator" "__next__" "set_iterator.__next__":=
 .of (owner:="set_iterator") (n:="__next__") (by rw[typeLookup_type,adH];kernel_rfl) (by decide+kernel) (by decide+kernel) (by decide+kernel)
  (by first|exact .inl (by decide+kernel)|exact .inr (by decide+kernel)) (by rw[X5];kernel_rfl)
theorem sU:Slot "set_iterator" "__iter__" "set_iterator.__iter__":=
 .of (owner:="set_iterator") (n:="__iter__") (by rw[typeLookup_type,adH];kernel_rfl) (by decide+kernel) (by decide+kernel) (by decide+kernel)
  (by first|exact .inl (by decide+kernel)|exact .inr (by decide+kernel)) (by rw[X5];kernel_rfl)
theorem sf {α:Type}:∀{l:List α} {i:Nat} (h:i<l.length),(l[i]::l.eraseIdx i).Perm l
 |a::l,0,_=>by rfl
 |a::l,i+1,h=>by have h':i<l.length:=Nat.succ_lt_succ_iff.mp h;exact(List.Perm.swap _ _ _).trans (List.Perm.cons _ (sf h'))
theorem C6:entryFor table "set_iterator.__next__"=some Builtin.«set_iterator.__next__»:=entryFor_of_tree (by kernel_rfl)
theorem Ro {α:Type}(next:Nat->Nat)(xs:Array α):(pickOrder next xs).toList.Perm xs.toList:=by
 have key:∀(qH k:Nat) (left:List α) (out:Array α),left.length<=qH->(pickOrder.go next qH k left out).toList.Perm (out.toList++left):=by
  intro qH;induction qH with
  |zero=>intro k left out h;have:left=[]:=Kv.mp (ad6 (Kf h));rw[this];unfold pickOrder.go;simp
  |succ qH ih=>
   intro k left out h;unfold pickOrder.go;induction left using nU with
   |nil=>simp
   |cons a l=>
    have jQ:next k % (a::l).length<(a::l).length:=Ol _ (Nat.zero_lt_succ ..)
    rw[eE jQ];refine(ih _ _ _ (by rw[aej jQ];exact Nat.sub_le_of_le_add h)).trans ?_;rw[adM,eN];exact List.Perm.append_left _ (sf jQ)
 have:=key xs.size 0 xs.toList #[] (br _);trivial
section
variable {bu:Program}{w:bZ}{A:aQ}{E:aS}{s:cO}{M:Model}
theorem SG (hn:n≠0)(h:∀i d',i<n->Q i {s with drawn:=d'}):wpAny M A (choose src n) Q E s:=λΓ p hΓ=>by exact⟨hn,by simp only[Sem.wp_pure];exact h _ _ (Ol _ (Nat.pos_of_ne_zero hn))⟩
theorem abR {α:Type}:∀(n:Nat) (xs:List α) {s:cO} {Q:List α->cO->Prop},xs.length=n->(∀ys d',ys.Perm xs->Q ys {s with drawn:=d'})->wpAny M A (drawOrder n xs) Q E s:=by
 intro n;induction n with
 |zero=>intro xs s Q hl h;have:xs=[]:=Kv.mp hl;subst this;delta drawOrder;exact cG (h [] s.drawn (.refl _))
 |succ n ih=>
  intro xs s Q hl h;induction xs using nU with
  |nil=>cases hl
  |cons a l=>unfold drawOrder;refine aN (SG (lq (Nat.zero_ne_add_one l.length)) λi d' hi=>?_);rw[eE hi];refine aN (ih _ (by rw[aej hi];simp at hl;simp;omega) λys d'' hp=>?_);exact cG (h _ d'' ((List.Perm.cons _ hp).trans (sf hi)))
end
section
variable {bu:Program}{w:bZ}{K:Type}[DecidableEq K]{knd:KeyKind bu w K}{A:aQ}{E:aS}{s:cO}
noncomputable def mq (first:ao)(i:Int)(a:av)(n ep:Nat):Obj:={cls:=.type "set_iterator",data:=.fields #[first,rawInt i,.ref a,rawInt n,rawInt ep]}
theorem Fe (h:Q (yS w) s):wpAny (model bu w) A setsByText Q E s:=by unfold setsByText;exact aN (BC (cG h))
theorem GY (a:ao):argsOk "set_iterator.__next__" ⟨[a],[]⟩:=by unfold argsOk;kernel_rfl
theorem GZ (a:ao):argsOk "set_iterator.__iter__" ⟨[a],[]⟩:=by unfold argsOk;kernel_rfl
theorem ahy (name:String)(v:ao):slotArgs name 0 ⟨[v],[]⟩=(pure (v,[]):Sem (ao×bC)):=by unfold slotArgs;rfl
noncomputable def jL (w:bZ)(a:av)(es:Array (Int×ao))(ep:Nat):bC:=if yS w then(pickOrder (w.params.setOrder a ep) es).toList.map (·.2) else es.toList.map (·.2)
theorem mz (w:bZ)(a:av)(es:Array (Int×ao))(ep:Nat):(jL w a es ep).Perm (es.toList.map (·.2)):=by
 unfold jL;split
 .exact(Ro _ _).map _
 .exact .refl _
noncomputable def iw (w:bZ)(t:SetTable):Nat->Nat
 |0=>0
 |i+1=>if yS w then 0 else t.place.getD i 0+1
theorem zC (ho:s.heap.get? a=some o)(h:nW knd L ks es ep t o)
  (hp:yS w=true\/t.plain=true\/es.size<=1)
  (h1:∀v,(jL w a es ep)[i]? =some v->Q (some (v,iw w t (i+1))) s)(h2:(jL w a es ep)[i]? =none->Q none s)(hi:i<=es.size):
  wpAny (model bu w) A (setNext a (iw w t i) i ep) Q E s:=by
 have agA:yS w=false->SetTable.below t.place (iw w t i)=i:=λhb=>by
  have jm:t.place.size=es.size:=by have:=h.fit;simp only[SetTable.fits,iK,eH] at this;exact this.1
  clear ho hp h1 h2;induction i using O2 with
  |zero=>exact My h.inc.1
  |succ i=>show SetTable.below t.place (if yS w=true then 0 else t.place.getD i 0+1)=_;rw[hb,aG sG];have qG:i<t.place.size:=eW (eW (qO (br _)) hi) (fh (fH jm));exact Mz h.inc.1 qG
 have qF:=h.led;unfold setNext;refine aN (BF ho h.dat h.fit ?_);refine aN (Fe ?_);induction hb:yS w using pR with
 |true=>
  rw[bg rfl,aG (by simp)];unfold setWalk;refine aN (aN (BF ho h.dat h.fit ?_));refine aN (Fe ?_);rw[hb,bg rfl];refine aN (BC (cG ?_));refine cG ?_;have e:(jL w a es ep)[i]? =((pickOrder (w.params.setOrder a ep) es)[i]?).map (·.2):=by unfold jL;rw[hb,bg rfl,g9,EU]
  have vP:iw w t (i+1)=iw w t i:=by
   induction i using O2 with
   |zero=>show(if yS w=true then 0 else _)=0;rw[hb];rfl
   |succ i=>show(if yS w=true then 0 else _)=(if yS w=true then 0 else _);rw[hb];rfl
  induction q:(pickOrder (w.params.setOrder a ep) es)[i]? using fL with
  |none=>show Q (Option.map (λe:Int×ao=>(e.2,iw w t i)) (pickOrder (w.params.setOrder a ep) es)[i]?) s;rw[q];exact h2 (by rw[e,q];rfl)
  |some p=>show Q (Option.map (λe:Int×ao=>(e.2,iw w t i)) (pickOrder (w.params.setOrder a ep) es)[i]?) s;rw[q,<-vP];exact h1 p.2 (by rw[e,q];rfl)
 |false=>
  have hd:(!t.plain&&decide (es.size>1))=false:=by
   rcases hp with q|q|q
   .rw[hb] at q;exact g5 q
   .simp[q]
   .have:¬es.size>1:=Kf q
    simp[this]
  have hl:t.led=true:=by simp only[qF,hb];rfl
  show wpAny _ _ (if(!t.plain&&decide (es.size>1))=true then _ else _) _ _ _;rw[hd,aG sG];refine aN ?_;show wpAny _ _ (if(!t.led&& !es.isEmpty)=true then _ else _) _ _ _;rw[hl,aG (ne_true_of_eq_false rfl)];refine cG ?_;rw[agA hb];have jm:t.place.size=es.size:=by have:=h.fit;simp only[SetTable.fits,iK,eH] at this;exact this.1
  have e:(jL w a es ep)[i]? =(es[i]?).map (·.2):=by unfold jL;rw[hb,aG sG,g9,EU]
  refine cG ?_;by_cases jQ:i<es.size
  .have akf:i<t.place.size:=eW jQ (fh (fH jm))
   rw[SK jQ,SK akf];have:=h1 es[i].2 (by rw[e,SK jQ];rfl);have e2:iw w t (i+1)=t.place[i]+1:=by show(if yS w=true then 0 else t.place.getD i 0+1)=_;rw[hb,aG sG];simp[Array.getD,akf]
   rw[e2] at this;exact this
  .rw[aec (by simp_all)]
   exact h2 (by rw[e,aec (by simp_all)];rfl)
end
section
variable {bu:Program}{w:bZ}{K:Type}[DecidableEq K]{knd:KeyKind bu w K}{A:aQ}{E:aS}{s:cO}
theorem nW.typ (h:nW knd L ks es ep t o)(ho:s.heap.get? a=some o):s.TypeIs (.ref a) "set":=⟨o,ho,h.ex.1⟩
variable {wB:PySem.Fin->cO->Prop}{uR:aS}{I a:av}{L:bC}{ks:List K}{es:Array (Int×ao)}{ep:Nat}{t:SetTable}{o:Obj}
theorem yJ (hT:s.TypeIs (.ref I) "set_iterator")
  (h:∀wB uR,(∀v s',Q (some v) s'->wB (.done (.ret v)) s')->(∀e s',s'.TypeIs e "StopIteration"->Q none s'->uR e s')->wpAny (model bu w) A.in1 (Builtin.«set_iterator.__next__» ⟨[.ref I],[]⟩) wB uR s):wpAny (model bu w) A (pyNext (.ref I)) Q E s:=by
 unfold pyNext;exact aN (wpAny_attempt (adR (name:=Str.ofString "__next__") hT gT (xh gT hT C6 (h _ _ (fun v s' q=>⟨_,rfl,cG q⟩) fun e s' ht q=>aN (wpAny_isInstance (T:="StopIteration") (b:=true) ht isSubtype_stop (cG q))) (GY _))))
theorem Nj (hh:A.handled=none)(hx:Heap.ExtBut I h₀ s.heap)(h:∀e h',Shared.TypeIs {s with heap:=h'} e "StopIteration"->Heap.ExtBut I h₀ h'->uR e {s with heap:=h'}):
  wpAny (model bu w) A (newExc (.type "StopIteration") []>>=fun e=>raiseNew e) wB uR s:=by
 refine aN ?_;refine aN (G4 ?_ (by size_fits));refine aN (m:=firstArgMember _ _) (Oi (a:=Value.none) (by first|rfl|(simp only[firstArgMember];rfl)) ?_);refine G4 ?_ (by size_fits);delta raiseNew;refine aN (wpAny_handled ?_);rw[hh];refine aN (cG (wpAny_throw ?_));exact h _ _ ⟨_,mU _ rfl,rfl⟩ ((hx.push _).push _)
def ajy (I a:av)(sl i ep:Nat):Sem PySem.Fin:=do
  match<-setNext a sl i ep with
  |some (x,next)=>
   setField (.ref I) 0 (rawInt next)
   setField (.ref I) 1 (rawInt ((i:Int)+1))
   ret x
  |none=>setField (.ref I) 2 .none;raiseNew (<-newExc (.type "StopIteration") [])
theorem Ug {sl i:Nat}(ho:s.heap.get? a=some o)(h:nW knd L ks es ep t o)(hI:s.heap.get? I=some (mq (rawInt sl) i a es.size ep))
  (hw:wpAny (model bu w) A (ajy I a sl i ep) wB uR s):wpAny (model bu w) A (Builtin.«set_iterator.__next__» ⟨[.ref I],[]⟩) wB uR s:=by
 unfold Builtin.«set_iterator.__next__»;refine aN (cG (aN (wpAny_fieldsOf hI rfl ?_)));show wpAny _ _ (do
  if((<-setEntries a).size:Int) !=(es.size:Int) then
   rule "set_iterator.__next__.size-changed"
   setField (.ref I) 3 (rawInt (-1))
   raiseError "RuntimeError" "Set changed size during iteration"
  ajy I a sl i ep) _ _ _;refine aN (Yu ho h.dat h.fit ?_);rw[aG (by rw[bne_self_eq_false];exact sG)];exact hw
theorem Ub {i:Nat}{v:ao}{Q:nV->cO->Prop}(jr:I≠a)(ho:s.heap.get? a=some o)(h:nW knd L ks es ep t o)
  (hI:s.heap.get? I=some (mq (rawInt (iw w t i)) i a es.size ep))(hp:yS w=true\/t.plain=true\/es.size<=1)(hi:i<es.size)(hv:(jL w a es ep)[i]? =some v)
  (hQ:∀h',h'.get? I=some (mq (rawInt (iw w t (i+1))) (i+1:Nat) a es.size ep)->Heap.SameBut I s.heap h'->Q (some v) {s with heap:=h'}):wpAny (model bu w) A (pyNext (.ref I)) Q E s:=
 yJ ⟨_,hI,rfl⟩ λwB uR p1 z=>Ug ho h hI (by refine aN (zC ho h hp (λv' hv'=>?_) (λhn=>by rw[hv] at hn;exact fD hn) (Bq hi));rw[hv] at hv';cases hv';have hI1:=mV (Obj.mapFields (·.setIfInBounds 0 (rawInt (iw w t (i+1):Nat)))) hI rfl;refine aN (uN hI rfl (fu rfl) (aN (uN hI1 rfl (fu rfl) (cG (p1 _ _ (hQ _ ?_ ((qP ..).trans (qP ..))))))));exact mV (Obj.mapFields (·.setIfInBounds 1 (rawInt ((i:Int)+1)))) hI1 rfl)
theorem Uc {Q:nV->cO->Prop}(hh:A.handled=none)(jr:I≠a)(ho:s.heap.get? a=some o)(h:nW knd L ks es ep t o)
  (hI:s.heap.get? I=some (mq (rawInt (iw w t es.size)) es.size a es.size ep))(hp:yS w=true\/t.plain=true\/es.size<=1)
  (hQ:∀h',Heap.ExtBut I s.heap h'->Q none {s with heap:=h'}):wpAny (model bu w) A (pyNext (.ref I)) Q E s:=
 yJ ⟨_,hI,rfl⟩ λwB uR z p2=>Ug ho h hI (by
  have dg:(jL w a es ep).length=es.size:=by simp only[(mz w a es ep).length_eq,bw,G7]
  refine aN (zC ho h hp (λv' hv'=>?_) (λhn=>?_) (br _))
  .rw[yt (fh dg)] at hv';exact aA hv'
  .exact aN (uN hI rfl (fu rfl) (Nj hh (qP ..).extBut λe h' ht hx=>p2 _ _ ht (hQ _ hx))))
end
section
variable {bu:Program}{w:bZ}{K:Type}[DecidableEq K]{knd:KeyKind bu w K}{A:aQ}{E:aS}{s:cO}
noncomputable def nj (ps:bF):Obj:={cls:=.type "tuple",data:=.seq (ps.map fun i:Nat=>rawInt i).toArray}
variable {wB:PySem.Fin->cO->Prop}{uR:aS}{I a T:av}{L:bC}{ks:List K}{es:Array (Int×ao)}{ep:Nat}{t:SetTable}{o:Obj}{ps:bF}{i:Nat}
def ak1 (I a T:av)(i ep:Nat):Sem PySem.Fin:=do
  let some places<-seqItems? (.ref T)|unsupported "internal:set_iterator"
  match places[i]? with
  |some (.int place _)=>
   let x<-setNextDrawn a place.toNat ep
   setField (.ref I) 1 (rawInt ((i:Int)+1))
   ret x
  |some z=>unsupported "internal:set_iterator"
  |none=>setField (.ref I) 0 (rawInt 0);setField (.ref I) 2 .none;raiseNew (<-newExc (.type "StopIteration") [])
theorem Uh (ho:s.heap.get? a=some o)(h:nW knd L ks es ep t o)(hI:s.heap.get? I=some (mq (.ref T) i a es.size ep))
  (hw:wpAny (model bu w) A (ak1 I a T i ep) wB uR s):wpAny (model bu w) A (Builtin.«set_iterator.__next__» ⟨[.ref I],[]⟩) wB uR s:=by
 unfold Builtin.«set_iterator.__next__»;refine aN (cG (aN (wpAny_fieldsOf hI rfl ?_)));show wpAny _ _ (do
  if((<-setEntries a).size:Int) !=(es.size:Int) then
   rule "set_iterator.__next__.size-changed"
   setField (.ref I) 3 (rawInt (-1))
   raiseError "RuntimeError" "Set changed size during iteration"
  ak1 I a T i ep) _ _ _;refine aN (Yu ho h.dat h.fit ?_);rw[aG (by rw[bne_self_eq_false];exact sG)];exact hw
theorem Ud (jr:I≠a)(ho:s.heap.get? a=some o)(h:nW knd L ks es ep t o)
  (hI:s.heap.get? I=some (mq (.ref T) i a es.size ep))(hT:s.heap.get? T=some (nj ps))(hj:ps[i]? =some j)(he:es[j]? =some e)
  (hQ:∀h',h'.get? I=some (mq (.ref T) (i+1:Nat) a es.size ep)->Heap.SameBut I s.heap h'->Q (some e.2) {s with heap:=h'}):wpAny (model bu w) A (pyNext (.ref I)) Q E s:=
 yJ ⟨_,hI,rfl⟩ λwB uR p1 z=>Uh ho h hI (by
  refine aN (wpAny_seqItems hT rfl ?_);show wpAny _ _ (match(ps.map λi:Nat=>rawInt i).toArray[i]? with
   |some (.int place _)=>(do
    let x<-setNextDrawn a place.toNat ep
    setField (.ref I) 1 (rawInt ((i:Int)+1))
    ret x)
   |some z=>unsupported "internal:set_iterator"
   |none=>(do setField (.ref I) 0 (rawInt 0);setField (.ref I) 2 .none;raiseNew (<-newExc (.type "StopIteration") []))) _ _ _;rw[ad5,g9,hj];refine aN (aN (BF ho h.dat h.fit ?_));dsimp only;rw[aG (by rw[bne_self_eq_false];exact sG),Dj,he];exact cG (aN (uN hI rfl (fu rfl) (cG (p1 _ _ (hQ _ (mV (Obj.mapFields (·.setIfInBounds 1 (rawInt ((i:Int)+1)))) hI rfl) (qP ..)))))))
theorem Ue (hh:A.handled=none)(jr:I≠a)(ho:s.heap.get? a=some o)(h:nW knd L ks es ep t o)
  (hI:s.heap.get? I=some (mq (.ref T) i a es.size ep))(hT:s.heap.get? T=some (nj ps))(hj:ps[i]? =none)
  (hQ:∀h',Heap.ExtBut I s.heap h'->Q none {s with heap:=h'}):wpAny (model bu w) A (pyNext (.ref I)) Q E s:=
 yJ ⟨_,hI,rfl⟩ λwB uR z p2=>Uh ho h hI (by
  refine aN (wpAny_seqItems hT rfl ?_);show wpAny _ _ (match(ps.map λi:Nat=>rawInt i).toArray[i]? with
   |some (.int place _)=>(do
    let x<-setNextDrawn a place.toNat ep
    setField (.ref I) 1 (rawInt ((i:Int)+1))
    ret x)
   |some z=>unsupported "internal:set_iterator"
   |none=>(do setField (.ref I) 0 (rawInt 0);setField (.ref I) 2 .none;raiseNew (<-newExc (.type "StopIteration") []))) _ _ _;rw[ad5,g9,hj];have hI1:=mV (Obj.mapFields (·.setIfInBounds 0 (rawInt 0))) hI rfl;exact aN (uN hI rfl (fu rfl) (aN (uN hI1 rfl (fu rfl) (Nj hh ((qP ..).trans (qP ..)).extBut λe h' ht hx=>p2 _ _ ht (hQ _ hx))))))
theorem H9 {i:Int}(hI:s.heap.get? I=some (mq first i a n ep))(h:Q (.ref I) s):wpAny (model bu w) A (pyIter (.ref I)) Q E s:=by have hT:s.TypeIs (.ref I) "set_iterator":=⟨_,hI,rfl⟩;have akX:entryFor table "set_iterator.__iter__"=some Builtin.«dict_keyiterator.__iter__»:=entryFor_alias (id':="dict_keyiterator.__iter__") (by kernel_rfl) rfl (by decide+kernel) (by kernel_rfl);refine adu hT sU (xh sU hT akX ?_ (GZ _));exact cG (yO _ rfl ("set_iterator") _ hT gT.lookup h)
theorem TF (hh:A.handled=none)(jr:I≠a)(h:nW knd L ks es ep t o)(hp:yS w=true\/t.plain=true\/es.size<=1):
  Walks bu w A I [I,a] [I] es.size (λi v=>(jL w a es ep)[i]? =some v) (λi hp=>hp.get? a=some o/\hp.get? I=some (mq (rawInt (iw w t i)) i a es.size ep)) where
 sub:=λb hb=>by simp at hb;simp[hb]
 frame:=λi h h' st hk=>⟨hk a (ad0 rfl) _ st.1,hk I YF _ st.2⟩
 item:=λi s Q E hi st hQ=>by
  have dg:(jL w a es ep).length=es.size:=by rw[(mz w a es ep).length_eq];exact bw ..
  have hv:(jL w a es ep)[i]? =some ((jL w a es ep)[i]'(eW hi (fh (fH dg)))):=eE _;exact Ub jr st.1 h st.2 hp hi hv λh' hI' hs=>hQ _ h' s.toks hv ⟨(hs.2 a (lq jr)).trans st.1,hI'⟩ λb o' hb e=>(hs.2 b (λq=>hb (ly.mpr q))).trans e
 done:=λs Q E st hQ=>Uc hh jr st.1 h st.2 hp λh' x=>hQ h' s.toks λb o' hb e=>x b o' (λq=>hb (ly.mpr q)) e
 self:=λi s Q E st hQ=>H9 st.2 hQ
theorem Lc (hh:A.handled=none){I a T:av}(jr:I≠a)(anQ:I≠T){es:Array (Int×ao)}(h:nW knd L ks es ep t o)(kI:ps.Perm (List.range es.size)):
  Walks bu w A I [I,a,T] [I] es.size (λi v=>(ps.map λj=>(es.getD j (0,.none)).2)[i]? =some v) (λi hp=>hp.get? a=some o/\hp.get? T=some (nj ps)/\hp.get? I=some (mq (.ref T) i a es.size ep)) where
 sub:=λb hb=>by simp at hb;simp[hb]
 frame:=λi h h' st hk=>⟨hk a (by simp) _ st.1,hk T (ad0 rfl) _ st.2.1,hk I YF _ st.2.2⟩
 item:=λi s Q E hi st hQ=>by
  have hl:ps.length=es.size:=by rw[kI.length_eq,iU]
  have hj:ps[i]? =some ps[i]:=eE (eW hi (fh (fH hl)));have jQ:ps[i]<es.size:=dh.mp (kI.mem_iff.mp (jj _));refine Ud jr st.1 h st.2.2 st.2.1 hj (SK jQ) λh' hI' hs=>?_;refine hQ _ h' s.toks ?_ ⟨(hs.2 a (lq jr)).trans st.1,(hs.2 T (lq anQ)).trans st.2.1,hI'⟩ λb o' hb e=>(hs.2 b (λq=>hb (ly.mpr q))).trans e;simp only[g9,hj];simp_all
 done:=λs Q E st hQ=>Ue hh jr st.1 h st.2.2 st.2.1 (by
  have hl:ps.length=es.size:=by rw[kI.length_eq,iU]
  exact yt (fh hl)) λh' x=>hQ h' s.toks λb o' hb e=>x b o' (λq=>hb (ly.mpr q)) e
 self:=λi s Q E st hQ=>H9 st.2.2 hQ
theorem Uk (ho:s.heap.get? a=some o)(h:nW knd L ks es ep t o)
  (h1:yS w=true\/t.plain=true\/es.size<=1->Q (.ref s.heap.objs.size) {s with heap:=s.heap.push (mq (rawInt 0) 0 a es.size ep)})
  (h2:∀ps d',ps.Perm (List.range es.size)->Q (.ref (s.heap.objs.size+1)) {s with heap:=(s.heap.push (nj ps)).push (mq (.ref s.heap.objs.size) 0 a es.size ep),drawn:=d'}):wpAny (model bu w) A (pyIter (.ref a)) Q E s:=by
 have hT:=h.typ ho;refine adu hT aeg (xh aeg hT AS ?_ (PySem.F.args_set_iter_1 _));delta Builtin.«frozenset.__iter__» Builtin.Frozenset.slot0;delta Builtin.Frozenset.addrOf Builtin.Frozenset.sizeOf;refine aN (aN (cG (cG ?_)));refine aN (aN (Yu ho h.dat h.fit (cG ?_)));unfold setDrawn;refine aN (aN (BF ho h.dat h.fit ?_));refine aN (Fe (cG ?_));show wpAny _ _ (if(!yS w&&(!t.plain&&decide (es.size>1)))=true then _ else _) _ _ _;induction hc:(!yS w&&(!t.plain&&decide (es.size>1))) using pR with
 |true=>
  refine aN (abR _ _ (iU ..) λps d' kI=>?_);refine aN (m:=newTuple _) (G4 ?_ (by have:=kI.length_eq;have hb:=h.bd;unfold scanBound at hb;simp only[iU] at this;show(List.map (λi:Nat=>rawInt i) ps).toArray.size<=sizeLine;simp only[g7,bw,nR];exact aB (aB (br _) (fh this)) (aB (Bq hb) (by decide))));have CZ:(s.heap.push (nj ps)).get? a=some o:=gj _ ho;show wpAny _ _ _ _ _ {s with heap:=s.heap.push (nj ps),drawn:=d'};unfold setEpoch;refine aN (aN (BF CZ h.dat h.fit (cG ?_)));unfold newFields;refine aN (G4 ?_ (by size_fits));refine cG (yO _ rfl ("set_iterator") _ ⟨_,mU _ rfl,rfl⟩ gT.lookup ?_);have:=h2 ps d' kI;simp only[<-Dh s.heap (nj ps)] at this;exact this
 |false=>
  refine aN (cG ?_);unfold setEpoch;refine aN (aN (BF ho h.dat h.fit (cG ?_)));unfold newFields;refine aN (G4 ?_ (by size_fits));refine cG (yO _ rfl ("set_iterator") _ ⟨_,mU _ rfl,rfl⟩ gT.lookup ?_);refine h1 ?_;induction hb:yS w using pR with
  |true=>exact .inl rfl
  |false=>
   rw[hb] at hc;induction hp:t.plain using pR with
   |true=>exact .inr (.inl rfl)
   |false=>rw[hp] at hc;simp at hc;exact .inr (.inr hc)
end
theorem nA {a c:Nat}(h:a<c):c≠a:=rG h
theorem nB (h:a<c):c+1≠a:=rG (eW h (gP (br _)))
theorem nC (h:a<c):c+2≠a:=rG (eW h (xj _ _))
theorem nD1 (h:a<c):a≠c+1:=lu (eW h (gP (br _)))
theorem nD2 (h:a<c):a≠c+2:=lu (eW h (xj _ _))
theorem nE (h:a<c):c∉[c+1,a]:=by simp;exact rG h
theorem nF (h:a<c):c∉[c+2,a,c+1]:=by simp;exact rG h
theorem nG:c+2≠c+1:=rG (qO (br _))
section
variable {bu:Program}{w:bZ}{K:Type}[DecidableEq K]{knd:KeyKind bu w K}{A:aQ}{E:aS}{s:cO}
theorem Um (hT:s.TypeIs (.ref r) "set")(h:Q false s):wpAny (model bu w) A (Builtin.List.listLengthHint (.ref r)) Q E s:=by
 unfold Builtin.List.listLengthHint;refine aN (wpAny_specialOf hT PySem.F.slot_set_len.lookup ?_);generalize hid:("set.__len__":String)=id0
 wp_delta
 rw[show splitId id0=some ("set","__len__") from by subst hid;decide+kernel];subst hid;refine aN (wpAny_isInstance (T:="set") (b:=true) hT (by rw[X5];kernel_rfl) ?_);refine wpAny_ite_split (λN2=>absurd N2 (by decide)) (λz=>?_);refine wpAny_ite_split (λz=>?_) (λN2=>absurd (by decide+kernel) N2);refine aN (wpAny_typeOf hT ?_);exact cG h
theorem WB (h:ItemsOf (λi v=>O[i]? =some v) acc O.length):acc.toList=O:=by
 apply EM;intro i;by_cases hi:i<O.length
 .have qG:i<acc.size:=by rw[h.1];exact hi
  have:=h.2 i acc[i] (SK qG);rw[EU,SK qG,this]
 .rw[yt (by rw[G7,h.1];exact qN hi),yt (by simp_all)]
theorem aad (es:Array (Int×ao)):(List.range es.size).map (λj=>(es.getD j (0,Value.none)).2)=es.toList.map (·.2):=by refine OI (by simp only[bw,iU,bw,G7]) λi h1 h2=>?_;simp only[bw,iU] at h1;rw[yq,yq,Kq,Array.getElem_toList,Array.getD,dif_pos h1];rfl
theorem Ia {a:av}{ks:List K}{Q:bC->cO->Prop}(hh:A.handled=none)(hS:nI knd s.heap a L ks)
  (h:∀h' d' tk acc,acc.Perm L->(∀b o,s.heap.get? b=some o->h'.get? b=some o)->Q acc {s with heap:=h',drawn:=d',toks:=tk}):wpAny (model bu w) A (collect (.ref a)) Q E s:=by
 refine rH hS λo es ep t ho hO=>?_;have Si:=g6 ho;have hn:es.size<=sizeLine:=Yl hO.bd;unfold collect;refine aN (wpAny_runValue (xf PySem.F.entry_proto_collect ?_));rw[OR PySem.F.plain_proto_collect _];show wpAny _ A.in1 (newList []>>=fun l=>again (.builtin "list.__iadd__" ⟨[l,.ref a],[]⟩)) _ _ s;refine aN (G4 ?_);refine cG ⟨BA aem _,xf PySem.F.entry_list_iadd ?_⟩;rw[OR aem _];generalize WW:({cls:=.type "list",data:=.seq ([]:bC).toArray}:Obj)=l0;generalize hC:s.heap.objs.size=C at Si ⊢;have ac8:(s.heap.push l0).get? C=some l0:=by rw[<-hC,<-WW];exact mU _ rfl
 have Ef:(s.heap.push l0).get? a=some o:=gj _ ho;have jm:(s.heap.push l0).objs.size=C+1:=by rw[Dh,hC]
 show wpAny _ A.in1 (Builtin.List.listExtendWith (.ref C) (.ref a) (.ref C)) _ _ {s with heap:=s.heap.push l0};unfold Builtin.List.listExtendWith;have hTy:=hO.typ (s:={s with heap:=s.heap.push l0}) Ef;refine aN (wpAny_typeOf hTy ?_);have h1:Builtin.List.listSameRef (.ref C) (.ref a)=false:=by simp[Builtin.List.listSameRef,nA Si]
 rw[aG (by rw[h1];decide)];have tail:∀(GA:Heap) (agS:Drawn) (I:av) (fp:cP) (n:Nat) (O:bC) (St:Nat->Heap->Prop),Walks bu w A.in1 I fp [I] n (λi v=>O[i]? =some v) St->O.length=n->n<=sizeLine->C∉fp->
   St 0 GA->GA.get? C=some l0->GA.get? a=some o->(∀b o,(s.heap.push l0).get? b=some o->GA.get? b=some o)->O.Perm L->(∀b o',s.heap.get? b=some o'->b≠I)->
   wpAny (model bu w) A.in1 (do
    let room<-holding [Value.ref I] (Builtin.List.listLengthHint (.ref a))
    if(room||["set","frozenset","dict","dict_keys","dict_values","dict_items"].any (Value.type "set"==.type ·))=true then do
     rule "list.extend.makes-room"
     Builtin.List.listTouch (.ref C)
     again (.builtin "list.extend.loop" ⟨[.ref C,.ref I,.ref C],[]⟩)
    else again (.builtin "list.extend.loop" ⟨[.ref C,.ref I,.ref C],[]⟩))
    (λqI s'=>match qI with
     | .done f=>(match Except.ok (ε:=ao) f with| .ok (.ret v)=>wpAny (model bu w) A (match v with| .ref a=>(do match(<-load a).data with| .seq xs _=>pure xs.toList|_=>unsupported "internal:collect")|_=>unsupported "internal:collect") Q E s'| .ok _=>False| .error e=>E e s')
     | .again c'=>c'.quiet=true/\codeAny (model bu w) A c' (fun r s'=>match r with| .ok (.ret v)=>wpAny (model bu w) A (match v with| .ref a=>(do match(<-load a).data with| .seq xs _=>pure xs.toList|_=>unsupported "internal:collect")|_=>unsupported "internal:collect") Q E s'| .ok _=>False| .error e=>E e s') s') E {s with heap:=GA,drawn:=agS}:=by
  intro GA agS I fp n O St W hOl hn hCf hst hC2 ha2 hk dQ hIn;refine aN (wo (Um (hO.typ (s:={s with heap:=GA,drawn:=agS}) ha2) ?_));rw[bg (by decide)];refine aN (EE ?_);refine aN ?_;rw[<-WW] at hC2;refine aN (X8 hC2 rfl ?_);have hC3:=mV (Obj.mapSeq (·.push Value.none)) hC2 rfl;refine X8 (hz:=by seq_fits) hC3 rfl ?_;have hC4:=mV (Obj.mapSeq (·.pop)) hC3 rfl;refine cG ⟨BA PySem.F.plain_extend_loop _,?_⟩;have jH:∀b o',b≠C->GA.get? b=some o'->((GA.update C (Obj.mapSeq (·.push Value.none))).update C (Obj.mapSeq (·.pop))).get? b=some o':=λb o' hb e=>
   (Ku _ _ (lq hb)).trans ((Ku _ _ (lq hb)).trans e);refine codeAny_extend_loopS W.toS hn C hCf (.ref C) n 0 _ #[] _ rfl (jU _) (W.frame 0 _ _ hst λb hb o' e=>jH b o' (λq=>hCf (q▸hb)) e) hC4 (ItemsOf.nil _) λs' ag2 c' hm hS' W6=>?_;refine aN (wpAny_load hS' ?_);refine cG ?_;rw[aoE hm.gens hm.os];simp only[<-hOl] at W6;refine h _ _ _ _ (by rw[WB W6];exact dQ) λb o' e=>?_;have hbC:b≠C:=by rw[<-hC];exact lu (g6 e)
  refine hm.heap b o' (λqE=>?_) (jH b o' hbC (hk b o' (gj _ e)));refine fU (bW.mp qE) (λq=>?_) λqE=>?_
  .exact hbC q
  .exact hIn b o' e (ly.mp qE)
 have hhA:A.in1.in1.handled=none:=by with_reducible assumption
 have anK:∀{ps:bF},ps.Perm (List.range es.size)->(ps.map λj=>(es.getD j (0,.none)).2).Perm (es.toList.map (·.2)):=λ{ps} kI=>by refine(kI.map _).trans ?_;rw[aad es]
 refine aN (Uk (s:={s with heap:=s.heap.push l0}) Ef hO (λhp=>?_) λps d' kI=>?_)
 .show wpAny (model bu w) A.in1 _ _ _ {s with heap:=(s.heap.push l0).push (mq (rawInt 0) 0 a es.size ep)}
  rw[jm];have hI:((s.heap.push l0).push (mq (rawInt 0) 0 a es.size ep)).get? (C+1)=some (mq (rawInt 0) 0 a es.size ep):=by rw[<-jm];exact mU _ rfl
  refine tail _ s.drawn (C+1) [C+1,a] es.size (jL w a es ep) _ (TF (knd:=knd) hhA (nB Si) hO hp).of_in1 (by rw[(mz w a es ep).length_eq];exact bw ..) hn (nE Si)
   ⟨gj _ Ef,hI⟩ (gj _ ac8) (gj _ Ef) (λb o' e=>gj _ e) ((mz w a es ep).trans hO.perm) λb o' e=>nD1 (by rw[<-hC];exact g6 e)
 .show wpAny (model bu w) A.in1 _ _ _ {s with heap:=((s.heap.push l0).push (nj ps)).push (mq (.ref (s.heap.push l0).objs.size) 0 a es.size ep),drawn:=d'}
  rw[jm];have hT:((s.heap.push l0).push (nj ps)).get? (C+1)=some (nj ps):=by rw[<-jm];exact mU _ rfl
  have anC:((s.heap.push l0).push (nj ps)).objs.size=C+2:=by rw[Dh,jm]
  have hI:(((s.heap.push l0).push (nj ps)).push (mq (.ref (C+1)) 0 a es.size ep)).get? (C+2)=some (mq (.ref (C+1)) 0 a es.size ep):=by rw[<-anC];exact mU _ rfl
  have hl:(ps.map λj=>(es.getD j (0,Value.none)).2).length=es.size:=by rw[bw,kI.length_eq,iU]
  refine tail _ d' (C+2) [C+2,a,C+1] es.size (ps.map λj=>(es.getD j (0,.none)).2) _ (Lc (knd:=knd) hhA (T:=C+1) (nC Si) nG hO kI).of_in1 hl hn (nF Si)
   ⟨gj _ (gj _ Ef),gj _ hT,hI⟩ (gj _ (gj _ ac8)) (gj _ (gj _ Ef))
   (λb o' e=>gj _ (gj _ e)) ((anK kI).trans hO.perm) λb o' e=>nD2 (by rw[<-hC];exact g6 e)
end
section
open AutoSeq1 (wpAny_loadPart')
open PySem.MeetsSeq3 (plain_eq_loop entry_eq_loop)
noncomputable def l7:cH->cH->Bool
 |[],[]=>false
 |[],_::_=>true
 |_::_,[]=>false
 |a::l,b::m=>if a=b then l7 l m else decide (a<b)
theorem D0 {a b:Int}{l m:cH}:l7 (a::l) (b::m)=if a=b then l7 l m else decide (a<b):=rfl
theorem RE (m:cH):l7 [] m=decide (0<m.length):=by induction m using nU<;>rfl
theorem RD (l:cH):l7 l []=false:=by induction l using nU<;>rfl
theorem AB (h:IntsAre vs ns):∀{i:Nat} {n:Int},ns[i]? =some n->∃t,vs[i]? =some (.int n t):=by
 induction h with
 |nil=>intro i n e;exact aA e
 |cons n t r ih=>
  intro i m e;induction i using O2 with
  |zero=>exact⟨t,aT (λz=>some (Value.int z t)) (mT e)⟩
  |succ i=>exact ih e
theorem aaS (l b:av)(us vs:bC)(xs ys:cH)(n n2:Nat)(hx:IntsAre us xs)(hy:IntsAre vs ys)(k:Nat):
  ∀i:Nat,xs.length+ys.length-(i+i)=k->i<=xs.length->i<=ys.length->Meets (Builtin.«list.__eq__.loop» ⟨[.ref l,.ref b,rawInt i,rawInt 0],[]⟩)
   (fun A R s=>s.heap.get? l=some {cls:=.type "list",data:=.seq us.toArray n}/\s.heap.get? b=some {cls:=.type "list",data:=.seq vs.toArray n2}/\
    R (.ok (.ret (.bool (l7 (xs.drop i) (ys.drop i))))) s):=by
 have hxl:us.length=xs.length:=IntsAre.length hx;have hyl:vs.length=ys.length:=IntsAre.length hy;induction k using Nat.strongRecOn with
 |ind k ih=>
  intro i hk hi1 hi2 bu w A R s h;obtain⟨hp,g,d,tk,os⟩:=s;refine nX h λhl hb h=>?_
  wp_walk using wpAny_loadPart' hl,wpAny_loadPart' hb
  by_cases q1:i<xs.length
  .by_cases q2:i<ys.length
   .refine xE (AB hx (eE q1)) λt1 e1=>?_
    refine xE (AB hy (eE q2)) λt2 e2=>?_;have f1:us.toArray[((i:Nat):Int).toNat]? =some (.int xs[i] t1):=by simpa using e1
    have f2:vs.toArray[((i:Nat):Int).toNat]? =some (.int ys[i] t2):=by simpa using e2
    rw[f1,f2];refine aN ((intKind bu w).eqBool (a:=xs[i]) (b:=ys[i]) (J6 _ _ _ _) (J6 _ _ _ _) ?_);simp only[pQ q1,pQ q2,D0] at h;by_cases q3:xs[i]=ys[i]
    .rw[bg q3] at h
     rw[i6 q3];have hc:((i:Int)+1)=((i+1:Nat):Int):=by push_cast;rfl
     wp_walk
     exact⟨BA plain_eq_loop _,xf entry_eq_loop (by exact ih _ (by omega) (i+1) rfl (by omega) (Nat.succ_le_of_lt q2) bu w A R _ ⟨hl,hb,h⟩)⟩
    .rw[aG q3] at h
     rw[decide_eq_false q3]
     wp_walk using wpAny_loadPart' hl,wpAny_loadPart' hb
     rw[f1,f2];refine aN (lt_int ?_);exact cG h
   .have e0:i=ys.length:=Yi hi2 (qN q2)
    have f2:vs.toArray[((i:Nat):Int).toNat]? =none:=by simp;exact aB (fh hyl) (qN q2)
    rw[f2];have:ys.drop i=[]:=by simp;exact qN q2
    rw[this,RD] at h;have e3:(decide (xs.length<ys.length))=false:=by simp;exact aB (qN q2) hi1
    refine xE (AB hx (eE q1)) λt1 e1=>?_;have f1:us.toArray[((i:Nat):Int).toNat]? =some (.int xs[i] t1):=by simpa using e1
    rw[f1]
    wp_walk using wpAny_loadPart' hl,wpAny_loadPart' hb
    show R (.ok (.ret (.bool (decide (us.toArray.size<vs.toArray.size))))) _;simp only[g7,g7,hxl,hyl,e3];exact h
  .have e0:i=xs.length:=by omega
   have f1:us.toArray[((i:Nat):Int).toNat]? =none:=by simp;omega
   rw[f1];have:xs.drop i=[]:=by simp;omega
   simp only[this,RE,OJ] at h;have e3:(decide (0<ys.length-i))=(decide (xs.length<ys.length)):=by congr 1;apply propext;omega
   wp_walk using wpAny_loadPart' hl,wpAny_loadPart' hb
   show R (.ok (.ret (.bool (decide (us.toArray.size<vs.toArray.size))))) _;simp only[g7,g7,hxl,hyl,<-e3];exact h
theorem Wc (l b:av)(us vs:bC)(xs ys:cH)(n n2:Nat)(hx:IntsAre us xs)(hy:IntsAre vs ys):Meets (Builtin.«list.__lt__» ⟨[.ref l,.ref b],[]⟩)
   (fun A R s=>s.heap.get? l=some {cls:=.type "list",data:=.seq us.toArray n}/\s.heap.get? b=some {cls:=.type "list",data:=.seq vs.toArray n2}/\R (.ok (.ret (.bool (l7 xs ys)))) s):=by
 intro bu w A R s h;obtain⟨hp,g,d,tk,os⟩:=s;refine nX h λhl hb h=>?_;have f3:=AutoSeq1.sub_list_list
 wp_walk using wpAny_loadPart' hl,wpAny_loadPart' hb
 exact⟨BA plain_eq_loop _,xf entry_eq_loop (by exact aaS l b us vs xs ys n n2 hx hy _ 0 rfl (jU _) (jU _) bu w A R _ ⟨hl,hb,by simpa using h⟩)⟩
section
variable {bu:Program}{w:bZ}{A:aQ}{E:aS}{s:cO}
theorem IJ {xs ys:cH}{n n2:Nat}(hu:A.units<cLine)(hl:s.heap.get? l=some {cls:=.type "list",data:=.seq us.toArray n})(hb:s.heap.get? b=some {cls:=.type "list",data:=.seq vs.toArray n2})
  (hx:IntsAre us xs)(hy:IntsAre vs ys)(h:Q (l7 xs ys) s):wpAny (model bu w) A (keyLt' oneType' (.ref l) (.ref b)) Q E s:=by
 dsimp only[keyLt'_oneType,oneLt'_eq];refine aN (wpAny_cRoomFor hu ?_);refine aN (wpAny_callSpecialIfBound?_slot ⟨_,hl,rfl⟩ aed (Bv aed ⟨_,hl,rfl⟩ PySem.F.entry_list_lt (PySem.F.args_list_lt_2 _ _) (Wc l b us vs xs ys n n2 hx hy) ⟨hl,hb,?_⟩));exact adx h
end
end
noncomputable def RT {α:Type}(lt:Nat->Nat->Bool):KasT α->α
 | .ret a=>a
 | .ask i j k=>RT lt (k (lt i j))
noncomputable def kOk {α:Type}(n:Nat):KasT α->Bool
 | .ret _=>true
 | .ask i j k=>Nat.blt i n&&Nat.blt j n&&kOk n (k true)&&kOk n (k false)
theorem I8 {α:Type}{n:Nat}{lt:Nat->Nat->Bool}{cmp:Nat->Nat->(Bool->cO->Prop)->cO->Prop}{Q:α->cO->Prop}{s:cO}(hc:∀i j C,i<n->j<n->C (lt i j) s->cmp i j C s):
  ∀(t:KasT α),kOk n t=true->Q (RT lt t) s->t.kasWp cmp Q s
 | .ret a,_,h=>h
 | .ask i j k,hk,h=>by
  unfold kOk at hk;simp only[iK,Oj] at hk;refine xA hk λz0 h4=>xA z0 λz1 h3=>xA z1 λh1 h2=>hc i j _ h1 h2 (I8 hc (k (lt i j)) ?_ h);cases lt i j
  .exact h4
  .exact h3
noncomputable def s9 (n:Nat):Nat->pT
 |0=>[[]]
 |m+1=>(s9 n m).flatMap λl=>(List.range n).map λr=>r::l
theorem sZ (n:Nat):∀(m:Nat) (l:bF),l.length=m->(∀r∈l,r<n)->l∈s9 n m
 |0,l,h,_=>by have:=Kv.mp h;rw[this];exact .head _
 |m+1,[],h,_=>by cases h
 |m+1,r::l,h,hr=>by unfold s9;rw[List.mem_flatMap];exact⟨l,sZ n m l (by simpa using h) λx hx=>hr x (.tail _ hx),bN.mpr ⟨r,dh.mpr (hr r (.head _)),rfl⟩⟩
noncomputable def yI:bF->Bool
 |a::b::l=>Nat.ble a b&&yI (b::l)
 |_=>true
noncomputable def alj (n:Nat)(rs:bF):Bool:=
 let p:=(RT (λi j=>Nat.blt (rs.getD i 0) (rs.getD j 0)) (kas_sort n)).toList
 p.isPerm (List.range n)&&yI (p.map λi=>rs.getD i 0)
noncomputable def VX (rs:bF):Bool:=rs.all λr=>Nat.beq (rs.countP λx=>Nat.blt x r) r
noncomputable def chk (n:Nat):Bool:=kOk n (kas_sort n)&&(s9 n n).all λrs=> !VX rs||alj n rs
theorem aoY:chk 2=true:=by kernel_rfl
theorem aoX:chk 3=true:=by kernel_rfl
theorem aoW:chk 4=true:=by kernel_rfl
theorem aoV:chk 5=true:=by kernel_rfl
theorem iB:∀l:cH,l7 l l=false
 |[]=>rfl
 |a::l=>by rw[D0,bg rfl];exact iB l
theorem jC:∀a b c:cH,l7 a b=true->l7 b c=true->l7 a c=true
 |[],[],_,h,_=>g5 h
 |[],_::_,[],_,h=>g5 h
 |[],_::_,_::_,_,_=>rfl
 |_::_,[],_,h,_=>g5 h
 |_::_,_::_,[],_,h=>g5 h
 |a::l,b::m,c::n,h1,h2=>by
  rw[D0] at h1 h2 ⊢;by_cases e1:a=b
  .subst e1
   rw[bg rfl] at h1;by_cases e2:a=c
   .rw[bg e2] at h2 ⊢;exact jC l m n h1 h2
   .rw[aG e2] at h2 ⊢;exact h2
  .rw[aG e1] at h1
   have h1:=jx h1;by_cases e2:b=c
   .subst e2;rw[aG e1];exact i6 h1
   .rw[aG e2] at h2
    have h2:=jx h2;rw[aG (by omega)];exact i6 (Int.lt_of_le_of_lt (Int.le_of_lt h1) h2)
theorem lN:∀a b:cH,l7 a b=true\/a=b\/l7 b a=true
 |[],[]=> .inr (.inl rfl)
 |[],_::_=> .inl rfl
 |_::_,[]=> .inr (.inr rfl)
 |a::l,b::m=>by
  rw[D0,D0];by_cases e:a=b
  .subst e
   rw[bg rfl,bg rfl];rcases lN l m with h|h|h
   .exact .inl h
   .exact .inr (.inl (by rw[h]))
   .exact .inr (.inr h)
  .rw[aG e,aG (λq=>e q.symm)]
   rcases Int.lt_or_gt_of_ne e with h|h
   .exact .inl (i6 h)
   .exact .inr (.inr (i6 h))
noncomputable def rk (xs:B6)(x:cH):Nat:=xs.countP λy=>l7 y x
theorem vU {α:Type}(p q:α->Bool):∀(l:List α),(∀x∈l,p x=true->q x=true)->(∃x∈l,p x=false/\q x=true)->l.countP p<l.countP q
 |[],_,⟨_,h,_⟩=>aR h
 |a::l,h1,h2=>by
  have hle:l.countP p<=l.countP q:=ad3 λx hx=>h1 x (.tail _ hx);simp only[List.countP_cons,List.countP_cons];refine gb h2 λx hx hp hq=>clear% h2;?_;rcases bW.mp hx with rfl|hx
  .simp[hp,hq];exact qO hle
  .have:=vU p q l (λx hx=>h1 x (.tail _ hx)) ⟨x,hx,hp,hq⟩
   have h3:=h1 a (.head _);cases hpa:p a
   .cases q a<;>simp<;>omega
   .rw[h3 hpa];simp;omega
theorem Vm (hx:x∈xs):rk xs x<rk xs y↔l7 x y=true:=by
 constructor
 .intro h
  rcases lN x y with q|q|q
  .exact q
  .subst q;simp_all
  .have:rk xs y<=rk xs x:=ad3 λz w hz=>jC _ _ _ hz q
   omega
 .intro h
  exact vU _ _ xs (λz w hz=>jC _ _ _ hz h) ⟨x,hx,iB x,h⟩
theorem Vn (hx:x∈xs):rk xs x<xs.length:=by have:rk xs x<xs.countP λz=>true:=vU _ _ xs (λz z z=>rfl) ⟨x,hx,iB x,rfl⟩;simp_all
theorem sS:∀{l:bF},yI l=true->l.Pairwise (·<= ·)
 |[],_=> .nil
 |[a],_=>OW _ _
 |a::b::l,h=>by
  unfold yI at h;simp only[iK,Nat.ble_eq] at h;have ih:=sS h.2;refine J1.mpr ⟨λy hy=>?_,ih⟩;rcases bW.mp hy with rfl|hy
  .exact h.1
  .exact aB h.1 ((J1.mp ih).1 y hy)
noncomputable def D3 (xs:B6)(i j:Nat):Bool:=l7 (xs.getD i []) (xs.getD j [])
theorem D9 {α:Type}{n:Nat}{f g:Nat->Nat->Bool}(h:∀i j,i<n->j<n->f i j=g i j):∀(t:KasT α),kOk n t=true->RT f t=RT g t
 | .ret a,_=>rfl
 | .ask i j k,hk=>by
  unfold kOk at hk;simp only[iK,Oj] at hk;refine xA hk λz0 h4=>xA z0 λz1 h3=>xA z1 λh1 h2=>?_;show RT f (k (f i j))=RT g (k (g i j));rw[h i j h1 h2];refine D9 h _ ?_;cases g i j
  .exact h4
  .exact h3
theorem RS (xs:B6)(h2:2<=xs.length)(h5:xs.length<=5):kOk xs.length (kas_sort xs.length)=true/\
  (RT (D3 xs) (kas_sort xs.length)).toList.Perm (List.range xs.length)/\((RT (D3 xs) (kas_sort xs.length)).toList.map λi=>xs.getD i []).Pairwise (λa b=>l7 b a=false):=by
 have agz:chk xs.length=true:=by
  have:xs.length=2\/xs.length=3\/xs.length=4\/xs.length=5:=by omega
  rcases this with e|e|e|e<;>rw[e]
  .exact aoY
  .exact aoX
  .exact aoW
  .exact aoV
 unfold chk at agz;simp only[iK] at agz;refine xA agz λuU aok=>⟨uU,?_⟩;have qE:∀{i},i<xs.length->xs.getD i []∈xs:=λ{i} hi=>by rw[dS,eE hi,jV];exact jj hi
 let rs:=xs.map (rk xs);have hrl:rs.length=xs.length:=bw ..;have hrg:∀{i},i<xs.length->rs.getD i 0=rk xs (xs.getD i []):=λ{i} hi=>by simp[rs,dS,eE hi]
 have hr:=j8.mp aok rs (sZ _ _ _ hrl λr hr=>by
  refine aq (bN.mp hr) λx hx z0=>?_;subst z0;exact Vn hx);have aka:VX rs=true:=by
  unfold VX;rw[j8];intro r hr;refine aq (bN.mp hr) λx hx z1=>?_;subst z1;rw[Nat.beq_eq];show(xs.map (rk xs)).countP _=_;rw[List.countP_map];show _=xs.countP _;refine List.countP_congr λy hy=>?_;rw[Oj];exact Vm hy
 rw[aka] at hr;simp only[Bool.not_true,Bool.false_or] at hr;unfold alj at hr;have e:RT (λi j=>Nat.blt (rs.getD i 0) (rs.getD j 0)) (kas_sort xs.length)=RT (D3 xs) (kas_sort xs.length):=D9 (λi j hi hj=>by rw[hrg hi,hrg hj,qM,Oj];exact Vm (qE hi)) _ uU;rw[e] at hr;simp only[iK] at hr;refine xA hr λhp hs=>?_;have hp:=List.isPerm_iff.mp hp;refine⟨hp,?_⟩;have hs:=sS hs;rw[J0] at hs ⊢;refine hs.imp_of_mem λ{i j} hi hj hle=>?_;have hi:=dh.mp (hp.mem_iff.mp hi);have hj:=dh.mp (hp.mem_iff.mp hj);rw[hrg hi,hrg hj] at hle;induction q:l7 (xs.getD j []) (xs.getD i []) using pR with
 |false=>rfl
 |true=>have:=(Vm (xs:=xs) (qE hj)).mpr q;omega
inductive KQ (x:aa) (v:ao):eX->eX->Prop
 |here {ov r}:KQ x v ((x,ov)::r) ((x,some v)::r)
 |there {p r r'}:KQ x v r r'->KQ x v (p::r) (p::r')
theorem KQ.keys (p:KQ x v V V'):V'.map (·.1)=V.map (·.1):=by
 induction p with
 |here=>rfl
 |there z ih=>simp only[fJ,ih]
theorem KQ.has (p:KQ x v V V'):∃ov,(x,ov)∈V:=by
 induction p with
 |here=>exact⟨_,.head _⟩
 |there z ih=>exact ih.imp λz h=> .tail _ h
theorem KQ.mem (p:KQ x v V V')(nd:(V.map (·.1)).Nodup):∀{y ou},(y,ou)∈V'->(y=x/\ou=some v)\/(y≠x/\(y,ou)∈V):=by
 induction p with
 | @here ov r=>
  intro y ou h;rcases bW.mp h with e|h2
  .clear nd h;cases e;exact .inl ⟨rfl,rfl⟩
  .refine .inr ⟨λq=>?_,.tail _ h2⟩
   refine(j7.mp nd).1 (bN.mpr ⟨_,h2,?_⟩);exact q
 | @there p r r' hp ih=>
  intro y ou h;refine xA (j7.mp nd) λh1 h2=>?_;rcases bW.mp h with e|h
  .refine .inr ⟨λq=>?_,e▸.head _⟩
   refine xE (hp.has) λov hx=>h1 ?_;have:p.1=x:=(e).symm▸q;simp only[this];exact bN.mpr ⟨_,hx,rfl⟩
  .refine fU (ih h2 h) (λq=>?_) λq=>?_
   .exact .inl q
   .exact .inr ⟨q.1,.tail _ q.2⟩
noncomputable def ja (x:aa):Bool:=x !=("__debug__":aa)&&x !=("__classdict__":aa)
noncomputable def Ej (P:aY)(x:aa)(v:ao):Bool:=match nsIn (K P) mainGlobals x with
 |some (some u)=>u==v
 |some none=>bootBuiltins x==some v&&x !=("__name__":aa)
 |none=>false
noncomputable def wU (P:aY):ao->Bool
 | .ref a=>keepIn (K P) (.ref a)
 |_=>true
structure Cx (w:bZ) (hb:Heap):Prop where
 K:(K w.params).In hb
 g:∃mg,hb.Ns mainGlobals mg
 b:∃mb,hb.Ns builtinsNs mb/\∀x:aa,x≠ "__name__"->mb x=bootBuiltins x
 lim:hb.NoLimit
structure dH (fr:Fm) (gl:dU):Prop where
 cx:Cx fr.w fr.hb
 gl:∀p∈gl,fr.e.kindOf p.1=some .globalImplicit/\Ej fr.w.params p.1 p.2=true/\ja p.1=true/\wU fr.w.params p.2=true
 names:∀x,(∃k,fr.e.kindOf x=some k/\(k=.local\/k=.cell\/k=.free))->ja x=true
 mt:True
structure WrV (fr:Fm) (x:aa):Prop where
 lo:¬cW fr.h₀ fr.e.locals/\fr.e.locals∉fr.mt
 wr:∀c,fr.e.cells.lookup x=some c->¬cW fr.h₀ c/\c∉fr.mt
def iL (fr:Fm):Prop:=∀x,WrV fr x
section
variable {fr:Fm}{A:aQ}{α β:Type}{E:aS}{σ:S}{F:ah}{V V':eX}{own:cN}{gl:dU}
theorem oX (h:ja x=true):(x==("__debug__":aa))=false:=by have:=(J2.mp h).1;exact fH ((λ{x y}=>Bool.not_inj_iff.mp) (id (fH this)))
theorem FH (h:ja x=true):(x==("__classdict__":aa))=false:=by have:=(J2.mp h).2;exact fH ((λ{x y}=>Bool.not_inj_iff.mp) (id (fH this)))
theorem EW (hf:dH fr gl)(hx:(x,some v)∈V)(h:Q v ⟨F,V,own⟩):T fr A (loadName fr.e x) E ⟨F,V,own⟩ Q:=by
 refine T.of λhp d tk st Q' k=>?_;rcases st.vars.kinds x _ hx with e|e|e
 .exact aq (st.vars.loc) λm hm hv=>wpAny_loadName_local st.env.kind e hm (hv x v hx e) (k _ _ h)
 .refine jF (st.vars.Oa x _ hx (.inl e)) λc hc ov fF R7=>?_
  obtain rfl:=R7 v rfl;exact wpAny_loadName_cell st.env.kind e hc fF (k _ _ h)
 .refine jF (st.vars.Oa x _ hx (.inr e)) λc hc ov fF R7=>?_
  obtain rfl:=R7 v rfl;exact wpAny_loadName_free st.env.kind e hc fF (k _ _ h) (FH (hf.names x ⟨_,e,.inr (.inr rfl)⟩))
theorem MM (h:T fr A (loadName fr.e x) E σ Q)(hd:ja x=true):T fr A (eval (.Name x pos) fr.e) E σ Q:=λhp d tk st=>
 wpAny_Name (h hp d tk st) (oX hd)
theorem dF (hf:dH fr gl)(hx:(x,some v)∈V)(h:Q v ⟨F,V,own⟩):T fr A (eval (.Name x pos) fr.e) E ⟨F,V,own⟩ Q:=λhp d tk st=>
 MM (EW hf hx h) (hf.names x (by
  rcases st.vars.kinds x _ hx with e|e|e
  .exact⟨_,e,.inl rfl⟩
  .exact⟨_,e,.inr (.inl rfl)⟩
  .exact⟨_,e,.inr (.inr rfl)⟩)) hp d tk st
theorem iM (hf:dH fr gl)(hx:(x,v)∈gl)(h:Q v σ):T fr A (eval (.Name x pos) fr.e) E σ Q:=by
 refine T.of λhp d tk st Q' k=>kU (hf.gl _ hx) λhk hv hn _=>xE (hf.cx.g) λmg hg=>aq (hf.cx.b) λmb hb hbv=>?_;have e1:fr.e.globals=mainGlobals:=st.env.glob;have e2:fr.e.builtins=builtinsNs:=st.env.XC;have hg':hp.Ns fr.e.globals mg:=e1▸hg.keeps st.keep;unfold Ej at hv;split at hv
 .rename_i u hu
  have:=eH.mp hv;clear hx hb hbv e1 e2 hv;subst this;exact OO st.env.kind hk (adp hg' (mg_of hf.cx.K hg hu) (k _ _ h)) (oX hn)
 .rename_i hu
  refine xA (J2.mp hv) λb1 b2=>?_;have jr:x≠("__name__":aa):=bne_iff_ne.mp b2;exact OO st.env.kind hk (adz hg' (mg_none_of hf.cx.K hg hu) (e2▸hb.keeps st.keep) ((hbv x jr).trans (eH.mp b1)) (k _ _ h)) (oX hn)
 .exact g5 hv
theorem St.rO {a:av}(st:St fr ⟨F,V,own⟩ hp)(hsb:Heap.SameBut a hp h')(haF:F a=none)(hlo:¬cW fr.h₀ a/\a∉fr.mt)(R5:∀p∈own,p.1≠a)
  (hv:alD fr V' h')(hc:∀y c,fr.e.cells.lookup y=some c->∃ov,h'.IsCell c ov):St fr ⟨F,V',own⟩ h':=by
 have keep:∀b o,b≠a->hp.get? b=some o->h'.get? b=some o:=λb o q e=>(hsb.2 b q).trans e;refine⟨λb o e=>keep b o (λq=>?_) (st.keep b o e),st.kb,st.mg,λb hb=>xE (st.Rz b hb) λo e=>⟨o,keep b o (λq=>hlo.2 (q▸hb)) e⟩,λb o hb e=>?_,st.gr,λb c e=>?_,λq hq=>?_,st.nd,st.env,hv,st.fY,λy c e=>⟨(st.dM y c e).1,(st.dM y c e).2.1,hc y c e⟩⟩
 .cases q;exact hlo.1 (st.kb _ ⟨o,e⟩)
 .exact aq (st.ext b o hb e) λo' e' r=>⟨o',keep b o' (λq=>by subst q;exact hlo.1 ⟨o,e⟩) e',r⟩
 .exact gy (st.sees b c e) λl o e' k=>⟨l,o,keep b o (λq=>by subst q;have e2:F b=some c:=e;rw[haF] at e2;exact aA e2) e',k⟩
 .exact b8 (st.own q hq) λx1 x2 x3 o e' k=>⟨x1,x2,x3,o,keep _ o (R5 q hq) e',k⟩
theorem St.ae3 (hw:WrV fr x)(st:St fr ⟨F,V,own⟩ hp)(p:KQ x v V V')(hk:fr.e.kindOf x=some .local)(s:Heap.SameBut fr.e.locals hp h')
  (hn:∀m,hp.Ns fr.e.locals m->h'.Ns fr.e.locals (λy=>if y=x then some v else m y)):St fr ⟨F,V',own⟩ h':=by
 have jr:∀y c,fr.e.cells.lookup y=some c->c≠fr.e.locals:=λy c e=>st.env.ne y c e;refine st.rO s st.fY.1 hw.lo st.fY.2 ⟨?_,λy ov hy NV=>?_,λy ov hy=>?_,by rw[p.keys];exact st.vars.nd⟩ λy c e=>?_
 .refine aq (st.vars.loc) λm hm hv=>⟨_,hn m hm,λy u hy NV=>?_⟩
  clear hw hk s hn hm;rcases p.mem st.vars.nd hy with⟨rfl,e⟩|⟨jr,GB⟩
  .simp only[if_true];exact e.symm
  .rw[aG jr];exact hv y u GB NV
 .clear hw hn;rcases p.mem st.vars.nd hy with⟨rfl,e⟩|⟨_,GB⟩
  .rcases NV with q|q<;>rw[hk] at q<;>cases q
  .exact jF (st.vars.Oa y ov GB NV) λc hc Fz fF R7=>(pH c hc Fz (fF.sameBut s (jr y c hc)) R7)
 .clear hw hk s hn jr;rcases p.mem st.vars.nd hy with⟨rfl,e⟩|⟨_,GB⟩
  .obtain⟨ov0,h0⟩:=p.has
   exact st.vars.kinds _ _ h0
  .exact st.vars.kinds _ _ GB
 .obtain⟨ov,fF⟩:=(st.dM y c e).2.2
  exact⟨ov,fF.sameBut s (jr y c e)⟩
theorem St.ae4 (hw:WrV fr x)(st:St fr ⟨F,V,own⟩ hp)(p:KQ x v V V')(hk:fr.e.kindOf x≠some .local)(w7:fr.e.cells.lookup x=some JL)(s:Heap.SameBut JL hp h')
  (hn:h'.IsCell JL (some v)):St fr ⟨F,V',own⟩ h':=by
 refine st.rO s (st.dM x JL w7).1 (hw.wr JL w7) (st.dM x JL w7).2.1 ⟨?_,λy ov hy NV=>?_,λy ov hy=>?_,by rw[p.keys];exact st.vars.nd⟩ λy c e=>?_
 .refine aq (st.vars.loc) λm hm hv=>⟨m,hm.sameBut s (lq (st.env.ne x JL w7)),λy u hy NV=>?_⟩
  clear hw w7 s hn hm;rcases p.mem st.vars.nd hy with⟨rfl,e⟩|⟨_,GB⟩
  .exact absurd NV hk
  .exact hv y u GB NV
 .clear hw hk;rcases p.mem st.vars.nd hy with⟨rfl,e⟩|⟨jr,GB⟩
  .exact(pH JL w7 (some v) hn (λu hu=>by rw[e] at hu;exact hu))
  .exact jF (st.vars.Oa y ov GB NV) λc hc Fz fF R7=>(pH c hc Fz (fF.sameBut s (λq=>jr (st.env.inj y x c hc (q▸w7)))) R7)
 .clear hw hk w7 s hn;rcases p.mem st.vars.nd hy with⟨rfl,e⟩|⟨_,GB⟩
  .obtain⟨ov0,h0⟩:=p.has
   exact st.vars.kinds _ _ h0
  .exact st.vars.kinds _ _ GB
 .by_cases q:c=JL
  .exact⟨some v,q▸hn⟩
  .exact xE ((st.dM y c e).2.2) λov fF=>⟨ov,fF.sameBut s q⟩
theorem uQ (hw:WrV fr x)(p:KQ x v V V')(h:Q () ⟨F,V',own⟩):T fr A (storeName fr.e x v) E ⟨F,V,own⟩ Q:=by
 intro hp d tk st;refine xE (p.has) λov0 h0=>?_;have kd:fr.e.scope.kind=.function:=st.env.kind;rcases st.vars.kinds x _ h0 with e|e
 .refine aq (st.vars.loc) λm hm z=>wpAny_storeName_local e hm (λh' hn hs=>(af h' d (tk+1) _ rfl (st.ae3 hw p e hs λm' hm'=>?_) h)) (kd▸rfl)
  have:m'=m:=by refine gw hm λo es ep ho hd z hf=>gw hm' λo' uW mQ CZ Sf z hf'=>?_;rw[ho] at CZ;cases CZ;funext n;exact Heap.Ns.agree hm' hm n
  exact this▸hn
 .have hck:fr.e.kindOf x=some .cell\/fr.e.kindOf x=some .free:=e
  refine jF (st.vars.Oa x _ h0 e) λc hc Fz fF z=>?_;have Th:fr.e.kindOf x≠some .local:=by rcases e with q|q<;>rw[q]<;>decide
  have tail:wpAny (model pw fr.w) A (cellSet c (some v)) (λa s'=>∃(h':Heap) (d':Drawn) (cX:Nat) (σ':S),s'=⟨h', #[],d',cX,fr.os⟩/\St fr σ' h'/\Q a σ') E ⟨hp, #[],d,tk,fr.os⟩:=
   wpAny_cellSet fF λh' ju hs=>(af h' d tk _ rfl (st.ae4 hw p Th hc hs ju) h);unfold storeName;rcases e with e|e<;>rw[e,kd]<;>exact aN (wpAny_cellOf hc tail)
theorem yT (hw:iL fr)(p:KQ x v V V')(h:Q () ⟨F,V',own⟩):T fr A (storeName fr.e x v) E ⟨F,V,own⟩ Q:=uQ (hw x) p h
end
structure cC (A:aQ) (n:Nat):Prop where
 depth:A.depth+n<recursionLimit
 units:A.units+10*n<cLine
 handled:A.handled=none
 frames:∃l,A.frames=some l
theorem cC.deeper (r:cC A (n+1))(e:Env):cC (A.deeper e) n:=
 ⟨by have:=r.depth;show A.depth+1+n<_;omega,by have:=r.units;show A.units+3+10*n<_;omega,r.handled,by obtain⟨l,h⟩:=r.frames;exact⟨e::l,by show A.frames.map _=_;rw[h];rfl⟩⟩
theorem cC.le (r:cC A m)(h:n<=m):cC A n:=⟨by have:=r.depth;omega,by have:=r.units;omega,r.handled,r.frames⟩
structure ao6 (f:av) (fd:FuncData) (body:fc):Prop where
 look:∀P,(K P).lookup f=some ⟨.type "function",none,.func fd, #[]⟩
 code:∀P,codeIn (K P) fd.code fd.qualname=true
 body:fd.body=.stmts body
 clo:fd.closure=[]
 glob:fd.globals=mainGlobals
 XC:fd.builtins=builtinsNs
 co:fd.scope.isCoroutine=false
 gen:fd.scope.isGenerator=false
 kind:fd.scope.kind=.function
noncomputable def FN (P:aY)(sc:eO)(vs:ay)(gl:dU):Bool:=
 vs.all (λx=>(sc.names.lookup x==some .local||sc.names.lookup x==some .cell)&&ja x)&&
 gl.all (λp=>sc.names.lookup p.1==some .globalImplicit&&Ej P p.1 p.2&&ja p.1&&wU P p.2)&&
 sc.names.all (λp=>ja p.1)
theorem dB {α:Type}:∀{l:List (aa×α)} {n:aa} {c:α},l.lookup n=some c->(n,c)∈l
 |[],_,_,h=>by cases h
 |(k,v)::r,n,c,h=>by
  simp only[OL] at h;split at h
  .rename_i q;cases h;rw[eH.mp q];exact .head _
  .exact .tail _ (dB h)
theorem EA {kindOf:aa->Option NameKind}:∀{Bm:dU} {m:aa->nV} {x:aa} {v:ao},(Bm.map (·.1)).Nodup->(x,v)∈Bm->kindOf x=some .local->bindL kindOf Bm m x=some v
 |(n,u)::r,m,x,v,nd,h,hk=>by
  refine xA (j7.mp nd) λh1 h2=>?_;unfold bindL;rcases bW.mp h with e|h
  .cases e
   rw[bg hk];have:∀(l:dU) (m':aa->nV),n∉l.map (·.1)->m' n=some u->bindL kindOf l m' n=some u:=by
    intro l;induction l with
    |nil=>intro m' z e;exact e
    |cons p l ih=>
     obtain⟨n',u'⟩:=p;intro m' hn e;unfold bindL;have h1:n≠n':=λq=>hn (q▸.head _);have h2:n∉l.map (·.1):=λq=>hn (.tail _ q);refine ih _ h2 ?_;split
     .simp only[aG h1];exact e
     .exact e
   exact this r _ h1 (bg rfl)
  .exact EA h2 h hk
theorem EB {kindOf:aa->Option NameKind}:∀{Bm:dU} {m:aa->nV} {x:aa} {v:ao},(Bm.map (·.1)).Nodup->(x,v)∈Bm->kindOf x≠some .local->bindC kindOf Bm m x=some v
 |(n,u)::r,m,x,v,nd,h,hk=>by
  refine xA (j7.mp nd) λh1 h2=>?_;unfold bindC;rcases bW.mp h with e|h
  .cases e
   rw[aG hk];have:∀(l:dU) (m':aa->nV),n∉l.map (·.1)->m' n=some u->bindC kindOf l m' n=some u:=by
    intro l;induction l with
    |nil=>intro m' z e;exact e
    |cons p l ih=>
     obtain⟨n',u'⟩:=p;intro m' hn e;unfold bindC;have h1:n≠n':=λq=>hn (q▸.head _);have h2:n∉l.map (·.1):=λq=>hn (.tail _ q);refine ih _ h2 ?_;split
     .exact e
     .simp only[aG h1];exact e
   exact this r _ h1 (bg rfl)
  .exact EB h2 h hk
abbrev Le (F F':ah):Prop:=∀a c,F a=some c->F' a=some c
theorem Le.refl (F:ah):Le F F:=λz z e=>e
theorem Le.trans (x:Le F F')(y:Le F' ZL):Le F ZL:=λa c e=>y a c (x a c e)
noncomputable def kK:Flow->ao
 | .ret v=>v
 |_=> .none
section
variable {fr:Fm}{A:aQ}{E:aS}{F:ah}{V:eX}{own:cN}{gl gl':dU}
theorem St.back {F':ah}{V':eX}{own':cN}(st:St fr ⟨F,V,own⟩ h)(cI:St aP ⟨F',V',own'⟩ h')(e1:aP.w=fr.w)(e2:aP.hb=fr.hb)(e3:aP.h₀=h)(e4:aP.F₀=F)(e5:aP.mt=[]):
  St fr ⟨F',V,own⟩ h':=by
 have gr:=cI.gr;simp only[e3,e4] at gr;have x:Stp fr.mt [] F h h':=⟨(λa ha=>nomatch ha),λa o z e=>by have:=cI.ext a o (by rw[e5];exact λq=>nomatch q) (by rw[e3];exact e);rwa [e4] at this⟩;refine st.step (M:=[]) x (λa ha=>nomatch ha) gr (λa c e=>by have:=cI.sees a c e;rwa [e1,e2] at this) (λp hp=>?_) st.nd;exact b8 (st.own p hp) λa1 a2 a3 o a4 a5=>⟨⟨a1,a3,st.fY.2 p hp,λy c e=>(st.dM y c e).2.1 p hp⟩,(gr.old _ ⟨_,a4⟩).trans a2,o,x.same (λq=>nomatch q) a2 a4,a5⟩
end
section
variable {fr:Fm}{A:aQ}{α β:Type}{E:aS}{σ:S}{F:ah}{V V':eX}{own:cN}{gl:dU}
theorem T.bG (x:T fr A t E σ Q)(st:St fr σ hp)(h:∀a h' d' cX σ',St fr σ' h'->Q a σ'->P a ⟨h', #[],d',cX,fr.os⟩):
  wpAny (model pw fr.w) A t P E ⟨hp, #[],d,tk,fr.os⟩:=
 fk (x hp d tk st) (λa s' z0=>gv z0 λh' d' cX σ' e cI q=>clear% z0;by rw[e];exact h a h' d' cX σ' cI q) λz z y=>y
theorem T.cps (x:T fr A t E σ λa σ'=>∀h' d' cX,St fr σ' h'->P a ⟨h', #[],d',cX,fr.os⟩){hp:Heap}{d:Drawn}{tk:Nat}(st:St fr σ hp):
  wpAny (model pw fr.w) A t P E ⟨hp, #[],d,tk,fr.os⟩:=x.bG st λz h' d' cX z cI q=>q h' d' cX cI
theorem gM (h:Q .next σ):T fr A (execs [] fr.e) E σ Q:=λhp d tk st=>wpAny_execs_nil (af hp d tk σ rfl st h)
def apa (fr:Fm)(A:aQ)(E:aS)(rest:fc)(Q:Flow->S->Prop):Flow->S->Prop
 | .next,σ'=>T fr A (execs rest fr.e) E σ' Q
 |f,σ'=>Q f σ'
theorem bq (h:T fr A (exec ZY fr.e) E σ (apa fr A E rest Q)):T fr A (execs (ZY::rest) fr.e) E σ Q:=λhp d tk st=>
 wpAny_execs_cons (h.bG st λf h' d' cX σ' cI q=>by induction f using Zc3<;>first|exact q h' d' cX cI|exact⟨h',d',cX,σ',rfl,cI,q⟩)
theorem BQ (e:l=ZY::rest)(h:T fr A (execs (ZY::rest) fr.e) E σ Q):T fr A (execs l fr.e) E σ Q:=e▸h
theorem ag9 {Q:Flow->S->Prop}
  (h:T fr A (isTrue qz fr.e (eval qz fr.e)) E σ λb σ'=>if b then T fr A (execs body fr.e) E σ' Q else T fr A (execs bH fr.e) E σ' Q):T fr A (exec (.If qz body bH pos) fr.e) E σ Q:=λhp d tk st=>
 wpAny_If (h.bG st λb h' d' cX σ' cI q=>by induction b using pR<;>exact q h' d' cX cI)
theorem BS (h:T fr A (eval e fr.e) E σ λv σ'=>Q (.ret v) σ'):T fr A (exec (.Return (some e) pos) fr.e) E σ Q:=λhp d tk st=>
 wpAny_Return_some (h.bG st λv h' d' cX σ' cI q=>(af h' d' cX σ' rfl cI q))
theorem ag8 (h:Q .next σ):T fr A (exec (.Pass pos) fr.e) E σ Q:=λhp d tk st=>wpAny_Pass (af hp d tk σ rfl st h)
theorem Zd (h:T fr A (eval e fr.e) E σ λz σ'=>Q .next σ')(hi:fr.e.scope.kind=.function)(hs:autoParam (swapsWith e none pos.line fr.e=pure false) wu):T fr A (exec (.Expr e pos) fr.e) E σ Q:=λhp d tk st=>
 wpAny_Expr_any (h.bG st λv h' d' cX σ' cI q=>(af h' d' cX σ' rfl cI q)) (by unfold interactive;rw[hi];rfl) hs
theorem mX
  (h:T fr A (eval value fr.e) E σ λv σ'=>T fr A (storeName fr.e x v) E σ' λz jE=>Q .next jE)
  (hs:autoParam (swapsWith value (some (.Name x pos')) pos.line fr.e=pure false) wu):T fr A (exec (.Assign [.Name x pos'] value pos) fr.e) E σ Q:=λhp d tk st=>
 wpAny_Assign_Name (h.bG st λv h' d' cX σ' cI q=>(q.bG cI λz h'' d'' PB jE ae6 q'=>(af h'' d'' PB jE rfl ae6 q'))) hs
theorem SS {Q:Flow->S->Prop}
  (h:T fr A (loadName fr.e x) E σ λold dj=>T fr A (eval value fr.e) E dj λv iV=>T fr A (inplaceOp op old v) E iV λr sO=>T fr A (storeName fr.e x r) E sO λz HE=>Q .next HE):
  T fr A (exec (.AugAssign (.Name x pos') op value pos) fr.e) E σ Q:=λhp d tk st=>
 wpAny_AugAssign_Name (h.bG st λz z z z z s1 q1=>q1.bG s1 λz z z z z s2 q2=>q2.bG s2 λz z z z z s3 q3=>q3.bG s3 λz h4 d4 t4 σ4 s4 q4=>(af h4 d4 t4 σ4 rfl s4 q4))
theorem dc {Q:Flow->S->Prop}
  (h:T fr A (eval value fr.e) E σ λv dj=>T fr A (eval o fr.e) E dj λov iV=>T fr A (setAttr ov wm v) E iV λz sO=>Q .next sO)
  (hs:autoParam (swapsWith value (some (.Attribute o wm pos')) pos.line fr.e=pure false) wu):T fr A (exec (.Assign [.Attribute o wm pos'] value pos) fr.e) E σ Q:=λhp d tk st=>
 plainObj_wpAny_Assign_Attribute (h.bG st λz z z z z s1 q1=>q1.bG s1 λz z z z z s2 q2=>q2.bG s2 λz h4 d4 t4 σ4 s4 q4=>(af h4 d4 t4 σ4 rfl s4 q4)) hs
theorem xm {value:aD}{Q:Flow->S->Prop}
  (h:T fr A (eval value fr.e) E σ λv dj=>T fr A (eval o fr.e) E dj λov iV=>T fr A (eval i fr.e) E iV λiv sO=>T fr A (setItem ov iv v) E sO λz HE=>Q .next HE)
  (hs:autoParam (swapsWith value (some (.Subscript o i pos')) pos.line fr.e=pure false) wu):T fr A (exec (.Assign [.Subscript o i pos'] value pos) fr.e) E σ Q:=λhp d tk st=>
 wpAny_Assign_Subscript (h.bG st λz z z z z s1 q1=>q1.bG s1 λz z z z z s2 q2=>q2.bG s2 λz z z z z s3 q3=>q3.bG s3 λz h4 d4 t4 σ4 s4 q4=>(af h4 d4 t4 σ4 rfl s4 q4)) hs
theorem Ze {value:aD}{Q:Flow->S->Prop}
  (h:T fr A (eval o fr.e) E σ λov dj=>T fr A (eval i fr.e) E dj λiv iV=>T fr A (getItem ov iv) E iV λold sO=>T fr A (eval value fr.e) E sO λv HE=>T fr A (inplaceOp op old v) E HE λnw ah2=>
   T fr A (setItem ov iv nw) E ah2 λz ah1=>Q .next ah1)
  (ha:autoParam (∀ov iv new,augStore i ov iv new=(do holding [new,ov,iv] (setItem ov iv new);release [new,ov,iv] [];pure .next)) wu):T fr A (exec (.AugAssign (.Subscript o i pos') op value pos) fr.e) E σ Q:=λhp d tk st=>
 wpAny_AugAssign_Subscript_any (h.bG st λz z z z z s1 q1=>q1.bG s1 λz z z z z s2 q2=>q2.bG s2 λz z z z z s3 q3=>q3.bG s3 λz z z z z s5 q5=>q5.bG s5 λz z z z z s6 q6=>q6.bG s6 λz h4 d4 t4 σ4 s4 q4=>(af h4 d4 t4 σ4 rfl s4 q4)) ha
theorem alE (h:∀t,Q (.int i t) σ):T fr A (eval (.Constant (.int i) k pos) fr.e) E σ Q:=λhp d tk st=>adA (af hp d (tk+1) σ rfl st (h tk))
theorem KG (h:∀t,Q (.str x t) σ):T fr A (eval (.Constant (.str x) k pos) fr.e) E σ Q:=λhp d tk st=>adB (af hp d (tk+1) σ rfl st (h tk))
theorem ag6 (h:Q .none σ):T fr A (eval (.Constant .none k pos) fr.e) E σ Q:=λhp d tk st=>wpAny_Constant_none (af hp d tk σ rfl st h)
theorem Hg (h:Q (.bool b) σ):T fr A (eval (.Constant (.bool b) k pos) fr.e) E σ Q:=λhp d tk st=>wpAny_Constant_bool (af hp d tk σ rfl st h)
theorem O6
  (h:T fr A (eval l fr.e) E σ λa dj=>T fr A (eval r fr.e) E dj λb iV=>T fr A (binaryOp op a b) E iV Q):T fr A (eval (.BinOp l op r pos) fr.e) E σ Q:=λhp d tk st=>
 wpAny_BinOp (h.bG st λz z z z z s1 q1=>q1.bG s1 λz z z z z s2 q2=>q2 _ _ _ s2)
theorem EY
  (h:T fr A (eval l fr.e) E σ λa dj=>T fr A (eval r fr.e) E dj λb iV=>T fr A (compareOp op a b) E iV Q)(hm:autoParam (behindInMarks op r=false) wu):T fr A (eval (.Compare l [op] [r] pos) fr.e) E σ Q:=λhp d tk st=>
 wpAny_Compare1 (h.bG st λz z z z z s1 q1=>q1.bG s1 λz z z z z s2 q2=>q2 _ _ _ s2) hm
theorem mW
  (h:T fr A (eval l fr.e) E σ λa dj=>T fr A (eval r fr.e) E dj λb iV=>T fr A (compareOp op a b) E iV λc sO=>T fr A (truthy c) E sO Q)(hm:autoParam (behindInMarks op r=false) wu):T fr A (isTrue (.Compare l [op] [r] pos) fr.e whole) E σ Q:=λhp d tk st=>
 wpAny_isTrue_Compare1 (h.bG st λz z z z z s1 q1=>q1.bG s1 λz z z z z s2 q2=>q2.bG s2 λz z z z z s3 q3=>q3 _ _ _ s3) hm
theorem Y6 (h:T fr A whole E σ λv dj=>T fr A (truthy v) E dj Q)(he:autoParam (isTrue e fr.e whole=(do let v<-whole;standAt e.pos;holding [v] (truthy v))) wu):T fr A (isTrue e fr.e whole) E σ Q:=λhp d tk st=>
 isTrue_plain (h.bG st λz z z z z s1 q1=>q1 _ _ _ s1) he
theorem ag3 (h:T fr A (isTrue x fr.e (eval x fr.e)) E σ λc σ'=>Q (!c) σ'):T fr A (isTrue (.UnaryOp .Not x pos) fr.e whole) E σ Q:=λhp d tk st=>
 isTrue_not (h.bG st λz h' d' t' σ' s1 q1=>(af h' d' t' σ' rfl s1 q1))
theorem SP (h:Q true σ):T fr A (isTrue (.BoolOp .And [] pos) fr.e whole) E σ Q:=λhp d tk st=>isTrue_and_nil (af hp d tk σ rfl st h)
theorem KD (h:Q false σ):T fr A (isTrue (.BoolOp .Or [] pos) fr.e whole) E σ Q:=λhp d tk st=>isTrue_or_nil (af hp d tk σ rfl st h)
theorem ag4
  (h:T fr A (isTrue x fr.e (eval x fr.e)) E σ λc σ'=>if c then T fr A (isTrue (.BoolOp .And rest pos) fr.e whole) E σ' Q else Q false σ'):T fr A (isTrue (.BoolOp .And (x::rest) pos) fr.e whole) E σ Q:=λhp d tk st=>
 isTrue_and (h.bG st λc h' d' t' σ' s1 q1=>by induction c using pR<;>first|exact⟨h',d',t',σ',rfl,s1,q1⟩|exact q1 _ _ _ s1)
theorem Y7
  (h:T fr A (isTrue x fr.e (eval x fr.e)) E σ λc σ'=>if c then Q true σ' else T fr A (isTrue (.BoolOp .Or rest pos) fr.e whole) E σ' Q):T fr A (isTrue (.BoolOp .Or (x::rest) pos) fr.e whole) E σ Q:=λhp d tk st=>
 isTrue_or (h.bG st λc h' d' t' σ' s1 q1=>by induction c using pR<;>first|exact⟨h',d',t',σ',rfl,s1,q1⟩|exact q1 _ _ _ s1)
theorem acm {Q:yw}
  (h:T fr A (isTrue qz fr.e (eval qz fr.e)) E σ λb σ'=>if b then T fr A (eval body fr.e) E σ' Q else T fr A (eval bH fr.e) E σ' Q):T fr A (eval (.IfExp qz body bH pos) fr.e) E σ Q:=λhp d tk st=>
 wpAny_IfExp (h.bG st λb h' d' cX σ' cI q=>by induction b using pR<;>exact q h' d' cX cI)
theorem ack (h:T fr A (eval x fr.e) E σ λv dj=>T fr A (unaryOp op v) E dj Q):T fr A (eval (.UnaryOp op x pos) fr.e) E σ Q:=λhp d tk st=>
 wpAny_UnaryOp (h.bG st λz z z z z s1 q1=>q1 _ _ _ s1)
theorem MO (h:T fr A (eval value fr.e) E σ λo dj=>T fr A (getAttr o wm true) E dj Q)
  (he:autoParam (eval (.Attribute value wm pos) fr.e=(do
   let o<-eval value fr.e
   standAt pos.atName
   let r<-holding [o] (getAttr o wm true);letTemporaryGo value o r
   pure r)) wu):T fr A (eval (.Attribute value wm pos) fr.e) E σ Q:=λhp d tk st=>
 Attribute_any_ (h.bG st λz z z z z s1 q1=>q1 _ _ _ s1) he
theorem KO (h:T fr A (eval value fr.e) E σ λo dj=>T fr A (eval slice fr.e) E dj λi iV=>T fr A (subscriptTail value slice o i) E iV Q):T fr A (eval (.Subscript value slice pos) fr.e) E σ Q:=λhp d tk st=>
 Subscript_ (h.bG st λz z z z z s1 q1=>q1.bG s1 λz z z z z s2 q2=>q2 _ _ _ s2)
theorem iN (h:T fr A (eval func fr.e) E σ λf dj=>T fr A (callWith pos f [] (backTo pos (starEach args fr.e)) []) E dj Q)
  (he:autoParam (eval (.Call func args [] pos) fr.e=(do callWith pos (<-eval func fr.e) [] (backTo pos (starEach args fr.e)) (backToKw pos (keywordEach [] fr.e)))) wu):T fr A (eval (.Call func args [] pos) fr.e) E σ Q:=λhp d tk st=>
 Call_ (h.bG st λz z z z z s1 q1=>q1 _ _ _ s1) he
theorem dP (h:Q [] σ):T fr A (spliced (backTo pos (starEach [] fr.e))) E σ Q:=λhp d tk st=>spliced_none (af hp d tk σ rfl st h)
theorem bU (h:T fr A (eval e fr.e) E σ λv dj=>T fr A (spliced (backTo pos (starEach rest fr.e))) E dj λvs iV=>Q (v::vs) iV)
  (he:autoParam (starEach (e::rest) fr.e=(false,eval e fr.e)::starEach rest fr.e) wu):T fr A (spliced (backTo pos (starEach (e::rest) fr.e))) E σ Q:=λhp d tk st=>
 spliced_more (h.bG st λz z z z z s1 q1=>q1.bG s1 λz h2 d2 t2 kg s2 q2=>(af h2 d2 t2 kg rfl s2 q2)) he
theorem Zb (h:T fr A (spliced (backTo pos (starEach C7 fr.e))) E σ λvs dj=>T fr A (newTuple vs) E dj Q):T fr A (eval (.Tuple C7 k pos) fr.e) E σ Q:=λhp d tk st=>
 Tuple_ (h.bG st λz z z z z s1 q1=>q1 _ _ _ s1)
theorem O5 (h:T fr A (spliced (backTo pos (starEach C7 fr.e))) E σ λvs dj=>T fr A (newList vs) E dj Q):T fr A (eval (.List C7 pos) fr.e) E σ Q:=λhp d tk st=>
 List_ (h.bG st λz z z z z s1 q1=>q1 _ _ _ s1)
end
section
variable {fr:Fm}{A:aQ}{α β:Type}{E:aS}{σ:S}{F:ah}{V V':eX}{own:cN}{gl gl':dU}
theorem St.adl {F':ah}{V':eX}(st:St fr ⟨F,V,om++rest⟩ h)(cI:St aP ⟨F',V',wO⟩ h')(e1:aP.w=fr.w)(e2:aP.hb=fr.hb)(e3:aP.h₀=h)(e4:aP.F₀=F)
  (e5:aP.mt=om.map (·.1)):St fr ⟨F',V,wO++rest⟩ h':=by
 have gr:=cI.gr;simp only[e3,e4] at gr;have x:Stp fr.mt (om.map (·.1)) F h h':=⟨λa ha z=>cI.Rz a (by rw[e5];exact ha),λa o hM e=>by have:=cI.ext a o (by rw[e5];exact hM) (by rw[e3];exact e);rwa [e4] at this⟩;have nd:=st.nd;rw[dN] at nd;have lv:∀p∈wO,¬cW h p.1\/p.1∈om.map (·.1):=λp hp=>by
  have:=(cI.own p hp).1
  rwa [e3,e5] at this
 have aaV:cW h fr.e.locals:=aq (st.vars.loc) λm z0 z=>qQ z0 λo z z e z=>⟨o,e⟩;have aoZ:∀y c,fr.e.cells.lookup y=some c->cW h c:=λy c e=>dw ((st.dM y c e).2.2) λov o e' z=>⟨o,e'⟩;refine st.step x (λa ha=>?_) gr (λa c e=>by have:=cI.sees a c e;rwa [e1,e2] at this) (λp hp=>?_) ?_
 .refine aq (bN.mp ha) λp hp z1=>?_;subst z1
  exact⟨p.2,uJ _ hp⟩
 .rcases j6.mp hp with hp|hp
  .refine b8 (cI.own p hp) λz b2 b3 o b4 b5=>?_
   rcases lv p hp with hk|hk
   .exact⟨⟨.inl λl=>hk (st.stay l),by rw[<-e2];exact b3,λq=>hk (q▸aaV),λy c e q=>hk (q▸aoZ y c e)⟩,b2,o,b4,by rw[<-e1];exact b5⟩
   .refine aq (bN.mp hk) λq hq e=>kU (st.own q (uJ _ hq)) λa1 a2 a3 z=>?_
    have l1:=st.fY.2 q (uJ _ hq);have l2:=λy c e=>(st.dM y c e).2.1 q (uJ _ hq);rw[e] at a1 a3 l1 l2;exact⟨⟨a1,a3,l1,l2⟩,b2,o,b4,by rw[<-e1];exact b5⟩
  .have mL:=lz om hp
   refine b8 (st.own p mL) λa1 a2 a3 o a4 a5=>?_;have hM:p.1∉om.map (·.1):=λq=>(G6.mp nd).2.2 _ q _ (j9 hp) rfl;exact⟨⟨a1,a3,st.fY.2 p mL,λy c e=>(st.dM y c e).2.1 p mL⟩,(gr.old _ ⟨_,a4⟩).trans a2,o,x.same hM a2 a4,a5⟩
 .rw[dN]
  refine G6.mpr ⟨cI.nd,(G6.mp nd).2.1,λa ha b hb q=>?_⟩;subst q;refine aq (bN.mp ha) λp hp z2=>?_;subst z2;refine aq (bN.mp hb) λr hr e=>fU (lv p hp) (λhk=>?_) λhk=>?_
  .exact b8 (st.own r (lz _ hr)) λz z z o e' z=>hk ⟨o,by rw[<-e];exact e'⟩
  .exact(G6.mp nd).2.2 _ hk _ hb rfl
structure dI (f:av) (fd:FuncData) (body:fc) (ps ls:ay) (gl:dU):Prop where
 at_:ao6 f fd body
 bind:∀P (vals:bC),vals.length=ps.length->∀S,peek (K P) S (bindArgs fd ⟨vals,[]⟩)=some (ps.zip vals)
 names:∀P,FN P fd.scope (ps++ls) gl=true
 nd:(ps++ls).Nodup
theorem yY {X:Type}:∀{ps:ay} {vs:List X},vs.length=ps.length->(ps.zip vs).map (·.1)=ps
 |[],[],_=>rfl
 |_::_,_::_,h=>by simp only[adO,fJ];rw[yY (OQ h)]
theorem Dv {X Y:Type}{g:X->Y}:∀{ps:ay} {vs:List X},vs.length=ps.length->(ps.zipWith (λx v=>(x,g v)) vs).map (·.1)=ps
 |[],[],_=>rfl
 |_::_,_::_,h=>by simp only[aea,fJ];rw[Dv (OQ h)]
theorem HF:∀{ps:ay} {vs:bC} {x:aa} {v:ao},(x,some v)∈ps.zipWith (λx v=>(x,some v)) vs->(x,v)∈ps.zip vs
 |[],_,_,_,h=>by cases h
 |_::_,[],_,_,h=>by cases h
 |_::_,_::_,x,v,h=>by
  simp only[aea] at h;rcases bW.mp h with e|h
  .cases e;exact .head _
  .exact .tail _ (HF h)
def K8 (ps:ay)(va:bC)(ls:ay):eX:=ps.zipWith (λx v=>(x,some v)) va++ls.map λx=>(x,none)
theorem Ky (h:va.length=ps.length):(K8 ps va ls).map (·.1)=ps++ls:=by unfold K8;rw[dN,Dv h,eL];exact aT (ps++ ·) (sF _)
theorem O3 (h:(x,some v)∈K8 ps va ls):(x,v)∈ps.zip va:=
 (j6.mp h).elim HF λh=>aq (bN.mp h) λy z e=>aA (Prod.mk.inj e).2
variable {f:av}{fd:FuncData}{body:fc}{ps ls:ay}{vals va:bC}{n:Nat}{om rest:cN}
theorem Pj {os:OsState}(df:dI f fd body ps ls gl')(cx:Cx w hb)(room:cC A (n+1))(LX:va.length=ps.length)(NZ:∀S,peek (K w.params) S (bindArgs fd ⟨vals,[]⟩)=some (ps.zip va))
  (I7:∀a o,hb.get? a=some o->hp.get? a=some o)(mg:cW hb mainGlobals)(sees:∀a c,F a=some c->¬nJ hb a/\∃o,hp.get? a=some o/\c.ok w o)(own:∀p∈om,F p.1=none/\¬nJ hb p.1/\∃o,hp.get? p.1=some o/\p.2.ok w o)(nd:(om.map (·.1)).Nodup)
  (go:∀(env:Env) (h₁:Heap) (n7:Nat),env.scope=fd.scope->env.frame=some env.locals->dH ⟨w,os,hb,hp,F,om.map (·.1),env⟩ gl'->iL ⟨w,os,hb,hp,F,om.map (·.1),env⟩->St ⟨w,os,hb,hp,F,om.map (·.1),env⟩ ⟨F,K8 ps va ls,om⟩ h₁->
   wpAny (model pw w) (A.deeper env) (execs body env) (λfl s'=>R (.ok (.ret (kK fl))) s') (λev s'=>wpAny (model pw w) (A.deeper env) (leaving env ev) (λu Vk=>R (.error ev) Vk) (λe Vk=>R (.error e) Vk) s') ⟨h₁, #[],d,n7,os⟩):codeAny (model pw w) A (.call (.ref f) ⟨vals,[]⟩) R ⟨hp, #[],d,tk,os⟩:=by
 have hK:(Internal.K w.params).In hp:=cx.K.keeps I7;have at_:=df.at_;have aky:BindsTo ⟨hp, #[],d,tk,os⟩ fd ⟨vals,[]⟩ (ps.zip va):=λM u u u q=>(Looks.of_peek (M:=M) (cx.K.keeps I7) (NZ _)).here q;have hbk:∀x∈(ps.zip va).map (·.1),x∈ps++ls:=λx hx=>by rw[yY LX] at hx;exact uJ _ hx
 have ho:=hK _ _ (at_.look w.params);have gh:∀x∈ps.zip va,fd.scope.names.lookup x.1=some .local\/fd.scope.names.lookup x.1=some .cell:=λx hx=>by have:=df.names w.params;unfold FN at this;simp only[iK,j8,xg,eH] at this;exact(this.1.1 x.1 (hbk _ (j9 hx))).1
 refine codeAny_call_function (by have:=room.depth;exact Nat.lt_of_add_right_lt this) ho rfl at_.co at_.gen at_.body (codeRec_of hK (at_.code _)) (aky _ _ _ _ ?_);rw[at_.clo];refine wpAny_newFunctionEnv_cells at_.kind (λx hx=>?_) λenv he s' x=>?_
 .rcases gh x hx with q|q
  .exact .inl q
  .exact .inr ⟨q,X4 _ _ _ (.inl q)⟩
 subst he;refine dw x.done λh₁ n7 z5 keep=>?_;subst z5;refine⟨(cx.lim.keeps I7).keeps keep,codeAny_func ?_⟩;generalize Sd:newEnv fd.scope hp.objs.size fd.globals (cellsFrom (hp.objs.size+1) fd.scope.names []) (fd.qualname++".<locals>.") (some f) fd.code none fd.builtins=env at x;have iG:env.scope=fd.scope:=by rw[<-Sd];rfl
 have elo:env.locals=hp.objs.size:=by rw[<-Sd];rfl
 have ecl:env.cells=cellsFrom (hp.objs.size+1) fd.scope.names []:=by rw[<-Sd];rfl
 have egl:env.globals=mainGlobals:=by rw[<-Sd];exact at_.glob
 have ebl:env.builtins=builtinsNs:=by rw[<-Sd];exact at_.XC
 have ekd:∀y,env.kindOf y=fd.scope.names.lookup y:=λy=>by unfold Env.kindOf;rw[iG]
 let aP:Fm:=⟨w,os,hb,hp,F,om.map (·.1),env⟩;have NT:=df.names w.params;unfold FN at NT;simp only[iK,j8,xg,eH] at NT;refine xA NT λz5 n3=>clear% NT;xA z5 λn1 n2=>clear% z5;?_;have hbn:((ps.zip va).map (·.1)).Nodup:=by rw[yY LX];exact(G6.mp df.nd).1
 have hV0:∀y ov,(y,ov)∈K8 ps va ls->y∈ps++ls:=λy ov h=>Ky (ls:=ls) LX▸bN.mpr ⟨_,h,rfl⟩;have Bh:∀y c,env.cells.lookup y=some c->hp.objs.size<c:=λy c e=>by
  have:=x.above y c (dB e)
  rwa [elo] at this
 have oml:∀p∈om,p.1<hp.objs.size:=λp hp=>aq (own p hp).2.2 λu e u=>g6 e;have cI:St aP ⟨F,K8 ps va ls,om⟩ h₁:=by
  refine⟨λa o e=>keep a o (I7 a o e),(λa z0=>xE z0 λo e=>clear% z0;⟨o,I7 a o e⟩),mg,λa ha=>?_,λa o u e=>⟨o,keep a o e,.inl rfl⟩,.refl _ _,λa c e=>?_,λp hp=>?_,?_,⟨?_,?_,?_,?_,?_⟩,⟨⟨_,x.toInCall.ns,λy v hy hk=>?_⟩,λy ov hy hk=>?_,λy ov hy=>?_,by show((K8 ps va ls).map (·.1)).Nodup;rw[Ky LX];exact df.nd⟩,⟨?_,λp hp=>?_⟩,λy c e=>⟨?_,(λp hp=>?_),?_⟩⟩
  .refine aq (bN.mp ha) λp hp xr=>?_;subst xr
   exact aq (own p hp).2.2 λo a4 u=>⟨o,keep _ o a4⟩
  .exact gy (sees a c e) λl o e' k=>⟨l,o,keep a o e',k⟩
  .exact nX (own p hp) λa2 a3 z=>aq z λo a4 a5=>⟨.inr (j9 hp),a2,a3,o,keep _ o a4,a5⟩
  .exact nd
  .show env.scope.kind=_;rw[iG];exact at_.kind
  .exact egl
  .exact ebl
  .intro y z c hy hz
   exact name_of_addr x.apart (dB hy) (dB hz)
  .intro y c hy
   rw[elo];exact rG (Bh y c hy)
  .exact EA hbn (O3 hy) hk
  .have iR:fd.scope.names.lookup y=some .cell:=by
    rcases (n1 y (hV0 y ov hy)).1 with q|q
    .rw[ekd,q] at hk;rcases hk with q|q<;>cases q
    .exact q
   have hs:((cellsFrom (hp.objs.size+1) fd.scope.names []).lookup y).isSome=true:=X4 _ _ _ (.inl iR);refine xE (aek.mp hs) λc hc=>?_;have ju:env.cells.lookup y=some c:=by rw[ecl];exact hc
   refine(pH c ju _ (x.cell y c ju) (λv hv=>?_));subst hv;exact EB hbn (O3 hy) (by rw[ekd,iR];decide)
  .have:=(n1 y (hV0 y ov hy)).1
   rw[ekd];refine fU (this) (λq=>?_) λq=>?_
   .exact .inl q
   .exact .inr (.inl q)
  .show F env.locals=none
   rw[elo];induction q:F hp.objs.size using fL with
   |none=>rfl
   |some c=>exact gy (sees _ _ q) λu o e u=>absurd (g6 e) (qL _)
  .show p.1≠env.locals
   rw[elo];exact lu (oml p hp)
  .show F c=none
   have:=Bh y c e;induction q:F c using fL with
   |none=>rfl
   |some c'=>exact gy (sees _ _ q) λu o e u=>absurd (g6 e) (J7.mpr (Bq this))
  .exact lu (Br (oml p hp) (Bh y c e))
  .exact⟨_,x.cell y c e⟩
 have hF:dH aP gl':=⟨cx,λp mL=>⟨by rw[ekd];exact(n2 p mL).1.1.1,(n2 p mL).1.1.2,(n2 p mL).1.2,(n2 p mL).2⟩,λy z1=>aq z1 λkd hk u=>clear% z1;by
  rw[ekd] at hk;exact n3 _ (dB hk),trivial⟩;have hMt:∀a∈aP.mt,a<hp.objs.size:=λa ha=>by
  refine aq (bN.mp ha) λp hp xr=>?_;subst xr;exact oml p hp
 have hW:iL aP:=λy=>⟨⟨(λz2=>xE z2 λo e=>clear% z2;by have:=g6 e;rw[elo] at this;exact qL _ this),(λh=>by have:=hMt _ h;rw[elo] at this;exact qL _ this)⟩,λc e=>⟨(λz3=>xE z3 λo e'=>clear% z3;XY (g6 e') (Bh y c e)),(λh=>XY (hMt _ h) (Bh y c e))⟩⟩;refine fk (go env h₁ n7 iG (by rw[<-Sd];rfl) hF hW cI) (λfl s' z=>?_) λu u z=>z;induction fl using Zc3<;>exact z
theorem Pg {hp:Heap}(df:dI f fd body ps ls gl')(cx:Cx fr.w fr.hb)(room:cC A (n+1))(LX:va.length=ps.length)(NZ:∀S,peek (K fr.w.params) S (bindArgs fd ⟨vals,[]⟩)=some (ps.zip va))
  (st:St fr ⟨F,V,om++rest⟩ hp)
  (go:∀(env:Env) (h₁:Heap) (n7:Nat),env.scope=fd.scope->env.frame=some env.locals->dH ⟨fr.w,fr.os,fr.hb,hp,F,om.map (·.1),env⟩ gl'->iL ⟨fr.w,fr.os,fr.hb,hp,F,om.map (·.1),env⟩->St ⟨fr.w,fr.os,fr.hb,hp,F,om.map (·.1),env⟩ ⟨F,K8 ps va ls,om⟩ h₁->
   wpAny (model pw fr.w) (A.deeper env) (execs body env) (λfl s'=>R (.ok (.ret (kK fl))) s') (λev s'=>wpAny (model pw fr.w) (A.deeper env) (leaving env ev) (λz Vk=>R (.error ev) Vk) (λe Vk=>R (.error e) Vk) s') ⟨h₁, #[],d,n7,fr.os⟩):codeAny (model pw fr.w) A (.call (.ref f) ⟨vals,[]⟩) R ⟨hp, #[],d,tk,fr.os⟩:=
 Pj df cx room LX NZ st.keep st.mg st.sees (λp hp=>(st.own p (uJ _ hp)).2) (G6.mp (dN▸st.nd:(om.map (·.1)++rest.map (·.1)).Nodup)).1 go
variable {P:ao->ah->cN->Prop}
theorem Ph (df:dI f fd body ps ls gl')(cx:Cx fr.w fr.hb)(room:cC A (n+1))(LX:va.length=ps.length)(NZ:∀S,peek (K fr.w.params) S (bindArgs fd ⟨vals,[]⟩)=some (ps.zip va))
  (fV:∀aP:Fm,dH aP gl'->iL aP->Cx aP.w aP.hb->aP.w=fr.w->aP.e.scope=fd.scope->aP.mt=om.map (·.1)->T aP (A.deeper aP.e) (execs body aP.e) (λy y=>False) ⟨F,K8 ps va ls,om⟩ (λfl σ'=>P (kK fl) σ'.F σ'.own))
  (st:St fr ⟨F,V,om++rest⟩ hp)
  (k:∀v h' d' cX F' wO,St fr ⟨F',V,wO++rest⟩ h'->Le F F'->(∀p∈wO,¬cW hp p.1\/p.1∈om.map (·.1))->P v F' wO->R (.ok (.ret v)) ⟨h', #[],d',cX,fr.os⟩):codeAny (model pw fr.w) A (.call (.ref f) ⟨vals,[]⟩) R ⟨hp, #[],d,tk,fr.os⟩:=
 Pg df cx room LX NZ st λenv h₁ n7 iG y hF hW cI=>fk (fV _ hF hW cx rfl iG rfl h₁ d n7 cI) (λfl s' z4=>gv z4 λh' d' cX σ' e stE hP=>by rw[e];exact k (kK fl) h' d' cX σ'.F σ'.own (st.adl stE rfl rfl rfl rfl rfl) (λa c e=>stE.gr.le a c e) (λp hp=>(stE.own p hp).1) hP) λy y z=>z.elim
theorem yU (df:dI f fd body ps ls gl')(cx:Cx fr.w fr.hb)(room:cC A (n+1))(LX:va.length=ps.length)(NZ:∀S,peek (K fr.w.params) S (bindArgs fd ⟨vals,[]⟩)=some (ps.zip va))
  (fV:∀aP:Fm,dH aP gl'->iL aP->Cx aP.w aP.hb->aP.w=fr.w->aP.e.scope=fd.scope->aP.mt=om.map (·.1)->T aP (A.deeper aP.e) (execs body aP.e) (λz z=>False) ⟨F,K8 ps va ls,om⟩ (λfl σ'=>P (kK fl) σ'.F σ'.own))
  (k:∀v F' wO,Le F F'->(∀p∈wO,p.1∉fr.mt\/p.1∈om.map (·.1))->P v F' wO->Q v ⟨F',V,wO++rest⟩):T fr A (call (.ref f) vals) E ⟨F,V,om++rest⟩ Q:=λhp d tk st=>
 Bw (Ph df cx room LX NZ fV st λv h' d' cX F' wO cI le hl hP=>⟨h',d',cX,_,rfl,cI,k v F' wO le (λp hp=>(hl p hp).imp (λn q=>n (st.Rz _ q)) id) hP⟩)
theorem bJ {f:ao}(cx:Cx fr.w fr.hb)(hk:wU fr.w.params f=true)
  (h:T fr A (spliced (backTo pos (starEach args fr.e))) E σ λvs dj=>T fr A (call f (first++vs)) E dj Q)
  (hs:autoParam ((backTo pos (starEach args fr.e)).any (·.1)=false) wu):T fr A (callWith pos f first (backTo pos (starEach args fr.e)) []) E σ Q:=by
 intro hp d tk st;have ev:∀(l:List (Bool×Sem ao)) (P:Args->cO->Prop),l.any (·.1)=false->wpAny (model pw fr.w) A (spliced l) (λvs s'=>P ⟨vs,[]⟩ s') E ⟨hp, #[],d,tk,fr.os⟩->wpAny (model pw fr.w) A (evalArgs f true l []) P E ⟨hp, #[],d,tk,fr.os⟩:=by
  intro l P hl hw;induction l using nU with
  |nil=>unfold evalArgs;refine aN (fk hw (λvs s' hq=>?_) λz z x=>x);exact wo (aN (cG (aN (cG (cG hq)))))
  |cons x r=>obtain⟨b,t⟩:=x;simp only[BB,G8] at hl;obtain⟨rfl,z⟩:=hl;exact evalArgs_plain hw
 refine callWith_of (P:=λh'=>∀a o,fr.hb.get? a=some o->h'.get? a=some o) (by rw[hs];rfl) (λh' iR=>?_) (ev _ _ hs (h.bG st λvs h' d' cX σ' cI q=>⟨cI.keep,q h' d' cX cI⟩));clear h hs st ev;induction f using Zc5 with
 |ref a=>have hk:keepIn (Internal.K fr.w.params) (.ref a)=true:=hk;exact keeps_K hk h' (cx.K.keeps iR)
 |_=>exact⟨.machine,.inr (.inl rfl),Looks.now⟩
end
section
open Builtin Builtin.ObjectAttr
variable {fr:Fm}{A:aQ}{α β:Type}{E:aS}{σ:S}{F:ah}{V V':eX}{own own':cN}{gl gl':dU}
inductive Rem {X:Type} (x:X):List X->List X->Prop
 |here {l}:Rem x (x::l) l
 |there {p l l'}:Rem x l l'->Rem x (p::l) (p::l')
theorem Rem.split {X:Type}{x:X}{l l':List X}(r:Rem x l l'):∃pre post,l=pre++x::post/\l'=pre++post:=by
 induction r with
 |here=>exact(r9 [] _ rfl rfl)
 |there z ih=>refine dw ih λpre post z0 z1=>?_;try clear ih;rw[z0];rw[z1];exact(r9 (_::pre) post rfl rfl)
inductive wA {X:Type} (x y:X):List X->List X->Prop
 |here {l}:wA x y (x::l) (y::l)
 |there {p l l'}:wA x y l l'->wA x y (p::l) (p::l')
theorem wA.split {X:Type}{x y:X}{l l':List X}(r:wA x y l l'):∃pre post,l=pre++x::post/\l'=pre++y::post:=by
 induction r with
 |here=>exact(r9 [] _ rfl rfl)
 |there z ih=>refine dw ih λpre post z0 z1=>?_;try clear ih;rw[z0];rw[z1];exact(r9 (_::pre) post rfl rfl)
theorem wA.mem {X:Type}{x y:X}{l l':List X}(r:wA x y l l'):x∈l:=by
 induction r with
 |here=>exact .head _
 |there z ih=>exact .tail _ ih
theorem St.chg {h h':Heap}{a:av}(st:St fr ⟨F,V,own⟩ h)(r:wA (a,c) (a,c') own own')(hs:Heap.SameBut a h h')(e:h'.get? a=some o')(ok:c'.ok fr.w o'):St fr ⟨F,V,own'⟩ h':=by refine dw (r.split) λpre post z0 z1=>?_;subst z0;rw[z1];exact st.change hs e ok
theorem i8 {t:Sem α}{Q:α->S->Prop}{c:Cell}(r:Rem (a,c) own own')(hn:a∉fr.mt)(x:∀F',Le F F'->F' a=some c->T fr A t E ⟨F',V,own'⟩ Q):T fr A t E ⟨F,V,own⟩ Q:=by intro hp d tk st;refine dw (r.split) λpre post z0 z1=>?_;subst z0;subst z1;have hF:F a=none:=(st.own _ (lz _ (.head _))).2.1;exact x _ (λb c' e=>(aG (λq=>by clear hn st x r;subst q;rw[hF] at e;exact aA e):(F.set a c) b=F b).trans e) (ah.sW ..) hp d tk (st.freeze hn)
theorem St.G1 (st:St fr ⟨F,V,own⟩ h)(ho:c.ok fr.w o)(hf:o.isFreed=false)(hm:h.objs.size∉fr.mt):∃F',Le F F'/\F' h.objs.size=some c/\St fr ⟨F',V,own⟩ (h.push o):=by have cI:=st.bM ho hf;have hF:F h.objs.size=none:=(cI.own _ (.head _)).2.1;exact⟨F.set h.objs.size c,λb c' e=>(aG (λq=>by subst q;rw[hF] at e;exact aA e):(F.set h.objs.size c) b=F b).trans e,ah.sW ..,St.freeze (pre:=[]) cI hm⟩
theorem MJ (h:∀a F',Le F F'->F' a=some (.tup vs)->Q (.ref a) ⟨F',V,own⟩)(jm:vs.length<=sizeLine):T fr A (newTuple vs) E ⟨F,V,own⟩ Q:=λhp d tk st=>by exact gb (st.G1 (c:=.tup vs) (o:={cls:=.type "tuple",data:=.seq vs.toArray}) rfl rfl st.fresh.2.2.1) fun F' le e cI=>G4 (af _ d tk _ rfl cI (h _ _ le e)) (by show vs.toArray.size<=sizeLine;rw[g7];exact jm)
def cR (F:ah)(own:cN)(a:av)(vs:bC):Prop:=F a=some (.list vs)\/(a,.list vs)∈own
theorem cR.is (l:cR F own a vs)(st:St fr ⟨F,V,own⟩ h):h.IsList a vs.toArray:=by
 refine fU (l) (λe=>?_) λe=>?_
 .exact gy (st.sees _ _ e) λz o e' ok=>Cell.Nu e' ok
 .exact b8 (st.own _ e) λz z z o e' ok=>Cell.Nu e' ok
def EV (F:ah)(a:av)(vs:bC):Prop:=F a=some (.tup vs)
theorem EV.is (l:EV F a vs)(st:St fr ⟨F,V,own⟩ h):IsTup h a vs.toArray:=by exact gy (st.sees _ _ l) λz o e' ok=>Cell.afC e' ok
theorem KC {a:av}{vs:bC}(r:wA (a,.list vs) (a,.list (f vs.toArray).toList) own own')(h:Q () ⟨F,V,own'⟩)(jm:vs.length<=sizeLine)(anD:(f vs.toArray).size<=sizeLine+1):
  T fr A (updateSeq a f) E ⟨F,V,own⟩ Q:=λhp d tk st=>by
 refine sP (st.cell r.mem) λo e n ho=>?_;subst ho;have e:hp.get? a=some {cls:=.type "list",data:=.seq vs.toArray n}:=e;refine X8 e rfl ?_ (by rw[g7];exact jm) anD;refine(af _ d tk _ rfl (st.chg r (qP ..) (mV _ e rfl) ⟨if(f vs.toArray).size==vs.toArray.size then n else n+1,?_⟩) h);rfl
theorem cR.obj (l:cR F own a vs)(st:St fr ⟨F,V,own⟩ h):∃n,h.get? a=some {cls:=.type "list",data:=.seq vs.toArray n}:=by
 refine fU (l) (λe=>?_) λe=>?_
 .refine gy (st.sees _ _ e) λz o e' bK=>xE bK λn zr4=>clear% bK;?_;subst zr4
  exact⟨n,e'⟩
 .refine sP (st.cell e) λo e' n zz=>?_;subst zz
  exact⟨n,e'⟩
theorem BR {a:av}{vs:bC}(r:wA (a,.list vs) (a,.list (vs++[x])) own own')(h:Q .none ⟨F,V,own'⟩)(jm:vs.length<=sizeLine):
  T fr A (call (.builtin "list.append") [.ref a,x]) E ⟨F,V,own⟩ Q:=fun hp d tk st=>by
 refine xh slot_list_append (cR.is (.inr r.mem) st).typeIs entry_list_append ?_ (args_list_append _ _);show wpAny _ _ (updateSeq a (·.push x)>>=λz=>ret .none) _ _ _;refine aN ((KC (Q:=λz σ'=>Q .none σ') (f:=(·.push x)) (by simpa using r) h jm (by simp;omega)).bG st λz h' d' cX σ' cI q=>?_);exact cG (abm _ rfl h' (gE d' cX σ' rfl cI q))
theorem aeE (l:cR F own a vs)(jm:vs.length<=sizeLine)(h:∀t,Q (.int vs.length t) ⟨F,V,own⟩):T fr A (call (.builtin "len") [.ref a]) E ⟨F,V,own⟩ Q:=fun hp d tk st=>
 len_list (l.is st) (by rw[g7];simp only[nR] at jm;omega) (af hp d (tk+1+1) _ rfl st (h (tk+1)))
structure uO (F:ah) (own:cN) (a:av) (k i t:ao):Prop where
 is:∃d,(F a=some (.inst d)/\F d=some (.dJ k i t))\/((a,.inst d)∈own/\(d,.dJ k i t)∈own)
theorem uO.inst {a:av}{k i t:ao}(x:uO F own a k i t)(st:St fr ⟨F,V,own⟩ h):∃(d:av) (o:Obj),VD fr.w.params k i t o/\InstAt h a (instObj fy d) fy (some o):=by
 obtain⟨d,⟨e1,e2⟩|⟨e1,e2⟩⟩:=x.is
 .refine gy (st.sees _ _ e1) λz o1 h1 ok1=>gy (st.sees _ _ e2) λz o2 h2 ok2=>?_
  have ok1:o1=instObj fy d:=ok1;subst ok1;exact⟨d,o2,ok2,h1,rfl,rfl,h2⟩
 .refine b8 (st.own _ e1) λz z z o1 h1 ok1=>b8 (st.own _ e2) λz z z o2 h2 ok2=>?_
  have ok1:o1=instObj fy d:=ok1;subst ok1;exact⟨d,o2,ok2,h1,rfl,rfl,h2⟩
theorem u6 (P:aY):findIn (K P) (.ref fy) "__getattribute__"=some (some (.builtin "object.__getattribute__")):=by kernel_rfl
theorem n6 (P:aY):hasDictIn (K P) fy=true:=by kernel_rfl
theorem TG (P:aY):findIn (K P) (.ref fy) "kind"=some none:=by kernel_rfl
theorem Pp (P:aY):findIn (K P) (.ref fy) "items"=some none:=by kernel_rfl
theorem Pu (P:aY):findIn (K P) (.ref fy) "attrs"=some none:=by kernel_rfl
theorem BP (cx:Cx fr.w fr.hb)(x:uO F own a k i t)(hn:∀P,findIn (K P) (.ref fy) name=some none)
  (hl:∀(n t1 t2 t3 t4 t5:Nat) (sh lo:Bool) P,lookIn name (dictOf [N4 P "kind" t1 k,N4 P "items" t2 i,N4 P "attrs" t3 t,N4 P "shared" t4 (.bool sh),N4 P "loose" t5 (.bool lo)] n)=some (some v))
  (hv:handedIn v=true)(h:Q v ⟨F,V,own⟩):T fr A (getAttr (.ref a) name true) E ⟨F,V,own⟩ Q:=λhp d tk st=>by
 refine dw (x.inst st) λdx o vd I=>fX vd λn t1 t2 t3 t4 bK=>rI bK λt5 sh lo e=>?_;subst e;exact get_value (cx.K.keeps st.keep) I (u6 _) (findObj_own (n6 _) (hn _) rfl (hl ..)) hv (af hp d (tk+1) _ rfl st h)
theorem ag7 (cx:Cx fr.w fr.hb)(x:uO F own a k i t)(hv:handedIn k=true)(h:Q k ⟨F,V,own⟩):T fr A (getAttr (.ref a) "kind" true) E ⟨F,V,own⟩ Q:=
 BP cx x TG (λz z z z z z z z z=>by kernel_rfl) hv h
theorem aci (cx:Cx fr.w fr.hb)(x:uO F own a k i t)(hv:handedIn i=true)(h:Q i ⟨F,V,own⟩):T fr A (getAttr (.ref a) "items" true) E ⟨F,V,own⟩ Q:=
 BP cx x Pp (λz z z z z z z z z=>by kernel_rfl) hv h
theorem O4 (cx:Cx fr.w fr.hb)(x:uO F own a k i t)(hv:handedIn t=true)(h:Q t ⟨F,V,own⟩):T fr A (getAttr (.ref a) "attrs" true) E ⟨F,V,own⟩ Q:=
 BP cx x Pu (λz z z z z z z z z=>by kernel_rfl) hv h
end
section
inductive D where
 |none|bool (b:Bool)|int (i:Int)|str (s:aa)|list (l:List D)|tup (l:List D)|vec (k:aa) (i a:D)|dict (l:List (aa×D))|bh (l:List (Int×D))|range (a b c:Int)|const (v:ao)|cK (l:List (aa×List D))
abbrev Tq6:=List (List D)
abbrev uP:=List (Str×List D)
abbrev uX:=List (Str×D)
abbrev ZJ:=List (Int×D)
abbrev kc:=D->Prop
abbrev ak:=List D
noncomputable abbrev cap:Nat:=1048576
mutual
inductive Rp (F:ah):D->ao->Prop
 |none:Rp F .none .none
 |bool {b}:Rp F (.bool b) (.bool b)
 |int {i t}:Rp F (.int i) (.int i t)
 |str {s t}:Rp F (.str s) (.str s t)
 |list {a l vs}:F a=some (.list vs)->aK F l vs->l.length<=cap->Rp F (.list l) (.ref a)
 |tup {a l vs}:F a=some (.tup vs)->aK F l vs->l.length<=cap->Rp F (.tup l) (.ref a)
 |vec {a d ks kt i t di dt}:F a=some (.inst d)->F d=some (.dJ (.str ks kt) i t)->Rp F di i->Rp F dt t->Rp F (.vec ks di dt) (.ref a)
 |dict {a l es ep}:F a=some (.dict es ep)->kQ F l es->Rp F (.dict l) (.ref a)
 |bh {a l es}:F a=some (.bh es)->lY F l es->Rp F (.bh l) (.ref a)
 |range {x a b c}:F x=some (.rng a b c)->Rp F (.range a b c) (.ref x)
 |const {v}:Rp F (.const v) v
 |cK {a l es ep}:F a=some (.dict es ep)->MQ F l es->Rp F (.cK l) (.ref a)
inductive aK (F:ah):ak->bC->Prop
 |nil:aK F [] []
 |cons {d v l vs}:Rp F d v->aK F l vs->aK F (d::l) (v::vs)
inductive kQ (F:ah):uX->dU->Prop
 |nil:kQ F [] []
 |cons {n d v l vs}:Rp F d v->kQ F l vs->kQ F ((n,d)::l) ((n,v)::vs)
inductive lY (F:ah):ZJ->List (Int×ao)->Prop
 |nil:lY F [] []
 |cons {n d v l vs}:Rp F d v->lY F l vs->lY F ((n,d)::l) ((n,v)::vs)
inductive MQ (F:ah):uP->dU->Prop
 |nil:MQ F [] []
 |cons {n ds a us l vs}:F a=some (.list us)->aK F ds us->ds.length<=cap->MQ F l vs->MQ F ((n,ds)::l) ((n,.ref a)::vs)
end
section
variable {F:ah}
theorem aK.ind {motive:ak->bC->Prop}(nil:motive [] [])(cons:∀{d v l vs},Rp F d v->aK F l vs->motive l vs->motive (d::l) (v::vs))(h:aK F l vs):motive l vs:=
 aK.rec (motive_1:=λz z z=>True) (motive_2:=λl vs z=>motive l vs) (motive_3:=λz z z=>True) (motive_4:=λz z z=>True) (motive_5:=λz z z=>True) trivial trivial trivial trivial (λz z z z=>trivial) (λz z z z=>trivial) (λz z z z z z=>trivial) (λz z z=>trivial) (λz z z=>trivial) (λz=>trivial) trivial (λz z z=>trivial) nil (λr rl z ih=>cons r rl ih) trivial (λz z z z=>trivial) trivial (λz z z z=>trivial) trivial (λz z z z z z=>trivial) h
theorem kQ.ind {motive:uX->dU->Prop}(nil:motive [] [])(cons:∀{n d v l vs},Rp F d v->kQ F l vs->motive l vs->motive ((n,d)::l) ((n,v)::vs)){vs:dU}(h:kQ F l vs):motive l vs:=
 kQ.rec (motive_1:=λz z z=>True) (motive_3:=λl vs z=>motive l vs) (motive_2:=λz z z=>True) (motive_4:=λz z z=>True) (motive_5:=λz z z=>True) trivial trivial trivial trivial (λz z z z=>trivial) (λz z z z=>trivial) (λz z z z z z=>trivial) (λz z z=>trivial) (λz z z=>trivial) (λz=>trivial) trivial (λz z z=>trivial) trivial (λz z z z=>trivial) nil (λr rl z ih=>cons r rl ih) trivial (λz z z z=>trivial) trivial (λz z z z z z=>trivial) h
theorem lY.ind {motive:ZJ->List (Int×ao)->Prop}(nil:motive [] [])(cons:∀{n d v l vs},Rp F d v->lY F l vs->motive l vs->motive ((n,d)::l) ((n,v)::vs)){l:ZJ}{vs:List (Int×ao)}(h:lY F l vs):motive l vs:=
 lY.rec (motive_1:=λz z z=>True) (motive_4:=λl vs z=>motive l vs) (motive_2:=λz z z=>True) (motive_3:=λz z z=>True) (motive_5:=λz z z=>True) trivial trivial trivial trivial (λz z z z=>trivial) (λz z z z=>trivial) (λz z z z z z=>trivial) (λz z z=>trivial) (λz z z=>trivial) (λz=>trivial) trivial (λz z z=>trivial) trivial (λz z z z=>trivial) trivial (λz z z z=>trivial) nil (λr rl z ih=>cons r rl ih) trivial (λz z z z z z=>trivial) h
theorem MQ.ind {motive:uP->dU->Prop}(nil:motive [] [])(cons:∀{n ds a us l vs},F a=some (.list us)->aK F ds us->ds.length<=cap->MQ F l vs->motive l vs->motive ((n,ds)::l) ((n,.ref a)::vs))(h:MQ F l vs):motive l vs:=
 MQ.rec (motive_1:=λz z z=>True) (motive_5:=λl vs z=>motive l vs) (motive_2:=λz z z=>True) (motive_3:=λz z z=>True) (motive_4:=λz z z=>True) trivial trivial trivial trivial (λz z z z=>trivial) (λz z z z=>trivial) (λz z z z z z=>trivial) (λz z z=>trivial) (λz z z=>trivial) (λz=>trivial) trivial (λz z z=>trivial) trivial (λz z z z=>trivial) trivial (λz z z z=>trivial) trivial (λz z z z=>trivial) nil (λe r hc rl z ih=>cons e r hc rl ih) h
end
theorem Rp.mono (le:Le F F')(h:Rp F d v):Rp F' d v:=
 Rp.rec (motive_1:=λd v z=>Rp F' d v) (motive_2:=λl vs z=>aK F' l vs) (motive_3:=λl vs z=>kQ F' l vs) (motive_4:=λl vs z=>lY F' l vs) (motive_5:=λl vs z=>MQ F' l vs) .none .bool .int .str (λe z h r=> .list (le _ _ e) r h) (λe z h r=> .tup (le _ _ e) r h) (λe1 e2 z z r1 r2=> .vec (le _ _ e1) (le _ _ e2) r1 r2) (λe z r=> .dict (le _ _ e) r) (λe z r=> .bh (le _ _ e) r) (λe=> .range (le _ _ e)) .const (λe z r=> .cK (le _ _ e) r)
  .nil (λz z x r=> .cons x r) .nil (λz z x r=> .cons x r) .nil (λz z x r=> .cons x r) .nil (λe z h z x r=> .cons (le _ _ e) x h r) h
theorem aK.mono {F F':ah}(le:Le F F')(h:aK F l vs):aK F' l vs:=aK.ind (motive:=λl vs=>aK F' l vs) .nil (λx z ih=> .cons (x.mono le) ih) h
theorem kQ.mono {F F':ah}(le:Le F F')(h:kQ F l vs):kQ F' l vs:=kQ.ind (motive:=λl vs=>kQ F' l vs) .nil (λx z ih=> .cons (x.mono le) ih) h
theorem lY.mono {F F':ah}(le:Le F F')(h:lY F l vs):lY F' l vs:=lY.ind (motive:=λl vs=>lY F' l vs) .nil (λx z ih=> .cons (x.mono le) ih) h
theorem aK.len {F:ah}(h:aK F l vs):vs.length=l.length:=aK.ind (motive:=λl vs=>vs.length=l.length) rfl (λz z ih=>aT Nat.succ ih) h
theorem aK.at' {F:ah}(h:aK F l vs):∀{i:Nat} {d:D},l[i]? =some d->∃v,vs[i]? =some v/\Rp F d v:=
 aK.ind (motive:=λl vs=>∀{i:Nat} {d:D},l[i]? =some d->∃v,vs[i]? =some v/\Rp F d v) (λe=>aA e) (λ{_ v _ _} x z ih {i _} e=>match i,e with
  |0,e=>⟨v,rfl,mT e▸x⟩
  |_+1,e=>ih e) h
theorem aK.ag1 {F:ah}(h:aK F l vs):∀{i:Nat} {v:ao},vs[i]? =some v->∃d,l[i]? =some d/\Rp F d v:=
 aK.ind (motive:=λl vs=>∀{i:Nat} {v:ao},vs[i]? =some v->∃d,l[i]? =some d/\Rp F d v) (λe=>aA e) (λ{d _ _ _} x z ih {i _} e=>match i,e with
  |0,e=>⟨d,rfl,mT e▸x⟩
  |_+1,e=>ih e) h
theorem aK.app {F:ah}(h:aK F l vs)(y:aK F m us):aK F (l++m) (vs++us):=aK.ind (motive:=λl vs=>aK F (l++m) (vs++us)) y (λx z ih=> .cons x ih) h
theorem aK.take {F:ah}(h:aK F l vs):∀n,aK F (l.take n) (vs.take n):=
 aK.ind (motive:=λl vs=>∀n,aK F (l.take n) (vs.take n)) (λn=>by rw[List.take_nil,List.take_nil];exact .nil) (λx z ih n=>match n with
  |0=> .nil
  |n+1=> .cons x (ih n)) h
theorem aK.drop {F:ah}(h:aK F l vs):∀n,aK F (l.drop n) (vs.drop n):=
 aK.ind (motive:=λl vs=>∀n,aK F (l.drop n) (vs.drop n)) (λn=>by rw[List.drop_nil,List.drop_nil];exact .nil) (λx r ih n=>match n with
  |0=> .cons x r
  |n+1=>ih n) h
theorem aK.rev {F:ah}(h:aK F l vs):aK F l.reverse vs.reverse:=aK.ind (motive:=λl vs=>aK F l.reverse vs.reverse) .nil (λx z ih=>by rw[Yx,Yx];exact ih.app (.cons x .nil)) h
theorem aK.set {F:ah}{vs:bC}(h:aK F l vs){n:Nat}{d:D}{v:ao}(r:Rp F d v):aK F (l.set n d) (vs.set n v):=
 aK.ind (motive:=λl vs=>∀n,aK F (l.set n d) (vs.set n v)) (λz=> .nil) (λx rl ih n=>match n with
  |0=> .cons r rl
  |n+1=> .cons x (ih n)) h n
theorem aK.rep {F:ah}{d:D}{v:ao}(h:Rp F d v):∀n,aK F (List.replicate n d) (List.replicate n v)
 |0=> .nil
 |n+1=> .cons h (aK.rep h n)
inductive Sl where
 |un|fz (d:D)|ow (d:D)|ln (d:D)|at (v:ao)
abbrev gm:=D->Sl
abbrev VS:=List (aa×Sl)
abbrev az:=D->VS->Prop
abbrev Dm:=Bool->VS->Prop
abbrev pU:=Sl->VS
inductive K9 (F:ah):uP->dU->cN->Prop
 |nil:K9 F [] [] []
 |cons {n ds a us l es cs}:aK F ds us->ds.length<=cap->K9 F l es cs->K9 F ((n,ds)::l) ((n,.ref a)::es) ((a,.list us)::cs)
theorem K9.mono (le:Le F F'){l:uP}{es:dU}{cs:cN}(h:K9 F l es cs):K9 F' l es cs:=by
 induction h with
 |nil=>exact .nil
 |cons r h z ih=>exact .cons (r.mono le) h ih
inductive Ow (F:ah):D->ao->cN->Prop
 |list {a l vs}:aK F l vs->l.length<=cap->Ow F (.list l) (.ref a) [(a,.list vs)]
 |dict {a l es ep}:kQ F l es->Ow F (.dict l) (.ref a) [(a,.dict es ep)]
 |bh {a l es}:lY F l es->Ow F (.bh l) (.ref a) [(a,.bh es)]
 |vec {a d ks kt i t di dt}:Rp F di i->Rp F dt t->Ow F (.vec ks di dt) (.ref a) [(a,.inst d),(d,.dJ (.str ks kt) i t)]
 |cK {a l es ep cs}:K9 F l es cs->Ow F (.cK l) (.ref a) ((a,.dict es ep)::cs)
theorem Ow.mono (le:Le F F'){d:D}{v:ao}{cs:cN}(h:Ow F d v cs):Ow F' d v cs:=
 Ow.rec (motive:=λd v cs z=>Ow F' d v cs) (λr h=> .list (r.mono le) h) (λr=> .dict (r.mono le)) (λr=> .bh (r.mono le)) (λr1 r2=> .vec (r1.mono le) (r2.mono le)) (λr=> .cK (r.mono le)) h
inductive Dn (mt:cP) (F:ah):Sl->nV->cN->Prop
 |un {ov}:Dn mt F .un ov []
 |fz {d v}:Rp F d v->Dn mt F (.fz d) (some v) []
 |ow {d v cs}:Ow F d v cs->(∀p∈cs,p.1∉mt)->Dn mt F (.ow d) (some v) cs
 |ln {d v cs}:Ow F d v cs->(∀p∈cs,p.1∈mt)->Dn mt F (.ln d) (some v) cs
 |at {v}:Dn mt F (.at v) (some v) []
inductive RV (mt:cP) (F:ah):VS->eX->cN->Prop
 |nil:RV mt F [] [] []
 |cons {x s ov cs V Vc own}:Dn mt F s ov cs->RV mt F V Vc own->RV mt F ((x,s)::V) ((x,ov)::Vc) (cs++own)
section
variable {mt:cP}{F F':ah}{x:aa}{V:VS}{Vc:eX}{own cs:cN}{d:D}{v:ao}
def SlV (mt:cP)(F:ah)(s:Sl)(ov:nV)(cs:cN):Prop:=Sl.casesOn (motive:=λz=>Prop) s (cs=[]) (λd=>∃v,ov=some v/\cs=[]/\Rp F d v) (λd=>∃v,ov=some v/\Ow F d v cs/\∀p∈cs,p.1∉mt)
 (λd=>∃v,ov=some v/\Ow F d v cs/\∀p∈cs,p.1∈mt) (λv=>ov=some v/\cs=[])
theorem Dn.inv (h:Dn mt F s ov cs):SlV mt F s ov cs:=Dn.casesOn (motive:=λs ov cs z=>SlV mt F s ov cs) h rfl (λr=>⟨_,rfl,rfl,r⟩) (λr n=>⟨_,rfl,r,n⟩) (λr n=>⟨_,rfl,r,n⟩) ⟨rfl,rfl⟩
def RVV (mt:cP)(F:ah)(V:VS)(Vc:eX)(own:cN):Prop:=List.casesOn (motive:=λz=>Prop) V (Vc=[]/\own=[]) λp V=>∃ov cs dG own',Vc=(p.1,ov)::dG/\own=cs++own'/\Dn mt F p.2 ov cs/\RV mt F V dG own'
theorem RV.inv (h:RV mt F V Vc own):RVV mt F V Vc own:=RV.casesOn (motive:=λV Vc own z=>RVV mt F V Vc own) h ⟨rfl,rfl⟩ λs r=>⟨_,_,_,_,rfl,rfl,s,r⟩
theorem RV.aZ {motive:(Vc:eX)->(own:cN)->RV mt F ((x,s)::V) Vc own->Prop}(cons:∀{ov cs Vc own} (q:Dn mt F s ov cs) (r:RV mt F V Vc own),motive ((x,ov)::Vc) (cs++own) (.cons q r))
  (h:RV mt F ((x,s)::V) Vc own):motive Vc own h:=Tv (h.inv:∃a b c d,_) λov cs dG own' z=>kU z λe1 e2 q r=>by clear z;subst e1;subst e2;exact cons q r
theorem RV.un (r:RV mt F V Vc own):RV mt F ((x,.un)::V) ((x,ov)::Vc) own:=.cons .un r
theorem RV.fz (q:Rp F d v)(r:RV mt F V Vc own):RV mt F ((x,.fz d)::V) ((x,some v)::Vc) own:=.cons (.fz q) r
theorem RV.ow (q:Ow F d v cs)(n:∀p∈cs,p.1∉mt)(r:RV mt F V Vc own):RV mt F ((x,.ow d)::V) ((x,some v)::Vc) (cs++own):=.cons (.ow q n) r
theorem RV.ln (q:Ow F d v cs)(n:∀p∈cs,p.1∈mt)(r:RV mt F V Vc own):RV mt F ((x,.ln d)::V) ((x,some v)::Vc) (cs++own):=.cons (.ln q n) r
theorem RV.at (r:RV mt F V Vc own):RV mt F ((x,.at v)::V) ((x,some v)::Vc) own:=.cons .at r
theorem Dn.mono (le:Le F F')(h:Dn mt F s ov cs):Dn mt F' s ov cs:=
 Dn.rec (motive:=λs ov cs z=>Dn mt F' s ov cs) .un (λr=> .fz (r.mono le)) (λr n=> .ow (r.mono le) n) (λr n=> .ln (r.mono le) n) .at h
theorem RV.mono (le:Le F F')(h:RV mt F V Vc own):RV mt F' V Vc own:=RV.rec (motive:=λV Vc own z=>RV mt F' V Vc own) .nil (λs z ih=> .cons (s.mono le) ih) h
end
abbrev PQ {α δ:Type}(mt:cP)(F:ah)(rest:cN)(R:ah->δ->α->Prop)(Q:δ->VS->Prop):α->S->Prop:=
 λv σ'=>∃d V' own',RV mt σ'.F V' σ'.V own'/\σ'.own=own'++rest/\Le F σ'.F/\R σ'.F d v/\Q d V'
def DT (fr:Fm)(A:aQ)(E:aS){α δ:Type}(R:ah->δ->α->Prop)(V:VS)(t:Sem α)(Q:δ->VS->Prop):Prop:=
 ∀F Vc own rest,RV fr.mt F V Vc own->T fr A t E ⟨F,Vc,own++rest⟩ (PQ fr.mt F rest R Q)
def uY (fr:Fm)(A:aQ)(E:aS){α δ:Type}(R:ah->δ->α->Prop)(V:VS)(t:ao->Sem α)(a:D)(Q:δ->VS->Prop):Prop:=
 ∀v F Vc own rest,RV fr.mt F V Vc own->Rp F a v->T fr A (t v) E ⟨F,Vc,own++rest⟩ (PQ fr.mt F rest R Q)
def gG (fr:Fm)(A:aQ)(E:aS){α δ:Type}(R:ah->δ->α->Prop)(V:VS)(t:ao->ao->Sem α)(a b:D)(Q:δ->VS->Prop):Prop:=
 ∀v u F Vc own rest,RV fr.mt F V Vc own->Rp F a v->Rp F b u->T fr A (t v u) E ⟨F,Vc,own++rest⟩ (PQ fr.mt F rest R Q)
def mZ (fr:Fm)(A:aQ)(E:aS){α δ:Type}(R:ah->δ->α->Prop)(V:VS)(t:bC->Sem α)(ds:ak)(Q:δ->VS->Prop):Prop:=
 ∀vs F Vc own rest,RV fr.mt F V Vc own->aK F ds vs->T fr A (t vs) E ⟨F,Vc,own++rest⟩ (PQ fr.mt F rest R Q)
section
variable {fr:Fm}{A:aQ}{α β δ ε:Type}{E:aS}{F:ah}{Vc:eX}{own rest:cN}{V:VS}{R:ah->δ->α->Prop}{R':ah->ε->β->Prop}
theorem T.go {mt:cP}(x:T fr A t E σ (PQ mt F rest R Q))
  (k:∀v F' dG own' d V',RV mt F' V' dG own'->Le F F'->R F' d v->Q d V'->Q' v ⟨F',dG,own'++rest⟩):T fr A t E σ Q':=
 x.mono λv σ' z0=>bB z0 λd V' own' ic e le r q=>by rw[show σ'=⟨σ'.F,σ'.V,own'++rest⟩ from e▸rfl];exact k v _ _ own' d V' ic le r q
theorem DT.go {Q':α->S->Prop}(x:DT fr A E R V t Q)(rv:RV fr.mt F V Vc own)
  (k:∀v F' dG own' d V',RV fr.mt F' V' dG own'->Le F F'->R F' d v->Q d V'->Q' v ⟨F',dG,own'++rest⟩):T fr A t E ⟨F,Vc,own++rest⟩ Q':=(x F Vc own rest rv).go k
theorem T.goE {mt:cP}(x:T fr A t E σ (PQ mt F rest R λd V=>d=d0/\V=acg))
  (k:∀v F' dG own',RV mt F' acg dG own'->Le F F'->R F' d0 v->Q' v ⟨F',dG,own'++rest⟩):T fr A t E σ Q':=
 x.go λv F' dG own' d V' rv le r q=>by rw[q.2] at rv;rw[q.1] at r;exact k v F' dG own' rv le r
theorem DT.mono (x:DT fr A E R V t Q)(h:∀d V',Q d V'->Q' d V'):DT fr A E R V t Q':=
 λF Vc own rest rv=>(x F Vc own rest rv).mono λv σ' z0=>bB z0 λd V' own' ic e le r q=>(aV d V' own' ic e le r (h _ _ q))
theorem cg {mt:cP}(rv:RV mt F' V' dG own')(le:Le F F')(r:R F' d v)(q:Q d V'):
  PQ mt F rest R Q v ⟨F',dG,own'++rest⟩:=(aV d V' own' rv rfl le r q)
theorem T.lift {mt:cP}{F₀:ah}(le:Le F₀ F)(x:T fr A t E ⟨F,Vc,own⟩ (PQ mt F rest R Q)):T fr A t E ⟨F,Vc,own⟩ (PQ mt F₀ rest R Q):=
 x.mono λv σ' z0=>bB z0 λd V' own' ic e le' r q=>(aV d V' own' ic e (le.trans le') r q)
theorem Dn.fzE {mt:cP}(h:Dn mt F (.fz d) ov cs):cs=[]/\∃v,ov=some v/\Rp F d v:=gb (h.inv:∃v,_) λv e e' r=>⟨e',v,e,r⟩
theorem RV.slot {mt:cP}(rv:RV mt F V Vc own){x:aa}{s:Sl}(h:(x,s)∈V):∃ov cs,(x,ov)∈Vc/\Dn mt F s ov cs:=by
 induction rv with
 |nil=>exact aR h
 |cons s z ih=>cases h with|head=>exact r9 _ _ (.head _) s|tail z h=>exact dw (ih h) λov cs a b=>r9 ov cs (.tail _ a) b
theorem RV.En {mt:cP}(rv:RV mt F V Vc own){d:D}(h:(x,.fz d)∈V):∃v,(x,some v)∈Vc/\Rp F d v:=
 dw (rv.slot h) λov cs a b=>aq b.fzE.2 λv e r=>⟨v,e▸a,r⟩
end
inductive Pv (x:aa) (s:Sl):VS->VS->Prop
 |here {s0 r}:Pv x s ((x,s0)::r) ((x,s)::r)
 |there {p r r'}:Pv x s r r'->Pv x s (p::r) (p::r')
inductive Cv (x:aa) (s s':Sl):VS->VS->Prop
 |here {r}:Cv x s s' ((x,s)::r) ((x,s')::r)
 |there {p r r'}:Cv x s s' r r'->Cv x s s' (p::r) (p::r')
theorem wG {X:Type}{a b:List X}(d:List X)(p:∃m,a.Perm m/\m.Sublist b):∃m,(a++d).Perm m/\m.Sublist (b++d):=
 let ⟨m,h1,h2⟩:=p
 ⟨m++d,h1.append_right d,h2.append (fZ d)⟩
theorem HV {X:Type}{c c' o o':List X}(p:∃m,o'.Perm m/\m.Sublist (c++o)):∃m,(c'++o').Perm m/\m.Sublist (c++(c'++o)):=by
 refine aq p λm h1 h2=>?_;have e:(c'++(c++o)).Perm (c++(c'++o)):=by rw[<-eN,<-eN];exact List.Perm.append_right o ET
 exact aq (List.exists_perm_sublist ((fZ c').append h2) e) λm' e1 e2=>⟨m',(h1.append_left c').trans e1.symm,e2⟩
theorem St.sub {own own':cN}(st:St fr ⟨F,Vc,own⟩ h)(p:∃m,own'.Perm m/\m.Sublist own):St fr ⟨F,Vc,own'⟩ h:=by refine aq p λm h1 h2=>?_;have mem:∀q∈own',q∈own:=λq hq=>h2.subset (h1.mem_iff.mp hq);exact⟨st.keep,st.kb,st.mg,st.Rz,st.ext,st.gr,st.sees,λq hq=>st.own q (mem q hq),(h1.map _).nodup_iff.mpr ((h2.map _).nodup st.nd),st.env,st.vars,⟨st.fY.1,λq hq=>st.fY.2 q (mem q hq)⟩,λy c e=>⟨(st.dM y c e).1,λq hq=>(st.dM y c e).2.1 q (mem q hq),(st.dM y c e).2.2⟩⟩
theorem RV.put {mt:cP}{F:ah}{x:aa}{v:ao}(p:Pv x (.fz d) V V')(r:Rp F d v):∀{Vc:eX} {own:cN},RV mt F V Vc own->
  ∃dG own',KQ x v Vc dG/\RV mt F V' dG own'/\own'.Sublist own:=by
 induction p with
 |here=>intro Vc own rv;induction rv using RV.aZ with|cons s rv=>exact eB _ _ .here (.cons (.fz r) rv) (YY _ _)
 |there z ih=>intro Vc own rv;induction rv using RV.aZ with|cons s rv=>exact dm (ih rv) λdG own' a b c=>eB _ _ (.there a) (.cons s b) ((fZ _).append c)
theorem RV.ai3 {mt:cP}{F:ah}{x:aa}{v:ao}{cs:cN}(p:Pv x (.ow d) V V')(r:Ow F d v cs)(hn:∀p∈cs,p.1∉mt):∀{Vc:eX} {own:cN},RV mt F V Vc own->
  ∃dG own',KQ x v Vc dG/\RV mt F V' dG own'/\∃m,own'.Perm m/\m.Sublist (cs++own):=by
 induction p with
 |here=>intro Vc own rv;induction rv using RV.aZ with|cons s rv=>exact eB _ _ .here (.cons (.ow r hn) rv) ⟨_,.refl _,(fZ _).append (YY _ _)⟩
 |there z ih=>intro Vc own rv;induction rv using RV.aZ with|cons s rv=>exact dm (ih rv) λdG own' a b c=>eB _ _ (.there a) (.cons s b) (HV c)
abbrev RB:ah->Bool->Bool->Prop:=λz b c=>c=b
inductive DF where
 |next|brk|cont|ret (d:D)
abbrev bY:=DF->VS->Prop
inductive RF (F:ah):DF->Flow->Prop
 |next:RF F .next .next
 |brk:RF F .brk .brk
 |cont:RF F .cont .cont
 |ret {d v}:Rp F d v->RF F (.ret d) (.ret v)
def RpV (F:ah)(d:D)(v:ao):Prop:=D.casesOn (motive_1:=λz=>Prop) d (v=.none) (λb=>v=.bool b) (λi=>∃t,v=.int i t) (λs=>∃t,v=.str s t)
 (λl=>∃a vs,v=.ref a/\F a=some (.list vs)/\aK F l vs/\l.length<=cap) (λl=>∃a vs,v=.ref a/\F a=some (.tup vs)/\aK F l vs/\l.length<=cap)
 (λks di dt=>∃a d kt i t,v=.ref a/\F a=some (.inst d)/\F d=some (.dJ (.str ks kt) i t)/\Rp F di i/\Rp F dt t)
 (λl=>∃a es ep,v=.ref a/\F a=some (.dict es ep)/\kQ F l es) (λl=>∃a es,v=.ref a/\F a=some (.bh es)/\lY F l es) (λa b c=>∃x,v=.ref x/\F x=some (.rng a b c)) (λu=>v=u)
 (λl=>∃a es ep,v=.ref a/\F a=some (.dict es ep)/\MQ F l es)
theorem Rp.inv (h:Rp F d v):RpV F d v:=Rp.casesOn (motive_1:=λd v z=>RpV F d v) h rfl rfl ⟨_,rfl⟩ ⟨_,rfl⟩ (λe r c=>⟨_,_,rfl,e,r,c⟩) (λe r c=>⟨_,_,rfl,e,r,c⟩)
 (λe f r q=>⟨_,_,_,_,_,rfl,e,f,r,q⟩) (λe r=>⟨_,_,_,rfl,e,r⟩) (λe r=>⟨_,_,rfl,e,r⟩) (λe=>⟨_,rfl,e⟩) rfl (λe r=>⟨_,_,_,rfl,e,r⟩)
def OwV (F:ah)(d:D)(v:ao)(cs:cN):Prop:=D.casesOn (motive_1:=λz=>Prop) d False (λz=>False) (λz=>False) (λz=>False) (λl=>∃a vs,v=.ref a/\cs=[(a,.list vs)]/\aK F l vs/\l.length<=cap) (λz=>False)
 (λks di dt=>∃a d kt i t,v=.ref a/\cs=[(a,.inst d),(d,.dJ (.str ks kt) i t)]/\Rp F di i/\Rp F dt t) (λl=>∃a es ep,v=.ref a/\cs=[(a,.dict es ep)]/\kQ F l es)
 (λl=>∃a es,v=.ref a/\cs=[(a,.bh es)]/\lY F l es) (λz z z=>False) (λz=>False) (λl=>∃a es ep c,v=.ref a/\cs=(a,.dict es ep)::c/\K9 F l es c)
theorem Ow.inv (h:Ow F d v cs):OwV F d v cs:=Ow.casesOn (motive:=λd v cs z=>OwV F d v cs) h (λr c=>⟨_,_,rfl,rfl,r,c⟩) (λr=>⟨_,_,_,rfl,rfl,r⟩) (λr=>⟨_,_,rfl,rfl,r⟩)
 (λr q=>⟨_,_,_,_,_,rfl,rfl,r,q⟩) (λr=>⟨_,_,_,_,rfl,rfl,r⟩)
section
variable {F:ah}
theorem Rp.Nx {motive:(v:ao)->Rp F .none v->Prop}(none:motive .none .none)(h:Rp F .none v):motive v h:=by have e:v=.none:=h.inv;subst e;exact none
theorem Rp.XD {motive:(v:ao)->Rp F (.bool b) v->Prop}(bool:motive (.bool b) .bool)(h:Rp F (.bool b) v):motive v h:=by have e:v=.bool b:=h.inv;subst e;exact bool
theorem Rp.cz {motive:(v:ao)->Rp F (.int i) v->Prop}(int:∀{t},motive (.int i t) .int)(h:Rp F (.int i) v):motive v h:=xE (p1:=λt=>v=.int i t) h.inv λt e=>by subst e;exact int
theorem Rp.fj {motive:(v:ao)->Rp F (.str s) v->Prop}(str:∀{t},motive (.str s t) .str)(h:Rp F (.str s) v):motive v h:=xE (p1:=λt=>v=.str s t) h.inv λt e=>by subst e;exact str
theorem Rp.listE {motive:(v:ao)->Rp F (.list l) v->Prop}(list:∀{a vs} (e:F a=some (.list vs)) (r:aK F l vs) (hc:l.length<=cap),motive (.ref a) (.list e r hc))(h:Rp F (.list l) v):motive v h:=ig (h.inv:∃a vs,_) λa vs e e1 r hc=>by subst e;exact list e1 r hc
theorem Rp.TU {motive:(v:ao)->Rp F (.tup l) v->Prop}(tup:∀{a vs} (e:F a=some (.tup vs)) (r:aK F l vs) (hc:l.length<=cap),motive (.ref a) (.tup e r hc))(h:Rp F (.tup l) v):motive v h:=ig (h.inv:∃a vs,_) λa vs e e1 r hc=>by subst e;exact tup e1 r hc
theorem Rp.HJ {motive:(v:ao)->Rp F (.vec ks di dt) v->Prop}(vec:∀{a d kt i t} (e:F a=some (.inst d)) (e':F d=some (.dJ (.str ks kt) i t)) (r:Rp F di i) (r':Rp F dt t),motive (.ref a) (.vec e e' r r'))(h:Rp F (.vec ks di dt) v):motive v h:=fX (h.inv:∃a d kt i t,_) λa d kt i t z=>jl z λe e1 e2 r q=>by clear z;subst e;exact vec e1 e2 r q
theorem Rp.rC {motive:(v:ao)->Rp F (.dict l) v->Prop}(dict:∀{a es ep} (e:F a=some (.dict es ep)) (r:kQ F l es),motive (.ref a) (.dict e r))(h:Rp F (.dict l) v):motive v h:=i9 (h.inv:∃a es ep,_) λa es ep e e1 r=>by subst e;exact dict e1 r
theorem Rp.afM {motive:(v:ao)->Rp F (.cK l) v->Prop}(cK:∀{a es ep} (e:F a=some (.dict es ep)) (r:MQ F l es),motive (.ref a) (.cK e r))(h:Rp F (.cK l) v):motive v h:=i9 (h.inv:∃a es ep,_) λa es ep e e1 r=>by subst e;exact cK e1 r
theorem Rp.Vu {motive:(v:ao)->Rp F (.range a b c) v->Prop}(range:∀{x} (e:F x=some (.rng a b c)),motive (.ref x) (.range e))(h:Rp F (.range a b c) v):motive v h:=aq (h.inv:∃x,_) λx e e1=>by subst e;exact range e1
theorem Rp.Ms {motive:(v:ao)->Rp F (.const u) v->Prop}(const:motive u .const){v:ao}(h:Rp F (.const u) v):motive v h:=by have e:v=u:=h.inv;subst e;exact const
theorem aK.fR {motive:(vs:bC)->aK F [] vs->Prop}(nil:motive [] .nil){vs:bC}(h:aK F [] vs):motive vs h:=by cases h with|nil=>exact nil
theorem aK.aZ {motive:(vs:bC)->aK F (d::l) vs->Prop}(cons:∀{v us} (r:Rp F d v) (rl:aK F l us),motive (v::us) (.cons r rl))(h:aK F (d::l) vs):motive vs h:=by cases h with|cons r rl=>exact cons r rl
theorem Ow.listE {motive:(v:ao)->(cs:cN)->Ow F (.list l) v cs->Prop}(list:∀{a vs} (r:aK F l vs) (hc:l.length<=cap),motive (.ref a) [(a,.list vs)] (.list r hc))(h:Ow F (.list l) v cs):motive v cs h:=ig (h.inv:∃a vs,_) λa vs e e1 r hc=>by subst e;subst e1;exact list r hc
theorem Ow.rC {motive:(v:ao)->(cs:cN)->Ow F (.dict l) v cs->Prop}(dict:∀{a es ep} (r:kQ F l es),motive (.ref a) [(a,.dict es ep)] (.dict r))(h:Ow F (.dict l) v cs):motive v cs h:=i9 (h.inv:∃a es ep,_) λa es ep e e1 r=>by subst e;subst e1;exact dict r
theorem Ow.WH {motive:(v:ao)->(cs:cN)->Ow F (.bh l) v cs->Prop}(bh:∀{a es} (r:lY F l es),motive (.ref a) [(a,.bh es)] (.bh r))(h:Ow F (.bh l) v cs):motive v cs h:=dm (h.inv:∃a es,_) λa es e e1 r=>by subst e;subst e1;exact bh r
theorem Ow.HJ {motive:(v:ao)->(cs:cN)->Ow F (.vec ks di dt) v cs->Prop}(vec:∀{a d kt i t} (r:Rp F di i) (r':Rp F dt t),motive (.ref a) [(a,.inst d),(d,.dJ (.str ks kt) i t)] (.vec r r'))(h:Ow F (.vec ks di dt) v cs):motive v cs h:=fX (h.inv:∃a d kt i t,_) λa d kt i t z=>kU z λe e1 r q=>by clear z;subst e;subst e1;exact vec r q
theorem RV.unE {mt:cP}{x:aa}{motive:(Vc:eX)->(own:cN)->RV mt F ((x,.un)::V) Vc own->Prop}(un:∀{Vc own ov} (r:RV mt F V Vc own),motive ((x,ov)::Vc) own (.un r)){Vc:eX}{own:cN}(h:RV mt F ((x,.un)::V) Vc own):motive Vc own h:=by induction h using RV.aZ with|cons s r=>have e:_=[]:=s.inv;subst e;exact un r
theorem RV.fzE {mt:cP}{x:aa}{motive:(Vc:eX)->(own:cN)->RV mt F ((x,.fz d)::V) Vc own->Prop}(fz:∀{v Vc own} (r:Rp F d v) (rv:RV mt F V Vc own),motive ((x,some v)::Vc) own (.fz r rv))(h:RV mt F ((x,.fz d)::V) Vc own):motive Vc own h:=by induction h using RV.aZ with|cons s r=>exact gb (s.inv:∃v,_) λv e1 e2 q=>by subst e1;subst e2;exact fz q r
theorem RV.owE {mt:cP}{x:aa}{motive:(Vc:eX)->(own:cN)->RV mt F ((x,.ow d)::V) Vc own->Prop}(ow:∀{v cs Vc own} (r:Ow F d v cs) (n:∀p∈cs,p.1∉mt) (rv:RV mt F V Vc own),motive ((x,some v)::Vc) (cs++own) (.ow r n rv)){Vc:eX}{own:cN}(h:RV mt F ((x,.ow d)::V) Vc own):motive Vc own h:=by induction h using RV.aZ with|cons s r=>exact gb (s.inv:∃v,_) λv e1 q n=>by subst e1;exact ow q n r
theorem RV.lnE {mt:cP}{x:aa}{motive:(Vc:eX)->(own:cN)->RV mt F ((x,.ln d)::V) Vc own->Prop}(ln:∀{v cs Vc own} (r:Ow F d v cs) (n:∀p∈cs,p.1∈mt) (rv:RV mt F V Vc own),motive ((x,some v)::Vc) (cs++own) (.ln r n rv)){Vc:eX}{own:cN}(h:RV mt F ((x,.ln d)::V) Vc own):motive Vc own h:=by induction h using RV.aZ with|cons s r=>exact gb (s.inv:∃v,_) λv e1 q n=>by subst e1;exact ln q n r
theorem RV.atE {mt:cP}{x:aa}{motive:(Vc:eX)->(own:cN)->RV mt F ((x,.at v)::V) Vc own->Prop}(«at»:∀{Vc own} (r:RV mt F V Vc own),motive ((x,some v)::Vc) own (.at r))(h:RV mt F ((x,.at v)::V) Vc own):motive Vc own h:=by induction h using RV.aZ with|cons s r=>exact xA (s.inv:_/\_) λe1 e2=>by subst e1;subst e2;exact «at» r
end
end
section
variable {fr:Fm}{A:aQ}{α β δ ε:Type}{E:aS}{V V':VS}{gl:dU}
theorem T.conv (x:T fr A t E σ Q)(h:∀a σ',Q a σ'->∃jE,(∀hp,St fr σ' hp->St fr jE hp)/\Q' a jE):T fr A t E σ Q':=λhp d tk st=>
 fk (x hp d tk st) (λa s' z0=>gv z0 λh' d' cX σ' e cI q=>aq (h a σ' q) λjE f q'=>(af h' d' cX jE e (f _ cI) q')) λz z y=>y
theorem BK (hw:iL fr)(p:KQ x v Vc dG)(f:∀hp,St fr ⟨F,dG,own⟩ hp->St fr σ' hp)(q:Q () σ'):
  T fr A (storeName fr.e x v) E ⟨F,Vc,own⟩ Q:=T.conv (yT (Q:=λz σ=>σ=⟨F,dG,own⟩) hw p rfl) λz z e=>⟨σ',e▸f,q⟩
theorem c9:cap<=sizeLine:=by rw[nR];decide
theorem xq (h:Q .next V):DT fr A E RF V (execs [] fr.e) Q:=λF Vc own rest rv=>gM (cg rv (.refl _) RF.next h)
def Pf (fr:Fm)(A:aQ)(E:aS)(rest:fc)(Q:bY):bY
 | .next,V'=>DT fr A E RF V' (execs rest fr.e) Q
 |f,V'=>Q f V'
theorem cL (h:DT fr A E RF V (exec ZY fr.e) (Pf fr A E rest Q)):DT fr A E RF V (execs (ZY::rest) fr.e) Q:=λF Vc own rs rv=>
 bq (h.go rv λv F' dG own' d V' ic le r q=>by
  cases r with
  |next=>exact T.lift le (q F' dG own' rs ic)
  |brk=>exact cg ic le RF.brk q
  |cont=>exact cg ic le RF.cont q
  |ret r=>exact cg ic le (RF.ret r) q)
theorem ao7 (h:DT fr A E RF V (execs rest fr.e) Q):Pf fr A E rest Q .next V:=h
theorem acB {Q:bY}
  (h:DT fr A E RB V (isTrue qz fr.e (eval qz fr.e)) λb V'=>(b=true->DT fr A E RF V' (execs body fr.e) Q)/\(b=false->DT fr A E RF V' (execs bH fr.e) Q)):DT fr A E RF V (exec (.If qz body bH pos) fr.e) Q:=λF Vc own rs rv=>
 ag9 (h.go rv λv F' dG own' d V' ic le r q=>by
  cases d<;>rw[r]
  .exact T.lift le (q.2 rfl F' dG own' rs ic)
  .exact T.lift le (q.1 rfl F' dG own' rs ic))
theorem Zs (h:DT fr A E Rp V (eval e fr.e) λv V'=>Q (.ret v) V'):DT fr A E RF V (exec (.Return (some e) pos) fr.e) Q:=λF Vc own rs rv=>
 BS (h.go rv λv F' dG own' d V' ic le r q=>cg ic le (RF.ret r) q)
theorem ahi (h:Q .next V):DT fr A E RF V (exec (.Pass pos) fr.e) Q:=λF Vc own rs rv=>ag8 (cg rv (.refl _) RF.next h)
theorem Zv (h:DT fr A E Rp V (eval e fr.e) λz V'=>Q .next V')(hs:autoParam (swapsWith e none pos.line fr.e=pure false) wu):DT fr A E RF V (exec (.Expr e pos) fr.e) Q:=λF Vc own rs rv=>by intro hp d tk st;exact Zd (h.go rv λv F' dG own' d V' ic le r q=>cg ic le RF.next q) st.env.kind hs hp d tk st
theorem Hr (hw:iL fr)
  (h:DT fr A E Rp V (eval value fr.e) λd V1=>∃V2,Pv x (.fz d) V1 V2/\Q .next V2)
  (hs:autoParam (swapsWith value (some (.Name x pos')) pos.line fr.e=pure false) wu):DT fr A E RF V (exec (.Assign [.Name x pos'] value pos) fr.e) Q:=λF Vc own rs rv=>
 mX (h.go rv λv F' dG own' d V' ic le r z0=>aq z0 λV2 p q=>clear% z0;by exact dm (ic.put p r) λjX bE p' ff sub=>BK hw p' (λhp st=>st.sub ⟨_,.refl _,sub.append (fZ _)⟩) (cg ff le RF.next q)) hs
def PO (mt:cP)(F:ah)(rest:cN)(Q:az)(v:ao)(σ':S):Prop:=∃d V' own' cs,RV mt σ'.F V' σ'.V own'/\σ'.own=cs++(own'++rest)/\Le F σ'.F/\Ow σ'.F d v cs/\(∀p∈cs,p.1∉mt)/\Q d V'
def Dt (fr:Fm)(A:aQ)(t:Sem ao)(E:aS)(V:VS)(Q:az):Prop:=
 ∀F Vc own rest,RV fr.mt F V Vc own->T fr A t E ⟨F,Vc,own++rest⟩ (PO fr.mt F rest Q)
theorem T.goO {mt:cP}{Q':yw}(x:T fr A t E σ (PO mt F rest Q))
  (k:∀v F' dG own' cs d V',RV mt F' V' dG own'->Le F F'->Ow F' d v cs->(∀p∈cs,p.1∉mt)->Q d V'->Q' v ⟨F',dG,cs++(own'++rest)⟩):T fr A t E σ Q':=
 x.mono λv σ' z0=>cU z0 λd V' own' cs ic e le r hn q=>by rw[show σ'=⟨σ'.F,σ'.V,cs++(own'++rest)⟩ from e▸rfl];exact k v _ _ own' cs d V' ic le r hn q
theorem Dt.go {Vc:eX}{Q:az}(x:Dt fr A t E V Q)(rv:RV fr.mt F V Vc own)
  (k:∀v F' dG own' cs d V',RV fr.mt F' V' dG own'->Le F F'->Ow F' d v cs->(∀p∈cs,p.1∉fr.mt)->Q d V'->Q' v ⟨F',dG,cs++(own'++rest)⟩):T fr A t E ⟨F,Vc,own++rest⟩ Q':=(x F Vc own rest rv).goO k
theorem eK {Q:bY}(hw:iL fr)
  (h:Dt fr A (eval value fr.e) E V λd V1=>∃V2,Pv x (.ow d) V1 V2/\Q .next V2)
  (hs:autoParam (swapsWith value (some (.Name x pos')) pos.line fr.e=pure false) wu):DT fr A E RF V (exec (.Assign [.Name x pos'] value pos) fr.e) Q:=λF Vc own rs rv=>
 mX (h.go rv λv F1 c5 aC cs d V1 bQ le r hn q=>aq q λV2 p q=>
  dm (bQ.ai3 p r hn) λjX bE p' ff sub=>BK hw p' (λhp st=>st.sub (by rw[<-eN];exact wG rs sub)) (cg ff le RF.next q)) hs
theorem Lw {l:uP}:∀{F:ah} {es:dU} {cs:cN},K9 F l es cs->(∀p∈cs,p.1∉fr.mt)->
  (∀F',Le F F'->MQ F' l es->T fr A t E ⟨F',Vc,own⟩ Q)->T fr A t E ⟨F,Vc,cs++own⟩ Q:=by
 induction l with
 |nil=>intro F es cs r hn k;cases r;exact k F (.refl _) .nil
 |cons p l ih=>
  intro F es cs r hn k;cases r with
  |cons r hl rest=>exact i8 .here (hn _ (.head _)) λF' le e=>ih (rest.mono le) (λp hp=>hn p (.tail _ hp)) λZL le' rm=>k ZL (le.trans le') (.cons (le' _ _ e) ((r.mono le).mono le') hl rm)
theorem p9 (r:Ow F d v cs)(hn:∀p∈cs,p.1∉fr.mt)
  (k:∀F',Le F F'->Rp F' d v->T fr A t E ⟨F',Vc,own⟩ Q):∀{o},(o.Perm (cs++own))->T fr A t E ⟨F,Vc,o⟩ Q:=by
 intro o hp;refine T.shift (σ':=⟨F,Vc,cs++own⟩) (λh st=>st.sub ⟨_,hp.symm,fZ _⟩) ?_;induction r using Ow.casesOn with
 | @list a l vs rl hl=>exact i8 .here (hn _ (.head _)) λF' le e=>k F' le (.list e (rl.mono le) hl)
 | @dict a l es ep rl=>exact i8 .here (hn _ (.head _)) λF' le e=>k F' le (.dict e (rl.mono le))
 | @bh a l es rl=>exact i8 .here (hn _ (.head _)) λF' le e=>k F' le (.bh e (rl.mono le))
 | @vec a x ks kt i t di dt r1 r2=>exact i8 .here (hn _ (.head _)) λF' le e=>i8 .here (hn _ (.tail _ (.head _))) λZL le' e'=>k ZL (le.trans le') (.vec (le' _ _ e) e' ((r1.mono le).mono le') ((r2.mono le).mono le'))
 | @cK a l es ep cs rm=>exact i8 .here (hn _ (.head _)) λF' le e=>Lw (rm.mono le) (λp hp=>hn p (.tail _ hp)) λZL le' rm'=>k ZL (le.trans le') (.cK (le' _ _ e) rm')
theorem Za {F:ah}{rest:cN}{Q:az}(x:T fr A t E σ (PO fr.mt F rest Q)):T fr A t E σ (PQ fr.mt F rest Rp Q):=by rw[show t=(t>>=λv=>(pure v:Sem ao)) from(bind_pure t).symm];exact T.bind (x.goO λv F1 c5 aC cs d V1 bQ le r hn q=>p9 r hn (λF2 fM r2=>T.pure (cg (bQ.mono fM) (le.trans fM) r2 q)) (.refl _))
theorem uS (h:Dt fr A t E V Q):DT fr A E Rp V t Q:=λF Vc own rs rv=>Za (h F Vc own rs rv)
inductive Hs {X:Type} (p:X):List X->Prop
 |here {l}:Hs p (p::l)
 |there {q l}:Hs p l->Hs p (q::l)
theorem Hs.mem {X:Type}{p:X}{l:List X}(h:Hs p l):p∈l:=by
 induction h with
 |here=>exact .head _
 |there z ih=>exact .tail _ ih
theorem aeI (hf:dH fr gl){x:aa}{pos:Pos}(hx:Hs (x,.fz d) V)(h:Q d V):DT fr A E Rp V (eval (.Name x pos) fr.e) Q:=λF Vc own rs rv=>
 let ⟨_,hv,r⟩:=rv.En hx.mem
 dF hf hv (cg rv (.refl _) r h)
theorem zQ {X:Type}{a b c d:List X}(p:a.Perm (c++d)):(b++a).Perm (c++(b++d)):=by refine(p.append_left b).trans ?_;simp only[<-eN,<-eN];exact List.Perm.append_right d ET
theorem RV.ale {mt:cP}(c:Cv x (.ow d) (.fz d) V V'):∀{Vc:eX} {own:cN},RV mt F V Vc own->
  ∃v own' cs,(x,some v)∈Vc/\Ow F d v cs/\(∀p∈cs,p.1∉mt)/\own.Perm (cs++own')/\∀F',Le F F'->Rp F' d v->RV mt F' V' Vc own':=by
 induction c with
 |here=>
  intro Vc own rv;induction rv using RV.owE with
  |ow r n rv=>exact(aV _ _ _ (.head _) r n (.refl _) (λF' le r'=> .fz r' (rv.mono le)))
 |there z ih=>
  intro Vc own rv;cases rv with
  |cons s rv=>exact bB (ih rv) λv o cs a b n p q=>aV v _ cs (.tail _ a) b n (zQ p) λF' le r=> .cons (s.mono le) (q F' le r)
theorem aha (hf:dH fr gl){x:aa}(c:Cv x (.ow d) (.fz d) V V')(h:Q d V'):DT fr A E Rp V (eval (.Name x pos) fr.e) Q:=λF Vc own rs rv=>by refine bB (rv.ale c) λv o cs a b n p q=>p9 (own:=o++rs) b n (λF' le r=>dF hf a (cg (q F' le r) le r h)) ?_;simp only[<-eN];exact p.append_right rs
theorem ahf (hf:dH fr gl){x:aa}{pos:Pos}(hx:Hs (x,v) gl)(h:Q (.const v) V):DT fr A E Rp V (eval (.Name x pos) fr.e) Q:=λF Vc own rs rv=>
 iM hf hx.mem (cg rv (.refl _) .const h)
theorem aeJ (h:Q (.int i) V):DT fr A E Rp V (eval (.Constant (.int i) k pos) fr.e) Q:=λF Vc own rs rv=>alE λt=>cg rv (.refl _) .int h
theorem alK (h:Q (.str x) V):DT fr A E Rp V (eval (.Constant (.str x) k pos) fr.e) Q:=λF Vc own rs rv=>KG λt=>cg rv (.refl _) .str h
theorem ahe (h:Q .none V):DT fr A E Rp V (eval (.Constant .none k pos) fr.e) Q:=λF Vc own rs rv=>ag6 (cg rv (.refl _) .none h)
theorem ahg (h:Q (.bool b) V):DT fr A E Rp V (eval (.Constant (.bool b) k pos) fr.e) Q:=λF Vc own rs rv=>Hg (cg rv (.refl _) .bool h)
theorem acF
  (h:DT fr A E Rp V (eval l fr.e) λa V1=>DT fr A E Rp V1 (eval r fr.e) λb V2=>gG fr A E Rp V2 (binaryOp op) a b Q):DT fr A E Rp V (eval (.BinOp l op r pos) fr.e) Q:=λF Vc own rs rv=>
 O6 (h.go rv λa F1 c5 aC da V1 bQ cM ra q1=>q1.go bQ λb F2 jX bE db V2 ff fM rb q2=>T.lift (cM.trans fM) (q2 a b F2 jX bE rs ff (ra.mono fM) rb))
theorem S2
  (h:DT fr A E Rp V (eval l fr.e) λa V1=>DT fr A E Rp V1 (eval r fr.e) λb V2=>gG fr A E Rp V2 (compareOp op) a b Q)(hm:autoParam (behindInMarks op r=false) wu):DT fr A E Rp V (eval (.Compare l [op] [r] pos) fr.e) Q:=λF Vc own rs rv=>
 EY (h.go rv λa F1 c5 aC da V1 bQ cM ra q1=>q1.go bQ λb F2 jX bE db V2 ff fM rb q2=>T.lift (cM.trans fM) (q2 a b F2 jX bE rs ff (ra.mono fM) rb)) hm
theorem BX {Q:Dm}
  (h:DT fr A E Rp V (eval l fr.e) λa V1=>DT fr A E Rp V1 (eval r fr.e) λb V2=>gG fr A E Rp V2 (compareOp op) a b λd V3=>uY fr A E RB V3 truthy d Q)(hm:autoParam (behindInMarks op r=false) wu):DT fr A E RB V (isTrue (.Compare l [op] [r] pos) fr.e whole) Q:=λF Vc own rs rv=>
 mW (h.go rv λa F1 c5 aC da V1 bQ cM ra q1=>q1.go bQ λb F2 jX bE db V2 ff fM rb q2=>(q2 a b F2 jX bE rs ff (ra.mono fM) rb).go λv F3 nH cY d V3 lH iP r3 q3=>T.lift ((cM.trans fM).trans iP) (q3 v F3 nH cY rs lH r3)) hm
theorem Zk (h:DT fr A E Rp V whole λv V1=>uY fr A E RB V1 truthy v Q)(he:autoParam (isTrue e fr.e whole=(do let v<-whole;standAt e.pos;holding [v] (truthy v))) wu):DT fr A E RB V (isTrue e fr.e whole) Q:=λF Vc own rs rv=>
 Y6 (h.go rv λv F1 c5 aC d V1 bQ cM r1 q1=>T.lift cM (q1 v F1 c5 aC rs bQ r1)) he
theorem ahb (h:DT fr A E RB V (isTrue x fr.e (eval x fr.e)) λc V'=>Q (!c) V'):DT fr A E RB V (isTrue (.UnaryOp .Not x pos) fr.e whole) Q:=λF Vc own rs rv=>
 ag3 (h.go rv λv F1 c5 aC d V1 bQ cM r1 q1=>cg bQ cM (by subst r1;rfl) q1)
theorem SY (h:Q true V):DT fr A E RB V (isTrue (.BoolOp .And [] pos) fr.e whole) Q:=λF Vc own rs rv=>SP (cg rv (.refl _) rfl h)
theorem Zl (h:Q false V):DT fr A E RB V (isTrue (.BoolOp .Or [] pos) fr.e whole) Q:=λF Vc own rs rv=>KD (cg rv (.refl _) rfl h)
theorem ahd
  (h:DT fr A E RB V (isTrue x fr.e (eval x fr.e)) λc V'=>(c=true->DT fr A E RB V' (isTrue (.BoolOp .And rest pos) fr.e whole) Q)/\(c=false->Q false V')):DT fr A E RB V (isTrue (.BoolOp .And (x::rest) pos) fr.e whole) Q:=λF Vc own rs rv=>
 ag4 (h.go rv λv F1 c5 aC d V1 bQ cM r1 q1=>by
  subst r1;cases v
  .exact cg bQ cM rfl (q1.2 rfl)
  .exact T.lift cM (q1.1 rfl F1 c5 aC rs bQ))
theorem alJ
  (h:DT fr A E RB V (isTrue x fr.e (eval x fr.e)) λc V'=>(c=true->Q true V')/\(c=false->DT fr A E RB V' (isTrue (.BoolOp .Or rest pos) fr.e whole) Q)):DT fr A E RB V (isTrue (.BoolOp .Or (x::rest) pos) fr.e whole) Q:=λF Vc own rs rv=>
 Y7 (h.go rv λv F1 c5 aC d V1 bQ cM r1 q1=>by
  subst r1;cases v
  .exact T.lift cM (q1.2 rfl F1 c5 aC rs bQ)
  .exact cg bQ cM rfl (q1.1 rfl))
theorem acA {Q:az}
  (h:DT fr A E RB V (isTrue qz fr.e (eval qz fr.e)) λb V'=>(b=true->DT fr A E Rp V' (eval body fr.e) Q)/\(b=false->DT fr A E Rp V' (eval bH fr.e) Q)):DT fr A E Rp V (eval (.IfExp qz body bH pos) fr.e) Q:=λF Vc own rs rv=>
 acm (h.go rv λv F1 c5 aC d V1 bQ cM r1 q1=>by
  subst r1;cases v
  .exact T.lift cM (q1.2 rfl F1 c5 aC rs bQ)
  .exact T.lift cM (q1.1 rfl F1 c5 aC rs bQ))
theorem acw {x:aD}(h:DT fr A E Rp V (eval x fr.e) λv V1=>uY fr A E Rp V1 (unaryOp op) v Q):DT fr A E Rp V (eval (.UnaryOp op x pos) fr.e) Q:=λF Vc own rs rv=>
 ack (h.go rv λv F1 c5 aC d V1 bQ cM r1 q1=>T.lift cM (q1 v F1 c5 aC rs bQ r1))
theorem aho {Q:az}(h:DT fr A E Rp V (eval value fr.e) λo V1=>uY fr A E Rp V1 (λo=>getAttr o wm true) o Q)
  (he:autoParam (eval (.Attribute value wm pos) fr.e=(do
   let o<-eval value fr.e
   standAt pos.atName
   let r<-holding [o] (getAttr o wm true);letTemporaryGo value o r
   pure r)) wu):DT fr A E Rp V (eval (.Attribute value wm pos) fr.e) Q:=λF Vc own rs rv=>
 MO (h.go rv λv F1 c5 aC d V1 bQ cM r1 q1=>T.lift cM (q1 v F1 c5 aC rs bQ r1)) he
theorem alM (h:DT fr A E Rp V (eval value fr.e) λo V1=>DT fr A E Rp V1 (eval slice fr.e) λi V2=>gG fr A E Rp V2 (subscriptTail value slice) o i Q):DT fr A E Rp V (eval (.Subscript value slice pos) fr.e) Q:=λF Vc own rs rv=>
 KO (h.go rv λa F1 c5 aC da V1 bQ cM ra q1=>q1.go bQ λb F2 jX bE db V2 ff fM rb q2=>T.lift (cM.trans fM) (q2 a b F2 jX bE rs ff (ra.mono fM) rb))
theorem l6 (h:Q [] V):DT fr A E aK V (spliced (backTo pos (starEach [] fr.e))) Q:=λF Vc own rs rv=>dP (cg rv (.refl _) aK.nil h)
theorem sJ (h:DT fr A E Rp V (eval e fr.e) λd V1=>DT fr A E aK V1 (spliced (backTo pos (starEach rest fr.e))) λds V2=>Q (d::ds) V2)
  (he:autoParam (starEach (e::rest) fr.e=(false,eval e fr.e)::starEach rest fr.e) wu):DT fr A E aK V (spliced (backTo pos (starEach (e::rest) fr.e))) Q:=λF Vc own rs rv=>
 bU (h.go rv λa F1 c5 aC da V1 bQ cM ra q1=>q1.go bQ λb F2 jX bE db V2 ff fM rb q2=>cg ff (cM.trans fM) (.cons (ra.mono fM) rb) q2) he
theorem Zp (hf:dH fr gl)(h:DT fr A E aK V (spliced (backTo pos (starEach C7 fr.e))) λds V1=>ds.length<=cap/\Q (.tup ds) V1):DT fr A E Rp V (eval (.Tuple C7 k pos) fr.e) Q:=λF Vc own rs rv=>
 Zb (h.go rv λvs F1 c5 aC ds V1 bQ cM r1 q1=>MJ (λa F2 fM e=>cg (bQ.mono fM) (cM.trans fM) (.tup e (r1.mono fM) q1.1) q1.2) (by rw[r1.len];exact aB q1.1 c9))
theorem sH (h:∀a,a∉fr.mt->Q (.ref a) ⟨F,Vc,(a,.list vs)::own⟩)(jm:vs.length<=sizeLine):T fr A (newList vs) E ⟨F,Vc,own⟩ Q:=λhp d tk st=>
 G4 (af _ d tk _ rfl (st.bM (c:=.list vs) ⟨0,rfl⟩ rfl) (h _ st.fresh.2.2.1)) (by show vs.toArray.size<=sizeLine;rw[g7];exact jm)
theorem Hi (hf:dH fr gl)(h:DT fr A E aK V (spliced (backTo pos (starEach C7 fr.e))) λds V1=>ds.length<=cap/\Q (.list ds) V1):Dt fr A (eval (.List C7 pos) fr.e) E V Q:=λF Vc own rs rv=>
 O5 (h.go rv λvs F1 c5 aC ds V1 bQ cM r1 q1=>sH (λa ha=>(aL _ _ _ _ bQ rfl cM (.list r1 q1.1) (λp hp=>by cases hp with|head=>exact ha|tail z h=>exact aR h) q1.2)) (by rw[r1.len];exact aB q1.1 c9))
end
section
variable {fr:Fm}{A:aQ}{α β δ ε:Type}{E:aS}{V V':VS}{gl gl':dU}
noncomputable abbrev cl (f:ao)(vs:bC):Sem ao:=call f vs
noncomputable def V0 (ps:ay)(ds:ak)(ls:ay):VS:=ps.zipWith (λx d=>(x,.fz d)) ds++ls.map λx=>(x,.un)
noncomputable def ie:DF->D
 | .ret d=>d
 |_=> .none
theorem RV.un0 {mt:cP}{F:ah}:∀ls:ay,RV mt F (ls.map λx=>(x,.un)) (ls.map λx=>(x,none)) []
 |[]=> .nil
 |_::ls=> .un (RV.un0 ls)
theorem RV.init {mt:cP}{F:ah}(ls:ay):∀{ps:ay} {ds:ak} {vs:bC},aK F ds vs->RV mt F (V0 ps ds ls) (K8 ps vs ls) []
 |[],_,_,_=>RV.un0 ls
 |_::_,_,_,.nil=>by unfold V0 K8;rw[aeb,aeb];exact RV.un0 ls
 |x::ps,_,_,.cons r rs=> .fz r (RV.init ls rs)
theorem RF.am1 {F:ah}{d:DF}{v:Flow}(r:RF F d v):Rp F (ie d) (kK v):=by
 induction r using RF.casesOn with
 |ret r=>exact r
 |_=>exact .none
theorem Pa {f:av}{fd:FuncData}{body:fc}{ps ls:ay}{ds dsa:ak}{n:Nat}{P:kc}{Q:az}
  (df:dI f fd body ps ls gl')(hf:dH fr gl)(room:cC A (n+1))(hl:dsa.length=ps.length)(hv:∀F vs,aK F ds vs->∃va,aK F dsa va/\∀P S,peek (K P) S (bindArgs fd ⟨vs,[]⟩)=some (ps.zip va))
  (fV:∀aP A',dH aP gl'->iL aP->cC A' n->aP.e.scope=fd.scope->DT aP A' (λz z=>False) RF (V0 ps dsa ls) (execs body aP.e) (λfl z=>P (ie fl)))
  (k:∀d,P d->Q d V):mZ fr A E Rp V (cl (.ref f)) ds Q:=λvs F Vc own rest rv r=>aq (hv F vs r) λva ra hb=>
 T.conv (yU (om:=[]) (rest:=own++rest) (P:=λv F' z=>∃d,Rp F' d v/\P d) df hf.cx room (ra.len.trans hl) (hb _) (λaP hF hW cx e1 e2 z=>
  (fV aP (A.deeper aP.e) hF hW (room.deeper _) e2 F _ [] [] (RV.init ls ra)).mono λfl σ' z1=>bB z1 λd V' own' ic e le rr q=>⟨_,rr.am1,q⟩)
  λv F' wO le z z0=>aq z0 λd rd hd=>⟨⟨F',Vc,own++rest⟩,λhp st=>st.sub ⟨_,.refl _,YY ..⟩,cg (rv.mono le) le rd (k d hd)⟩) λz z h=>h
def aE (f:av)(n:Nat)(ds:ak)(P:kc):Prop:=
 ∀(fr:Fm) (gl:dU) (A:aQ) (E:aS) (V:VS) (Q:az),dH fr gl->cC A n->(∀d,P d->Q d V)->mZ fr A E Rp V (cl (.ref f)) ds Q
theorem aE.of {f:av}{fd:FuncData}{body:fc}{ps ls:ay}{ds:ak}{n:Nat}{P:kc}(df:dI f fd body ps ls gl')(hl:ds.length=ps.length)
  (fV:∀fr A,dH fr gl'->iL fr->cC A n->fr.e.scope=fd.scope->DT fr A (λz z=>False) RF (V0 ps ds ls) (execs body fr.e) (λfl z=>P (ie fl))):aE f (n+1) ds P:=
 λfr gl A E V Q hf room k=>Pa df hf room hl (λF vs r=>⟨vs,r,λP S=>df.bind P vs (r.len.trans hl) S⟩) fV k
theorem aE.run {f:av}{n m:Nat}{ds:ak}{P:kc}{Q:az}(x:aE f n ds P)(hf:dH fr gl)(room:cC A m)(hm:n<=m)(k:∀d,P d->Q d V):mZ fr A E Rp V (cl (.ref f)) ds Q:=
 x fr gl A E V Q hf (room.le hm) k
theorem Pe (hf:dH fr gl){g:aa}{v:ao}{nO:Pos}{args:c7}{pos:Pos}{Q:az}(hx:Hs (g,v) gl)
  (h:DT fr A E aK V (spliced (backTo pos (starEach args fr.e))) λds V1=>mZ fr A E Rp V1 (cl v) ds Q)
  (he:autoParam (eval (.Call (.Name g nO) args [] pos) fr.e=(do callWith pos (<-eval (.Name g nO) fr.e) [] (backTo pos (starEach args fr.e)) (backToKw pos (keywordEach [] fr.e)))) wu)
  (hs:autoParam ((backTo pos (starEach args fr.e)).any (·.1)=false) wu):DT fr A E Rp V (eval (.Call (.Name g nO) args [] pos) fr.e) Q:=λF Vc own rs rv=>
 iN (iM hf hx.mem (bJ hf.cx (hf.gl _ hx.mem).2.2.2 (h.go rv λvs F1 c5 aC ds V1 bQ cM r1 q1=>T.lift cM (q1 vs F1 c5 aC rs bQ r1)) hs)) he
theorem Pd (hf:dH fr gl){g:aa}{v:ao}{nO:Pos}{args:c7}{pos:Pos}{Q:az}(hx:Hs (g,.fz (.const v)) V)(hk:wU fr.w.params v=true)
  (h:DT fr A E aK V (spliced (backTo pos (starEach args fr.e))) λds V1=>mZ fr A E Rp V1 (cl v) ds Q)
  (he:autoParam (eval (.Call (.Name g nO) args [] pos) fr.e=(do callWith pos (<-eval (.Name g nO) fr.e) [] (backTo pos (starEach args fr.e)) (backToKw pos (keywordEach [] fr.e)))) wu)
  (hs:autoParam ((backTo pos (starEach args fr.e)).any (·.1)=false) wu):DT fr A E Rp V (eval (.Call (.Name g nO) args [] pos) fr.e) Q:=λF Vc own rs rv=>by
 refine aq (rv.En hx.mem) λu hu ru=>?_;induction ru using Rp.Ms;exact iN (dF hf hu (bJ hf.cx hk (h.go rv λvs F1 c5 aC ds V1 bQ cM r1 q1=>T.lift cM (q1 vs F1 c5 aC rs bQ r1)) hs)) he
section
variable {fd:FuncData}{p q r s t:aa}{P:aY}{vals:bC}
abbrev E0 (fd:FuncData)(ps:ay):Prop:=∀P (vals:bC),vals.length=ps.length->∀S,peek (K P) S (bindArgs fd ⟨vals,[]⟩)=some (ps.zip vals)
theorem eF {α:Type}{l:List α}{n:Nat}(h:l.length=n+1):∃a t,l=a::t/\t.length=n:=match l with|a::t=>(r9 a t rfl (Oz h))
theorem vm {α:Type}{l:List α}(h:l.length=0):l=[]:=match l with|[]=>rfl
def wk : Lean.Syntax := Lean.Unhygienic.run do return (← `(Lean.Parser.Tactic.tacticSeq| intros; kernel_rfl)).raw
theorem bf (h:autoParam (∀P S a,peek (K P) S (bindArgs fd ⟨[a],[]⟩)=some [(p,a)]) wk):E0 fd [p]:=λP vals e S=>by refine dw (eF e) λa v1 e1 l1=>?_;rw[e1,vm l1];exact h P S a
theorem fG (h:autoParam (∀P S a b,peek (K P) S (bindArgs fd ⟨[a,b],[]⟩)=some [(p,a),(q,b)]) wk):E0 fd [p,q]:=λP vals e0 S=>by refine dw (eF e0) λa v1 e1 l1=>dw (eF l1) λb v2 e2 l2=>?_;rw[e1,e2,vm l2];exact h P S a b
theorem sE (h:autoParam (∀P S a b c,peek (K P) S (bindArgs fd ⟨[a,b,c],[]⟩)=some [(p,a),(q,b),(r,c)]) wk):E0 fd [p,q,r]:=λP vals e0 S=>by refine dw (eF e0) λa v1 e1 l1=>dw (eF l1) λb v2 e2 l2=>dw (eF l2) λc v3 e3 l3=>?_;rw[e1,e2,e3,vm l3];exact h P S a b c
theorem GX (h:autoParam (∀P S a b c d,peek (K P) S (bindArgs fd ⟨[a,b,c,d],[]⟩)=some [(p,a),(q,b),(r,c),(s,d)]) wk):E0 fd [p,q,r,s]:=λP vals e0 S=>by refine dw (eF e0) λa v1 e1 l1=>dw (eF l1) λb v2 e2 l2=>dw (eF l2) λc v3 e3 l3=>dw (eF l3) λd v4 e4 l4=>?_;rw[e1,e2,e3,e4,vm l4];exact h P S a b c d
theorem GW (h:autoParam (∀P S a b c d e,peek (K P) S (bindArgs fd ⟨[a,b,c,d,e],[]⟩)=some [(p,a),(q,b),(r,c),(s,d),(t,e)]) wk):E0 fd [p,q,r,s,t]:=λP vals e0 S=>by refine dw (eF e0) λa v1 e1 l1=>dw (eF l1) λb v2 e2 l2=>dw (eF l2) λc v3 e3 l3=>dw (eF l3) λd v4 e4 l4=>dw (eF l4) λe v5 e5 l5=>?_;rw[e1,e2,e3,e4,e5,vm l5];exact h P S a b c d e
end
theorem b9 (st:St fr ⟨F,Vc,own++rest⟩ hp)
  (rv:RV fr.mt F V Vc own)(r:R F d v)(q:Q d V):∃(h':Heap) (d':Drawn) (cX:Nat) (σ':S),(⟨hp, #[],dr,tk,fr.os⟩:cO)=⟨h', #[],d',cX,fr.os⟩/\St fr σ' h'/\PQ fr.mt F rest R Q v σ':=
 (af hp dr tk _ rfl st (cg rv (.refl _) r q))
theorem afA {Q:az}(h:Q (.int (a+b)) V):gG fr A E Rp V (binaryOp .Add) (.int a) (.int b) Q:=λv u F Vc own rest rv ra rb=>by induction ra using Rp.cz;induction rb using Rp.cz;exact λhp d tk st=>add_int (b9 st rv .int h)
theorem afl {Q:az}(h:Q (.int (a-b)) V):gG fr A E Rp V (binaryOp .Sub) (.int a) (.int b) Q:=λv u F Vc own rest rv ra rb=>by induction ra using Rp.cz;induction rb using Rp.cz;exact λhp d tk st=>sub_int (b9 st rv .int h)
theorem FD (h:Q (.int (a*b)) V)(hm:IntMulOk a b):gG fr A E Rp V (binaryOp .Mult) (.int a) (.int b) Q:=λv u F Vc own rest rv ra rb=>by induction ra using Rp.cz;induction rb using Rp.cz;exact λhp d tk st=>mul_int (b9 st rv .int h) hm
theorem mC {a b:Int}(h:Q (.int (a.fmod b)) V)(hb:b≠0):gG fr A E Rp V (binaryOp .Mod) (.int a) (.int b) Q:=λv u F Vc own rest rv ra rb=>by induction ra using Rp.cz;induction rb using Rp.cz;exact λhp d tk st=>mod_int hb (b9 st rv .int h)
theorem yL {a b:Int}{Q:az}(h:Q (.int (a.fdiv b)) V)(hb:b≠0)(hs:b.natAbs<1073741824):gG fr A E Rp V (binaryOp .FloorDiv) (.int a) (.int b) Q:=λv u F Vc own rest rv ra rb=>by induction ra using Rp.cz;induction rb using Rp.cz;exact λhp d tk st=>floordiv_int hb (b9 st rv .int h) (.inl (PyProof.noPylong_small hs))
theorem afm {Q:az}(h:Q (.int (a ^ n.toNat)) V)(hn:0<=n)(hn2:n<=1000000)(ha:a.natAbs<2 ^ 64):gG fr A E Rp V (binaryOp .Pow) (.int a) (.int n) Q:=λv u F Vc own rest rv ra rb=>by induction ra using Rp.cz;induction rb using Rp.cz;exact λhp d tk st=>pow_int_small hn hn2 ha (b9 st rv .int h)
theorem afn (h:Q (.int (-a)) V):uY fr A E Rp V (unaryOp .USub) (.int a) Q:=λv F Vc own rest rv ra=>by induction ra using Rp.cz;exact λhp d tk st=>P.neg_int (b9 st rv .int h)
theorem ajb {Q:az}(h:Q (.bool (decide (a<b))) V):gG fr A E Rp V (compareOp .Lt) (.int a) (.int b) Q:=λv u F Vc own rest rv ra rb=>by induction ra using Rp.cz;induction rb using Rp.cz;exact λhp d tk st=>lt_int (b9 st rv .bool h)
theorem ajc {Q:az}(h:Q (.bool (decide (a<=b))) V):gG fr A E Rp V (compareOp .LtE) (.int a) (.int b) Q:=λv u F Vc own rest rv ra rb=>by induction ra using Rp.cz;induction rb using Rp.cz;exact λhp d tk st=>le_int (b9 st rv .bool h)
theorem aje {a b:Int}{Q:az}(h:Q (.bool (decide (b<a))) V):gG fr A E Rp V (compareOp .Gt) (.int a) (.int b) Q:=λv u F Vc own rest rv ra rb=>by induction ra using Rp.cz;induction rb using Rp.cz;exact λhp d tk st=>gt_int (b9 st rv .bool h)
theorem ajf {a b:Int}{Q:az}(h:Q (.bool (decide (b<=a))) V):gG fr A E Rp V (compareOp .GtE) (.int a) (.int b) Q:=λv u F Vc own rest rv ra rb=>by induction ra using Rp.cz;induction rb using Rp.cz;exact λhp d tk st=>ge_int (b9 st rv .bool h)
theorem ajg {Q:az}(h:Q (.bool (a==b)) V):gG fr A E Rp V (compareOp .Eq) (.int a) (.int b) Q:=λv u F Vc own rest rv ra rb=>by induction ra using Rp.cz;induction rb using Rp.cz;exact λhp d tk st=>eq_int (b9 st rv .bool h)
theorem aja {Q:az}(h:Q (.bool (a !=b)) V):gG fr A E Rp V (compareOp .NotEq) (.int a) (.int b) Q:=λv u F Vc own rest rv ra rb=>by induction ra using Rp.cz;induction rb using Rp.cz;exact λhp d tk st=>ne_int (b9 st rv .bool h)
theorem aaC (h:Q (.str (a++b)) V)(hs:a.length+b.length<=sizeLine):gG fr A E Rp V (binaryOp .Add) (.str a) (.str b) Q:=λv u F Vc own rest rv ra rb=>by induction ra using Rp.fj;induction rb using Rp.fj;exact λhp d tk st=>add_str (λt' cX=>b9 st rv .str h) hs
theorem VP {Q:az}(h:Q (.bool (a==b)) V):gG fr A E Rp V (compareOp .Eq) (.str a) (.str b) Q:=λv u F Vc own rest rv ra rb=>by induction ra using Rp.fj;induction rb using Rp.fj;exact λhp d tk st=>eq_str (b9 st rv .bool h)
theorem VL {Q:az}(h:Q (.bool (a !=b)) V):gG fr A E Rp V (compareOp .NotEq) (.str a) (.str b) Q:=λv u F Vc own rest rv ra rb=>by induction ra using Rp.fj;induction rb using Rp.fj;exact λhp d tk st=>ne_str (b9 st rv .bool h)
theorem afq {Q:az}(h:Q (.bool (decide (a.cps.toList<b.cps.toList))) V):gG fr A E Rp V (compareOp .Lt) (.str a) (.str b) Q:=λv u F Vc own rest rv ra rb=>by induction ra using Rp.fj;induction rb using Rp.fj;exact λhp d tk st=>P.lt_str (b9 st rv .bool h)
theorem afy {Q:az}(h:Q (.bool (decide (b.cps.toList<a.cps.toList))) V):gG fr A E Rp V (compareOp .Gt) (.str a) (.str b) Q:=λv u F Vc own rest rv ra rb=>by induction ra using Rp.fj;induction rb using Rp.fj;exact λhp d tk st=>P.gt_str (b9 st rv .bool h)
noncomputable def eu:D->Bool
 | .none=>true
 | .const v=>v==.none
 |_=>false
theorem IK (r:Rp F d v):(v==Value.none)=eu d:=by induction r using Rp.casesOn<;>rfl
theorem ajd (h:Q (.bool (eu a)) V):gG fr A E Rp V (compareOp .Is) a .none Q:=λv u F Vc own rest rv ra rb=>by induction rb using Rp.Nx;exact λhp d tk st=>is_none_gen (by rw[IK ra];exact b9 st rv .bool h)
theorem aay (h:Q (.bool (!eu a)) V):gG fr A E Rp V (compareOp .IsNot) a .none Q:=λv u F Vc own rest rv ra rb=>by induction rb using Rp.Nx;exact λhp d tk st=>isnot_none_gen (by rw[IK ra];exact b9 st rv .bool h)
theorem IG (h:Q b V):uY fr A E RB V truthy (.bool b) Q:=λv F Vc own rest rv ra=>by induction ra using Rp.XD;exact λhp d tk st=>adx (b9 st rv rfl h)
theorem ai9 (h:Q (i !=0) V):uY fr A E RB V truthy (.int i) Q:=λv F Vc own rest rv ra=>by induction ra using Rp.cz;exact λhp d tk st=>P.truthy_int (b9 st rv rfl h)
theorem ai7 (h:Q false V):uY fr A E RB V truthy .none Q:=λv F Vc own rest rv ra=>by induction ra using Rp.Nx;exact λhp d tk st=>truthy_none (b9 st rv rfl h)
theorem iH (h:n<=cap):(n:Int)<2 ^ 63:=by
 have:cap<2 ^ 63:=by decide
 omega
theorem ai8 (h:Q (!l.isEmpty) V):uY fr A E RB V truthy (.list l) Q:=λv F Vc own rest rv ra=>by
 induction ra using Rp.listE with
 | @list a vs e r hc=>
  exact λhp d tk st=>wpAny_truthy_list (cR.is (.inl e) st) (by rw[g7,r.len];exact iH hc) (by
   have:vs.toArray.isEmpty=l.isEmpty:=by clear h rv e hc st;cases r<;>simp
   rw[this];exact b9 st rv rfl h)
theorem afr (h:Q (.int l.length) V):mZ fr A E Rp V (cl (.builtin "len")) [.list l] Q:=fun vs F Vc own rest rv r=>by
 induction r using aK.aZ with
 |cons x r0=>
  induction r0 using aK.fR;induction x using Rp.listE with
  |list e r hc=>exact aeE (.inl e) (by rw[r.len];exact aB hc c9) λt=>cg rv (.refl _) (by rw[r.len];exact .int) h
theorem afx (hk:0<=k)(hx:l[k.toNat]? =some x)(h:Q x V)
  (hs:autoParam (∀a u,subscripted slice false (.ref a) (.int k u)=operate [.ref a,.int k u] (getItem (.ref a) (.int k u))) wu):gG fr A E Rp V (subscriptTail value slice) (.list l) (.int k) Q:=λv u F Vc own rest rv ra rb=>by
 induction ra using Rp.listE with
 |list e r hc=>induction rb using Rp.cz;refine aq (r.at' hx) λy hy ry=>?_;have hb:=(Bu.mp hx).1;exact λhp d tk st=>uM (cR.is (.inl e) st).typeIs O1.lookup (PySem.wpAny_getItem_list (cR.is (.inl e) st) hk (by have:=iH hc;omega) (by simpa using hy) (b9 st rv ry h)) (hs _ _)
theorem Rx {l:ak}{k:Int}(hk:k<0)(hk2:0<=k+l.length)(hx:l[(k+l.length).toNat]? =some x)(h:Q x V)
  (hs:autoParam (∀a u,subscripted slice false (.ref a) (.int k u)=operate [.ref a,.int k u] (getItem (.ref a) (.int k u))) wu):gG fr A E Rp V (subscriptTail value slice) (.list l) (.int k) Q:=λv u F Vc own rest rv ra rb=>by
 induction ra using Rp.listE with
 |list e r hc=>induction rb using Rp.cz;refine aq (r.at' hx) λy hy ry=>?_;have e1:=r.len;exact λhp d tk st=>uM (cR.is (.inl e) st).typeIs O1.lookup (wpAny_getItem_list_neg (cR.is (.inl e) st) hk (by rw[g7,e1];omega) (by have:=iH hc;omega) (by rw[g7,e1];simpa using hy) (b9 st rv ry h)) (hs _ _)
theorem aao {k:Int}{x:D}{Q:az}(hk:0<=k)(hx:l[k.toNat]? =some x)(h:Q x V)
  (hs:autoParam (∀a u,subscripted slice false (.ref a) (.int k u)=operate [.ref a,.int k u] (getItem (.ref a) (.int k u))) wu):gG fr A E Rp V (subscriptTail value slice) (.tup l) (.int k) Q:=λv u F Vc own rest rv ra rb=>by
 induction ra using Rp.TU with
 |tup e r hc=>
  induction rb using Rp.cz;refine aq (r.at' hx) λy hy ry=>?_;have hb:=(Bu.mp hx).1;exact λhp d tk st=>item_tupleT (j:=k.toNat) (EV.is e st) (by omega) (by have:=iH hc;omega) (by
   rw[r.len];unfold seqIndex?
   first|rfl|(split<;>first|rfl|grind)|(simp;omega)) hy (b9 st rv ry h) (hs _ _)
structure EZ (w:bZ) (A:aQ) (F₀:ah) (I:av) (p:Nat->Obj->Prop) (ds:ak):Prop where
 next:∀(fr:Fm) (F:ah) (Vc:eX) (own:cN) (i:Nat) (d:D) (E:aS) (Q:nV->S->Prop),fr.w=w->Le F₀ F->ds[i]? =some d->
  (∀v,Rp F d v->Q (some v) ⟨F,Vc,(I,.obj (p (i+1)))::own⟩)->T fr A (pyNext (.ref I)) E ⟨F,Vc,(I,.obj (p i))::own⟩ Q
 done:∀(fr:Fm) (F:ah) (Vc:eX) (own:cN) (E:aS) (Q:nV->S->Prop),fr.w=w->Le F₀ F->I∉fr.mt->
  Q none ⟨F,Vc,own⟩->T fr A (pyNext (.ref I)) E ⟨F,Vc,(I,.obj (p ds.length))::own⟩ Q
 self:∀(fr:Fm) (F:ah) (Vc:eX) (own:cN) (i:Nat) (E:aS) (Q:yw),fr.w=w->
  Q (.ref I) ⟨F,Vc,(I,.obj (p i))::own⟩->T fr A (pyIter (.ref I)) E ⟨F,Vc,(I,.obj (p i))::own⟩ Q
def gq (w:bZ)(A:aQ)(src:D)(ds:ak):Prop:=
 ∀(fr:Fm) (F:ah) (Vc:eX) (own:cN) (v:ao) (E:aS),fr.w=w->Rp F src v->
  T fr A (pyIter v) E ⟨F,Vc,own⟩ (λit σ'=>∃I p,it=.ref I/\σ'=⟨F,Vc,(I,.obj (p 0))::own⟩/\I∉fr.mt/\EZ w A F I p ds)
theorem wy {t:Sem α}{F:ah}{Vc:eX}{own:cN}{I:av}{c:Cell}{Q:α->S->Prop}{a:α}{h h':Heap}{d:Drawn}{tk:Nat}(st:St fr ⟨F,Vc,(I,c)::own⟩ h)(hn:I∉fr.mt)(x:Heap.ExtBut I h h'):St fr ⟨F,Vc,own⟩ h':=by
 have nd:=st.nd;simp only[fJ] at nd;have ne:∀p∈own,p.1≠I:=λp hp e=>(j7.mp nd).1 (e▸j9 hp);have hF:F I=none:=(st.own _ (.head _)).2.1;refine st.step (M:=[I]) ⟨(λa ha hm=>by cases ha with|head=>exact absurd hm hn|tail z q=>exact aR q),λa o ha e=>⟨o,x a o (λq=>ha (q▸.head _)) e,.inl rfl⟩⟩ (λa ha=>by cases ha with|head=>exact⟨c,.head _⟩|tail z q=>exact aR q) (.refl _ _) (λa c e=>?_) (λp hp=>?_) (j7.mp nd).2
 .exact gy (st.sees a c e) λl o e' q=>⟨l,o,x a o (λq=>by clear st hn x nd ne l e';subst q;rw[show F a=none from hF] at e;exact aA e) e',q⟩
 .exact b8 (st.own p (.tail _ hp)) λa b c o' e' q=>⟨⟨a,c,st.fY.2 p (.tail _ hp),λy c e=>(st.dM y c e).2.1 p (.tail _ hp)⟩,b,o',x _ o' (ne p hp) e',q⟩
def aaW (l:av)(i:Nat)(o:Obj):Prop:=o.cls=.type "list_iterator"/\o.data=.fields #[.ref l,.int i 0]
theorem Wz {w:bZ}(hh:A.handled=none){l:ak}{F₀:ah}{a I:av}{vs:bC}(e:F₀ a=some (.list vs))(r:aK F₀ l vs):EZ w A F₀ I (aaW a) l where
 next:=λfr F Vc own i d E Q hw le hd q hp dr tk st=>by exact aq ((r.mono le).at' hd) λv hv rv=>gb (st.cell (.head _)) λo ho hc lR=>wpAny_pyNext_list_item (i:=i) ⟨o,ho,hc,lR⟩ (cR.is (.inl (le _ _ e)) st) (by simpa using hv) λh' z0 hs=>gb z0 λo' CZ ju Sf=>(af h' dr tk _ rfl (st.chg (c':=.obj (aaW a (i+1))) .here hs CZ ⟨ju,Sf⟩) (q v rv))
 done:=λfr F Vc own E Q hw le hn q hp dr tk st=>by exact gb (st.cell (.head _)) λo ho hc lR=>wpAny_pyNext_list_end (i:=l.length) hh ⟨o,ho,hc,lR⟩ (cR.is (.inl (le _ _ e)) st) (by simp[r.len]) λh' x=>(af h' dr tk _ rfl (wy (t:=(pure ():Sem Unit)) (Q:=λz z=>True) (a:=()) (d:=dr) (tk:=tk) st hn x) q)
 self:=λfr F Vc own i E Q hw q hp dr tk st=>by exact gb (st.cell (.head _)) λo ho hc lR=>wpAny_pyIter_listiter (i:=i) ⟨o,ho,hc,lR⟩ (af hp dr tk _ rfl st q)
theorem Ea {w:bZ}(hh:A.handled=none)(l:ak):gq w A (.list l) l:=λfr F Vc own v E hw rv hp d tk st=>by
 induction rv using Rp.listE with
 | @list a vs e r hc=>exact Ym (cR.is (.inl e) st) (af _ d tk _ rfl (st.bM (c:=.obj (aaW a 0)) ⟨rfl,rfl⟩ rfl) (pG _ (aaW a) rfl rfl st.fresh.2.2.1 (Wz hh e r)))
def alG (fr:Fm)(F1:ah)(rs:cN)(Inv:ak->VS->Prop)(I:av)(p:Nat->Obj->Prop)(ds:ak)(n:Nat)(s:cO):Prop:=
 ∃(h:Heap) (d:Drawn) (tk:Nat) (F':ah) (dG:eX) (own':cN) (V':VS) (i:Nat),s=⟨h, #[],d,tk,fr.os⟩/\St fr ⟨F',dG,(I,.obj (p i))::(own'++rs)⟩ h/\
  RV fr.mt F' V' dG own'/\Le F1 F'/\Inv (ds.drop i) V'/\i<=ds.length/\n=ds.length+1-i
theorem aeL (hw:iL fr){x:aa}{px:Pos}{iter:aD}{body bH:fc}{pos:Pos}{Q:bY}(Inv:ak->VS->Prop){Eb:aS}
  (h:DT fr A E Rp V (eval iter fr.e) λsrc V1=>∃ds,gq fr.w A src ds/\Inv ds V1)
  (turn:∀d ds V,Inv (d::ds) V->∃V2,Pv x (.fz d) V V2/\DT fr A Eb RF V2 (execs body fr.e) (λfl V'=>match fl with| .next=>Inv ds V'| .cont=>Inv ds V'| .brk=>Q .next V'| .ret r=>Q (.ret r) V'))
  (qI:∀V,Inv [] V->DT fr A Eb RF V (execs bH fr.e) Q)
  (hE:∀e s,Eb e s->notedBy (model pw fr.w) A fr.e (λe s'=>cameBackBy (model pw fr.w) A fr.e E e s') e s)
  (hs:autoParam (∀x,foldedSetIterable iter fr.e x=pure x) wu):DT fr A E RF V (exec (.For (.Name x px) iter body bH pos) fr.e) Q:=by
 intro F Vc own rs rv hp d tk st;refine wpAny_For ?_ hs;refine(h.go (Q':=λv σ1=>T fr A (pyIter v) E σ1 λit kg=>∀hp d tk,St fr kg hp->codeAny (model pw fr.w) A (.forLoop (.Name x px) it body bH fr.e) (λr s'=>match r with| .ok f=>Po fr (PQ fr.mt F rs RF Q) f s'| .error e=>cameBackBy (model pw fr.w) A fr.e E e s') ⟨hp, #[],d,tk,fr.os⟩) rv λv F1 c5 aC src V1 bQ cM r1 q1=>?_).bG st λv h' d' cX σ' cI q'=>q'.bG cI λit h'' d'' PB jE ae6 q''=>q'' _ _ _ ae6;refine aq q1 λds hi hI=>clear% q1;?_;refine(hi fr F1 c5 (aC++rs) v E rfl r1).mono λit kg z0=>ig z0 λI p eI e2 hIm ok=>clear% z0;?_;subst eI e2;intro hp2 d2 Fb j0;refine codeAny_forLoop (alG fr F1 rs Inv I p ds) ?_ (ds.length+1) (wZ hp2 d2 Fb F1 (aL c5 aC V1 0 rfl j0 bQ (.refl _) (by trivial) (iA (jU _) (Nat.add_succ ds.length 0))));intro n s z5;refine fX z5 λh3 d3 TV F3 nH bK=>l9 bK λcY V3 i z6 yH lH iP xV hi3 z7=>clear% bK;clear% z5;?_;simp only[z6];by_cases jQ:i<ds.length
 .have hd:ds[i]? =some ds[i]:=eE jQ
  have W3:ds.drop i=ds[i]::ds.drop (i+1):=pQ jQ;refine T.cps (ok.next fr F3 nH (cY++rs) i _ _ _ rfl iP hd λv rd h4 d4 tk4 K1=>?_) yH;rw[W3] at xV;refine aq (turn _ _ _ xV) λV5 pv XF=>dm (lH.put pv rd) λY5 lK pc Nk ae2=>Kh (T.cps (yT hw pc λh5 d5 Zy B3=>?_) K1);have Li:St fr ⟨F3,Y5,lK++((I,.obj (p (i+1)))::rs)⟩ h5:=B3.sub ⟨(I,.obj (p (i+1)))::(lK++rs),nS,List.Sublist.cons_cons _ (ae2.append (fZ _))⟩;refine fk (T.cps (XF.go Nk λf F6 SO tD dd V6 Hy CG rr q6 h6 d6 zm xD=>?_) Li) (λz z y=>y) λe s q=>hE e s q;have aiE:St fr ⟨F6,SO,(I,.obj (p (i+1)))::(tD++rs)⟩ h6:=xD.sub ⟨_,nS.symm,fZ _⟩;have aiD:St fr ⟨F6,SO,tD++rs⟩ h6:=aiE.sub ⟨_,.refl _,Bt _ _⟩;have nx:Inv (ds.drop (i+1)) V6->∃m,m<n/\alG fr F1 rs Inv I p ds m ⟨h6, #[],d6,zm,fr.os⟩:=λq=>⟨ds.length+1-(i+1),by exact(eW (Nat.sub_lt_sub_left (qO hi3) (qO (br _))) (fh (fH z7))),wZ h6 d6 zm F6 (aL SO tD V6 (i+1) rfl aiE Hy (iP.trans CG) q (iA jQ rfl))⟩;induction rr using RF.casesOn with
  |next=>exact nx q6
  |cont=>exact nx q6
  |brk=>exact af h6 d6 zm _ rfl aiD (cg Hy ((cM.trans iP).trans CG) RF.next q6)
  |ret r=>exact af h6 d6 zm _ rfl aiD (cg Hy ((cM.trans iP).trans CG) (RF.ret r) q6)
 .have qG:i=ds.length:=Yi hi3 (qN jQ)
  subst qG;refine T.cps (ok.done fr F3 nH (cY++rs) _ _ rfl iP hIm λh4 d4 tk4 K1=>?_) yH;rw[Yr] at xV;exact fk (T.cps ((qI _ xV).go lH λf F6 SO tD dd V6 Hy CG rr q6 h6 d6 zm xD=>af h6 d6 zm _ rfl xD (cg Hy ((cM.trans iP).trans CG) rr q6)) K1) (λz z y=>y) hE
theorem gi:∀(names:List (aa×NameKind)) (n:Nat) (acc:List (aa×av)),cellsFrom n names acc=cellsFrom n names []++acc
 |[],n,acc=>rfl
 |(x,k)::r,n,acc=>by
  unfold cellsFrom;split
  .rw[gi r (n+1) ((x,n)::acc),gi r (n+1) [(x,n)]];exact List.append_cons (cellsFrom (n+1) r []) (x,n) acc
  .exact gi r n acc
theorem k9:∀(names:List (aa×NameKind)) (n:Nat) (x:aa) (c:av),(x,c)∈cellsFrom n names []->(x,NameKind.cell)∈names
 |[],n,x,c,h=>by cases h
 |(y,k)::r,n,x,c,h=>by
  unfold cellsFrom at h;split at h
  .rename_i hk
   rw[gi] at h;rcases j6.mp h with h|h
   .exact .tail _ (k9 r _ x c h)
   .cases h with
    |head=>rw[eH.mp hk];exact .head _
    |tail _ h=>cases h
  .exact .tail _ (k9 r n x c h)
def Ce (fr:Fm)(y:aa):Prop:=fr.e.kindOf y=some .cell\/fr.e.kindOf y=some .free
noncomputable def Nn (env:Env)(x:aa)(k:NameKind):NameKind:=if(k==.free&&env.scope.kind==.function&&env.kindOf x==some .cell) then .cell else k
theorem oJ (env:Env):∀(names:List (aa×NameKind)) (x:aa),
  (names.map fun(n,k)=>if(k==NameKind.free&&env.scope.kind==.function&&env.kindOf n==some .cell) then(n,NameKind.cell) else(n,k)).lookup x=(names.lookup x).map (Nn env x)
 |[],x=>rfl
 |(n,k)::r,x=>by
  show List.lookup x ((if(k==NameKind.free&&env.scope.kind==.function&&env.kindOf n==some .cell)=true then(n,NameKind.cell) else(n,k))::_)=_;have e:(if(k==NameKind.free&&env.scope.kind==.function&&env.kindOf n==some .cell)=true then(n,NameKind.cell) else(n,k))=(n,Nn env n k):=by unfold Nn;split<;>rfl
  rw[e,OL,OL];induction hx:x==n using pR with
  |true=>rw[eH.mp hx];rfl
  |false=>exact oJ env r x
theorem Fp (env:Env)(x:aa){k:NameKind}(h:k≠.free):Nn env x k=k:=by unfold Nn;simp[h]
theorem zK (env:Env)(x:aa):Nn env x .free=.cell\/Nn env x .free=.free:=by unfold Nn;split<;>simp
theorem sy {env:Env}:∀(names:List (aa×NameKind)) (acc:List (aa×av)) (f:aa×NameKind->List (aa×av)->Sem (ForInStep (List (aa×av)))),
  (∀name kind cs,f (name,kind) cs=(if kind==.free then(do let c<-cellOf env name;pure (.yield ((name,c)::cs))) else pure (.yield cs)))->
  (∀p∈names,p.2=.free->∃c,env.cells.lookup p.1=some c)->(∀e∈acc,env.cells.lookup e.1=some e.2)->
  ∃cl:List (aa×av),(forIn names acc f=pure cl)/\(∀e∈cl,env.cells.lookup e.1=some e.2/\(e∈acc\/(e.1,NameKind.free)∈names))/\(∀e∈acc,e∈cl)/\∀p∈names,p.2=.free->∃c,(p.1,c)∈cl
 |[],acc,f,hf,hn,ha=>⟨acc,by rw[List.forIn_nil],λe he=>⟨ha e he,.inl he⟩,λe he=>he,λp hp=>aR hp⟩
 |(x,k)::r,acc,f,hf,hn,ha=>by
  rw[OD,hf];by_cases hk:k=.free
  .subst hk
   refine xE (hn (x,.free) (.head _) rfl) λc hc=>?_;have e1:cellOf env x=pure c:=by unfold cellOf;rw[hc]
   refine M3 (sy (env:=env) r ((x,c)::acc) f hf (λp hp=>hn p (.tail _ hp)) (λe he=>by
    rcases bW.mp he with rfl|he
    .exact hc
    .exact ha e he)) λcl e2 h1 h2 h3=>?_;refine⟨cl,?_,λe he=>?_,λe he=>h2 e (.tail _ he),λp hp WQ=>?_⟩
   .simp only[beq_self_eq_true,if_true,e1,pure_bind]
    exact e2
   .refine xA (h1 e he) λa b=>⟨a,?_⟩
    rcases b with b|b
    .clear hf ha hn hc e1 e2 h1 h2 h3 he a;rcases bW.mp b with rfl|b
     .exact .inr (.head _)
     .exact .inl b
    .exact .inr (.tail _ b)
   .rcases bW.mp hp with rfl|hp
    .exact⟨c,h2 _ (.head _)⟩
    .exact h3 p hp WQ
  .refine M3 (sy (env:=env) r acc f hf (λp hp=>hn p (.tail _ hp)) ha) λcl e2 h1 h2 h3=>⟨cl,?_,λe he=>?_,h2,λp hp WQ=>?_⟩
   .have:(k==NameKind.free)=false:=beq_false_of_ne hk
    simp only[this,BI,if_false,pure_bind];exact e2
   .exact xA (h1 e he) λa b=>⟨a,b.imp id (.tail _)⟩
   .rcases bW.mp hp with rfl|hp
    .exact absurd WQ hk
    .exact h3 p hp WQ
theorem Ac {env:Env}:∀{cl:List (aa×av)},(∀e∈cl,env.cells.lookup e.1=some e.2)->∀{x:aa} {c:av},(x,c)∈cl->cl.lookup x=env.cells.lookup x
 |[],_,x,c,h=>by cases h
 |(y,d)::r,ha,x,c,h=>by
  rw[OL];cases hx:x==y with
  |true=>rw[eH.mp hx];exact(ha _ (.head _)).symm
  |false=>
   rcases bW.mp h with e|h
   .cases e;simp at hx
   .exact Ac (λe he=>ha e (.tail _ he)) h
noncomputable def Eu (P:aY)(scope:eO)(ts caps:ay)(gl:dU):Bool:=
 ts.all (λx=>scope.names.lookup x==some .local||scope.names.lookup x==some .cell)&&
 caps.all (λx=>scope.names.lookup x==some .free)&&
 gl.all (λp=>scope.names.lookup p.1==some .globalImplicit&&Ej P p.1 p.2&&ja p.1&&wU P p.2)&&
 scope.names.all (λp=>ja p.1&&scope.names.lookup p.1==some p.2&&(p.2 !=.free||caps.contains p.1))
theorem Dc {env:Env}{scope:eO}(h:∀p∈scope.names,p.2=.free->∃c,env.cells.lookup p.1=some c):
  ∃cl,closureFor scope env=pure cl/\(∀e∈cl,env.cells.lookup e.1=some e.2/\(e.1,NameKind.free)∈scope.names)/\∀p∈scope.names,p.2=.free->cl.lookup p.1=env.cells.lookup p.1:=by
 refine M3 (sy (env:=env) scope.names [] (λx cs=>do
  let (name,kind):=x
  if kind==.free then
   let c<-cellOf env name
   pure (.yield ((name,c)::cs))
  else pure (.yield cs)) (λname kind cs=>rfl) h (λe he=>aR he)) λcl e h1 h2 h3=>?_;refine⟨cl,?_,λe he=>⟨(h1 e he).1,(h1 e he).2.resolve_left JZ⟩,λp hp hk=>?_⟩
 .unfold closureFor
  first
   |(rw[bind_pure];exact e)
   |(rw[<-e];rfl)
   |(simpa using e)
 .exact xE (h3 p hp hk) λc hc=>Ac (λe he=>(h1 e he).1) hc
theorem Sv {cl:List (aa×av)}
  (cx:Cx fr.w fr.hb)(st:St fr ⟨F,Vc,own⟩ hp)(hB:Eu fr.w.params scope ts caps gl'=true)(Eh:scope.kind=.function)
  (qp:∀e∈cl,fr.e.cells.lookup e.1=some e.2/\(e.1,NameKind.free)∈scope.names)(Ma:∀p∈scope.names,p.2=.free->cl.lookup p.1=fr.e.cells.lookup p.1)
  (aW:∀y∈caps,Ce fr y)(hVk:∀y ov,(y,ov)∈sN->y∈caps\/(y∈ts/\ov=none))(hVv:∀y ov,(y,ov)∈sN->y∈caps->(y,ov)∈Vc)(nN:(sN.map (·.1)).Nodup)
  (k:∀(sD:Env) (h1:Heap) (aP:Fm),aP=⟨fr.w,fr.os,fr.hb,hp,F,own.map (·.1),{sD with scope:=relabel scope fr.e}⟩->dH aP gl'->(∀x∈ts,WrV aP x)->(∀y,y∈caps->Ce aP y)->(∀y∈ts,scope.names.lookup y=some .cell->Ce aP y)->
   St aP ⟨F,sN,own⟩ h1->sD.locals=hp.objs.size->(∀y∈caps,aP.e.cells.lookup y=fr.e.cells.lookup y)->Q sD ⟨h1, #[],d,tk,fr.os⟩):
  wpAny (model pw fr.w) A (newFunctionEnv scope fr.e.globals cl [] fr.e.qual none .none (some fr.e)) Q E ⟨hp, #[],d,tk,fr.os⟩:=by
 simp only[newFunctionEnv,Option.isSome_some,if_true];refine aN (XQ ?_);refine aN (wpAny_layCells _ (λname kind cells=>by induction hkc:kind==NameKind.cell using pR<;>simp[hkc]) _ _ _ _ ?_);have ok:=cellsFrom_ok scope.names (hp.push {cls:=.type "dict",data:=.dict #[]}) (hp.objs.size+1) [] ⟨fun u u hm=>(nomatch hm),List.Pairwise.nil⟩ (by simp only[Dh];exact br _);rw[Dh] at ok;rw[show({heap:=hp.push {cls:=.type "dict",data:=.dict #[]},gens:= #[],drawn:=d,toks:=tk,os:=fr.os}:cO).heap.objs.size=hp.objs.size+1 from Dh ..];rw[gi];have ns:=(Heap.Ns.new hp (.type "dict")).keeps (pushCells_keeps scope.names _);have keep:∀b o,hp.get? b=some o->(pushCells (hp.push {cls:=.type "dict",data:=.dict #[]}) scope.names).get? b=some o:=fun b o e=>pushCells_keeps _ _ b o (gj _ e);dsimp only;generalize pushCells (hp.push {cls:=.type "dict",data:=.dict #[]}) scope.names=h1 at ok ns keep;have aly:=k9 scope.names (hp.objs.size+1);have adn:∀y,scope.names.lookup y=some .cell->((cellsFrom (hp.objs.size+1) scope.names []).lookup y).isSome=true:=λy h=>X4 _ _ _ (.inl h);generalize cellsFrom (hp.objs.size+1) scope.names []=cs at ok aly adn;rw[List.forIn_nil];refine aN (cG (cG ?_));refine kU (st.fresh) λf1 f2 f3 f4=>?_;have hb:=hB;unfold Eu at hb;simp only[iK,j8,xg,eH,bne_iff_ne,adY,decide_eq_true_eq] at hb;refine xA hb λz3 b4=>xA z3 λz4 b3=>xA z4 λb1 b2=>?_;have ek:∀y,(({scope:=relabel scope fr.e,locals:=hp.objs.size,globals:=fr.e.globals,cells:=cs++cl,qual:=fr.e.qual,func:=none,code:=fr.e.code,frame:=fr.e.frame,builtins:=fr.e.builtins}:Env)).kindOf y=(scope.names.lookup y).map (Nn fr.e y):=λy=>oJ fr.e scope.names y;have inN:∀y kd,scope.names.lookup y=some kd->(y,kd)∈scope.names:=λy kd h=>dB h;have csF:∀y c,(y,c)∈cs->hp.objs.size<c/\h1.IsCell c none:=λy c h=>⟨(ok.empty y c h).2,(ok.empty y c h).1⟩;have clL:∀y c,(y,c)∈cl->cW hp c:=λy c h=>by exact dw ((st.dM y c (qp _ h).1).2.2) λu o e u=>⟨o,e⟩
 have ltS:∀c,cW hp c->c<hp.objs.size:=λc z0=>xE z0 λo e=>g6 e;have app:∀y c,(cs++cl).lookup y=some c->(y,c)∈cs\/(cs.lookup y=none/\cl.lookup y=some c):=λy c h=>by
  rw[YE] at h;induction q:cs.lookup y using fL with
  |some c'=>rw[q] at h;simp at h;subst h;exact .inl (dB q)
  |none=>rw[q] at h;exact .inr ⟨rfl,by simpa using h⟩
 have ab6:∀y c,(cs++cl).lookup y=some c->(y,c)∈cs\/(y,c)∈cl:=λy c h=>(app y c h).imp id λq=>dB q.2;have agW:∀y,scope.names.lookup y≠some .cell->cs.lookup y=none:=λy h=>by
  induction q:cs.lookup y using fL with
  |none=>rfl
  |some c=>exact absurd ((b4 _ (aly y c (dB q))).1.2) h
 have fresh:∀y c,(y,c)∈cs->¬cW hp c:=λy c h l=>XY (ltS c l) (csF y c h).1;have cB:∀y∈caps,scope.names.lookup y=some .free:=b2;have adj:∀y∈caps,(cs++cl).lookup y=fr.e.cells.lookup y:=λy hy=>by rw[YE,agW y (by rw[cB y hy];decide)];exact Ma (y,.free) (inN _ _ (cB y hy)) rfl
 have tsF:∀y∈ts,scope.names.lookup y≠some .free:=λy hy q=>by rcases b1 y hy with h|h<;>rw[h] at q<;>cases q
 have mtF:∀a∈own.map (·.1),cW hp a:=λa ha=>by refine aq (bN.mp ha) λp mL xr=>?_;subst xr;exact aq (st.cell (p:=p) mL) λo e u=>⟨o,e⟩
 refine k _ h1 _ rfl ⟨cx,λp mL=>⟨?_,(b3 p mL).1.1.2,(b3 p mL).1.2,(b3 p mL).2⟩,λy z1=>aq z1 λkd hk u=>?_,trivial⟩ (λx hx=>⟨⟨eG,λq=>eG (mtF _ q)⟩,λc hc=>?_⟩) (λy hy=>?_) (λy hy hc=>?_) ?_ rfl (λy hy=>adj y hy)
 .show Env.kindOf _ _=_
  rw[ek,(b3 p mL).1.1.1];exact aT some (Fp _ _ (by decide))
 .have iR:(scope.names.lookup y).map (Nn fr.e y)=some kd:=(ek y).symm.trans hk
  induction q:scope.names.lookup y using fL with
  |none=>rw[q] at iR;cases iR
  |some k'=>exact(b4 _ (inN _ _ q)).1.1
 .rcases app x c hc with h|⟨_,h⟩
  .exact⟨fresh x c h,λq=>fresh x c h (mtF _ q)⟩
  .have:=(qp _ (dB h)).2
   exact absurd (b4 _ this).1.2 (tsF x hx)
 .unfold Ce
  show Env.kindOf _ _=_\/Env.kindOf _ _=_;rw[ek,cB y hy];exact(zK fr.e y).imp (aT some) (aT some)
 .refine .inl ?_
  show Env.kindOf _ _=_;rw[ek,hc];exact aT some (Fp _ _ (by decide))
 .refine⟨λa o e=>keep a o (st.keep a o e),λa z2=>xE z2 λo e=>⟨o,st.keep a o e⟩,st.mg,λa ha=>?_,λa o u e=>⟨o,keep a o e,.inl rfl⟩,.refl _ _,λa c e=>?_,λp mL=>?_,st.nd,⟨?_,st.env.glob,st.env.XC,λy z c hy hz=>?_,λy c hy=>?_⟩,⟨⟨_,ns,λy v hy hk=>?_⟩,λy ov hy hk=>?_,λy ov hy=>?_,nN⟩,⟨f4,λp mL q=>?_⟩,λy c e=>?_⟩
  .exact xE (mtF a ha) λo e=>⟨o,keep a o e⟩
  .exact gy (st.sees a c e) λl o e' q=>⟨l,o,keep a o e',q⟩
  .exact b8 (st.own p mL) λu a2 a3 o a4 a5=>⟨.inr (j9 mL),a2,a3,o,keep _ o a4,a5⟩
  .show(relabel scope fr.e).kind=_
   exact Eh
  .rcases ab6 y c hy with h|h<;>refine fU (ab6 z c hz) (λh'=>?_) λh'=>?_
   .exact name_of_addr ok.apart h h'
   .exact absurd (clL z c h') (fresh y c h)
   .exact absurd (clL y c h) (fresh z c h')
   .exact st.env.inj y z c (qp _ h).1 (qp _ h').1
  .rcases ab6 y c hy with h|h
   .exact rG (csF y c h).1
   .exact lu (ltS c (clL y c h))
  .have iR:(scope.names.lookup y).map (Nn fr.e y)=some .local:=(ek y).symm.trans hk
   rcases hVk y _ hy with h|h
   .rw[cB y h] at iR
    rcases zK fr.e y with q|q<;> ·simp[q] at iR
   .cases h.2
  .have iR:(scope.names.lookup y).map (Nn fr.e y)=some .cell\/(scope.names.lookup y).map (Nn fr.e y)=some .free:=hk.imp (λq=>(ek y).symm.trans q) λq=>(ek y).symm.trans q
   rcases hVk y _ hy with h|h
   .exact jF (st.vars.Oa y _ (hVv y _ hy h) (aW y h)) λc hc Fz fF hv=>(pH c ((adj y h).trans hc) Fz (fF.keeps keep) hv)
   .obtain⟨h,rfl⟩:=h
    have qp:scope.names.lookup y=some .cell:=by
     refine fU (b1 y h) (λq=>?_) λq=>?_
     .rw[q] at iR
      have:Nn fr.e y .local=.local:=Fp _ _ (by decide);rcases iR with z|z<;> ·simp[this] at z
     .exact q
    have hs:(cs.lookup y).isSome=true:=adn y qp;refine xE (aek.mp hs) λc hc=>(pH c ?_ none ((csF y c (dB hc)).2) (λv hv=>aA hv));rw[YE,hc];rfl
  .show Env.kindOf _ _=_\/Env.kindOf _ _=_\/Env.kindOf _ _=_
   rw[ek];refine fU (hVk y _ hy) (λh=>?_) λh=>?_
   .rw[cB y h]
    rcases zK fr.e y with q|q<;>simp[q]
   .rcases b1 y h.1 with q|q<;>rw[q]<;>simp[Fp]
  .exact aq (st.cell (p:=p) mL) λo e u=>eG ⟨o,by rw[show hp.objs.size=_ from q.symm];exact e⟩
  .rcases ab6 y c e with h|h
   .have nl:=fresh y c h
    refine⟨?_,λp mL q=>?_,_,(csF y c h).2⟩
    .induction q:F c using fL with
     |none=>exact q
     |some c'=>refine gy (st.sees _ _ q) λu o e u=>?_;exact absurd ⟨o,e⟩ nl
    .exact aq (st.cell (p:=p) mL) λo e u=>nl ⟨o,by rw[<-q];exact e⟩
   .exact ZN (st.dM y c (qp _ h).1) λn1 n2 ov n3=>⟨n1,n2,ov,n3.keeps keep⟩
abbrev gO:aS:=λz z=>False
theorem T.perm (p:own'.Perm own)(x:T fr A t E ⟨F,Vc,own'⟩ Q):T fr A t E ⟨F,Vc,own⟩ Q:=
 T.shift (λhp st=>st.sub ⟨_,p,fZ _⟩) x
theorem wA.app {X:Type}{x y:X}{l l':List X}(r:wA x y l l'):∀pre:List X,wA x y (pre++l) (pre++l')
 |[]=>r
 |_::pre=> .there (r.app pre)
theorem zR {X:Type}{own rest:List X}{a b:X}:(own++(a::b::rest)).Perm (b::(own++(a::rest))):=by have:=nS (a:=b) (l₁:=own++[a]) (l₂:=rest);simpa using this
noncomputable abbrev kh (gJ:c7)(env:Env):Sem Bool:=forIn gJ true λc r=>if r=true then do let ok<-isTrue c env (eval c env);pure (ForInStep.yield ok) else pure (ForInStep.yield r)
theorem pV (h:Q true V):DT fr A E RB V (kh [] fr.e) Q:=λF Vc own rs rv=>λhp d tk st=>wpAny_tests_nil (af hp d tk _ rfl st (cg rv (.refl _) rfl h))
theorem Zj (h:DT fr A E RB V (isTrue c fr.e (eval c fr.e)) Q):DT fr A E RB V (kh [c] fr.e) Q:=λF Vc own rs rv=>λhp d tk st=>wpAny_tests_one (h F Vc own rs rv hp d tk st)
def Em (fr:Fm)(A:aQ)(em:Sem Unit)(D:av)(V:VS)(rs:List Internal.D)(Q:List Internal.D->VS->Prop):Prop:=
 ∀F Vc own rest vs,RV fr.mt F V Vc own->aK F rs vs->T fr A em gO ⟨F,Vc,own++((D,.list vs)::rest)⟩ (λz σ'=>∃V' own' Hz BZ,RV fr.mt σ'.F V' σ'.V own'/\σ'.own=own'++((D,.list BZ)::rest)/\Le F σ'.F/\aK σ'.F Hz BZ/\Q Hz V')
theorem Em.single {D:av}{rs:List Internal.D}{Q:List Internal.D->VS->Prop}(hl:rs.length<=cap)(h:DT fr A gO Rp V (eval bA fr.e) λy V'=>Q (rs++[y]) V'):
  Em fr A (do let _<-call (.builtin "list.append") [.ref D,<-eval bA fr.e]) D V rs Q:=fun F Vc own rest vs rv r=>by
 refine T.bind (h.go rv λv F1 c5 aC d V1 bQ cM r1 q1=>?_);refine T.bind (BR (vs:=vs) ((wA.here).app aC) ?_ (by rw[r.len];exact aB hl c9));exact T.pure (cZ V1 aC (rs++[d]) (vs++[v]) bQ rfl cM (iA ((r.mono cM).app (.cons r1 .nil)) q1))
def MZ (fr:Fm)(F:ah)(rest:cN)(D I:av)(p:Nat->Obj->Prop)(Inv:List Internal.D->List Internal.D->VS->Prop)(ds:List Internal.D)(n:Nat)(s:cO):Prop:=
 ∃(h:Heap) (d:Drawn) (tk:Nat) (F':ah) (dG:eX) (own':cN) (V':VS) (i:Nat) (Hz:List Internal.D) (BZ:bC),s=⟨h, #[],d,tk,fr.os⟩/\
  St fr ⟨F',dG,own'++((D,.list BZ)::(I,.obj (p i))::rest)⟩ h/\RV fr.mt F' V' dG own'/\Le F F'/\aK F' Hz BZ/\Inv (ds.drop i) Hz V'/\i<=ds.length/\n=ds.length+1-i
theorem MZ.mk {D I:av}{Inv:List Internal.D->List Internal.D->VS->Prop}{vs:bC}
  (st:St fr ⟨F',dG,own'++((D,.list vs)::(I,.obj (p i))::rest)⟩ h)(rv:RV fr.mt F' V' dG own')(le:Le F1 F')(r:aK F' rs vs)(inv:Inv (ds.drop i) rs V')(hi:i<=ds.length):MZ fr F1 rest D I p Inv ds (ds.length+1-i) ⟨h, #[],d,tk,fr.os⟩:=
 wZ h d tk F' (wZ dG own' V' i (gg rs vs rfl st rv le r (iAA inv hi rfl)))
theorem Et {bA:aD}{gens:List Comprehension}{pos:Pos}{x:aa}{iter:aD}{D I:av}
  (hT:compTurn (.ListComp bA gens scope pos) depth (.ref I) (.ref D) fr.e=(do
   standAt iter.pos
   match<-pyNext (.ref I) with
   |none=>pure (.done .next)
   |some v=>
    letOwnedTupleGo (.Name x px) (.ref I) v
    assign (.Name x px) fr.e v
    let ok<-kh gJ fr.e
    if ok=true then em
    again (.compLoop (.ListComp bA gens scope pos) depth (.ref I) (.ref D) fr.e)))
  (hw:WrV fr x)(ok:EZ fr.w A F1 I p ds)(Inv:List Internal.D->List Internal.D->VS->Prop)
  (turn:∀d aF rs V,Inv (d::aF) rs V->∃V2,Pv x (.fz d) V V2/\DT fr A gO RB V2 (kh gJ fr.e) (λok V3=>(ok=true->Em fr A em D V3 rs (Inv aF))/\(ok=false->Inv aF rs V3)))
  {h:Heap}{d:Drawn}{tk:Nat}{F:ah}{Vc:eX}{own:cN}{rs:List Internal.D}{vs:bC}
  (st:St fr ⟨F,Vc,own++((D,.list vs)::(I,.obj (p 0))::rest)⟩ h)(rv:RV fr.mt F V Vc own)(le:Le F1 F)(r:aK F rs vs)(inv:Inv ds rs V)
  (qI:∀h d tk F' dG own' V' Hz BZ,St fr ⟨F',dG,own'++((D,.list BZ)::(I,.obj (p ds.length))::rest)⟩ h->RV fr.mt F' V' dG own'->Le F F'->aK F' Hz BZ->Inv [] Hz V'->
   wpAny (model pw fr.w) A (pyNext (.ref I)) (λr s=>r=none/\R (.ok .next) s) gO ⟨h, #[],d,tk,fr.os⟩):
  codeAny (model pw fr.w) A (.compLoop (.ListComp bA gens scope pos) depth (.ref I) (.ref D) fr.e) R ⟨h, #[],d,tk,fr.os⟩:=by
 refine codeAny_loop rfl (MZ fr F rest D I p Inv ds) ?_ (ds.length+1)
  (MZ.mk (i:=0) st rv (.refl _) r inv (jU _));intro n s z4;refine fX z4 λh3 d3 TV F3 nH bK=>fX bK λcY V3 i rs3 vs3 Du=>jl Du λz5 yH lH iP zz2=>kU zz2 λr3 xV hi3 z6=>clear% bK;clear% Du;clear% zz2;clear% z4;?_;rw[z5];rw[z6];show wpAny _ A ((compTurn (.ListComp bA gens scope pos) depth (.ref I) (.ref D) fr.e).onRaise (λx=>do noteFrame x fr.e;theTreesLotGoes x)) _ _ _;refine wpAny_noted (fk (E:=gO) ?_ (λz z y=>y) λz z y=>y.elim);rw[hT];refine aN (xe (aN ?_));by_cases jQ:i<ds.length
 .have hm:ds.length+1-(i+1)<ds.length+1-i:=by omega
  have hd:ds[i]? =some ds[i]:=eE jQ;have W3:ds.drop i=ds[i]::ds.drop (i+1):=pQ jQ;have zx:=yH.sub (own':=(I,.obj (p i))::(cY++((D,.list vs3)::rest))) ⟨_,zR.symm,fZ _⟩;refine T.cps (ok.next fr F3 nH (cY++((D,.list vs3)::rest)) i _ _ _ rfl (le.trans iP) hd λv rd h4 d4 tk4 K1=>?_) zx;rw[W3] at xV;refine aq (turn _ _ _ _ xV) λV5 pv XF=>dm (lH.put pv rd) λY5 lK pc Nk ae2=>aN (Oi (show letOwnedTupleGo (.Name x px) (.ref I) v=pure () from rfl) (aN ?_));refine Kh (T.cps (uQ hw pc λh5 d5 Zy B3=>?_) K1);have Li:St fr ⟨F3,Y5,lK++((D,.list vs3)::(I,.obj (p (i+1)))::rest)⟩ h5:=B3.sub ⟨(I,.obj (p (i+1)))::(lK++((D,.list vs3)::rest)),zR,List.Sublist.cons_cons _ (ae2.append (fZ _))⟩;refine aN (T.cps (XF.go Nk λokb F6 SO tD dd V6 Hy CG rr q6 h6 d6 zm xD=>?_) Li);have rr:okb=dd:=rr;subst rr;cases okb with
  |false=>
   first
    |exact cG ⟨rfl,_,hm,MZ.mk xD Hy (iP.trans CG) (r3.mono CG) (q6.2 rfl) jQ⟩
    |exact aN (cG (cG ⟨rfl,_,hm,MZ.mk xD Hy (iP.trans CG) (r3.mono CG) (q6.2 rfl) jQ⟩))
  |true=>refine aN ((q6.1 rfl F6 SO tD ((I,.obj (p (i+1)))::rest) vs3 Hy (r3.mono CG)).bG xD λz h7 d7 tk7 σ7 st7 z2=>gR z2 λV7 anc rs7 vs7 rv7 eo7 le7 bK=>xA bK λr7 q7=>clear% bK;clear% z2;?_);rw[show σ7=⟨σ7.F,σ7.V,anc++((D,.list vs7)::(I,.obj (p (i+1)))::rest)⟩ from eo7▸rfl] at st7;exact cG ⟨rfl,_,hm,MZ.mk st7 rv7 ((iP.trans CG).trans le7) r7 q7 jQ⟩
 .have qG:i=ds.length:=by omega
  clear hT hw ok turn st rv le inv hi3 z6 jQ;subst qG;rw[Yr] at xV;refine fk (qI h3 d3 TV F3 nH cY V3 rs3 vs3 yH lH iP r3 xV) (λr s z3=>xA z3 λer hr=>clear% z3;?_) λz z y=>y;rw[er];exact cG hr
structure pX (fr aP:Fm) (scope:eO) (ts caps:ay) (gl':dU):Prop where
 f:dH aP gl'
 wr:∀x∈ts,WrV aP x
 cap:∀y∈caps,Ce aP y
 Oa:∀y∈ts,scope.names.lookup y=some .cell->Ce aP y
 w:aP.w=fr.w
 ck:∀y∈caps,aP.e.cells.lookup y=fr.e.cells.lookup y
def nsO (o:Obj):Prop:=∃m,∀(h:Heap) (a:av),h.get? a=some o->h.Ns a m
theorem afF {h:Heap}{a:av}(x:h.Ns a m):∃o,h.get? a=some o/\nsO o:=by exact gw x λo es ep ho hd hk hf=>(abm o ho m (λh' a' e=>(kH o es ep e hd hk hf)))
theorem St.MF {own:cN}(st:St fr ⟨F,Vc,own⟩ h)(h1:¬cW fr.h₀ C)(h2:¬nJ fr.hb C)(h3:F C=none)(h4:∀p∈own,p.1≠C)(h5:C≠fr.e.locals)
  (h6:∀y c,fr.e.cells.lookup y=some c->C≠c)(ho:h.get? C=some o)(ok:c.ok fr.w o):St fr ⟨F,Vc,(C,c)::own⟩ h:=by
 refine⟨st.keep,st.kb,st.mg,st.Rz,st.ext,st.gr,st.sees,λp hp=>?_,?_,st.env,st.vars,⟨st.fY.1,λp hp=>?_⟩,λy c e=>⟨(st.dM y c e).1,λp hp=>?_,(st.dM y c e).2.2⟩⟩
 .rcases bW.mp hp with rfl|hp
  .exact⟨.inl h1,h3,h2,o,ho,ok⟩
  .exact st.own p hp
 .refine j7.mpr ⟨λq=>?_,st.nd⟩
  exact aq (bN.mp q) λp hp e=>h4 p hp e
 .rcases bW.mp hp with rfl|hp
  .exact h5
  .exact st.fY.2 p hp
 .rcases bW.mp hp with rfl|hp
  .exact h6 y c e
  .exact(st.dM y c e).2.1 p hp
theorem LV {h:Heap}{u v:ao}(x:h.IsCell c (some u))(y:h.IsCell c (some v)):u=v:=by refine aq x λo e d=>clear% x;?_;refine aq y λo' e' d'=>clear% y;?_;rw[e] at e';cases e';rw[d] at d';simp at d';exact d'
def aeM (bA:aD)(gens:List Comprehension)(scope:eO)(pos:Pos)(x:aa)(px:Pos)(iter:aD)(gJ:c7)(em:Env->ao->Sem Unit):Prop:=∀it acc env,compTurn (.ListComp bA gens scope pos) 0 it acc env=(do
   standAt iter.pos
   match<-pyNext it with
   |none=>pure (.done .next)
   |some v=>
    letOwnedTupleGo (.Name x px) it v
    assign (.Name x px) env v
    let ok<-kh gJ env
    if ok=true then em env acc
    again (.compLoop (.ListComp bA gens scope pos) 0 it acc env))
def Kz (fr:Fm)(A:aQ)(E:aS)(use:Option (ao->Sem Unit))(Q:yw)(F:ah)(D:av)(Vc:eX)(o:cN):Prop:=match use with
 |none=>Q (.ref D) ⟨F,Vc,o⟩
 |some u=>∀C,T fr A (u (.ref D)) E ⟨F,Vc,(C,.obj nsO)::o⟩ (λz kg=>∃o2,kg.own=(C,.obj nsO)::o2/\Q .none ⟨kg.F,kg.V,o2⟩)
def ItP (fr:Fm)(A:aQ)(σ1:S)(o:cN)(ds:List Internal.D):yw:=λit kg=>∃I p o1,it=.ref I/\kg=⟨σ1.F,σ1.V,(I,.obj (p 0))::o1⟩/\o1.Perm o/\I∉fr.mt/\EZ fr.w A σ1.F I p ds
theorem gq.itr (B4:gq fr.w A src ds)(r:Rp F src v)(hp:own.Perm o):T fr A (pyIter v) E ⟨F,Vc,own⟩ (ItP fr A ⟨F,Vc,own⟩ o ds):=
 (B4 fr F Vc own v E rfl r).mono λit kg z=>ig z λI p e1 e2 hm ok=>aV I p own e1 e2 hp hm ok
section
variable {scope:eO}{x:aa}{ts caps:ay}{gJ:c7}{em:Env->ao->Sem Unit}
def uT (fr:Fm)(A:aQ)(E:aS)(scope:eO)(x:aa)(ts caps:ay)(gl':dU)(gJ:c7)(em:Env->ao->Sem Unit)(W:ah->av->eX->cN->Prop)(v:ao)(σ1:S):Prop:=
 ∃ds V1 sN lent rest,∃Inv:List Internal.D->List Internal.D->VS->Prop,T fr A (pyIter v) E σ1 (ItP fr A σ1 (lent++rest) ds)/\Inv ds [] V1/\(∀mt,(∀p∈lent,p.1∈mt)->RV mt σ1.F V1 sN lent)/\
   (∀y ov,(y,ov)∈sN->(y∈caps/\(y,ov)∈σ1.V)\/(y∈x::ts/\ov=none))/\(sN.map (·.1)).Nodup/\
   (∀aP,pX fr aP scope (x::ts) caps gl'->∀D d aF rs V,Inv (d::aF) rs V->∃V2,Pv x (.fz d) V V2/\DT aP A gO RB V2 (kh gJ aP.e) (λok V3=>(ok=true->Em aP A (em aP.e (.ref D)) D V3 rs (Inv aF))/\(ok=false->Inv aF rs V3)))/\
   (∀F' D rs V' Kw qW vs mt,Le σ1.F F'->D∉fr.mt->Inv [] rs V'->aK F' rs vs->RV mt F' V' Kw qW->(∀y∈caps,∀v v',(y,some v)∈σ1.V->(y,some v')∈Kw->v=v')->W F' D σ1.V ((D,.list vs)::(qW++rest)))
theorem uT.mk (V1:VS)(sN:eX){lent rest:cN}(Inv:List Internal.D->List Internal.D->VS->Prop)(h1:T fr A (pyIter v) E σ1 (ItP fr A σ1 (lent++rest) ds))(h2:Inv ds [] V1)(h3:∀mt,(∀p∈lent,p.1∈mt)->RV mt σ1.F V1 sN lent)
  (h4:∀y ov,(y,ov)∈sN->(y∈caps/\(y,ov)∈σ1.V)\/(y∈x::ts/\ov=none))(h5:(sN.map (·.1)).Nodup)
  (h6:∀aP,pX fr aP scope (x::ts) caps gl'->∀D d aF rs V,Inv (d::aF) rs V->∃V2,Pv x (.fz d) V V2/\DT aP A gO RB V2 (kh gJ aP.e) (λok V3=>(ok=true->Em aP A (em aP.e (.ref D)) D V3 rs (Inv aF))/\(ok=false->Inv aF rs V3)))
  (h7:∀F' D rs V' Kw qW vs mt,Le σ1.F F'->D∉fr.mt->Inv [] rs V'->aK F' rs vs->RV mt F' V' Kw qW->(∀y∈caps,∀v v',(y,some v)∈σ1.V->(y,some v')∈Kw->v=v')->W F' D σ1.V ((D,.list vs)::(qW++rest))):uT fr A E scope x ts caps gl' gJ em W v σ1:=
 ua ds V1 sN (mK lent rest Inv h1 h2 h3 h4 h5 h6 h7)
end
theorem Es {bA:aD}{scope:eO}{Q:yw}
  (hf:dH fr gl)(w6:gens=⟨.Name x px,iter,gJ,0⟩::gs)
  (hT:aeM bA gens scope pos x px iter gJ em)
  (hs:∀x,foldedSetIterable iter fr.e x=pure x)
  (hB:Eu fr.w.params scope (x::ts) caps gl'=true)(Eh:scope.kind=.function)(aW:∀y∈caps,Ce fr y)(rB:∀y∈caps,∃ov,(y,ov)∈σ.V)
  (W:ah->av->eX->cN->Prop)
  (agj:T fr A (eval iter fr.e) E σ (uT fr A E scope x ts caps gl' gJ em W))(hU:∀F' D Vc o,W F' D Vc o->Kz fr A E use Q F' D Vc o):
  T fr A (comprehension (.ListComp bA gens scope pos) scope fr.e pos' (newList []) false (eval iter fr.e) use) E σ Q:=by
 obtain⟨F0,Vc0,aro⟩:=σ;intro vI d0 tk0 K2;have hb:=hB;unfold Eu at hb;simp only[iK,j8,xg,eH,bne_iff_ne,adY,decide_eq_true_eq] at hb;refine xA hb λz6 b4=>clear% hb;xA z6 λz7 b3=>clear% z6;xA z7 λb1 b2=>clear% z7;?_;have NX:∀p∈scope.names,p.2=.free->p.1∈caps:=λp hp hk=>(b4 p hp).2.resolve_left (λq=>q hk);obtain⟨cl,W4,qp,Ma⟩:=Dc (env:=fr.e) (scope:=scope) λp hp hk=>by exact xE (rB _ (NX p hp hk)) λov ho=>aq (K2.vars.Oa _ ov ho (aW _ (NX p hp hk))) λc hc z=>⟨c,hc⟩
 refine wpAny_comprehension_free (by rw[show clausesOf (.ListComp bA gens scope pos)=gens from rfl,w6]) hs W4 Eh (λy hy hl=>by rw[(b4 y hy).1.2,hl]) ?_;refine agj.bG K2 λv h1 d1 tk1 σ1 qS z0=>rI z0 λds V1 sN bK=>l9 bK λlent rest Inv B4 qF hrv abB nN jP agv=>clear% bK;clear% z0;?_;obtain⟨F1,c5,apy⟩:=σ1;refine(B4.bG qS) λit h2 d2 Fb kg j0 z1=>bB z1 λI p aC eI e2 dQ hIm ok=>clear% z1;?_;subst eI e2;refine(sH (vs:=[]) (Q:=λr σ3=>∃D,r=.ref D/\D∉fr.mt/\σ3=⟨F1,c5,(D,.list [])::(I,.obj (p 0))::aC⟩) (λa ha=>⟨a,rfl,ha,rfl⟩) (jU _)).bG j0 λacc h3 d3 TV σ3 yH z2=>gb z2 λD eD hDm e3=>clear% z2;?_;subst eD e3;have zx:St fr ⟨F1,c5,lent++((D,.list [])::(I,.obj (p 0))::rest)⟩ h3:=yH.sub ⟨_,by
  have e:(lent++((D,Cell.list [])::(I,Cell.obj (p 0))::rest)).Perm ((D,Cell.list [])::(I,Cell.obj (p 0))::(lent++rest)):=by refine nS.trans (List.Perm.cons _ nS)
  exact e.trans (List.Perm.cons _ (List.Perm.cons _ dQ.symm)),fZ _⟩;refine Sv (gl':=gl') (ts:=x::ts) (caps:=caps) (sN:=sN) hf.cx zx hB Eh qp Ma aW (λy ov hy=>(abB y ov hy).imp (·.1) id) (λy ov hy hc=>?_) nN ?_
 .refine fU (abB y ov hy) (λq=>?_) λq=>?_
  .exact q.2
  .have e1:=b2 y hc
   have e2:=b1 y q.1;rw[e1] at e2;rcases e2 with e2|e2<;>cases e2
 intro sD h4 aP efr hF' hW' hC' agH K1 R8 hck;have ew:aP.w=fr.w:=by rw[efr]
 have ehb:aP.hb=fr.hb:=by rw[efr]
 have eh0:aP.h₀=h3:=by rw[efr]
 have eF0:aP.F₀=F1:=by rw[efr]
 have emt:aP.mt=(lent++((D,Cell.list [])::(I,Cell.obj (p 0))::rest)).map (·.1):=by rw[efr]
 have eos:aP.os=fr.os:=by rw[efr]
 have ee:({sD with scope:=relabel scope fr.e}:Env)=aP.e:=by rw[efr]
 have Xj:aP.e.locals=sD.locals:=by rw[<-ee]
 have hcf:pX fr aP scope (x::ts) caps gl':=⟨hF',hW',hC',agH,ew,hck⟩;rw[ee];have Td:EZ aP.w A F1 I p ds:=by rw[ew];exact ok
 have key:∀(h4:Heap) (d3:Drawn) (TV:Nat),St aP ⟨F1,sN,lent++((D,.list [])::(I,.obj (p 0))::rest)⟩ h4->codeAny (model pw aP.w) A (.compLoop (.ListComp bA gens scope pos) 0 (.ref I) (.ref D) aP.e) (compPost (model pw fr.w) A E use (Po fr Q) (.ref D) sD.locals) ⟨h4, #[],d3,TV,aP.os⟩:=by
  intro h4 d3 TV K1;refine Et (em:=em aP.e (.ref D)) (rs:=[]) (hT _ _ _) (hW' x (.head _)) Td Inv (jP aP hcf D) K1 (hrv _ λp hp=>by rw[emt,dN];exact uJ _ (j9 hp)) (.refl _) .nil qF ?_;intro h5 d5 Zy F5 Y5 lK V5 rs5 vs5 B3 Nk LH r5 abi;have stB:=St.adl (rest:=[]) (by rw[pP];exact zx) B3 ew ehb eh0 eF0 emt;rw[pP] at stB;have hC:¬cW h3 sD.locals:=by rw[R8];exact eG
  refine aq (B3.vars.loc) λm5 hm5 z=>?_;rw[Xj] at hm5;refine aq (afF hm5) λoC hoC hnC=>?_;have stC:St fr ⟨F5,c5,(sD.locals,.obj nsO)::(lK++((D,.list vs5)::(I,.obj (p ds.length))::rest))⟩ h5:=stB.MF (λl=>hC (zx.stay l)) (by rw[R8];exact zx.fresh.2.1) (by have:=B3.fY.1;rwa [Xj] at this)
   (λp hp=>by have:=B3.fY.2 p hp;rwa [Xj] at this) (λq=>hC (by rw[q];refine aq (zx.vars.loc) λm z8 z=>qQ z8 λo z z e z=>clear% z8;?_;exact⟨o,e⟩)) (λy c e q=>hC (by rw[q];refine dw ((zx.dM y c e).2.2) λov o e' z=>?_;exact⟨o,e'⟩)) hoC hnC;have hCm:sD.locals∉fr.mt:=λq=>hC (zx.Rz _ q);have Zz:St fr ⟨F5,c5,(I,.obj (p ds.length))::(sD.locals,.obj nsO)::(D,.list vs5)::(lK++rest)⟩ h5:=stC.sub ⟨_,by
   have e1:((I,Cell.obj (p ds.length))::(D,Cell.list vs5)::(lK++rest)).Perm (lK++((D,.list vs5)::(I,.obj (p ds.length))::rest)):=by exact(List.Perm.swap _ _ _).trans ((nS.trans (List.Perm.cons _ nS)).symm)
   exact(List.Perm.swap _ _ _).trans (List.Perm.cons _ e1),fZ _⟩;have Js:∀y∈caps,∀v v',(y,some v)∈c5->(y,some v')∈Y5->v=v':=λy hy v v' hv hv'=>by
   refine jF (stB.vars.Oa y _ hv (aW y hy)) λc hc ov hi R7=>jF (B3.vars.Oa y _ hv' (hC' y hy)) λc' ju Fz qG anN=>?_;rw[hck y hy,hc] at ju;cases ju;rw[R7 v rfl] at hi;rw[anN v' rfl] at qG;exact LV hi qG
  have hw:=agv F5 D rs5 V5 Y5 lK vs5 aP.mt LH hDm abi r5 Nk Js;rw[ew,eos];refine T.cps (ok.done fr F5 c5 _ gO _ rfl LH hIm λh6 d6 zm xD=>?_) Zz;refine⟨rfl,?_⟩;have hu:=hU _ _ _ _ hw;clear hf w6 hT hs hB Eh aW hU rB agj K2 b4 b3 b1 b2 NX W4 qp Ma qF nN jP qS B4 hrv abB agv dQ hIm ok j0 hDm yH zx efr hF' hW' hC' agH K1 R8 hck ew ehb eh0 eF0 emt eos ee Xj hcf Td B3 Nk LH r5 abi stB hC hm5 hoC hnC stC Zz Js hw;induction use using fL with
  |none=>refine sP (xD.cell (.head _)) λoC' eC' m' hm'=>⟨m',hm' _ _ eC',λh7 hs7=>(af h7 d6 zm _ rfl ?_ hu)⟩;exact wy (t:=(pure ():Sem Unit)) (Q:=λz z=>True) (a:=()) (d:=d6) (tk:=zm) xD hCm hs7.extBut
  |some u=>refine(hu sD.locals).bG xD λz h7 d7 tk7 σ7 st7 z4=>aq z4 λo2 eo2 hq=>clear% z4;?_;obtain⟨F7,Vc7,o7⟩:=σ7;have eo2:o7=(sD.locals,.obj nsO)::o2:=eo2;subst eo2;refine sP (st7.cell (.head _)) λoC' eC' m' hm'=>⟨m',hm' _ _ eC',λh8 hs8=>(af h8 d7 tk7 _ rfl ?_ hq)⟩;exact wy (t:=(pure ():Sem Unit)) (Q:=λz z=>True) (a:=()) (d:=d7) (tk:=tk7) st7 hCm hs8.extBut
 have aiF:St aP ⟨F1,sN,lent++((D,.list [])::(I,.obj (p 0))::rest)⟩ h4:=K1;have ajJ:∀(h4:Heap) (d3:Drawn) (TV:Nat),St aP ⟨F1,sN,lent++((D,.list [])::(I,.obj (p 0))::rest)⟩ h4->codeAny (model pw fr.w) A (.compLoop (.ListComp bA gens scope pos) 0 (.ref I) (.ref D) aP.e) (compPost (model pw fr.w) A E use (Po fr Q) (.ref D) sD.locals) ⟨h4, #[],d3,TV,fr.os⟩:=λh d t s=>by
  have:=key h d t s
  rwa [ew,eos] at this
 have GF:=T.cps (P:=λit' s'=>codeAny (model pw fr.w) A (.compLoop (.ListComp bA gens scope pos) 0 it' (.ref D) aP.e) (compPost (model pw fr.w) A E use (Po fr Q) (.ref D) sD.locals) s') (hp:=h4) (d:=d3) (tk:=TV) (Td.self aP F1 sN (lent++((D,.list [])::rest)) 0 gO _ rfl λh5 d5 Zy B3=>by rw[eos];exact ajJ _ _ _ (B3.sub ⟨_,zR,fZ _⟩)) (aiF.sub ⟨_,zR.symm,fZ _⟩);rw[ew,eos] at GF;clear hf hT hs hB Eh aW hU rB agj K2 b4 b3 b1 b2 NX W4 qp Ma qF nN jP qS B4 hrv abB agv dQ hIm ok j0 hDm yH zx efr hF' hW' hC' agH K1 R8 hck ew ehb eh0 eF0 emt eos ee Xj hcf Td key;subst w6;exact codeAny_compStart_list (ajJ _ _ _ aiF) (fk GF (λz z y=>y) λz z y=>y.elim)
inductive gu:VS->VS->Prop
 |nil {W:VS}:gu [] W
 |cons {y:aa} {d:D} {r W:VS}:Hs (y,.fz d) W->gu r W->gu ((y,.fz d)::r) W
theorem gu.rv (s:gu au V1){mt:cP}{F:ah}{Vc:eX}(rv:RV mt F V1 Vc own):
  ∃sN,(∀mt,RV mt F au sN [])/\sN.map (·.1)=au.map (·.1)/\∀p∈sN,p∈Vc:=by
 induction s with
 |nil=>exact⟨[],λz=> .nil,rfl,λz h=>aR h⟩
 |cons h z ih=>
  refine aq (rv.En h.mem) λv hv r=>gb (ih rv) λsN h1 h2 h3=>⟨_::sN,λmt=> .fz r (h1 mt),by simp[h2],λp hp=>?_⟩;rcases bW.mp hp with rfl|hp
  .exact hv
  .exact h3 p hp
inductive E1:VS->Prop
 |nil:E1 []
 |cons {y d r}:E1 r->E1 ((y,.fz d)::r)
theorem gu.all (s:gu au V1):E1 au:=by
 induction s with
 |nil=>exact .nil
 |cons _ _ ih=>exact .cons ih
theorem E1.own (s:E1 au):∀{mt:cP} {F:ah} {Vc:eX} {own:cN},RV mt F au Vc own->own=[]:=by
 induction s with
 |nil=>intro z z z z rv;cases rv;rfl
 |cons z ih=>intro z z z z rv;induction rv using RV.fzE with|fz z rv=>exact ih rv
inductive Sh (c:VS):ay->VS->Prop
 |nil:Sh c [] c
 |un {x ts V}:Sh c ts V->Sh c (x::ts) ((x,.un)::V)
 |fz {x d ts V}:Sh c ts V->Sh c (x::ts) ((x,.fz d)::V)
theorem Sh.fR (s:Sh c [] V):V=c:=by cases s;rfl
theorem Sh.own {V:VS}(s:Sh c ts V):∀{mt:cP} {F:ah} {Vc:eX} {own:cN},RV mt F V Vc own->∃dG,RV mt F c dG own/\∀p∈dG,p∈Vc:=by
 induction s with
 |nil=>intro z z z z rv;exact⟨_,rv,λz h=>h⟩
 |un z ih=>intro z z z z rv;induction rv using RV.unE with|un rv=>exact(ih rv).imp λz h=>⟨h.1,λp hp=> .tail _ (h.2 p hp)⟩
 |fz z ih=>intro z z z z rv;cases rv using RV.fzE with|fz z rv=>exact(ih rv).imp λz h=>⟨h.1,λp hp=> .tail _ (h.2 p hp)⟩
noncomputable def unV (ts:ay)(c:VS):VS:=ts.map (λx=>(x,.un))++c
theorem Sh.start (c:VS):∀ts:ay,Sh c ts (unV ts c)
 |[]=> .nil
 |_::ts=> .un (Sh.start c ts)
theorem RV.unV {mt:cP}{F:ah}{c:VS}{Vc:eX}{own:cN}(rv:RV mt F c Vc own):∀ts:ay,RV mt F (unV ts c) (ts.map (λx=>(x,none))++Vc) own
 |[]=>rv
 |_::ts=> .un (rv.unV ts)
theorem RV.keys {mt:cP}{own:cN}(rv:RV mt F V Vc own):Vc.map (·.1)=V.map (·.1):=
 RV.rec (motive:=λV Vc z z=>Vc.map (·.1)=V.map (·.1)) rfl (λ{x _ _ _ _ _ _} z z ih=>aT (x:: ·) ih) rv
noncomputable def ceB (sc:eO)(ys:ay):Bool:=ys.all λy=>sc.names.lookup y==some .cell||sc.names.lookup y==some .free
theorem Ce.of (iG:fr.e.scope=sc)(h:ceB sc ys=true):∀y∈ys,Ce fr y:=λy hy=>by unfold ceB at h;simp only[j8,xg,eH] at h;delta Ce Env.kindOf;rw[iG];exact h y hy
structure jZ (P:aY) (scope:eO) (ts caps:ay) (gl':dU):Prop where
 b:Eu P scope ts caps gl'=true
 kind:scope.kind=.function
 nd:(ts++caps).Nodup
def kT (fr:Fm)(A:aQ)(scope:eO)(x:aa)(ts caps:ay)(gl':dU)(gJ:c7)(em:Env->ao->Sem Unit)(W:az)(ds:ak)(V1:VS):Prop:=∃(au:VS) (Inv:ak->ak->Prop),au.map (·.1)=caps/\gu au V1/\Inv ds []/\
   (∀aP,pX fr aP scope (x::ts) caps gl'->∀D d aF rs Vx,Inv (d::aF) rs->Sh au ts Vx->DT aP A gO RB ((x,.fz d)::Vx) (kh gJ aP.e) (λok V3=>(ok=true->Em aP A (em aP.e (.ref D)) D V3 rs λHz V4=>Inv aF Hz/\Sh au (x::ts) V4)/\(ok=false->Inv aF rs/\Sh au (x::ts) V3)))/\
   ∀rs,Inv [] rs->rs.length<=cap/\W (.list rs) V1
section
variable {scope:eO}{x:aa}{ts caps:ay}{gJ:c7}{em:Env->ao->Sem Unit}{W:az}{ds:ak}{V1:VS}{F:ah}{rest own:cN}
theorem kT.mk (au:VS)(Inv:ak->ak->Prop)(h1:au.map (·.1)=caps)(h2:gu au V1)(h3:Inv ds [])
   (h4:∀aP,pX fr aP scope (x::ts) caps gl'->∀D d aF rs Vx,Inv (d::aF) rs->Sh au ts Vx->DT aP A gO RB ((x,.fz d)::Vx) (kh gJ aP.e) (λok V3=>(ok=true->Em aP A (em aP.e (.ref D)) D V3 rs λHz V4=>Inv aF Hz/\Sh au (x::ts) V4)/\(ok=false->Inv aF rs/\Sh au (x::ts) V3)))
   (h5:∀rs,Inv [] rs->rs.length<=cap/\W (.list rs) V1):kT fr A scope x ts caps gl' gJ em W ds V1:=⟨au,Inv,h1,h2,h3,h4,h5⟩
def aeN (fr:Fm)(A:aQ)(E:aS)(F:ah)(rest:cN)(scope:eO)(x:aa)(ts caps:ay)(gl':dU)(gJ:c7)(em:Env->ao->Sem Unit)(W:az)(v:ao)(σ1:S):Prop:=
 ∃V1 aC ds,RV fr.mt σ1.F V1 σ1.V aC/\Le F σ1.F/\T fr A (pyIter v) E σ1 (ItP fr A σ1 (aC++rest) ds)/\kT fr A scope x ts caps gl' gJ em W ds V1
theorem Mv (h:DT fr A E Rp V t λsrc V1=>∃ds,gq fr.w A src ds/\kT fr A scope x ts caps gl' gJ em W ds V1)(rv:RV fr.mt F V Vc own):T fr A t E ⟨F,Vc,own++rest⟩ (aeN fr A E F rest scope x ts caps gl' gJ em W):=
 h.go rv λv F1 c5 aC src V1 bQ cM r1 z=>aq z λds B4 z=>⟨V1,aC,ds,bQ,cM,B4.itr r1 (.refl _),z⟩
def alP (fr:Fm)(F:ah)(rest:cN)(W:az)(F':ah)(D:av)(dG:eX)(o:cN):Prop:=∃own' rs V1 vs,o=(D,.list vs)::(own'++rest)/\RV fr.mt F' V1 dG own'/\Le F F'/\W (.list rs) V1/\Ow F' (.list rs) (.ref D) [(D,.list vs)]/\D∉fr.mt
end
theorem yW {bA:aD}{gens gs:List Comprehension}
  (hf:dH fr gl)(w6:gens=⟨.Name x px,iter,gJ,0⟩::gs)
  (hT:aeM bA gens scope pos x px iter gJ em)
  (hs:∀x,foldedSetIterable iter fr.e x=pure x)
  (hB:jZ fr.w.params scope (x::ts) caps gl')(aW:∀y∈caps,Ce fr y)(rB:∀y∈caps,y∈V.map (·.1))
  (rv:RV fr.mt F V Vc own)(h:T fr A (eval iter fr.e) E ⟨F,Vc,own++rest⟩ (aeN fr A E F rest scope x ts caps gl' gJ em W)){Q:yw}
  (hU:∀F' D dG own' rs V1 vs,RV fr.mt F' V1 dG own'->Le F F'->W (.list rs) V1->Ow F' (.list rs) (.ref D) [(D,.list vs)]->D∉fr.mt->Kz fr A E use Q F' D dG ((D,.list vs)::(own'++rest))):
  T fr A (comprehension (.ListComp bA gens scope pos) scope fr.e pos' (newList []) false (eval iter fr.e) use) E ⟨F,Vc,own++rest⟩ Q:=by
 refine Es hf w6 hT hs hB.b hB.kind aW (λy hy=>?_) (alP fr F rest W) ?_ (λF' D dG o z0=>cU z0 λown' rs V1 vs e h1 h2 h3 h4 h5=>by rw[e];exact hU F' D dG own' rs V1 vs h1 h2 h3 h4 h5)
 .have:=rB y hy
  rw[<-rv.keys] at this;exact aq (bN.mp this) λp hp e=>⟨p.2,e▸hp⟩
 refine h.mono λv σ1 z1=>rI z1 λV1 aC ds z=>kU z λbQ cM B4 z=>Hv z λau Inv z=>jl z λaoO gh qF jP xX=>?_;clear hf w6 hT hs aW rB h hU z1;subst aoO;refine gb (gh.rv bQ) λsN hr hk vJ=>?_;have nN:=hB.nd;have iY:(((x::ts).map λx=>(x,(none:nV)))++sN).map (·.1)=(x::ts)++au.map (·.1):=by rw[dN,hk,eL];congr 1;exact sF _
 refine uT.mk (lent:=[]) (rest:=aC++rest) (unV (x::ts) au) ((x::ts).map (λx=>(x,none))++sN) (λaF rs V=>Inv aF rs/\Sh au (x::ts) V) B4 ⟨qF,Sh.start _ _⟩ (λmt u=>(hr mt).unV _) (λy ov hy=>?_) (by rw[iY];exact nN) (λaP hc D d aF rs Vx z2=>xA z2 λi1 sh=>clear% z2;?_) (λF' D rs V' Kw qW vs mt le' hD z3 rl ic Js=>xA z3 λi1 sh=>clear% z3;?_)
 .rcases j6.mp hy with q|q
  .refine aq (bN.mp q) λz hz e=>?_
   cases e;exact .inr ⟨hz,rfl⟩
  .exact .inl ⟨hk▸j9 q,vJ _ q⟩
 .cases sh with
  |un sh=>exact⟨_,.here,jP aP hc D d aF rs _ i1 sh⟩
  |fz sh=>exact⟨_,.here,jP aP hc D d aF rs _ i1 sh⟩
 .refine aq (sh.own ic) λdG rvc u=>?_
  have:=gh.all.own rvc;clear rv gh qF hB jP B4 hr hk vJ nN iY ic Js sh rvc;rw[this];exact xA (xX rs i1) λh1 h2=>aL aC rs V1 vs (by simp) (bQ.mono le') (cM.trans le') h2 (.list rl h1) hD
noncomputable def emS (bA:aD)(env:Env)(acc:ao):Sem Unit:=do let _<-call (.builtin "list.append") [acc,<-eval bA env]
theorem KY {Q:bY}{W:az}
  (hw:WrV fr tx)(hsw:swapsWith (.ListComp bA gens scope pos) (some (.Name tx tp)) Ci.line fr.e=pure true)
  (he:∀u,evalThenUse (.ListComp bA gens scope pos) fr.e u=(do let _<-comprehension (.ListComp bA gens scope pos) scope fr.e pos' (newList []) false (eval iter fr.e) (some u)))
  (hW:∀d V1,W d V1->∃V2,Pv tx (.ow d) V1 V2/\Q .next V2)
  (h:∀(F:ah) (Vc:eX) (own rest:cN),RV fr.mt F V Vc own->∀(u:ao->Sem Unit) (Q':yw),
   (∀F' D dG own' rs V1 vs,RV fr.mt F' V1 dG own'->Le F F'->W (.list rs) V1->Ow F' (.list rs) (.ref D) [(D,.list vs)]->D∉fr.mt->
    ∀C,T fr A (u (.ref D)) E ⟨F',dG,(C,.obj nsO)::(D,.list vs)::(own'++rest)⟩ (λz kg=>∃o2,kg.own=(C,.obj nsO)::o2/\Q' .none ⟨kg.F,kg.V,o2⟩))->
   T fr A (comprehension (.ListComp bA gens scope pos) scope fr.e pos' (newList []) false (eval iter fr.e) (some u)) E ⟨F,Vc,own++rest⟩ Q'):
  DT fr A E RF V (exec (.Assign [.Name tx tp] (.ListComp bA gens scope pos) Ci) fr.e) Q:=λF Vc own rest rv=>by
 rw[exec_Assign_Name_used _ _ _ _ hsw,he];intro hp d tk st;refine aN (xe ?_);refine aN (aN ?_);refine((h F Vc own rest rv (assign (.Name tx tp) fr.e) (λz kg=>∃V2 bE,RV fr.mt kg.F V2 kg.V bE/\(∃m,(bE++rest).Perm m/\m.Sublist kg.own)/\Le F kg.F/\Q .next V2) ?_).bG st λz h' d' cX σ' cI z0=>ig z0 λV2 bE ff sub le q=>clear% z0;?_)
 .intro F' D dG own' rs V1 vs ic le hW' f7 hD C
  refine aq (hW _ _ hW') λV2 pv q=>dm (ic.ai3 pv f7 (λp hp=>by cases hp with|head=>exact hD|tail z q=>exact aR q)) λjX bE pc ff sub=>?_;intro hp d tk st;refine Kh ((uQ (Q:=λz σ=>σ=⟨F',jX,(C,.obj nsO)::(D,.list vs)::(own'++rest)⟩) hw pc rfl).bG st λz h5 d5 Zy σ5 B3 e5=>?_);subst e5;exact(af h5 d5 Zy _ rfl B3 (yO _ rfl V2 bE ff (wG rest sub) (iA le q)))
 .refine cG ?_
  obtain⟨F2,jX,o2⟩:=σ'
  first
   |exact cG (af h' d' cX ⟨F2,jX,bE++rest⟩ rfl (cI.sub sub) (cg ff le RF.next q))
   |exact⟨h',d',cX,⟨F2,jX,bE++rest⟩,rfl,cI.sub sub,cg ff le RF.next q⟩
inductive ia (x:aa) (s:Sl):VS->pU->Prop
 |here {r}:ia x s ((x,s)::r) (λs'=>(x,s')::r)
 |there {p r f}:ia x s r f->ia x s (p::r) (λs'=>p::f s')
inductive sI (mt:cP) (cs:cN):gm->Prop
 |ow:(∀p∈cs,p.1∉mt)->sI mt cs .ow
 |ln:(∀p∈cs,p.1∈mt)->sI mt cs .ln
theorem RV.TX (j3:mk=.ow\/mk=.ln)(c:ia x (mk d) V f){mt:cP}{F:ah}:∀{Vc:eX} {own:cN},RV mt F V Vc own->
  ∃v own' cs,(x,some v)∈Vc/\Ow F d v cs/\sI mt cs mk/\own.Perm (cs++own')/\RV mt F (f (.at v)) Vc own':=by
 induction c with
 |here=>
  intro Vc own rv;rcases j3 with rfl|rfl
  .induction rv using RV.owE with|ow r n rv=>exact(aV _ _ _ (.head _) r (.ow n) (.refl _) (.at rv))
  .induction rv using RV.lnE with|ln r n rv=>exact(aV _ _ _ (.head _) r (.ln n) (.refl _) (.at rv))
 |there z ih=>
  intro Vc own rv;cases rv with
  |cons s rv=>exact bB (ih rv) λv o cs a b n p q=>aV v _ cs (.tail _ a) b n (zQ p) (.cons s q)
theorem Dn.atE {mt:cP}{v:ao}(h:Dn mt F (.at v) ov cs):ov=some v:=by cases h with|«at»=>rfl
theorem RV.Od {mt:cP}{Vc:eX}(rv:RV mt F V Vc own)(h:(x,.at v)∈V):(x,some v)∈Vc:=
 dw (rv.slot h) λz z a b=>b.atE▸a
theorem RV.El {cs:cN}(c:ia x (.at v) V f){mt:cP}(r:Ow F d v cs)(hn:sI mt cs mk):∀{Vc:eX} {own:cN},RV mt F V Vc own->
  ∃own',RV mt F (f (mk d)) Vc own'/\own'.Perm (cs++own):=by
 induction c with
 |here=>
  intro Vc own rv;induction rv using RV.atE with
  |«at» rv=>
   induction hn using sI.casesOn with
   |ow n=>exact⟨_,.ow r n rv,.refl _⟩
   |ln n=>exact⟨_,.ln r n rv,.refl _⟩
 |there z ih=>intro Vc own rv;cases rv with|cons s rv=>exact aq (ih rv) λo a p=>⟨_,.cons s a,zQ p⟩
theorem RV.akN (c:ia x (.at v) V f){mt:cP}(r:Rp F d v):∀{Vc:eX} {own:cN},RV mt F V Vc own->RV mt F (f (.fz d)) Vc own:=by
 induction c with
 |here=>intro Vc own rv;induction rv using RV.atE with|«at» rv=>exact .fz r rv
 |there z ih=>intro Vc own rv;cases rv with|cons s rv=>exact .cons s (ih rv)
structure iO (T:String) (name:aa) (id:String):Prop where
 plain:PlainAttrs T
 slot:Slot T name id
 ty:typeOf (.builtin id)=pure (.type "method_descriptor")
theorem Ow.mem (r:Ow F d v cs):∃a c cs',v=.ref a/\cs=(a,c)::cs':=by induction r using Ow.casesOn<;>exact(WI _ _ _ rfl rfl)
noncomputable def HM:D->Option String
 | .list _=>some "list"
 | .tup _=>some "tuple"
 | .dict _=>some "dict"
 | .bh _=>some "dict"
 | .cK _=>some "dict"
 | .str _=>some "str"
 |_=>none
noncomputable def tyC:Cell->Option String
 | .list _=>some "list"
 | .tup _=>some "tuple"
 | .dict _ _=>some "dict"
 | .bh _=>some "dict"
 |_=>none
theorem Cell.isD (ok:c.ok w o){T:String}(h:tyC c=some T):o.cls=.type T/\o.dict=none:=by
 induction c using Cell.casesOn with
 |list vs=>refine xE ok λn z1=>clear% ok;?_;rw[z1];cases h;exact⟨rfl,rfl⟩
 |tup vs=>have ok:o=_:=ok;rw[ok];cases h;exact⟨rfl,rfl⟩
 |dict es ep=>refine xA ok λz0 z=>dw z0 λz z h1 z=>?_;cases h;exact⟨h1.1,h1.2.1⟩
 |bh es=>refine dw ok λz z h1 z=>?_;cases h;exact⟨h1.1,h1.2.1⟩
 |_=>cases h
theorem Ow.agZ (r:Ow F d v cs){T:String}:HM d=some T->∃a c cs',v=.ref a/\cs=(a,c)::cs'/\tyC c=some T:=
 Ow.casesOn (motive:=λd v cs z=>HM d=some T->∃a c cs',v=.ref a/\cs=(a,c)::cs'/\tyC c=some T) r (λz z h=>gE _ _ _ rfl rfl h) (λz h=>gE _ _ _ rfl rfl h) (λz h=>gE _ _ _ rfl rfl h) (λz z h=>aA h) (λz h=>gE _ _ _ rfl rfl h)
theorem Ow.type {cs:cN}(r:Ow F d v cs){T:String}(h:HM d=some T){Vc own}{hp:Heap}(st:St fr ⟨F,Vc,cs++own⟩ hp):∃a o,v=.ref a/\hp.get? a=some o/\o.cls=.type T/\o.dict=none:=
 i9 (r.agZ h) λa c cs' z0 z1 ht=>aq (st.cell (p:=(a,c)) (by rw[z1];exact .head _)) λo ho ok=>eB a o z0 ho (Cell.isD ok ht)
theorem aeZ (r:Rp F d v){T:String}(h:HM d=some T){Vc own}(st:St fr ⟨F,Vc,own⟩ hp)(s:cO)(e:s.heap=hp):s.TypeIs v T/\∀a,v=.ref a->∃o,s.heap.get? a=some o/\o.dict=none:=by
 have key:∀{a c},F a=some c->tyC c=some T->s.TypeIs (.ref a) T/\∀b,Value.ref a=.ref b->∃o,s.heap.get? b=some o/\o.dict=none:=λ{a c} hc ht=>by refine gy (st.sees a c hc) λz o ho ok=>xA (Cell.isD ok ht) λh1 h2=>?_;rw[<-e] at ho;exact⟨⟨o,ho,h1⟩,λb q=>⟨o,Value.ref.inj q▸ho,h2⟩⟩
 exact Rp.casesOn (motive_1:=λd v z=>HM d=some T->s.TypeIs v T/\∀a,v=.ref a->∃o,s.heap.get? a=some o/\o.dict=none) r (λh=>aA h) (λh=>aA h) (λh=>aA h)
  (λh=>⟨aT (λT=>(pure (Value.type T):Sem ao)) (mT h),λa q=>nomatch q⟩) (λe z z h=>key e h) (λe z z h=>key e h) (λz z z z h=>aA h) (λe z h=>key e h) (λe z h=>key e h) (λz h=>aA h) (λh=>aA h) (λe z h=>key e h) h
theorem jy
  (h:T fr A (eval o fr.e) E σ λov σ1=>T fr A (getMethod ov name pl) E σ1 λfx kg=>T fr A (callWith pos fx.1 fx.2 (backTo pos (starEach args fr.e)) []) E kg Q)
  (he:autoParam (eval (.Call (.Attribute o name iI) args [] pos) fr.e=(do
   let ov<-eval o fr.e
   standAt iI.atName
   let (f,first)<-holding [ov] (getMethod ov name pl)
   callWith pos f first (backTo pos (starEach args fr.e)) [])) wu):T fr A (eval (.Call (.Attribute o name iI) args [] pos) fr.e) E σ Q:=λhp d tk st=>
 MethodCall_ (h.bG st λz z z z z s1 q1=>q1.bG s1 λz z z z z s2 q2=>q2 _ _ _ s2) he
theorem ahj (hf:dH fr gl){args:c7}
  (h:DT fr A E Rp V (eval o fr.e) λd V1=>∃T id,HM d=some T/\iO T name id/\DT fr A E aK V1 (spliced (backTo pos (starEach args fr.e))) λds V2=>mZ fr A E Rp V2 (cl (.builtin id)) (d::ds) Q)
  (he:autoParam (eval (.Call (.Attribute o name iI) args [] pos) fr.e=(do
   let ov<-eval o fr.e
   standAt iI.atName
   let (f,first)<-holding [ov] (getMethod ov name pl)
   callWith pos f first (backTo pos (starEach args fr.e)) [])) wu)
  (hs:autoParam ((backTo pos (starEach args fr.e)).any (·.1)=false) wu):DT fr A E Rp V (eval (.Call (.Attribute o name iI) args [] pos) fr.e) Q:=λF Vc own rs rv=>
 jy (h.go rv λv F1 c5 aC d V1 bQ cM r1 z0=>dm z0 λT' id ht hm q1=>by intro hp dr tk st;refine xA (aeZ r1 ht st ⟨hp, #[],dr,tk,fr.os⟩ rfl) λh1 h2=>OF h1 hm.plain hm.slot hm.ty h2 (af hp dr tk _ rfl st ?_);exact bJ hf.cx rfl (q1.go bQ λvs F2 jX bE ds V2 ff fM r2 q2=>T.lift (cM.trans fM) (q2 (v::vs) F2 jX bE rs ff (.cons (r1.mono fM) r2))) hs) he
def MP (F:ah)(Vc:eX)(cs rest:cN)(v:ao)(K:D->D->Prop)(r:ao)(σ':S):Prop:=∃dr d' cs',Ow σ'.F d' v cs'/\σ'.own=cs'++rest/\σ'.V=Vc/\Le F σ'.F/\Rp σ'.F dr r/\cs'.map (·.1)=cs.map (·.1)/\K dr d'
theorem yX (hf:dH fr gl){args:c7}{Q:az}{mk:gm}{f:pU}{T' id:String}
  (c:ia x (mk d) V f)(j3:mk=.ow\/mk=.ln)(ht:HM d=some T')(hm:iO T' name id)
  (h:∀v,DT fr A E aK (f (.at v)) (spliced (backTo pos (starEach args fr.e))) λds V2=>∃f2,ia x (.at v) V2 f2/\
   ∀F vs,aK F ds vs->∀Vc cs rest,Ow F d v cs->T fr A (cl (.builtin id) (v::vs)) E ⟨F,Vc,cs++rest⟩ (MP F Vc cs rest v λdr d'=>Q dr (f2 (mk d'))))
  (he:autoParam (eval (.Call (.Attribute (.Name x px) name iI) args [] pos) fr.e=(do
   let ov<-eval (.Name x px) fr.e
   standAt iI.atName
   let (f,first)<-holding [ov] (getMethod ov name pl)
   callWith pos f first (backTo pos (starEach args fr.e)) [])) wu)
  (hs:autoParam ((backTo pos (starEach args fr.e)).any (·.1)=false) wu):DT fr A E Rp V (eval (.Call (.Attribute (.Name x px) name iI) args [] pos) fr.e) Q:=λF Vc own rs rv=>by
 refine bB (rv.TX j3 c) λv aC cs hx f7 ng dQ bQ=>T.perm (own':=cs++(aC++rs)) (by rw[<-eN];exact(dQ.append_right rs).symm) ?_;refine jy (dF hf hx ?_) he;intro hp dr tk st;refine ig (f7.type ht st) λa o ea ho hc hd=>?_;clear c j3 ht he rv hx dQ;subst ea;refine OF ⟨o,ho,hc⟩ hm.plain hm.slot hm.ty (λb q=>by cases q;exact⟨o,ho,hd⟩) (af hp dr tk _ rfl st ?_);refine bJ hf.cx rfl ?_ hs;refine T.perm (own':=aC++(cs++rs)) (by rw[<-eN,<-eN];exact ET.append_right rs) ?_;refine(h _).go bQ λvs F2 jX bE ds V2 ff fM r2 z0=>aq z0 λf2 c2 q2=>clear% z0;?_;refine T.perm (own':=cs++(bE++rs)) (by rw[<-eN,<-eN];exact ET.append_right rs) ?_;refine T.conv (q2 F2 vs r2 jX cs (bE++rs) (f7.mono fM)) λr σ' z1=>l9 z1 λas7 d' cs' CZ eo eV iP rr ek hq=>clear% z1;?_;obtain⟨F3,nH,o3⟩:=σ';have eo:o3=cs'++(bE++rs):=eo;have eV:nH=jX:=eV;clear hf hm h hs ho hc hd f7 bQ r2 q2;subst eo eV;have anG:sI fr.mt cs' mk:=by
  cases ng with
  |ow n=>refine .ow λp hp=>?_;have:p.1∈cs.map (·.1):=ek▸j9 hp;exact aq (bN.mp this) λq hq e=>e▸n q hq
  |ln n=>refine .ln λp hp=>?_;have:p.1∈cs.map (·.1):=ek▸j9 hp;exact aq (bN.mp this) λq hq e=>e▸n q hq
 exact aq (RV.El c2 CZ anG (ff.mono iP)) λcY lH p3=>⟨⟨F3,nH,cY++rs⟩,λhp st=>st.sub ⟨_,by rw[<-eN];exact p3.append_right rs,fZ _⟩,cg lH (fM.trans iP) rr hq⟩
noncomputable def d9 {K X:Type}[DecidableEq K](l:List (K×X))(k:K):Option X:=(l.find? λp=>p.1=k).map (·.2)
noncomputable def jG {K X:Type}[DecidableEq K](l:List (K×X))(k:K)(x:X):List (K×X):=
 if l.any (λp=>p.1=k) then l.map (λp=>if p.1=k then(p.1,x) else p) else l++[(k,x)]
theorem bP {K X:Type}[DecidableEq K](n:K)(d:X)(l:List (K×X))(k:K):d9 ((n,d)::l) k=if n=k then some d else d9 l k:=by unfold d9;by_cases h:n=k<;>simp[List.find?_cons,h]
theorem ir {K:Type}[DecidableEq K](l:List (K×ao))(k:K):valueAt l k=d9 l k:=rfl
theorem kQ.look (h:kQ F l es)(k:aa):(d9 l k=none/\d9 es k=none)\/∃d v,d9 l k=some d/\d9 es k=some v/\Rp F d v:=
 kQ.ind (motive:=λl es=>(d9 l k=none/\d9 es k=none)\/∃d v,d9 l k=some d/\d9 es k=some v/\Rp F d v) (.inl ⟨rfl,rfl⟩) (λ{n _ _ _ _} x z ih=>by
  rw[bP,bP];by_cases h:n=k
  .rw[bg h,bg h];exact .inr (eB _ _ rfl rfl x)
  .rw[aG h,aG h];exact ih) h
theorem lY.look (h:lY F l es)(k:Int):(d9 l k=none/\d9 es k=none)\/∃d v,d9 l k=some d/\d9 es k=some v/\Rp F d v:=
 lY.ind (motive:=λl es=>(d9 l k=none/\d9 es k=none)\/∃d v,d9 l k=some d/\d9 es k=some v/\Rp F d v) (.inl ⟨rfl,rfl⟩) (λ{n _ _ _ _} x z ih=>by
  rw[bP,bP];by_cases h:n=k
  .rw[bg h,bg h];exact .inr (eB _ _ rfl rfl x)
  .rw[aG h,aG h];exact ih) h
theorem MQ.look (h:MQ F l es)(k:aa):(d9 l k=none/\d9 es k=none)\/∃d v,d9 l k=some d/\d9 es k=some v/\Rp F (.list d) v:=
 MQ.ind (motive:=λl es=>(d9 l k=none/\d9 es k=none)\/∃d v,d9 l k=some d/\d9 es k=some v/\Rp F (.list d) v) (.inl ⟨rfl,rfl⟩) (λ{n _ _ _ _ _} e x h z ih=>by
  rw[bP,bP];by_cases q:n=k
  .rw[bg q,bg q];exact .inr (eB _ _ rfl rfl (.list e x h))
  .rw[aG q,aG q];exact ih) h
theorem kQ.len (h:kQ F l es):es.length=l.length:=kQ.ind (motive:=λl es=>es.length=l.length) rfl (λz z ih=>aT Nat.succ ih) h
theorem lY.len (h:lY F l es):es.length=l.length:=lY.ind (motive:=λl es=>es.length=l.length) rfl (λz z ih=>aT Nat.succ ih) h
theorem Oe {K X Y:Type}[DecidableEq K]{l:List (K×X)}{es:List (K×Y)}(h:l.map (·.1)=es.map (·.1))(k:K):(l.any λp=>decide (p.1=k))=(es.any λp=>decide (p.1=k)):=by
 have e1:∀{Z:Type} (l:List (K×Z)),(l.any λp=>decide (p.1=k))=((l.map (·.1)).any λx=>decide (x=k)):=λl=>by simp only[List.any_map];rfl
 simp only[e1,e1,h]
theorem kQ.keys (h:kQ F l es):l.map (·.1)=es.map (·.1):=kQ.ind (motive:=λl es=>l.map (·.1)=es.map (·.1)) rfl (λ{n _ _ _ _} z z ih=>aT (n:: ·) ih) h
theorem lY.keys (h:lY F l es):l.map (·.1)=es.map (·.1):=lY.ind (motive:=λl es=>l.map (·.1)=es.map (·.1)) rfl (λ{n _ _ _ _} z z ih=>aT (n:: ·) ih) h
theorem kQ.map (h:Rp F d v){l:uX}{es:dU}(r:kQ F l es):kQ F (l.map λp=>if p.1=k then(p.1,d) else p) (es.map λp=>if p.1=k then(p.1,v) else p):=
 kQ.ind (motive:=λl es=>kQ F (l.map λp=>if p.1=k then(p.1,d) else p) (es.map λp=>if p.1=k then(p.1,v) else p)) .nil (λ{n _ _ _ _} x z ih=>by
  rw[fJ,fJ];by_cases q:n=k
  .rw[bg q,bg q];exact .cons h ih
  .rw[aG q,aG q];exact .cons x ih) r
theorem lY.map (h:Rp F d v){l:ZJ}{es:List (Int×ao)}(r:lY F l es):lY F (l.map λp=>if p.1=k then(p.1,d) else p) (es.map λp=>if p.1=k then(p.1,v) else p):=
 lY.ind (motive:=λl es=>lY F (l.map λp=>if p.1=k then(p.1,d) else p) (es.map λp=>if p.1=k then(p.1,v) else p)) .nil (λ{n _ _ _ _} x z ih=>by
  rw[fJ,fJ];by_cases q:n=k
  .rw[bg q,bg q];exact .cons h ih
  .rw[aG q,aG q];exact .cons x ih) r
theorem kQ.app (h:kQ F l es)(y:kQ F m fs):kQ F (l++m) (es++fs):=kQ.ind (motive:=λl es=>kQ F (l++m) (es++fs)) y (λx z ih=> .cons x ih) h
theorem lY.app (h:lY F l es)(y:lY F m fs):lY F (l++m) (es++fs):=lY.ind (motive:=λl es=>lY F (l++m) (es++fs)) y (λx z ih=> .cons x ih) h
theorem kQ.put {F:ah}{k:aa}{d:D}{v:ao}(h:Rp F d v)(r:kQ F l es):kQ F (jG l k d) (stored es k v):=by
 delta jG stored;rw[Oe r.keys k];cases (es.any λp=>decide (p.1=k)) with
 |true=>simp only[if_true];exact r.map h
 |false=>simp only[BI,if_false];exact r.app (.cons h .nil)
theorem lY.put {F:ah}{k:Int}{d:D}{v:ao}(h:Rp F d v)(r:lY F l es):lY F (jG l k d) (stored es k v):=by
 delta jG stored;rw[Oe r.keys k];cases (es.any λp=>decide (p.1=k)) with
 |true=>simp only[if_true];exact r.map h
 |false=>simp only[BI,if_false];exact r.app (.cons h .nil)
theorem yN (h:¬nJ fr.hb a):(a==sysModules)=false:=by
 induction q:a==sysModules using pR with
 |false=>rfl
 |true=>exact absurd (.inr (eH.mp q)) h
theorem qw {Vc own}{hp:Heap}(st:St fr ⟨F,Vc,own⟩ hp){a:av}{es ep}(e:F a=some (.dict es ep)):hp.DictOf (strKind pw fr.w) a es/\(a==sysModules)=false:=by refine gy (st.sees _ _ e) λl o ho bK=>xA bK λok z=>clear% bK;?_;exact⟨Di.mpr ⟨o,ho,ok⟩,yN l⟩
theorem pK {Vc own}{hp:Heap}(st:St fr ⟨F,Vc,own⟩ hp){a:av}{es ep}(e:(a,Cell.dict es ep)∈own):hp.DictOf (strKind pw fr.w) a es/\(a==sysModules)=false:=by refine b8 (st.own _ e) λz z l o ho bK=>xA bK λok z=>clear% bK;?_;exact⟨Di.mpr ⟨o,ho,ok⟩,yN l⟩
theorem AV {Vc own}(st:St fr ⟨F,Vc,own⟩ hp){a:av}{es}(e:(a,Cell.bh es)∈own):hp.DictOf (intKind pw fr.w) a es/\(a==sysModules)=false:=by exact b8 (st.own _ e) λz z l o ho ok=>⟨Di.mpr ⟨o,ho,ok⟩,yN l⟩
theorem aaB (hx:d9 l k=some x)(h:Q x V)
  (hs:autoParam (∀a t,subscripted slice false (.ref a) (.str k t)=operate [.ref a,.str k t] (getItem (.ref a) (.str k t))) wu):gG fr A E Rp V (subscriptTail value slice) (.dict l) (.str k) Q:=λv u F Vc own rest rv ra rb hp d tk st=>by
 induction ra using Rp.rC with
 | @dict a es _ e r=>
  induction rb using Rp.fj with
  | @str t=>
   refine xA (qw st e) λdd lo=>?_;rcases r.look k with⟨q,_⟩|⟨y,u,e1,e2,ry⟩
   .rw[hx] at q;exact fD q
   .rw[hx] at e1;cases e1
    exact uM dd.typeIs adq.lookup (wpAny_getItem_of (rE pw fr.w k t) dd.mapOf e2 (b9 (tk:=tk+1) st rv ry h)) (hs _ _)
theorem aau (hx:d9 l k=some x)(h:Q (.list x) V)
  (hs:autoParam (∀a t,subscripted slice false (.ref a) (.str k t)=operate [.ref a,.str k t] (getItem (.ref a) (.str k t))) wu):gG fr A E Rp V (subscriptTail value slice) (.cK l) (.str k) Q:=λv u F Vc own rest rv ra rb hp d tk st=>by
 induction ra using Rp.afM with
 | @cK a es _ e r=>
  induction rb using Rp.fj with
  | @str t=>
   refine xA (qw st e) λdd lo=>?_;rcases r.look k with⟨q,_⟩|⟨y,u,e1,e2,ry⟩
   .rw[hx] at q;exact fD q
   .rw[hx] at e1;cases e1
    exact uM dd.typeIs adq.lookup (wpAny_getItem_of (rE pw fr.w k t) dd.mapOf e2 (b9 (tk:=tk+1) st rv ry h)) (hs _ _)
theorem ajq:iO "dict" "get" "dict.get":=⟨ael,aee,rfl⟩
theorem afz (h:Q ((d9 l k).getD .none) V):mZ fr A E Rp V (cl (.builtin "dict.get")) [.dict l,.str k] Q:=fun vs F Vc own rest rv r hp d tk st=>by
 induction r using aK.aZ with
 |cons ra r=>
  induction r using aK.aZ with
  |cons rb r=>
   induction r using aK.fR;induction ra using Rp.rC with
   | @dict a es _ e r=>
    induction rb using Rp.fj with
    | @str t=>
     refine xA (qw st e) λdd lo=>XR aee dd.typeIs PySem.F.entry_dict_get (PySem.F.args_dict_get_2 _ _) (meets_dict_get (strKind pw fr.w) a (rE pw fr.w k t) lo) ⟨_,dd.mapOf,b9 (tk:=tk+1) st rv ?_ h⟩;simp only[ir];rcases r.look k with⟨q1,q2⟩|⟨y,u,e1,e2,ry⟩
     .rw[q1,q2];exact .none
     .rw[e1,e2];exact ry
theorem afu (h:Q (.bool (d9 l k).isSome) V):gG fr A E Rp V (compareOp .In) (.str k) (.dict l) Q:=λv u F Vc own rest rv ra rb hp d tk st=>by
 induction ra using Rp.fj with
 | @str t=>
  induction rb using Rp.rC with
  | @dict a es _ e r=>
   refine xA (qw st e) λdd lo=>wpAny_in_of (rE pw fr.w k t) lo dd.mapOf (b9 (tk:=tk+1) st rv ?_ h);simp only[ir];rcases r.look k with⟨q1,q2⟩|⟨y,u,e1,e2,ry⟩
   .rw[q1,q2];exact .bool
   .rw[e1,e2];exact .bool
theorem aar (h:Q (.bool (!(d9 l k).isSome)) V):gG fr A E Rp V (compareOp .NotIn) (.str k) (.dict l) Q:=λv u F Vc own rest rv ra rb hp d tk st=>by
 induction ra using Rp.fj with
 | @str t=>
  induction rb using Rp.rC with
  | @dict a es _ e r=>
   obtain⟨dd,lo⟩:=qw st e;refine wpAny_notIn_of (rE pw fr.w k t) lo dd.mapOf (b9 (tk:=tk+1) st rv ?_ h);simp only[ir];rcases r.look k with⟨q1,q2⟩|⟨y,u,e1,e2,ry⟩
   .rw[q1,q2];exact .bool
   .rw[e1,e2];exact .bool
theorem oV (rv:RV fr.mt F V Vc own)(c:ia x (mk d) V f)(j3:mk=.ow\/mk=.ln)
  (k:∀v aC cs,(x,some v)∈Vc->Ow F d v cs->sI fr.mt cs mk->RV fr.mt F (f (.at v)) Vc aC->T fr A t E ⟨F,Vc,cs++(aC++rs)⟩ Q):T fr A t E ⟨F,Vc,own++rs⟩ Q:=by
 exact bB (rv.TX j3 c) λv aC cs hx f7 ng dQ bQ=>T.perm (own':=cs++(aC++rs)) (by rw[<-eN];exact(dQ.append_right rs).symm) (k v aC cs hx f7 ng bQ)
theorem sI.keys {mt:cP}{cs cs':cN}(h:sI mt cs mk)(e:cs'.map (·.1)=cs.map (·.1)):sI mt cs' mk:=by
 induction h using sI.casesOn with
 |ow n=>refine .ow λp hp=>?_;have:p.1∈cs.map (·.1):=e▸j9 hp;exact aq (bN.mp this) λq hq e=>e▸n q hq
 |ln n=>refine .ln λp hp=>?_;have:p.1∈cs.map (·.1):=e▸j9 hp;exact aq (bN.mp this) λq hq e=>e▸n q hq
theorem jI {X:Type}{a b c:List X}:(a++(b++c)).Perm (b++(a++c)):=by simp only[<-eN,<-eN];exact ET.append_right c
theorem sA {Q:δ->VS->Prop}{r:α}{dr:δ}
  (c:ia x (.at v) V3 f3)(f7:Ow F3 d' v cs')(ng:sI fr.mt cs' mk)(lH:RV fr.mt F3 V3 nH cY)(le:Le F F3)(rr:R F3 dr r)(q:Q dr (f3 (mk d'))):
  ∃jE,(∀hp,St fr ⟨F3,nH,cs'++(cY++rs)⟩ hp->St fr jE hp)/\PQ fr.mt F rs R Q r jE:=by
 exact aq (RV.El c f7 ng lH) λoR K3 p4=>⟨⟨F3,nH,oR++rs⟩,λhp st=>st.sub ⟨_,by simp only[<-eN];exact p4.append_right rs,fZ _⟩,cg K3 le rr q⟩
theorem tL:iO "list" "append" "list.append":=⟨OZ,PySem.slot_list_append,rfl⟩
theorem Zo (hf:dH fr gl){mk:gm}(c:ia x (mk (.list l)) V f)(j3:mk=.ow\/mk=.ln)
  (h:∀v,DT fr A E aK (f (.at v)) (spliced (backTo pos (starEach [e] fr.e))) λds V2=>∃y f2,ds=[y]/\ia x (.at v) V2 f2/\l.length+1<=cap/\Q .none (f2 (mk (.list (l++[y])))))
  (he:autoParam (eval (.Call (.Attribute (.Name x px) "append" iI) [e] [] pos) fr.e=(do
   let ov<-eval (.Name x px) fr.e
   standAt iI.atName
   let (f,first)<-holding [ov] (getMethod ov "append" pl)
   callWith pos f first (backTo pos (starEach [e] fr.e)) [])) wu)
  (hs:autoParam ((backTo pos (starEach [e] fr.e)).any (·.1)=false) wu):DT fr A E Rp V (eval (.Call (.Attribute (.Name x px) "append" iI) [e] [] pos) fr.e) Q:=
 yX hf c j3 rfl tL (λv=>(h v).mono λds V2 z0=>ig z0 λy f2 ed c2 hl q=>clear% z0;⟨f2,c2,λF vs rl Vc cs rest f7=>by
  clear hf c j3 h he hs c2;subst ed;induction rl using aK.aZ with
  |cons ry rl=>
   induction rl using aK.fR;induction f7 using Ow.listE with
   | @list a us Cn hc=>exact BR .here (mK .none _ _ (.list (Cn.app (.cons ry .nil)) (by simpa using hl)) rfl rfl (.refl _) .none rfl q) (by rw[Cn.len];exact aB hc c9)⟩) he hs
theorem BN {k:Int}{Vc:eX}{own own':cN}{Q:Unit->S->Prop}(r:wA (a,.list vs) (a,.list (vs.set k.toNat v)) own own')(h:Q () ⟨F,Vc,own'⟩)(h0:0<=k)(hk:k<vs.length)(jm:vs.length<=cap):
  T fr A (setItem (.ref a) (.int k t) v) E ⟨F,Vc,own⟩ Q:=λhp d tk st=>by
 refine sP (st.cell r.mem) λo e n ho=>?_;subst ho;have e:hp.get? a=some {cls:=.type "list",data:=.seq vs.toArray n}:=e;have ht:(⟨hp, #[],d,tk,fr.os⟩:cO).TypeIs (.ref a) "list":=⟨_,e,rfl⟩;have aks:k<2 ^ 63:=by have:=iH jm;omega
 unfold setItem
 try with_reducible refine wo ?_
 first|refine aN (cG ?_)|skip
 refine aN (wpAny_sequenceKey ht (by decide) ?_);refine aN (adR (name:=Str.ofString "__setitem__") ht adt (xh adt ht entry_list_setitem ?_ (args_list_setitem _ _ _)));show wpAny _ _ (Builtin.List.listSubscript? (.int k t)>>=_) _ _ _;refine aN (wpAny_listSubscript_int (fitsIndex_of h0 aks) ?_);clear aks;obtain⟨j,rfl⟩:=Int.eq_ofNat_of_zero_le h0;have hj:j<vs.length:=by simp_all
 have hx':vs.toArray[j]? =some vs[j]:=by simp[hj]
 refine aN (aN (wpAny_seqItemAt e rfl (cG ?_)));rw[hx'];have qI:∃(h':Heap) (d':Drawn) (cX:Nat) (σ':S),(⟨hp.update a (Obj.mapSeq (·.setIfInBounds j v)), #[],d,tk,fr.os⟩:cO)=⟨h', #[],d',cX,fr.os⟩/\St fr σ' h'/\Q () σ':=by refine(af _ d tk _ rfl (st.chg r (qP ..) (mV _ e rfl) ⟨if(vs.toArray.setIfInBounds j v).size==vs.toArray.size then n else n+1,?_⟩) h);simp[Obj.mapSeq]
 refine aN (wpAny_setSeqItemAt e rfl ?_)
 first
  |exact aN (cG (cG ⟨.none,rfl,cG qI⟩))
  |exact cG ⟨.none,rfl,cG qI⟩
theorem yP (ok:o.IsDictOf (strKind pw w) es):∃ep,(Cell.dict es ep).ok w o:=dm ok λa ep h1 h2 r=>⟨ep,(eB a ep h1 h2 r),a,h2⟩
theorem BL {own':Nat->cN}(r:∀mQ,wA (a,.dict es ep) (a,.dict (stored es k v) mQ) own (own' mQ))(h:∀mQ,Q () ⟨F,Vc,own' mQ⟩)(jm:es.length<=sizeLine):
  T fr A (setItem (.ref a) (.str k t) v) E ⟨F,Vc,own⟩ Q:=λhp d tk st=>by
 refine xA (pK st (r 0).mem) λdd lo=>adE (rE pw fr.w k t) dd (λh' hm hs=>?_) jm;exact aq (Di.mp hm) λo ho ok=>xE (yP ok) λmQ Td=>(af h' d (tk+1) _ rfl (st.chg (r mQ) hs ho Td) (h mQ))
theorem MI (r:wA (a,.bh es) (a,.bh (stored es k v)) own own')(h:Q () ⟨F,Vc,own'⟩)(jm:es.length<=sizeLine):
  T fr A (setItem (.ref a) (.int k t) v) E ⟨F,Vc,own⟩ Q:=λhp d tk st=>by
 refine xA (AV st r.mem) λdd lo=>adE (J6 pw fr.w k t) dd (λh' hm hs=>?_) jm;exact aq (Di.mp hm) λo ho ok=>(af h' d (tk+1) _ rfl (st.chg r hs ho ok) h)
inductive MR:D->D->D->D->Prop
 |list {l:ak} {k:Int} {y:D}:0<=k->k<l.length->l.length<=cap->MR (.list l) (.int k) y (.list (l.set k.toNat y))
 |dict {l:uX} {k:aa} {y:D}:l.length<=cap->MR (.dict l) (.str k) y (.dict (jG l k y))
 |bh {l:ZJ} {k:Int} {y:D}:l.length<=cap->MR (.bh l) (.int k) y (.bh (jG l k y))
theorem ag5 (p:MR d dk dy d'){F:ah}{Vc:eX}{cs rest:cN}{v uk uy:ao}(f7:Ow F d v cs)(rk:Rp F dk uk)(ry:Rp F dy uy):
  T fr A (setItem v uk uy) E ⟨F,Vc,cs++rest⟩ (λz σ=>∃cs',Ow F d' v cs'/\cs'.map (·.1)=cs.map (·.1)/\σ=⟨F,Vc,cs'++rest⟩):=by
 induction p using MR.casesOn with
 | @list l k y h0 h1 h2=>
  induction f7 using Ow.listE with
  | @list a us rl hc=>
   induction rk using Rp.cz with
   |int=>exact BN .here ⟨[_],.list (rl.set ry) (by simpa using h2),rfl,rfl⟩ h0 (by rw[rl.len];exact h1) (by rw[rl.len];exact h2)
 | @dict l k y h1=>
  induction f7 using Ow.rC with
  | @dict a us _ rl=>
   induction rk using Rp.fj with
   |str=>exact BL (λz=> .here) (λz=>⟨[_],.dict (rl.put ry),rfl,rfl⟩) (by rw[rl.len];exact aB h1 c9)
 | @bh l k y h1=>
  induction f7 using Ow.WH with
  | @bh a us rl=>
   induction rk using Rp.cz with
   |int=>exact MI .here ⟨[_],.bh (rl.put ry),rfl,rfl⟩ (by rw[rl.len];exact aB h1 c9)
theorem Zq (hf:dH fr gl){value:aD}
  (h:DT fr A E Rp V (eval value fr.e) λy V1=>∃(mk:gm) (d:D) (f:pU),ia x (mk d) V1 f/\(mk=.ow\/mk=.ln)/\∀v,DT fr A E Rp (f (.at v)) (eval i fr.e) λk V2=>∃f2 d',ia x (.at v) V2 f2/\MR d k y d'/\Q .next (f2 (mk d')))
  (hs:autoParam (swapsWith value (some (.Subscript (.Name x px) i pos')) pos.line fr.e=pure false) wu):DT fr A E RF V (exec (.Assign [.Subscript (.Name x px) i pos'] value pos) fr.e) Q:=λF Vc own rs rv=>
 xm (h.go rv λu F1 c5 aC y V1 bQ cM r1 z0=>i9 z0 λmk d f c j3 h2=>clear% z0;oV bQ c j3 λv bE cs hx f7 ng ff=>dF hf hx (T.perm jI ((h2 v).go ff λuk F3 nH cY k V3 lH iP rk z1=>dm z1 λf2 d' c2 p q=>clear% z1;T.perm jI
  (T.conv (ag5 p (f7.mono iP) rk (r1.mono iP)) λz σ' z2=>gb z2 λcs' R6 ek e=>clear% z2;by rw[e];exact sA (R:=RF) c2 R6 (ng.keys ek) lH (cM.trans iP) RF.next q)))) hs
theorem ia.self (c:ia x s V f):ia x s' (f s') f:=by
 induction c with
 |here=>exact .here
 |there z ih=>exact .there ih
theorem ahh (hf:dH fr gl){mk:gm}(c:ia x (mk d) V f)(j3:mk=.ow\/mk=.ln)
  (h:∀v,DT fr A E Rp (f (.at v)) (eval slice fr.e) λk V2=>∃f2 y,ia x (.at v) V2 f2/\(∀F Vc cs rest u,Ow F d v cs->Rp F k u->T fr A (subscriptTail (.Name x px) slice v u) E ⟨F,Vc,cs++rest⟩ (λr σ=>σ=⟨F,Vc,cs++rest⟩/\Rp F y r))/\Q y (f2 (mk d))):
  DT fr A E Rp V (eval (.Subscript (.Name x px) slice pos) fr.e) Q:=λF Vc own rs rv=>
 KO (oV rv c j3 λv aC cs hx f7 ng bQ=>dF hf hx (T.perm jI ((h v).go bQ λu F2 jX bE k V2 ff fM rk z0=>dm z0 λf2 y c2 op q=>clear% z0;T.perm jI (T.conv (op F2 jX cs (bE++rs) u (f7.mono fM) rk) λr σ' z1=>xA z1 λe ry=>clear% z1;by rw[e];exact sA (R:=Rp) c2 (f7.mono fM) ng ff fM ry q))))
theorem Rr {k:Int}(h0:0<=k)(hy:l[k.toNat]? =some y){F:ah}{Vc:eX}{cs rest:cN}(f7:Ow F (.list l) v cs)(rk:Rp F (.int k) u)
  (hs:autoParam (∀a u,subscripted slice false (.ref a) (.int k u)=operate [.ref a,.int k u] (getItem (.ref a) (.int k u))) wu):
  T fr A (subscriptTail value slice v u) E ⟨F,Vc,cs++rest⟩ (λr σ=>σ=⟨F,Vc,cs++rest⟩/\Rp F y r):=by
 induction f7 using Ow.listE with
 | @list a us rl hc=>induction rk using Rp.cz;refine aq (rl.at' hy) λz hz rz=>?_;have hb:=(Bu.mp hy).1;exact λhp d tk st=>uM (cR.is (.inr (.head _)) st).typeIs O1.lookup (Yq (cR.is (.inr (.head _)) st) h0 (by have:=iH hc;omega) (by simpa using hz) (cZ hp d tk _ rfl st rfl rz)) (hs _ _)
noncomputable def aa2:D->gF
 | .list l=>some l.length
 | .dict l=>some l.length
 | .bh l=>some l.length
 |_=>none
theorem aaY (f7:Ow F d v cs)(hc:n<=cap):aa2 d=some n->T fr A (call (.builtin "len") [v]) E ⟨F,Vc,cs++own⟩ (fun r σ=>σ=⟨F,Vc,cs++own⟩/\∃t,r=.int n t):=
 Ow.casesOn (motive:=fun d v cs z=>aa2 d=some n->T fr A (call (.builtin "len") [v]) E ⟨F,Vc,cs++own⟩ (fun r σ=>σ=⟨F,Vc,cs++own⟩/\∃t,r=.int n t)) f7
  (λrl z hn=>have e:=rl.len.trans (mT hn);aeE (.inr (.head _)) (by rw[e];exact aB hc c9) λt=>⟨rfl,t,by rw[e]⟩)
  (λrl hn hp dr tk st=>have e:=rl.len.trans (mT hn);xA (pK st (.head _)) λdd lo=>XT lo dd (by rw[e];exact iH hc) (cZ hp dr (tk+1+1) _ rfl st rfl (iE _ (by rw[e]))))
  (λrl hn hp dr tk st=>have e:=rl.len.trans (mT hn);xA (AV st (.head _)) λdd lo=>XT lo dd (by rw[e];exact iH hc) (cZ hp dr (tk+1+1) _ rfl st rfl (iE _ (by rw[e]))))
  (λz z hn=>aA hn) (λz hn=>aA hn)
theorem ahk (hf:dH fr gl){mk:gm}{d:D}{f:pU}{n:Nat}(hg:Hs ((("len":aa),Value.builtin "len")) gl)(c:ia x (mk d) V f)(j3:mk=.ow\/mk=.ln)(hn:aa2 d=some n)(hc:n<=cap)(h:Q (.int n) (f (mk d)))
  (he:autoParam (eval (.Call (.Name "len" gp) [.Name x px] [] pos) fr.e=(do callWith pos (<-eval (.Name "len" gp) fr.e) [] (backTo pos (starEach [.Name x px] fr.e)) (backToKw pos (keywordEach [] fr.e)))) wu)
  (hs:autoParam ((backTo pos (starEach [.Name x px] fr.e)).any (·.1)=false) wu):DT fr A E Rp V (eval (.Call (.Name "len" gp) [.Name x px] [] pos) fr.e) Q:=fun F Vc own rs rv=>
 iN (iM hf hg.mem (bJ hf.cx rfl (by
  refine oV rv c j3 λv aC cs hx f7 ng bQ=>bU ?_ (by with_unfolding_all rfl);refine dF hf hx (dP ?_);exact T.conv (aaY f7 hc hn) λr σ' z0=>xAE z0 λe t er=>by rw[e,er];exact sA (R:=Rp) c.self f7 ng bQ (.refl _) .int h) hs)) he
theorem jq:iO "dict" "setdefault" "dict.setdefault":=⟨ael,Y0,rfl⟩
theorem Hq (hf:dH fr gl){mk:gm}(c:ia x (mk (.dict l)) V f)(j3:mk=.ow\/mk=.ln)
  (h:∀v,DT fr A E aK (f (.at v)) (spliced (backTo pos (starEach [e1,e2] fr.e))) λds V2=>∃k y f2,ds=[.str k,y]/\ia x (.at v) V2 f2/\l.length<=cap/\(∀z,d9 l k=some z->Q z (f2 (mk (.dict l))))/\(d9 l k=none->Q y (f2 (mk (.dict (jG l k y))))))
  (he:autoParam (eval (.Call (.Attribute (.Name x px) "setdefault" iI) [e1,e2] [] pos) fr.e=(do
   let ov<-eval (.Name x px) fr.e
   standAt iI.atName
   let (f,first)<-holding [ov] (getMethod ov "setdefault" pl)
   callWith pos f first (backTo pos (starEach [e1,e2] fr.e)) [])) wu)
  (hs:autoParam ((backTo pos (starEach [e1,e2] fr.e)).any (·.1)=false) wu):DT fr A E Rp V (eval (.Call (.Attribute (.Name x px) "setdefault" iI) [e1,e2] [] pos) fr.e) Q:=
 yX hf c j3 rfl jq (λv=>(h v).mono λds V2 z0=>bB z0 λk y f2 ed c2 hl q1 q2=>clear% z0;⟨f2,c2,λF vs rl Vc cs rest f7=>by
  clear hf c j3 h he c2;subst ed;induction rl using aK.aZ with
  |cons rk rl=>
   induction rl using aK.aZ with
   | @cons uy _ ry rl=>
    induction rl using aK.fR;induction rk using Rp.fj with
    | @str t=>
     induction f7 using Ow.rC with
     | @dict a us _ rd=>
      intro hp d tk st;refine xA (pK st (.head _)) λdd lo=>XR Y0 dd.typeIs aeu (aev _ _ _) (adC (strKind pw fr.w) a (rE pw fr.w k t) lo uy) ⟨us,dd,by rw[rd.len];exact aB hl c9,λv hv=>?_,λhn h' hm hs=>?_⟩
      .rcases rd.look k with⟨_,q⟩|⟨z,u,e1,e2,rz⟩
       .simp only[ir,q] at hv;exact aA hv
       .simp only[ir,e2] at hv;clear hs hl q2 ry dd lo e2;cases hv
        exact⟨hp,d,tk+1,_,rfl,st,z,_,_,.dict rd,rfl,rfl,.refl _,rz,rfl,q1 z e1⟩
      .refine aq (Di.mp hm) λo ho ok=>?_
       obtain⟨mQ,Td⟩:=yP ok;refine⟨h',d,tk+1,_,rfl,st.chg (c':=.dict (stored us k uy) mQ) .here hs ho Td,y,_,[_],.dict (rd.put ry),rfl,rfl,.refl _,ry,rfl,q2 ?_⟩;rcases rd.look k with⟨q,_⟩|⟨z,u,e1,e2,rz⟩
       .exact q
       .simp only[ir,e2] at hn;exact fD hn⟩) he hs
end
section
open Builtin Builtin.ObjectAttr
variable {fr:Fm}{A:aQ}{α β δ ε:Type}{E:aS}{V V':VS}{gl gl':dU}
inductive jY (P:aY):dU->List DictEntry->Prop
 |nil:jY P [] []
 |cons {n v t l es}:jY P l es->jY P ((n,v)::l) (N4 P n t v::es)
def aeH (P:aY)(l:dU)(es:List DictEntry):Prop:=List.casesOn (motive:=λz=>Prop) l (es=[]) λp l=>∃t uW,es=N4 P p.1 t p.2::uW/\jY P l uW
theorem jY.inv (h:jY P l es):aeH P l es:=jY.casesOn (motive:=λl es z=>aeH P l es) h rfl λh=>⟨_,_,rfl,h⟩
def Na (P:aY)(l:dU)(o:Obj):Prop:=∃es n,o=dictOf es n/\jY P l es
theorem jY.put (h:jY P l es)(hn:(l.map (·.1)).Nodup)(x:aa)(v:ao)(t:Tok):jY P (jG l x v) (putL x (PyData.keyHash P x) (.str x t) v es):=by
 have key:∀{l:dU} {es:List DictEntry},jY P l es->(l.map (·.1)).Nodup->(l.any (λp=>decide (p.1=x))=true->jY P (l.map λp=>if p.1=x then(p.1,v) else p) (putL x (PyData.keyHash P x) (.str x t) v es))/\(l.any (λp=>decide (p.1=x))=false->jY P (l++[(x,v)]) (putL x (PyData.keyHash P x) (.str x t) v es)):=by
  intro l es h;induction h with
  |nil=>intro _;exact⟨λq=>by simp at q,λ_=> .cons .nil⟩
  | @cons n u t' l es h ih=>
   intro hn;rw[fJ,j7] at hn;have e1:(N4 P n t' u).key.isStr x=decide (n=x):=by show(n==x)=decide (n=x);by_cases q:n=x<;>simp[q]
   constructor
   .intro q
    simp only[fJ,putL,e1];by_cases hx:n=x
    .clear ih e1 q;subst hx
     simp only[decide_true,if_true];have:(l.map λp=>if p.1=n then(p.1,v) else p)=l:=map_store_of_not_mem l n v hn.1;rw[this];exact .cons (t:=t') h
    .simp only[decide_eq_false hx,BI,if_false,aG hx]
     refine .cons ((ih hn.2).1 ?_);simpa[hx] using q
   .intro q
    have hx:¬n=x:=λe=>by simp[e] at q
    simp only[putL,e1,decide_eq_false hx,BI,if_false,OS];refine .cons ((ih hn.2).2 ?_);simpa[hx] using q
 unfold jG;split
 .rename_i q;exact(key h hn).1 q
 .rename_i q;exact(key h hn).2 (by induction z:l.any (λp=>decide (p.1=x)) using pR with|true=>exact absurd z q|false=>rfl)
theorem jY.noRef (h:jY P l es):es.any (·.refKey)=false:=by
 induction h with
 |nil=>rfl
 |cons z ih=>simp only[BB,ih,EG];rfl
theorem jY.look (h:jY P l es)(x:aa):getL x es=some (d9 l x):=by
 unfold getL;have:∀{l:dU} {es:List DictEntry},jY P l es->(es.find? (·.key.isStr x)).map (·.val)=d9 l x:=by
  intro l es h;induction h with
  |nil=>rfl
  | @cons n u t' l es h ih=>
   simp only[bP,List.find?_cons];have e1:(N4 P n t' u).key.isStr x=decide (n=x):=by show(n==x)=decide (n=x);by_cases q:n=x<;>simp[q]
   rw[e1];by_cases hx:n=x
   .rw[i6 hx,bg hx];rfl
   .rw[decide_eq_false hx,aG hx];exact ih
 have e:=this h;split
 .rename_i en q;rw[q] at e;rw[<-e];rfl
 .rename_i q;rw[q] at e;rw[<-e,h.noRef];rfl
theorem jY.len (h:jY P l es):es.length=l.length:=by
 induction h with
 |nil=>rfl
 |cons z ih=>exact fH ((λ{a b}=>X0.mpr) (_root_.id (fH ih)))
theorem wF (P:aY):findIn (K P) (.ref fy) "__setattr__"=some (some (.builtin "object.__setattr__")):=by kernel_rfl
theorem Dy (P:aY):plainOver (K P) fy=true:=by kernel_rfl
theorem KH (cx:Cx fr.w fr.hb)(hi:(a,Cell.inst d)∈own)
  (r:wA (d,.obj (Na fr.w.params l)) (d,.obj (Na fr.w.params (jG l name v))) own own')(ht:∀P,takerIn (K P) fy name=some none)(hn:(l.map (·.1)).Nodup)(hl:l.length<=100)(h:Q () ⟨F,Vc,own'⟩):
  T fr A (setAttr (.ref a) name v) E ⟨F,Vc,own⟩ Q:=λhp dr tk st=>by
 refine b8 (st.own _ hi) λz z z ox hx VU=>?_;have VU:ox=instObj fy d:=VU;subst VU;refine sP (st.cell r.mem) λod hd es bK=>aq bK λn zz he=>clear% bK;?_;subst zz;have X:(K fr.w.params).In hp:=cx.K.keeps st.keep;have I:InstAt hp a (instObj fy d) fy (some (dictOf es n)):=⟨hx,rfl,rfl,hd⟩;have put:=he.put hn name v;have dg:(jG l name v).length<=l.length+1:=by unfold jG;split<;>simp
 have qI:∀cX,∃(h':Heap) (d':Drawn) (PB:Nat) (σ':S),(⟨hp.update d (Obj.putName name (PyData.keyHash fr.w.params name) (.str name cX) v), #[],dr,cX+1,fr.os⟩:cO)=⟨h', #[],d',PB,fr.os⟩/\St fr σ' h'/\Q () σ':=λcX=>by refine(af _ _ _ _ rfl (st.chg r (qP ..) (mV _ hd (by rw[rF];rfl)) ⟨_,_,rF ..,put cX⟩) h)
 refine set_plain (s:=⟨hp, #[],dr,tk,fr.os⟩) X I (wF _) (osa_open X I (Dy _) (ht _) λb=>?_);refine aq (any_some (n6 fr.w.params)) λcd hc Sf=>aN (cG (aN (aN (EH hx (aN ((Oh X hc).here ?_))))));rw[Sf];refine cG (a:=some d) (aN (cG (aN ?_)));unfold nsSet;refine aN (aN (BC (cG (aN (Oo (aN (EH hd ?_)))))));dsimp only;have c:(!es.toArray.any (·.key.isStr name)&&es.toArray.any (·.refKey))=false:=by rw[<-OM,<-OM];rw[he.noRef,Yh]
 rw[adL,c];refine Yg hd ?_;have hd2:(hp.update d (Obj.putName name (PyData.keyHash fr.w.params name) (.str name (tk+1)) v)).get? d=some (dictOf (putL name (PyData.keyHash fr.w.params name) (.str name (tk+1)) v es) (putN name es n)):=by rw[<-rF];exact mV _ hd (by rw[rF];rfl)
 refine aN (Ye hd2 (Yc (by rw[g7,nR,(put _).len];exact aB dg (aB (Kg hl) (by decide)))) ?_);exact cG (qI (tk+1))
theorem St.Vs {own own':cN}(st:St fr ⟨F,Vc,own⟩ hp)(r:wA (d,c) (d,c') own own')(h:∀o,c.ok fr.w o->c'.ok fr.w o):St fr ⟨F,Vc,own'⟩ hp:=b8 (st.own _ r.mem) λz z z o ho ok=>st.chg r ⟨rfl,λz z=>rfl⟩ ho (h o ok)
noncomputable abbrev GN (k i a:ao)(sh lo:Bool):dU:=[("kind",k),("items",i),("attrs",a),("shared",.bool sh),("loose",.bool lo)]
theorem TJ {sh lo:Bool}(h:Na w.params (GN k i a sh lo) o):(Cell.dJ k i a).ok w o:=by refine dw h λes n e0 he=>dw (he.inv:∃t uW,_) λt1 z q1 h=>dw (h.inv:∃t uW,_) λt2 z q2 h=>dw (h.inv:∃t uW,_) λt3 z q3 h=>dw (h.inv:∃t uW,_) λt4 z q4 h=>dw (h.inv:∃t uW,_) λt5 z q5 h=>?_;have q6:_=[]:=h.inv;exact⟨n,t1,t2,t3,t4,t5,sh,lo,by simp only[e0,q1,q2,q3,q4,q5,q6]⟩
theorem acK (h:(Cell.dJ k i a).ok w o):∃sh lo,Na w.params (GN k i a sh lo) o:=by
 refine fX h λn t1 t2 t3 t4 bK=>rI bK λt5 sh lo z0=>clear% bK;?_;try clear h;rw[z0]
 exact(Gy sh lo _ n rfl (.cons (.cons (.cons (.cons (.cons .nil))))))
theorem zb (P:aY):takerIn (K P) fy "kind"=some none:=by kernel_rfl
theorem xx (P:aY):takerIn (K P) fy "items"=some none:=by kernel_rfl
theorem m6 (P:aY):takerIn (K P) fy "attrs"=some none:=by kernel_rfl
theorem lB (P:aY):takerIn (K P) fy "shared"=some none:=by kernel_rfl
theorem xw (P:aY):takerIn (K P) fy "loose"=some none:=by kernel_rfl
theorem am3 (k i a b:ao)(sh lo:Bool):jG (GN k i a sh lo) "attrs" b=GN k i b sh lo:=by kernel_rfl
theorem BO {F:ah}{Q:Unit->S->Prop}(cx:Cx fr.w fr.hb)(h:Q () ⟨F,Vc,(a,.inst d)::(d,.dJ k i b)::rest⟩):
  T fr A (setAttr (.ref a) "attrs" b) E ⟨F,Vc,(a,.inst d)::(d,.dJ k i t)::rest⟩ Q:=fun hp dr tk st=>by
 refine b8 (st.own (d,.dJ k i t) (.tail _ (.head _))) λz z z o ho ok=>Hv (acK ok) λsh lo hv=>?_;have cI:St fr ⟨F,Vc,(a,.inst d)::(d,.obj (Na fr.w.params (GN k i t sh lo)))::rest⟩ hp:=st.chg (.there .here) ⟨rfl,λz z=>rfl⟩ ho hv;refine fk (KH (Q:=fun z σ=>σ=⟨F,Vc,(a,.inst d)::(d,.obj (Na fr.w.params (GN k i b sh lo)))::rest⟩) cx (.head _) (by rw[<-am3 k i t b sh lo];exact .there .here) m6 (by show(["kind","items","attrs","shared","loose"]:ay).Nodup;decide) (by show 5<=100;decide) rfl hp dr tk cI) (fun z s' z0=>gv z0 fun h' d' cX σ' e j0 eσ=>?_) fun z z y=>y;subst eσ;exact(af h' d' cX _ e (j0.Vs (.there .here) (λo hv=>TJ hv)) h)
end
noncomputable section
noncomputable abbrev K7 (n:aa)(i:Nat)(d:aa)(t:Tok)(c:Nat)(v:ao):FuncData:=⟨n,n,fA i,.stmts (fB i),fS i,3,[],v,.none,.none,.str d t,none,.ref c,.none,0⟩
abbrev Mm (n:aa)(i c:Nat):=K7 n i afb 1229 c .none
abbrev fd7 (n:aa)(i c:Nat):=K7 n i Z5 868 c .none
abbrev fd4 (n:aa)(i c:Nat):=K7 n i aiM 1106 c .none
abbrev fd6 (n:aa)(i c:Nat):=K7 n i Uq 1349 c .none
abbrev fd8 (n:aa)(i c:Nat):=K7 n i aiS 609 c .none
abbrev fd2 (n:aa)(i c:Nat):=K7 n i Z7 716 c .none
abbrev Xf (n:aa)(i c:Nat):=K7 n i rP 500 c .none
abbrev abL (n:aa)(i c:Nat):=K7 n i aiN 1044 c .none
abbrev GL:=dU
theorem DO {f:av}{fd:FuncData}{body:fc}{ps ls:ay}{gl:GL}(h:E0 fd ps)(a:autoParam (∀P,(K P).lookup f=some ⟨.type "function",none,.func fd, #[]⟩) wk)(b:autoParam (∀P,codeIn (K P) fd.code fd.qualname=true) wk)(c:autoParam (fd.body=.stmts body) wk)(d:autoParam (fd.closure=[]) wk)(e:autoParam (fd.globals=mainGlobals) wk)(g:autoParam (fd.builtins=builtinsNs) wk)(i:autoParam (fd.scope.isCoroutine=false) wk)(j:autoParam (fd.scope.isGenerator=false) wk)(k:autoParam (fd.scope.kind=.function) wk)(l:autoParam (∀P,FN P fd.scope (ps++ls) gl=true) wk)(m:autoParam (decide (ps++ls).Nodup=true) wk):dI f fd body ps ls gl:=⟨⟨a,b,c,d,e,g,i,j,k⟩,h,l,jx m⟩
def JA:=K7 Rg 7 aiT 194 44 .none
noncomputable abbrev Jz:GL:=[]
theorem GI:dI 45 JA (fB 7) ["n"] [] Jz:=DO bf
def Cb:=K7 Rf 17 Lo 288 100 .none
noncomputable abbrev Ca:GL:=[("abs",.builtin "abs"),("str",.type "str")]
theorem za:dI 101 Cb (fB 17) ["n"] ["rest","row","part"] Ca:=DO bf
def xG:=K7 Rd 18 Lo 288 107 .none
noncomputable abbrev xF:GL:=[]
theorem vc:dI 108 xG (fB 18) ["x"] [] xF:=DO bf
def C5:=K7 Rc 30 Lo 288 190 .none
noncomputable abbrev C4:GL:=[("special_text",.ref 108),("whole_text",.ref 101),("abs",.builtin "abs")]
theorem AR:dI 191 C5 (fB 30) ["x"] ["text","places","n"] C4:=DO bf
def AE:=Xf Rb 40 289
noncomputable abbrev AD:GL:=[("Vector",.ref 279),("list",.type "list")]
theorem wY:dI 290 AE (fB 40) ["items"] [] AD:=DO bf
def GS:=Xf Ra 41 296
noncomputable abbrev GR:GL:=[("Vector",.ref 279),("list",.type "list")]
theorem Df:dI 297 GS (fB 41) ["items"] [] GR:=DO bf
def RJ:=Xf Q9 42 303
noncomputable abbrev RI:GL:=[("isinstance",.builtin "isinstance"),("Vector",.ref 279),("len",.builtin "len")]
theorem LG:dI 304 RJ (fB 42) ["v"] ["kind"] RI:=DO bf
def Gu:=Xf Q8 43 310
noncomputable abbrev Gs:GL:=[]
theorem CX:dI 311 Gu (fB 43) ["v"] [] Gs:=DO bf
def Uj:=Xf Q7 44 317
noncomputable abbrev Ui:GL:=[("isinstance",.builtin "isinstance"),("Vector",.ref 279)]
theorem PR:dI 318 Uj (fB 44) ["v"] [] Ui:=DO bf
def Jv:=fd8 Q6 46 324
noncomputable abbrev Ju:GL:=[]
theorem uh:dI 325 Jv (fB 46) ["v","name"] [] Ju:=DO fG
def CM:=fd8 Q5 47 331
noncomputable abbrev CL:GL:=[("str",.type "str")]
theorem gW:dI 332 CM (fB 47) ["kind","item"] [] CL:=DO fG
def IX:=fd8 Q4 48 338
noncomputable abbrev IW:GL:=[("len",.builtin "len")]
theorem tO:dI 339 IX (fB 48) ["texts","code"] [] IW:=DO fG
def Am:=fd8 Q3 49 343
noncomputable abbrev Al:GL:=[("get_attr",.ref 325),("class_attr",.ref 368),("is_atomic",.ref 311),("label_texts",.ref 344)]
theorem m8:dI 344 Am (fB 49) ["value"] ["levels","texts"] Al:=DO bf
def IU:=fd8 Q2 50 348
noncomputable abbrev IT:GL:=[("sorted",.builtin "sorted"),("dim_of",.ref 356),("len",.builtin "len"),("get_attr",.ref 325),("list",.type "list")]
theorem tH:dI 349 IU (fB 50) ["v"] ["tag","dims","rows","names"] IT:=DO bf
def Sx:=fd8 Q0 51 355
noncomputable abbrev Sw:GL:=[("get_attr",.ref 325),("list",.type "list")]
theorem AU:dI 356 Sx (fB 51) ["v"] ["dims"] Sw:=DO bf
def De:=fd8 QZ 53 367
noncomputable abbrev Dd:GL:=[("get_attr",.ref 325),("list",.type "list")]
theorem pO:dI 368 De (fB 53) ["v"] ["found"] Dd:=DO bf
def CO:=fd2 QY 59 406
noncomputable abbrev CN:GL:=[]
theorem Ar:dI 407 CO (fB 59) ["kind"] ["kinds"] CN:=DO bf
def Bb:=fd2 QX 60 413
noncomputable abbrev Ba:GL:=[("max",.builtin "max"),("kind_order",.ref 407)]
theorem yl:dI 414 Bb (fB 60) ["kinds"] ["names","most","kind"] Ba:=DO bf
def E9:=fd2 QW 67 462
noncomputable abbrev E8:GL:=[("from_int",.ref 45)]
theorem Cd:dI 463 E9 (fB 67) ["kind","item","notes"] [] E8:=DO sE
def LU:=fd2 QV 69 476
noncomputable abbrev LS:GL:=[("is_atomic_kind",.ref 484),("share",.ref 318),("Vector",.ref 279),("to_double",.ref 463)]
theorem Jc:dI 477 LU (fB 69) ["kind","item","to","notes"] [] LS:=DO GX
def tX:=fd2 QU 70 483
noncomputable abbrev tW:GL:=[]
theorem rY:dI 484 tX (fB 70) ["kind"] [] tW:=DO bf
def B9:=fd2 QT 74 509
noncomputable abbrev B8:GL:=[("share",.ref 318),("character",.ref 297)]
theorem y9:dI 510 B9 (fB 74) ["v","names"] [] B8:=DO fG
def MB:=fd2 QS 75 514
noncomputable abbrev MA:GL:=[("isinstance",.builtin "isinstance"),("Vector",.ref 279),("with_names",.ref 510),("list",.type "list"),("names_of",.ref 349)]
theorem JW:dI 515 MB (fB 75) ["v","kind","notes"] ["items"] MA:=DO sE
def CV:=fd7 QR 78 528
noncomputable abbrev CU:GL:=[]
theorem Ay:dI 529 CV (fB 78) ["kind","item"] [] CU:=DO fG
def we:=fd7 QO 79 535
noncomputable abbrev wc:GL:=[]
theorem kP:dI 536 we (fB 79) ["kind","a","b"] [] wc:=DO sE
def uF:=fd7 QN 80 542
noncomputable abbrev uE:GL:=[("Refusal",.ref 398)]
theorem sC:dI 543 uF (fB 80) ["v"] [] uE:=DO bf
def uC:=fd7 QM 81 549
noncomputable abbrev uB:GL:=[("is_lacking",.ref 529),("compare_items",.ref 536)]
theorem sr:dI 550 uC (fB 81) ["v","i","j","decreasing","na_last"] ["left","right","left_lacking","right_lacking","result"] uB:=DO GW
def yh:=fd7 QL 82 556
noncomputable abbrev yg:GL:=[("range",.type "range"),("len",.builtin "len"),("compare_places",.ref 550)]
theorem vY:dI 557 yh (fB 82) ["vs","i","j","decreasing","na_last"] ["number","result"] yg:=DO GW
def CD:=fd7 QK 83 563
noncomputable abbrev CC:GL:=[("len",.builtin "len"),("compare_keys",.ref 557)]
theorem Aa:dI 564 CD (fB 83) ["left","right","vs","decreasing","na_last"] ["merged","i","j"] CC:=DO GW
def CB:=fd7 QJ 84 568
noncomputable abbrev CA:GL:=[("len",.builtin "len"),("range",.type "range"),("merge_runs",.ref 564)]
theorem zZ:dI 569 CB (fB 84) ["places","vs","decreasing","na_last"] ["runs","longer","at"] CA:=DO GX
def JF:=fd7 QI 85 573
noncomputable abbrev JE:GL:=[("isinstance",.builtin "isinstance"),("list",.type "list"),("range",.type "range")]
theorem GP:dI 574 JF (fB 85) ["decreasing","count"] [] JE:=DO fG
def Aw:=fd7 QH 86 580
noncomputable abbrev Av:GL:=[("range",.type "range"),("length",.ref 304),("is_lacking",.ref 529)]
theorem xT:dI 581 Aw (fB 86) ["vs","na_last"] ["places","place","keep","v"] Av:=DO fG
def wL:=K7 QG 87 Z5 868 588 (.ref 582)
noncomputable abbrev IF:GL:=[("len",.builtin "len"),("check_sortable",.ref 543),("length",.ref 304),("Refusal",.ref 398),("each_key",.ref 574),("merge_sort",.ref 569),("kept_places",.ref 581)]
theorem FA:dI 589 wL (fB 87) ["vs","decreasing","na_last"] ["v","flags"] IF:=DO sE
def Jb:=abL QE 97 644
noncomputable abbrev Ja:GL:=[("str",.type "str")]
theorem mJ:dI 645 Jb (fB 97) ["kind","item"] [] Ja:=DO fG
def Gp:=abL QD 98 651
noncomputable abbrev Gn:GL:=[]
theorem CT:dI 652 Gp (fB 98) ["v"] [] Gn:=DO bf
def xZ:=abL QC 100 665
noncomputable abbrev xY:GL:=[("is_listed",.ref 652),("range",.type "range"),("len",.builtin "len"),("item_key",.ref 645)]
theorem vM:dI 666 xZ (fB 100) ["v"] ["kept","first","known","found","place"] xY:=DO bf
def u9:=abL QA 101 670
noncomputable abbrev u7:GL:=[("first_places",.ref 666),("range",.type "range"),("len",.builtin "len")]
theorem sR:dI 671 u9 (fB 101) ["v"] ["firsts"] u7:=DO bf
def Gr:=fd4 Qz 105 684
noncomputable abbrev Gq:GL:=[("class_attr",.ref 368),("is_atomic",.ref 311)]
theorem k6:dI 685 Gr (fB 105) ["v"] [] Gq:=DO bf
def FJ:=fd4 Qy 106 689
noncomputable abbrev FI:GL:=[("Vector",.ref 279),("character",.ref 297)]
theorem Cw:dI 690 FJ (fB 106) ["columns","names","row_labels"] ["made"] FI:=DO sE
def Cq:=fd4 Qx 107 696
noncomputable abbrev Cp:GL:=[("integer",.ref 290),("list",.type "list"),("range",.type "range")]
theorem zN:dI 697 Cq (fB 107) ["count"] [] Cp:=DO bf
def C3:=fd4 Qw 108 703
noncomputable abbrev C2:GL:=[("len",.builtin "len")]
theorem AN:dI 704 C3 (fB 108) ["df"] [] C2:=DO bf
def yo:=fd4 Qv 109 708
noncomputable abbrev ym:GL:=[("names_of",.ref 349)]
theorem wg:dI 709 yo (fB 109) ["df"] ["names"] ym:=DO bf
def CR:=fd4 Qu 111 722
noncomputable abbrev CQ:GL:=[("len",.builtin "len")]
theorem pF:dI 723 CR (fB 111) ["column"] ["kept","name"] CQ:=DO bf
def Ct:=fd4 Qt 113 736
noncomputable abbrev Cs:GL:=[("len",.builtin "len"),("Vector",.ref 279),("kept_attrs",.ref 723)]
theorem zP:dI 737 Ct (fB 113) ["column","places"] ["items","count","place"] Cs:=DO fG
def vh:=fd4 Qs 114 741
noncomputable abbrev vg:GL:=[("len",.builtin "len"),("Vector",.ref 279),("character",.ref 297)]
theorem tw:dI 742 vh (fB 114) ["df","places"] ["labels","count","seen","lacks","place","texts","found"] vg:=DO fG
def Fv:=fd4 Qq 115 746
noncomputable abbrev Ft:GL:=[("new_frame",.ref 690),("column_names",.ref 709),("picked_labels",.ref 742)]
theorem Cr:dI 747 Fv (fB 115) ["df","places"] ["columns"] Ft:=DO fG
def vE:=K7 Qp 118 Z4 1187 758 .none
noncomputable abbrev vC:GL:=[("is_factor",.ref 685),("character",.ref 297),("label_texts",.ref 344),("common_kind",.ref 414),("as_kind",.ref 515),("Vector",.ref 279),("kept_attrs",.ref 723)]
theorem tV:dI 759 vE (fB 118) ["parts"] ["plain","part","kind","items"] vC:=DO bf
def vS:=K7 Qo 120 Z3 1209 763 .none
noncomputable abbrev vR:GL:=[("len",.builtin "len"),("Null",.ref 250),("character",.ref 297),("Vector",.ref 279)]
theorem ux:dI 764 vS (fB 120) ["rows"] ["items","names"] vR:=DO bf
def tG:=K7 Qn 121 Z3 1209 770 .none
noncomputable abbrev tF:GL:=[("Vector",.ref 279),("integer",.ref 290),("dimnames_list",.ref 764)]
theorem Cy:dI 771 tG (fB 121) ["kind","items","extents","names"] ["made","dimnames"] tF:=DO GX
def Bd:=Mm Qm 123 775
noncomputable abbrev Bc:GL:=[("is_factor",.ref 685),("label_texts",.ref 344),("as_kind",.ref 515),("Refusal",.ref 398)]
theorem nq:dI 776 Bd (fB 123) ["column"] ["numbers"] Bc:=DO bf
def Im:=Mm Ql 124 780
noncomputable abbrev Il:GL:=[("range",.type "range")]
theorem Fj:dI 781 Im (fB 124) ["columns","rows"] ["parts","found","place"] Il:=DO fG
def vO:=Mm Qk 125 785
noncomputable abbrev vN:GL:=[("range",.type "range"),("len",.builtin "len")]
theorem uq:dI 786 vO (fB 125) ["keys"] ["known"] vN:=DO bf
def sq:=Mm Qj 126 790
noncomputable abbrev sj:GL:=[("first_of_keys",.ref 786),("row_keys",.ref 781),("frame_rows",.ref 704),("range",.type "range"),("len",.builtin "len")]
theorem qJ:dI 791 sq (fB 126) ["df"] ["firsts"] sj:=DO bf
def zj:=Mm Qi 127 795
noncomputable abbrev zh:GL:=[("duplicated_rows",.ref 791),("pick_rows",.ref 747),("range",.type "range"),("len",.builtin "len")]
theorem xy:dI 796 zj (fB 127) ["df"] ["flags"] zh:=DO bf
def vW:=Mm Qh 128 802
noncomputable abbrev vV:GL:=[("frame_rows",.ref 704),("range",.type "range"),("len",.builtin "len"),("is_lacking",.ref 529)]
theorem uA:dI 803 vW (fB 128) ["df"] ["flags","column","place"] vV:=DO bf
def H8:=Mm Qg 129 809
noncomputable abbrev H7:GL:=[("Vector",.ref 279)]
theorem Fc:dI 810 H8 (fB 129) ["column"] [] H7:=DO bf
def AA:=Mm Qf 130 816
noncomputable abbrev Az:GL:=[("is_lacking",.ref 529)]
theorem xU:dI 817 AA (fB 130) ["columns","place"] ["column"] Az:=DO fG
def ug:=Mm Qe 131 821
noncomputable abbrev uf:GL:=[("len",.builtin "len"),("range",.type "range"),("row_keys",.ref 781),("reversed",.type "reversed"),("order_by",.ref 589)]
theorem sd:dI 822 ug (fB 131) ["groups"] ["rows","kept","keys","table","place","firsts","heads"] uf:=DO bf
def tU:=Mm Qd 132 828
noncomputable abbrev tT:GL:=[("len",.builtin "len"),("Vector",.ref 279),("list",.type "list"),("joined_column",.ref 759)]
theorem jO:dI 829 tU (fB 132) ["results"] ["one"] tT:=DO bf
def ny:=Mm Qc 133 835
noncomputable abbrev nv:GL:=[("len",.builtin "len"),("Refusal",.ref 398)]
theorem lV:dI 836 ny (fB 133) ["values","groups"] ["rows","column"] nv:=DO fG
def jh:=Mm Qa 134 840
noncomputable abbrev jg:GL:=[("len",.builtin "len"),("Refusal",.ref 398),("check_groups",.ref 836),("grouped_places",.ref 822),("pick_items",.ref 737),("joined_results",.ref 829),("new_frame",.ref 690),("plain_rows",.ref 697)]
theorem iJ:dI 841 jh (fB 134) ["values","value_names","groups","group_names","fn"] ["rows","columns","group","column"] jg:=DO GW
def zw:=Mm P9 135 847
noncomputable abbrev zv:GL:=[("column_names",.ref 709),("range",.type "range"),("len",.builtin "len"),("integer",.ref 290),("character",.ref 297),("joined_column",.ref 759),("new_frame",.ref 690),("plain_rows",.ref 697)]
theorem xC:dI 848 zw (fB 135) ["df"] ["names","codes","place","ind","values"] zv:=DO bf
def FW:=Mm P8 136 852
noncomputable abbrev FU:GL:=[("is_factor",.ref 685),("list",.type "list"),("unique_places",.ref 671),("sort_key",.ref 810),("pick_items",.ref 737),("order_by",.ref 589),("column_keys",.ref 776),("len",.builtin "len"),("label_texts",.ref 344)]
theorem qV:dI 853 FW (fB 136) ["column"] ["codes","places","present","heads","ordered","keys","table","place","texts"] FU:=DO bf
def AZ:=Mm P7 137 859
noncomputable abbrev AY:GL:=[("len",.builtin "len"),("Refusal",.ref 398),("level_row",.ref 853),("range",.type "range"),("new_array",.ref 771)]
theorem ye:dI 860 AZ (fB 137) ["u","v"] ["rows","first","columns","second","counts","place"] AY:=DO fG
def I4:=fd6 P6 139 866
noncomputable abbrev I3:GL:=[("len",.builtin "len")]
theorem Gd:dI 867 I4 (fB 139) ["hand","limit"] ["figure","digit"] I3:=DO fG
def CJ:=fd6 P5 140 871
noncomputable abbrev CI:GL:=[("range",.type "range"),("Vector",.ref 279),("_law_pick",.ref 867)]
theorem Aj:dI 872 CJ (fB 140) ["hand","kind","many"] ["picks","levels","v"] CI:=DO sE
def xQ:=fd6 P4 141 878
noncomputable abbrev xP:GL:=[("Vector",.ref 279),("list",.type "list")]
theorem vA:dI 879 xQ (fB 141) ["columns","names","rows"] ["df"] xP:=DO sE
def vz:=fd6 P0 142 885
noncomputable abbrev vv:GL:=[]
theorem kF:dI 886 vz (fB 142) ["v"] [] vv:=DO bf
def Gb:=fd6 PZ 143 890
noncomputable abbrev Ga:GL:=[("_law_is_factor",.ref 886),("list",.type "list")]
theorem qZ:dI 891 Gb (fB 143) ["v"] [] Ga:=DO bf
def rj:=fd6 PY 144 895
noncomputable abbrev q9:GL:=[("_law_texts",.ref 891),("_law_is_factor",.ref 886),("sorted",.builtin "sorted"),("set",.type "set")]
theorem pA:dI 896 rj (fB 144) ["v"] ["texts","order"] q9:=DO bf
def LN:=fd6 PX 145 900
noncomputable abbrev LM:GL:=[("Vector",.ref 279),("sum",.builtin "sum")]
theorem I2:dI 901 LN (fB 145) ["column"] [] LM:=DO bf
def Gf:=fd6 PW 146 907
noncomputable abbrev Ge:GL:=[("Vector",.ref 279),("len",.builtin "len")]
theorem CH:dI 908 Gf (fB 146) ["column"] [] Ge:=DO bf
def LL:=fd6 PV 147 914
noncomputable abbrev LK:GL:=[("Vector",.ref 279),("len",.builtin "len")]
theorem I1:dI 915 LL (fB 147) ["column"] [] LK:=DO bf
def g8:FuncData:=⟨oB,Z8,(mA 39 0),.stmts (mB 39 0),(mS 39 0),3,[],(.ref 262),.none,.none,(.str rP 500),none,(.ref 268),.none,0⟩
noncomputable abbrev BJ:GL:=[]
theorem yu:dI 269 g8 (mB 39 0) ["self","kind","items","attrs"] [] BJ:=DO GX
def yy:FuncData:=⟨oB,Z6,(mA 56 0),.stmts (mB 56 0),(mS 56 0),3,[],.none,.none,.none,(.str zE 669),none,(.ref 394),.none,0⟩
noncomputable abbrev yx:GL:=[]
theorem lZ:dI 395 yy (mB 56 0) ["self","message"] [] yx:=DO fG
end
section
open Builtin Builtin.ObjectAttr
variable {fr:Fm}{A:aQ}{α β δ ε:Type}{E:aS}{V V':VS}{gl gl':dU}
theorem Pn (P:aY):makesIn (K P) fy=true:=by kernel_rfl
theorem TH (P:aY):findIn (K P) (.ref fy) "__init__"=some (some (.ref 269)):=by kernel_rfl
theorem HH (P:aY):typeIn (K P) (.ref 269)=some (.type "function"):=by kernel_rfl
theorem Pr (P:aY)(x k i:ao):∀S,peek (K P) S (bindArgs g8 ⟨[x,k,i],[]⟩)=some [(("self":aa),x),("kind",k),("items",i),("attrs",Value.none)]:=fun S=>by kernel_rfl
theorem Pq (P:aY)(x k i a:ao):∀S,peek (K P) S (bindArgs g8 ⟨[x,k,i,a],[]⟩)=some [(("self":aa),x),("kind",k),("items",i),("attrs",a)]:=fun S=>by kernel_rfl
theorem lX {Q:Unit->S->Prop}(cx:Cx fr.w fr.hb)(ht:∀P,takerIn (K P) fy name=some none)(hp:jG l name v=l')(hn:(l.map (·.1)).Nodup)(hl:l.length<=100)(h:Q () ⟨F,Vc,[(a,.inst d),(d,.obj (Na fr.w.params l'))]⟩):
  T fr A (setAttr (.ref a) name v) E ⟨F,Vc,[(a,.inst d),(d,.obj (Na fr.w.params l))]⟩ Q:=by
 subst hp;exact KH cx (.head _) (.there .here) ht hn hl h
noncomputable def acL (x k i t:ao):eX:=[("self",some x),("kind",some k),("items",some i),("attrs",some t)]
theorem ML {A:aQ}{F:ah}{x d:av}{k i t:ao}(hf:dH fr []):T fr A (execs (mB 39 0) fr.e) E ⟨F,acL (.ref x) k i t,[(x,.inst d),(d,.obj (Na fr.w.params []))]⟩ (λfl σ=>fl=.next/\σ=⟨F,acL (.ref x) k i t,[(x,.inst d),(d,.dJ k i t)]⟩):=by refine BQ (ZY:=_) (rest:=_) (by rfl) (bq (dc (dF hf (v:=k) (Dk rfl) (dF hf (v:=.ref x) (Dk rfl) (lX (l:=[]) (l':=[("kind",k)]) hf.cx zb (by kernel_rfl) (Ka ..) (jU _) ?_))) (by with_unfolding_all rfl)));refine bq (dc (dF hf (v:=i) (Dk rfl) (dF hf (v:=.ref x) (Dk rfl) (lX (l':=[("kind",k),("items",i)]) hf.cx xx (by kernel_rfl) (by show(["kind"]:ay).Nodup;decide) (by simp) ?_))) (by with_unfolding_all rfl));refine bq (dc (dF hf (v:=t) (Dk rfl) (dF hf (v:=.ref x) (Dk rfl) (lX (l':=[("kind",k),("items",i),("attrs",t)]) hf.cx m6 (by kernel_rfl) (by show(["kind","items"]:ay).Nodup;decide) (SJ.mp rfl) ?_))) (by with_unfolding_all rfl));refine bq (dc (Hg (dF hf (v:=.ref x) (Dk rfl) (lX (l':=[("kind",k),("items",i),("attrs",t),("shared",.bool false)]) hf.cx lB (by kernel_rfl) (by show(["kind","items","attrs"]:ay).Nodup;decide) (SJ.mp rfl) ?_))) (by with_unfolding_all rfl));refine bq (dc (Hg (dF hf (v:=.ref x) (Dk rfl) (lX (l':=[("kind",k),("items",i),("attrs",t),("shared",.bool false),("loose",.bool false)]) hf.cx xw (by kernel_rfl) (by show(["kind","items","attrs","shared"]:ay).Nodup;decide) (SJ.mp rfl) ?_))) (by with_unfolding_all rfl));exact T.shift (λhp st=>st.Vs (.there .here) (λo h=>TJ h)) (gM ⟨rfl,rfl⟩)
theorem zH (r:cC A (n+2))(C:av)(vals:bC):cC (A.under (.builtin "type.__call__" ⟨.ref C::vals,[]⟩)) (n+1):=by
 refine⟨?_,?_,r.handled,r.frames⟩
 .have:=r.depth
  show A.depth+1+(n+1)<_;omega
 .have:=r.units
  have e:(A.under (.builtin "type.__call__" ⟨.ref C::vals,[]⟩)).units<=A.units+10:=by
   refine adP ?_ _;have:(Code.builtin "type.__call__" ⟨.ref C::vals,[]⟩).cUnits=(Code.builtin "type.__call__" ⟨[],[]⟩).cUnits:=by rfl
   rw[this];decide+kernel
  omega
theorem KN (cx:Cx fr.w fr.hb)(room:cC A (n+2))
  (hb:∀P x,∀S,peek (K P) S (bindArgs g8 ⟨x::k::i::more,[]⟩)=some [(("self":aa),x),("kind",k),("items",i),("attrs",t)])
  (h:∀a d,a∉fr.mt->d∉fr.mt->Q (.ref a) ⟨F,Vc,(a,.inst d)::(d,.dJ k i t)::own⟩):T fr A (call (.ref fy) (k::i::more)) E ⟨F,Vc,own⟩ Q:=λhp dr tk st=>by
 have X:(K fr.w.params).In hp:=cx.K.keeps st.keep;refine Bw (make_core (makes_of X (Pn _)) (J8 X (TH _)) (λself=>bind_fn X self (HH _)) (.inl (by decide)) ?_);have n1:=st.fresh.2.2.1;have qS:St fr ⟨F,Vc,(hp.objs.size,.obj (Na fr.w.params []))::own⟩ (hp.push emptyDict):=st.bM ⟨[],0,rfl,.nil⟩ rfl;have n2:=qS.fresh.2.2.1;have j0:=qS.bM (c:=.inst hp.objs.size) (o:=instObj fy hp.objs.size) rfl rfl;rw[Dh] at n2 j0;generalize hx:hp.objs.size+1=x at j0 n2;generalize hd:hp.objs.size=d at j0 n1;have:=Ph (om:=[(x,.inst d),(d,.obj (Na fr.w.params []))]) (rest:=own) (va:=[.ref x,k,i,t]) (P:=λv F' wO=>v=.none/\F'=F/\wO=[(x,.inst d),(d,.dJ k i t)])
  (A:=A.under (.builtin "type.__call__" ⟨.ref fy::k::i::more,[]⟩)) (R:=InitBack x (fun r s'=>match r with| .ok (.ret v)=>Po fr Q v s'| .ok _=>False| .error e=>E e s')) (vals:=.ref x::k::i::more) (n:=n) (d:=dr) (tk:=tk)
  yu cx (zH room _ _) rfl (hb _ _) (λaP hF hW cx' e1 e2 e3=>by rw[<-e1];exact(ML hF).mono λfl σ z0=>xA z0 λe1 e2=>by rw[e1,e2];exact⟨rfl,rfl,rfl⟩) j0
  (λv h' d' cX F' wO cI le z z1=>nX z1 λe1 e2 e3=>by rw[e2,e3] at cI;rw[e1];exact⟨rfl,h',d',cX,_,rfl,cI,h x d n2 n1⟩);clear cx room hb h st X qS n2 j0 n1;subst hd hx;exact this
end
section
variable {fr:Fm}{A:aQ}{α β δ ε:Type}{E:aS}{V V':VS}{gl gl':dU}
def B7 (fr:Fm)(A:aQ)(t:bC->Sem ao)(E:aS)(V:VS)(ds:ak)(Q:az):Prop:=
 ∀vs F Vc own rest,RV fr.mt F V Vc own->aK F ds vs->T fr A (t vs) E ⟨F,Vc,own++rest⟩ (PO fr.mt F rest Q)
theorem T.acV {mt:cP}{F₀ F:ah}{Vc own rest}{Q:az}(le:Le F₀ F)(x:T fr A t E ⟨F,Vc,own⟩ (PO mt F rest Q)):T fr A t E ⟨F,Vc,own⟩ (PO mt F₀ rest Q):=
 x.mono λv σ' z0=>gR z0 λd V' own' cs a b le' c=>(cZ d V' own' cs a b (le.trans le') c)
theorem B7.fz (h:B7 fr A t E V ds Q):mZ fr A E Rp V t ds Q:=λvs F Vc own rs rv r=>Za (h vs F Vc own rs rv r)
theorem Hj (hf:dH fr gl){v:ao}(hx:Hs (g,v) gl)
  (h:DT fr A E aK V (spliced (backTo pos (starEach args fr.e))) λds V1=>B7 fr A (cl v) E V1 ds Q)
  (he:autoParam (eval (.Call (.Name g nO) args [] pos) fr.e=(do callWith pos (<-eval (.Name g nO) fr.e) [] (backTo pos (starEach args fr.e)) (backToKw pos (keywordEach [] fr.e)))) wu)
  (hs:autoParam ((backTo pos (starEach args fr.e)).any (·.1)=false) wu):Dt fr A (eval (.Call (.Name g nO) args [] pos) fr.e) E V Q:=λF Vc own rs rv=>
 iN (iM hf hx.mem (bJ hf.cx (hf.gl _ hx.mem).2.2.2 (h.go rv λvs F1 c5 aC ds V1 bQ cM r1 q1=>T.acV cM (q1 vs F1 c5 aC rs bQ r1)) hs)) he
theorem wN (hf:dH fr gl)(room:cC A n)(hn:2<=n){ks:aa}(h:Q (.vec ks i .none) V):B7 fr A (cl (.ref 279)) E V [.str ks,i] Q:=λvs F Vc own rs rv r=>by
 induction r using aK.aZ with
 |cons r1 r=>induction r using aK.aZ with
  |cons r2 r=>
   induction r using aK.fR;induction r1 using Rp.fj;exact KN (more:=[]) (n:=0) hf.cx (room.le hn) (λP x=>Pr P x _ _) λa d ha hd=>(aL _ V own [_,_] rv rfl (.refl _) (.vec r2 .none) (λp hp=>by
    cases hp with
    |head=>exact ha
    |tail z hp=>cases hp with
     |head=>exact hd
     |tail z q=>exact aR q) h)
theorem II (hf:dH fr gl)(room:cC A n)(hn:2<=n){ks:aa}(h:Q (.vec ks i t) V):B7 fr A (cl (.ref 279)) E V [.str ks,i,t] Q:=λvs F Vc own rs rv r=>by
 induction r using aK.aZ with
 |cons r1 r=>induction r using aK.aZ with
  |cons r2 r=>induction r using aK.aZ with
   |cons r3 r=>
    induction r using aK.fR;induction r1 using Rp.fj;exact KN (more:=[_]) (n:=0) hf.cx (room.le hn) (λP x=>Pq P x _ _ _) λa d ha hd=>(aL _ V own [_,_] rv rfl (.refl _) (.vec r2 r3) (λp hp=>by
     cases hp with
     |head=>exact ha
     |tail z hp=>cases hp with
      |head=>exact hd
      |tail z q=>exact aR q) h)
noncomputable def VW:D->Bool
 | .const _=>false
 |_=>true
theorem W5 (r:Rp F d v)(h:VW d=true):handedIn v=true:=by induction r using Rp.casesOn<;>first|rfl|cases h
theorem aax (hf:dH fr gl){Q:az}(h:Q (.str ks) V):uY fr A E Rp V (fun o=>getAttr o "kind" true) (.vec ks i t) Q:=fun v F Vc own rest rv ra=>by
 induction ra using Rp.HJ with
 | @vec a d kt iv tv e1 e2 r1 r2=>exact ag7 hf.cx (uO.mk ⟨d,.inl ⟨e1,e2⟩⟩) rfl (cg rv (.refl _) .str h)
theorem VM (hf:dH fr gl)(hi:VW i=true)(h:Q i V):uY fr A E Rp V (fun o=>getAttr o "items" true) (.vec ks i t) Q:=fun v F Vc own rest rv ra=>by
 induction ra using Rp.HJ with
 | @vec a d kt iv tv e1 e2 r1 r2=>exact aci hf.cx (uO.mk ⟨d,.inl ⟨e1,e2⟩⟩) (W5 r1 hi) (cg rv (.refl _) r1 h)
theorem VQ (hf:dH fr gl)(ht:VW t=true)(h:Q t V):uY fr A E Rp V (fun o=>getAttr o "attrs" true) (.vec ks i t) Q:=fun v F Vc own rest rv ra=>by
 induction ra using Rp.HJ with
 | @vec a d kt iv tv e1 e2 r1 r2=>exact O4 hf.cx (uO.mk ⟨d,.inl ⟨e1,e2⟩⟩) (W5 r2 ht) (cg rv (.refl _) r2 h)
theorem MV (hf:dH fr gl){value:aD}{Q:bY}
  (h:DT fr A E Rp V (eval value fr.e) λy V1=>∃(mk:gm) (ks:aa) (i t:D) (f:pU),ia x (mk (.vec ks i t)) V1 f/\(mk=.ow\/mk=.ln)/\Q .next (f (mk (.vec ks i y))))
  (hs:autoParam (swapsWith value (some (.Attribute (.Name x px) "attrs" pos')) pos.line fr.e=pure false) wu):DT fr A E RF V (exec (.Assign [.Attribute (.Name x px) "attrs" pos'] value pos) fr.e) Q:=fun F Vc own rs rv=>
 dc (h.go rv λu F1 c5 aC y V1 bQ cM r1 z0=>fX z0 λmk ks i t f bK=>nX bK λc j3 q=>clear% bK;oV bQ c j3 λv bE cs hx f7 ng ff=>dF hf hx (by
  clear h hs rv bQ z0 j3 hx;induction f7 using Ow.HJ with
  | @vec a d kt iv tv ri rt=>refine T.conv (BO (Q:=λz σ=>σ=⟨F1,c5,[(a,.inst d),(d,.dJ (.str ks kt) iv u)]++(bE++rs)⟩) hf.cx rfl) λz σ' e=>?_;rw[e];exact sA (R:=RF) c.self (.vec ri r1) (ng.keys rfl) ff cM RF.next q)) hs
theorem RC {Vc own}{hp:Heap}(st:St fr ⟨F,Vc,own⟩ hp){a d:av}(e:F a=some (.inst d))(M:Model):Looks M hp (typeOf (.ref a)) (.ref fy):=by refine gy (st.sees _ _ e) λz o ho ok=>?_;have ok:o=instObj fy d:=ok;subst ok;exact(Looks.ld ho).andThen .now
theorem ZO (P:aY):isIn (K P) (.ref fy) fy=true:=by kernel_rfl
theorem afs (hf:dH fr gl){Q:az}(h:Q (.bool true) V):mZ fr A E Rp V (cl (.builtin "isinstance")) [.vec ks i t,.const (.ref 279)] Q:=fun vs F Vc own rs rv r hp d tk st=>by
 induction r using aK.aZ with
 |cons r1 r=>induction r using aK.aZ with
  |cons r2 r=>
   induction r using aK.fR;induction r2 using Rp.Ms;induction r1 using Rp.HJ with
   |vec e1 e2 _ _=>exact isi_call (hf.cx.K.keeps st.keep) (RC st e1) (ZO _) (by intro e;cases e) (b9 st rv .bool h)
theorem aaz (h:Q (.bool false) V):mZ fr A E Rp V (cl (.builtin "isinstance")) [.bool b,.const (.type "list")] Q:=fun vs F Vc own rs rv r hp d tk st=>by
 induction r using aK.aZ with
 |cons r1 r=>induction r using aK.aZ with
  |cons r2 r=>induction r using aK.fR;induction r2 using Rp.Ms;induction r1 using Rp.XD;exact call_isinstance (isinstance_false_bool (by decide+kernel) PySem.F.isi_meta_list PySem.F.sub_bool_list) (b9 (tk:=tk+1) st rv .bool h)
theorem vj (ha:a.natAbs.log2<1920)(h:Q (.str (toString a)) V):mZ fr A E Rp V (cl (.type "str")) [.int a] Q:=fun vs F Vc own rs rv r hp d tk st=>by
 induction r using aK.aZ with
 |cons r1 r=>induction r using aK.fR;induction r1 using Rp.cz;exact PySem.P.str_of_int ha (b9 (tk:=tk+1) st rv .str h)
theorem afB (h:Q (.int (if a<0 then-a else a)) V):mZ fr A E Rp V (cl (.builtin "abs")) [.int a] Q:=fun vs F Vc own rs rv r hp d tk st=>by
 induction r using aK.aZ with
 |cons r1 r=>induction r using aK.fR;induction r1 using Rp.cz;exact call_abs_int λu cX=>b9 (tk:=cX) st rv .int h
theorem St.qo (st:St fr σ h)(k:∀b o,h.get? b=some o->h'.get? b=some o):St fr σ h':=by
 obtain⟨F,Vc,own⟩:=σ;refine st.step (M:=[]) ⟨(λa ha=>nomatch ha),λa o z e=>⟨o,k a o e,.inl rfl⟩⟩ (λa ha=>nomatch ha) (.refl _ _) (λa c e=>?_) (λp hp=>?_) st.nd
 .exact gy (st.sees a c e) λl o e' q=>⟨l,o,k a o e',q⟩
 .exact b8 (st.own p hp) λa b c o' e' q=>⟨⟨a,c,st.fY.2 p hp,λy c e=>(st.dM y c e).2.1 p hp⟩,b,o',k _ o' e',q⟩
theorem St.grow {own:cN}{c:Cell}{o:Obj}(st:St fr ⟨F,Vc,own⟩ h)(k:∀b o,h.get? b=some o->h'.get? b=some o)(e:h'.get? h.objs.size=some o)(ok:c.ok fr.w o):
  St fr ⟨F,Vc,(h.objs.size,c)::own⟩ h':=by
 refine kU (st.fresh) λf1 f2 f3 f4=>?_;have nl:∀a,cW h a->a≠h.objs.size:=λa l q=>eG (q▸l);refine(st.qo k).MF f1 f2 f4 (λp hp=>nl _ ?_) (nl _ ?_ ·.symm) (λy c e=>(nl _ ?_ ·.symm)) e ok
 .refine b8 (st.own p hp) λz z z o e z=>?_;exact⟨o,e⟩
 .refine aq (st.vars.loc) λm z0 z=>qQ z0 λo z z e z=>?_;exact⟨o,e⟩
 .refine dw ((st.dM y c e).2.2) λov o e z=>?_;exact⟨o,e⟩
theorem g4 (st:St fr ⟨F,Vc,own⟩ h):h.objs.size∉fr.mt:=st.fresh.2.2.1
theorem LB (st:St fr ⟨F,Vc,(a,.list vs)::(own++rest)⟩ hp)(hn:a∉fr.mt)(rv:RV fr.mt F V Vc own)(r:aK F l vs)(hl:l.length<=cap)(q:Q (.list l) V):
  ∃(h':Heap) (d':Drawn) (cX:Nat) (σ':S),(⟨hp, #[],dr,tk,fr.os⟩:cO)=⟨h', #[],d',cX,fr.os⟩/\St fr σ' h'/\PO fr.mt F rest Q (.ref a) σ':=
 (af hp dr tk _ rfl st (aL _ V own [(a,.list vs)] rv rfl (.refl _) (.list r hl) (λp hp=>by cases hp with|head=>exact hn|tail z q=>exact aR q) q))
def Dp (fr:Fm)(A:aQ)(t:ao->ao->Sem ao)(E:aS)(V:VS)(a b:D)(Q:az):Prop:=
 ∀v u F Vc own rest,RV fr.mt F V Vc own->Rp F a v->Rp F b u->T fr A (t v u) E ⟨F,Vc,own++rest⟩ (PO fr.mt F rest Q)
theorem acs
  (h:DT fr A E Rp V (eval l fr.e) λa V1=>DT fr A E Rp V1 (eval r fr.e) λb V2=>Dp fr A (binaryOp op) E V2 a b Q):Dt fr A (eval (.BinOp l op r pos) fr.e) E V Q:=λF Vc own rs rv=>
 O6 (h.go rv λa F1 c5 aC da V1 bQ cM ra q1=>q1.go bQ λb F2 jX bE db V2 ff fM rb q2=>T.acV (cM.trans fM) (q2 a b F2 jX bE rs ff (ra.mono fM) rb))
theorem VT (hl:l.length+m.length<=cap)(h:Q (.list (l++m)) V):Dp fr A (binaryOp .Add) E V (.list l) (.list m) Q:=λv u F Vc own rest rv ra rb hp d tk st=>by
 induction ra using Rp.listE with
 | @list a vs e1 r1 _=>
  induction rb using Rp.listE with
  | @list b us e2 r2 _=>
   refine xE (cR.obj (.inl e1) st) λn h1=>xE (cR.obj (.inl e2) st) λn2 h2=>?_;have hs:vs.toArray.size+us.toArray.size<=sizeLine:=by simp only[g7,r1.len,r2.len];exact aB hl c9
   refine concat_meets ⟨_,h1,rfl⟩ ⟨_,h2,rfl⟩ noFill_list_add seq_list_add PySem.F.slot_list_add PySem.F.entry_list_add (PySem.F.args_list_add_2 _ _) (list_addW a b vs.toArray us.toArray n n2 none none #[] #[] hs) ⟨h1,h2,?_⟩;have e:vs.toArray++us.toArray=(vs++us).toArray:=YH ..;rw[e];exact LB (st.bM (c:=.list (vs++us)) ⟨0,rfl⟩ rfl) (g4 st) rv (r1.app r2) (by simpa using hl) h
theorem aaJ:∀(n:Nat) (vs:bC),(List.foldl (λx1 x2=>x1++x2) #[] (List.replicate n vs.toArray))=(List.replicate n vs).flatten.toArray:=by
 intro n vs;have key:∀(n:Nat) (acc:Array ao),List.foldl (λx1 x2=>x1++x2) acc (List.replicate n vs.toArray)=acc++(List.replicate n vs).flatten.toArray:=by
  intro n;induction n with
  |zero=>intro acc;rfl
  |succ n ih=>intro acc;simp only[List.replicate_succ,Yn,ih,Bs];rw[Array.append_assoc];refine aT _ ?_;exact YH ..
 rw[key];exact YH ..
theorem tE {n:Int}(h0:0<=n)(hn:n<=cap)(h:Q (.list (List.replicate n.toNat x)) V):Dp fr A (binaryOp .Mult) E V (.list [x]) (.int n) Q:=λv u F Vc own rest rv ra rb hp d tk st=>by
 induction ra using Rp.listE with
 | @list a vs e1 r1 _=>
  induction rb using Rp.cz with
  | @int t=>
   induction r1 using aK.aZ with
   | @cons y _ ry r1=>
    induction r1 using aK.fR;refine xE (cR.obj (.inl e1) st) λk h1=>?_;have hc:(cap:Int)=1048576:=rfl;have hz:[y].toArray.size*n.toNat=n.toNat:=by simp
    have HC:n.toNat<=1048576:=by simp_all
    have c1:¬(!Builtin.List.listFitsIndex n)=true:=by simp[Builtin.List.listFitsIndex];omega
    have c2:¬[y].toArray.size*n.toNat>(2 ^ 63-1)/8:=by rw[hz];exact Kf (aB HC (by decide))
    have c3:¬Builtin.List.listTooLong ([y].toArray.size*n.toNat)=true:=by rw[hz];simp[Builtin.List.listTooLong,nR];exact Int.le_trans hn (by decide)
    refine wpAny_binaryOp_repeat_ref (T:="list") (U:="int") (by decide) ⟨_,h1,rfl⟩ (fun s'=>typeIs_int s' n t) noFill_list_mul PySem.F.fills_int_mul aef repeat_list PySem.F.slot_int_index.lookup
     (Bv aef (typeIs_int _ n t) PySem.F.entry_int_rmul (PySem.F.args_int_rmul_2 _ _) (int___rmul___int_list n t a [y].toArray k)
      ⟨h1,rfl,⟨_,h1,rfl⟩,Bv PySem.F.slot_list_mul ⟨_,h1,rfl⟩ PySem.F.entry_list_mul (PySem.F.args_list_mul_2 _ _)
       (AutoListH.list___mul___list_int_3 a [y].toArray k n t c1 c2 c3) ⟨h1,?_⟩⟩);have e:(List.foldl (λx1 x2=>x1++x2) #[] (List.replicate (if([y].toArray).isEmpty=true then 0 else n.toNat) [y].toArray))=(List.replicate n.toNat y).toArray:=by
     rw[aG (by exact ne_true_of_eq_false rfl),aaJ];simp
    rw[e];exact LB (st.bM (c:=.list (List.replicate n.toNat y)) ⟨0,rfl⟩ rfl) (g4 st) rv (aK.rep ry _) (by simp;omega (splitDisjunctions:=true)) h
theorem VR (h:Q (.list l) V):B7 fr A (cl (.type "list")) E V [.list l] Q:=fun vs F Vc own rs rv r hp d tk st=>by
 induction r using aK.aZ with
 |cons r1 r=>
  induction r using aK.fR;induction r1 using Rp.listE with
  | @list a us e rl hc=>obtain⟨n,h1⟩:=cR.obj (.inl e) st;refine call_list_seq a (.inl rfl) h1 rfl rfl (λh' c' k e'=>?_) (by rw[g7,rl.len];exact aB hc c9);exact LB (st.grow (c:=.list us) k e' ⟨c',rfl⟩) (g4 st) rv rl hc h
noncomputable def sY (a c:Int)(n:Nat):ak:=(List.range n).map fun(i:Nat)=>D.int (a+(i:Int)*c)
theorem zJ (a c:Int)(n:Nat):(sY a c n).length=n:=by simp[sY]
theorem NR {Vc own}(st:St fr ⟨F,Vc,own⟩ hp){x:av}{a b c:Int}(e:F x=some (.rng a b c)):∃t u v,IsRange hp x a b c t u v:=by refine gy (st.sees _ _ e) λz o ho bK=>rI bK λt u v zr6=>clear% bK;?_;subst zr6;exact(ua t u v ho)
theorem DI {a b:Int}(ha: -cap<=a)(ha':a<=cap)(hb: -cap<=b)(hb':b<=cap):Builtin.Range.small a b 1=true:=
 small_one (by have:(cap:Int)=1048576:=rfl;omega) (by have:(cap:Int)=1048576:=rfl;omega) (by have:(cap:Int)=1048576:=rfl;omega) (by have:(cap:Int)=1048576:=rfl;omega)
theorem Rv (h:Q (.range 0 b 1) V):mZ fr A E Rp V (cl (.type "range")) [.int b] Q:=fun vs F Vc own rs rv r hp d tk st=>by
 induction r using aK.aZ with
 |cons r1 r=>
  induction r using aK.fR;induction r1 using Rp.cz with
  | @int t=>exact gb (st.G1 (c:=.rng 0 b 1) (o:={cls:=.type "range",data:=.fields #[.int 0 tk,.int b t,.int 1 (tk+1)]}) ⟨_,_,_,rfl⟩ rfl st.fresh.2.2.1) fun F' le e cI=>call_range_1 (af _ d (tk+1+1) _ rfl cI (cg (rv.mono le) le (.range e) h))
theorem Ru (h:Q (.range a b 1) V):mZ fr A E Rp V (cl (.type "range")) [.int a,.int b] Q:=fun vs F Vc own rs rv r hp d tk st=>by
 induction r using aK.aZ with
 |cons r1 r=>induction r using aK.aZ with
  |cons r2 r=>
   induction r using aK.fR;induction r1 using Rp.cz with
   | @int t=>induction r2 using Rp.cz with
    | @int u=>exact gb (st.G1 (c:=.rng a b 1) (o:={cls:=.type "range",data:=.fields #[.int a t,.int b u,.int 1 tk]}) ⟨_,_,_,rfl⟩ rfl st.fresh.2.2.1) fun F' le e cI=>call_range_2 (af _ d (tk+1) _ rfl cI (cg (rv.mono le) le (.range e) h))
theorem DR {a b c:Int}(hc:c≠0)(hc2:c.natAbs<1073741824)(h:Q (.range a b c) V):mZ fr A E Rp V (cl (.type "range")) [.int a,.int b,.int c] Q:=fun vs F Vc own rs rv r hp d tk st=>by
 induction r using aK.aZ with
 |cons r1 r=>induction r using aK.aZ with
  |cons r2 r=>induction r using aK.aZ with
   |cons r3 r=>
    induction r using aK.fR;induction r1 using Rp.cz with
    | @int t=>induction r2 using Rp.cz with
     | @int u=>induction r3 using Rp.cz with
      | @int v=>exact gb (st.G1 (c:=.rng a b c) (o:={cls:=.type "range",data:=.fields #[.int a t,.int b u,.int c v]}) ⟨_,_,_,rfl⟩ rfl st.fresh.2.2.1) fun F' le e cI=>call_range_3 hc (af _ d tk _ rfl cI (cg (rv.mono le) le (.range e) h)) (.inl (PyProof.noPylong_small hc2))
def aaf (x left step:Int)(o:Obj):Prop:=∀(h:Heap) (a:av),h.get? a=some o->IsRangeIter h a x left step
theorem aae {x left step:Int}(r:IsRangeIter h a x left step):∃o,h.get? a=some o/\aaf x left step o:=by
 first
  |exact⟨_,r,λh' a' e=>e⟩
  |(obtain⟨o,ho,r⟩:=r;exact⟨o,ho,λh' a' e=>⟨o,e,r⟩⟩)
theorem rX (hh:A.handled=none)(a b c:Int)(n:Nat)(hs:Builtin.Range.small a b c=true)(hn:Builtin.Range.rangeSize a b c=(n:Int)):gq w A (.range a b c) (sY a c n):=λfr F Vc own v E hw rv hp d tk st=>by
 induction rv using Rp.Vu with
 | @range x e=>
  refine rI (NR st e) λt u v hr=>wpAny_pyIter_range hr hs ?_;rw[hn];refine(af _ d tk _ rfl (st.bM (c:=.obj (aaf a n c)) (λh a e=>e) rfl) (pG hp.objs.size (λi=>aaf (a+i*c) ((n:Int)-i) c) rfl ?_ st.fresh.2.2.1 ?_))
  .simp
  .refine⟨λfr F Vc own i d E Q hw le hd q hp dr tk st=>?_,λfr F Vc own E Q hw le hI q hp dr tk st=>?_,λfr F Vc own i E Q hw q hp dr tk st=>?_⟩
   .have hi:i<n:=by have:=(Bu.mp hd).1;rwa [zJ] at this
    have ed:d=.int (a+i*c):=by simp only[sY,g9,MG hi] at hd;simpa using hd.symm
    subst ed;refine aq (st.cell (.head _)) λo ho hP=>wpAny_pyNext_range_item (hP _ _ ho) (by simp_all) λh' B4 hs=>aq (aae B4) λo' CZ hP'=>(af h' dr (tk+1) _ rfl (st.chg (c':=.obj (aaf (a+(i+1:Nat)*c) ((n:Int)-(i+1:Nat)) c)) .here hs CZ ?_) (q _ .int));have e1:a+((i+1:Nat):Int)*c=a+i*c+c:=by push_cast;simp only[Int.add_mul];omega
    have e2:(n:Int)-((i+1:Nat):Int)=n-i-1:=by push_cast;exact fH (Int.sub_sub (↑n) (↑i) 1)
    rw[e1,e2];exact hP'
   .refine aq (st.cell (.head _)) λo ho hP=>wpAny_pyNext_range_end hh (hP _ _ ho) (by rw[zJ];simp) λh' x=>?_
    exact(af h' dr tk _ rfl (wy (t:=(pure ():Sem Unit)) (Q:=λz z=>True) (a:=()) (d:=dr) (tk:=tk) st hI x) q)
   .exact aq (st.cell (.head _)) λo ho hP=>wpAny_pyIter_rangeiter (hP _ _ ho) (af hp dr tk _ rfl st q)
theorem I9 {w:bZ}(hh:A.handled=none)(a b:Int)(ha: -cap<=a)(ha':a<=cap)(hb: -cap<=b)(hb':b<=cap):gq w A (.range a b 1) (sY a 1 (b-a).toNat):=
 rX hh a b 1 _ (DI ha ha' hb hb') (rangeSize_nat a b)
theorem qa (hh:A.handled=none){a b:Int}(ha: -cap<=a)(ha':a<=cap)(hb: -cap<=b)(hb':b<=cap)(hc:b-a<=cap)(h:Q (.list (sY a 1 (b-a).toNat)) V):B7 fr A (cl (.type "list")) E V [.range a b 1] Q:=fun vs F Vc own rs rv r hp d tk st=>by
 induction r using aK.aZ with
 |cons r1 r=>
  induction r using aK.fR;induction r1 using Rp.Vu with
  | @range x e=>
   refine rI (NR st e) λt u v hr=>?_;have aW:(cap:Int)=1048576:=rfl;refine call_list_range hh hr (DI ha ha' hb hb') (rangeSize_nat a b) (by omega) λh' cX ag2 c' k e' W6=>?_;have rl:aK F (sY a 1 (b-a).toNat) ag2.toList:=by
    have key:∀(n:Nat) (vs:bC) (g:Nat->Int),vs.length=n->(∀j v,vs[j]? =some v->∃t,v=Value.int (g j) t)->aK F ((List.range n).map λi=>D.int (g i)) vs:=by
     intro n;induction n with
     |zero=>intro vs g hl z;have:=Kv.mp hl;rw[this];exact .nil
     |succ n ih=>
      intro vs g hl hv;induction vs using nU with
      |nil=>cases hl
      |cons v vs=>rw[List.range_succ_eq_map,fJ,eL];refine xE (hv 0 v rfl) λt z0=>?_;rw[z0];exact .cons .int (ih vs (λi=>g (i+1)) (by simpa using hl) λj v h=>hv (j+1) v (by trivial))
    exact key _ _ (λi=>a+(i:Int)*1) W6.1 λj v h=>W6.2 j v (by simpa using h)
   exact LB (st.grow (c:=.list ag2.toList) k e' ⟨c',by simp⟩) (g4 st) rv rl (by rw[zJ];simp_all) h
theorem S4 (hf:dH fr gl)(hw:iL fr)(hx:Hs (x,.fz a) V)
  (h:DT fr A E Rp V (eval value fr.e) λb V1=>gG fr A E Rp V1 (inplaceOp op) a b λd V2=>∃V3,Pv x (.fz d) V2 V3/\Q .next V3):DT fr A E RF V (exec (.AugAssign (.Name x pos') op value pos) fr.e) Q:=λF Vc own rs rv=>by
 refine aq (rv.En hx.mem) λv hv r=>?_;refine SS (EW hf hv (h.go rv λu F1 c5 aC b V1 bQ cM r1 q1=>(q1 v u F1 c5 aC rs bQ (r.mono cM) r1).go λw F2 jX bE d V2 ff fM r2 z=>aq z λV3 p q=>dm (ff.put p r2) λnH cY p' lH sub=>
  BK hw p' (λhp st=>st.sub ⟨_,.refl _,sub.append (fZ _)⟩) (cg lH (cM.trans fM) RF.next q)))
theorem Nt {Q:az}(h:Q (.int (a+b)) V):gG fr A E Rp V (inplaceOp .Add) (.int a) (.int b) Q:=λv u F Vc own rest rv ra rb=>by induction ra using Rp.cz;induction rb using Rp.cz;exact λhp d tk st=>iadd_int (b9 st rv .int h)
def ao3 (fr:Fm)(F:ah)(rs:cN)(Inv:Nat->VS->Prop)(n:Nat)(s:cO):Prop:=
 ∃(h:Heap) (d:Drawn) (tk:Nat) (F':ah) (dG:eX) (own':cN) (V':VS),s=⟨h, #[],d,tk,fr.os⟩/\St fr ⟨F',dG,own'++rs⟩ h/\RV fr.mt F' V' dG own'/\Le F F'/\Inv n V'
theorem acv {Q:bY}(Inv:Nat->VS->Prop){Eb:aS}(n:Nat)(h0:Inv n V)
  (turn:∀n V,Inv n V->DT fr A Eb RB V (isTrue qz fr.e (eval qz fr.e)) λc V1=>
   (c=true->DT fr A Eb RF V1 (execs body fr.e) (λfl V2=>match fl with| .next=>∃m,m<n/\Inv m V2| .cont=>∃m,m<n/\Inv m V2| .brk=>Q .next V2| .ret r=>Q (.ret r) V2))/\
   (c=false->DT fr A Eb RF V1 (execs bH fr.e) Q))
  (hE:∀e s,Eb e s->notedBy (model pw fr.w) A fr.e (λe s'=>cameBackBy (model pw fr.w) A fr.e E e s') e s):DT fr A E RF V (exec (.While qz body bH pos) fr.e) Q:=λF Vc own rs rv hp d tk st=>by
 refine wpAny_While (codeAny_whileLoop (ao3 fr F rs Inv) ?_ n (wZ hp d tk F (aV Vc own V rfl st rv (.refl _) h0)));intro n s z3;refine fX z3 λh3 d3 TV F3 nH bK=>M1 bK λcY V3 z4 yH lH iP xV=>clear% bK;clear% z3;?_;simp only[z4];refine fk (T.cps ((turn n V3 xV).go lH λc F4 Vc4 oR c' V4 K3 LI rc q h4 d4 tk4 K1=>?_) yH) (λz z y=>y) hE;have rc:c=c':=rc;rw[<-rc] at q;clear h0 turn rv st z4 yH lH xV rc;induction c using pR with
 |true=>
  refine fk (T.cps ((q.1 rfl).go K3 λf F6 SO tD dd V6 Hy CG rr q6 h6 d6 zm xD=>?_) K1) (λz z y=>y) hE;have le:=(iP.trans LI).trans CG;induction rr using RF.casesOn with
  |next=>exact aq q6 λm hm q=>⟨m,hm,wZ h6 d6 zm F6 (aV SO tD V6 rfl xD Hy le q)⟩
  |cont=>exact aq q6 λm hm q=>⟨m,hm,wZ h6 d6 zm F6 (aV SO tD V6 rfl xD Hy le q)⟩
  |brk=>exact af h6 d6 zm _ rfl xD (cg Hy le RF.next q6)
  |ret r=>exact af h6 d6 zm _ rfl xD (cg Hy le (RF.ret r) q6)
 |false=>exact fk (T.cps ((q.2 rfl).go K3 λf F6 SO tD dd V6 Hy CG rr q6 h6 d6 zm xD=>af h6 d6 zm _ rfl xD (cg Hy ((iP.trans LI).trans CG) rr q6)) K1) (λz z y=>y) hE
theorem qx (hh:A.handled=none)(hw:iL fr)
  (h:DT fr A E Rp V (eval value fr.e) λd V1=>∃a b V2 V3,d=.tup [a,b]/\Pv x (.fz a) V1 V2/\Pv y (.fz b) V2 V3/\Q .next V3)
  (hs:autoParam (swapsWithSole [.Tuple [.Name x px,.Name y py] k ae1] value pos.line fr.e=pure false) wu)
  (hsw:autoParam (swappedStores [.Tuple [.Name x px,.Name y py] k ae1] value fr.e=pure none) wu):DT fr A E RF V (exec (.Assign [.Tuple [.Name x px,.Name y py] k ae1] value pos) fr.e) Q:=λF Vc own rs rv hp d tk st=>by
 refine Assign_Tuple ?_ hs hsw;refine(h.go (Q':=λv σ1=>T fr A (assign (.Tuple [.Name x px,.Name y py] k ae1) fr.e v) E σ1 λw kg=>PQ fr.mt F rs RF Q .next kg) rv λv F1 c5 aC dd V1 bQ cM r1 z0=>gR z0 λa b V2 V3 ed p1 p2 q=>clear% z0;?_).bG st λv h' d' cX σ' cI q=>q.bG cI λw h2 d2 Fb kg j0 q2=>(af h2 d2 Fb kg rfl j0 q2);subst ed;induction r1 using Rp.TU with
 | @tup t vs e r _=>
  induction r using aK.aZ with
  | @cons u _ ra r=>induction r using aK.aZ with
   | @cons z _ rb r=>induction r using aK.fR;refine dm (bQ.put p1 ra) λjX bE pc1 ff amO=>dm (ff.put p2 rb) λnH cY pc2 lH amN=>?_;intro hp d tk st;refine wpAny_assign_Tuple hh (EV.is e st) rfl (by with_unfolding_all rfl) λh' xb=>?_;have cI:St fr ⟨F1,c5,aC++rs⟩ h':=st.qo λb o eb=>xb b o (λq=>eG ⟨o,by rw[<-q];exact eb⟩) eb;refine ady (Kh ((yT (Q:=λw σ=>σ=⟨F1,jX,aC++rs⟩) hw pc1 rfl).bG cI λw h5 d5 Zy σ5 B3 e5=>?_));subst e5;refine ady (Kh ((yT (Q:=λw σ=>σ=⟨F1,nH,aC++rs⟩) hw pc2 rfl).bG B3 λw h6 d6 zm σ6 xD e6=>?_));subst e6;exact assignInOrder_nil (af h6 d6 zm ⟨F1,nH,cY++rs⟩ rfl (xD.sub ⟨_,.refl _,(amN.trans amO).append (fZ _)⟩) (cg lH cM RF.next q))
theorem ao8
  (h:DT fr A E Rp V (eval agR fr.e) λd V1=>uY fr A E RB V1 truthy d λc V2=>(c=true->Q d V2)/\(c=false->DT fr A E Rp V2 (eval (.BoolOp .Or (Xg::rest) pos) fr.e) Q)):DT fr A E Rp V (eval (.BoolOp .Or (agR::Xg::rest) pos) fr.e) Q:=λF Vc own rs rv hp d tk st=>by
 refine BoolOp_or ?_;refine(h.go (Q':=λv σ1=>T fr A (truthy v) E σ1 λc kg=>if c=true then PQ fr.mt F rs Rp Q v kg else T fr A (eval (.BoolOp .Or (Xg::rest) pos) fr.e) E kg (PQ fr.mt F rs Rp Q)) rv λv F1 c5 aC dd V1 bQ cM r1 q1=>?_).bG st λv h' d' cX σ' cI q=>q.bG cI λc h2 d2 Fb kg j0 q2=>by
  induction c using pR with
  |true=>rw[bg rfl];exact(af h2 d2 Fb kg rfl j0 q2)
  |false=>rw[aG sG];exact q2 h2 d2 Fb j0
 refine(q1 v F1 c5 aC rs bQ r1).go λc F2 jX bE c' V2 ff fM rc z=>xA z λq3 q4=>?_;rw[show c=c' from rc];induction c' using pR with
 |true=>rw[bg rfl];exact cg ff (cM.trans fM) (r1.mono fM) (q3 rfl)
 |false=>rw[aG sG];exact T.lift (cM.trans fM) (q4 rfl F2 jX bE rs ff)
theorem alN (h:DT fr A E Rp V (eval e fr.e) Q)(he:autoParam (eval (.BoolOp .Or [e] pos) fr.e=eval e fr.e) wu):DT fr A E Rp V (eval (.BoolOp .Or [e] pos) fr.e) Q:=he▸h
inductive SV:D->gF->Prop
 |none:SV .none none
 |int {i:Int}:0<=i->SV (.int i) (some i.toNat)
noncomputable def DJ {α:Type}(l:List α):gF->gF->List α
 |none,none=>l
 |some a,none=>l.drop a
 |none,some b=>l.take b
 |some a,some b=>(l.take b).drop a
theorem MY (h:Q .none V):DT fr A E Rp V (evalPart none fr.e) Q:=λF Vc own rs rv=>by simp only[evalPart_none];exact T.pure (cg rv (.refl _) .none h)
theorem MX (h:DT fr A E Rp V (eval e fr.e) Q):DT fr A E Rp V (evalPart (some e) fr.e) Q:=λF Vc own rs rv=>by simp only[evalPart_some];exact h F Vc own rs rv
def T8 (l u : ao) (o : Obj) : Prop := o.cls =.type "slice" /\ o.data =.fields #[l, u, .none]
theorem SV.part (h:SV d a)(r:Rp F d v):IsPart v (a.map Int.ofNat):=by
 induction h using SV.casesOn with
 |none=>induction r using Rp.Nx;exact .none
 | @int i h0=>induction r using Rp.cz;simp only[Option.map_some,show Int.ofNat i.toNat=i from Int.toNat_of_nonneg h0];exact .int _ _
theorem T9 (vs:bC):∀{a b:gF},a=none\/b=none->slicePick vs.toArray (a.map Int.ofNat) (b.map Int.ofNat) none=(DJ vs a b).toArray
 |none,none,_=>slicePick_all ..
 |none,some _,_=>slicePick_upto' ..
 |some _,none,_=>slicePick_from' ..
 |some _,some _,h=>by cases h<;>contradiction
theorem aK.DJ {F:ah}{l:ak}{vs:bC}(h:aK F l vs):∀a b,aK F (DJ l a b) (Internal.DJ vs a b)
 |none,none=>h
 |some _,none=>h.drop _
 |none,some _=>h.take _
 |some _,some _=>(h.take _).drop _
theorem Z0 (l:ak):∀a b,(DJ l a b).length<=l.length
 |none,none=>br _
 |some _,none=>by rw[DJ,OJ];exact Om ..
 |none,some _=>adZ ..
 |some _,some _=>by rw[DJ,OJ];exact aB (Om ..) (adZ ..)
theorem acn {DZ zf:Option aD}{p pos:Pos}{Q:az}
  (h:DT fr A E Rp V (eval value fr.e) λd V1=>DT fr A E Rp V1 (evalPart DZ fr.e) λlo V2=>DT fr A E Rp V2 (evalPart zf fr.e) λhi V3=>∃l a b,d=.list l/\SV lo a/\SV hi b/\(a=none\/b=none)/\Q (.list (DJ l a b)) V3)
  (hs:autoParam (∀o i,subscripted (.Slice DZ zf none p) false o i=operate [i,o] (getItem o i)) wu):Dt fr A (eval (.Subscript value (.Slice DZ zf none p) pos) fr.e) E V Q:=λF Vc own rs rv=>
 KO (h.go rv λv F1 c5 aC dd V1 bQ cM r1 q1=>by
  intro vI d0 tk0 K2;refine wpAny_Slice ?_;refine(q1.go (rest:=rs) (Q':=λlv kg=>T fr A (evalPart zf fr.e) E kg λuv σ3=>∃F3 nH cY lo hi V3,σ3=⟨F3,nH,cY++rs⟩/\RV fr.mt F3 V3 nH cY/\Le F1 F3/\Rp F3 lo lv/\Rp F3 hi uv/\∃l a b,dd=.list l/\SV lo a/\SV hi b/\(a=none\/b=none)/\Q (.list (DJ l a b)) V3) bQ λlv F2 jX bE lo V2 ff fM r2 q2=>q2.go ff λuv F3 nH cY hi V3 lH iP r3 q3=>(wZ F3 nH cY lo (gg hi V3 rfl lH (fM.trans iP) (r2.mono iP) r3 q3))).bG K2 λlv h1 d1 tk1 σ1 qS q=>q.bG qS λuv h2 d2 Fb kg j0 z0=>rI z0 λF3 nH cY bK=>Dw bK λlo hi V3 e3 lH iP rlo rhi Du=>bB Du λl a b ed slo shi N2 hq=>clear% bK;clear% Du;clear% z0;?_;clear h rv bQ q1 K2 qS;subst e3 ed;refine cG ?_;have yH:St fr ⟨F3,nH,(h2.objs.size,.obj (T8 lv uv))::(cY++rs)⟩ (h2.push {cls:=.type "slice",data:=.fields #[lv,uv,.none]}):=j0.bM ⟨rfl,rfl⟩ rfl;refine(af _ d2 Fb _ rfl yH ?_);induction r1 using Rp.listE with
  | @list ad vs ev rl hc=>
   intro hp dr tk st;have cI:St fr ⟨F3,nH,cY++rs⟩ hp:=st.sub ⟨_,.refl _,Bt _ _⟩;refine gb (st.cell (.head _)) λo ho qp lR=>?_;have il:=cR.is (own:=cY++rs) (.inl (iP _ _ ev)) cI;have jm:vs.toArray.size<=sizeLine:=by rw[g7,rl.len];exact aB hc c9
   refine uM il.typeIs ads.lookup ?_ (hs _ _);refine adW il ⟨o,ho,qp,lR⟩ (slo.part rlo) (shi.part rhi) .none (lq (ad7 0)) ?_ jm;rw[T9 _ N2];refine LB (cI.bM (c:=.list _) ⟨0,rfl⟩ rfl) (g4 cI) lH ((rl.mono iP).DJ a b) (aB (Z0 ..) hc) hq|>λz1=>gv z1 λh' d' cX σ' e s q=>clear% z1;(af h' d' cX σ' e s (q.elim λdd z2=>gw z2 λV' own' cs x1 x2 x3 x4=>clear% z2;(cZ dd V' own' cs x1 x2 ((cM.trans iP).trans x3) x4))))
theorem RA:iO "list" "reverse" "list.reverse":=⟨OZ,aes,rfl⟩
theorem Wa:iO "list" "extend" "list.extend":=⟨OZ,aeq,rfl⟩
theorem S0 (hf:dH fr gl){Q:az}{mk:gm}{f:pU}(c:ia x (mk (.list l)) V f)(j3:mk=.ow\/mk=.ln)(h:Q .none (f (mk (.list l.reverse))))
  (he:autoParam (eval (.Call (.Attribute (.Name x px) "reverse" iI) [] [] pos) fr.e=(do
   let ov<-eval (.Name x px) fr.e
   standAt iI.atName
   let (f,first)<-holding [ov] (getMethod ov "reverse" pl)
   callWith pos f first (backTo pos (starEach [] fr.e)) [])) wu):DT fr A E Rp V (eval (.Call (.Attribute (.Name x px) "reverse" iI) [] [] pos) fr.e) Q:=
 yX hf c j3 rfl RA (λv=>l6 ⟨f,c.self,λF vs rl Vc cs rest f7=>by
  induction rl using aK.fR;induction f7 using Ow.listE with
  | @list a us Cn hc=>intro hp d tk st;refine sP (st.cell (.head _)) λo e n ho=>?_;subst ho;have e:hp.get? a=some {cls:=.type "list",data:=.seq us.toArray n}:=e;refine Bv aes ⟨_,e,rfl⟩ PySem.F.entry_list_reverse (PySem.F.args_list_reverse_1 _) (AutoSeq1.list_reverse_list_0 a us.toArray n (by rw[g7,Cn.len];exact aB hc c9)) ⟨e,?_⟩;refine⟨_,d,tk,_,rfl,st.chg (c':=.list us.reverse) .here (qP ..) (mV _ e rfl) ⟨if us.toArray.reverse.size==us.toArray.size then n else n+1,by simp[Obj.mapSeq]⟩,.none,_,[_],.list Cn.rev (by simpa using hc),rfl,rfl,.refl _,.none,rfl,h⟩⟩) he (by with_unfolding_all rfl)
theorem Zu (hf:dH fr gl){mk:gm}{f:pU}(c:ia x (mk (.list l)) V f)(j3:mk=.ow\/mk=.ln)
  (h:∀v,DT fr A E aK (f (.at v)) (spliced (backTo pos (starEach [e] fr.e))) λds V2=>∃m f2,ds=[.list m]/\ia x (.at v) V2 f2/\l.length+m.length<=cap/\Q .none (f2 (mk (.list (l++m)))))
  (he:autoParam (eval (.Call (.Attribute (.Name x px) "extend" iI) [e] [] pos) fr.e=(do
   let ov<-eval (.Name x px) fr.e
   standAt iI.atName
   let (f,first)<-holding [ov] (getMethod ov "extend" pl)
   callWith pos f first (backTo pos (starEach [e] fr.e)) [])) wu)
  (hs:autoParam ((backTo pos (starEach [e] fr.e)).any (·.1)=false) wu):DT fr A E Rp V (eval (.Call (.Attribute (.Name x px) "extend" iI) [e] [] pos) fr.e) Q:=
 yX hf c j3 rfl Wa (λv=>(h v).mono λds V2 z0=>ig z0 λm f2 ed c2 hl q=>clear% z0;⟨f2,c2,λF vs rl Vc cs rest f7=>by
  clear hf c j3 h he hs c2;subst ed;induction rl using aK.aZ with
  |cons ry rl=>
   induction rl using aK.fR;induction ry using Rp.listE with
   | @list b ws eb rw' _=>
    induction f7 using Ow.listE with
    | @list a us Cn hc=>
     intro hp d tk st;refine sP (st.cell (.head _)) λo e n ho=>?_;subst ho;have e:hp.get? a=some {cls:=.type "list",data:=.seq us.toArray n}:=e;refine xE (cR.obj (.inl eb) st) λn2 e2=>?_;have jm:us.toArray.size+ws.toArray.size<=sizeLine:=by simp only[g7,Cn.len,rw'.len];exact aB hl c9
     refine Bv aeq ⟨_,e,rfl⟩ PySem.F.entry_list_extend (PySem.F.args_list_extend_2 _ _) (AutoSeq1.list_extend_list_list_0 a us.toArray n b ws.toArray n2 (extend_door jm) (aB (xj _ _) jm) (Nat.le_add_right_of_le jm)) ⟨e,e2,?_⟩;refine⟨_,d,tk,_,rfl,st.chg (c':=.list (us++ws)) .here (qP ..) (mV _ e rfl) ⟨if(us.toArray++ws.toArray).size==us.toArray.size then n else n+1,by simp[Obj.mapSeq]⟩,.none,_,[_],.list (Cn.app rw') (by simpa using hl),rfl,rfl,.refl _,.none,rfl,q⟩⟩) he hs
theorem aK.strs:∀{vs:bC},aK F (ys.map .str) vs->StrsAre vs ys:=by
 induction ys with
 |nil=>intro vs h;induction h using aK.fR;exact .nil
 |cons y ys ih=>intro vs h;induction h using aK.aZ with|cons r h=>induction r using Rp.fj;exact .cons _ _ (ih h)
theorem aft {ys:ay}(hl:l=ys.map .str)(h:Q (.bool (ys.any (·==x))) V):gG fr A E Rp V (compareOp .In) (.str x) (.tup l) Q:=λv u F Vc own rest rv ra rb hp d tk st=>by
 subst hl;induction ra using Rp.fj;induction rb using Rp.TU with
 | @tup a vs e r _=>exact in_tuple_strs (EV.is e st) r.strs (b9 st rv .bool h)
theorem aaq {ys:ay}(hl:l=ys.map .str)(h:Q (.bool (!(ys.any (·==x)))) V):gG fr A E Rp V (compareOp .NotIn) (.str x) (.tup l) Q:=λv u F Vc own rest rv ra rb hp d tk st=>by
 subst hl;induction ra using Rp.fj;induction rb using Rp.TU with
 | @tup a vs e r _=>exact notin_tuple_strs (EV.is e st) r.strs (b9 st rv .bool h)
theorem afO:iO "str" "join" "str.join":=⟨PySem.F.plainAttrs_str,PySem.F.slot_str_join,rfl⟩
theorem FE (hl:l=ys.map .str)(uU:(ys.map (·.length)).sum+ys.length*x.length<=16777216)(h:Q (.str (Txt.join x ys)) V):mZ fr A E Rp V (cl (.builtin "str.join")) [.str x,.list l] Q:=fun vs F Vc own rs rv r hp d tk st=>by
 subst hl;induction r using aK.aZ with
 |cons r1 r=>induction r using aK.aZ with
  |cons r2 r=>
   induction r using aK.fR;induction r1 using Rp.fj;induction r2 using Rp.listE with
   | @list a us e rl hc=>exact join_list (cR.is (.inl e) st) rl.strs uU λt' k=>b9 (tk:=k) st rv .str h
end
section
open Builtin Builtin.ObjectAttr
variable {fr:Fm}{A:aQ}{α β δ ε:Type}{E:aS}{V V':VS}{gl gl':dU}
theorem apu (k i a:ao)(sh lo b:Bool):jG (GN k i a sh lo) "shared" (.bool b)=GN k i a b lo:=by kernel_rfl
theorem KI {Q:Unit->S->Prop}(cx:Cx fr.w fr.hb)(ha:F a=some (.inst d))(hd:F d=some (.dJ k i t))(h:Q () ⟨F,Vc,own⟩):
  T fr A (setAttr (.ref a) "shared" (.bool b)) E ⟨F,Vc,own⟩ Q:=fun hp dr tk st=>by
 refine gy (st.sees _ _ ha) λz ox hx VU=>?_;have VU:ox=instObj fy d:=VU;subst VU;refine gy (st.sees _ _ hd) λz od hdo okd=>rH (acK okd) λsh lo es n z0 he=>?_;subst z0;have X:(K fr.w.params).In hp:=cx.K.keeps st.keep;have I:InstAt hp a (instObj fy d) fy (some (dictOf es n)):=⟨hx,rfl,rfl,hdo⟩;have nN:((GN k i t sh lo).map (·.1)).Nodup:=by show(["kind","items","attrs","shared","loose"]:ay).Nodup;decide
 have put:=he.put nN "shared" (.bool b);have qI:∀cX,∃(h':Heap) (d':Drawn) (PB:Nat) (σ':S),(⟨hp.update d (Obj.putName "shared" (PyData.keyHash fr.w.params "shared") (.str "shared" cX) (.bool b)), #[],dr,cX+1,fr.os⟩:cO)=⟨h', #[],d',PB,fr.os⟩/\St fr σ' h'/\Q () σ':=fun cX=>by
  have hs:=qP hp d (Obj.putName "shared" (PyData.keyHash fr.w.params "shared") (.str "shared" cX) (.bool b));have akb:(hp.update d (Obj.putName "shared" (PyData.keyHash fr.w.params "shared") (.str "shared" cX) (.bool b))).get? d=some (dictOf (putL "shared" (PyData.keyHash fr.w.params "shared") (.str "shared" cX) (.bool b) es) (putN "shared" es n)):=by rw[<-rF];exact mV _ hdo (by rw[rF];rfl)
  refine(af _ _ _ ⟨F,Vc,own⟩ rfl ?_ h);refine st.step (M:=[]) ⟨(λa ha=>nomatch ha),λa' o z e=>?_⟩ (λa ha=>nomatch ha) (.refl _ _) (λa' c e=>?_) (λp mL=>?_) st.nd
  .clear cx ha h st hx VU he hdo okd X I nN put;by_cases q:a'=d
   .clear hs e;rw[q];exact⟨_,akb,.inr (ua k i t hd)⟩
   .exact⟨o,(hs.2 a' q).trans e,.inl rfl⟩
  .refine gy (st.sees a' c e) λl o e' ok=>?_
   by_cases q:a'=d
   .clear cx ha h st hx VU he hdo okd X I nN hs e' ok;subst q
    rw[show F a'=some c from e] at hd;cases hd;exact⟨l,_,akb,TJ (r9 _ _ rfl (put cX))⟩
   .exact⟨l,o,(hs.2 a' q).trans e',ok⟩
  .refine b8 (st.own p mL) λa1 a2 a3 o a4 a5=>?_
   have q:p.1≠d:=λq=>by rw[q] at a2;have a2:F d=none:=a2;rw[hd] at a2;exact fD a2
   exact⟨⟨a1,a3,st.fY.2 p mL,λy c e=>(st.dM y c e).2.1 p mL⟩,a2,o,(hs.2 _ q).trans a4,a5⟩
 refine set_plain (s:=⟨hp, #[],dr,tk,fr.os⟩) X I (wF _) (osa_open X I (Dy _) (lB _) λbb=>?_);refine aq (any_some (n6 fr.w.params)) λcd hc Sf=>aN (cG (aN (aN (EH hx (aN ((Oh X hc).here ?_))))));rw[Sf];refine cG (a:=some d) (aN (cG (aN ?_)));unfold nsSet;refine aN (aN (BC (cG (aN (Oo (aN (EH hdo ?_)))))));dsimp only;have c:(!es.toArray.any (·.key.isStr "shared")&&es.toArray.any (·.refKey))=false:=by rw[<-OM,<-OM];rw[he.noRef,Yh]
 rw[adL,c];refine Yg hdo ?_;have hd2:(hp.update d (Obj.putName "shared" (PyData.keyHash fr.w.params "shared") (.str "shared" (tk+1)) (.bool b))).get? d=some (dictOf (putL "shared" (PyData.keyHash fr.w.params "shared") (.str "shared" (tk+1)) (.bool b) es) (putN "shared" es n)):=by rw[<-rF];exact mV _ hdo (by rw[rF];rfl)
 refine aN (Ye hd2 (Yc (by rw[g7,nR,(put _).len];show 5<=_;decide)) ?_);exact cG (qI (tk+1))
theorem KX (hf:dH fr gl)(hx:Hs (x,.fz (.vec ks i t)) V)(h:Q .next V)
  (hs:autoParam (swapsWith (.Constant (.bool b) kk cp) (some (.Attribute (.Name x px) "shared" pos')) pos.line fr.e=pure false) wu):DT fr A E RF V (exec (.Assign [.Attribute (.Name x px) "shared" pos'] (.Constant (.bool b) kk cp) pos) fr.e) Q:=fun F Vc own rs rv=>by
 refine aq (rv.En hx.mem) λv hv r=>?_;induction r using Rp.HJ with
 |vec e1 e2 _ _=>exact dc (Hg (dF hf hv (KI hf.cx e1 e2 (cg rv (.refl _) RF.next h)))) hs
def aa9 (d:av)(n ep i:Nat)(o:Obj):Prop:=∀(h:Heap) (a:av),h.get? a=some o->h.IsKeyIter a d i n ep
theorem aa8 {h:Heap}{a d:av}{i n ep:Nat}(r:h.IsKeyIter a d i n ep):∃o,h.get? a=some o/\aa9 d n ep i o:=aq r λo ho r=>⟨o,ho,λh' a' e=>⟨o,e,r⟩⟩
theorem GQ {Vc own}(st:St fr ⟨F,Vc,own⟩ hp){es ep}(e:F a=some (.dict es ep)):hp.DictAt (strKind pw fr.w) a es ep/\(a==sysModules)=false:=by obtain⟨l,o,ho,⟨a1,ep1,h1,h2,r⟩,a2,h3⟩:=st.sees _ _ e;rw[h2] at h3;cases h3;exact⟨(pG o a1 ho h1 h2 r),yN l⟩
theorem HX (h:(strKind pw w).is k v=true):∃t,v=.str k t:=by
 induction v using Zc5 with
 |str x t=>simp[PySem.strKind,Value.isStrOf] at h;subst h;exact⟨t,rfl⟩
 |_=>simp[PySem.strKind,Value.isStrOf] at h
theorem RU {w:bZ}(hh:A.handled=none)(l:uX):gq w A (.dict l) (l.map λp=> .str p.1):=λfr F Vc own v E hw rv hp d tk st=>by
 induction rv using Rp.rC with
 | @dict a es ep e r=>
  refine xA (GQ st e) λdd lo=>?_;have dg:=r.len;refine wpAny_pyIter_dict lo dd ⟨_,d,tk,_,rfl,st.bM (c:=.obj (aa9 a es.length ep 0)) (λh' a' e=>⟨_,e,rfl,rfl⟩) rfl,hp.objs.size,aa9 a es.length ep,rfl,rfl,st.fresh.2.2.1,λfr F' Vc own i d E Q hw le hd q hp dr tk st=>?_,λfr F' Vc own E Q hw le hI q hp dr tk st=>?_,λfr F' Vc own i E Q hw q hp dr tk st=>?_⟩
  .refine xA (GQ st (le _ _ e)) λdd z=>?_
   have hi:i<es.length:=by have:=(Bu.mp hd).1;simp at this;simp_all
   have hx:es[i]? =some ((es[i]).1,(es[i]).2):=(eE hi);refine aq (st.cell (.head _)) λo ho hP=>wpAny_pyNext_dict_item (hP _ _ ho) dd hx λkey h' uc B4 hs=>aq (aa8 B4) λo' CZ hP'=>xE (HX uc) λt z0=>?_;rw[z0];refine(af h' dr tk _ rfl (st.chg (c':=.obj (aa9 a es.length ep (i+1))) .here hs CZ hP') (q _ ?_));have hk:=r.keys;have:d=.str (es[i]).1:=by
    have h1:(l.map (·.1))[i]? =some (es[i]).1:=by rw[hk,g9,hx];rfl
    rw[g9] at hd h1;induction ql:l[i]? using fL with
    |none=>rw[ql] at h1;cases h1
    |some p=>rw[ql] at hd h1;simp at hd h1;rw[<-hd,h1]
   rw[this];exact .str
  .exact xA (GQ st (le _ _ e)) λdd z=>aq (st.cell (.head _)) λo ho hP=>wpAny_pyNext_dict_end hh (hP _ _ ho) dd (by simp[dg]) λh' x=>(af h' dr tk _ rfl (wy (t:=(pure ():Sem Unit)) (Q:=λz z=>True) (a:=()) (d:=dr) (tk:=tk) st hI x) q)
  .exact aq (st.cell (.head _)) λo ho hP=>wpAny_pyIter_keyiter (hP _ _ ho) (af hp dr tk _ rfl st q)
variable {fr:Fm}{A:aQ}{E:aS}{V V':VS}
theorem alO
  (h:DT fr A E Rp V (eval agR fr.e) λd V1=>uY fr A E RB V1 truthy d λc V2=>(c=true->DT fr A E Rp V2 (eval (.BoolOp .And (Xg::rest) pos) fr.e) Q)/\(c=false->Q d V2)):DT fr A E Rp V (eval (.BoolOp .And (agR::Xg::rest) pos) fr.e) Q:=λF Vc own rs rv hp d tk st=>by
 refine BoolOp_and ?_;refine(h.go (Q':=λv σ1=>T fr A (truthy v) E σ1 λc kg=>if c=true then T fr A (eval (.BoolOp .And (Xg::rest) pos) fr.e) E kg (PQ fr.mt F rs Rp Q) else PQ fr.mt F rs Rp Q v kg) rv λv F1 c5 aC dd V1 bQ cM r1 q1=>?_).bG st λv h' d' cX σ' cI q=>q.bG cI λc h2 d2 Fb kg j0 q2=>by
  induction c using pR with
  |true=>rw[bg rfl] at q2 ⊢;exact q2 h2 d2 Fb j0
  |false=>rw[aG (by simp)] at q2 ⊢;exact(af h2 d2 Fb kg rfl j0 q2)
 refine(q1 v F1 c5 aC rs bQ r1).go λc F2 jX bE c' V2 ff fM rc z=>xA z λq3 q4=>?_;rw[show c=c' from rc];induction c' using pR with
 |true=>rw[bg rfl];exact T.lift (cM.trans fM) (q3 rfl F2 jX bE rs ff)
 |false=>rw[aG sG];exact cg ff (cM.trans fM) (r1.mono fM) (q4 rfl)
theorem ahp (h:DT fr A E Rp V (eval e fr.e) Q)(he:autoParam (eval (.BoolOp .And [e] pos) fr.e=eval e fr.e) wu):DT fr A E Rp V (eval (.BoolOp .And [e] pos) fr.e) Q:=he▸h
variable {fr:Fm}{A:aQ}{E:aS}{V V':VS}
variable {fr:Fm}{A:aQ}{E:aS}{V V':VS}
theorem aaA {ys:ay}(hl:l=ys.map .str)(h:Q (.bool (ys.any (·==x))) V):gG fr A E Rp V (compareOp .In) (.str x) (.list l) Q:=λv u F Vc own rest rv ra rb hp d tk st=>by
 subst hl;induction ra using Rp.fj;induction rb using Rp.listE with
 | @list a vs e r _=>exact in_list_strs (cR.is (.inl e) st) r.strs (b9 st rv .bool h)
variable {fr:Fm}{A:aQ}{E:aS}{V V':VS}
noncomputable def zu:ak->ay
 |[]=>[]
 | .str s::r=>s::zu r
 |_::r=>zu r
variable {fr:Fm}{A:aQ}{E:aS}{V V':VS}{gl':dU}
noncomputable abbrev abM (lv:ak):uX:=[("levels",.vec "character" (.list lv) .none),("class",.vec "character" (.list [.str "factor"]) .none)]
theorem agQ (lv:ak):(d9 (abM lv) ("levels":aa))=some (.vec "character" (.list lv) .none):=by kernel_rfl
end
section
variable {fr:Fm}{A:aQ}{α β δ ε:Type}{E:aS}{V V':VS}{gl gl':dU}
theorem Mr (h:Heap):(Cell.dict [] 0).ok w {cls:=.type "dict",data:=.dict #[]}:=by refine aq (Di.mp (Heap.DictOf.new (knd:=PySem.strKind pw w) h)) λo ho ok=>?_;rw[mU _ rfl] at ho;cases ho;exact⟨ok,_,rfl⟩
theorem agU (h:Heap):(Cell.bh []).ok w {cls:=.type "dict",data:=.dict #[]}:=by refine aq (Di.mp (Heap.DictOf.new (knd:=PySem.intKind pw w) h)) λo ho ok=>?_;rw[mU _ rfl] at ho;cases ho;exact ok
theorem acq (h:Q (.dict []) V):Dt fr A (eval (.Dict [] [] pos) fr.e) E V Q:=λF Vc own rs rv hp d tk st=>
 Yd (af _ d tk _ rfl (st.bM (c:=.dict [] 0) (Mr hp) rfl) (aL _ V own [_] rv rfl (.refl _) (.dict .nil) (λp hp=>by cases hp with|head=>exact g4 st|tail z q=>cases q) h))
theorem Zi (h:Q (.bh []) V):Dt fr A (eval (.Dict [] [] pos) fr.e) E V Q:=λF Vc own rs rv hp d tk st=>
 Yd (af _ d tk _ rfl (st.bM (c:=.bh []) (agU hp) rfl) (aL _ V own [_] rv rfl (.refl _) (.bh .nil) (λp hp=>by cases hp with|head=>exact g4 st|tail z q=>exact aR q) h))
theorem Zh (h:Q (.cK []) V):Dt fr A (eval (.Dict [] [] pos) fr.e) E V Q:=λF Vc own rs rv hp d tk st=>
 Yd (af _ d tk _ rfl (st.bM (c:=.dict [] 0) (Mr hp) rfl) (aL _ V own [_] rv rfl (.refl _) (.cK .nil) (λp hp=>by cases hp with|head=>exact g4 st|tail z q=>cases q) h))
theorem S5 (hf:dH fr gl)(hw:iL fr)(h:∃V2,Pv x (.ow (.list [])) V V2/\Q .next V2)
  (hs:autoParam (swapsWith (.List [] lp) (some (.Name x pos')) pos.line fr.e=pure false) wu):DT fr A E RF V (exec (.Assign [.Name x pos'] (.List [] lp) pos) fr.e) Q:=
 eK hw (Hi hf (l6 ⟨by exact jU _,h⟩)) hs
theorem MW (hw:iL fr)(h:∃V2,Pv x (.ow (.dict [])) V V2/\Q .next V2)
  (hs:autoParam (swapsWith (.Dict [] [] lp) (some (.Name x pos')) pos.line fr.e=pure false) wu):DT fr A E RF V (exec (.Assign [.Name x pos'] (.Dict [] [] lp) pos) fr.e) Q:=
 eK hw (acq h) hs
theorem aaw (hl:l.length<=cap)(h:Q (.int l.length) V):mZ fr A E Rp V (cl (.builtin "len")) [.dict l] Q:=fun vs F Vc own rest rv r hp d tk st=>by
 induction r using aK.aZ with
 |cons x r0=>
  induction r0 using aK.fR;induction x using Rp.rC with
  |dict e r=>exact xA (qw st e) λdd lo=>XT lo dd (by rw[r.len];exact iH hl) (b9 (tk:=tk+1+1) st rv (by rw[r.len];exact .int) h)
variable {fr:Fm}{A:aQ}{E:aS}{V V':VS}
def Dq (fr:Fm)(A:aQ)(x:aa)(body bH:fc)(Q:bY):ak->VS->Prop
 |[],V=>DT fr A gO RF V (execs bH fr.e) Q
 |d::ds,V=>∃V2,Pv x (.fz d) V V2/\DT fr A gO RF V2 (execs body fr.e) (λfl V'=>match fl with| .next=>Dq fr A x body bH Q ds V'| .cont=>Dq fr A x body bH Q ds V'| .brk=>Q .next V'| .ret r=>Q (.ret r) V')
theorem ahl (hw:iL fr){x:aa}{body bH:fc}{Q:bY}
  (h:DT fr A E Rp V (eval iter fr.e) λsrc V1=>∃ds,gq fr.w A src ds/\Dq fr A x body bH Q ds V1)
  (hs:autoParam (∀x,foldedSetIterable iter fr.e x=pure x) wu):DT fr A E RF V (exec (.For (.Name x px) iter body bH pos) fr.e) Q:=
 aeL hw (λds V=>Dq fr A x body bH Q ds V) (Eb:=gO) h (λd ds V ⟨V2,p,h⟩=>⟨V2,p,h.mono λfl V' q=>by induction fl using DF.casesOn<;>exact q⟩) (λV h=>h) (λz z h=>h.elim) hs
theorem Dq.ind {x:aa}{body bH:fc}{Q:bY}(Inv:ak->VS->Prop)(turn:∀d ds V,Inv (d::ds) V->∃V2,Pv x (.fz d) V V2/\DT fr A gO RF V2 (execs body fr.e) (λfl V'=>match fl with| .next=>Inv ds V'| .cont=>Inv ds V'| .brk=>Q .next V'| .ret r=>Q (.ret r) V'))
  (qI:∀V,Inv [] V->DT fr A gO RF V (execs bH fr.e) Q):∀ds V,Inv ds V->Dq fr A x body bH Q ds V
 |[],V,h=>qI V h
 |d::ds,V,h=>by exact aq (turn d ds V h) λV2 p b=>⟨V2,p,b.mono λfl V' q=>by cases fl<;>first|exact q|exact Dq.ind Inv turn qI ds _ q⟩
variable {fr:Fm}{A:aQ}{E:aS}{V V':VS}
theorem Dp.fz (h:Dp fr A t E V a b Q):gG fr A E Rp V t a b Q:=λv u F Vc own rs rv ra rb=>Za (h v u F Vc own rs rv ra rb)
variable {fr:Fm}{A:aQ}{E:aS}{V V':VS}{gl gl':dU}
theorem aE.ofD {dv:bC}{n:Nat}(df:dI f fd body ps ls gl')(hr:∀F,aK F dds dv)
  (NZ:∀P (vals:bC),vals.length=ds.length->∀S,peek (K P) S (bindArgs fd ⟨vals,[]⟩)=some (ps.zip (vals++dv)))(hl:ds.length+dds.length=ps.length)
  (fV:∀fr A,dH fr gl'->iL fr->cC A n->fr.e.scope=fd.scope->DT fr A (λz z=>False) RF (V0 ps (ds++dds) ls) (execs body fr.e) (λfl z=>P (ie fl))):aE f (n+1) ds P:=
 λfr gl A E V Q hf room k=>Pa df hf room (fK▸hl) (λF vs r=>⟨vs++dv,r.app (hr F),λP S=>NZ P vs r.len S⟩) fV k
end
section
variable {fr:Fm}{A:aQ}{α β δ ε:Type}{E:aS}{V V':VS}{gl gl':dU}
noncomputable def qX:D->Bool
 | .list _=>true
 | .dict _=>true
 | .bh _=>true
 |_=>false
theorem Ow.one (h:Ow F d v cs):qX d=true->∃a,v=.ref a/\cs.map (·.1)=[a]:=
 Ow.casesOn (motive:=λd v cs z=>qX d=true->∃a,v=.ref a/\cs.map (·.1)=[a]) h (λz z z=>⟨_,rfl,rfl⟩) (λz z=>⟨_,rfl,rfl⟩) (λz z=>⟨_,rfl,rfl⟩) (λz z h=>g5 h) (λz h=>g5 h)
theorem Ow.key {d d':D}{v:ao}{cs cs':cN}(h:Ow F d v cs)(h':Ow F' d' v cs')(hd:qX d=true)(Sf:qX d'=true):cs'.map (·.1)=cs.map (·.1):=
 aq (h.one hd) λa e1 e2=>aq (h'.one Sf) λb e3 e4=>by rw[e2,e4,Value.ref.inj (e1.symm.trans e3)]
theorem ahn (h:DT fr A E Rp V (joinParts Str.empty (eval ait fr.e::eval ais fr.e::evalEach rest fr.e)) Q):DT fr A E Rp V (eval (.JoinedStr (ait::ais::rest) pos) fr.e) Q:=λF Vc own rs rv hp d tk st=>
 JoinedStr_many (h F Vc own rs rv hp d tk st)
theorem Zt (hl:out.length<=sizeLine)(h:Q (.str out) V):DT fr A E Rp V (joinParts out []) Q:=λF Vc own rs rv hp d tk st=>
 joinParts_nil (b9 (tk:=tk+1) st rv .str h) hl
theorem S1
  (h:DT fr A E Rp V x λd V1=>∃y,d=.str y/\(out++y).length<=sizeLine/\DT fr A E Rp V1 (joinParts (out++y) rest) Q):DT fr A E Rp V (joinParts out (x::rest)) Q:=λF Vc own rs rv hp d tk st=>by
 refine joinParts_cons ((h.go (Q':=λv σ1=>match v with| .str y _=>(out++y).length<=sizeLine/\T fr A (joinParts (out++y) rest) E σ1 (PQ fr.mt F rs Rp Q)|_=>False) rv λv F1 c5 aC dd V1 bQ cM r1 ⟨y,ed,hl,q⟩=>?_).bG st λv h' d' cX σ' cI q=>?_)
 .induction v using Zc5 with
  |str y t=>exact⟨q.1,q.2 h' d' cX cI⟩
  |_=>exact q
 .subst ed
  induction r1 using Rp.fj;exact⟨hl,T.lift cM (q F1 c5 aC rs bQ)⟩
theorem ao9 (h:DT fr A E Rp V (eval value fr.e) λd V1=>uY fr A E Rp V1 (λv=>formatField v Str.empty) d Q):DT fr A E Rp V (eval (.FormattedValue value (-1) none pos) fr.e) Q:=λF Vc own rs rv hp d tk st=>
 wpAny_FormattedValue_plain ((h.go (Q':=λv σ1=>T fr A (formatField v Str.empty) E σ1 (PQ fr.mt F rs Rp Q)) rv λv F1 c5 aC dd V1 bQ cM r1 q1=>T.lift cM (q1 v F1 c5 aC rs bQ r1)).bG st λv h' d' cX σ' cI q=>q h' d' cX cI)
theorem VO (ha:a.natAbs.log2<1920)(h:Q (.str (toString a)) V):uY fr A E Rp V (λv=>formatField v Str.empty) (.int a) Q:=λv F Vc own rest rv ra hp d tk st=>by induction ra using Rp.cz;exact wpAny_formatField_int ha (b9 (tk:=tk+1+1) st rv .str h)
theorem VN (ha:a.length<=sizeLine)(h:Q (.str a) V):uY fr A E Rp V (λv=>formatField v Str.empty) (.str a) Q:=λv F Vc own rest rv ra hp d tk st=>by induction ra using Rp.fj;exact wpAny_formatField_str (b9 st rv .str h) (b9 (tk:=tk+1) st rv .str h) ha
theorem aav (hs:s.length<=cap)(h:Q (.int s.length) V):mZ fr A E Rp V (cl (.builtin "len")) [.str s] Q:=fun vs F Vc own rest rv r hp d tk st=>by
 induction r using aK.aZ with
 |cons x r0=>induction r0 using aK.fR;induction x using Rp.fj;exact PySem.P.len_str (by have:=iH hs;simp_all) (b9 (tk:=tk+1+1) st rv .int h)
variable {fr:Fm}{A:aQ}{E:aS}{V V':VS}
end
section
variable {fr:Fm}{A:aQ}{α β δ ε:Type}{E:aS}{V V':VS}{gl gl':dU}
def Zg (w:bZ)(F:ah)(l:uX)(vs:List (ao×ao)):Prop:=∃kvs,Carries (strKind pw w) vs kvs/\kQ F l kvs
theorem O8 (h:Q [] V):DT fr A E (Zg fr.w) V (evalPairs []) Q:=λF Vc own rs rv hp d tk st=>
 evalPairs_nil (af hp d tk _ rfl st (cg rv (.refl _) ⟨[],trivial,.nil⟩ h))
theorem KU
  (h:DT fr A E Rp V (eval e fr.e) λd V1=>DT fr A E (Zg fr.w) V1 (evalPairs rest) λl V2=>Q ((k,d)::l) V2):
  DT fr A E (Zg fr.w) V (evalPairs ((eval (.Constant (.str k) kk p) fr.e,do let x<-eval e fr.e;standAt pos;pure x)::rest)) Q:=λF Vc own rs rv hp d tk st=>by
 refine evalPairs_cons (adB ?_);refine aN (fk (h F Vc own rs rv hp d (tk+1) st) ?_ λz z q=>q);rintro v s ⟨h1,d1,tk1,⟨F1,c5,o1⟩,rfl,qS,d',V1,aC,bQ,e1,cM,r1,q1⟩;have e1:o1=aC++rs:=e1;subst e1;refine aN (xe (cG ?_));refine fk (q1 F1 c5 aC rs bQ h1 d1 tk1 qS) ?_ λz z q=>q;rintro vs s ⟨h2,d2,Fb,⟨F2,jX,o2⟩,rfl,j0,l,V2,bE,ff,e2,fM,⟨kvs,hc,r2⟩,q2⟩;exact(af h2 d2 Fb _ rfl j0 (aV _ V2 bE ff e2 (cM.trans fM) ⟨(k,v)::kvs,⟨rE pw fr.w k _,rfl,hc⟩,.cons (r1.mono fM) r2⟩ q2))
theorem yV
  (agk:(evalEachOpt keys fr.e).zip ((evalEach values fr.e).map λv=>do let x<-v;standAt pos;pure x)=pairs.map λp=>(some p.1,p.2))(h0:pairs≠[])(dg:pairs.length<=15)
  (h:DT fr A E (Zg fr.w) V (evalPairs pairs) λl V1=>(l.map (·.1)).Nodup/\Q (.dict l) V1):Dt fr A (eval (.Dict keys values pos) fr.e) E V Q:=λF Vc own rs rv hp d tk st=>by
 refine wpAny_Dict_pairs (knd:=strKind pw fr.w) agk h0 dg ?_;have K2:=st.bM (c:=.dict [] 0) (Mr hp) rfl;have hn:=g4 st;generalize hp.objs.size=a at K2 hn ⊢;refine fk (T.perm (nS (a:=(a,Cell.dict [] 0)) (l₁:=own) (l₂:=rs)) (h F Vc own ((a,.dict [] 0)::rs) rv) _ d tk K2) ?_ λz z q=>q;rintro vs s ⟨h1,d1,tk1,⟨F1,c5,o1⟩,rfl,qS,l,V1,aC,bQ,e1,cM,⟨kvs,hc,r1⟩,nN,q1⟩;have e1:o1=aC++(a,.dict [] 0)::rs:=e1;subst e1;refine⟨kvs,hc,(pK qS (lz _ (.head _))).1,λh' hm hs=>?_⟩;have hk:(kvs.map (·.1)).Nodup:=by rw[<-r1.keys];exact nN
 simp only[merged_nil_of_nodup _ hk] at hm;refine aq (Di.mp hm) λo ho ok=>xE (yP ok) λmQ Td=>?_;have j0:=qS.chg (wA.app .here aC) hs ho Td;refine(af h' d1 _ ⟨F1,c5,[(a,.dict kvs mQ)]++(aC++rs)⟩ rfl (j0.sub ⟨_,by simpa using nS.symm,fZ _⟩) (aL (.dict l) V1 aC _ bQ rfl cM (.dict r1) (λp hp=>by cases hp with|head=>exact hn|tail z q=>exact aR q) q1))
noncomputable abbrev yK (env:Env)(pos:Pos)(k:aa)(n:Nat)(p:Pos)(e:aD):Sem ao×Sem ao:=(eval (.Constant (.str k) n p) env,do let x<-eval e env;standAt pos;pure x)
theorem O7
  (h:DT fr A E (Zg fr.w) V (evalPairs [yK fr.e pos k1 n1 p1 e1]) λl V1=>(l.map (·.1)).Nodup/\Q (.dict l) V1):
  Dt fr A (eval (.Dict [some (.Constant (.str k1) n1 p1)] [e1] pos) fr.e) E V Q:=yV (pairs:=[yK fr.e pos k1 n1 p1 e1]) (by with_unfolding_all rfl) (OH (yK fr.e pos k1 n1 p1 e1) []) (by simp) h
theorem amG
  (h:DT fr A E (Zg fr.w) V (evalPairs [yK fr.e pos k1 n1 p1 e1]) λl V1=>(l.map (·.1)).Nodup/\Q (.dict l) V1):
  DT fr A E Rp V (eval (.Dict [some (.Constant (.str k1) n1 p1)] [e1] pos) fr.e) Q:=uS (O7 h)
theorem acp
  (h:DT fr A E (Zg fr.w) V (evalPairs [yK fr.e pos k1 n1 p1 e1,yK fr.e pos k2 n2 p2 e2]) λl V1=>(l.map (·.1)).Nodup/\Q (.dict l) V1):
  Dt fr A (eval (.Dict [some (.Constant (.str k1) n1 p1),some (.Constant (.str k2) n2 p2)] [e1,e2] pos) fr.e) E V Q:=yV (pairs:=[yK fr.e pos k1 n1 p1 e1,yK fr.e pos k2 n2 p2 e2]) (by with_unfolding_all rfl) (OH (yK fr.e pos k1 n1 p1 e1) [yK fr.e pos k2 n2 p2 e2]) (SJ.mp rfl) h
theorem amF
  (h:DT fr A E (Zg fr.w) V (evalPairs [yK fr.e pos k1 n1 p1 e1,yK fr.e pos k2 n2 p2 e2]) λl V1=>(l.map (·.1)).Nodup/\Q (.dict l) V1):
  DT fr A E Rp V (eval (.Dict [some (.Constant (.str k1) n1 p1),some (.Constant (.str k2) n2 p2)] [e1,e2] pos) fr.e) Q:=uS (acp h)
theorem aco {e1 e2 e3:aD}
  (h:DT fr A E (Zg fr.w) V (evalPairs [yK fr.e pos k1 n1 p1 e1,yK fr.e pos k2 n2 p2 e2,yK fr.e pos k3 n3 p3 e3]) λl V1=>(l.map (·.1)).Nodup/\Q (.dict l) V1):
  Dt fr A (eval (.Dict [some (.Constant (.str k1) n1 p1),some (.Constant (.str k2) n2 p2),some (.Constant (.str k3) n3 p3)] [e1,e2,e3] pos) fr.e) E V Q:=yV (pairs:=[yK fr.e pos k1 n1 p1 e1,yK fr.e pos k2 n2 p2 e2,yK fr.e pos k3 n3 p3 e3]) (by with_unfolding_all rfl) (OH (yK fr.e pos k1 n1 p1 e1) [yK fr.e pos k2 n2 p2 e2,yK fr.e pos k3 n3 p3 e3]) (SJ.mp rfl) h
theorem amE {e1 e2 e3:aD}
  (h:DT fr A E (Zg fr.w) V (evalPairs [yK fr.e pos k1 n1 p1 e1,yK fr.e pos k2 n2 p2 e2,yK fr.e pos k3 n3 p3 e3]) λl V1=>(l.map (·.1)).Nodup/\Q (.dict l) V1):
  DT fr A E Rp V (eval (.Dict [some (.Constant (.str k1) n1 p1),some (.Constant (.str k2) n2 p2),some (.Constant (.str k3) n3 p3)] [e1,e2,e3] pos) fr.e) Q:=uS (aco h)
theorem ahc (hf:dH fr gl)
  (h:DT fr A E Rp V (eval l fr.e) λk V1=>∃(mk:gm) (f:pU) (es:ZJ) (i:Int),k=.int i/\ia x (mk (.bh es)) V1 f/\(mk=.ow\/mk=.ln)/\Q (d9 es i).isSome (f (mk (.bh es))))
  (hm:autoParam (behindInMarks .In (.Name x px)=false) wu):DT fr A E RB V (isTrue (.Compare l [.In] [.Name x px] pos) fr.e whole) Q:=λF Vc own rs rv=>
 mW (h.go rv λu F1 c5 aC k V1 bQ cM r1 z0=>gR z0 λmk f es i ek c j3 q=>clear% z0;oV bQ c j3 λv bE cs hx f7 ng ff=>dF hf hx (by
  clear hf h hm rv bQ j3 hx;subst ek;induction r1 using Rp.cz with
  | @int t=>
   induction f7 using Ow.WH with
   | @bh a us rl=>
    refine T.conv (Q:=λr σ=>σ=⟨F1,c5,[(a,.bh us)]++(bE++rs)⟩/\r=.bool (d9 us i).isSome) (λhp d tk st=>?_) λr σ' z1=>xA z1 λe er=>clear% z1;by
     subst e er;refine aq (RV.El c.self (.bh rl) ng ff) λoR K3 p4=>⟨⟨F1,c5,oR++rs⟩,λhp st=>st.sub ⟨_,by rw[<-eN];exact p4.append_right rs,fZ _⟩,T.lift cM (IG ?_ _ F1 c5 oR rs K3 .bool)⟩;rcases rl.look i with⟨q1,q2⟩|⟨y,u,e1,e2,ry⟩
     .rw[q2];rw[q1] at q;exact q
     .rw[e2];rw[e1] at q;exact q
    exact xA (AV st (.head _)) λdd lo=>wpAny_in_of (J6 pw fr.w i t) lo dd.mapOf (cZ hp d (tk+1) _ rfl st rfl rfl))) hm
theorem inE {P:gm->pU->ZJ->Int->Prop}(c:ia x (.ow (.bh es)) V1 f)(h:P .ow f es i):
  ∃(mk:gm) (f:pU) (es:ZJ) (j:Int),D.int i=.int j/\ia x (mk (.bh es)) V1 f/\(mk=.ow\/mk=.ln)/\P mk f es j:=(cZ .ow f es i rfl c (.inl rfl) h)
theorem KV (x:aa)(c:Cv x (.ow d) (.fz d) V V')(h:DT fr A E R V' t Q):DT fr A E R V t Q:=λF Vc own rs rv=>by refine bB (rv.ale c) λv o cs a b n p q=>p9 (own:=o++rs) b n (λF' le r=>T.lift le (h F' Vc o rs (q F' le r))) ?_;rw[<-eN];exact p.append_right rs
theorem afp (hh:A.handled=none)(h:Q (.int (if a<b then b else a)) V):mZ fr A E Rp V (cl (.builtin "max")) [.int a,.int b] Q:=fun vs F Vc own rs rv r hp d tk st=>by
 induction r using aK.aZ with
 |cons r1 r=>
  induction r using aK.aZ with
  |cons r2 r=>
   induction r using aK.fR;induction r1 using Rp.cz;induction r2 using Rp.cz;refine max_two_ints hh λh' cX hk=>b9 (tk:=cX) (st.qo hk) rv ?_ h;by_cases q:a<b
   .rw[bg q,bg (show b>a from q)];exact .int
   .rw[aG q,aG (show ¬b>a from q)];exact .int
mutual
noncomputable def eY:D->Dat
 | .none=> .none
 | .int i=> .int i
 | .str s=> .str s
 | .list l=> .list (dK l)
 | .tup l=> .tuple (dK l)
 | .bool _=> .bytes #[]
 | .vec _ _ _=> .bytes #[]
 | .dict _=> .bytes #[]
 | .bh _=> .bytes #[]
 | .cK _=> .bytes #[]
 | .range _ _ _=> .bytes #[]
 | .const _=> .bytes #[]
noncomputable def dK:ak->List Dat
 |[]=>[]
 |d::l=>eY d::dK l
end
theorem jA (l:ak):dK l=l.map eY:=by
 induction l with
 |nil=>rfl
 |cons d l ih=>exact aT (eY d:: ·) ih
def aj (n:Nat)(d:D):Prop:=kqdOk n (eY d)=true
theorem aj.none:aj n .none:=by induction n using O2<;>rfl
theorem aj.int:aj n (.int i):=by induction n using O2<;>rfl
theorem aj.str {s:aa}(h:PyData.strOk s=true):aj n (.str s):=by induction n using O2<;>exact h
theorem aj.list {l:ak}(h:∀d∈l,aj n d):aj (n+1) (.list l):=by show kqdOk (n+1) (.list (dK l))=true;rw[jA,kqdOk,j8];intro x hx;refine aq (bN.mp hx) λd hd z0=>?_;subst z0;exact h d hd
theorem aj.tup {l:ak}(h:∀d∈l,aj n d):aj (n+1) (.tup l):=by show kqdOk (n+1) (.tuple (dK l))=true;rw[jA,kqdOk,j8];intro x hx;refine aq (bN.mp hx) λd hd z0=>?_;subst z0;exact h d hd
theorem aj.TN (h:aj n (.list l)):∃m,n=m+1/\∀d∈l,aj m d:=by
 have h:kqdOk n (.list (dK l))=true:=h;induction n using O2 with
 |zero=>simp[kqdOk] at h
 |succ m=>refine⟨m,rfl,λd hd=>?_⟩;simp only[jA,kqdOk,j8] at h;exact h _ (j9 hd)
theorem aj.acM (h:aj n (.tup l)):∃m,n=m+1/\∀d∈l,aj m d:=by
 have h:kqdOk n (.tuple (dK l))=true:=h;induction n using O2 with
 |zero=>simp[kqdOk] at h
 |succ m=>refine⟨m,rfl,λd hd=>?_⟩;simp only[jA,kqdOk,j8] at h;exact h _ (j9 hd)
theorem aj.bad {P:Prop}(h:aj n d)(e:autoParam (eY d=.bytes #[]) wu):P:=by unfold aj at h;rw[e] at h;induction n using O2<;>exact g5 h
noncomputable def uo:Nat->Dat->D:=Nat.rec (λx=>match x with| .int i=> .int i| .str s=> .str s|_=> .none) λz f x=>match x with| .int i=> .int i| .str s=> .str s| .list l=> .list (l.map f)| .tuple l=> .tup (l.map f)|_=> .none
theorem JC:∀(n k:Nat) {d:D},aj n d->uo (n+k) (eY d)=d:=by
 have all:∀n k,(∀{d:D},aj n d->uo (n+k) (eY d)=d)->∀{l:ak},(∀d∈l,aj n d)->(dK l).map (uo (n+k))=l:=λn k ih l h=>by rw[jA,eL];exact(dZ λd hd=>ih (h d hd)).trans (sF _)
 have step:∀n,(∀m,n=m+1->∀k {d:D},aj m d->uo (m+k) (eY d)=d)->∀k {d:D},aj n d->uo (n+k) (eY d)=d:=λn ih k d=>by
  have hi:∀i:Int,uo (n+k) (.int i)=.int i:=λi=>by cases n+k<;>rfl
  have hs:∀i:aa,uo (n+k) (.str i)=.str i:=λi=>by cases n+k<;>rfl
  have hn:uo (n+k) .none=.none:=by cases n+k<;>rfl
  exact D.casesOn (motive_1:=λd=>aj n d->uo (n+k) (eY d)=d) d (λz=>hn) (λz h=>h.bad) (λi z=>hi i) (λi z=>hs i)
   (λl h=>aq h.TN λm e h=>by rw[e,Nat.succ_add];exact aT D.list (all m k (ih m e k) h)) (λl h=>aq h.acM λm e h=>by rw[e,Nat.succ_add];exact aT D.tup (all m k (ih m e k) h))
   (λz z z h=>h.bad) (λz h=>h.bad) (λz h=>h.bad) (λz z z h=>h.bad) (λz h=>h.bad) (λz h=>h.bad)
 intro n;induction n with
 |zero=>exact step 0 λm h=>nomatch h
 |succ n ih=>exact step (n+1) λm h=>Oz h▸ih
theorem PA (n:Nat){m:Nat}(h1:aj n a)(h2:aj m b)(e:eY a=eY b):a=b:=by rw[<-JC n m h1,e,J9];exact JC m n h2
noncomputable def Su (a b:D):Bool:= @decide (a=b) (Classical.propDecidable _)
theorem qq:Su a b=true↔a=b:=by unfold Su;exact @i7 _ (Classical.propDecidable _)
theorem uw (a:D):Su a a=true:=qq.mpr rfl
noncomputable def ph (x:D)(l:ak):Bool:= @decide (x∈l) (Classical.propDecidable _)
theorem lM:ph x l=true↔x∈l:=by unfold ph;exact @i7 _ (Classical.propDecidable _)
theorem uu {a b:D}(ha:aj n a)(hb:aj m b):PyData.eqv (kqdP (eY a)) (kqdP (eY b))=Su a b:=by rw[qM,qq,kqd_eqv n (eY a) (eY b) m ha hb];exact⟨PA n ha hb,λe=>by rw[e]⟩
theorem RP (l:List Dat):kqdPs l=l.map kqdP:=by
 induction l with
 |nil=>rfl
 |cons d l ih=>simp only[kqdPs,ih,fJ]
theorem fq {Vc own}{hp:Heap}(st:St fr ⟨F,Vc,own⟩ hp):∀(n:Nat) {d:D} {v:ao},aj n d->Rp F d v->∃as,Reads hp v (kqdP (eY d)) as:=by
 have all:∀n,(∀{d:D} {v:ao},aj n d->Rp F d v->∃as,Reads hp v (kqdP (eY d)) as)->∀{l:ak} {vs:bC},(∀d∈l,aj n d)->aK F l vs->∃as,ReadsAll hp vs (kqdPs (dK l)) as:=λn ih l vs h r=>
  aK.ind (motive:=λl vs=>(∀d∈l,aj n d)->∃as,ReadsAll hp vs (kqdPs (dK l)) as) (λz=>iE _ .nil) (λr z hi h=>xE (ih (h _ (.head _)) r) λas q=>xE (hi λe he=>h e (.tail _ he)) λbs p=>iE _ (.cons q p)) r h;have step:∀n,(∀m,n=m+1->∀{d:D} {v:ao},aj m d->Rp F d v->∃as,Reads hp v (kqdP (eY d)) as)->∀{d:D} {v:ao},aj n d->Rp F d v->∃as,Reads hp v (kqdP (eY d)) as:=λn ih d v h r=>
  Rp.casesOn (motive_1:=λd v z=>aj n d->∃as,Reads hp v (kqdP (eY d)) as) r (λz=>iE _ .none) (λh=>h.bad) (λz=>iE _ (.int _ _)) (λz=>iE _ (.str _ _))
   (λe rl z h=>aq h.TN λm q h=>xE (all m (ih m q) h rl) λas q=>gy (st.sees _ _ e) λz o ho ok=>xE ok λk ok=>by rw[ok] at ho;exact iE _ (reads_list_at ho rfl rfl (by simp only[YK];exact q)))
   (λe rl z h=>aq h.acM λm q h=>xE (all m (ih m q) h rl) λas q=>gy (st.sees _ _ e) λz o ho ok=>by rw[show o=_ from ok] at ho;exact iE _ (reads_tuple_at ho rfl rfl (by simp only[YK];exact q)))
   (λz z z z h=>h.bad) (λz z h=>h.bad) (λz z h=>h.bad) (λz h=>h.bad) (λh=>h.bad) (λz z h=>h.bad) h;intro n;induction n with
 |zero=>exact step 0 λm h=>nomatch h
 |succ n ih=>exact step (n+1) λm h=>Oz h▸ih
theorem lF (h:aj n d)(hn:n<=60):SeqAt.shaped (kqdP (eY d))=true:=by have la:=uL n (eY d) h;unfold SeqAt.shaped;rw[la.1,Bool.true_and];exact i6 (aB la.2 (aB hn (by decide)))
theorem cC.u64 (r:cC A n)(hn:7<=n):A.units+64<cLine:=by have:=r.units;omega
theorem FF {n k m:Nat}(room:cC A m)(hm:7<=m)(ha:aj n a)(hb:aj k b)(hn:n<=60)(hk:k<=60)(h:Q (.bool (Su a b)) V):gG fr A E Rp V (compareOp .Eq) a b Q:=λv u F Vc own rs rv ra rb hp d tk st=>by refine xE (fq st n ha ra) λas r1=>xE (fq st k hb rb) λbs r2=>eq_dataH r1 r2 (lF ha hn) (lF hb hk) (room.u64 hm) (b9 (tk:=tk) st rv ?_ h);rw[uu ha hb];exact .bool
theorem afo {n k m:Nat}(room:cC A m)(hm:7<=m)(ha:aj n a)(hb:aj k b)(hn:n<=60)(hk:k<=60)(h:Q (.bool (!Su a b)) V):gG fr A E Rp V (compareOp .NotEq) a b Q:=λv u F Vc own rs rv ra rb hp d tk st=>by refine xE (fq st n ha ra) λas r1=>xE (fq st k hb rb) λbs r2=>ne_dataH r1 r2 (lF ha hn) (lF hb hk) (room.u64 hm) (b9 (tk:=tk) st rv ?_ h);rw[uu ha hb];exact .bool
theorem uI (hl:∀d∈l,aj n d)(hx:aj k x):((kqdPs (dK l)).any λy=>PyData.eqv y (kqdP (eY x)))=ph x l:=by
 rw[qM,lM,RP,jA,EI];constructor
 .intro z2;refine aq z2 λy hy e=>aq (bN.mp hy) λz hz z0=>?_;subst z0
  refine aq (bN.mp hz) λd hd z1=>?_;subst z1;rw[uu (hl d hd) hx,qq] at e;exact e▸hd
 .intro hm
  exact⟨_,j9 (j9 hm),by rw[uu (hl x hm) hx];exact uw x⟩
theorem afw (room:cC A m)(hm:7<=m)(hl:∀d∈l,aj n d)(hx:aj k x)(hn:n<=60)(h:Q (.bool (ph x l)) V):gG fr A E Rp V (compareOp .In) x (.list l) Q:=λv u F Vc own rs rv ra rb hp d tk st=>by
 have hL:=aj.list hl;refine xE (fq st _ hL rb) λas r1=>xE (fq st k hx ra) λbs r2=>?_;have la:=uL _ _ hL;have la1:PyData.canLayAll0 (kqdPs (dK l))=true:=la.1;have la2:(PyData.list (kqdPs (dK l))).depth<=n+1:=la.2;refine SeqAt.in_list_reads r1 r2 la1 (uL _ _ hx).1 ?_ (b9 (tk:=tk) st rv ?_ h)
 .have:=room.u64 hm
  simp only[PyData.depth] at la2;omega
 .rw[uI hl hx];exact .bool
theorem aas (room:cC A m)(hm:7<=m)(hl:∀d∈l,aj n d)(hx:aj k x)(hn:n<=60)(h:Q (.bool (!ph x l)) V):gG fr A E Rp V (compareOp .NotIn) x (.list l) Q:=λv u F Vc own rs rv ra rb hp d tk st=>by
 have hL:=aj.list hl;obtain⟨as,r1⟩:=fq st _ hL rb;obtain⟨bs,r2⟩:=fq st k hx ra;have la:=uL _ _ hL;have la1:PyData.canLayAll0 (kqdPs (dK l))=true:=la.1;have la2:(PyData.list (kqdPs (dK l))).depth<=n+1:=la.2;refine SeqAt.notIn_list_reads r1 r2 la1 (uL _ _ hx).1 ?_ (b9 (tk:=tk) st rv ?_ h)
 .have:=room.u64 hm
  simp only[PyData.depth] at la2;omega
 .rw[uI hl hx];exact .bool
theorem afv (room:cC A m)(hm:7<=m)(hl:∀d∈l,aj n d)(hx:aj k x)(hn:n<=60)(h:Q (.bool (ph x l)) V):gG fr A E Rp V (compareOp .In) x (.tup l) Q:=λv u F Vc own rs rv ra rb hp d tk st=>by
 have hL:=aj.tup hl;refine xE (fq st _ hL rb) λas r1=>xE (fq st k hx ra) λbs r2=>?_;have la:=uL _ _ hL;have la1:PyData.canLayAll0 (kqdPs (dK l))=true:=la.1;have la2:(PyData.tuple (kqdPs (dK l))).depth<=n+1:=la.2;refine SeqAt.in_tuple_reads r1 r2 la1 (uL _ _ hx).1 ?_ (b9 (tk:=tk) st rv ?_ h)
 .have:=room.u64 hm
  simp only[PyData.depth] at la2;omega
 .rw[uI hl hx];exact .bool
theorem Rt (h:Q (.tup l) V):mZ fr A E Rp V (cl (.type "tuple")) [.list l] Q:=fun vs F Vc own rs rv r hp d tk st=>by
 induction r using aK.aZ with
 |cons r1 r=>
  induction r using aK.fR;induction r1 using Rp.listE with
  | @list a us e rl hc=>refine call_tuple_list (cR.is (.inl e) st) (λh' k=>?_) (by rw[g7,rl.len];exact aB hc c9);have cI:=st.qo k;have j0:=cI.bM (c:=.tup us) (o:={cls:=.type "tuple",data:=.seq us.toArray 0}) rfl rfl;refine gb ((λhF=>⟨_,(λb c' e=>(aG (λq=>by subst q;rw[hF] at e;exact aA e):(F.set h'.objs.size (.tup us)) b=F b).trans e),ah.sW ..,j0.freeze (pre:=[]) (g4 cI)⟩:(F h'.objs.size=none)->∃F',Le F F'/\F' h'.objs.size=some (.tup us)/\St fr ⟨F',Vc,own++rs⟩ _) (j0.own _ (.head _)).2.1) λF' le e' yH=>?_;exact(af _ d tk _ rfl yH (cg (rv.mono le) le (.tup e' (rl.mono le) hc) h))
noncomputable def ZT (l:cH):Int:=l.foldl (·+ ·) 0
theorem Rm (l:cH):∀n,n<=l.length->preSum (λi=>l.getD i 0) n=ZT (l.take n):=by
 intro n;induction n with
 |zero=>intro z;rfl
 |succ n ih=>intro h;simp only[preSum,ih (by omega),SN (eW (qO (br _)) h)];unfold ZT;simp only[Yv,Yn,List.foldl_nil,dS,eE (eW (qO (br _)) h)];rfl
theorem VK (hh:A.handled=none){l:cH}(h:Q (.int (ZT l)) V):mZ fr A E Rp V (cl (.builtin "sum")) [.list (l.map .int)] Q:=fun vs F Vc own rs rv r hp d tk st=>by
 induction r using aK.aZ with
 |cons r1 r=>
  induction r using aK.fR;induction r1 using Rp.listE with
  | @list a us e rl hc=>
   have hl:=cR.is (.inl e) st;have jQ:a<hp.objs.size:=by refine aq hl λz e z=>?_;exact g6 e
   refine call_sum_walkG (Ym hl ?_);refine(ua hp.objs.size [hp.objs.size,a] [hp.objs.size] (aL us.toArray.size _ _ (λi=>l.getD i 0) rfl (Walks.list (A:=A.in1) hh _ a (lu jQ) us.toArray) ⟨⟨_,mU _ rfl,rfl,rfl⟩,hl.push _⟩ (λb hb=>?_) (λi v hv=>?_) (λh' cX t' hk=>?_)))
   .show b<(hp.push _).objs.size
    simp only[Dh];simp only[bW,JZ,or_false] at hb;rcases hb with rfl|rfl<;>first|exact OG _|exact BG jQ
   .refine aq (rl.ag1 (by simpa using hv)) λdd h1 h2=>?_
    rw[g9] at h1;induction q:l[i]? using fL with
    |none=>rw[q] at h1;cases h1
    |some x=>
     rw[q] at h1;cases h1;induction h2 using Rp.cz;have e2:l.getD i 0=x:=by rw[dS,q];rfl
     exact⟨_,by show _=Value.int (l.getD i 0) _;rw[e2]⟩
   .have hz:us.toArray.size=l.length:=by rw[g7,rl.len,bw]
    rw[hz,Rm l _ (br _),List.take_length];refine b9 (tk:=cX) (st.qo λb o e=>hk b o (λhm=>?_) (gj _ e)) rv .int h;rcases bW.mp hm with e1|hm
    .exact absurd (e1▸g6 e) (qL _)
    .exact aR hm
end
section
open PySem.SeqAt
open AutoSeq1 (wpAny_loadPart')
noncomputable abbrev nD' (i:Nat):D:=.int i
theorem aiq {α:Type}{t t':Sem α}{Q:α->cO->Prop}(e:t=t')(h:wpAny M A t' Q E s):wpAny M A t Q E s:=e▸h
theorem E6 (l:av)(items:Array ao)(n:Nat)(dd:Option av)(sl:Array nV)(x:ao)(h3:3<=items.size):
  Meets (Builtin.«tuple.index» ⟨[.ref l,x],[]⟩)
   (fun A R s=>s.heap.get? l=some {cls:=.type "tuple",dict:=dd,data:=.seq items n,slots:=sl}/\(∀h:2<items.size,EqAt A.in1 s items[0] x false/\EqAt A.in1 s items[1] x false/\EqAt A.in1 s items[2] x true)/\R (.ok (.ret (.int 2 s.toks))) {s with toks:=s.toks+1}):=
 .of_wp λbu w A R s h=>by
  obtain⟨hp,g,d,tk,os⟩:=s;refine nX h λhl he h=>nX (he (eW (qO (br _)) h3)) λhe0 he1 he2=>?_
  wp_walk using wpAny_loadPart' hl
  refine aiq (t':=forIn [0:items.size] ((none,()):Option PySem.Fin×Unit) (fun(i:Nat) (z:Option PySem.Fin×Unit)=>(match items[i]? with
      |some y=>do
       let c<-eqBool y x
       if c=true then do
         let r<-retInt (i:Int)
         pure (ForInStep.done (some r,()))
        else pure (ForInStep.yield (none,()))
      |_=>pure (ForInStep.yield (none,())):Sem (ForInStep (Option PySem.Fin×Unit))))) ?_ ?_
  .rw[Nat.min_self];rfl
  rw[Std.Legacy.Range.forIn_eq_forIn_range'];have e:List.range' 0 items.size=0::1::2::List.range' 3 (items.size-3):=by refine xE (⟨items.size-3,by exact(fH (Yz h3))⟩:∃m,items.size=m+3) λm hm=>?_;rw[hm];rfl
  have e':List.range' [0:items.size].start [0:items.size].size [0:items.size].step=0::1::2::List.range' 3 (items.size-3):=by rw[<-e];simp[Std.Legacy.Range.size]
  rw[e'];have g0:items[0]? =some items[0]:=by simp
  have g1:items[1]? =some items[1]:=by simp
  have g2:items[2]? =some items[2]:=(Array.getElem?_eq_some_getElem_iff items 2 h3).mpr trivial;rw[OD,g0];refine aN (aN (he0 bu w _ _ ?_));refine cG ?_;show wpAny _ _ (forIn (1::_) _ _) _ _ _;rw[OD,g1];refine aN (aN (he1 bu w _ _ ?_));refine cG ?_;show wpAny _ _ (forIn (2::_) _ _) _ _ _;rw[OD,g2];refine aN (aN (he2 bu w _ _ ?_))
  wp_walk
  exact⟨_,rfl,h⟩
section
variable {fr:Fm}{A:aQ}{E:aS}{V V':VS}{gl gl':dU}
theorem V9:iO "tuple" "index" "tuple.index":=⟨PySem.F.plainAttrs_tuple,aer,rfl⟩
theorem aaO:iO "list" "index" "list.index":=⟨OZ,aen,rfl⟩
theorem Lz (h1:(a==x)=false)(h2:(b==x)=false)(h:Q (.int 2) V):mZ fr A E Rp V (cl (.builtin "tuple.index")) [.tup (.str a:: .str b:: .str x::l),.str x] Q:=fun vs F Vc own rs rv r hp d tk st=>by
 induction r using aK.aZ with
 |cons r1 r=>
  induction r using aK.aZ with
  |cons r2 r=>
   induction r using aK.fR;induction r2 using Rp.fj with
   | @str t=>
    induction r1 using Rp.TU with
    | @tup ad us e rl hc=>
     induction rl using aK.aZ with
     |cons s1 rl=>
      induction rl using aK.aZ with
      |cons s2 rl=>
       induction rl using aK.aZ with
       | @cons _ yF s3 rl=>
        induction s1 using Rp.fj;induction s2 using Rp.fj;cases s3 using Rp.fj;refine gy (st.sees _ _ e) λz o ho ok=>?_;have ok:o=_:=ok;subst ok;refine Bv aer ⟨_,ho,rfl⟩ PySem.F.entry_tuple_index (PySem.F.args_tuple_index_2 _ _)
         (E6 ad _ 0 none #[] (.str x t) (OC ..)) ⟨ho,λq=>⟨?_,?_,?_⟩,b9 (tk:=tk+1) st rv .int h⟩
        .show EqAt _ _ (.str a _) (.str x t) false
         rw[<-h1];exact EqAt.str_str _ _ _ _
        .show EqAt _ _ (.str b _) (.str x t) false
         rw[<-h2];exact EqAt.str_str _ _ _ _
        .show EqAt _ _ (.str x _) (.str x t) true
         rw[<-beq_self_eq_true x];exact EqAt.str_str _ _ _ _
theorem DU {X:Type}[BEq X][LawfulBEq X](g:X->D)(is:ao->Bool){ys:List X}{x:X}(his:∀F y u,Rp F (g y) u->is u=(y==x))(heq:∀F u v y A s,Rp F (g x) v->Rp F (g y) u->EqAt A s u v (is u))
  (hx:x∈ys)(h:Q (nD' (ys.idxOf x)) V):mZ fr A E Rp V (cl (.builtin "list.index")) [.list (ys.map g),g x] Q:=fun vs F Vc own rs rv r hp d tk st=>by
 induction r using aK.aZ with
 |cons r1 r=>
 induction r using aK.aZ with
 |cons r2 r=>
 induction r using aK.fR;induction r1 using Rp.listE with
 | @list ad us e rl hc=>
 refine gy (st.sees _ _ e) λw o ho ok=>xE ok λk ok=>?_;rw[ok] at ho;have w4:us.length=ys.length:=by rw[rl.len,bw]
 have hj:ys.idxOf x<ys.length:=OX.mpr hx;have hc:us.length<=cap:=by rw[w4,<-bw g];exact hc
 have Sa:ys.idxOf x<us.length:=w4▸hj;have B5:∀(m:Nat) (hm:m<us.length),Rp F (g (ys[m]'(w4▸hm))) us[m]:=λm hm=>aq (rl.ag1 (eE hm)) λd q1 q2=>by simp only[g9,eE (w4▸hm)] at q1;rw[mT q1];exact q2
 refine Bv aen ⟨_,ho,rfl⟩ PySem.F.entry_list_index (PySem.F.args_list_index_2 _ _)
  (list_indexAt ad us.toArray k none #[] _ is (ys.idxOf x) Sa (Int.lt_of_lt_of_le (XX.mpr Sa) (Int.le_trans (Int.ofNat_le.mpr hc) (by decide))) ((his _ _ _ (B5 _ Sa)).trans (eH.mpr (YD hj))) λm hm jQ=>(his _ _ _ (B5 m hm)).trans (YU jQ))
  ⟨ho,λy hy=>xE (Kr.mp (Array.mem_def.mp hy)) λi z=>z.elim λhi q=>q▸heq _ _ _ _ _ _ r2 (B5 i hi),b9 (tk:=tk+1) st rv .int h⟩
noncomputable def isS (x:aa):ao->Bool
 | .str s _=>s==x
 |_=>false
theorem DS {ys:ay}{x:aa}{Q:az}(hx:x∈ys)(h:Q (nD' (ys.idxOf x)) V):mZ fr A E Rp V (cl (.builtin "list.index")) [.list (ys.map .str),.str x] Q:=
 DU D.str (isS x) (λF y u r=>by induction r using Rp.fj;rfl) (λF u v y A s r q=>by induction r using Rp.fj;induction q using Rp.fj;exact EqAt.str_str _ _ _ _) hx h
noncomputable def isI (x:Int):ao->Bool
 | .int s _=>s==x
 |_=>false
theorem Rw {ys:cH}{x:Int}{Q:az}(hx:x∈ys)(h:Q (nD' (ys.idxOf x)) V):mZ fr A E Rp V (cl (.builtin "list.index")) [.list (ys.map .int),.int x] Q:=
 DU D.int (isI x) (λF y u r=>by induction r using Rp.cz;rfl) (λF u v y A s r q=>by induction r using Rp.cz;induction q using Rp.cz;exact EqAt.int_int _ _ _ _) hx h
end
end
section
variable {fr:Fm}{A:aQ}{α β δ ε:Type}{E:aS}{V V':VS}{gl gl':dU}
theorem acz {value:aD}{DZ zf:Option aD}{p pos:Pos}{Q:az}
  (h:DT fr A E Rp V (eval value fr.e) λd V1=>DT fr A E Rp V1 (evalPart DZ fr.e) λlo V2=>DT fr A E Rp V2 (evalPart zf fr.e) λhi V3=>∃l a b,d=.list l/\SV lo a/\SV hi b/\(a=none\/b=none)/\Q (.list (DJ l a b)) V3):
  DT fr A E Rp V (eval (.Subscript value (.Slice DZ zf none p) pos) fr.e) Q:=uS (acn h (by intro z z;with_unfolding_all rfl))
theorem Pc (hf:dH fr gl){C7:c7}{pos:Pos}{Q:az}(h:DT fr A E aK V (spliced (backTo pos (starEach C7 fr.e))) λds V1=>ds.length<=cap/\Q (.list ds) V1):DT fr A E Rp V (eval (.List C7 pos) fr.e) Q:=uS (Hi hf h)
end
section
variable {bu:Program}{w:bZ}{A:aQ}{E:aS}{s:cO}
theorem xN {xss:B6}(hu:A.units<cLine)(ho:s.heap.get? a=some (seqObj "list" us.toArray n))(hl:us.length=xss.length)(h5:xss.length<=5)
  (hv:∀i,i<us.length->∃l ws m,us.getD i .none=.ref l/\l≠a/\s.heap.get? l=some {cls:=.type "list",data:=.seq ws.toArray m}/\IntsAre ws (xss.getD i []))
  (h:∀p:bF,p.Perm (List.range us.length)->(p.map (xss.getD · [])).Pairwise (λa b=>l7 b a=false)->P (.done (.ret .none)) {s with heap:=sortedHeap s.heap a us (p.map (us.getD · .none)).toArray}):
  wpAny (model bu w) A (Builtin.«list.sort» ⟨[.ref a],[]⟩) P E s:=by
 have ha:a<s.heap.objs.size:=g6 ho;obtain⟨e1,ho1⟩:∃e1,(s.heap.update a (Obj.mapSeq fun z=>(#[]:Array ao))).get? a=some (seqObj "list" #[] e1):=⟨_,get?_update_seq ho fun z=> #[]⟩;rw[list_sort_plain];refine aN (listItems_at ho rfl ?_);refine aN (XU ho rfl ?_ (by rw[g7,nR];exact aB (fh hl) (aB h5 (by decide))) (jU _));refine aN (XO ho1 rfl ?_);refine aN (wpAny_newTuple ?_ (by show us.length<=_;rw[nR];exact aB (fh hl) (aB h5 (by decide))));refine aN (XW ?_ (jU _));refine wo ?_;have ho6:(((s.heap.update a (Obj.mapSeq fun z=> #[])).push (seqObj "tuple" us.toArray 0)).push (seqObj "list" #[] 0)).get? a=some (seqObj "list" #[] e1):=by rw[EL _ _ _ (by rw[XN,Km];exact lu (BG ha)),EL _ _ _ (by rw[Km];exact lu ha)];exact ho1
 have NO:∀b o,b≠a->s.heap.get? b=some o->(((s.heap.update a (Obj.mapSeq fun z=> #[])).push (seqObj "tuple" us.toArray 0)).push (seqObj "list" #[] 0)).get? b=some o:=fun b o hb e=>by have jQ:=g6 e;rw[EL _ _ _ (by rw[XN,Km];exact lu (BG jQ)),EL _ _ _ (by rw[Km];exact lu jQ),adS _ _ _ _ hb];exact e
 show wpAny (model bu w) A _ P E {s with heap:=((s.heap.update a (Obj.mapSeq fun z=>(#[]:Array ao))).push (seqObj "tuple" us.toArray 0)).push (seqObj "list" #[] 0)};dsimp only;by_cases h2:us.toArray.size<2
 .rw[bg h2,bg h2]
  refine aN (cG ?_);rw[StateT.run_pure];refine aN (cG ?_);dsimp only;refine aN (XO ho6 rfl ?_);refine aN (XU ho6 rfl ?_ (jU _) (by rw[Array.size_map];show(pairsOf us).size<=_;rw[pairsOf_size,nR];exact aB (fh hl) (aB h5 (by decide))));simp only[bne_self_eq_false,BI,if_false];have e:(Array.map (·.2) (arrOf (SortSt.mk' general' (us.toArray.zip us.toArray) #[] 7 none)))=((List.range us.length).map (us.getD · .none)).toArray:=by
   show Array.map (·.2) (pairsOf us)=_;apply Yt.mp;rw[Array.toList_map,pairsOf_toList,List.map_snd_zip (br _)];show us=(List.range us.length).map (us.getD · .none);apply EM;intro i;rw[g9];by_cases hi:i<us.length
   .rw[MG hi,eE hi]
    simp[dS,hi]
   .rw[yt (qN hi),yt (by simp;exact qN hi)];rfl
  have hq:=h (List.range us.length) (.refl _) (by
   have:(List.range us.length)=[]\/(List.range us.length)=[0]:=by
    rw[g7] at h2;have:us.length=0\/us.length=1:=by omega
    rcases this with q|q<;>rw[q]
    .exact .inl rfl
    .exact .inr rfl
   rcases this with q|q<;>rw[q]
   .exact .nil
   .exact OW _ _);rw[<-e] at hq;exact cG hq
 .rw[aG h2,aG h2]
  have h2':2<=us.length:=by rw[g7] at h2;exact qN h2
  have qE:∀v∈us,∃(l:av) (ws:bC) (m:Nat),v=.ref l/\l≠a/\s.heap.get? l=some {cls:=.type "list",data:=.seq ws.toArray m}:=fun v Tg=>by obtain⟨i,hi,rfl⟩:=Kr.mp Tg;refine gw (hv i hi) λl ws m e hn hg z=>?_;rw[dS,eE hi,jV] at e;exact(gE l ws m e hn hg)
  refine aN (kas_kind (T:=.type "list") h2' (fun v Tg=>?_) (by decide) (by decide) ?_)
  .refine i9 (qE v Tg) λl ws m zr3 hn hg=>?_;rw[zr3]
   exact(Looks.ld (NO l _ hn hg)).andThen .now
  have est:SortSt.mk' oneType' (us.toArray.zip us.toArray) #[] 7 none=kas_st oneType' (pairsOf us) (List.toArray (List.range us.length)):=by have e:=kas_range (pairsOf us);rw[pairsOf_size] at e;show SortSt.mk' oneType' (pairsOf us) #[] 7 none=SortSt.mk' oneType' ((List.toArray (List.range us.length)).map (kas_item (pairsOf us))) #[] 7 none;rw[e]
  generalize hs6:({s with heap:=((s.heap.update a (Obj.mapSeq fun z=>(#[]:Array ao))).push (seqObj "tuple" us.toArray 0)).push (seqObj "list" #[] 0)}:cO)=s6;refine nX (RS xss (aB h2' (fh hl)) h5) λuU dQ hpw=>?_;have ask:(kas_sort us.length).kasWp (kas_ask bu w A oneType' us) (λp s'=>p=RT (D3 xss) (kas_sort xss.length)/\s'=s6) s6:=by rw[hl];refine I8 (n:=us.length) (lt:=D3 xss) (λi j C hi hj hc=>?_) _ (by rw[hl];exact uU) ⟨rfl,rfl⟩;refine gw (hv i hi) λl ws m e1' hn1 hg1 hi1=>gw (hv j hj) λl' ws' m' e2' hn2 hg2 hi2=>?_;unfold kas_ask;rw[e1',e2'];subst hs6;exact IJ hu (NO _ _ hn1 hg1) (NO _ _ hn2 hg2) hi1 hi2 hc
  rw[kas_ask_eq] at ask;have run:=kas_runs (E:=E) (Q:=λz cI s'=>∃p:Array Nat,arrOf cI=p.map (kas_item (pairsOf us))/\failedOf cI=none/\p=RT (D3 xss) (kas_sort xss.length)/\s'=s6)
   h2' (Kp (fh hl) (Kp h5 (by decide))) (λp' cI s' a1 a2 a3 a4=>⟨p',a2,a3,a4.1,a4.2⟩) ask;rw[<-est] at run;refine aN (fk run ?_ λz z e=>e);rintro ⟨⟨⟩,cI⟩ s' ⟨p,har,hf,hp,rfl⟩;clear hu ho hv ha ho1 NO h2 h2' qE est uU ask run;subst hs6;have w5:p.toList.length=us.length:=by rw[hp,dQ.length_eq,iU,hl]
  have anO:(arrOf cI).map (·.2)=List.toArray (p.toList.map λi=>us.getD i Value.none):=by apply Yt.mp;rw[har,Array.map_map,Array.toList_map];exact dZ λi z=>by show(kas_item (pairsOf us) i).2=_;rw[kas_item_eq]
  rw[anO];refine aN (XO ho6 rfl ?_);refine aN (XU ho6 rfl ?_ (jU _) (by rw[g7,bw,w5,nR];exact aB (fh hl) (aB h5 (by decide))));rw[hf];simp only[bne_self_eq_false,BI,if_false];exact cG (h p.toList (by rw[hp,hl];exact dQ) (by rw[hp];exact hpw))
end
section
variable {bu:Program}{w:bZ}{K:Type}[DecidableEq K]{knd:PySem.KeyKind bu w K}{A:aQ}{E:aS}{s:cO}
theorem qT (hh:A.handled=none)(hS:nI knd s.heap a L ks)(hL:L.length<=sizeLine)
  (aj4:∀(h':Heap) (d':Drawn) (tk:Nat) (acc:bC),acc.Perm L->(∀b o,s.heap.get? b=some o->h'.get? b=some o)->
   wpAny (model bu w) A.in1 (call (.builtin "list.sort") [.ref h'.objs.size]) (fun z s'=>Q (.ref h'.objs.size) s') E {s with heap:=h'.push (seqObj "list" acc.toArray 0),drawn:=d',toks:=tk}):
  wpAny (model bu w) A (call (.builtin "sorted") [.ref a]) Q E s:=by
 refine aei kind_sorted plain_sorted entry_sorted (args_sorted1 _) ?_;unfold Builtin.«sorted»;refine aN (m:=checkCount "sorted" 1 1 _) (cG ?_);refine aN (Ia (knd:=knd) (A:=A.in1) hh hS λh' d' tk acc hp hk=>?_);refine aN (XW ?_ (by rw[hp.length_eq];exact hL));refine aN (wo (fk (aj4 h' d' tk acc hp hk) (λz s' x=>cG ⟨_,rfl,x⟩) λz z e=>e))
end
theorem RY (h:(PySem.strKind bu w).is k v=true):∃t,v=.str k t:=by
 induction v using Zc5 with
 |str x t=>simp[PySem.strKind,Value.isStrOf] at h;subst h;exact⟨t,rfl⟩
 |_=>simp[PySem.strKind,Value.isStrOf] at h
theorem RZ (h:(intKind bu w).is k v=true):∃t,v=.int k t:=by
 induction v using Zc5 with
 |int x t=>simp[intKind,Value.isInt] at h;subst h;exact⟨t,rfl⟩
 |_=>simp[intKind,Value.isInt] at h
theorem ZV (h:jz (λv k=>(PySem.strKind bu w).is k v=true) L ks):StrsAre L ks:=by
 induction h with
 |nil=>exact .nil
 |cons r z ih=>refine xE (RY r) λt z0=>?_;rw[z0];exact .cons _ _ ih
theorem ints_of (h:jz (λv k=>(intKind bu w).is k v=true) L ks):IntsAre L ks:=by
 induction h with
 |nil=>exact .nil
 |cons r z ih=>refine xE (RZ r) λt z0=>?_;rw[z0];exact .cons _ _ ih
theorem StrsAre.perm (h:StrsAre l ss):∀{m:bC},m.Perm l->∃tt,StrsAre m tt/\tt.Perm ss:=by
 intro m hp;refine⟨m.map PyProof.Rows.strOf,?_,?_⟩
 .exact strsAre_map m λv hv=>h.all v (hp.mem_iff.mp hv)
 .have:=hp.map PyProof.Rows.strOf
  rwa [h.strs] at this
theorem abj (h:IntsAre vs ns):vs.map PyProof.Rows.numOf=ns/\∀v∈vs,∃t,v=.int (PyProof.Rows.numOf v) t:=by
 induction h with
 |nil=>exact⟨rfl,λv hv=>aR hv⟩
 |cons n t r ih=>
  refine⟨by rw[fJ,ih.1];rfl,λv hv=>?_⟩;rcases bW.mp hv with rfl|hv
  .exact⟨t,rfl⟩
  .exact ih.2 v hv
theorem Je:∀(m:bC),(∀v∈m,∃t,v=.int (PyProof.Rows.numOf v) t)->IntsAre m (m.map PyProof.Rows.numOf)
 |[],_=> .nil
 |v::m,h=>by refine xE (h v (.head _)) λt e=>?_;have r:=Je m λu hu=>h u (.tail _ hu);generalize PyProof.Rows.numOf v=n at e ⊢;rw[e];exact .cons _ _ r
theorem IntsAre.perm' (h:IntsAre l ss)(hp:m.Perm l):∃tt,IntsAre m tt/\tt.Perm ss:=by
 refine xA (abj h) λe q=>⟨m.map PyProof.Rows.numOf,Je m λv hv=>q v (hp.mem_iff.mp hv),?_⟩;have:=hp.map PyProof.Rows.numOf
 rwa [e] at this
section
variable {fr:Fm}{A:aQ}{α β δ ε:Type}{E:aS}{V V':VS}{gl gl':dU}
theorem St.Mb {own:cN}{o:Obj}{a:av}(st:St fr ⟨F,Vc,own⟩ h)(k:∀b o,h.get? b=some o->h'.get? b=some o)(hn:h.get? a=none)(hm:mainGlobals<a)(e:h'.get? a=some o)(ok:c.ok fr.w o):
  St fr ⟨F,Vc,(a,c)::own⟩ h'/\a∉fr.mt:=by
 have Th:¬cW h a:=aaF hn;have nl:∀b,cW h b->b≠a:=λb l q=>Th (q▸l);have nB:¬nJ fr.hb a:=λl=>l.elim (λz0=>xE z0 λo e=>Th ⟨o,st.keep _ o e⟩) (λe=>absurd (e▸hm) (by decide));refine⟨(st.qo k).MF (λl=>Th (st.stay l)) nB ?_ (λp hp=>nl _ ?_) (nl _ ?_ ·.symm) (λy c e=>(nl _ ?_ ·.symm)) e ok,λq=>Th (st.Rz _ q)⟩
 .induction q:F a using fL with
  |none=>rfl
  |some c=>refine gy (st.sees _ _ q) λz o e z=>?_;exact absurd ⟨o,e⟩ Th
 .refine b8 (st.own p hp) λz z z o e z=>?_;exact⟨o,e⟩
 .refine aq (st.vars.loc) λm z1 z=>qQ z1 λo z z e z=>?_;exact⟨o,e⟩
 .refine dw ((st.dM y c e).2.2) λov o e z=>?_;exact⟨o,e⟩
theorem St.afJ {own:cN}{h h':Heap}(st:St fr ⟨F,Vc,own⟩ h)(k:∀b o,h.get? b=some o->h'.get? b=some o):mainGlobals<h'.objs.size:=by exact xE (st.mg) λo q=>g6 (k _ _ (st.keep _ o q))
noncomputable abbrev ll (xss:B6):ak:=xss.map λxs=> .list (xs.map .int)
theorem aK.ints:∀{vs:bC},aK F (ys.map .int) vs->IntsAre vs ys:=by
 induction ys with
 |nil=>intro vs h;induction h using aK.fR;exact .nil
 |cons y ys ih=>intro vs h;induction h using aK.aZ with|cons r h=>induction r using Rp.cz;exact .cons _ _ (ih h)
theorem FG (room:cC A n)(hn:1<=n)(h5:xss.length<=5){Q:az}(h:∀bV:B6,bV.Perm xss->bV.Pairwise (fun a b=>l7 b a=false)->Q (.list (ll bV)) V):B7 fr A (cl (.builtin "sorted")) E V [.list (ll xss)] Q:=fun vs F Vc own rs rv r hp d tk st=>by
 induction r using aK.aZ with
 |cons r1 r=>
  induction r using aK.fR;induction r1 using Rp.listE with
  | @list a us e rl hc=>
   have hl:=cR.is (.inl e) st;have w4:us.length=xss.length:=by simp only[rl.len,bw]
   have hu:A.in1.in1.units<cLine:=by have:=room.units;show A.units+1+1<_;omega
   have nc:∀i,i<us.length->∃l ws m,us.getD i .none=.ref l/\F l=some (.list ws)/\hp.get? l=some {cls:=.type "list",data:=.seq ws.toArray m}/\IntsAre ws (xss.getD i []):=fun i hi=>by
    refine aq (rl.ag1 (eE hi)) λdd h1 h2=>?_;rw[g9,eE (eW hi (fh w4))] at h1;cases h1;have eg:us.getD i .none=us[i]:=by rw[dS,eE hi,jV]
    have eg2:xss.getD i []=xss[i]'(adK hi w4):=by rw[dS,eE (eW hi (fh w4)),jV]
    rw[eg,eg2];generalize us[i]=u at h2;induction h2 using Rp.listE with
    | @list l ws e2 rw2 _=>exact xE (cR.obj (.inl e2) st) λm hg=>(kH l ws m rfl e2 hg rw2.ints)
   refine aei kind_sorted plain_sorted entry_sorted (args_sorted1 _) ?_;unfold Builtin.«sorted»;refine aN (m:=checkCount "sorted" 1 1 _) (cG ?_);refine aN (collect_list hl ?_ (by rw[nR];exact aB (fh w4) (aB h5 (by decide))));refine aN (XW ?_ (by rw[nR];exact aB (fh w4) (aB h5 (by decide))));have jm:((hp.push (seqObj "list" #[] 0)).update hp.objs.size (Obj.mapSeq (·++us.toArray))).objs.size=hp.objs.size+1:=by simp only[Km,XN]
   have hoL:(((hp.push (seqObj "list" #[] 0)).update hp.objs.size (Obj.mapSeq (·++us.toArray))).push (seqObj "list" us.toArray 0)).get? (hp.objs.size+1)=some (seqObj "list" us.toArray 0):=by rw[<-jm];exact mU _ rfl
   have keep:∀b o,hp.get? b=some o->(((hp.push (seqObj "list" #[] 0)).update hp.objs.size (Obj.mapSeq (·++us.toArray))).push (seqObj "list" us.toArray 0)).get? b=some o:=fun b o q=>by have jQ:=g6 q;rw[EL _ _ _ (by rw[jm];exact lu (BG jQ)),adS _ _ _ _ (lu jQ),EL _ _ _ (lu jQ)];exact q
   show wpAny _ _ _ _ _ (⟨((hp.push (seqObj "list" #[] 0)).update hp.objs.size (Obj.mapSeq (·++us.toArray))).push (seqObj "list" us.toArray 0), #[],d,tk,fr.os⟩:cO);rw[jm];refine aN (wo (xh X6 ⟨_,hoL,rfl⟩ X7 (xN (xss:=xss) hu hoL w4 h5 (λi hi=>?_) λp ZD hpw=>?_) (X3 _)))
   .exact gw (nc i hi) λl ws m e1 z e2 e3=>(kH l ws m e1 (lu (BG (g6 e2))) (keep _ _ e2) e3)
   .refine xE (sortedAll_at hp us (p.map (us.getD · .none)).toArray) λee he=>xA (st.Mb (c:=.list (p.map (us.getD · .none))) (λb o q=>sortedAll_old (vs:=us) (out:=(p.map (us.getD · .none)).toArray) q) (adX (XS _)) (BG (st.afJ λz z e=>e)) he ⟨ee,rfl⟩) λcI HC=>?_
    refine⟨_,rfl,cG ⟨_,rfl,?_⟩⟩;have hpm:∀i∈p,i<us.length:=λi hi=>dh.mp (ZD.mem_iff.mp hi);have Cn:aK F (ll (p.map (xss.getD · []))) (p.map (us.getD · .none)):=by
     clear hpw ZD he cI HC;induction p with
     |nil=>exact .nil
     |cons i p ih=>
      refine .cons ?_ (ih λj hj=>hpm j (.tail _ hj));have hi:=hpm i (.head _);refine aq (rl.at' (i:=i) (d:=.list ((xss.getD i []).map .int)) (by rw[g9,eE (adK hi w4),dS,eE (eW hi (fh w4))];rfl)) λv h1 h2=>?_;have:us.getD i .none=v:=by rw[dS,h1];rfl
      show Rp F (.list ((xss.getD i []).map .int)) (us.getD i .none);rw[this];exact h2
    have hxr:(List.range us.length).map (xss.getD · [])=xss:=by
     apply EM;intro i;rw[g9,w4];by_cases hi:i<xss.length
     .rw[MG hi,eE hi]
      simp[dS,hi]
     .rw[yt (by simp;exact(qN hi)),yt (by simp_all)];rfl
    have dQ:(p.map (xss.getD · [])).Perm xss:=by
     have:=ZD.map (xss.getD · [])
     rwa [hxr] at this
    exact LB cI HC rv Cn (by simp;rw[ZD.length_eq,iU,w4];have:cap=1048576:=rfl;omega) (h _ dQ hpw)
noncomputable abbrev Z2 {K:Type}[DecidableEq K]{bu:Program}{w:bZ}(knd:PySem.KeyKind bu w K)(L:bC)(ks:List K):Cell:=.obj λo=>∃es ep t,nW knd L ks es ep t o
theorem KJ {K:Type}[DecidableEq K]{knd:PySem.KeyKind pw fr.w K}{Vc:eX}{own:cN}{ks:List K}(hh:A.handled=none)(hl:cR F own l us)
  (hk:jz (fun v k=>knd.is k v=true/\v.scannable=true) us ks)(hn:us.length<=100)(h:∀a L,Q (.ref a) ⟨F,Vc,(a,Z2 knd L (jT ks))::own⟩):T fr A (call (.type "set") [.ref l]) E ⟨F,Vc,own⟩ Q:=fun hp d tk st=>by
 refine Uo (knd:=knd) hh (hl.is st) (by with_reducible assumption) (by rw[g7];unfold scanBound;exact Kp (Kg hn) (by decide)) λh' cX L hS z aki=>?_;refine rH hS λo es ep t ho hO=>?_;exact(af h' d cX _ rfl ((st.Mb (c:=Z2 knd L (jT ks)) aki (adX (br _)) (st.afJ λz z e=>e) ho ⟨es,ep,t,hO⟩).1) (h _ L))
theorem MN (x:T fr A t E ⟨F,Vc,own⟩ Q):T fr A t E ⟨F,Vc,c::own⟩ Q:=
 T.shift (λz st=>st.sub ⟨_,.refl _,Bt _ _⟩) x
theorem wH {own:cN}{hp h':Heap}{acc:bC}{out:Array ao}(st:St fr ⟨F,Vc,own⟩ hp)(hk:∀b o,hp.get? b=some o->h'.get? b=some o):
  St fr ⟨F,Vc,(h'.objs.size,.list out.toList)::own⟩ (sortedHeap (h'.push (seqObj "list" acc.toArray 0)) h'.objs.size acc out)/\h'.objs.size∉fr.mt:=by
 have hn:hp.get? h'.objs.size=none:=by
  induction q:hp.get? h'.objs.size using fL with
  |none=>rfl
  |some o=>exact absurd (g6 (hk _ _ q)) (qL _)
 obtain⟨e,he⟩:=sortedHeap_at (out:=out) (show(h'.push (seqObj "list" acc.toArray 0)).get? h'.objs.size=some (seqObj "list" acc.toArray 0) from mU _ rfl);refine st.Mb (λb o q=>?_) hn (st.afJ hk) he ⟨e,rfl⟩;have jQ:=g6 (hk b o q);rw[sortedHeap_old (lu jQ) (by simp only[Dh];exact BG jQ)];exact gj _ (hk b o q)
theorem G9 {Vc:eX}{Q:yw}(hh:A.handled=none)(hn:ks.length<=60)
  (h:∀b out H6,StrsAre out H6->H6.Perm ks->sortedS H6=true->b∉fr.mt->Q (.ref b) ⟨F,Vc,(b,.list out)::own⟩):T fr A (call (.builtin "sorted") [.ref a]) E ⟨F,Vc,(a,Z2 (PySem.strKind pw fr.w) L ks)::own⟩ Q:=fun hp d tk st=>by
 refine sP (st.cell (.head _)) λo ho es bK=>Hv bK λep t hO=>clear% bK;?_;have hLl:L.length=ks.length:=hO.keys.len;refine qT (knd:=PySem.strKind pw fr.w) hh (Gy o es ep t ho hO) (by rw[hLl,nR];omega) λh' d' cX acc mL hk=>?_;refine aq (StrsAre.perm (ZV hO.keys) mL) λtt hS htt=>?_;have hoL:(h'.push (seqObj "list" acc.toArray 0)).get? h'.objs.size=some (seqObj "list" acc.toArray 0):=mU _ rfl;refine xh X6 ⟨_,hoL,rfl⟩ X7 (list_sort_treeK strKind_oneLt hoL hS.keysOf (λait ais rest e=>keyKind_strs (by rw[<-e];exact hS)) (by rw[mL.length_eq,hLl];omega) λcI a1 a2=>?_) (X3 _);refine gb (sorted_out_str hS a1 a2) λH6 b1 b2 b3=>?_;have K2:St fr ⟨F,Vc,own⟩ hp:=st.sub ⟨_,.refl _,Bt _ _⟩;obtain⟨j0,hm⟩:=wH (acc:=acc) (out:=(arrOf cI).map (·.2)) K2 hk;exact⟨_,rfl,(af _ d' cX _ rfl j0 (h _ _ H6 b1 (b2.trans htt) b3 hm))⟩
theorem Hf {F:ah}{Vc:eX}{own:cN}{Q:yw}(hh:A.handled=none)(hn:ks.length<=60)
  (h:∀b out H6,IntsAre out H6->H6.Perm ks->H6.Pairwise (·<= ·)->b∉fr.mt->Q (.ref b) ⟨F,Vc,(b,.list out)::own⟩):T fr A (call (.builtin "sorted") [.ref a]) E ⟨F,Vc,(a,Z2 (intKind pw fr.w) L ks)::own⟩ Q:=fun hp d tk st=>by
 refine sP (st.cell (.head _)) λo ho es bK=>Hv bK λep t hO=>clear% bK;?_;have hLl:L.length=ks.length:=hO.keys.len;refine qT (knd:=intKind pw fr.w) hh (Gy o es ep t ho hO) (by rw[hLl,nR];omega) λh' d' cX acc mL hk=>?_;refine aq (IntsAre.perm' (ints_of hO.keys) mL) λtt hS htt=>?_;have hoL:(h'.push (seqObj "list" acc.toArray 0)).get? h'.objs.size=some (seqObj "list" acc.toArray 0):=mU _ rfl;refine xh X6 ⟨_,hoL,rfl⟩ X7 (list_sort_tree hoL hS (by rw[mL.length_eq,hLl];omega) λout H6 b1 b2 b3=>?_) (X3 _);have K2:St fr ⟨F,Vc,own⟩ hp:=st.sub ⟨_,.refl _,Bt _ _⟩;obtain⟨j0,hm⟩:=wH (acc:=acc) (out:=out) K2 hk;exact⟨_,rfl,(af _ d' cX _ rfl j0 (h _ _ H6 b1 (b2.trans htt) b3 hm))⟩
theorem TZ (h:StrsAre vs ys):aK F (ys.map .str) vs:=by
 induction h with
 |nil=>exact .nil
 |cons _ _ _ ih=>exact .cons .str ih
theorem WE (h:IntsAre vs ys):aK F (ys.map .int) vs:=by
 induction h with
 |nil=>exact .nil
 |cons _ _ _ ih=>exact .cons .int ih
theorem af8:∀{vs:bC},aK F (ys.map .str) vs->jz (λv k=>(PySem.strKind pw w).is k v=true/\v.scannable=true) vs ys:=by
 induction ys with
 |nil=>intro vs h;induction h using aK.fR;exact .nil
 |cons y ys ih=>intro vs h;induction h using aK.aZ with|cons r h=>induction r using Rp.fj;exact .cons ⟨rE _ _ _ _,rfl⟩ (ih h)
theorem af9:∀{vs:bC},aK F (ys.map .int) vs->jz (λv k=>(intKind pw w).is k v=true/\v.scannable=true) vs ys:=by
 induction ys with
 |nil=>intro vs h;induction h using aK.fR;exact .nil
 |cons y ys ih=>intro vs h;induction h using aK.aZ with|cons r h=>induction r using Rp.cz;exact .cons ⟨J6 _ _ _ _,rfl⟩ (ih h)
theorem KR (hf:dH fr gl)(hh:A.handled=none){p1 p2 p3 p4:Pos}(hg1:Hs ((("sorted":aa),Value.builtin "sorted")) gl)(hg2:Hs ((("set":aa),Value.type "set")) gl)
  (h:DT fr A E Rp V (eval e fr.e) λd V1=>(∃ys:ay,d=.list (ys.map .str)/\ys.length<=60/\∀zs,zs.Perm (jT ys)->sortedS zs=true->Q (.list (zs.map .str)) V1)\/
   (∃ys:cH,d=.list (ys.map .int)/\ys.length<=60/\∀zs:cH,zs.Perm (jT ys)->zs.Pairwise (·<= ·)->Q (.list (zs.map .int)) V1))
  (he1:autoParam (eval (.Call (.Name "sorted" p1) [.Call (.Name "set" p2) [e] [] p3] [] p4) fr.e=(do callWith p4 (<-eval (.Name "sorted" p1) fr.e) [] (backTo p4 (starEach [.Call (.Name "set" p2) [e] [] p3] fr.e)) (backToKw p4 (keywordEach [] fr.e)))) wu)
  (he2:autoParam (eval (.Call (.Name "set" p2) [e] [] p3) fr.e=(do callWith p3 (<-eval (.Name "set" p2) fr.e) [] (backTo p3 (starEach [e] fr.e)) (backToKw p3 (keywordEach [] fr.e)))) wu)
  (hs1:autoParam ((backTo p4 (starEach [.Call (.Name "set" p2) [e] [] p3] fr.e)).any (·.1)=false) wu)(Jj:autoParam ((backTo p3 (starEach [e] fr.e)).any (·.1)=false) wu)
  (Tr:autoParam (starEach [.Call (.Name "set" p2) [e] [] p3] fr.e=(false,eval (.Call (.Name "set" p2) [e] [] p3) fr.e)::starEach [] fr.e) wu)
  (ha2:autoParam (starEach [e] fr.e=(false,eval e fr.e)::starEach [] fr.e) wu):Dt fr A (eval (.Call (.Name "sorted" p1) [.Call (.Name "set" p2) [e] [] p3] [] p4) fr.e) E V Q:=fun F Vc own rs rv=>by
 refine iN (iM hf hg1.mem (bJ hf.cx rfl ?_ hs1)) he1;refine bU ?_ Tr;refine iN (iM hf hg2.mem (bJ hf.cx rfl ?_ Jj)) he2;refine bU ?_ ha2;refine h.go rv λv F1 c5 aC d V1 bQ cM r1 q1=>dP ?_;rcases q1 with⟨ys,rfl,hl,q⟩|⟨ys,rfl,hl,q⟩
 .cases r1 using Rp.listE with
  | @list a us ea rl hc=>
   have w4:us.length=ys.length:=by rw[rl.len,bw]
   refine KJ (knd:=PySem.strKind pw fr.w) hh (.inl ea) (af8 rl) (aB (fh w4) (aB hl (by decide))) λb L=>dP ?_;refine G9 hh (aB (kM ys) hl) λc out H6 h1 h2 h3 hm=>(aL (.list (H6.map .str)) V1 aC [(c,.list out)] bQ rfl cM (.list (TZ h1) ?_) (λp hp=>by cases hp with|head=>exact hm|tail z q=>exact aR q) (q H6 h2 h3));have:=h2.length_eq;have:=kM ys;have:cap=1048576:=rfl;simp;omega
 .cases r1 using Rp.listE with
  | @list a us ea rl hc=>
   have w4:us.length=ys.length:=by rw[rl.len,bw]
   refine KJ (knd:=intKind pw fr.w) hh (.inl ea) (af9 rl) (aB (fh w4) (aB hl (by decide))) λb L=>dP ?_;refine Hf hh (aB (kM ys) hl) λc out H6 h1 h2 h3 hm=>(aL (.list (H6.map .int)) V1 aC [(c,.list out)] bQ rfl cM (.list (WE h1) ?_) (λp hp=>by cases hp with|head=>exact hm|tail z q=>exact aR q) (q H6 h2 h3));have:=h2.length_eq;have:=kM ys;have:cap=1048576:=rfl;simp;omega
end
section
open Builtin Builtin.ObjectAttr
variable {fr:Fm}{A:aQ}{α β δ ε:Type}{E:aS}{V V':VS}{gl gl':dU}
noncomputable abbrev nL:av:=398
theorem Iq (P:aY):findIn (K P) (.ref nL) "__setattr__"=some (some (.builtin "object.__setattr__")):=by kernel_rfl
theorem vf (P:aY):findIn (K P) (.ref nL) "__getattribute__"=some (some (.builtin "BaseException.__getattribute__")):=by kernel_rfl
theorem Rh (P:aY):takerIn (K P) nL "message"=some none:=by kernel_rfl
theorem Ir (P:aY):findIn (K P) (.ref nL) "message"=some none:=by kernel_rfl
theorem Iv (P:aY):(clsIn (K P) nL).any (·.hasDict)=true:=by kernel_rfl
noncomputable def Lr:bC:=[.ref nL,.ref 378,.type "Exception",.type "BaseException",.type "object"]
theorem Nl (P:aY):(clsIn (K P) nL).map (·.mro)=some Lr:=by kernel_rfl
theorem Lq (self:ao):refuseLoop self "__setattr__" Lr=pure ():=by kernel_rfl
def ur (dd:Option av)(o:Obj):Prop:=∃t,o={cls:=.ref nL,dict:=dd,data:=.fields #[.ref t,.none,.none,.none,.bool false,.none]}
def j5 (P:aY)(v:ao)(o:Obj):Prop:=∃es n,o=dictOf es n/\jY P [("message",v)] es
theorem Y9 {F:ah}{Vc:eX}(cx:Cx fr.w fr.hb)
  (h:∀dd,dd∉fr.mt->Q () ⟨F,Vc,(dd,.obj (j5 fr.w.params v))::(e,.obj (ur (some dd)))::own⟩):T fr A (setAttr (.ref e) "message" v) E ⟨F,Vc,(e,.obj (ur none))::own⟩ Q:=fun hp dr tk st=>by
 refine b8 (st.own _ (.head _)) λz z z ox hx VU=>?_;obtain⟨t,hox⟩:=VU;have X:(K fr.w.params).In hp:=cx.K.keeps st.keep;have I:InstAt hp e ox nL none:=⟨hx,by rw[hox],by rw[hox];rfl,by rw[hox];trivial⟩;refine set_plain (s:=⟨hp, #[],dr,tk,fr.os⟩) X I (Iq _) ?_;have SF:=PySem.F.store_object;refine aq (J4.mp (Nl fr.w.params)) λcd hc hm=>?_;have WU:cd.mro=Lr:=hm;have sub:Looks (model pw fr.w) hp (isInstance (.ref e) (.type "object")) true:=I.type.andThen (looks_mroIn X (by unfold mroIn;rw[hc,Option.bind_some,WU,aG (by decide)];rfl));refine YB SF.slot.plain SF.entry (@check_slot (model pw fr.w) _ _ ⟨hp, #[],dr,tk+1,fr.os⟩ "object.__setattr__" "object" "__setattr__" (.ref e) [.str "message" tk,v] [] _ SF.kind SF.split sub (SF.args (.ref e) (.str "message" tk) v) ?_);refine aq (YX.mp (Rh fr.w.params)) λwm ha hr=>?_;have hmr:Looks (model pw fr.w) hp (mroOf (.ref nL)) cd.mro:=(Oh X hc).andThen .now;have L3:Looks (model pw fr.w) hp (storeTaker? wm) none:=by
  clear cx h st hx hox I SF hc hm WU sub ha hmr;induction wm using fL with
  |none=>cases hr;exact .now
  |some a=>
   refine aq (J4.mp hr) λb hb hbb=>(looks_takesIn X hb).andThen ?_;cases b
   .exact .now
   .cases hbb
 simp only[osa_eq,refuse_eq];refine aN (aN (I.type.here (aN (hmr.here ?_))));simp only[WU,Lq];refine cG (aN (I.type.here (aN ((J8 X ha).here (aN (L3.here ?_))))));refine aq (any_some (Iv fr.w.params)) λcd' ju Sf=>?_;refine aN (cG (aN (aN (EH hx ?_))));clear cx I SF hc hm WU sub ha hr hmr L3;subst hox;refine aN ((Oh X ju).here ?_);rw[Sf];refine aN (XQ ?_);have n1:=st.fresh.2.2.1;have hx1:(hp.push {cls:=.type "dict",data:=.dict #[]}).get? e=some {cls:=.ref nL,dict:=none,data:=.fields #[.ref t,.none,.none,.none,.bool false,.none]}:=gj _ hx;have qS:St fr ⟨F,Vc,(hp.objs.size,.obj (Na fr.w.params []))::(e,.obj (ur none))::own⟩ (hp.push {cls:=.type "dict",data:=.dict #[]}):=st.bM (o:={cls:=.type "dict",data:=.dict #[]}) ⟨[],0,rfl,.nil⟩ rfl;have hD1:(hp.push {cls:=.type "dict",data:=.dict #[]}).get? hp.objs.size=some {cls:=.type "dict",data:=.dict #[]}:=mU _ rfl;generalize hp.objs.size=D at qS hD1 n1 ⊢;generalize hp.push {cls:=.type "dict",data:=.dict #[]}=h1 at qS hD1 hx1 ⊢;refine aN (wpAny_update hx1 ?_);have hx2:=mV (λo:Obj=>{o with dict:=some D}) hx1 rfl;have j0:St fr ⟨F,Vc,(D,.obj (Na fr.w.params []))::(e,.obj (ur (some D)))::own⟩ (h1.update e λo=>{o with dict:=some D}):=
  qS.chg (.there .here) (qP ..) hx2 ⟨t,rfl⟩;refine sP (j0.cell (p:=(D,.obj (Na fr.w.params []))) (.head _)) λoD hD2 es0 bK=>aq bK λn0 hes hE=>clear% bK;?_;cases hE;subst hes;generalize h1.update e (λo=>{o with dict:=some D})=h2 at j0 hD2 hx2 ⊢;refine cG (a:=some D) (aN (cG (aN ?_)));unfold nsSet;refine aN (aN (BC (cG (aN (Oo (aN (EH hD2 ?_)))))));dsimp only;refine Yg hD2 ?_;have put:=(jY.nil (P:=fr.w.params)).put (by simp) "message" v (tk+1);have hD3:(h2.update D (Obj.putName "message" (PyData.keyHash fr.w.params "message") (.str "message" (tk+1)) v)).get? D=some (dictOf (putL "message" (PyData.keyHash fr.w.params "message") (.str "message" (tk+1)) v []) (putN "message" [] n0)):=by
  rw[<-rF];exact mV _ hD2 (by rw[rF];rfl)
 refine aN (Ye hD3 (Yc (by simp only[g7,nR,(put).len];show 1<=_;decide)) ?_);exact cG ⟨_,dr,_,_,rfl,j0.chg (c':=.obj (j5 fr.w.params v)) .here (qP ..) hD3 ⟨_,_,rfl,put⟩,h D n1⟩
theorem Iw (P:aY):findIn (K P) (.ref nL) "__getattr__"=some none:=by kernel_rfl
theorem Fo (P:aY):hasDictIn (K P) nL=true:=by kernel_rfl
theorem Xh:builtinKind "BaseException.__getattribute__"=some .slot:=by decide+kernel
theorem Ss:splitId "BaseException.__getattribute__"=some ("BaseException","__getattribute__"):=by decide+kernel
theorem agK {e dd:av}{o2:Obj}{s:cO}(X:(K w.params).In s.heap)(he:s.heap.get? e=some oe)(hc:oe.cls=.ref nL)(hd:oe.dict=some dd)(hn:notCls oe=true)
  (K6:s.heap.get? dd=some o2)(hm:j5 w.params v o2)(hv:handedIn v=true)(h:Q v {s with toks:=s.toks+1}):wpAny (model pw w) A (getAttr (.ref e) "message" aoA) Q E s:=by
 refine dw hm λes n z0 hE=>?_;try clear hm;subst z0
 have I:InstAt s.heap e oe nL (some (dictOf es n)):=⟨he,hc,hn,by rw[hd];exact K6⟩;obtain⟨hh,g,d,t,os⟩:=s;have L0:=I.type (M:=model pw w);have L1:=J8 (M:=model pw w) X (vf _);have L2:=J8 (M:=model pw w) X (Iw _);have hl:lookIn "message" (dictOf es n)=some (some v):=by have:=hE.look "message";show getL "message" es.toArray.toList=_;rw[YK,this];rfl
 have L3:=looks_find (M:=model pw w) X I (findObj_own (Fo _) (Ir _) rfl hl);refine aq (J4.mp (Nl w.params)) λcd hcd hmr=>?_;have sub:Looks (model pw w) hh (isInstance (.ref e) (.type "BaseException")) true:=I.type.andThen (looks_mroIn X (by unfold mroIn;rw[hcd,Option.bind_some,hmr,aG (by decide)];rfl));delta getAttr getAttrBy;refine aN (Oo (wo (aN (L0.at (aN (L1.at ?_))))));dsimp only;delta getAttrByItsOwn hookBefore;refine aN (L2.at ?_);refine aN (wpAny_attempt (wo ?_));unfold callGetattribute;rw[aG (by induction aoA using pR<;>decide)];unfold boundAndCalled;refine aN (cG ?_);have SF:=PySem.F.attr_Exception.ga;refine Bw (YB SF.plain PySem.F.entry_bexc_ga (@check_slot (model pw w) _ _ ⟨hh,g,d,t+1,os⟩ "BaseException.__getattribute__" "BaseException" "__getattribute__" (.ref e) [.str "message" t] [] _ Xh Ss sub (PySem.F.args_bexc_ga (.ref e) (.str "message" t)) ?_));show wpAny _ _ (typeOf (.ref e)>>=fun tp=>find (.ref e) tp "message">>=_) _ _ _;refine aN (L0.at (aN (L3.at ?_)));refine cG ?_;show wpAny _ _ (handedOut v) _ _ _;rw[handedOut_of hv];exact cG h
end
theorem Vq (P:aY):findIn (K P) (.ref nL) "__init__"=some (some (.ref 395)):=by kernel_rfl
theorem Iu (P:aY):typeIn (K P) (.ref 395)=some (.type "function"):=by kernel_rfl
noncomputable def Xm (P:aY):List DictEntry:=[⟨PyData.keyHash P Cm,(.str Cm 678),(.str zE 669)⟩,⟨PyData.keyHash P Ck,(.str Ck 682),(.int 364 681)⟩,⟨PyData.keyHash P Cj,(.str Cj 683),(.ref 376)⟩,⟨PyData.keyHash P Ij,(.str Ij 685),(.ref 379)⟩,⟨PyData.keyHash P s2,(.str s2 686),.none⟩]
theorem ant (P:aY):(K P).lookup 377=some ⟨.type "dict",none,.dict (Xm P).toArray 3, #[]⟩:=by kernel_rfl
noncomputable def alk:ClassData:=⟨oq,[(.type "Exception")],[(.ref 378),(.type "Exception"),(.type "BaseException"),(.type "object")],377,oq,true,[],[(.ref 398)],false,none,false⟩
noncomputable def aiJ:Array nV:= #[(some (.ref 369)),none,(some (.str oq 671)),(some (.str oq 679)),(some (.builtin "Exception.__new__")),(some (.bool true))]
theorem ans (P:aY):(K P).lookup 378=some {cls:=.type "type",dict:=none,data:=.cls alk,slots:=aiJ}:=by kernel_rfl
theorem aji (X:(K P).In h):∃m,h.Ns 377 m/\m "__init__"=none:=by
 refine⟨λn=>nsFind (Xm P).toArray n,(kH _ _ _ (X _ _ (ant P)) rfl ?_ (λz=>rfl)),?_⟩
 .intro e he
  simp[Xm] at he;rcases he with rfl|rfl|rfl|rfl|rfl<;>exact(Tf _ _ rfl)
 .kernel_rfl
noncomputable def mD:Obj:=excClassObj ve ve 398 397 [.ref 378] [.ref 378,.type "Exception",.type "BaseException",.type "object"] true [] [] false none none (some (.ref 382)) none (some (.str ve 691)) (some (.str ve 699)) (some (.bool true)) "Exception.__new__"
theorem abd (P:aY):(K P).lookup 398=some mD:=by kernel_rfl
theorem Vp (X:(K P).In h):OwnTail h [.type "Exception",.type "BaseException",.type "object"] [.ref 378,.type "Exception",.type "BaseException",.type "object"]:=by exact aq (aji X) λm hm hi=> .own (X _ _ (ans P)) hm hi .base
section
variable {w:bZ}{A:aQ}{E:aS}{h:Heap}{g:Array GenState}{d:Drawn}{t:Nat}{os:OsState}
theorem Co (X:(K w.params).In h)(WN:rest.length<=sizeLine)
  (hq:wpAny (model pw w) A (call (.ref 395) (.ref (h.objs.size+1)::rest)) (fun r s'=>r=.none/\Q (.done (.ret (.ref (h.objs.size+1)))) s') E ⟨(h.push {cls:=.type "tuple",data:=.seq rest.toArray}).push {cls:=.ref 398,data:=.fields #[.ref h.objs.size,.none,.none,.none,.bool false,.none]},g,d,t,os⟩):
  wpAny (model pw w) A (Builtin.«type.__call__» ⟨.ref 398::rest,[]⟩) Q E ⟨h,g,d,t,os⟩:=by
 have hC:h.get? 398=some mD:=X _ _ (abd _);have T:=Vp X;have F:=PySem.F.excBase_Exception;unfold mD at hC
 repeat (first|with_reducible refine Kl hC ?_|with_reducible refine wpAny_madeBy_exc hC ?_|wp_step)
 refine codeAny_call_builtin_code (YC _ F.quiet) (wpAny_check_new_subT F T hC ?_);refine codeAny_exc_new_subT F T hC ?_ WN;have akJ:=gj {cls:=.ref 398,data:=.fields #[.ref h.objs.size,.none,.none,.none,.bool false,.none]} (gj {cls:=.type "tuple",data:=.seq rest.toArray} hC);have alB:(K w.params).In ((h.push {cls:=.type "tuple",data:=.seq rest.toArray}).push {cls:=.ref 398,data:=.fields #[.ref h.objs.size,.none,.none,.none,.bool false,.none]}):=X.keeps fun b o e=>gj _ (gj _ e);have agt:((h.push {cls:=.type "tuple",data:=.seq rest.toArray}).push {cls:=.ref 398,data:=.fields #[.ref h.objs.size,.none,.none,.none,.bool false,.none]}).get? (h.objs.size+1)=some {cls:=.ref 398,data:=.fields #[.ref h.objs.size,.none,.none,.none,.bool false,.none]}:=by heap_get
 have hcC:(Value.ref 398::[Value.ref 378,.type "Exception",.type "BaseException",.type "object"]).contains (.ref 398)=true:=List.elem_cons_self;unfold isInstance
 repeat (first|with_reducible refine Kl agt ?_|(with_reducible refine adD akJ ?_;rw[hcC])|wp_step)
 refine(J8 (M:=model pw w) alB (Vq _)).at (wo (aN ?_));unfold bindSpecial;refine aN ((looks_typeIn alB (Iu _)).at ?_);refine cG (aN (fk hq (λr s' hr=>?_) λz z x=>x));refine xA hr λz0 hQ=>clear% hr;?_;rw[z0]
 wp_walk
 exact hQ
theorem Vr (X:(K w.params).In h)(WN:rest.length<=sizeLine)
  (hq:wpAny (model pw w) (A.under (.builtin "type.__call__" ⟨.ref 398::rest,[]⟩)) (call (.ref 395) (.ref (h.objs.size+1)::rest)) (fun r s'=>r=.none/\Q (.ref (h.objs.size+1)) s') E ⟨(h.push {cls:=.type "tuple",data:=.seq rest.toArray}).push {cls:=.ref 398,data:=.fields #[.ref h.objs.size,.none,.none,.none,.bool false,.none]},g,d,t,os⟩):
  wpAny (model pw w) A (call (.ref 398) rest) Q E ⟨h,g,d,t,os⟩:=by
 have f1:=tc_lookup;have f2:=tc_bind (.ref 398);have hC:h.get? 398=some mD:=X _ _ (abd _);unfold mD at hC;have hT:(⟨h,g,d,t,os⟩:cO).TypeIs (.ref 398) "type":=⟨_,hC,rfl⟩;refine Bw (OA ?_);show wpAny _ _ (callAny (.ref 398) _) _ _ _
 repeat (any_goals (first|assumption|with_reducible refine Kl hC ?_|wp_step))
 refine⟨rfl,?_⟩;exact codeAny_call_builtin_at (YC _ (by decide+kernel)) entry_typeCall (wpAny_check_type_call_sub hC (Co X WN hq))
end
section
variable {fr:Fm}{A:aQ}{E:aS}
theorem SQ {fr:Fm}{x:av}{m:ao}(hf:dH fr []):T fr A (execs (mB 56 0) fr.e) E ⟨F,[("self",some (.ref x)),("message",some m)],[(x,.obj (ur none))]⟩ (fun fl σ=>fl=.next/\∃dd,dd∉fr.mt/\σ=⟨F,[("self",some (.ref x)),("message",some m)],[(dd,.obj (j5 fr.w.params m)),(x,.obj (ur (some dd)))]⟩):=by refine BQ (ZY:=_) (rest:=_) (by rfl) (bq (dc (dF hf (v:=m) (Dk rfl) (dF hf (v:=.ref x) (Dk rfl) (Y9 (own:=[]) hf.cx λdd K6=>?_))) (by with_unfolding_all rfl)));exact gM ⟨rfl,dd,K6,rfl⟩
theorem SR (cx:Cx fr.w fr.hb)(room:cC A (n+2))
  (h:∀e dd,Q (.ref e) ⟨F,Vc,(dd,.obj (j5 fr.w.params m))::(e,.obj (ur (some dd)))::own⟩):T fr A (call (.ref 398) [m]) E ⟨F,Vc,own⟩ Q:=λhp dr tk st=>by
 have X:(K fr.w.params).In hp:=cx.K.keeps st.keep;refine Vr X (by rw[nR];simp) ?_;have qS:St fr ⟨F,Vc,(hp.objs.size,.tup [m])::own⟩ (hp.push {cls:=.type "tuple",data:=.seq [m].toArray}):=st.bM rfl rfl;have j0:=qS.bM (c:=.obj (ur none)) (o:={cls:=.ref 398,data:=.fields #[.ref hp.objs.size,.none,.none,.none,.bool false,.none]}) ⟨hp.objs.size,rfl⟩ rfl;rw[Dh] at j0;have yH:St fr ⟨F,Vc,(hp.objs.size+1,.obj (ur none))::own⟩ _:=j0.sub ⟨_,.refl _,List.Sublist.cons_cons _ (Bt _ _)⟩;generalize hp.objs.size+1=e at yH ⊢;refine fk (yU (n:=n) (om:=[(e,.obj (ur none))]) (rest:=own) (va:=[.ref e,m]) (P:=λv F' wO=>v=.none/\F'=F/\∃dd,wO=[(dd,.obj (j5 fr.w.params m)),(e,.obj (ur (some dd)))])
  (Q:=λv σ=>v=.none/\∃dd,σ=⟨F,Vc,(dd,.obj (j5 fr.w.params m))::(e,.obj (ur (some dd)))::own⟩)
  lZ cx (zH room _ _) rfl (lZ.bind _ [.ref e,m] rfl) (λaP hF hW cx' e1 e2 e3=>by refine(SQ hF).mono λfl σ z0=>gy z0 λe4 dd z e5=>?_;rw[e4,e5];exact⟨rfl,rfl,dd,by rw[e1]⟩)
  (λv F' wO le z z1=>ZN z1 λe1 e2 dd e3=>by rw[e1,e2,e3];exact⟨rfl,dd,rfl⟩) _ dr tk yH) (λv s' z2=>gR z2 λh' d' cX σ' e1 cI e2 bK=>xE bK λdd e3=>clear% bK;clear% z2;?_) λz z x=>x;subst e2 e3;exact(iA rfl (af h' d' cX _ e1 cI (h e dd)))
end
def MU (l:List Env)(h:Heap):Prop:=∀env∈l,env.scope.kind≠.module/\∃L o,env.frame=some L/\h.get? L=some o/\∀vs,o.data≠.fields vs
noncomputable def noH (h:Heap):Heap:={h with objs:= #[]}
theorem aaG (h:Heap)(a:av):(noH h).get? a=none:=by
 induction q:(noH h).get? a using fL with
 |none=>rfl
 |some o=>exact absurd (g6 q) (by show ¬a<0;exact Yk _)
theorem MU.fun (x:MU l h):h.FunFrames (noH h) l:=by
 induction l with
 |nil=>trivial
 |cons env l ih=>exact u0 (x env (.head _)) λh1 L o h2 h3 h4=>⟨h1,(pG L o h2 (aaG _ _) h3 h4),ih λe he=>x e (.tail _ he)⟩
structure yz (h₁:Heap) (fs:cP) (e dd:av) (fl:nV) (h:Heap):Prop where
 keep:∀b o,b∉fs->b≠e->h₁.get? b=some o->h.get? b=some o
 slots:∀b o,h₁.get? b=some o->b≠e->∃sl,h.get? b=some {o with slots:=sl}
 exc:∃oe vs,h.get? e=some oe/\oe.cls=.ref nL/\oe.dict=some dd/\oe.data=.fields vs/\1<vs.size/\(match fl with
  |none=>vs[1]? =some .none
  |some f=>∃T oT ts,vs[1]? =some (.ref T)/\h₁.get? T=none/\T≠e/\h.get? T=some oT/\oT.data=.fields ts/\ts[3]? =some f)
 live:∃o,h₁.get? e=some o
 nfs:e∉fs
theorem yz.frames (x:yz h₁ fs e dd fl h)(hl:MU l h₁)(hs:∀env∈l,∀L,env.frame=some L->L∈fs):MU l h:=λenv he=>by exact u0 (hl env he) λh1 L o h2 h3 h4=>xE (x.slots L o h3 (λq=>x.nfs (q▸hs env he L h2))) λsl h5=>(Gz h1 L _ h2 h5 h4)
section
variable {M:Model}{A:aQ}{E:aS}{s:cO}
theorem yz.put {e dd:av}{f:ao}(x:yz h₁ fs e dd (some f) h)(z:ao){R:Prop}(k:∀oe vs T oT ts,h.get? e=some oe->oe.data=.fields vs->vs[1]? =some (.ref T)->h.get? T=some oT->oT.data=.fields ts->3<ts.size->ts[3]? =some f->yz h₁ fs e dd (some z) (h.update T (Obj.mapFields (·.setIfInBounds 3 z)))->R):R:=by
 refine f9 (x.exc) λoe vs he hc hd hv jm bK=>Dw bK λT oT ts h1 hT jr hg ZG h3=>clear% bK;?_;have other:∀b,b≠T->(h.update T (Obj.mapFields (·.setIfInBounds 3 z))).get? b=h.get? b:=λb hb=>Ku _ _ (lq hb);have nT:∀b o,h₁.get? b=some o->b≠T:=λb o e q=>by rw[q,hT] at e;exact aA e
 have aj0:3<ts.size:=(aeo.mp h3).1;refine k oe vs T oT ts he hv h1 hg ZG aj0 h3 ⟨λb o hb hbe e=>(other b (nT b o e)).trans (x.keep b o hb hbe e),λb o e hbe=>?_,⟨oe,vs,(other e (lq jr)).trans he,hc,hd,hv,jm,T,_,_,h1,hT,jr,mV _ hg (ad2 (YA ZG _)),YA ZG _,by exact aew aj0⟩,x.live,x.nfs⟩;exact xE (x.slots b o e hbe) λsl e'=>⟨sl,(other b (nT b o e)).trans e'⟩
theorem HG (x:yz h₁ fs e dd (some f) s.heap)(k:∀h',yz h₁ fs e dd (some (f'.elim .none λa=>rawInt a)) h'->Q () {s with heap:=h'}):
  wpAny M A (setFlight (.ref e) f') Q E s:=
 x.put (f'.elim .none λa=>rawInt a) λoe vs T oT ts he hv h1 hg ZG h3 z x'=>by unfold setFlight;refine aN (Bx he hv h1 ?_);exact uN hg ZG h3 (k _ x')
def NF2 (L:av)(env:Env)(e head:ao)(b:Bool):Sem Unit:=do let a<-frameOf env;let pl<-entryPlaceOf L b;let b<-EntryCells.newEntry head a .none (rawInt L) .none pl;setField e 1 b
def NF1 (L:av)(env:Env)(e head:ao):Sem Unit:=do
 if head !=.none then
  if(<-field head 3)==rawInt L then return
  setField head 3 .none
 NF2 L env e head (head !=.none)
theorem M0 {env:Env}{head:ao}(AI:A.frames=some (env::aJ))(hl:MU (env::aJ) h₁)(hs:∀en∈env::aJ,∀L,en.frame=some L->L∈fs)(hf:env.frame=some L)
  (Ti:∀L∈fs,∃o,h₁.get? L=some o)(x:yz h₁ fs e dd fl s.heap)(k:∀h',yz h₁ fs e dd (some (rawInt L)) h'->Q () {s with heap:=h'}):
  wpAny M A (NF2 L env (.ref e) head amk) Q E s:=by
 unfold NF2;have hF:=(x.frames hl hs).fun;refine aN (wpAny_frameOf_fun AI hF hf λg AF=>?_);refine aN (wpAny_entryPlaceOf λpl w5=>?_);delta EntryCells.newEntry newFields;refine aN (G4 ?_ (w5.sizeOk5 _ _ _ _ _));refine f9 (x.exc) λoe vs he hc hd hv jm z=>?_;have gh:∀b,b∈(env::aJ).filterMap (·.frame)->b∈fs:=λb hb=>by exact aq (EO.mp hb) λen he hb=>hs en he b hb
 have abv:e∉(env::aJ).filterMap (·.frame):=λhm=>x.nfs (gh e hm);have Jq:g.get? e=some oe:=(AF.2.1 e abv).trans he;generalize hTB:({cls:=.type "traceback",dict:=none,data:=.fields ([head,.ref L,.none,rawInt L,.none]++(if pl.isEmpty then List.replicate 6 Value.none else pl)).toArray}:Obj)=tb;have Jp:=gj (h:=g) tb Jq;refine uN Jp hv jm (k _ ?_);have hTe:g.objs.size≠e:=rG (g6 Jq);have Jr:=YA hv (·.setIfInBounds 1 (Value.ref g.objs.size));have NY:=mV (Obj.mapFields (·.setIfInBounds 1 (Value.ref g.objs.size))) Jp (ad2 Jr);have W7:=(Ku (g.push tb) (Obj.mapFields (·.setIfInBounds 1 (Value.ref g.objs.size))) (lq hTe)).trans (mU g (by clear AI hl hs hf Ti x k hF AF w5 he hc hd hv jm gh abv Jq Jp hTe Jr NY;subst hTB;rfl));have aam:∀b o,b≠e->g.get? b=some o->((g.push tb).update e (Obj.mapFields (·.setIfInBounds 1 (Value.ref g.objs.size)))).get? b=some o:=λb o hb q=>by rw[Ku _ _ (lq hb)];exact gj _ q
 have lv:∀b o,h₁.get? b=some o->∃o',g.get? b=some o':=λb o q=>by
  clear AI hl hs hf Ti k hF w5 he hc hd hv jm gh abv hTB Jp hTe Jr NY W7 aam;by_cases hb:b=e
  .clear x AF q;rw[hb];exact⟨_,Jq⟩
  .exact xE (x.slots b o q hb) λsl q'=>xE (AF.2.2 b _ q') λsl' q''=>⟨_,q''⟩
 refine⟨λb o hb hbe q=>aam b o hbe ((AF.2.1 b λhm=>hb (gh b hm)).trans (x.keep b o hb hbe q)),λb o q hbe=>?_,?_,x.live,x.nfs⟩
 .exact xE (x.slots b o q hbe) λsl q'=>xE (AF.2.2 b _ q') λsl' q''=>⟨sl',aam b _ hbe q''⟩
 .refine⟨_,_,NY,(Obj.cls_mapFields _ _).trans hc,?_,Jr,by simp[jm],g.objs.size,tb,_,by exact aew jm,?_,hTe,W7,by subst hTB;rfl,?_⟩
  .rw[show(Obj.mapFields (λx=>x.setIfInBounds 1 (Value.ref g.objs.size)) oe).dict=oe.dict from by unfold Obj.mapFields;split<;>rfl]
   exact hd
  .induction q:h₁.get? g.objs.size using fL with
   |none=>rfl
   |some o=>obtain⟨o',q'⟩:=lv _ o q;exact absurd (g6 q') (qL _)
  .clear AI hl hs hf Ti x k hF AF he hc hd hv jm gh abv Jq hTB Jp hTe Jr NY W7 aam lv;rcases w5 with rfl|⟨_,_,_,_,_,_,_,rfl⟩<;>simp
theorem aeP {env:Env}{fl:nV}(AI:A.frames=some (env::aJ))(hl:MU (env::aJ) h₁)(hs:∀en∈env::aJ,∀L,en.frame=some L->L∈fs)(hf:env.frame=some L)
  (Ti:∀L∈fs,∃o,h₁.get? L=some o)(HD:fl=none\/fl=some .none\/fl=some (rawInt L))(x:yz h₁ fs e dd fl s.heap)(k:∀h',yz h₁ fs e dd (some (rawInt L)) h'->Q () {s with heap:=h'}):
  wpAny M A (noteFrame (.ref e) env) Q E s:=by
 have e0:noteFrame (.ref e) env=field (.ref e) 1>>=NF1 L env (.ref e):=by unfold noteFrame;rw[hf];rfl
 rw[e0];rcases HD with rfl|rfl|rfl
 .exact f9 (x.exc) λoe vs he hc hd hv jm h1=>aN (Bx he hv h1 (M0 AI hl hs hf Ti x k))
 .exact x.put .none λoe vs T oT ts he hv h1 hg ZG h3 e3 x'=>aN (Bx he hv h1 (aN (Bx hg ZG e3 (aN (uN hg ZG h3 (M0 (s:={s with heap:=s.heap.update T (Obj.mapFields (·.setIfInBounds 3 Value.none))}) AI hl hs hf Ti x' k))))))
 .refine x.put .none λoe vs T oT ts he hv h1 hg ZG h3 e3 x'=>aN (Bx he hv h1 (aN (Bx hg ZG e3 ?_)))
  rw[bg (show(rawInt L==rawInt L)=true from by exact BEq.rfl ..)];exact cG (k _ x)
end
noncomputable def MD (l:List Env):cP:=l.filterMap (·.frame)
theorem Bo (he:en∈l)(hf:en.frame=some L):L∈MD l:=EO.mpr ⟨en,he,hf⟩
structure wz (fr:Fm) (A:aQ) (aJ:List Env):Prop where
 frames:A.frames=some (fr.e::aJ)
 frame:fr.e.frame=some fr.e.locals
 out:∀env∈aJ,env.scope.kind≠.module/\∃L o,env.frame=some L/\fr.h₀.get? L=some o/\(∀vs,o.data≠.fields vs)/\fr.F₀ L=none/\L∉fr.mt/\¬cW fr.hb L
theorem wz.at (x:wz fr A aJ)(st:St fr σ h):∀env∈aJ,env.scope.kind≠.module/\∃L o,env.frame=some L/\h.get? L=some o/\(∀vs,o.data≠.fields vs)/\σ.F L=none/\cW fr.h₀ L/\L∉fr.mt/\¬cW fr.hb L:=λenv he=>by
 refine u0 (x.out env he) λh1 L o h2 h3 bK=>kU bK λh4 h5 h6 h7=>clear% bK;?_;refine aq (st.ext L o h6 h3) λo' e' q=>?_;have:o'=o:=by
  rcases q with q|⟨k,i,t,q⟩
  .exact q
  .rw[h5] at q;exact aA q
 clear x he q;subst this;exact(Gz h1 L o' h2 e' (iAA h4 ((st.gr.old L ⟨_,h3⟩).trans h5) (iAA ⟨_,h3⟩ h6 h7)))
theorem wz.ok (x:wz fr A aJ)(st:St fr σ h):MU (fr.e::aJ) h:=λenv he=>by
 rcases bW.mp he with rfl|he
 .refine aq (st.vars.loc) λm z0 z=>i9 z0 λo es ep ho hd z=>?_
  exact(Gz (by rw[st.env.kind];decide) _ o x.frame ho (λvs q=>by rw[hd] at q;cases q))
 .refine u0 (x.at st env he) λh1 L o h2 h3 bK=>xA bK λh4 z=>clear% bK;?_
  exact(Gz h1 L o h2 h3 h4)
structure alH (fr:Fm) (aJ:List Env) (σ:S) (h₁:Heap) (fs:cP):Prop where
 all:∀L∈fs,σ.F L=none/\¬cW fr.hb L/\(L∈MD aJ\/¬cW fr.h₀ L/\L∉fr.mt)/\(∃o,h₁.get? L=some o)/\(∀p∈σ.own,p.1≠L)/\(∀y c,fr.e.cells.lookup y=some c->c≠L)
 has:∀L∈MD (fr.e::aJ),L∈fs
theorem wz.fs (x:wz fr A aJ)(hw:iL fr)(st:St fr σ h):alH fr aJ σ h (MD (fr.e::aJ)):=by
 refine⟨λL hL=>?_,λL hL=>hL⟩;refine aq (EO.mp hL) λenv he hf=>?_;rcases bW.mp he with rfl|he
 .rw[x.frame] at hf;clear x hL he;cases hf
  refine aq (st.vars.loc) λm z0 w=>i9 z0 λo es ep ho hd w=>clear% z0;?_;exact⟨st.fY.1,fun q=>(hw "").lo.1 (st.kb _ q),.inr (hw "").lo,⟨o,ho⟩,st.fY.2,fun y c e=>st.env.ne y c e⟩
 .refine u0 (x.at st env he) λh1 L' o h2 h3 bK=>jl bK λh4 h5 h6 h7 h8=>clear% bK;?_
  rw[h2] at hf;cases hf;refine⟨h5,h8,.inl (Bo he h2),⟨o,h3⟩,λp hp q=>?_,λy c e q=>?_⟩
  .rcases (st.own p hp).1 with z|z
   .exact z (q▸h6)
   .exact h7 (q▸z)
  .exact((hw y).wr c e).1 (q▸h6)
structure Y4 (fr:Fm) (aJ:List Env) (m:aa) (σ:S) (e dd:av) (fl:nV) (h₁ h:Heap) (fs:cP):Prop where
 st:St fr σ h₁
 So:alH fr aJ σ h₁ fs
 ex:yz h₁ fs e dd fl h
 flk:fl=none\/fl=some .none\/fl=some (rawInt fr.e.locals)
 en:σ.F e=none/\¬cW fr.hb e/\¬cW fr.h₀ e/\e∉fr.mt/\(∀p∈σ.own,p.1≠e)/\e≠fr.e.locals/\∀y c,fr.e.cells.lookup y=some c->c≠e
 msg:∃o t,h₁.get? dd=some o/\j5 fr.w.params (.str m t) o
 ddn:dd∉fs/\dd≠e/\σ.F dd=none/\¬nJ fr.hb dd/\¬cW fr.h₀ dd/\dd∉fr.mt/\(∀p∈σ.own,p.1≠dd)/\dd≠fr.e.locals/\∀y c,fr.e.cells.lookup y=some c->c≠dd
 nB:¬nJ fr.hb e
def XEc (fr:Fm)(aJ:List Env)(m:aa)(wC:S):aS:=λev s=>∃e dd fl F' h₁ h d tk fs,ev=.ref e/\s=⟨h, #[],d,tk,fr.os⟩/\Le wC.F F'/\Y4 fr aJ m ⟨F',wC.V,wC.own⟩ e dd fl h₁ h fs
def XE (fr:Fm)(aJ:List Env)(m:aa):aS:=λev s=>∃wC,XEc fr aJ m wC ev s
section
variable {fr:Fm}{A:aQ}{E:aS}{aJ:List Env}{m:aa}
theorem Y4.sub' (x:Y4 fr aJ m σ e dd fl h₁ h fs)(sk:wz fr A aJ):∀en∈fr.e::aJ,∀L,en.frame=some L->L∈fs:=λen he L hL=>x.So.has L (Bo he hL)
theorem Y4.live (x:Y4 fr aJ m σ e dd fl h₁ h fs):∀L∈fs,∃o,h₁.get? L=some o:=λL hL=>(x.So.all L hL).2.2.2.1
theorem E2 (sk:wz fr A aJ)(x:Y4 fr aJ m σ e dd fl h₁ s.heap fs)
  (k:∀h',Y4 fr aJ m σ e dd (some (rawInt fr.e.locals)) h₁ h' fs->Q () {s with heap:=h'}):wpAny M A (noteFrame (.ref e) fr.e) Q E s:=
 aeP sk.frames (sk.ok x.st) (x.sub' sk) sk.frame x.live x.flk x.ex λh' ex'=>k h' ⟨x.st,x.So,ex',.inr (.inr rfl),x.en,x.msg,x.ddn,x.nB⟩
theorem yZ (x:Y4 fr aJ m σ e dd (some f) h₁ s.heap fs)
  (k:∀h',Y4 fr aJ m σ e dd (some .none) h₁ h' fs->Q () {s with heap:=h'}):wpAny M A (setFlight (.ref e) none) Q E s:=
 HG x.ex λh' ex'=>k h' ⟨x.st,x.So,ex',.inr (.inl rfl),x.en,x.msg,x.ddn,x.nB⟩
theorem ZM (sk:wz fr A aJ):∀ev s,XE fr aJ m ev s->notedBy (model pw fr.w) A fr.e (λe s'=>cameBackBy (model pw fr.w) A fr.e (XE fr aJ m) e s') ev s:=λev s z0=>fX z0 λwC e dd fl F' bK=>fX bK λh₁ h d tk fs Du=>kU Du λe1 e2 le x=>clear% bK;clear% Du;clear% z0;by subst e1 e2;unfold notedBy;refine E2 sk x λh' x'=>?_;unfold cameBackBy;refine f9 (x'.ex.exc) λoe vs he hc hd hv jm bK=>qQ bK λT oT ts h1 z=>clear% bK;?_;refine aN (Bx he hv h1 ?_);dsimp only[if_neg (ne_true_of_eq_false rfl)];refine HG x'.ex λh'' aoB=>⟨wC,e,dd,_,F',h₁,h'',d,tk,fs,rfl,rfl,le,x'.st,x'.So,aoB,.inr (.inr ?_),x'.en,x'.msg,x'.ddn,x'.nB⟩;rw[sk.frame];rfl
theorem Tu {F:ah}{V:eX}{own:cN}{h:Heap}{R:aS}(hw:iL fr)(sk:wz fr A aJ)(st:St fr ⟨F,V,own⟩ h)(sk':wz aP A' (fr.e::aJ))(e1:aP.w=fr.w)(e2:aP.hb=fr.hb)(e3:aP.h₀=h)(e4:aP.F₀=F)(e5:aP.mt=[])(e6:aP.os=fr.os)
  (hR:∀ev s,XEc fr aJ m ⟨F,V,own⟩ ev s->R ev s):∀ev s,XE aP (fr.e::aJ) m ev s->wpAny M A' (leaving aP.e ev) (λv s'=>R ev s') E s:=λev s z0=>fX z0 λwC e dd fl F' bK=>fX bK λh₁ g d tk fs Du=>kU Du λq1 q2 le x=>clear% bK;clear% Du;clear% z0;by
 subst q1 q2;unfold leaving;refine aN (E2 sk' x λg' x'=>?_);refine yZ x' λg'' x''=>hR _ _ ?_;have gr:=x.st.gr;rw[e4] at gr;have leF:Le F F':=gr.le;have stB:St fr ⟨F',V,own⟩ h₁:=st.back x.st e1 e2 e3 e4 e5;have up:∀a,cW fr.h₀ a->cW h a:=λa l=>st.stay l;have nl:∀a,¬cW h a->¬cW fr.h₀ a:=λa q l=>q (up a l);have hx:=x''.en;have K6:=x''.ddn;rw[e2,e3,e5] at hx K6;have xK:∀p∈own,cW h p.1:=λp hp=>by refine b8 (st.own p hp) λv v v o ho v=>?_;exact⟨o,ho⟩
 have Xw:∀y c,fr.e.cells.lookup y=some c->cW h c:=λy c e=>by refine dw ((st.dM y c e).2.2) λov o ho v=>?_;exact⟨o,ho⟩
 have aaV:cW h fr.e.locals:=by refine aq (st.vars.loc) λm z1 v=>qQ z1 λo v v ho v=>clear% z1;?_;exact⟨o,ho⟩
 have mtL:∀a,¬cW h a->a∉fr.mt:=λa q z=>q (st.Rz a z);have fsB:=wz.fs sk hw st;refine⟨e,dd,_,F',h₁,g'',d,tk,fs,rfl,by simp only[e6],leF,stB,⟨λL hL=>?_,λL hL=>x''.So.has L ?_⟩,x''.ex,.inr (.inl rfl),⟨hx.1,hx.2.1,nl _ hx.2.2.1,mtL _ hx.2.2.1,λp hp q=>hx.2.2.1 (q▸xK p hp),λq=>hx.2.2.1 (q▸aaV),λy c e q=>hx.2.2.1 (q▸Xw y c e)⟩,?_,
  ⟨K6.1,K6.2.1,K6.2.2.1,K6.2.2.2.1,nl _ K6.2.2.2.2.1,mtL _ K6.2.2.2.2.1,λp hp q=>K6.2.2.2.2.1 (q▸xK p hp),λq=>K6.2.2.2.2.1 (q▸aaV),λy c e q=>K6.2.2.2.2.1 (q▸Xw y c e)⟩,by have:=x''.nB;rwa [e2] at this⟩
 .refine jl (x''.So.all L hL) λa1 a2 a3 a4 bK=>xA bK λa5 a6=>clear% bK;?_
  rw[e2] at a2;rw[e3,e5] at a3;rcases a3 with a3|a3
  .refine jl (fsB.all L a3) λb1 b2 b3 b4 bK=>xA bK λb5 b6=>clear% bK;?_
   exact⟨a1,a2,b3,a4,b5,b6⟩
  .exact⟨a1,a2,.inr ⟨nl _ a3.1,mtL _ a3.1⟩,a4,λp hp q=>a3.1 (q▸xK p hp),λy c e q=>a3.1 (q▸Xw y c e)⟩
 .refine aq (EO.mp hL) λen he hf=>?_
  exact EO.mpr ⟨en,.tail _ he,hf⟩
 .refine dw (x''.msg) λo t ho hm=>?_
  exact(r9 o t ho (by rwa [e1] at hm))
end
section
variable {fr:Fm}{A:aQ}{E:aS}{F:ah}{V:eX}{own:cN}{gl gl':dU}{aJ:List Env}{m:aa}
theorem acj {P:ao->ah->Prop}
  (df:dI f fd body ps ls gl')(cx:Cx fr.w fr.hb)(room:cC A (n+1))(LX:va.length=ps.length)(NZ:∀S,peek (K fr.w.params) S (bindArgs fd ⟨vals,[]⟩)=some (ps.zip va))
  (hw:iL fr)(sk:wz fr A aJ)
  (fV:∀aP:Fm,dH aP gl'->iL aP->Cx aP.w aP.hb->aP.w=fr.w->aP.e.scope=fd.scope->aP.mt=[]->wz aP (A.deeper aP.e) (fr.e::aJ)->T aP (A.deeper aP.e) (execs body aP.e) (XE aP (fr.e::aJ) m) ⟨F,K8 ps va ls,[]⟩ (λfl σ'=>P (kK fl) σ'.F))
  (kE:∀ev s,XEc fr aJ m ⟨F,V,own⟩ ev s->E ev s)
  (k:∀v F',Le F F'->P v F'->Q v ⟨F',V,own⟩):T fr A (call (.ref f) vals) E ⟨F,V,own⟩ Q:=by
 intro hp d tk st;refine Bw (Pg (om:=[]) (rest:=own) df cx room LX NZ st λenv h₁ n7 iG ef hF hW cI=>?_);have sk':wz ⟨fr.w,fr.os,fr.hb,hp,F,[],env⟩ (A.deeper env) (fr.e::aJ):=by
  refine⟨by show(A.frames.map _)=_;rw[sk.frames];rfl,ef,λen he=>?_⟩;rcases bW.mp he with rfl|he
  .refine aq (st.vars.loc) λm' z5 y=>i9 z5 λo es ep ho hd y=>clear% z5;?_
   exact(iA (by rw[st.env.kind];decide) (gg _ o sk.frame ho (fun vs q=>by rw[hd] at q;cases q) st.fY.1 (fun q=>nomatch q) (fun q=>(hw "").lo.1 (st.kb _ q))))
  .refine u0 (sk.at st en he) λa1 L o a2 a3 bK=>jl bK λa4 a5 a6 a7 a8=>clear% bK;?_
   exact(iA a1 (gg L o a2 a3 a4 a5 (λq=>nomatch q) a8))
 refine fk (fV _ hF hW cx rfl iG rfl sk' h₁ d n7 cI) (λfl s' z4=>gv z4 λh' d' cX σ' e stE hP=>clear% z4;?_) λev s' z=>Tu (aP:=⟨fr.w,fr.os,fr.hb,hp,F,[],env⟩) hw sk st sk' rfl rfl rfl rfl rfl rfl kE ev s' z;simp only[e];exact⟨h',d',cX,_,rfl,st.back stE rfl rfl rfl rfl rfl,k _ _ (λa c e=>stE.gr.le a c e) hP⟩
end
section
variable {fr:Fm}{A:aQ}{E:aS}{V:VS}{gl gl':dU}{aJ:List Env}{m:aa}
def ZK (f:av)(n:Nat)(ds:ak)(m:aa):Prop:=
 ∀(fr:Fm) (gl:dU) (A:aQ) (aJ:List Env) (V:VS),dH fr gl->iL fr->cC A n->wz fr A aJ->∀vs F Vc own,RV fr.mt F V Vc own->aK F ds vs->∀rest,
  T fr A (cl (.ref f) vs) (XEc fr aJ m ⟨F,Vc,own++rest⟩) ⟨F,Vc,own++rest⟩ (λz z=>False)
theorem ZK.of (df:dI f fd body ps ls gl')(hl:ds.length=ps.length)
  (fV:∀fr A aJ,dH fr gl'->iL fr->cC A n->fr.e.scope=fd.scope->fr.mt=[]->wz fr A aJ->DT fr A (XE fr aJ m) RF (V0 ps ds ls) (execs body fr.e) (λy y=>False)):ZK f (n+1) ds m:=λfr gl A aJ V hf hw room sk vs F Vc own rv r rest=>by
 have K5:vs.length=ps.length:=r.len.trans hl;exact acj (P:=λv F'=>False) df hf.cx room K5 (df.bind _ vs K5) hw sk (λaP hF hW cx e1 e2 e3 sk'=>(fV aP (A.deeper aP.e) (fr.e::aJ) hF hW (room.deeper _) e2 e3 sk' F _ [] [] (RV.init ls r)).mono λfl σ' z0=>bB z0 λd V' own' ic e le rr q=>q)
  (λy y z=>z) (λv F' le z=>z)
theorem ZK.run (x:ZK f n ds m)(hf:dH fr gl)(hw:iL fr)(room:cC A k)(hk:n<=k)(sk:wz fr A aJ):mZ fr A (XE fr aJ m) Rp V (cl (.ref f)) ds Q:=λvs F Vc own rest rv r=>
 ((x fr gl A aJ V hf hw (room.le hk) sk vs F Vc own rv r rest).mono λy y z=>z.elim).monoE λev s z=>⟨_,z⟩
theorem Pb (hf:dH fr gl)(hw:iL fr)(sk:wz fr A aJ)(room:cC A k)(hk:2<=k)(hg:Hs ((("Refusal":aa),Value.ref 398)) gl)(NU:fr.mt=[])
  (he:autoParam (eval (.Call (.Name "Refusal" np) [.Constant (.str x) c iI] [] SA) fr.e=(do callWith SA (<-eval (.Name "Refusal" np) fr.e) [] (backTo SA (starEach [.Constant (.str x) c iI] fr.e)) (backToKw SA (keywordEach [] fr.e)))) wu)
  (hs:autoParam ((backTo SA (starEach [.Constant (.str x) c iI] fr.e)).any (·.1)=false) wu)
  (ha:autoParam (starEach [.Constant (.str x) c iI] fr.e=(false,eval (.Constant (.str x) c iI) fr.e)::starEach [] fr.e) wu):
  DT fr A (XE fr aJ x) RF V (exec (.Raise (some (.Call (.Name "Refusal" np) [.Constant (.str x) c iI] [] SA)) none pos) fr.e) Q:=fun F Vc own rest rv hp dr tk st=>by
 refine aN (xe ?_);unfold raiseStmt;have T1:T fr A (eval (.Call (.Name "Refusal" np) [.Constant (.str x) c iI] [] SA) fr.e) (XE fr aJ x) ⟨F,Vc,own++rest⟩ (fun v σ=>∃t e dd,v=.ref e/\σ=⟨F,Vc,(dd,.obj (j5 fr.w.params (.str x t)))::(e,.obj (ur (some dd)))::(own++rest)⟩):=by refine iN (iM hf hg.mem (bJ hf.cx (hf.gl _ hg.mem).2.2.2 ?_ hs)) he;refine bU (KG λt=>dP ?_) ha;exact SR (n:=k-2) hf.cx (room.le ((fh (Yz hk)))) λe dd=>(WI t e dd rfl rfl)
 refine aN (aN (fk (T1 hp dr tk st) (λv s z0=>gv z0 λh1 d1 tk1 σ1 es qS bK=>qQ bK λt e dd ev eσ=>clear% bK;clear% z0;?_) λu u z=>z));subst es ev eσ;refine b8 (qS.own (e,.obj (ur (some dd))) (.tail _ (.head _))) λf1 f2 f3 o ho bK=>xE bK λt0 ok=>clear% bK;?_;refine b8 (qS.own (dd,.obj (j5 fr.w.params (.str x t))) (.head _)) λg1 g2 g3 o2 ho2 ok2=>?_;have nN:=qS.nd;simp only[fJ] at nN;have jr:dd≠e:=λq=>(j7.mp nN).1 (q▸.head _);have hC:h1.get? 398=some mD:=hf.cx.K.keeps qS.keep _ _ (abd _);unfold mD at hC;subst ok;have hcB:(Value.ref 398::[Value.ref 378,.type "Exception",.type "BaseException",.type "object"]).contains (.type "BaseException")=true:=by decide
 refine aN (xe (cG ?_))
 repeat (first|with_reducible refine Kl ho ?_|with_reducible refine Kl hC ?_|(with_reducible refine adD hC ?_;rw[hcB])|wp_step)
 refine wpAny_raiseNew_none room.handled ?_;have fsk:=wz.fs sk hw qS;have stn:St fr ⟨F,Vc,own++rest⟩ h1:=qS.sub ⟨_,.refl _,(Bt _ _).trans (Bt _ _)⟩;have VV:∀p∈own++rest,p.1≠dd/\p.1≠e:=λp hp=>⟨λq=>(j7.mp nN).1 (.tail _ (q▸j9 hp)),λq=>(j7.mp (j7.mp nN).2).1 (q▸j9 hp)⟩;have eNf:e∉MD (fr.e::aJ):=λq=>(fsk.all e q).2.2.2.2.1 _ (.tail _ (.head _)) rfl;have dNf:dd∉MD (fr.e::aJ):=λq=>(fsk.all dd q).2.2.2.2.1 _ (.head _) rfl;have nmt:∀a,a∉fr.mt:=λa q=>by rw[NU] at q;exact aR q
 exact⟨⟨F,Vc,own++rest⟩,e,dd,none,F,h1,h1,d1,tk1,MD (fr.e::aJ),rfl,rfl,Le.refl _,stn,wz.fs sk hw stn,⟨λb o u u q=>q,λb o q u=>⟨o.slots,q⟩,(gg _ _ ho rfl rfl rfl (Nat.one_lt_succ_succ [Value.none,Value.none,Value.bool false,Value.none].length) rfl),⟨_,ho⟩,eNf⟩,.inl rfl,
  ⟨f2,λq=>f3 (.inl q),f1.resolve_right (nmt _),nmt _,λp hp=>(VV p hp).2,qS.fY.2 _ (.tail _ (.head _)),λy c q z=>(qS.dM y c q).2.1 _ (.tail _ (.head _)) z.symm⟩,(r9 o2 t ho2 ok2),
  ⟨dNf,jr,g2,g3,g1.resolve_right (nmt _),nmt _,λp hp=>(VV p hp).1,qS.fY.2 _ (.head _),λy c q z=>(qS.dM y c q).2.1 _ (.head _) z.symm⟩,f3⟩
end
section
variable {fr:Fm}{A:aQ}{E:aS}{V V':VS}{gl gl':dU}{aJ:List Env}{m:aa}
def KS (fr:Fm)(A:aQ)(E:aS)(x:aa)(body bH:fc)(Q:bY):ak->VS->Prop
 |[],V=>DT fr A E RF V (execs bH fr.e) Q
 |d::ds,V=>∃V2,Pv x (.fz d) V V2/\DT fr A E RF V2 (execs body fr.e) (λfl V'=>match fl with| .next=>KS fr A E x body bH Q ds V'| .cont=>KS fr A E x body bH Q ds V'| .brk=>Q .next V'| .ret r=>Q (.ret r) V')
theorem ahm (hw:iL fr)(sk:wz fr A aJ){x:aa}{body bH:fc}{Q:bY}
  (h:DT fr A (XE fr aJ m) Rp V (eval iter fr.e) λsrc V1=>∃ds,gq fr.w A src ds/\KS fr A (XE fr aJ m) x body bH Q ds V1)
  (hs:autoParam (∀x,foldedSetIterable iter fr.e x=pure x) wu):DT fr A (XE fr aJ m) RF V (exec (.For (.Name x px) iter body bH pos) fr.e) Q:=
 aeL hw (λds V=>KS fr A (XE fr aJ m) x body bH Q ds V) (Eb:=XE fr aJ m) h (λd ds V ⟨V2,p,h⟩=>⟨V2,p,h.mono λfl V' q=>by induction fl using DF.casesOn<;>exact q⟩) (λV h=>h) (ZM sk) hs
theorem KS.ind {x:aa}{body bH:fc}{Q:bY}(Inv:ak->VS->Prop)(turn:∀d ds V,Inv (d::ds) V->∃V2,Pv x (.fz d) V V2/\DT fr A E RF V2 (execs body fr.e) (λfl V'=>match fl with| .next=>Inv ds V'| .cont=>Inv ds V'| .brk=>Q .next V'| .ret r=>Q (.ret r) V'))
  (qI:∀V,Inv [] V->DT fr A E RF V (execs bH fr.e) Q):∀ds V,Inv ds V->KS fr A E x body bH Q ds V
 |[],V,h=>qI V h
 |d::ds,V,h=>by exact aq (turn d ds V h) λV2 p b=>⟨V2,p,b.mono λfl V' q=>by cases fl<;>first|exact q|exact KS.ind Inv turn qI ds _ q⟩
end
section
variable {fr:Fm}{A:aQ}{α β δ ε:Type}{E:aS}{V V':VS}{gl gl':dU}
theorem sI.ow' {mt:cP}{mk:gm}(h:sI mt cs mk)(e:mk=.ow):∀p∈cs,p.1∉mt:=by
 induction h using sI.casesOn with
 |ow n=>exact n
 |ln n=>have:=congrFun e .none;cases this
noncomputable def tM:uP->aa->D->uP
 |[],k,y=>[(k,[y])]
 |(n,ds)::l,k,y=>if n=k then(n,ds++[y])::l else(n,ds)::tM l k y
def MS (F:ah)(l:uP)(k:aa)(es:dU)(b:av)(cs:cN):Prop:=
 ∃pre us post,cs=pre++(b,.list us)::post/\us.length<=cap/\∀F' y v,Le F F'->Rp F' y v->(∀ds,d9 l k=some ds->ds.length+1<=cap)->K9 F' (tM l k y) es (pre++(b,.list (us++[v]))::post)
theorem K9.some (h:K9 F l es cs){k:aa}{z:ao}(hz:d9 es k=some z):∃b,z=.ref b/\MS F l k es b cs:=by
 induction h with
 |nil=>simp[d9] at hz
 | @cons n ds a us l es cs r hl h ih=>
  rw[bP] at hz;by_cases q:n=k
  .rw[bg q] at hz
   cases hz;refine(abm a rfl [] (eB us cs rfl (by rw[r.len];exact hl) (λF' y v le ry hd=>?_)));unfold tM;rw[bg q];refine .cons ((r.mono le).app (.cons ry .nil)) ?_ (h.mono le);have:=hd ds (by rw[bP,bg q]);simp_all
  .rw[aG q] at hz
   refine sP (ih hz) λb e pre bK=>dm bK λyF post ec hu hr=>clear% bK;?_;refine(abm b e ((a,.list us)::pre) (eB yF post (aT _ ec) hu (λF' y v le ry hd=>?_)));unfold tM;rw[aG q];exact .cons (r.mono le) hl (hr F' y v le ry λds hds=>hd ds (by rw[bP,aG q];exact hds))
theorem K9.none (h:K9 F l es cs){k:aa}(hz:d9 es k=none)(b:av):MS F l k (stored es k (.ref b)) b (cs++[(b,.list [])]):=by
 have e:stored es k (.ref b)=es++[(k,.ref b)]:=by
  unfold stored;have:(es.any λp=>decide (p.1=k))=false:=by
   clear h;induction es with
   |nil=>rfl
   |cons p es ih=>
    obtain⟨n,u⟩:=p;rw[bP] at hz;by_cases q:n=k
    .rw[bg q] at hz;exact fD hz
    .rw[aG q] at hz;simp[q];simpa using ih hz
  rw[aG (by rw[this];exact sG)]
 rw[e];refine(gE cs [] [] rfl (jU _) (λF' y v le ry hd=>?_));clear e;induction h with
 |nil=>exact .cons (.cons ry .nil) (by show 1<=1048576;decide) .nil
 | @cons n ds a us l es cs r hl h ih=>
  rw[bP] at hz;by_cases q:n=k
  .rw[bg q] at hz;exact fD hz
  .rw[aG q] at hz
   unfold tM;rw[aG q];exact .cons (r.mono le) hl (ih hz λds hds=>hd ds (by rw[bP,aG q];exact hds))
theorem Y8 (hl:es.length<=sizeLine)
  (h1:∀z,d9 es k=some z->Q z ⟨F,Vc,(a,.dict es ep)::own⟩)(h2:d9 es k=none->∀mQ,Q w ⟨F,Vc,(a,.dict (stored es k w) mQ)::own⟩):
  T fr A (call (.builtin "dict.setdefault") [.ref a,.str k t,w]) E ⟨F,Vc,(a,.dict es ep)::own⟩ Q:=fun hp d tk st=>by
 refine xA (pK st (.head _)) λdd lo=>XR Y0 dd.typeIs aeu (aev _ _ _) (adC (strKind pw fr.w) a (rE pw fr.w k t) lo w) ⟨es,dd,hl,λv hv=>?_,λhn h' hm hs=>?_⟩
 .exact⟨hp,d,tk+1,_,rfl,st,h1 v hv⟩
 .exact aq (Di.mp hm) λo ho ok=>xE (yP ok) λmQ Td=>⟨h',d,tk+1,_,rfl,st.chg (c':=.dict (stored es k w) mQ) .here hs ho Td,h2 hn mQ⟩
theorem K9.len (h:K9 F l es cs):es.length=l.length:=by
 induction h with
 |nil=>rfl
 |cons _ _ _ ih=>exact X0.mpr ih
theorem Zr (hf:dH fr gl){x:aa}{pl1 pl2:Sem Bool}{Q:az}{l:uP}{f:pU}(c:ia x (.ow (.cK l)) V f)(qp:l.length<=cap)
  (h:∀v,DT fr A E Rp (f (.at v)) (eval e1 fr.e) λdk V1=>∃k,dk=.str k/\DT fr A E Rp V1 (eval e2 fr.e) λy V2=>∃f2,ia x (.at v) V2 f2/\(∀ds,d9 l k=some ds->ds.length+1<=cap)/\Q .none (f2 (.ow (.cK (tM l k y)))))
  (he1:autoParam (eval (.Call (.Attribute (.Name x px) "setdefault" p1) [e1,.List [] p3] [] p2) fr.e=(do
   let ov<-eval (.Name x px) fr.e
   standAt p1.atName
   let (f,first)<-holding [ov] (getMethod ov "setdefault" pl1)
   callWith p2 f first (backTo p2 (starEach [e1,.List [] p3] fr.e)) [])) wu)
  (he2:autoParam (eval (.Call (.Attribute (.Call (.Attribute (.Name x px) "setdefault" p1) [e1,.List [] p3] [] p2) "append" p4) [e2] [] p5) fr.e=(do
   let ov<-eval (.Call (.Attribute (.Name x px) "setdefault" p1) [e1,.List [] p3] [] p2) fr.e
   standAt p4.atName
   let (f,first)<-holding [ov] (getMethod ov "append" pl2)
   callWith p5 f first (backTo p5 (starEach [e2] fr.e)) [])) wu)
  (hs1:autoParam ((backTo p2 (starEach [e1,.List [] p3] fr.e)).any (·.1)=false) wu)(Jj:autoParam ((backTo p5 (starEach [e2] fr.e)).any (·.1)=false) wu)
  (Tr:autoParam (starEach [e1,.List [] p3] fr.e=(false,eval e1 fr.e)::starEach [.List [] p3] fr.e) wu)
  (ha2:autoParam (starEach [.List [] p3] fr.e=(false,eval (.List [] p3) fr.e)::starEach [] fr.e) wu)
  (ha3:autoParam (starEach [e2] fr.e=(false,eval e2 fr.e)::starEach [] fr.e) wu):
  DT fr A E Rp V (eval (.Call (.Attribute (.Call (.Attribute (.Name x px) "setdefault" p1) [e1,.List [] p3] [] p2) "append" p4) [e2] [] p5) fr.e) Q:=fun F Vc own rs rv=>by
 refine oV rv c (.inl rfl) λv aC cs hx f7 ng bQ=>jy (jy (dF hf hx ?_) he1) he2;intro hp dr tk st;refine ig (f7.type (T:="dict") rfl st) fun a o ea ho hc hd=>?_;clear c he1 he2 rv hx;subst ea;refine OF ⟨o,ho,hc⟩ jq.plain jq.slot jq.ty (λb q=>by cases q;exact⟨o,ho,hd⟩) (af hp dr tk _ rfl st ?_);refine bJ hf.cx rfl ?_ hs1;refine T.perm (own':=aC++(cs++rs)) (by rw[<-eN,<-eN];exact ET.append_right rs) ?_;refine bU ((h _).go bQ λu F2 jX bE dk V1 ff fM r2 ⟨k,ek,q2⟩=>?_) Tr;subst ek;refine bU (O5 (dP (sH (λb hb=>?_) (jU _)))) ha2;refine dP ?_;induction r2 using Rp.fj with
 | @str t=>
 have anM:=f7.mono fM;clear f7;cases anM with
 | @cK _ _ es ep csl hm=>
 have tail:∀(b':av) (uW:dU) (mQ:Nat) (cs':cN),(∀p∈(a,Cell.dict uW mQ)::cs',p.1∉fr.mt)->MS F2 l k uW b' cs'->
   T fr A (getMethod (.ref b') "append" pl2) E ⟨F2,jX,(a,.dict uW mQ)::(cs'++(bE++rs))⟩ fun fx kg=>T fr A (callWith p5 fx.1 fx.2 (backTo p5 (starEach [e2] fr.e)) []) E kg (PQ fr.mt F rs Rp Q):=by
  rintro b' uW mQ cs' NU ⟨pre,us,post,ec,hu,hr⟩ hp dr tk st;subst ec;refine sP (st.cell (p:=(b',.list us)) (.tail _ (uJ _ (lz _ (.head _))))) λo ho n ok=>?_;subst ok;refine OF ⟨_,ho,rfl⟩ tL.plain tL.slot tL.ty (λb q=>by cases q;exact⟨_,ho,rfl⟩) (af hp dr tk _ rfl st ?_);refine bJ hf.cx rfl ?_ Jj;refine T.perm (own':=bE++(((a,Cell.dict uW mQ)::(pre++(b',.list us)::post))++rs)) ?_ ?_
  .show(bE++(((a,Cell.dict uW mQ)::(pre++(b',Cell.list us)::post))++rs)).Perm (((a,Cell.dict uW mQ)::(pre++(b',Cell.list us)::post))++(bE++rs))
   exact jI
  refine bU (q2.go ff λw F3 nH cY y V2 lH iP ry ⟨f2,c2,hd,q⟩=>?_) ha3;refine dP ?_;have hr':=hr F3 y w iP ry hd;have rep:wA (b',Cell.list us) (b',Cell.list (us++[w])) (cY++(((a,Cell.dict uW mQ)::(pre++(b',.list us)::post))++rs)) (cY++(((a,Cell.dict uW mQ)::(pre++(b',.list (us++[w]))::post))++rs)):=by refine wA.app ?_ cY;refine .there ?_;show wA _ _ ((pre++(b',Cell.list us)::post)++rs) ((pre++(b',Cell.list (us++[w]))::post)++rs);rw[eN,eN];exact wA.app .here pre
  refine T.conv (Q:=λr σ=>r=.none/\σ=⟨F3,nH,cY++(((a,Cell.dict uW mQ)::(pre++(b',.list (us++[w]))::post))++rs)⟩) (BR rep ⟨rfl,rfl⟩ (aB hu c9)) λr σ' ⟨er,eσ⟩=>?_;subst er eσ;have agn:Ow F3 (.cK (tM l k y)) (.ref a) ((a,.dict uW mQ)::(pre++(b',.list (us++[w]))::post)):=.cK hr';have anR:∀p∈(a,Cell.dict uW mQ)::(pre++(b',Cell.list (us++[w]))::post),p.1∉fr.mt:=λp hp=>by
   rcases bW.mp hp with rfl|hp
   .exact NU _ (.head _)
   .refine fU (j6.mp hp) (λhp=>?_) λhp=>?_
    .exact NU p (.tail _ (uJ _ hp))
    .rcases bW.mp hp with rfl|hp
     .exact NU (b',.list us) (.tail _ (lz _ (.head _)))
     .exact NU p (.tail _ (lz _ (.tail _ hp)))
  refine aq (RV.El c2 agn (mk:=.ow) (.ow anR) lH) λoR K3 p4=>⟨⟨F3,nH,oR++rs⟩,λhp st=>st.sub ⟨_,?_,fZ _⟩,cg K3 (fM.trans iP) .none q⟩;refine(p4.append_right rs).trans ?_;rw[eN];exact jI
 have agp:∀p∈(a,Cell.dict es ep)::csl,p.1∉fr.mt:=ng.ow' rfl;refine T.perm (own':=(a,Cell.dict es ep)::((b,Cell.list [])::(csl++(bE++rs)))) ?_ ?_
 .have e1:((b,Cell.list [])::(bE++(((a,Cell.dict es ep)::csl)++rs))).Perm ((b,Cell.list [])::(((a,Cell.dict es ep)::csl)++(bE++rs))):=List.Perm.cons _ jI
  exact((List.Perm.swap _ _ _).trans e1.symm)
 have WW:es.length<=sizeLine:=by rw[hm.len];exact aB qp c9
 refine Y8 WW (λz hz=>?_) λhz mQ=>?_
 .refine aq (hm.some hz) λb' ez hr=>?_
  clear hf qp h hs1 Jj Tr ha2 ha3 ho hc hd bQ ff fM q2 hb hm ng st WW hz;rw[ez];refine T.perm (own':=(b,Cell.list [])::((a,Cell.dict es ep)::(csl++(bE++rs)))) (List.Perm.swap _ _ _) (MN ?_);exact tail b' es ep csl agp hr
 .refine T.perm (own':=(a,Cell.dict (stored es k (.ref b)) mQ)::((csl++[(b,Cell.list [])])++(bE++rs))) ?_ ?_
  .refine List.Perm.cons _ ?_
   rw[eN];exact nS.symm.symm
  .exact tail b _ mQ _ (λp hp=>by
    rcases bW.mp hp with rfl|hp
    .exact agp (a,.dict es ep) (.head _)
    .refine fU (j6.mp hp) (λhp=>?_) λhp=>?_
     .exact agp p (.tail _ hp)
     .cases hp with
      |head=>exact hb
      |tail s q=>exact aR q) (hm.none hz b)
theorem Mu {bu:Program}{w:bZ}{R:Result->cO->Prop}{s:cO}{bA Lf iter:aD}{gJ:c7}{g0:Comprehension}{rest:List Comprehension}{scope:eO}{pos:Pos}{it acc:ao}{env:Env}
  (h0:codeAny (model bu w) A (.compLoop (.ListComp bA (g0::⟨Lf,iter,gJ,0⟩::rest) scope pos) 1 it acc env) R s)
  (h:wpAny (model bu w) A (pyIter it) (λit' s'=>codeAny (model bu w) A (.compLoop (.ListComp bA (g0::⟨Lf,iter,gJ,0⟩::rest) scope pos) 1 it' acc env) R s')
   (notedBy (model bu w) A env λx s'=>R (.error x) s') s):
  codeAny (model bu w) A (.compStart (.ListComp bA (g0::⟨Lf,iter,gJ,0⟩::rest) scope pos) 1 it acc env) R s:=by
 refine OA ?_;refine wpAny_notedAt ?_;unfold compStart;refine aN (BC (wpAny_ite ?_));split
 .first
   |exact aN (cG (cG (And.intro rfl h0)))
   |exact cG (And.intro rfl h0)
 .first
   |exact aN (EE (aN (xe (aN (fk h (λit' s' h'=>cG (And.intro rfl h')) λz z x=>x)))))
   |(refine aN (EE ?_);show wpAny _ _ (standAt iter.pos>>=_) _ _ s;exact aN (xe (aN (fk h (λit' s' h'=>cG (And.intro rfl h')) λz z x=>x))))
noncomputable def em2 (e:aD)(Gm:aD)(env:Env)(acc:ao):Sem Unit:=do
 let x<-eval Gm env
 standAt Gm.pos
 let x<-foldedSetIterable Gm env x;let it<-holding [x] (pyIter x);let _<-runOwn (.compStart e 1 it acc env) env
 pure ()
theorem Em.two {bA iter cQ:aD}{t1:aD}{R2 rZ:c7}{x2:aa}{mu:Pos}{scope:eO}{pos:Pos}{D:av}{rs:List Internal.D}{Q:List Internal.D->VS->Prop}
  (hw:WrV fr x2)(hDm:True)
  (hs:∀x,foldedSetIterable cQ fr.e x=pure x)
  (hT:∀it acc env,compTurn (.ListComp bA [⟨t1,iter,R2,0⟩,⟨.Name x2 mu,cQ,rZ,0⟩] scope pos) 1 it acc env=(do
   standAt cQ.pos
   match<-pyNext it with
   |none=>pure (.done .next)
   |some v=>
    letOwnedTupleGo (.Name x2 mu) it v
    assign (.Name x2 mu) env v
    let ok<-kh rZ env
    if ok=true then emS bA env acc
    again (.compLoop (.ListComp bA [⟨t1,iter,R2,0⟩,⟨.Name x2 mu,cQ,rZ,0⟩] scope pos) 1 it acc env)))
  (h:DT fr A gO Rp V (eval cQ fr.e) λsrc V1=>∃ds,∃Inv:List Internal.D->List Internal.D->VS->Prop,gq fr.w A src ds/\Inv ds rs V1/\
   (∀d aF rs V,Inv (d::aF) rs V->∃V2,Pv x2 (.fz d) V V2/\DT fr A gO RB V2 (kh rZ fr.e) (λok V3=>(ok=true->Em fr A (emS bA fr.e (.ref D)) D V3 rs (Inv aF))/\(ok=false->Inv aF rs V3)))/\
   ∀rs V',Inv [] rs V'->Q rs V'):
  Em fr A (em2 (.ListComp bA [⟨t1,iter,R2,0⟩,⟨.Name x2 mu,cQ,rZ,0⟩] scope pos) cQ fr.e (.ref D)) D V rs Q:=by
 intro F Vc own rest vs rv r;unfold em2;refine T.bind (h.go rv λv F1 c5 aC src V1 bQ cM r1 z0=>ig z0 λds Inv B4 qF jP xX=>clear% z0;?_);intro hp d tk st;refine aN (xe (aN (Oi (hs v) ?_)));refine aN (wo ?_);refine((B4 fr F1 c5 (aC++((D,.list vs)::rest)) v gO rfl r1).bG st) λit h2 d2 Fb kg j0 z1=>ig z1 λI p eI e2 hIm ok=>clear% z1;?_;subst eI e2;have amP:St fr ⟨F1,c5,aC++((D,.list vs)::(I,.obj (p 0))::rest)⟩ h2:=j0.sub ⟨_,zR,fZ _⟩;refine aN (wpAny_runOwn ?_);have key:∀h2 d2 Fb,St fr ⟨F1,c5,aC++((D,.list vs)::(I,.obj (p 0))::rest)⟩ h2->codeAny (model pw fr.w) A (.compLoop (.ListComp bA [⟨t1,iter,R2,0⟩,⟨.Name x2 mu,cQ,rZ,0⟩] scope pos) 1 (.ref I) (.ref D) fr.e)
   (λr s'=>match r with| .ok f=>wpAny (model pw fr.w) A (pure ():Sem Unit) (Po fr λz σ'=>∃V' own' Hz BZ,RV fr.mt σ'.F V' σ'.V own'/\σ'.own=own'++((D,.list BZ)::rest)/\Le F σ'.F/\aK σ'.F Hz BZ/\Q Hz V') gO s'| .error e=>cameBackBy (model pw fr.w) A fr.e gO e s') ⟨h2, #[],d2,Fb,fr.os⟩:=by
  intro h2 d2 Fb j0;refine Et (em:=emS bA fr.e (.ref D)) (F1:=F1) (rest:=rest) (hT _ _ _) hw ok Inv jP j0 bQ (.refl _) (r.mono cM) qF ?_;intro h5 d5 Zy F5 Y5 lK V5 rs5 vs5 B3 Nk LH r5 abi;have Li:St fr ⟨F5,Y5,(I,.obj (p ds.length))::(lK++((D,.list vs5)::rest))⟩ h5:=B3.sub ⟨_,zR.symm,fZ _⟩;refine T.cps (ok.done fr F5 Y5 _ gO _ rfl LH hIm λh6 d6 zm xD=>?_) Li;exact⟨rfl,cG (af h6 d6 zm _ rfl xD (cZ V5 lK rs5 vs5 Nk rfl (cM.trans LH) (iA r5 (xX _ _ abi))))⟩
 refine Mu (key _ _ _ amP) ?_;have GF:=T.cps (P:=λit' s'=>codeAny (model pw fr.w) A (.compLoop (.ListComp bA [⟨t1,iter,R2,0⟩,⟨.Name x2 mu,cQ,rZ,0⟩] scope pos) 1 it' (.ref D) fr.e) (λr s'=>match r with| .ok f=>wpAny (model pw fr.w) A (pure ():Sem Unit) (Po fr λz σ'=>∃V' own' Hz BZ,RV fr.mt σ'.F V' σ'.V own'/\σ'.own=own'++((D,.list BZ)::rest)/\Le F σ'.F/\aK σ'.F Hz BZ/\Q Hz V') gO s'| .error e=>cameBackBy (model pw fr.w) A fr.e gO e s') s') (ok.self fr F1 c5 (aC++((D,.list vs)::rest)) 0 gO _ rfl λh5 d5 Zy B3=>key _ _ _ (B3.sub ⟨_,zR,fZ _⟩)) (hp:=h2) (d:=d2) (tk:=Fb) j0;exact fk GF (λz z y=>y) λz z y=>y.elim
theorem JO (bA iter cQ:aD)(x1 x2:aa)(K4 mu:Pos)(R2 rZ:c7)(scope:eO)(pos:Pos)(it acc:ao)(env:Env):
  compTurn (.ListComp bA [⟨.Name x1 K4,iter,R2,0⟩,⟨.Name x2 mu,cQ,rZ,0⟩] scope pos) 0 it acc env=(do
   standAt iter.pos
   match<-pyNext it with
   |none=>pure (.done .next)
   |some v=>
    letOwnedTupleGo (.Name x1 K4) it v
    assign (.Name x1 K4) env v
    let ok<-kh R2 env
    if ok=true then em2 (.ListComp bA [⟨.Name x1 K4,iter,R2,0⟩,⟨.Name x2 mu,cQ,rZ,0⟩] scope pos) cQ env acc
    again (.compLoop (.ListComp bA [⟨.Name x1 K4,iter,R2,0⟩,⟨.Name x2 mu,cQ,rZ,0⟩] scope pos) 0 it acc env)):=by
 unfold em2;simp only[bind_assoc,pure_bind];rfl
theorem JN (bA iter cQ:aD)(x1 x2:aa)(K4 mu:Pos)(R2 rZ:c7)(scope:eO)(pos:Pos)(it acc:ao)(env:Env):
  compTurn (.ListComp bA [⟨.Name x1 K4,iter,R2,0⟩,⟨.Name x2 mu,cQ,rZ,0⟩] scope pos) 1 it acc env=(do
   standAt cQ.pos
   match<-pyNext it with
   |none=>pure (.done .next)
   |some v=>
    letOwnedTupleGo (.Name x2 mu) it v
    assign (.Name x2 mu) env v
    let ok<-kh rZ env
    if ok=true then emS bA env acc
    again (.compLoop (.ListComp bA [⟨.Name x1 K4,iter,R2,0⟩,⟨.Name x2 mu,cQ,rZ,0⟩] scope pos) 1 it acc env)):=by rfl
def FnO (f:av)(n:Nat)(ds:ak)(P:kc):Prop:=
 ∀(fr:Fm) (gl:dU) (A:aQ) (E:aS) (V:VS) (Q:az),dH fr gl->cC A n->(∀d,P d->Q d V)->B7 fr A (cl (.ref f)) E V ds Q
theorem FnO.of {ps ls:ay}{P:kc}(df:dI f fd body ps ls gl')(hl:ds.length=ps.length)(eb:body=[.Return (some e) pos])
  (fV:∀fr A,dH fr gl'->iL fr->cC A n->fr.e.scope=fd.scope->Dt fr A (eval e fr.e) gO (V0 ps ds ls) (λd z=>P d)):FnO f (n+1) ds P:=by
 intro fr gl A E V Q hf room k vs F Vc own rest rv r;have K5:vs.length=ps.length:=r.len.trans hl;refine yU (om:=[]) (rest:=own++rest) (P:=λv F' wO=>∃d,Ow F' d v wO/\P d) df hf.cx room K5 (df.bind _ vs K5) (λaP hF hW cx e1 e2 e3=>?_)
  (λv F' wO le hm z0=>aq z0 λd rd hd=>(aL d V own wO (rv.mono le) rfl le rd (λp hp=>(hm p hp).resolve_right (λq=>nomatch q)) (k d hd)));rw[eb];refine bq (BS ?_);exact T.conv (fV aP (A.deeper aP.e) hF hW (room.deeper _) e2 F _ [] [] (RV.init ls r)) λv σ' z1=>cU z1 λd V1 aC cs bQ eo le f7 hm hp=>⟨⟨σ'.F,σ'.V,cs⟩,λhp st=>St.sub (own:=σ'.own) st ⟨_,.refl _,by rw[eo];exact OY _ _⟩,d,f7,hp⟩
theorem FnO.run (x:FnO f n ds P)(hf:dH fr gl)(room:cC A m)(hm:n<=m)(k:∀d,P d->Q d V):B7 fr A (cl (.ref f)) E V ds Q:=
 x fr gl A E V Q hf (room.le hm) k
def Hp (f:av)(n:Nat)(l0:ak)(ds:ak)(P:D->ak->Prop):Prop:=
 ∀(fr:Fm) (gl:dU) (A:aQ) (E:aS),dH fr gl->cC A n->
  ∀F Vc a us rest vs,aK F l0 us->aK F ds vs->T fr A (call (.ref f) (.ref a::vs)) E ⟨F,Vc,(a,.list us)::rest⟩ (λr σ'=>∃d l' yF,σ'.own=(a,.list yF)::rest/\σ'.V=Vc/\Le F σ'.F/\Rp σ'.F d r/\aK σ'.F l' yF/\l'.length<=cap/\P d l')
theorem Hp.go {P:D->ak->Prop}(x:Hp f n l0 ds P)(hf:dH fr gl)(room:cC A m)(hm:n<=m){Vc:eX}{a:av}(rl:aK F l0 us)(r:aK F ds vs)
  (k:∀v F' d l' yF,Le F F'->Rp F' d v->aK F' l' yF->l'.length<=cap->P d l'->Q v ⟨F',Vc,(a,.list yF)::rest⟩):T fr A (call (.ref f) (.ref a::vs)) E ⟨F,Vc,(a,.list us)::rest⟩ Q:=
 (x fr gl A E hf (room.le hm) F Vc a us rest vs rl r).mono λv σ' z=>gw z λd l' yF eo eV le z=>kU z λrd rl hc hp=>by rw[show σ'=⟨σ'.F,Vc,(a,.list yF)::rest⟩ from by rw[<-eo,<-eV]];exact k v _ d l' yF le rd rl hc hp
theorem Hp.of (df:dI f fd body (x0::ps) ls gl')(hl:ds.length=ps.length)(hc:l0.length<=cap)
  (fV:∀fr A,dH fr gl'->iL fr->cC A n->fr.e.scope=fd.scope->DT fr A gO RF ((x0,.ln (.list l0))::V0 ps ds ls) (execs body fr.e) (λfl V'=>∃l' V2,V'=(x0,.ln (.list l'))::V2/\P (ie fl) l')):Hp f (n+1) l0 ds P:=by
 intro fr gl A E hf room F Vc a us rest vs rl r;have K5:(.ref a::vs:bC).length=(x0::ps).length:=aT Nat.succ (r.len.trans hl);refine yU (om:=[(a,.list us)]) (rest:=rest) (P:=λv F' wO=>∃d l' yF,wO=[(a,.list yF)]/\Rp F' d v/\aK F' l' yF/\l'.length<=cap/\P d l') df hf.cx room K5 (df.bind _ _ K5) (λaP hF hW cx e1 e2 e3=>?_)
  (λv F' wO le hm z0=>bB z0 λd l' yF e rd Cn ju hd=>by rw[e];exact(mK d l' yF rfl rfl le rd Cn ju hd))
 .have rv0:RV aP.mt F ((x0,.ln (.list l0))::V0 ps ds ls) (K8 (x0::ps) (.ref a::vs) ls) ([(a,.list us)]++[]):=by rw[e3];exact .ln (.list rl hc) (λp hp=>by cases hp with|head=>exact .head _|tail z q=>exact aR q) (RV.init ls r)
  refine T.conv (fV aP (A.deeper aP.e) hF hW (room.deeper _) e2 F _ _ [] rv0) λfl σ' z1=>bB z1 λd V' own' ic eo le rr bK=>dw bK λl' V2 eV q=>clear% bK;clear% z1;?_;obtain⟨F1,c5,o1⟩:=σ';have eo:o1=own'++[]:=eo;clear df hl hc fV hf room rl K5 hF hW cx e1 e2 rv0 le;subst eo eV;clear eo;cases ic using RV.lnE with
  |ln f7 vJ ff=>
  clear ff;induction f7 using Ow.listE with
  | @list b yF Cn ju=>
  have hb:b=a:=by
   have:=vJ _ (.head _);simp only[e3] at this;cases this with
   |head=>rfl
   |tail z q=>cases q
  clear e3 vJ;subst hb;refine⟨⟨F1,_,[(b,.list yF)]⟩,λhp st=>st.sub ⟨_,.refl _,(OY _ _).trans (OY _ _)⟩,?_⟩;induction rr using RF.casesOn with
  |next=>exact(aV _ l' yF rfl .none Cn ju q)
  |brk=>exact(aV _ l' yF rfl .none Cn ju q)
  |cont=>exact(aV _ l' yF rfl .none Cn ju q)
  |ret r=>exact(aV _ l' yF rfl r Cn ju q)
theorem acE (hf:dH fr gl){f:av}{nO:Pos}{px:Pos}{args:c7}{pos:Pos}{mk:gm}(hx:Hs (g,.ref f) gl)(c:ia x (mk (.list l0)) V fx)(j3:mk=.ow\/mk=.ln)
  (room:cC A m)(hm:n<=m)
  (h:∀v,DT fr A E aK (fx (.at v)) (spliced (backTo pos (starEach args fr.e))) λds V2=>∃f2,ia x (.at v) V2 f2/\∃P,Hp f n l0 ds P/\∀d l',P d l'->Q d (f2 (mk (.list l'))))
  (he:autoParam (eval (.Call (.Name g nO) (.Name x px::args) [] pos) fr.e=(do callWith pos (<-eval (.Name g nO) fr.e) [] (backTo pos (starEach (.Name x px::args) fr.e)) (backToKw pos (keywordEach [] fr.e)))) wu)
  (hs:autoParam ((backTo pos (starEach (.Name x px::args) fr.e)).any (·.1)=false) wu)
  (ha:autoParam (starEach (.Name x px::args) fr.e=(false,eval (.Name x px) fr.e)::starEach args fr.e) wu):DT fr A E Rp V (eval (.Call (.Name g nO) (.Name x px::args) [] pos) fr.e) Q:=λF Vc own rs rv=>
 iN (iM hf hx.mem (bJ hf.cx (hf.gl _ hx.mem).2.2.2 (by
  refine oV rv c j3 λv aC cs hxv f7 ng bQ=>bU ?_ ha;refine dF hf hxv (T.perm (own':=aC++(cs++rs)) jI ?_);have e0:∀(t:Sem bC),(t>>=λvs=>(pure vs:Sem bC))=t:=λt=>bind_pure t;refine(h v).go bQ λvs F2 jX bE ds V2 ff fM r2 z0=>jF z0 λf2 c2 P hfn q=>clear% z0;?_;clear hx c j3 h he hs ha rv hxv bQ e0;induction f7 using Ow.listE with
  | @list a us rl hc=>
  refine T.perm (own':=[(a,Cell.list us)]++(bE++rs)) jI ?_;exact T.conv (Q:=λv σ=>∃jE,(∀hp,St fr σ hp->St fr jE hp)/\PQ fr.mt F rs Rp Q v jE) (hfn.go hf room hm (rl.mono fM) r2 λv F3 d l' yF iP rd Cn ju hp=>
   sA (R:=Rp) c2 (.list Cn ju) (ng.keys rfl) (ff.mono iP) (fM.trans iP) rd (q d l' hp)) λz z h=>h) hs)) he
def Wd (l:av)(n:Nat)(i:Nat)(o:Obj):Prop:=o.cls=.type "list_reverseiterator"/\o.data=.fields #[.ref l,rawInt ((n:Int)-1-i)]
theorem NP (hh:A.handled=none){l:ak}(e:F₀ a=some (.list vs))(r:aK F₀ l vs):EZ w A F₀ I (Wd a l.length) l.reverse where
 next:=λfr F Vc own i d E Q hw le hd q hp dr tk st=>by
  have hil:i<l.length:=by have:=(Bu.mp hd).1;simp_all
  rw[List.getElem?_reverse hil] at hd;refine aq ((r.mono le).at' hd) λv hv rv=>gb (st.cell (.head _)) λo ho hc lR=>?_;have ei:((l.length:Int)-1-i)=((l.length-1-i:Nat):Int):=by grind
  rw[ei] at lR;refine wpAny_pyNext_rev_item (i:=l.length-1-i) ⟨o,ho,hc,lR⟩ (cR.is (.inl (le _ _ e)) st) (by simpa using hv) λh' z0 hs=>gb z0 λo' CZ ju Sf=>clear% z0;?_;have ej:((l.length-1-i:Nat):Int)-1=(l.length:Int)-1-(i+1:Nat):=by omega
  rw[ej] at Sf;exact(af h' dr tk _ rfl (st.chg (c':=.obj (Wd a l.length (i+1))) .here hs CZ ⟨ju,Sf⟩) (q v rv))
 done:=λfr F Vc own E Q hw le hn q hp dr tk st=>by
  refine gb (st.cell (.head _)) λo ho hc lR=>?_;have ei:((l.length:Int)-1-(l.reverse.length:Nat))= -1:=by rw[OP];exact YQ.mpr rfl
  rw[ei] at lR;exact wpAny_pyNext_rev_end hh ⟨o,ho,hc,lR⟩ λh' x=>(af h' dr tk _ rfl (wy (t:=(pure ():Sem Unit)) (Q:=λz z=>True) (a:=()) (d:=dr) (tk:=tk) st hn x) q)
 self:=λfr F Vc own i E Q hw q hp dr tk st=>by refine gb (st.cell (.head _)) λo ho hc lR=>wpAny_pyIter_revIter (i:=(l.length:Int)-1-i) ⟨o,ho,hc,lR⟩ (af hp dr tk _ rfl st q)
theorem S3 (hf:dH fr gl){value:aD}{pos:Pos}{Q:bY}{mk:gm}{l:ak}{f:pU}(c:ia x (mk (.list l)) V f)(j3:mk=.ow\/mk=.ln)(hl:l.length<=cap)
  (h:∀v,DT fr A E Rp (f (.at v)) (eval i fr.e) λk V1=>∃f1 n y,ia x (.at v) V1 f1/\k=.int n/\0<=n/\l[n.toNat]? =some y/\
   DT fr A E Rp V1 (eval value fr.e) λdv V2=>gG fr A E Rp V2 (inplaceOp op) y dv λz V3=>∃f3,ia x (.at v) V3 f3/\Q .next (f3 (mk (.list (l.set n.toNat z)))))
  (ha:autoParam (∀ov iv new,augStore i ov iv new=(do holding [new,ov,iv] (setItem ov iv new);release [new,ov,iv] [];pure .next)) wu):DT fr A E RF V (exec (.AugAssign (.Subscript (.Name x px) i pos') op value pos) fr.e) Q:=λF Vc own rs rv=>
 Ze (oV rv c j3 λv aC cs hx f7 ng bQ=>dF hf hx (T.perm jI ((h v).go bQ λu F1 c5 bE k V1 ff cM rk z1=>bB z1 λf1 n y c1 ek hn hy h2=>clear% z1;by
  clear hf c j3 h ha rv hx bQ c1;subst ek;induction rk using Rp.cz with
  | @int t=>
  induction f7 using Ow.listE with
  | @list a us rl hc=>
  refine aq ((rl.mono cM).at' hy) λz0 hz0 rz0=>?_;have hb:=(Bu.mp hy).1;intro hp d tk st;have cI:St fr ⟨F1,c5,(a,.list us)::(bE++rs)⟩ hp:=st.sub ⟨_,(show(bE++((a,Cell.list us)::rs)).Perm ((a,Cell.list us)::(bE++rs)) from nS).symm,fZ _⟩;refine Yq (cR.is (.inr (.head _)) cI) hn (by have:=iH hc;omega) (by simpa using hz0) (af hp d tk _ rfl st ?_);refine(h2.go ff λv2 F2 jX cY dv V2 lH fM rdv q2=>?_);refine(q2 z0 v2 F2 jX cY _ lH (rz0.mono fM) rdv).go λnw F3 nH oR z V3 K3 iP rz bK=>aq bK λf3 c3 q=>clear% bK;?_;have rep:wA (a,Cell.list us) (a,Cell.list (us.set n.toNat nw)) (oR++((a,.list us)::rs)) (oR++((a,.list (us.set n.toNat nw))::rs)):=wA.app .here oR;refine T.conv (Q:=λw σ=>σ=⟨F3,nH,oR++((a,.list (us.set n.toNat nw))::rs)⟩) (BN rep rfl hn (by rw[rl.len];simp_all) (by rw[rl.len];exact hl)) λw σ' e=>?_;rw[e];have agn:Ow F3 (.list (l.set n.toNat z)) (.ref a) [(a,.list (us.set n.toNat nw))]:=.list (((((rl.mono cM).mono fM).mono iP)).set rz) (by simpa using hl);exact aq (sA (R:=RF) (rs:=rs) c3 agn (ng.keys rfl) K3 ((cM.trans fM).trans iP) RF.next q) λjE f' q'=>⟨jE,λhp st=>f' hp (st.sub ⟨_,jI,fZ _⟩),q'⟩))) ha
theorem aap {s:aa}{k:Int}{Q:az}(hk:0<=k)(hx:s.cps[k.toNat]? =some x)(hs':s.length<=cap)(h:Q (.str ⟨#[x]⟩) V)
  (hs:autoParam (∀t u,subscripted slice false (.str s t) (.int k u)=operate [.str s t,.int k u] (getItem (.str s t) (.int k u))) wu):gG fr A E Rp V (subscriptTail value slice) (.str s) (.int k) Q:=λv u F Vc own rest rv ra rb=>by
 induction ra using Rp.fj;induction rb using Rp.cz;have hb:k.toNat<s.length:=by have:=(aeo.mp hx).1;exact this
 exact fun hp d tk st=>uM (show Shared.TypeIs _ (.str _ _) "str" from rfl) PySem.F.slot_str_getitem.lookup (PySem.P.getItem_str (by have:=iH hs';simp;omega) (c:=x) (by
  have e:seqIndex? k s.length=some k.toNat:=by
   unfold seqIndex?
   first|rfl|(split<;>first|rfl|grind)|(simp;omega)
  rw[e];exact hx) (b9 (tk:=tk+1) st rv .str h)) (hs _ _)
theorem KP (hf:dH fr gl){own rest:cN}(rv:RV fr.mt F V Vc own)
  (h:Dt fr A (eval value fr.e) E V λy V1=>∃l ks i t f,y=.dict l/\ia x (.ow (.vec ks i t)) V1 f/\
   ∀F1 c5 aC a d b kt iv es ep,Le F F1->RV fr.mt F1 (f (.at (.ref a))) c5 aC->Rp F1 i iv->kQ F1 l es->a∉fr.mt->d∉fr.mt->b∉fr.mt->
    T fr A (execs tail fr.e) E ⟨F1,c5,aC++([(a,.inst d),(d,.dJ (.str ks kt) iv (.ref b)),(b,.dict es ep)]++rest)⟩ (PQ fr.mt F rest RF Q))
  (hs:autoParam (swapsWith value (some (.Attribute (.Name x px) "attrs" pos')) pos.line fr.e=pure false) wu):
  T fr A (execs (.Assign [.Attribute (.Name x px) "attrs" pos'] value pos::tail) fr.e) E ⟨F,Vc,own++rest⟩ (PQ fr.mt F rest RF Q):=by
 refine bq (dc ((h F Vc own rest rv).goO λu F1 c5 aC cs y V1 bQ cM f7 hm bK=>fX bK λl ks i t f Du=>nX Du λey c q=>clear% bK;clear% Du;?_) hs);subst ey;clear rv h hs;induction f7 using Ow.rC with
 | @dict b es ep rl=>
 refine T.perm (own':=aC++((b,.dict es ep)::rest)) ?_ ?_
 .exact nS
 refine oV bQ c (.inl rfl) λv bE cs hx f7 ng ff=>dF hf hx ?_;clear c bQ hx;induction f7 using Ow.HJ with
 | @vec a d kt iv tv ri rt=>
 refine T.conv (BO (Q:=λz σ=>σ=⟨F1,c5,[(a,.inst d),(d,.dJ (.str ks kt) iv (.ref b))]++(bE++((b,.dict es ep)::rest))⟩) hf.cx rfl) λz σ' e=>?_;rw[e];have LY:=ng.ow' rfl;refine⟨⟨F1,c5,bE++([(a,.inst d),(d,.dJ (.str ks kt) iv (.ref b)),(b,.dict es ep)]++rest)⟩,λhp st=>st.sub ⟨_,?_,fZ _⟩,?_⟩
 .have e1:([(a,Cell.inst d),(d,.dJ (.str ks kt) iv (.ref b)),(b,.dict es ep)]++rest)=[(a,Cell.inst d),(d,.dJ (.str ks kt) iv (.ref b))]++((b,.dict es ep)::rest):=rfl
  rw[e1];exact jI
 .exact q F1 c5 bE a d b kt iv es ep cM ff ri rl (LY _ (.head _)) (LY _ (.tail _ (.head _))) (hm _ (.head _))
section
variable {Q:az}{QF:bY}{QB:Dm}{e:Env}
end
theorem PE:∃b:Bool,swapsWith v (some (.Name tx tp)) k fr.e=pure b:=by induction v using Expr.casesOn<;>exact⟨_,rfl⟩
theorem kR {Q:bY}{iter:aD}{pos':Pos}(hw:iL fr)
  (he:∀u,evalThenUse (.ListComp bA gens scope pos) fr.e u=(do let _<-comprehension (.ListComp bA gens scope pos) scope fr.e pos' (newList []) false (eval iter fr.e) (some u)))
  (he0:eval (.ListComp bA gens scope pos) fr.e=comprehension (.ListComp bA gens scope pos) scope fr.e pos' (newList []) false (eval iter fr.e) none)
  (h:∀(F:ah) (Vc:eX) (own rest:cN),RV fr.mt F V Vc own->∀(use:Option (ao->Sem Unit)) (Q':yw),
   (∀F' D dG own' rs V1 vs,RV fr.mt F' V1 dG own'->Le F F'->(∃V2,Pv tx (.ow (.list rs)) V1 V2/\Q .next V2)->Ow F' (.list rs) (.ref D) [(D,.list vs)]->D∉fr.mt->Kz fr A E use Q' F' D dG ((D,.list vs)::(own'++rest)))->
   T fr A (comprehension (.ListComp bA gens scope pos) scope fr.e pos' (newList []) false (eval iter fr.e) use) E ⟨F,Vc,own++rest⟩ Q'):DT fr A E RF V (exec (.Assign [.Name tx tp] (.ListComp bA gens scope pos) Ci) fr.e) Q:=by
 refine xE (PE (fr:=fr) (tx:=tx) (tp:=tp) (v:=.ListComp bA gens scope pos) (k:=Ci.line)) λb hb=>?_;induction b using pR with
 |false=>exact eK hw (λF Vc own rest rv=>he0▸h F Vc own rest rv none _ λF' D dG own' rs V1 vs h1 h2 h3 h4 h5=>⟨_,V1,own',_,h1,rfl,h2,h4,(λp hp=>by clear hw he he0 h hb rv h1 h2 h3 h4;cases hp with|head=>exact h5|tail z q=>exact aR q),h3⟩) hb
 |true=>exact KY (W:=λd V1=>∃V2,Pv tx (.ow d) V1 V2/\Q .next V2) (hw tx) hb he (λz z h=>h) λF Vc own rest rv u Q' hU=>h F Vc own rest rv (some u) Q' hU
theorem yC {scope:eO}{pos:Pos}{tx:aa}{tp Ci:Pos}(au:VS)(gl':dU){Q:bY}(hf:dH fr gl)(hw:iL fr)(hg:Hs ((("reversed":aa),Value.type "reversed")) gl)(hh:A.handled=none)
  (hB:jZ fr.w.params scope [x] (au.map (·.1)) gl')(aW:∀y∈au.map (·.1),Ce fr y)(rB:∀y∈au.map (·.1),y∈V.map (·.1))
  (h:DT fr A E Rp V (eval arg fr.e) λsrc V1=>∃ds,src=.list ds/\∃f:D->D,ds.length<=cap/\gu au V1/\
   (∀aP,pX fr aP scope [x] (au.map (·.1)) gl'->dH aP gl'->∀d∈ds,DT aP A gO Rp ((x,.fz d)::au) (eval bA aP.e) (λy V4=>y=f d/\Sh au [x] V4))/\∃V2,Pv tx (.ow (.list (ds.reverse.map f))) V1 V2/\Q .next V2)
  (he:autoParam (eval (.Call (.Name "reversed" gp) [arg] [] cp) fr.e=(do callWith cp (<-eval (.Name "reversed" gp) fr.e) [] (backTo cp (starEach [arg] fr.e)) (backToKw cp (keywordEach [] fr.e)))) wu)
  (hs1:autoParam ((backTo cp (starEach [arg] fr.e)).any (·.1)=false) wu)
  (ha:autoParam (starEach [arg] fr.e=(false,eval arg fr.e)::starEach [] fr.e) wu)
  (hs:autoParam (∀x,foldedSetIterable (.Call (.Name "reversed" gp) [arg] [] cp) fr.e x=pure x) wu):
  DT fr A E RF V (exec (.Assign [.Name tx tp] (.ListComp bA [⟨.Name x px,.Call (.Name "reversed" gp) [arg] [] cp,[],0⟩] scope pos) Ci) fr.e) Q:=by
 refine kR (iter:=.Call (.Name "reversed" gp) [arg] [] cp) (pos':=(Expr.Call (.Name "reversed" gp) [arg] [] cp).pos) hw (fun u=>by rfl) (by rfl) fun F Vc own rest rv use Q' hU=>yW (gl':=gl') (caps:=au.map (·.1)) (ts:=[]) (em:=emS bA) (use:=use) (W:=fun d V1=>∃V2,Pv tx (.ow d) V1 V2/\Q .next V2) hf rfl (fun it acc env=>by rfl) hs hB aW rB rv ?_ hU;refine iN (iM hf hg.mem (bJ hf.cx rfl ?_ hs1)) he;refine bU (h.go rv λv F1 c5 aC src V1 bQ cM r1 z0=>jF z0 λds es f ZF bK=>nX bK λgh Tp hq=>clear% bK;clear% z0;?_) ha;subst es;induction r1 using Rp.listE with
 | @list a us e rl hc=>
 refine dP ?_;intro hp d tk st;refine call_reversed_list (cR.is (.inl e) st) ?_;have cI:St fr ⟨F1,c5,(hp.objs.size,.obj (Wd a ds.length 0))::(aC++rest)⟩ (hp.push (revObj a ((us.toArray.size:Int)-1))):=by refine st.bM (c:=.obj (Wd a ds.length 0)) ⟨rfl,?_⟩ rfl;show Data.fields #[.ref a,rawInt ((us.toArray.size:Int)-1)]=.fields #[.ref a,rawInt ((ds.length:Int)-1-(0:Nat))];rw[g7,rl.len];simp
 have hm:=st.fresh.2.2.1;refine⟨_,d,tk,_,rfl,cI,V1,aC,ds.reverse,bQ,cM,?_,kT.mk au (λaF rs=>∃done,ds.reverse=done++aF/\rs=done.map f) rfl gh ⟨[],rfl,rfl⟩ ?_ ?_⟩
 .exact(NP hh e rl).self fr F1 c5 (aC++rest) 0 E _ rfl (aV _ (Wd a ds.length) (aC++rest) rfl rfl (.refl _) hm (NP hh e rl))
 .intro aP hcf D d aF rs Vx z3 sh;refine aq z3 λdone e1 z4=>clear% z3;?_;rw[z4]
  cases sh;refine pV ⟨λz=>?_,λq=>Pz q⟩;have Tj:=aT List.length e1;simp only[OP,fK,wx] at Tj;refine Em.single (by rw[bw];omega) (DT.mono (Tp aP hcf hcf.f d (by rw[<-JY,e1];exact List.mem_append_cons_self)) λy V4 z2=>xA z2 λe2 s4=>clear% z2;⟨⟨done++[d],by simp[e1],by simp[e2]⟩,s4⟩)
 .intro rs z5;refine aq z5 λdone e1 z6=>clear% z5;?_;subst z6
  simp only[pP] at e1;subst e1;exact⟨by rw[bw,OP];exact ZF,hq⟩
theorem aaP (l:uP)(k:aa)(y:D)(j:aa):d9 (tM l k y) j=if k=j then some ((d9 l k).getD []++[y]) else d9 l j:=by
 induction l with
 |nil=>delta tM;simp only[bP];rfl
 |cons p l ih=>
  obtain⟨n,ds⟩:=p;unfold tM;rw[bP,bP];by_cases h1:n=k
  .rw[bg h1,bg h1,bP]
   by_cases h2:n=j
   .rw[bg h2,bg (h1▸h2)];rfl
   .rw[aG h2,aG (λq=>h2 (h1.trans q))];rw[aG h2]
  .rw[aG h1,aG h1,bP,ih]
   by_cases h2:n=j
   .rw[bg h2,aG (λq=>h1 (h2.trans q.symm)),bg h2]
   .rw[aG h2,aG h2]
theorem Wb (l:uP)(k:aa)(y:D):(tM l k y).length<=l.length+1:=by
 induction l with
 |nil=>exact br _
 |cons p l ih=>
  obtain⟨n,ds⟩:=p;unfold tM;split
  .simp
  .simp;omega
end
section
open PySem.SeqAt
variable {fr:Fm}{A:aQ}{α β δ ε:Type}{E:aS}{V V':VS}{gl gl':dU}
theorem ia.mem (c:ia x s V f):(x,s)∈V:=by
 induction c with
 |here=>exact .head _
 |there z ih=>exact .tail _ ih
theorem Ri {Vc own}{hp:Heap}(st:St fr ⟨F,Vc,own⟩ hp)(n:Nat)(h:∀d∈l,aj n d)(r:aK F l vs):∃as,ReadsAll hp vs (kqdPs (dK l)) as:=
 aK.ind (motive:=λl vs=>(∀d∈l,aj n d)->∃as,ReadsAll hp vs (kqdPs (dK l)) as) (λz=>⟨_,.nil⟩) (λr1 z ih h=>(fq st n (h _ (.head _)) r1).elim λas q=>(ih λe he=>h e (.tail _ he)).elim λbs p=>⟨_,.cons q p⟩) r h
theorem Zm (hf:dH fr gl)(room:cC A m)(hm7:7<=m)
  (h:DT fr A E Rp V (eval l fr.e) λd V1=>∃(mk:gm) (f:pU) (l0:ak) (n k:Nat),ia x (mk (.list l0)) V1 f/\(mk=.ow\/mk=.ln)/\(∀y∈l0,aj n y)/\aj k d/\n<=60/\Q (!ph d l0) (f (mk (.list l0))))
  (hm:autoParam (behindInMarks .NotIn (.Name x px)=false) wu):DT fr A E RB V (isTrue (.Compare l [.NotIn] [.Name x px] pos) fr.e whole) Q:=λF Vc own rs rv=>
 mW (h.go rv λu F1 c5 aC d V1 bQ cM r1 z0=>rI z0 λmk f l0 bK=>f9 bK λn k c j3 hl hx hn q=>clear% bK;clear% z0;oV bQ c j3 λv bE cs hxv f7 ng ff=>dF hf hxv (by
  induction f7 using Ow.listE with
  | @list a us rl hc=>
   refine T.conv (Q:=λr σ=>σ=⟨F1,c5,[(a,.list us)]++(bE++rs)⟩/\r=.bool (!ph d l0)) (λhp dd tk st=>?_) λr σ' z1=>xA z1 λe er=>clear% z1;by subst e er;exact aq (RV.El c.self (.list rl hc) ng ff) λoR K3 p4=>⟨⟨F1,c5,oR++rs⟩,λhp st=>st.sub ⟨_,by rw[<-eN];exact p4.append_right rs,fZ _⟩,T.lift cM (IG q _ F1 c5 oR rs K3 .bool)⟩
   refine xE (Ri st n hl rl) λas ra=>sP (st.cell (p:=(a,.list us)) (.head _)) λo ho kk ok=>?_;subst ok;have r2:Reads hp (.ref a) (kqdP (eY (.list l0))) _:=reads_list_at ho rfl rfl (by with_reducible assumption);refine xE (fq st k hx r1) λbs r3=>?_;have la:=uL _ _ (aj.list hl);have la1:PyData.canLayAll0 (kqdPs (dK l0))=true:=la.1;have la2:(PyData.list (kqdPs (dK l0))).depth<=n+1:=la.2;refine SeqAt.notIn_list_reads r2 r3 la1 (uL _ _ hx).1 ?_ (cZ hp dd tk _ rfl st rfl ?_)
   .have:=room.u64 hm7
    simp only[PyData.depth] at la2;omega
   .rw[uI hl hx])) hm
theorem SX (hf:dH fr gl){Q:az}(hx:Hs (x,.at (.ref a)) V)(hb:fr.hb.get? a=some {cls:=.type "list",data:=.seq vs.toArray k})
  (rl:∀F,aK F l vs)(hl:l.length<=1000000)(h:Q (.list (l.take n)) V)
  (hs:autoParam (∀o i,subscripted (.Slice none (some (.Constant (.int (n:Int)) kk cp)) none p) false o i=operate [i,o] (getItem o i)) wu):
  Dt fr A (eval (.Subscript (.Name x px) (.Slice none (some (.Constant (.int (n:Int)) kk cp)) none p) pos) fr.e) E V Q:=λF Vc own rs rv=>
 KO (dF hf (rv.Od hx.mem) (by
  intro vI d0 tk0 K2;refine wpAny_Slice ?_;refine cG ?_;simp only[evalPart_some];refine adA (cG ?_);have yH:St fr ⟨F,Vc,(vI.objs.size,.obj (T8 .none (.int n tk0)))::(own++rs)⟩ (vI.push {cls:=.type "slice",data:=.fields #[.none,.int n tk0,.none]}):=K2.bM ⟨rfl,rfl⟩ rfl;refine(af _ d0 (tk0+1) _ rfl yH ?_);intro hp dr tk st;have cI:St fr ⟨F,Vc,own++rs⟩ hp:=st.sub ⟨_,.refl _,Bt _ _⟩;refine gb (st.cell (.head _)) λo ho qp lR=>?_;have il:hp.IsList a vs.toArray:=(WJ _ (cI.keep _ _ hb) rfl k rfl);have aqd:(1048576:Nat)<=sizeLine:=c9;have jm:vs.toArray.size<=sizeLine:=by rw[g7,(rl F).len];omega
  refine uM il.typeIs ads.lookup ?_ (hs _ _);refine adW il ⟨o,ho,qp,lR⟩ .none (.int _ _) .none (lq (ad7 0)) ?_ jm;rw[slicePick_upto'];have hq:(l.take n).length<=cap:=by have:cap=1048576:=rfl;rw[BD];omega
  refine LB (cI.bM (c:=.list (vs.take n)) ⟨0,rfl⟩ rfl) (g4 cI) rv ((rl F).take n) hq h))
theorem Zx (hf:dH fr gl){g g2:aa}{nO pI:Pos}{x:aa}{px mu:Pos}{lst e2 e3:aD}{mk:gm}{fx:pU}(hx:Hs (g,.ref fa) gl)(hx2:Hs (g2,.ref fb) gl)(c:ia x (mk (.list l0)) V fx)(j3:mk=.ow\/mk=.ln)
  (room:cC A m)(hm:n<=m)(LY:n2<=m)
  (h:∀v,DT fr A E Rp (fx (.at v)) (eval lst fr.e) λd V1=>∃ds f1,d=.list ds/\ia x (.at v) V1 f1/\DT fr A E Rp V1 (eval e2 fr.e) λd2 V2=>∃f2,ia x (.at v) V2 f2/\∃P2,Hp fb n2 l0 [d2] P2/\∀dk l1,P2 dk l1->l1.length<=cap->∃(i:Int) (y:D),dk=.int i/\0<=i/\ds[i.toNat]? =some y/\
   DT fr A E Rp V2 (eval e3 fr.e) λd3 V3=>∃f3,ia x (.at v) V3 f3/\∃P,Hp fa n l1 [y,d3] P/\∀r l2,P r l2->Q r (f3 (mk (.list l2))))
  (he:autoParam (eval (.Call (.Name g nO) [.Name x px,.Subscript lst (.Call (.Name g2 pI) [.Name x mu,e2] [] p2) p3,e3] [] pos) fr.e=(do callWith pos (<-eval (.Name g nO) fr.e) [] (backTo pos (starEach [.Name x px,.Subscript lst (.Call (.Name g2 pI) [.Name x mu,e2] [] p2) p3,e3] fr.e)) (backToKw pos (keywordEach [] fr.e)))) wu)
  (hs:autoParam ((backTo pos (starEach [.Name x px,.Subscript lst (.Call (.Name g2 pI) [.Name x mu,e2] [] p2) p3,e3] fr.e)).any (·.1)=false) wu)
  (ha:autoParam (starEach [.Name x px,.Subscript lst (.Call (.Name g2 pI) [.Name x mu,e2] [] p2) p3,e3] fr.e=(false,eval (.Name x px) fr.e)::starEach [.Subscript lst (.Call (.Name g2 pI) [.Name x mu,e2] [] p2) p3,e3] fr.e) wu)
  (Tr:autoParam (starEach [.Subscript lst (.Call (.Name g2 pI) [.Name x mu,e2] [] p2) p3,e3] fr.e=(false,eval (.Subscript lst (.Call (.Name g2 pI) [.Name x mu,e2] [] p2) p3) fr.e)::starEach [e3] fr.e) wu)
  (ha2:autoParam (starEach [e3] fr.e=(false,eval e3 fr.e)::starEach [] fr.e) wu)
  (he2:autoParam (eval (.Call (.Name g2 pI) [.Name x mu,e2] [] p2) fr.e=(do callWith p2 (<-eval (.Name g2 pI) fr.e) [] (backTo p2 (starEach [.Name x mu,e2] fr.e)) (backToKw p2 (keywordEach [] fr.e)))) wu)
  (Jj:autoParam ((backTo p2 (starEach [.Name x mu,e2] fr.e)).any (·.1)=false) wu)
  (ZH:autoParam (starEach [.Name x mu,e2] fr.e=(false,eval (.Name x mu) fr.e)::starEach [e2] fr.e) wu)
  (hb2:autoParam (starEach [e2] fr.e=(false,eval e2 fr.e)::starEach [] fr.e) wu)
  (gh:autoParam (∀(k:Int) a u,subscripted (.Call (.Name g2 pI) [.Name x mu,e2] [] p2) false (.ref a) (.int k u)=operate [.ref a,.int k u] (getItem (.ref a) (.int k u))) wu):
  DT fr A E Rp V (eval (.Call (.Name g nO) [.Name x px,.Subscript lst (.Call (.Name g2 pI) [.Name x mu,e2] [] p2) p3,e3] [] pos) fr.e) Q:=λF Vc own rs rv=>
 iN (iM hf hx.mem (bJ hf.cx (hf.gl _ hx.mem).2.2.2 (by
  refine oV rv c j3 λv aC cs hxv f7 ng bQ=>bU ?_ ha;refine dF hf hxv (T.perm (own':=aC++(cs++rs)) jI ?_);refine bU ?_ Tr;refine KO ?_;refine(h v).go bQ λul F2 jX bE d V2 ff fM rl2 z0=>dm z0 λds f1 ed c1 h2=>clear% z0;?_;clear hx c j3 h he hs ha Tr rv hxv bQ;subst ed;refine iN (iM hf hx2.mem (bJ hf.cx (hf.gl _ hx2.mem).2.2.2 ?_ Jj)) he2;refine bU ?_ ZH;refine dF hf (ff.Od c1.mem) (bU ?_ hb2);refine h2.go ff λu2 F3 nH cY d2 V3 lH iP r3 z1=>jF z1 λf2 c2 P2 aod h3=>clear% z1;?_;refine dP ?_;clear hx2 he2 Jj ZH hb2 ff c1 h2 c2;induction f7 using Ow.listE with
  | @list a us rl hc=>
  refine T.perm (own':=[(a,Cell.list us)]++(cY++rs)) jI (aod.go hf room LY ((rl.mono fM).mono iP) (.cons r3 .nil) λr F4 dk l1 us1 LI rd rl1 hc1 hp=>?_);refine ig (h3 dk l1 hp hc1) λi y ek hi hy h4=>?_;subst ek;induction rd using Rp.cz with
  | @int t=>
  induction rl2 using Rp.listE with
  | @list b ws eb rlb hcb=>
  have am0:=(rlb.mono iP).mono LI;refine aq (am0.at' hy) λz hz rz=>?_;have NZ:=(Bu.mp hy).1;intro hp dr tk st;refine uM (cR.is (.inl (LI _ _ (iP _ _ eb))) st).typeIs O1.lookup (Yq (cR.is (.inl (LI _ _ (iP _ _ eb))) st) hi (by have:=iH hcb;omega) (by simpa using hz) ?_) (gh _ _ _);refine(af hp dr tk _ rfl st ?_);refine bU ?_ ha2;refine T.perm (own':=cY++((a,Cell.list us1)::rs)) nS ?_;refine h4.go (lH.mono LI) λu3 F5 Y5 lK d3 V5 Nk LH r5 z3=>jF z3 λf3 c3 P hfn hq=>clear% z3;?_;refine dP (T.perm (own':=[(a,Cell.list us1)]++(lK++rs)) (show((a,Cell.list us1)::(lK++rs)).Perm (lK++((a,Cell.list us1)::rs)) from nS.symm) ?_);exact T.conv (Q:=λv σ=>∃jE,(∀hp,St fr σ hp->St fr jE hp)/\PQ fr.mt F rs Rp Q v jE) (hfn.go hf room hm (rl1.mono LH) (.cons (rz.mono LH) (.cons r5 .nil)) λv F6 d l' yF CG rd Cn ju hp=>
   sA (R:=Rp) c3 (.list Cn ju) (ng.keys rfl) (Nk.mono CG) ((((fM.trans iP).trans LI).trans LH).trans CG) rd (hq d l' hp)) λw w h=>h) hs)) he
end
section
variable {fr:Fm}{A:aQ}{α β δ ε:Type}{E:aS}{V V':VS}{gl gl':dU}
theorem Sk (hf:dH fr gl)(hx:(x,v)∈gl)(st:St fr σ hp)(k:∀cX,Q' v ⟨hp, #[],d,cX,fr.os⟩):wpAny (model pw fr.w) A (eval (.Name x pos) fr.e) Q' E ⟨hp, #[],d,tk,fr.os⟩:=by
 refine kU (hf.gl _ hx) λhk hv hn _=>xE (hf.cx.g) λmg hg=>aq (hf.cx.b) λmb hb hbv=>?_;have e1:fr.e.globals=mainGlobals:=st.env.glob;have e2:fr.e.builtins=builtinsNs:=st.env.XC;have hg':hp.Ns fr.e.globals mg:=e1▸hg.keeps st.keep;unfold Ej at hv;split at hv
 .rename_i u hu
  have:=eH.mp hv;clear hx hb hbv e1 e2 hv;subst this;exact OO st.env.kind hk (adp hg' (mg_of hf.cx.K hg hu) (k _)) (oX hn)
 .rename_i hu
  refine xA (J2.mp hv) λb1 b2=>?_;have jr:x≠("__name__":aa):=bne_iff_ne.mp b2;exact OO st.env.kind hk (adz hg' (mg_none_of hf.cx.K hg hu) (e2▸hb.keeps st.keep) ((hbv x jr).trans (eH.mp b1)) (k _)) (oX hn)
 .exact g5 hv
def yb (dd:av)(o:Obj):Prop:=o.cls=.ref nL/\o.dict=some dd/\notCls o=true
theorem Y4.land (AI:fr.e.frame=some fr.e.locals)(x:Y4 fr [] m ⟨F,Vc,own⟩ e dd fl h₁ h fs):
  ∃t,St fr ⟨F,Vc,(dd,.obj (j5 fr.w.params (.str m t)))::(e,.obj (yb dd))::own⟩ h:=by
 have st:=x.st;refine dw (x.msg) λo2 t ho2 LY=>?_;refine jl (x.ddn) λa1 a2 a3 a4 bK=>jl bK λa5 a6 a7 a8 a9=>clear% bK;?_;refine jl (x.en) λb1 b2 b3 b4 bK=>nX bK λb5 b6 b7=>clear% bK;?_;refine M1 (x.ex.exc) λoe vs he hc hd hv v=>?_;have kp:∀a o,a∉fs->a≠e->h₁.get? a=some o->h.get? a=some o:=x.ex.keep;have R8:fr.e.locals∈fs:=x.So.has _ (Bo (.head _) AI);have fsh:∀L∈fs,¬cW fr.h₀ L/\L∉fr.mt:=λL hL=>by
  refine kU (x.So.all L hL) λv v q v=>fU (q) (λq=>?_) λq=>?_
  .cases q
  .exact q
 have Xx:∀y c,fr.e.cells.lookup y=some c->∀ov,h₁.IsCell c ov->h.IsCell c ov:=λy c q ov z0=>aq z0 λo ho K6=>⟨o,kp c o (λz=>(x.So.all c z).2.2.2.2.2 y c q rfl) (b7 y c q) ho,K6⟩;refine⟨t,⟨λa o q=>kp a o (λz=>(x.So.all a z).2.1 ⟨o,q⟩) (λz=>b2 (z▸⟨o,q⟩)) (st.keep a o q),st.kb,st.mg,λa ha=>?_,λa o ha q=>?_,st.gr,λa c q=>?_,λp hp=>?_,?_,st.env,⟨?_,λy ov hy hk=>?_,st.vars.kinds,st.vars.nd⟩,⟨st.fY.1,λp hp=>?_⟩,λy c q=>⟨(st.dM y c q).1,λp hp=>?_,?_⟩⟩⟩
 .exact xE (st.Rz a ha) λo ho=>xE (x.ex.slots a o ho (λz=>b4 (z▸ha))) λsl CZ=>⟨_,CZ⟩
 .exact aq (st.ext a o ha q) λo' CZ r=>⟨o',kp a o' (λz=>(fsh a z).1 ⟨o,q⟩) (λz=>b3 (z▸⟨o,q⟩)) CZ,r⟩
 .refine gy (st.sees a c q) λl o ho r=>⟨l,o,kp a o (λz=>?_) (λz=>?_) ho,r⟩
  .have h0:F a=none:=(x.So.all a z).1
   have q':F a=some c:=q;rw[h0] at q';exact aA q'
  .clear AI x st ho2 LY a1 a2 a3 a4 a5 a6 a7 a8 a9 b2 b3 b4 b5 b6 b7 he hc hd hv kp R8 fsh Xx l ho r;subst z
   have h0:F a=none:=b1;have q':F a=some c:=q;rw[h0] at q';exact aA q'
 .rcases bW.mp hp with rfl|hp
  .exact⟨.inl a5,a3,a4,o2,kp dd o2 a1 a2 ho2,LY⟩
  .rcases bW.mp hp with rfl|hp
   .refine⟨.inl b3,b1,x.nB,oe,he,hc,hd,?_⟩
    unfold notCls;rw[hv]
   .exact b8 (st.own p hp) λc1 c2 c3 o ho r=>⟨c1,c2,c3,o,kp p.1 o (λz=>(x.So.all p.1 z).2.2.2.2.1 p hp rfl) (b5 p hp) ho,r⟩
 .have nd:=st.nd
  simp only[fJ,j7,bW,not_or];refine⟨⟨a2,λq=>?_⟩,λq=>?_,nd⟩
  .exact aq (bN.mp q) λp hp z=>a7 p hp z
  .exact aq (bN.mp q) λp hp z=>b5 p hp z
 .refine aq (st.vars.loc) λmm z1 hmm=>gw z1 λo es ep ho hd1 hd2 hd3=>?_
  obtain⟨sl,CZ⟩:=x.ex.slots fr.e.locals o ho (λz=>b6 z.symm);exact⟨mm,(kH _ es ep CZ hd1 hd2 hd3),hmm⟩
 .exact jF (st.vars.Oa y ov hy hk) λc hc Fz fF R7=>(pH c hc Fz (Xx y c hc _ fF) R7)
 .rcases bW.mp hp with rfl|hp
  .exact a8
  .rcases bW.mp hp with rfl|hp
   .exact b6
   .exact st.fY.2 p hp
 .rcases bW.mp hp with rfl|hp
  .exact λz=>a9 y c q z.symm
  .rcases bW.mp hp with rfl|hp
   .exact λz=>b7 y c q z.symm
   .exact(st.dM y c q).2.1 p hp
 .exact xE ((st.dM y c q).2.2) λov fF=>⟨ov,Xx y c q _ fF⟩
noncomputable def lS (x:aa)(Vc:eX):eX:=Vc.map λp=>if p.1=x then(p.1,none) else p
theorem Mq (x:aa)(Vc:eX):(lS x Vc).map (·.1)=Vc.map (·.1):=by
 unfold lS;rw[eL];exact dZ λp z=>by show(if p.1=x then(p.1,none) else p).1=p.1;split<;>rfl
theorem vQ (h:(y,ov)∈lS x Vc):(y=x/\ov=none/\∃Fz,(y,Fz)∈Vc)\/(y≠x/\(y,ov)∈Vc):=by
 obtain⟨⟨z,oz⟩,hz,e⟩:=bN.mp h;by_cases q:z=x
 .rw[bg q] at e
  cases e;exact .inl ⟨q,rfl,oz,hz⟩
 .rw[aG q] at e
  cases e;exact .inr ⟨q,hz⟩
theorem xd {x:aa}:∀{Vc:eX},x∉Vc.map (·.1)->lS x Vc=Vc
 |[],_=>rfl
 |p::Vc,h=>by simp only[fJ,bW,not_or] at h;show(if p.1=x then(p.1,none) else p)::lS x Vc=_;rw[aG (λq=>h.1 q.symm),xd h.2]
theorem RV.agT (c:ia x (.at v) V f){mt:cP}:∀{Vc:eX} {own:cN},(Vc.map (·.1)).Nodup->RV mt F V Vc own->RV mt F (f .un) (lS x Vc) own:=by
 induction c with
 |here=>
  intro Vc own hn rv;cases rv using RV.atE with
  |«at» rv=>rename_i Vc0;have hx:x∉Vc0.map (·.1):=(j7.mp hn).1;show RV mt F _ ((if x=x then(x,none) else _)::lS x Vc0) _;rw[bg rfl,xd hx];exact .un rv
 | @there p r f c ih=>
  intro Vc own hn rv;have hxr:x∈r.map (·.1):=bN.mpr ⟨_,c.mem,rfl⟩;have hpx:p.1≠x:=λq=>by have hk:=rv.keys;simp only[hk] at hn;exact(j7.mp hn).1 (show p.1∈r.map (·.1) by rw[q];exact hxr)
  have step:∀{ov:nV} {Vc0:eX},lS x ((p.1,ov)::Vc0)=(p.1,ov)::lS x Vc0:=λ{ov Vc0}=>by show(if p.1=x then(p.1,none) else(p.1,ov))::lS x Vc0=_;rw[aG hpx]
  clear c hxr hpx;cases rv with
  |cons s rv=>rw[step];exact .cons s (ih (j7.mp hn).2 rv)
theorem MK (hw:iL fr)(hk:fr.e.kindOf x=some .local)(h:Q () ⟨F,lS x Vc,own⟩):
  T fr A (do bindName fr.e x .none;unbindBehindTheSuite fr.e x pos) E ⟨F,Vc,own⟩ Q:=by
 intro hp d tk st;refine aq (st.vars.loc) λm hm hv=>?_;have kd:fr.e.scope.kind=.function:=st.env.kind;refine wpAny_nameGoes_keeps hk hm (by rw[kd];rfl) λh' v hn hs=>(af h' d (tk+1) _ rfl ?_ h);have jr:∀y c,fr.e.cells.lookup y=some c->c≠fr.e.locals:=λy c e=>st.env.ne y c e;refine st.rO hs st.fY.1 (hw x).lo st.fY.2 ⟨⟨_,hn,λy u hy NV=>?_⟩,λy ov hy NV=>?_,λy ov hy=>?_,by simp only[Mq];exact st.vars.nd⟩ λy c e=>?_
 .rcases vQ hy with⟨_,q,_⟩|⟨q,GB⟩
  .exact fD q
  .rw[aG q];exact hv y u GB NV
 .clear hw h hm hv kd hn;rcases vQ hy with⟨rfl,_,_⟩|⟨q,GB⟩
  .rcases NV with z|z<;>rw[hk] at z<;>cases z
  .exact jF (st.vars.Oa y ov GB NV) λc hc Fz fF R7=>(pH c hc Fz (fF.sameBut hs (jr y c hc)) R7)
 .clear hw hk h hm hv kd hn hs jr;rcases vQ hy with⟨rfl,_,Fz,GB⟩|⟨_,GB⟩
  .exact st.vars.kinds _ _ GB
  .exact st.vars.kinds _ _ GB
 .obtain⟨ov,fF⟩:=(st.dM y c e).2.2
  exact⟨ov,fF.sameBut hs (jr y c e)⟩
theorem RV.alq (c:ia x .un V f){mt:cP}:∀{Vc:eX} {own:cN},RV mt F V Vc own->∃dG,KQ x v Vc dG/\RV mt F (f (.at v)) dG own:=by
 induction c with
 |here=>
  intro Vc own rv;induction rv using RV.unE with
  |un rv=>exact⟨_,.here,.at rv⟩
 |there z ih=>intro Vc own rv;cases rv with|cons s rv=>exact aq (ih rv) λo a p=>⟨_,.there a,.cons s p⟩
def EX (fr:Fm)(m:aa)(V:VS)(F:ah)(rest:cN):aS:=λev s=>∃F1 c5 aC,RV fr.mt F1 V c5 aC/\Le F F1/\XEc fr [] m ⟨F1,c5,aC++rest⟩ ev s
def HB (fr:Fm)(A:aQ)(E:aS)(F:ah)(rest:cN)(Q:bY)(hs:List ExceptHandler)(ev:ao)(s:cO):Prop:=wpAny (model pw fr.w) A (handleBy ev fr.e hs) (Po fr (PQ fr.mt F rest RF Q)) E s
def TR (fr:Fm)(A:aQ)(E:aS)(F:ah)(rest:cN)(Q:bY)(hs:List ExceptHandler)(ev:ao)(s:cO):Prop:=wpAny (model pw fr.w) A (noteFrame ev fr.e) (λz s=>wpAny (model pw fr.w) A (setFlight ev none) (λz s=>HB fr A E F rest Q hs ev s) E s) E s
theorem Zc (hf:dH fr gl)(hw:iL fr)(sk:wz fr A []){m:aa}{Q:bY}{F:ah}{Vc:eX}{fe:pU}(hg:Hs ((("Refusal":aa),Value.ref 398)) gl)
  (hk:fr.e.kindOf "error"=some .local)(rv:RV fr.mt F V Vc own)(c:ia "error" .un V fe)
  (fV:T fr A (execs body fr.e) (EX fr m V F rest) ⟨F,Vc,own++rest⟩ (λf σ'=>f≠.next/\PQ fr.mt F rest RF Q f σ'))
  (hh:∀(e dd:av) (t:Tok) F2 jX bE,RV fr.mt F2 (fe (.at (.ref e))) jX bE->T fr (A.mark (some (.ref e))) (execs (alo::hb) fr.e) gO ⟨F2,jX,bE++((dd,.obj (j5 fr.w.params (.str m t)))::(e,.obj (yb dd))::rest)⟩
   (fun f σ'=>∃d V3 cY f3,σ'.own=cY++((dd,.obj (j5 fr.w.params (.str m t)))::(e,.obj (yb dd))::rest)/\Le F2 σ'.F/\RV fr.mt σ'.F V3 σ'.V cY/\ia "error" (.at (.ref e)) V3 f3/\RF σ'.F d f/\Q d (f3 .un))):
  T fr A (exec (.Try body [.ExceptHandler (some (.Name "Refusal" p1)) (some "error") (alo::hb) p2] [] [] pos) fr.e) E ⟨F,Vc,own++rest⟩ (PQ fr.mt F rest RF Q):=by
 intro hp d tk st;refine wpAny_Try_except (fk (fV hp d tk st) (λf s z0=>gR z0 λh' d' cX σ' es cI jr hq=>clear% z0;?_) λev s hx=>?_)
 .rw[es]
  induction f using Zc3 with
  |next=>exact absurd rfl jr
  |_=>exact⟨h',d',cX,σ',rfl,cI,hq⟩
 show TR fr A E F rest Q [.ExceptHandler (some (.Name "Refusal" p1)) (some "error") (alo::hb) p2] ev s;refine i9 hx λF1 c5 aC bQ cM bK=>fX bK λe dd fl F' h₁ Du=>gR Du λh d tk fs e1 e2 fM x=>clear% bK;clear% Du;clear% hx;?_;subst e1 e2;refine aq (RV.alq (v:=.ref e) c (bQ.mono fM)) λVc4 pc K3=>E2 sk x λh2 x2=>yZ x2 λh3 x3=>?_;show HB fr A E F rest Q _ _ _;refine xE (x3.land sk.frame) λt0 yH=>?_;have hC:h3.get? 398=some mD:=hf.cx.K.keeps yH.keep _ _ (abd _);unfold mD at hC;refine dm (x3.ex.exc) λoe vs he hc y=>wpAny_handleBy_cons (codeAny_handlers_test (Sk hf hg.mem yH λTV=>?_)) (by intro q;cases q);refine wpAny_excMatches_sub_self hC he hc (by decide) (codeAny_handlers_suite_as ?_);refine yZ x3 fun h4 x4=>xE (x4.land sk.frame) fun t K1=>(uQ (Q:=fun y σ=>σ=⟨F',Vc4,(dd,.obj (j5 fr.w.params (.str m t)))::(e,.obj (yb dd))::(aC++rest)⟩) (hw "error") pc rfl).bG K1 fun y h5 d5 Zy σ5 B3 e5=>?_;subst e5;have Li:St fr ⟨F',Vc4,aC++((dd,.obj (j5 fr.w.params (.str m t)))::(e,.obj (yb dd))::rest)⟩ h5:=B3.sub ⟨_,by have e1:(aC++((dd,Cell.obj (j5 fr.w.params (.str m t)))::(e,Cell.obj (yb dd))::rest)).Perm ((dd,Cell.obj (j5 fr.w.params (.str m t)))::(e,Cell.obj (yb dd))::(aC++rest)):=nS.trans (List.Perm.cons _ nS);exact e1,fZ _⟩;refine fk (hh e dd t F' Vc4 aC K3 h5 d5 Zy Li) (λf s z1=>gv z1 λh6 d6 zm σ6 es xD bK=>cU bK λdr V6 tD f6 eo6 CG Hy c6 rr q6=>clear% bK;clear% z1;?_) λy y z=>z.elim;simp only[es];obtain⟨F6,SO,o6⟩:=σ6;have eo6:o6=tD++((dd,.obj (j5 fr.w.params (.str m t)))::(e,.obj (yb dd))::rest):=eo6;subst eo6;have rv7:=RV.agT c6 xD.vars.nd Hy;refine fk ((MK (A:=A) (E:=E) (pos:=p2) hw hk (Q:=fun y σ=>σ=⟨F6,lS "error" SO,tD++((dd,.obj (j5 fr.w.params (.str m t)))::(e,.obj (yb dd))::rest)⟩) rfl) h6 d6 zm xD) (fun y s z2=>gv z2 fun h7 d7 tk7 σ7 es st7 e7=>clear% z2;?_) fun y y z=>z;subst es e7;refine(af h7 d7 tk7 ⟨F6,lS "error" SO,tD++rest⟩ rfl (st7.sub ⟨_,.refl _,(fZ _).append ((Bt _ _).trans (Bt _ _))⟩) (cg rv7 ((cM.trans fM).trans CG) rr q6))
theorem ajp {X Y:Type}{f:X->Y}{d:Y}{t:List Y}{l:List X}{P:Prop}(h:d::t=l.map f)(k:∀a r,l=a::r->d=f a->t=r.map f->P):P:=match l,h with
 |a::r,h=>k a r rfl (Kc h).1 (Kc h).2
theorem ajo {X Y:Type}{f:X->Y}{l:List X}(h:[]=l.map f):l=[]:=ER.mp h.symm
theorem Sh.one (h:Sh c [x] V):∃s,(s=Sl.un\/∃z,s=Sl.fz z)/\V=(x,s)::c:=by
 cases h with
 |un s=>cases s;exact⟨_,.inl rfl,rfl⟩
 |fz s=>cases s;exact⟨_,.inr ⟨_,rfl⟩,rfl⟩
def ahr (fr:Fm)(A:aQ)(V:VS)(gl':dU)(bA cQ:aD)(x1 x2:aa)(scope:eO)(au:VS)(Q:az)(src:D){X Y:Type}(xs:List X)(ys:X->List Y)(G:X->D)(G2:Y->D)(H:X->Y->D):Prop:=
 gq fr.w A src (xs.map G)/\(xs.flatMap ys).length<=cap/\gu au V/\
  (∀aP,pX fr aP scope [x1,x2] (au.map (·.1)) gl'->∀a∈xs,∀s2,(s2=.un\/∃z,s2=.fz z)->DT aP A gO Rp ((x1,.fz (G a))::(x2,s2)::au) (eval cQ aP.e) (λLj V2=>V2=(x1,.fz (G a))::(x2,s2)::au/\gq aP.w A Lj ((ys a).map G2)/\
   ∀b∈ys a,DT aP A gO Rp ((x1,.fz (G a))::(x2,.fz (G2 b))::au) (eval bA aP.e) (λy V3=>y=H a b/\V3=(x1,.fz (G a))::(x2,.fz (G2 b))::au)))/\
  Q (.list (xs.flatMap λa=>(ys a).map (H a))) V
def Hu (fr:Fm)(A:aQ)(V:VS)(gl':dU)(bA cQ:aD)(x1 x2:aa)(scope:eO)(au:VS)(Q:az)(src:D):Prop:=
 ∃(X Y:Type) (xs:List X) (ys:X->List Y) (G:X->D) (G2:Y->D) (H:X->Y->D),ahr fr A V gl' bA cQ x1 x2 scope au Q src xs ys G G2 H
section
variable {bA iter cQ:aD}{x1 x2:aa}{K4 mu:Pos}{scope:eO}{pos pos':Pos}{au:VS}{tx:aa}{tp Ci:Pos}
theorem O9 {use:Option (ao->Sem Unit)}{W:az}(hf:dH fr gl)
  (hB:jZ fr.w.params scope [x1,x2] (au.map (·.1)) gl')(aW:∀y∈au.map (·.1),Ce fr y)(rB:∀y∈au.map (·.1),y∈V.map (·.1))(Jj:∀(e:Env) x,foldedSetIterable cQ e x=pure x)
  (h:DT fr A E Rp V (eval iter fr.e) λsrc V1=>Hu fr A V1 gl' bA cQ x1 x2 scope au W src)
  (hs:∀x,foldedSetIterable iter fr.e x=pure x){F:ah}{Vc:eX}(rv:RV fr.mt F V Vc own)
  (hU:∀F' D dG own' rs V1 vs,RV fr.mt F' V1 dG own'->Le F F'->W (.list rs) V1->Ow F' (.list rs) (.ref D) [(D,.list vs)]->D∉fr.mt->Kz fr A E use Q F' D dG ((D,.list vs)::(own'++rest))):
  T fr A (comprehension (.ListComp bA [⟨.Name x1 K4,iter,[],0⟩,⟨.Name x2 mu,cQ,[],0⟩] scope pos) scope fr.e pos' (newList []) false (eval iter fr.e) use) E ⟨F,Vc,own++rest⟩ Q:=by
 refine yW (gl':=gl') (ts:=[x2]) (em:=em2 (.ListComp bA [⟨.Name x1 K4,iter,[],0⟩,⟨.Name x2 mu,cQ,[],0⟩] scope pos) cQ) hf rfl (λit acc env=>JO _ _ _ _ _ _ _ _ _ _ _ _ _ _) hs hB aW rB rv (Mv ?_ rv) hU;refine DT.mono h λsrc V1 z=>?_;obtain⟨X,Y,xs,ys,G,G2,H,z⟩:=z;refine jl z λh1 h2 h3 h4 h5=>?_;clear z;refine⟨xs.map G,h1,kT.mk au (λaF rs=>∃done fm,xs=done++fm/\aF=fm.map G/\rs=done.flatMap λa=>(ys a).map (H a)) rfl h3 (eB [] xs rfl rfl rfl) (λaP hc D d aF rs Vx z sh=>dm z λdone fm e1 e2 er=>clear% z;ajp e2 λa t et ed ett=>?_) (λrs z=>dm z λdone fm e1 e2 er=>clear% z;?_)⟩
 .rw[et] at e1
  clear e2 et fm;have ha:a∈xs:=by rw[e1];exact lz _ (.head _)
  have qp:(done.flatMap ys).length+(ys a).length<=cap:=by have:=aT (λl=>(l.flatMap ys).length) e1;simp only[YI,Ko,fK,fK] at this;exact aB (aB (adP (xj _ _) _) (fh this.symm)) h2
  clear h1 h2 h5;refine aq sh.one λs2 aj6 eV=>?_;clear sh;rw[ed,er,eV];refine pV ⟨λv=>?_,λq=>Pz q⟩;refine Em.two (hc.wr x2 (.tail _ (.head _))) trivial (Jj _) (λit acc env=>JN _ _ _ _ _ _ _ _ _ _ _ _ _ _) ?_;refine DT.mono (h4 aP hc a ha s2 aj6) λLj V2 z1=>nX z1 λe2 an7 Tp=>clear% z1;?_;simp only[e2];refine⟨(ys a).map G2,λacN rs V=>∃JG HO s,(s=Sl.un\/∃z,s=Sl.fz z)/\ys a=JG++HO/\acN=HO.map G2/\rs=(done.flatMap λa=>(ys a).map (H a))++JG.map (H a)/\V=(x1,.fz (G a))::(x2,s)::au,an7,aV [] (ys a) s2 aj6 rfl rfl (pP _).symm rfl,λd2 acN rs V z=>bB z λJG HO s hs3 e3 e4 er2 eV2=>clear% z;ajp e4 λb t3 et3 ed2 aoC=>?_,λrs V' z=>bB z λJG HO s hs3 e3 e4 er2 eV2=>clear% z;?_⟩
  .rw[et3] at e3
   clear e4 et3 HO;rw[ed2,er2,eV2];refine⟨(x1,.fz (G a))::(x2,.fz (G2 b))::au,.there .here,pV ⟨λv=>?_,λq=>Pz q⟩⟩;refine Em.single ?_ (DT.mono (Tp b (by rw[e3];exact lz _ (.head _))) λy V4 z2=>xA z2 λe1 e2=>clear% z2;aV (JG++[b]) t3 (.fz (G2 b)) (.inr ⟨_,rfl⟩) (by simp only[e3,eN];rfl) aoC (by rw[e1,dN,eN];rfl) e2);have e4:=aT List.length e3;simp only[fK,wx] at e4;rw[fK,bw,YJ];rw[YJ] at qp;simp only[bw];omega
  .rw[ajo e4,pP] at e3
   rw[er2,eV2];refine⟨eB (done++[a]) t (by rw[e1,eN];rfl) ett (by rw[YI,Ko,List.flatMap_nil,pP,e3]),?_⟩;refine fU (hs3) (λe=>?_) λe=>?_
   .rw[e];exact .fz (.un .nil)
   .refine xE e λz e=>?_
    rw[e];exact .fz (.fz .nil)
 .rw[ajo e2,pP] at e1
  rw[er,<-e1];refine⟨?_,h5⟩;rw[YJ] at h2 ⊢;simp only[bw];exact h2
theorem acD (hf:dH fr gl)
  (hB:jZ fr.w.params scope [x1,x2] (au.map (·.1)) gl')(aW:∀y∈au.map (·.1),Ce fr y)(rB:∀y∈au.map (·.1),y∈V.map (·.1))(Jj:∀(e:Env) x,foldedSetIterable cQ e x=pure x)
  (h:DT fr A E Rp V (eval iter fr.e) λsrc V1=>Hu fr A V1 gl' bA cQ x1 x2 scope au Q src)(hs:∀x,foldedSetIterable iter fr.e x=pure x):DT fr A E Rp V (eval (.ListComp bA [⟨.Name x1 K4,iter,[],0⟩,⟨.Name x2 mu,cQ,[],0⟩] scope pos) fr.e) Q:=
 uS λF Vc own rest rv=>O9 (pos':=iter.pos) (use:=none) hf hB aW rB Jj h hs rv λF' D dG own' rs V1 vs h1 h2 h3 h4 h5=>⟨_,V1,own',_,h1,rfl,h2,h4,(λp hp=>by cases hp with|head=>exact h5|tail z q=>exact aR q),h3⟩
theorem Ds (hf:dH fr gl)(hw:iL fr)
  (hB:jZ fr.w.params scope [x1,x2] (au.map (·.1)) gl')(aW:∀y∈au.map (·.1),Ce fr y)(rB:∀y∈au.map (·.1),y∈V.map (·.1))(Jj:∀(e:Env) x,foldedSetIterable cQ e x=pure x)
  (h:DT fr A E Rp V (eval iter fr.e) λsrc V1=>Hu fr A V1 gl' bA cQ x1 x2 scope au (λd V1=>∃V2,Pv tx (.ow d) V1 V2/\Q .next V2) src)(hs:∀x,foldedSetIterable iter fr.e x=pure x):
  DT fr A E RF V (exec (.Assign [.Name tx tp] (.ListComp bA [⟨.Name x1 K4,iter,[],0⟩,⟨.Name x2 mu,cQ,[],0⟩] scope pos) Ci) fr.e) Q:=
 kR (iter:=iter) (pos':=iter.pos) hw (λu=>by rfl) (by rfl) λF Vc own rest rv use Q' hU=>O9 (use:=use) (W:=λd V1=>∃V2,Pv tx (.ow d) V1 V2/\Q .next V2) hf hB aW rB Jj h hs rv hU
end
structure aeD {X:Type} (fr:Fm) (A:aQ) (gl':dU) (bA:aD) (x:aa) (gJ:c7) (scope:eO) (au:VS) (xs:List X) (F G:X->D) (p:X->Bool):Prop where
 turn:∀aP,pX fr aP scope [x] (au.map (·.1)) gl'->∀a∈xs,DT aP A gO RB ((x,.fz (F a))::au) (kh gJ aP.e) (λok V3=>V3=(x,.fz (F a))::au/\ok=p a/\(p a=true->DT aP A gO Rp ((x,.fz (F a))::au) (eval bA aP.e) (λy V4=>y=G a/\V4=(x,.fz (F a))::au)))
def pW (fr:Fm)(A:aQ)(V:VS)(gl':dU)(bA:aD)(x:aa)(gJ:c7)(scope:eO)(au:VS)(Q:az)(src:D):Prop:=
 ∃(X:Type) (xs:List X) (F G:X->D) (p:X->Bool),gq fr.w A src (xs.map F)/\(xs.filter p).length<=cap/\gu au V/\aeD fr A gl' bA x gJ scope au xs F G p/\Q (.list ((xs.filter p).map G)) V
theorem pW.core (h:DT fr A E Rp V (eval iter fr.e) λsrc V1=>∃au:VS,au.map (·.1)=caps/\pW fr A V1 gl' bA x gJ scope au W src):
  DT fr A E Rp V (eval iter fr.e) λsrc V1=>∃ds,gq fr.w A src ds/\kT fr A scope x [] caps gl' gJ (emS bA) W ds V1:=by
 refine DT.mono h λsrc V1 z=>aq z λau ec z=>Exists.elim z λX z=>Tv z λxs F G p z=>jl z λh1 h2 h3 h4 h5=>⟨xs.map F,h1,kT.mk au (λaF rs=>∃done fm,xs=done++fm/\aF=fm.map F/\rs=(done.filter p).map G) ec h3 (eB [] xs rfl rfl rfl) ?_ ?_⟩
 .intro aP hc D d aF rs Vx z sh
  refine dm z λdone fm e1 e2 e3=>?_;induction fm using nU with
  |nil=>cases e2
  |cons c fm=>
  refine xA (Kc e2) λz2 z3=>?_;rw[Sh.fR sh,z2,z3,e3];have ea:xs=(done++[c])++fm:=by simp only[e1,eN];rfl
  refine(h4.turn aP (ec▸hc) c (by rw[e1];exact lz _ (.head _))).mono λok V3 z=>nX z λz4 z5 k=>?_;clear h z ec h1 h3 h4 h5 hc sh e1 e2 z2 z3;subst z4 z5;refine⟨λep=>?_,λep=>?_⟩
  .have ef:(done++[c]).filter p=done.filter p++[c]:=by rw[EN,EJ,bg ep,Ke]
   have hl:((done++[c]).filter p).length<=(xs.filter p).length:=by rw[ea,EN (done++[c]),fK];exact xj ..
   simp only[ef,fK,J3] at hl;exact Em.single (by rw[bw];exact Bq (eW (OG _) (aB hl h2))) (DT.mono (k ep) λy V4 z1=>xA z1 λe3 s4=>by rw[e3,s4];exact⟨eB (done++[c]) fm ea rfl (by rw[ef,dN];rfl),.fz .nil⟩)
  .have ef:(done++[c]).filter p=done.filter p:=by rw[EN,EJ,aG (by rw[ep];exact sG),Ke,pP]
   exact⟨eB (done++[c]) fm ea rfl (by rw[ef]),.fz .nil⟩
 .intro rs z
  refine dm z λdone fm e1 e2 e3=>?_;simp only[ER.mp e2.symm,pP] at e1;rw[e3,<-e1];exact⟨by rw[bw];exact h2,h5⟩
section
variable {bA:aD}{x:aa}{px:Pos}{iter:aD}{gJ:c7}{scope:eO}{pos:Pos}{tx:aa}{tp Ci:Pos}{caps:ay}
theorem acr (hf:dH fr gl)
  (hB:jZ fr.w.params scope [x] caps gl')(aW:∀y∈caps,Ce fr y)(rB:∀y∈caps,y∈V.map (·.1))(h:DT fr A E Rp V (eval iter fr.e) λsrc V1=>∃au:VS,au.map (·.1)=caps/\pW fr A V1 gl' bA x gJ scope au Q src)
  (hs:∀x,foldedSetIterable iter fr.e x=pure x):Dt fr A (eval (.ListComp bA [⟨.Name x px,iter,gJ,0⟩] scope pos) fr.e) E V Q:=λF Vc own rest rv=>by
 exact yW (gl':=gl') (ts:=[]) (em:=emS bA) hf rfl (λit acc env=>by rfl) hs hB aW rB rv (Mv (pW.core h) rv) λF' D dG own' rs V1 vs h1 h2 h3 h4 h5=>⟨_,V1,own',_,h1,rfl,h2,h4,(λp hp=>by cases hp with|head=>exact h5|tail z q=>exact aR q),h3⟩
theorem acC (hf:dH fr gl)
  (hB:jZ fr.w.params scope [x] caps gl')(aW:∀y∈caps,Ce fr y)(rB:∀y∈caps,y∈V.map (·.1))(h:DT fr A E Rp V (eval iter fr.e) λsrc V1=>∃au:VS,au.map (·.1)=caps/\pW fr A V1 gl' bA x gJ scope au Q src)
  (hs:∀x,foldedSetIterable iter fr.e x=pure x):DT fr A E Rp V (eval (.ListComp bA [⟨.Name x px,iter,gJ,0⟩] scope pos) fr.e) Q:=uS (acr hf hB aW rB h hs)
theorem Dr (hf:dH fr gl)(hw:iL fr)
  (hB:jZ fr.w.params scope [x] caps gl')(aW:∀y∈caps,Ce fr y)(rB:∀y∈caps,y∈V.map (·.1))
  (h:DT fr A E Rp V (eval iter fr.e) λsrc V1=>∃au:VS,au.map (·.1)=caps/\pW fr A V1 gl' bA x gJ scope au (λd V1=>∃V2,Pv tx (.ow d) V1 V2/\Q .next V2) src)
  (hs:∀x,foldedSetIterable iter fr.e x=pure x):DT fr A E RF V (exec (.Assign [.Name tx tp] (.ListComp bA [⟨.Name x px,iter,gJ,0⟩] scope pos) Ci) fr.e) Q:=by
 exact kR (iter:=iter) (pos':=iter.pos) hw (λu=>by rfl) (by rfl) λF Vc own rest rv use Q' hU=>
  yW (gl':=gl') (ts:=[]) (em:=emS bA) (use:=use) (W:=λd V1=>∃V2,Pv tx (.ow d) V1 V2/\Q .next V2) hf rfl (λit acc env=>by rfl) hs hB aW rB rv (Mv (pW.core h) rv) hU
end
def Ht (fr:Fm)(A:aQ)(V:VS)(gl':dU)(bA:aD)(x y:aa)(scope:eO)(cB:VS)(Q:az)(src:D):Prop:=
 ∃(ds:ak) (d0:D) (mk:gm) (f:pU) (Inv:ak->ak->D->Prop),ia y (mk d0) V f/\(mk=.ow\/mk=.ln)/\qX d0=true/\gq fr.w A src ds/\gu cB V/\Inv ds [] d0/\
  (∀aP,pX fr aP scope [x] (y::cB.map (·.1)) gl'->∀d aF rs dy,Inv (d::aF) rs dy->rs.length<=cap/\DT aP A gO Rp ((x,.fz d)::(y,.ln dy)::cB) (eval bA aP.e) (λr V4=>∃ZI,Inv aF (rs++[r]) ZI/\V4=(x,.fz d)::(y,.ln ZI)::cB))/\
  ∀rs dy,Inv [] rs dy->rs.length<=cap/\qX dy=true/\Q (.list rs) (f (mk dy))
section
variable {bA:aD}{x:aa}{px:Pos}{iter:aD}{scope:eO}{pos pos':Pos}{y:aa}{cB:VS}
def ahq (fr:Fm)(F:ah)(rest:cN)(W:az)(F':ah)(D:av)(dG:eX)(o:cN):Prop:=∃own' o1 rs V1 vs,o=(D,.list vs)::o1/\(own'++rest).Perm o1/\RV fr.mt F' V1 dG own'/\Le F F'/\W (.list rs) V1/\Ow F' (.list rs) (.ref D) [(D,.list vs)]/\D∉fr.mt
theorem KW
  (hf:dH fr gl)(hs:∀x,foldedSetIterable iter fr.e x=pure x)
  (hB:jZ fr.w.params scope [x] (y::cB.map (·.1)) gl')(aW:∀z∈y::cB.map (·.1),Ce fr z)(rB:∀z∈y::cB.map (·.1),z∈V.map (·.1))
  (h:DT fr A E Rp V (eval iter fr.e) λsrc V1=>Ht fr A V1 gl' bA x y scope cB W src)
  {F:ah}{Vc:eX}(rv:RV fr.mt F V Vc own)
  (hU:∀F' D dG own' rs V1 vs,RV fr.mt F' V1 dG own'->Le F F'->W (.list rs) V1->Ow F' (.list rs) (.ref D) [(D,.list vs)]->D∉fr.mt->Kz fr A E use Q F' D dG ((D,.list vs)::(own'++rest))):
  T fr A (comprehension (.ListComp bA [⟨.Name x px,iter,[],0⟩] scope pos) scope fr.e pos' (newList []) false (eval iter fr.e) use) E ⟨F,Vc,own++rest⟩ Q:=by
 refine T.conv (Q:=λv σ'=>∃jE,(∀hp,St fr σ' hp->St fr jE hp)/\Q v jE) ?_ (λt t h=>h);refine Es (gl':=gl') (ts:=[]) (em:=emS bA) (caps:=y::cB.map (·.1)) hf rfl (λit acc env=>by rfl) hs hB.b hB.kind aW (λz hz=>?_) (ahq fr F rest W) ?_ (λF' D dG o z0=>Hv z0 λown' o1 bK=>l9 bK λrs V1 vs e hp h1 h2 h3 h4 h5=>clear% bK;clear% z0;?_)
 .have:=rB z hz
  rw[<-rv.keys] at this;obtain⟨⟨a,b⟩,hp,e⟩:=bN.mp this;clear hf hs hB aW rB h rv hU hz;subst e;exact⟨b,hp⟩
 .refine h.go rv λv F1 c5 aC src V1 bQ cM r1 z0=>fX z0 λds d0 mk f Inv bK=>jl bK λc j3 Jl B4 Du=>kU Du λgh qF jP xX=>clear% bK;clear% Du;clear% z0;?_
  refine bB (bQ.TX j3 c) λyv bE cs hy f7 ng dQ ff=>gb (gh.rv bQ) λsN hr hk vJ=>?_;have nN:=hB.nd;refine uT.mk (lent:=cs++[]) (rest:=bE++rest) ((x,.un)::(y,.ln d0)::cB) ((x,none)::(y,some yv)::sN)
   (λaF rs Vx=>∃s dy,(s=.un\/∃d,s=.fz d)/\Inv aF rs dy/\Vx=(x,s)::(y,.ln dy)::cB) (gq.itr B4 r1 ?_) (eB .un d0 (.inl rfl) qF rfl) (λmt hm=> .un (.ln f7 (λp hp=>hm p (uJ _ hp)) (hr mt))) (λz ov hz=>?_) ?_ (λaP hc D d aF rs Vx z1=>dm z1 λs dy hs i1 e=>clear% z1;?_) (λF' D rs V' Kw qW vs mt le' hD z2 rl ic Js=>dm z2 λs dy hs i1 e=>clear% z2;?_)
  .rw[pP,<-eN];exact dQ.append_right rest
  .rcases bW.mp hz with e|hz
   .clear hf hs hB aW rB h rv hU bQ cM r1 c j3 Jl B4 gh qF jP xX hy f7 ng dQ ff hr hk vJ nN hz;cases e;exact .inr ⟨.head _,rfl⟩
   .refine fU (bW.mp hz) (λe=>?_) λhz=>?_
    .clear hf hs hB aW rB h rv hU bQ cM r1 c j3 Jl B4 gh qF jP xX f7 ng dQ ff hr hk vJ nN hz;cases e;exact .inl ⟨.head _,hy⟩
    .exact .inl ⟨.tail _ (by rw[<-hk];exact bN.mpr ⟨_,hz,rfl⟩),vJ _ hz⟩
  .simp only[fJ,hk];exact nN
  .rw[e]
   obtain⟨hl,ht⟩:=jP aP hc d aF rs dy i1;refine⟨_,.here,pV ⟨λt=>?_,λq=>Pz q⟩⟩;exact Em.single hl (DT.mono ht λr V4 z4=>aq z4 λZI h1 h2=>clear% z4;(eB (.fz d) ZI (.inr ⟨d,rfl⟩) h1 h2))
  .subst e
   refine nX (xX rs dy i1) λdg LZ hq=>?_;have key:∀{Vt:eX},RV mt F' ((y,.ln dy)::cB) Vt qW->(∀p∈Vt,p∈Kw)->∃cs',Ow F' dy yv cs'/\qW=cs':=by
    intro Vt rvt an8;induction rvt using RV.lnE with
    | @ln yv' cs' _ o R6 _ rvc=>have:=gh.all.own rvc;rw[this];have e:=Js y (.head _) yv yv' hy (an8 _ (.head _));rw[e];exact⟨cs',R6,by exact pP ..⟩
   have ⟨cs',R6,ec⟩:∃cs',Ow F' dy yv cs'/\qW=cs':=by
    rcases hs with rfl|⟨d,rfl⟩
    .clear hf hs hB aW rB h rv hU bQ cM r1 c j3 Jl B4 gh qF jP xX hy f7 ng dQ ff hr hk vJ nN le' hD rl Js i1 dg LZ hq;induction ic using RV.unE with|un rvt=>exact key rvt λp hp=> .tail _ hp
    .clear hf hs hB aW rB h rv hU bQ cM r1 c j3 Jl B4 gh qF jP xX hy f7 ng dQ ff hr hk vJ nN le' hD rl Js i1 dg LZ hq;cases ic using RV.fzE with|fz t rvt=>exact key rvt λp hp=> .tail _ hp
   rw[ec];refine aq (RV.El c.self R6 (ng.keys (Ow.key f7 R6 Jl LZ)) (ff.mono le')) λcY lH p3=>(Tf cY _ (mK rs _ vs rfl ?_ lH (cM.trans le') hq (.list rl dg) hD));rw[<-eN];exact p3.append_right rest
 .rw[e]
  have q:=hU F' D dG own' rs V1 vs h1 h2 h3 h4 h5;clear hf hs hB aW rB rv hU h1 h2 h3 h4 h5;induction use using fL with
  |none=>exact⟨_,λmL st=>st.sub ⟨_,(List.Perm.cons _ hp),fZ _⟩,q⟩
  |some u=>exact λC=>T.perm (List.Perm.cons _ (List.Perm.cons _ hp)) ((q C).mono λt kg z0=>aq z0 λo2 e q=>(pH o2 e _ (λt h=>h) q))
theorem Zw (hf:dH fr gl)
  (hB:jZ fr.w.params scope [x] (y::cB.map (·.1)) gl')(aW:∀z∈y::cB.map (·.1),Ce fr z)(rB:∀z∈y::cB.map (·.1),z∈V.map (·.1))
  (h:DT fr A E Rp V (eval iter fr.e) λsrc V1=>Ht fr A V1 gl' bA x y scope cB Q src)(hs:∀x,foldedSetIterable iter fr.e x=pure x):DT fr A E Rp V (eval (.ListComp bA [⟨.Name x px,iter,[],0⟩] scope pos) fr.e) Q:=
 uS λF Vc own rest rv=>KW (pos':=iter.pos) (use:=none) hf hs hB aW rB h rv λF' D dG own' rs V1 vs h1 h2 h3 h4 h5=>⟨_,V1,own',_,h1,rfl,h2,h4,(λp hp=>by cases hp with|head=>exact h5|tail v q=>exact aR q),h3⟩
theorem BY (hf:dH fr gl)(hw:iL fr)
  (hB:jZ fr.w.params scope [x] (y::cB.map (·.1)) gl')(aW:∀z∈y::cB.map (·.1),Ce fr z)(rB:∀z∈y::cB.map (·.1),z∈V.map (·.1))
  (h:DT fr A E Rp V (eval iter fr.e) λsrc V1=>Ht fr A V1 gl' bA x y scope cB (λd V1=>∃V2,Pv tx (.ow d) V1 V2/\Q .next V2) src)(hs:∀x,foldedSetIterable iter fr.e x=pure x):
  DT fr A E RF V (exec (.Assign [.Name tx tp] (.ListComp bA [⟨.Name x px,iter,[],0⟩] scope pos) Ci) fr.e) Q:=
 kR (iter:=iter) (pos':=iter.pos) hw (λu=>by rfl) (by rfl) λF Vc own rest rv use Q' hU=>KW (use:=use) (W:=λd V1=>∃V2,Pv tx (.ow d) V1 V2/\Q .next V2) hf hs hB aW rB h rv hU
end
end
noncomputable def IS:bF->bF->Bool:=List.rec (λm=>match m with|[]=>true|_::_=>false) λa z ih m=>match m with
 |[]=>false
 |b::m=>match Nat.beq a b with
  |true=>ih m
  |false=>false
theorem IQ:∀{l m:bF},IS l m=true->l=m
 |[],[],_=>rfl
 |a::l,b::m,h=>by
  have h:(match Nat.beq a b with|true=>IS l m|false=>false)=true:=h;induction e:Nat.beq a b using pR with
  |true=>rw[e] at h;rw[ES e,IQ h]
  |false=>rw[e] at h;cases h
noncomputable def c8 (x y:aa):Bool:=IS x.cps.toList y.cps.toList
theorem zY:∀l:bF,IS l l=true
 |[]=>rfl
 |a::l=>by show(match Nat.beq a a with|true=>IS l l|false=>false)=true;rw[Nat.beq_refl];exact zY l
theorem PF (x:aa):c8 x x=true:=zY _
theorem fP (h:c8 x y=true):x=y:=by obtain⟨⟨x⟩⟩:=x;obtain⟨⟨y⟩⟩:=y;exact aT (λl=>Str.mk ⟨l⟩) (IQ h)
abbrev fW (c:Bool)(X Y:Prop):Prop:=match c with|true=>X|false=>Y
theorem cA {X Y G:Prop}(h:fW c X Y)(k:c=true->X->G)(l:c=false->Y->G):G:=match c,h,k,l with
 |true,h,k,_=>k rfl h
 |false,h,_,l=>l rfl h
theorem mR {X Y:Prop}(h:fW c X Y):(c=true->X)/\(c=false->Y):=cA h (λe x=>⟨λz=>x,λq=>Pz (e.symm.trans q)⟩) (λe y=>⟨λq=>g5 (e.symm.trans q),λz=>y⟩)
theorem cT {X Y:Prop}(e:c=true)(h:X):fW c X Y:=by subst e;exact h
theorem cF {X Y:Prop}(e:c=false)(h:Y):fW c X Y:=by subst e;exact h
theorem cS {X Y:Prop}(h:c=true->X)(k:c=false->Y):fW c X Y:=match c with
 |true=>h rfl
 |false=>k rfl
abbrev oU {X:Type}(o:Option X)(P:X->Prop):Prop:=match o with|some x=>P x|none=>False
theorem VI {X:Type}{o:Option X}{P:X->Prop}(h:oU o P):∃x,o=some x/\P x:=match o,h with
 |some x,h=>⟨x,rfl,h⟩
def oW {X:Type}(o:Option X)(P:X->Prop)(N:Prop):Prop:=match o with|some x=>P x|none=>N
theorem oE {X:Type}{o:Option X}{P:X->Prop}{N G:Prop}(h:oW o P N)(k:∀x,o=some x->P x->G)(l:o=none->N->G):G:=match o,h,k,l with
 |some x,h,k,_=>k x rfl h
 |none,h,_,l=>l rfl h
theorem Cu {X:Type}{o:Option X}{P:X->Prop}{G:Prop}(h:oU o P)(k:∀x,o=some x->P x->G):G:=match o,h,k with
 |some x,h,k=>k x rfl h
noncomputable def look {β:Type}(x:aa):List (aa×β)->Option β:=List.rec none λp z ih=>match c8 x p.1 with|true=>some p.2|false=>ih
noncomputable def jH (x:aa)(s:Sl):VS->VS:=List.rec [] λp r ih=>match c8 x p.1 with|true=>(p.1,s)::r|false=>p::ih
section
variable {β:Type}{x y:aa}{b c:β}{r:List (aa×β)}{s:Sl}{V:VS}
theorem FT (e:c8 x y=true):look x ((y,c)::r)=some c:=by show(match c8 x y with|true=>some c|false=>look x r)=_;rw[e]
theorem Ad (e:c8 x y=false):look x ((y,c)::r)=look x r:=by show(match c8 x y with|true=>some c|false=>look x r)=_;rw[e]
theorem DA (e:c8 x y=true):jH x s ((y,t)::V)=(y,s)::V:=by show(match c8 x y with|true=>(y,s)::V|false=>(y,t)::jH x s V)=_;rw[e]
theorem DB (e:c8 x y=false):jH x s ((y,t)::V)=(y,t)::jH x s V:=by show(match c8 x y with|true=>(y,s)::V|false=>(y,t)::jH x s V)=_;rw[e]
theorem bx:∀{V:List (aa×β)},look x V=some b->Hs (x,b) V
 |(y,c)::r,h=>by
  cases e:c8 x y with
  |true=>rw[FT e] at h;cases fP e;cases h;exact .here
  |false=>rw[Ad e] at h;exact .there (bx h)
theorem cj {s:Sl}:∀{V:VS},look x V=some s->ia x s V (λt=>jH x t V)
 |(y,u)::r,h=>by
  cases e:c8 x y with
  |true=>rw[FT e] at h;cases fP e;cases h;rw[show(λt=>jH x t ((x,s)::r))=λt=>(x,t)::r from funext λt=>DA e];exact .here
  |false=>rw[Ad e] at h;rw[show(λt=>jH x t ((y,u)::r))=λt=>(y,u)::jH x t r from funext λt=>DB e];exact .there (cj h)
theorem ia.cv (c:ia x s V f)(u:Sl):Cv x s u V (f u):=by
 induction c with
 |here=>exact .here
 |there z ih=>exact .there ih
theorem rN (h:look x V=some t):Cv x t s V (jH x s V):=(cj h).cv s
theorem Cv.pv (h:Cv x t s V V'):Pv x s V V':=by
 induction h with
 |here=>exact .here
 |there z ih=>exact .there ih
theorem fi (h:look x V=some t):Pv x s V (jH x s V):=(rN h).pv
theorem zg:∀{V:VS},look x V=some s->jH x s V=V
 |(y,u)::r,h=>by
  cases e:c8 x y with
  |true=>rw[FT e] at h;cases h;exact DA e
  |false=>rw[Ad e] at h;rw[DB e,zg h]
theorem Nb {t:Sl}:∀{V:VS},jH x s (jH x t V)=jH x s V
 |[]=>rfl
 |(y,u)::r=>by
  cases e:c8 x y with
  |true=>rw[DA e,DA e,DA e]
  |false=>rw[DB e,DB e,DB e,Nb]
theorem HL {t:Sl}:∀{V:VS},look x V=some s->look x (jH x t V)=some t
 |(y,u)::r,h=>by
  cases e:c8 x y with
  |true=>rw[DA e,FT e]
  |false=>rw[Ad e] at h;rw[DB e,Ad e,HL h]
end
noncomputable def nM {α:Type}(a b:Nat)(A:a=b->α)(N:α):α:=match h:Nat.beq a b with
 |true=>A (ES h)
 |false=>N
theorem ku {α:Type}{A:a=b->Option α}{x:α}(h:nM a b A none=some x):∃e,A e=some x:=by
 unfold nM at h;split at h
 .exact⟨_,h⟩
 .exact aA h
def j4 (a b:Nat)(A:a=b->Prop)(N:Prop):Prop:=match h:Nat.beq a b with
 |true=>A (ES h)
 |false=>N
theorem gH {N G:Prop}(h:j4 a b A N)(k:∀e,A e->G)(l:N->G):G:=by
 unfold j4 at h;split at h
 .exact k _ h
 .exact l h
section
variable {d:D}{G N:Prop}
def nP (d:D)(P:Int->Prop)(N:Prop):Prop:=j4 d.ctorIdx 2 (λh=>D.int.elim (motive_1:=λz=>Prop) d h P) N
theorem iZ (h:nP d P N)(k:∀i,d=.int i->P i->G)(l:N->G):G:=gH h (λe h=>D.int.elim (motive_1:=λd=>(e:d.ctorIdx=2)->D.int.elim (motive_1:=λz=>Prop) d e P->(∀i,d=.int i->P i->G)->G) d e (λi z h k=>k i rfl h) e h k) l
def uz (d:D)(P:aa->Prop)(N:Prop):Prop:=j4 d.ctorIdx 3 (λh=>D.str.elim (motive_1:=λz=>Prop) d h P) N
theorem lU (h:uz d P N)(k:∀i,d=.str i->P i->G)(l:N->G):G:=gH h (λe h=>D.str.elim (motive_1:=λd=>(e:d.ctorIdx=3)->D.str.elim (motive_1:=λz=>Prop) d e P->(∀i,d=.str i->P i->G)->G) d e (λi z h k=>k i rfl h) e h k) l
def qK (d:D)(P:ak->Prop)(N:Prop):Prop:=j4 d.ctorIdx 4 (λh=>D.list.elim (motive_1:=λz=>Prop) d h P) N
theorem kO (h:qK d P N)(k:∀i,d=.list i->P i->G)(l:N->G):G:=gH h (λe h=>D.list.elim (motive_1:=λd=>(e:d.ctorIdx=4)->D.list.elim (motive_1:=λz=>Prop) d e P->(∀i,d=.list i->P i->G)->G) d e (λi z h k=>k i rfl h) e h k) l
def ak8 (d:D)(P:ak->Prop)(N:Prop):Prop:=j4 d.ctorIdx 5 (λh=>D.tup.elim (motive_1:=λz=>Prop) d h P) N
theorem ak7 (h:ak8 d P N)(k:∀i,d=.tup i->P i->G)(l:N->G):G:=gH h (λe h=>D.tup.elim (motive_1:=λd=>(e:d.ctorIdx=5)->D.tup.elim (motive_1:=λz=>Prop) d e P->(∀i,d=.tup i->P i->G)->G) d e (λi z h k=>k i rfl h) e h k) l
def Sz (d:D)(P:uX->Prop)(N:Prop):Prop:=j4 d.ctorIdx 7 (λh=>D.dict.elim (motive_1:=λz=>Prop) d h P) N
theorem JK (h:Sz d P N)(k:∀i,d=.dict i->P i->G)(l:N->G):G:=gH h (λe h=>D.dict.elim (motive_1:=λd=>(e:d.ctorIdx=7)->D.dict.elim (motive_1:=λz=>Prop) d e P->(∀i,d=.dict i->P i->G)->G) d e (λi z h k=>k i rfl h) e h k) l
def aoT (d:D)(P:uP->Prop)(N:Prop):Prop:=j4 d.ctorIdx 11 (λh=>D.cK.elim (motive_1:=λz=>Prop) d h P) N
theorem aqC (h:aoT d P N)(k:∀i,d=.cK i->P i->G)(l:N->G):G:=gH h (λe h=>D.cK.elim (motive_1:=λd=>(e:d.ctorIdx=11)->D.cK.elim (motive_1:=λz=>Prop) d e P->(∀i,d=.cK i->P i->G)->G) d e (λi z h k=>k i rfl h) e h k) l
def ala (d:D)(P:ZJ->Prop)(N:Prop):Prop:=j4 d.ctorIdx 8 (λh=>D.bh.elim (motive_1:=λz=>Prop) d h P) N
theorem ak9 (h:ala d P N)(k:∀i,d=.bh i->P i->G)(l:N->G):G:=gH h (λe h=>D.bh.elim (motive_1:=λd=>(e:d.ctorIdx=8)->D.bh.elim (motive_1:=λz=>Prop) d e P->(∀i,d=.bh i->P i->G)->G) d e (λi z h k=>k i rfl h) e h k) l
def alc (d:D)(P:ao->Prop)(N:Prop):Prop:=j4 d.ctorIdx 10 (λh=>D.const.elim (motive_1:=λz=>Prop) d h P) N
theorem alb (h:alc d P N)(k:∀i,d=.const i->P i->G)(l:N->G):G:=gH h (λe h=>D.const.elim (motive_1:=λd=>(e:d.ctorIdx=10)->D.const.elim (motive_1:=λz=>Prop) d e P->(∀i,d=.const i->P i->G)->G) d e (λi z h k=>k i rfl h) e h k) l
def Xl (d:D)(P:aa->D->D->Prop)(N:Prop):Prop:=j4 d.ctorIdx 6 (λh=>D.vec.elim (motive_1:=λz=>Prop) d h P) N
theorem N5 (h:Xl d P N)(k:∀a b c,d=.vec a b c->P a b c->G)(l:N->G):G:=gH h (λe h=>D.vec.elim (motive_1:=λd=>(e:d.ctorIdx=6)->D.vec.elim (motive_1:=λz=>Prop) d e P->(∀a b c,d=.vec a b c->P a b c->G)->G) d e (λa b c z h k=>k a b c rfl h) e h k) l
def Sy (d:D)(P N:Prop):Prop:=j4 d.ctorIdx 0 (λz=>P) N
theorem JJ {P:Prop}(h:Sy d P N)(k:d=.none->P->G)(l:N->G):G:=gH h (λe h=>k (D.none.elim (motive_1:=λd=>d=.none) d e rfl) h) l
end
section
variable {x:aD}{G N:Prop}
def uZ (x:aD)(P:aa->Pos->Prop)(N:Prop):Prop:=j4 x.ctorIdx 23 (λh=>Expr.Name.elim (motive_1:=λz=>Prop) x h P) N
theorem n5 (h:uZ x P N)(k:∀a0 a1,x=.Name a0 a1->P a0 a1->G)(l:N->G):G:=gH h (λe h=>Expr.Name.elim (motive_1:=λx=>(e:x.ctorIdx=23)->Expr.Name.elim (motive_1:=λz=>Prop) x e P->(∀a0 a1,x=.Name a0 a1->P a0 a1->G)->G) x e (λa0 a1 z h k=>k a0 a1 rfl h) e h k) l
def aeQ (x:aD)(P:Const->Nat->Pos->Prop)(N:Prop):Prop:=j4 x.ctorIdx 19 (λh=>Expr.Constant.elim (motive_1:=λz=>Prop) x h P) N
theorem acG (h:aeQ x P N)(k:∀a0 a1 a2,x=.Constant a0 a1 a2->P a0 a1 a2->G)(l:N->G):G:=gH h (λe h=>Expr.Constant.elim (motive_1:=λx=>(e:x.ctorIdx=19)->Expr.Constant.elim (motive_1:=λz=>Prop) x e P->(∀a0 a1 a2,x=.Constant a0 a1 a2->P a0 a1 a2->G)->G) x e (λa0 a1 a2 z h k=>k a0 a1 a2 rfl h) e h k) l
def aeR (x:aD)(P:aD->aa->Pos->Prop)(N:Prop):Prop:=j4 x.ctorIdx 20 (λh=>Expr.Attribute.elim (motive_1:=λz=>Prop) x h P) N
theorem acH (h:aeR x P N)(k:∀a0 a1 a2,x=.Attribute a0 a1 a2->P a0 a1 a2->G)(l:N->G):G:=gH h (λe h=>Expr.Attribute.elim (motive_1:=λx=>(e:x.ctorIdx=20)->Expr.Attribute.elim (motive_1:=λz=>Prop) x e P->(∀a0 a1 a2,x=.Attribute a0 a1 a2->P a0 a1 a2->G)->G) x e (λa0 a1 a2 z h k=>k a0 a1 a2 rfl h) e h k) l
def ah4 (x:aD)(P:aD->aD->Pos->Prop)(N:Prop):Prop:=j4 x.ctorIdx 21 (λh=>Expr.Subscript.elim (motive_1:=λz=>Prop) x h P) N
theorem ah3 (h:ah4 x P N)(k:∀a0 a1 a2,x=.Subscript a0 a1 a2->P a0 a1 a2->G)(l:N->G):G:=gH h (λe h=>Expr.Subscript.elim (motive_1:=λx=>(e:x.ctorIdx=21)->Expr.Subscript.elim (motive_1:=λz=>Prop) x e P->(∀a0 a1 a2,x=.Subscript a0 a1 a2->P a0 a1 a2->G)->G) x e (λa0 a1 a2 z h k=>k a0 a1 a2 rfl h) e h k) l
def ah6 (x:aD)(P:Option aD->Option aD->Option aD->Pos->Prop)(N:Prop):Prop:=j4 x.ctorIdx 26 (λh=>Expr.Slice.elim (motive_1:=λz=>Prop) x h P) N
theorem ah5 (h:ah6 x P N)(k:∀a0 a1 a2 a3,x=.Slice a0 a1 a2 a3->P a0 a1 a2 a3->G)(l:N->G):G:=gH h (λe h=>Expr.Slice.elim (motive_1:=λx=>(e:x.ctorIdx=26)->Expr.Slice.elim (motive_1:=λz=>Prop) x e P->(∀a0 a1 a2 a3,x=.Slice a0 a1 a2 a3->P a0 a1 a2 a3->G)->G) x e (λa0 a1 a2 a3 z h k=>k a0 a1 a2 a3 rfl h) e h k) l
def ah8 (x:aD)(P:c7->Pos->Prop)(N:Prop):Prop:=j4 x.ctorIdx 24 (λh=>Expr.List.elim (motive_1:=λz=>Prop) x h P) N
theorem ah7 (h:ah8 x P N)(k:∀a0 a1,x=.List a0 a1->P a0 a1->G)(l:N->G):G:=gH h (λe h=>Expr.List.elim (motive_1:=λx=>(e:x.ctorIdx=24)->Expr.List.elim (motive_1:=λz=>Prop) x e P->(∀a0 a1,x=.List a0 a1->P a0 a1->G)->G) x e (λa0 a1 z h k=>k a0 a1 rfl h) e h k) l
def aia (x:aD)(P:List (Option aD)->c7->Pos->Prop)(N:Prop):Prop:=j4 x.ctorIdx 6 (λh=>Expr.Dict.elim (motive_1:=λz=>Prop) x h P) N
theorem ah9 (h:aia x P N)(k:∀a0 a1 a2,x=.Dict a0 a1 a2->P a0 a1 a2->G)(l:N->G):G:=gH h (λe h=>Expr.Dict.elim (motive_1:=λx=>(e:x.ctorIdx=6)->Expr.Dict.elim (motive_1:=λz=>Prop) x e P->(∀a0 a1 a2,x=.Dict a0 a1 a2->P a0 a1 a2->G)->G) x e (λa0 a1 a2 z h k=>k a0 a1 a2 rfl h) e h k) l
def aie (x:aD)(P:aD->c7->List Keyword->Pos->Prop)(N:Prop):Prop:=j4 x.ctorIdx 16 (λh=>Expr.Call.elim (motive_1:=λz=>Prop) x h P) N
theorem aid (h:aie x P N)(k:∀a0 a1 a2 a3,x=.Call a0 a1 a2 a3->P a0 a1 a2 a3->G)(l:N->G):G:=gH h (λe h=>Expr.Call.elim (motive_1:=λx=>(e:x.ctorIdx=16)->Expr.Call.elim (motive_1:=λz=>Prop) x e P->(∀a0 a1 a2 a3,x=.Call a0 a1 a2 a3->P a0 a1 a2 a3->G)->G) x e (λa0 a1 a2 a3 z h k=>k a0 a1 a2 a3 rfl h) e h k) l
def aih (x:aD)(P:aD->Operator->aD->Pos->Prop)(N:Prop):Prop:=j4 x.ctorIdx 2 (λh=>Expr.BinOp.elim (motive_1:=λz=>Prop) x h P) N
theorem aif (h:aih x P N)(k:∀a0 a1 a2 a3,x=.BinOp a0 a1 a2 a3->P a0 a1 a2 a3->G)(l:N->G):G:=gH h (λe h=>Expr.BinOp.elim (motive_1:=λx=>(e:x.ctorIdx=2)->Expr.BinOp.elim (motive_1:=λz=>Prop) x e P->(∀a0 a1 a2 a3,x=.BinOp a0 a1 a2 a3->P a0 a1 a2 a3->G)->G) x e (λa0 a1 a2 a3 z h k=>k a0 a1 a2 a3 rfl h) e h k) l
def aic (x:aD)(P:aD->List Comprehension->eO->Pos->Prop)(N:Prop):Prop:=j4 x.ctorIdx 8 (λh=>Expr.ListComp.elim (motive_1:=λz=>Prop) x h P) N
theorem aib (h:aic x P N)(k:∀a0 a1 a2 a3,x=.ListComp a0 a1 a2 a3->P a0 a1 a2 a3->G)(l:N->G):G:=gH h (λe h=>Expr.ListComp.elim (motive_1:=λx=>(e:x.ctorIdx=8)->Expr.ListComp.elim (motive_1:=λz=>Prop) x e P->(∀a0 a1 a2 a3,x=.ListComp a0 a1 a2 a3->P a0 a1 a2 a3->G)->G) x e (λa0 a1 a2 a3 z h k=>k a0 a1 a2 a3 rfl h) e h k) l
end
section
variable {α:Type}{xs:List α}{G N:Prop}
def lC (xs:List α)(P:α->List α->Prop)(N:Prop):Prop:=match xs with|[]=>N|a::r=>P a r
def l0 (xs:List α)(P N:Prop):Prop:=lC xs (λz z=>N) P
def l1 (xs:List α)(P:α->Prop)(N:Prop):Prop:=lC xs (λa r=>l0 r (P a) N) N
def l2 (xs:List α)(P:α->α->Prop)(N:Prop):Prop:=lC xs (λa r=>l1 r (P a) N) N
theorem LQ (h:lC xs P N)(k:∀a r,xs=a::r->P a r->G)(l:xs=[]->N->G):G:=match xs,h,k,l with|[],h,_,l=>l rfl h|a::r,h,k,_=>k a r rfl h
theorem l0E {P:Prop}(h:l0 xs P N)(k:xs=[]->P->G)(l:N->G):G:=LQ h (λz z z h=>l h) k
theorem NL (h:l1 xs P N)(k:∀a,xs=[a]->P a->G)(l:N->G):G:=LQ h (λa r e h=>l0E h (λe2 h=>k a (e2▸e) h) l) (λz h=>l h)
theorem l2E (h:l2 xs P N)(k:∀a b,xs=[a,b]->P a b->G)(l:N->G):G:=LQ h (λa r e h=>NL h (λb e2 h=>k a b (e2▸e) h) l) (λz h=>l h)
end
structure WC where
 m:Nat
 gl:dU
 ce:ay
structure Fr (c:WC) (fr:Fm) (A:aQ):Prop where
 f:dH fr c.gl
 room:cC A c.m
 ce:∀y∈c.ce,Ce fr y
inductive Tk
 |ke (x:aD) (Q:az)
 |kb (x:aD) (Q:Dm)
 |kta (xs:c7) (Q:Dm)
 |kto (xs:c7) (Q:Dm)
 |kva (xs:c7) (Q:az)
 |kvo (xs:c7) (Q:az)
 |kl (xs:c7) (Q:ak->VS->Prop)
 |kj (out:aa) (xs:c7) (Q:az)
 |kx (st:Stmt) (Q:bY)
 |ks (body:fc) (k:Nat) (Q:bY)
 |kq (body:fc) (k:Nat) (Q:bY)
inductive Kn (P:Prop):Prop|mk (h:P):Kn P
def Tk.ok (fr:Fm)(A:aQ)(E:aS)(t:Tk)(V:VS):Prop:=match t with
 | .ke x Q=>DT fr A E Rp V (eval x fr.e) Q
 | .kb x Q=>DT fr A E RB V (isTrue x fr.e (eval x fr.e)) Q
 | .kta xs Q=>∀p w,DT fr A E RB V (isTrue (.BoolOp .And xs p) fr.e w) Q
 | .kto xs Q=>∀p w,DT fr A E RB V (isTrue (.BoolOp .Or xs p) fr.e w) Q
 | .kva xs Q=>∀p,DT fr A E Rp V (eval (.BoolOp .And xs p) fr.e) Q
 | .kvo xs Q=>∀p,DT fr A E Rp V (eval (.BoolOp .Or xs p) fr.e) Q
 | .kl xs Q=>∀p,DT fr A E aK V (spliced (backTo p (starEach xs fr.e))) Q
 | .kj out xs Q=>DT fr A E Rp V (joinParts out (evalEach xs fr.e)) Q
 | .kx st Q=>iL fr->DT fr A E RF V (exec st fr.e) Q
 | .ks body k Q=>iL fr->DT fr A E RF V (execs (body.drop k) fr.e) Q
 | .kq body k Q=>iL fr->DT fr A E RF V (execs (body.drop k) fr.e) Q
def Any (c:WC)(P:Fm->aQ->aS->Prop):Prop:=∀fr A E,Fr c fr A->P fr A E
@[irreducible] def dD (c:WC) (t:Tk) (V:VS):Prop:=Any c λfr A E=>t.ok fr A E V
section
variable (c:WC)
@[irreducible] def op1 (t:ao->Sem ao) (a:D) (Q:az) (V:VS):Prop:=Any c λfr A E=>uY fr A E Rp V t a Q
@[irreducible] def qU (t:ao->ao->Sem ao) (a b:D) (Q:az) (V:VS):Prop:=Any c λfr A E=>gG fr A E Rp V t a b Q
@[irreducible] def DV (v:ao) (ds:ak) (Q:az) (V:VS):Prop:=Any c λfr A E=>mZ fr A E Rp V (cl v) ds Q
def ag0 (ds:ak)(X:Prop):Prop:=fW (Nat.ble ds.length cap) X False
def tru (d:D)(Q:Dm)(V:VS):Prop:=match d with
 | .bool b=>Q b V
 | .int i=>Q (i !=0) V
 | .list l=>Q (!l.isEmpty) V
 | .none=>Q false V
 |d=>Any c λfr A E=>uY fr A E RB V truthy d Q
def adg (op:CmpOp)(i j:Int)(Q:az)(V:VS)(N:Prop):Prop:=match op with
 | .Eq=>Q (.bool (i==j)) V
 | .NotEq=>Q (.bool (i !=j)) V
 | .Lt=>Q (.bool (decide (i<j))) V
 | .Gt=>Q (.bool (decide (j<i))) V
 | .LtE=>Q (.bool (decide (i<=j))) V
 | .GtE=>Q (.bool (decide (j<=i))) V
 |_=>N
def adf (op:CmpOp)(i j:aa)(Q:az)(V:VS)(N:Prop):Prop:=match op with
 | .Eq=>Q (.bool (i==j)) V
 | .NotEq=>Q (.bool (i !=j)) V
 | .Lt=>Q (.bool (decide (i.cps.toList<j.cps.toList))) V
 | .Gt=>Q (.bool (decide (j.cps.toList<i.cps.toList))) V
 |_=>N
noncomputable def ZX (d:D):Option aa:=nM d.ctorIdx 3 (λh=>D.str.elim (motive_1:=λz=>Option aa) d h some) none
theorem ZW {s:aa}(h:ZX d=some s):d=.str s:=xE (ku h) λe h=>D.str.elim (motive_1:=λd=>(e:d.ctorIdx=3)->D.str.elim (motive_1:=λz=>Option aa) d e some=some s->d=.str s) d e (λx z h=>aT D.str (mT h)) e h
noncomputable def ab7:ak->Option ay:=List.rec (some []) λd z ih=>match ZX d with
 |some s=>ih.map (s:: ·)
 |none=>none
def afK (x:aa)(b:D)(k:Bool->Prop)(N:Prop):Prop:=Sz b (λl=>k (d9 l x).isSome) (ak8 b (λl=>oW (ab7 l) (λr=>k (r.any λy=>y==x)) N) N)
def ali (op:CmpOp)(a b:D)(Q:az)(V:VS)(N:Prop):Prop:=nP a (λi=>nP b (λj=>adg op i j Q V N) N) (uz a (λi=>uz b (λj=>adf op i j Q V N) N) N)
def alh (op:CmpOp)(a b:D)(Q:az)(V:VS):Prop:=match op with
 | .Is=>Sy b (Q (.bool (eu a)) V) (qU c (compareOp .Is) a b Q V)
 | .IsNot=>Sy b (Q (.bool (!eu a)) V) (qU c (compareOp .IsNot) a b Q V)
 | .In=>uz a (λx=>afK x b (λr=>Q (.bool r) V) (qK b (λl=>oW (ab7 l) (λr=>Q (.bool (r.any λy=>y==x)) V) (qU c (compareOp .In) a b Q V)) (qU c (compareOp .In) a b Q V))) (qU c (compareOp .In) a b Q V)
 | .NotIn=>uz a (λx=>afK x b (λr=>Q (.bool !r) V) (qU c (compareOp .NotIn) a b Q V)) (qU c (compareOp .NotIn) a b Q V)
 |op=>ali op a b Q V (qU c (compareOp op) a b Q V)
def alz (a b:D)(Q:az)(V:VS):Prop:=nP a (λi=>nP b (λj=>Q (.int (i+j)) V) (qU c (binaryOp .Add) a b Q V))
 (uz a (λi=>uz b (λj=>i.length+j.length<=sizeLine/\Q (.str (i++j)) V) (qU c (binaryOp .Add) a b Q V))
 (qK a (λi=>qK b (λj=>i.length+j.length<=cap/\Q (.list (i++j)) V) (qU c (binaryOp .Add) a b Q V)) (qU c (binaryOp .Add) a b Q V)))
def alp (op:Operator)(a b:D)(Q:az)(V:VS):Prop:=match op with
 | .Add=>alz c a b Q V
 | .Sub=>nP a (λi=>nP b (λj=>Q (.int (i-j)) V) (qU c (binaryOp .Sub) a b Q V)) (qU c (binaryOp .Sub) a b Q V)
 |op=>qU c (binaryOp op) a b Q V
def ajj (d:D)(Q:az)(V:VS):Prop:=nP d (λi=>Q (.int (-i)) V) (op1 c (unaryOp .USub) d Q V)
def adm (name:aa)(a:D)(Q:az)(V:VS):Prop:=Xl a (fun ks i t=>fW (c8 name "kind") (Q (.str ks) V)
  (fW (c8 name "items") (fW (VW i) (Q i V) (op1 c (fun o=>getAttr o name true) a Q V))
  (fW (c8 name "attrs") (fW (VW t) (Q t V) (op1 c (fun o=>getAttr o name true) a Q V)) (op1 c (fun o=>getAttr o name true) a Q V)))) (op1 c (fun o=>getAttr o name true) a Q V)
noncomputable def nnB:Int->Bool
 | .ofNat _=>true
 | .negSucc _=>false
theorem IL (h:nnB k=true):0<=k:=match k,h with
 | .ofNat j,_=>Dl j
def akS (d:D)(Q:az)(V:VS):Prop:=nP d (λi=>i.natAbs.log2<1920/\Q (.str (toString i)) V) (uz d (λs=>s.length<=sizeLine/\Q (.str s) V) False)
def aiI (d a b:D)(Q:az)(V:VS):Prop:=qK d (λl=>Sy a (Sy b (Q (.list (DJ l none none)) V) (nP b (λj=>fW (nnB j) (Q (.list (DJ l none (some j.toNat))) V) False) False))
 (nP a (λi=>Sy b (fW (nnB i) (Q (.list (DJ l (some i.toNat) none)) V) False) False) False)) False
def aiC (t:ao->ao->Sem ao)(a b:D)(Q:az)(V:VS):Prop:=match a with
 | .list l=>match b with| .int k=>fW (nnB k) (oU l[k.toNat]? λx=>Q x V) (qU c t (.list l) (.int k) Q V)|b=>qU c t (.list l) b Q V
 | .tup l=>match b with| .int k=>fW (nnB k) (oU l[k.toNat]? λx=>Q x V) (qU c t (.tup l) (.int k) Q V)|b=>qU c t (.tup l) b Q V
 | .dict l=>match b with
  | .str k=>oU (d9 l k) λx=>Q x V
  |b=>qU c t (.dict l) b Q V
 | .cK l=>match b with
  | .str k=>oU (d9 l k) λx=>Q (.list x) V
  |b=>qU c t (.cK l) b Q V
 |a=>qU c t a b Q V
@[irreducible] def Bk (m:Nat) (f:av) (ds:ak) (P:kc):Prop:=∃n R,n<=m/\aE f n ds R/\∀d,R d->P d
@[irreducible] def AO (x:aa) (b o:fc) (src:D) (Q:bY) (V:VS):Prop:=Any c λfr A E=>iL fr->∃ds,gq fr.w A src ds/\Dq fr A x b o Q ds V
def slW (s:Sl)(P O:kc)(N:Prop):Prop:=match s with| .fz d=>P d| .ow d=>O d|_=>N
def acT (x:aa)(p:Pos)(Q:az)(V:VS):Prop:=oW (look x V) (λs=>slW s (λd=>Q d V) (λd=>Q d (jH x (.fz d) V)) (dD c (.ke (.Name x p) Q) V))
 (oW (look x c.gl) (λv=>Q (.const v) V) (dD c (.ke (.Name x p) Q) V))
def alg (k:Const)(n:Nat)(p:Pos)(Q:az)(V:VS):Prop:=match k with
 | .int i=>Q (.int i) V
 | .str s=>Q (.str s) V
 | .none=>Q .none V
 | .bool b=>Q (.bool b) V
 |k=>dD c (.ke (.Constant k n p) Q) V
end
section
variable {c:WC}{fr:Fm}{A:aQ}{E:aS}{V:VS}{Q:az}
theorem bI (h:dD c t V):∀fr A E,Fr c fr A->t.ok fr A E V:=by unfold dD at h;exact h
theorem gV (h:∀fr A E,Fr c fr A->t.ok fr A E V):dD c t V:=by unfold dD;exact h
theorem kr (h:DV c v ds Q V):∀fr A E,Fr c fr A->mZ fr A E Rp V (cl v) ds Q:=by unfold DV at h;exact h
theorem kZ (h:∀fr A E,Fr c fr A->mZ fr A E Rp V (cl v) ds Q):DV c v ds Q V:=by unfold DV;exact h
theorem gB (h:∀fr A E,Fr c fr A->gG fr A E Rp V t a b Q):qU c t a b Q V:=by unfold qU;exact h
theorem arp (h:∀fr A E,Fr c fr A->uY fr A E Rp V t a Q):op1 c t a Q V:=by unfold op1;exact h
variable (F:Fr c fr A)
include F
theorem cV (h:qU c t a b Q V):gG fr A E Rp V t a b Q:=by unfold qU at h;exact h fr A E F
theorem zV (h:op1 c t a Q V):uY fr A E Rp V t a Q:=by unfold op1 at h;exact h fr A E F
theorem E7 {Q:Dm}(h:tru c d Q V):uY fr A E RB V truthy d Q:=match d,h with
 | .bool _,h=>IG h
 | .int _,h=>ai9 h
 | .list _,h=>ai8 h
 | .none,h=>ai7 h
 | .str _,h| .tup _,h| .vec _ _ _,h| .dict _,h| .bh _,h| .range _ _ _,h| .const _,h| .cK _,h=>h fr A E F
omit F in
theorem Xy {X:Prop}(h:ag0 ds X):ds.length<=cap/\X:=cA h (λe x=>⟨fu e,x⟩) (λz n=>n.elim)
omit F in
theorem Of:∀{l:ak} {r:ay},ab7 l=some r->l=r.map .str:=λ{l}=>by
 induction l with
 |nil=>intro r h;cases h;rfl
 |cons d l ih=>
  intro r h;have h:(match ZX d with|some s=>(ab7 l).map (s:: ·)|none=>none)=some r:=h;induction e:ZX d using fL with
  |none=>rw[e] at h;exact aA h
  |some s=>rw[e] at h;refine aq (J4.mp h) λr' e2 z0=>?_;subst z0;rw[ZW e,ih e2];rfl
section
omit F
variable {op:CmpOp}{a b:D}{N:Prop}
theorem Xu (ea:a=.int i)(eb:b=.int j)(h:adg op i j Q V N)(L:N->gG fr A E Rp V (compareOp op) a b Q):gG fr A E Rp V (compareOp op) a b Q:=by
 subst ea eb;exact match op,h,L with
 | .Eq,h,_=>ajg h
 | .NotEq,h,_=>aja h
 | .Lt,h,_=>ajb h
 | .Gt,h,_=>aje h
 | .LtE,h,_=>ajc h
 | .GtE,h,_=>ajf h
 | .Is,h,L| .IsNot,h,L| .In,h,L| .NotIn,h,L=>L h
theorem Xr (ea:a=.str i)(eb:b=.str j)(h:adf op i j Q V N)(L:N->gG fr A E Rp V (compareOp op) a b Q):gG fr A E Rp V (compareOp op) a b Q:=by
 subst ea eb;exact match op,h,L with
 | .Eq,h,_=>VP h
 | .NotEq,h,_=>VL h
 | .Lt,h,_=>afq h
 | .Gt,h,_=>afy h
 | .Is,h,L| .IsNot,h,L| .In,h,L| .NotIn,h,L| .LtE,h,L| .GtE,h,L=>L h
theorem abY (h:ali op a b Q V N)(L:N->gG fr A E Rp V (compareOp op) a b Q):gG fr A E Rp V (compareOp op) a b Q:=
 iZ h (λi ea h=>iZ h (λj eb h=>Xu ea eb h L) L) λh=>lU h (λi ea h=>lU h (λj eb h=>Xr ea eb h L) L) L
theorem NB {G:Prop}{x:aa}{k:Bool->Prop}(h:afK x b k N)(k1:∀l,b=.dict l->k (d9 l x).isSome->G)(k2:∀l (r:ay),b=.tup l->l=r.map .str->k (r.any λy=>y==x)->G)(L:N->G):G:=
 JK h k1 λh=>ak7 h (λl e h=>oE h (λr er h=>k2 l r e (Of er) h) λz h=>L h) L
end
theorem N8 {op:CmpOp}{a b:D}(h:alh c op a b Q V):gG fr A E Rp V (compareOp op) a b Q:=match op,h with
 | .Is,h=>JJ h (λe h=>e▸ajd h) λh=>cV F h
 | .IsNot,h=>JJ h (λe h=>e▸aay h) λh=>cV F h
 | .In,h=>lU h (λx ex h=>NB h (λl e q=>by rw[e,ex];exact afu q) (λl r e er q=>by rw[e,ex];exact aft er q) λh=>kO h (λl e h=>oE h (λr er q=>by rw[e,ex];exact aaA (Of er) q) λz h=>cV F h) λh=>cV F h) λh=>cV F h
 | .NotIn,h=>lU h (λx ex h=>NB h (λl e q=>by rw[e,ex];exact aar q) (λl r e er q=>by rw[e,ex];exact aaq er q) λh=>cV F h) λh=>cV F h
 | .Eq,h| .NotEq,h| .Lt,h| .Gt,h| .LtE,h| .GtE,h=>abY h λh=>cV F h
theorem ab8 (h:alz c a b Q V):gG fr A E Rp V (binaryOp .Add) a b Q:=
 iZ h (λi ea h=>iZ h (λj eb q=>by rw[eb,ea];exact afA q) λh=>cV F h) λh=>lU h (λi ea h=>lU h (λj eb q=>by rw[eb,ea];exact aaC q.2 q.1) λh=>cV F h) λh=>
 kO h (λi ea h=>kO h (λj eb q=>by rw[eb,ea];exact Dp.fz (VT q.1 q.2)) λh=>cV F h) λh=>cV F h
theorem ab1 (h:alp c op a b Q V):gG fr A E Rp V (binaryOp op) a b Q:=by
 induction op using Zc6 with
 |Add=>exact ab8 F h
 |Sub=>exact iZ h (λi ea h=>iZ h (λj eb q=>by rw[eb,ea];exact afl q) λh=>cV F h) λh=>cV F h
 |_=>exact cV F h
theorem aaI (h:ajj c d Q V):uY fr A E Rp V (unaryOp .USub) d Q:=iZ h (λi e h=>e▸afn h) λh=>zV F h
theorem XI (h:adm c n a Q V):uY fr A E Rp V (λo=>getAttr o n true) a Q:=
 N5 h (λks i t e h=>cA h (λe1 q=>by rw[e,fP e1];exact aax F.f q) λz h=>
  cA h (λe1 h=>cA h (λe2 q=>by rw[e,fP e1];exact VM F.f e2 q) λz h=>zV F h) λz h=>
  cA h (λe1 h=>cA h (λe2 q=>by rw[e,fP e1];exact VQ F.f e2 q) λz h=>zV F h) λz h=>zV F h) λh=>zV F h
omit F in
theorem agN (h:akS d Q V):uY fr A E Rp V (λv=>formatField v Str.empty) d Q:=iZ h (λi e h=>e▸VO h.1 h.2) λh=>lU h (λi e h=>e▸VN h.1 h.2) λh=>h.elim
omit F in
theorem ae9 (h:aiI d a b Q V):∃l i j,d=.list l/\SV a i/\SV b j/\(i=none\/j=none)/\Q (.list (DJ l i j)) V:=
 kO h (λl e h=>JJ h (λea h=>JJ h (λeb h=>(aV l none none e (ea▸.none) (eb▸.none) (.inl rfl) h)) λh=>iZ h (λj eb h=>cA h (λn h=>(aV l none _ e (ea▸.none) (eb▸.int (IL n)) (.inl rfl) h)) λz h=>h.elim) λh=>h.elim) λh=>
  iZ h (λi ea h=>JJ h (λeb h=>cA h (λn h=>(aV l _ none e (ea▸.int (IL n)) (eb▸.none) (.inr rfl) h)) λz h=>h.elim) λh=>h.elim) λh=>h.elim) λh=>h.elim
omit F in
theorem yG (h:Nat.beq s.ctorIdx 26=false)(a b:ao):subscripted s false a b=operate [a,b] (getItem a b):=by induction s using Expr.casesOn<;>first|rfl|cases h
theorem ZU {o s:aD}{a b:D}(hs:Nat.beq s.ctorIdx 26=false)(h:aiC c (subscriptTail o s) a b Q V):gG fr A E Rp V (subscriptTail o s) a b Q:=by
 induction a using D.casesOn with
 |list l=>induction b using D.casesOn with
  |int k=>exact cA h (λe h=>Cu h λx e2 q=>afx (IL e) e2 q λz z=>yG hs _ _) λz h=>cV F h
  |_=>exact cV F h
 |tup l=>induction b using D.casesOn with
  |int k=>exact cA h (λe h=>Cu h λx e2 q=>aao (IL e) e2 q λz z=>yG hs _ _) λz h=>cV F h
  |_=>exact cV F h
 |dict l=>induction b using D.casesOn with
  |str k=>exact Cu h λx e2 q=>aaB e2 q λz z=>yG hs _ _
  |_=>exact cV F h
 |cK l=>induction b using D.casesOn with
  |str k=>exact Cu h λx e2 q=>aau e2 q λz z=>yG hs _ _
  |_=>exact cV F h
 |_=>exact cV F h
omit F in
theorem Xz (hf:dH fr gl)(room:cC A m)(h:Bk m f ds λd=>Q d V):mZ fr A E Rp V (cl (.ref f)) ds Q:=by unfold Bk at h;refine dm h λn R hn x k=>clear% h;?_;exact x.run hf room hn k
omit F in
theorem slE {N G:Prop}(h:slW s P O N)(k:∀d,s=.fz d->P d->G)(l:∀d,s=.ow d->O d->G)(n:N->G):G:=match s,h,k,l with
 | .fz d,h,k,_=>k d rfl h
 | .ow d,h,_,l=>l d rfl h
 | .un,h,_,_| .ln _,h,_,_| .at _,h,_,_=>n h
theorem VY {x:aa}{p:Pos}(h:acT c x p Q V):DT fr A E Rp V (eval (.Name x p) fr.e) Q:=
 oE h (λs e h=>slE h (λd es h=>aeI F.f (bx (es▸e)) h) (λd es h=>aha F.f (rN (es▸e)) h) λh=>bI h fr A E F) λz h=>
 oE h (λv e h=>ahf F.f (bx e) h) λz h=>bI h fr A E F
theorem abW (h:alg c k n p Q V):DT fr A E Rp V (eval (.Constant k n p) fr.e) Q:=by
 induction k using Const.casesOn with
 |int i=>exact aeJ h
 |str i=>exact alK h
 |none=>exact ahe h
 |bool i=>exact ahg h
 |_=>exact bI h fr A E F
end
noncomputable def ek (x:aD):Nat:=x.ctorIdx
noncomputable def gC (x:aD):Bool:=Nat.beq x.ctorIdx 22
noncomputable def abg (x:aD):Bool:=Nat.beq x.ctorIdx 26
noncomputable def tY (x:aD):Bool:=Nat.beq x.ctorIdx 7
noncomputable def vG (x:aD):Bool:=Nat.ble 8 x.ctorIdx&&Nat.ble x.ctorIdx 10
noncomputable def agd (x:aD):Bool:=Nat.beq x.ctorIdx 23||(Nat.beq x.ctorIdx 20||(Nat.beq x.ctorIdx 16||Nat.beq x.ctorIdx 21))
noncomputable def ak4 (p:Pos):D:=match p.line==737 with
 |true=> .bh []
 |false=>match p.line==842 with
  |true=> .cK []
  |false=> .dict []
noncomputable def slot (V:VS)(x:aD):Option Sl:=nM x.ctorIdx 23 (λh=>Expr.Name.elim (motive_1:=λz=>Option Sl) x h λn z=>look n V) none
noncomputable def anv (V:VS)(x:aD):Bool:=match slot V x with|some (.ln _)=>true|_=>false
noncomputable def anu (V:VS)(op:CmpOp)(x:aD):Bool:=(op==.In||op==.NotIn)&&(match slot V x with
 |some (.ow (.bh _))=>true
 |some (.ow (.list _))=>true
 |_=>false)
noncomputable def ajR (op:Operator):Bool:=match op with| .Mult=>true|_=>false
noncomputable def ajt (l:aD)(op:Operator):Bool:=ajR op&&Nat.beq l.ctorIdx 24
def ajk (a b:D)(Q:az)(V:VS):Prop:=qK a (λl=>l1 l (λx=>nP b (λn=>(0<=n/\n<=cap)/\Q (.list (List.replicate n.toNat x)) V) False) False) False
noncomputable def NQ (x:aD):Bool:=Nat.beq x.ctorIdx 16&&nM x.ctorIdx 16 (λh=>Expr.Call.elim (motive_1:=λz=>Bool) x h λz args z z=>args.isEmpty) false
noncomputable def Wj (f:av):Bool:=Nat.beq f 867||Nat.beq f 872
noncomputable def xK (s:Sl):Option (D×gm):=match s with
 | .ow d=>some (d,.ow)
 | .ln d=>some (d,.ln)
 |_=>none
def atW (x:aa)(v:ao)(V:VS)(X:Prop):Prop:=oW (look x V) (λs=>s=.at v/\X) False
noncomputable def agX (k:Const):Option aa:=nM k.ctorIdx 5 (λh=>Const.str.elim (motive:=λz=>Option aa) k h some) none
noncomputable def alf (x:aD):Option aa:=nM x.ctorIdx 19 (λh=>Expr.Constant.elim (motive_1:=λz=>Option aa) x h λk z z=>agX k) none
noncomputable def Wu (k:Option aD):Option aa:=match k with
 |some x=>alf x
 |none=>none
noncomputable def Ls (v:ao):Option av:=nM v.ctorIdx 10 (λh=>Value.ref.elim (motive:=λz=>Option av) v h some) none
theorem Nm {f:av}(h:Ls v=some f):v=.ref f:=xE (ku h) λe h=>Value.ref.elim (motive:=λv=>(e:v.ctorIdx=10)->Value.ref.elim (motive:=λz=>Option av) v e some=some f->v=.ref f) v e (λx z h=>aT Value.ref (mT h)) e h
section
variable (c:WC)
def ajx (ds:ak)(Q:az)(V:VS):Prop:=l1 ds (fun d=>qK d (fun l=>Q (.int l.length) V) (uz d (fun l=>l.length<=cap/\Q (.int l.length) V) (Sz d (fun l=>l.length<=cap/\Q (.int l.length) V) (DV c (.builtin "len") ds Q V)))) (DV c (.builtin "len") ds Q V)
noncomputable def isV (v:ao):Bool:=match Ls v with|some f=>Nat.beq f 279|none=>false
def ajO (ds:ak)(Q:az)(V:VS):Prop:=l2 ds (fun d z=>Xl d (fun y y y=>alc z (fun v=>fW (isV v) (Q (.bool true) V) (DV c (.builtin "isinstance") ds Q V)) (DV c (.builtin "isinstance") ds Q V)) (DV c (.builtin "isinstance") ds Q V)) (DV c (.builtin "isinstance") ds Q V)
def aiZ (ds:ak)(Q:az)(V:VS):Prop:=lC ds (fun d r=>nP d (fun a=>l0 r (Q (.range 0 a 1) V) (l1 r (fun z=>nP z (fun b=>Q (.range a b 1) V) (DV c (.type "range") ds Q V)) (DV c (.type "range") ds Q V))) (DV c (.type "range") ds Q V)) (DV c (.type "range") ds Q V)
def ajs (ds:ak)(Q:az)(V:VS):Prop:=l1 ds (fun d=>qK d (fun l=>Q (.list l) V) (DV c (.type "list") ds Q V)) (DV c (.type "list") ds Q V)
def aeU (ds:ak)(Q:az)(V:VS):Prop:=fW (Nat.ble 2 c.m) (lC ds (λa r=>uz a (λks=>l1 r (λi=>Q (.vec ks i .none) V) (l2 r (λi t=>Q (.vec ks i t) V) False)) False) False) False
def alv (v:ao)(ds:ak)(Q:az)(V:VS):Prop:=match v with
 | .ref f=>fW (Nat.beq f 279) (aeU c ds Q V) (Bk c.m f ds λd=>Q d V)
 | .builtin b=>fW (decide (b="len")) (ajx c ds Q V) (fW (decide (b="isinstance")) (ajO c ds Q V) (DV c (.builtin b) ds Q V))
 | .type t=>fW (decide (t="range")) (aiZ c ds Q V) (fW (decide (t="list")) (ajs c ds Q V) (DV c (.type t) ds Q V))
 |v=>DV c v ds Q V
noncomputable def aiu (V:VS)(x:aD):Bool:=nM x.ctorIdx 23 (λh=>Expr.Name.elim (motive_1:=λz=>Bool) x h λg z=>match look g V with
  |some z=>false
  |none=>match look g c.gl with
   |some v=>isV v
   |none=>false) false
@[irreducible] def Bl (m:Nat) (f:av) (l ds:ak) (P:D->ak->Prop):Prop:=∃n R,n<=m/\Hp f n l ds R/\∀d l',R d l'->P d l'
def ajS (op:Operator)(a b:D)(Q:az)(V:VS):Prop:=match op with
 | .Add=>nP a (λi=>nP b (λj=>Q (.int (i+j)) V) (qU c (inplaceOp .Add) a b Q V)) (qU c (inplaceOp .Add) a b Q V)
 |op=>qU c (inplaceOp op) a b Q V
end
def ai1 (d k y:D)(K:kc):Prop:=qK d (λl=>nP k (λi=>(0<=i/\i<l.length/\l.length<=cap)/\K (.list (l.set i.toNat y))) False)
 (Sz d (λl=>uz k (λs=>l.length<=cap/\K (.dict (jG l s y))) False) (ala d (λl=>nP k (λi=>l.length<=cap/\K (.bh (jG l i y))) False) False))
section
variable {c:WC}{fr:Fm}{A:aQ}{E:aS}{V:VS}{Q:az}(F:Fr c fr A)
include F
omit F in
theorem WD (h:isV v=true):v=.ref 279:=by
 have h:(match Ls v with|some f=>Nat.beq f 279|none=>false)=true:=h;induction e:Ls v using fL with
 |none=>rw[e] at h;exact g5 h
 |some f=>rw[e] at h;rw[Nm e,ES h]
theorem aaZ (h:ajx c ds Q V):mZ fr A E Rp V (cl (.builtin "len")) ds Q:=
 have L:=λh=>kr h fr A E F
 NL h (λd e h=>kO h (λl e2 q=>by rw[e,e2];exact afr q) λh=>lU h (λl e2 q=>by rw[e,e2];exact aav q.1 q.2) λh=>JK h (λl e2 q=>by rw[e,e2];exact aaw q.1 q.2) L) L
theorem abf (h:ajO c ds Q V):mZ fr A E Rp V (cl (.builtin "isinstance")) ds Q:=
 have L:=λh=>kr h fr A E F
 l2E h (λd z e h=>N5 h (λk i t e1 h=>alb h (λv e2 h=>cA h (λev q=>by rw[e,e2,e1,WD ev];exact afs F.f q) λy=>L) L) L) L
theorem aac (h:aiZ c ds Q V):mZ fr A E Rp V (cl (.type "range")) ds Q:=
 have L:=λh=>kr h fr A E F
 LQ h (λd r e h=>iZ h (λa ea h=>l0E h (λe2 q=>by rw[e,e2,ea];exact Rv q) λh=>NL h (λz e2 h=>iZ h (λb eb q=>by rw[e,e2,eb,ea];exact Ru q) L) L) L) λy=>L
theorem aaT (h:ajs c ds Q V):mZ fr A E Rp V (cl (.type "list")) ds Q:=
 have L:=λh=>kr h fr A E F
 NL h (λd e h=>kO h (λl e2 q=>by rw[e,e2];exact B7.fz (VR q)) L) L
theorem M9 (h:aeU c ds Q V):B7 fr A (cl (.ref 279)) E V ds Q:=
 cA h (λn h=>LQ h (λa r e h=>lU h (λks ek h=>NL h (λi e2 q=>by rw[e,e2,ek];exact wN F.f F.room (fu n) q) λh=>l2E h (λi t e2 q=>by rw[e,e2,ek];exact II F.f F.room (fu n) q) λh=>h.elim) λh=>h.elim) λz h=>h.elim) λz h=>h.elim
theorem ab4 (h:alv c v ds Q V):mZ fr A E Rp V (cl v) ds Q:=by
 induction v using Zc5 with
 |ref f=>exact cA h (λe h=>ES e▸B7.fz (M9 F h)) λz h=>Xz F.f F.room h
 |builtin b=>exact cA h (λe h=>jx e▸aaZ F h) λz h=>cA h (λe h=>jx e▸abf F h) λz h=>kr h fr A E F
 |type b=>exact cA h (λe h=>jx e▸aac F h) λz h=>cA h (λe h=>jx e▸aaT F h) λz h=>kr h fr A E F
 |_=>exact kr h fr A E F
theorem abh (h:ajS c op a b Q V):gG fr A E Rp V (inplaceOp op) a b Q:=by
 induction op using Zc6 with
 |Add=>exact iZ h (λi ea h=>iZ h (λj eb q=>by rw[eb,ea];exact Nt q) λh=>cV F h) λh=>cV F h
 |_=>exact cV F h
omit F
theorem jB (h:gC x=false):starEach (x::r) e=(false,eval x e)::starEach r e:=by induction x using Expr.casesOn<;>first|rfl|cases h
theorem gS {p:Pos}{e:Env}:∀{xs:c7},xs.any gC=false->(backTo p (starEach xs e)).any (·.1)=false
 |[],_=>rfl
 |x::r,h=>by rw[BB,G8] at h;rw[jB h.1];exact gS h.2
theorem HZ {p:Pos}{e:Env}:∀{xs:c7},xs.any gC=false->(backTo p (starEach xs e)).all (!·.1)=true
 |[],_=>rfl
 |x::r,h=>by rw[BB,G8] at h;rw[jB h.1];exact HZ h.2
theorem fC (h:vG v=false):swapsWith v t k e=pure false:=by induction v using Expr.casesOn<;>first|rfl|cases h
theorem oj (h:tY v=false)(x:ao):foldedSetIterable v e x=pure x:=by induction v using Expr.casesOn<;>first|rfl|cases h
theorem JU {X:Prop}(h:atW x v V X):ia x (.at v) V (λt=>jH x t V)/\X:=oE h (λz e h=>⟨cj (h.1▸e),h.2⟩) λz h=>h.elim
theorem Fx (h:xK s=some r):s=r.2 r.1/\(r.2=.ow\/r.2=.ln):=by
 induction s using Sl.casesOn<;>cases h
 .exact⟨rfl,.inl rfl⟩
 .exact⟨rfl,.inr rfl⟩
theorem afg {K:kc}(h:ai1 d k y K):∃d',MR d k y d'/\K d':=
 kO h (λl e h=>iZ h (λi ei q=>by rw[e,ei];exact⟨_,.list q.1.1 q.1.2.1 q.1.2.2,q.2⟩) λh=>h.elim) λh=>
 JK h (λl e h=>lU h (λi ei q=>by rw[e,ei];exact⟨_,.dict q.1,q.2⟩) λh=>h.elim) λh=>
 ak9 h (λl e h=>iZ h (λi ei q=>by rw[e,ei];exact⟨_,.bh q.1,q.2⟩) λh=>h.elim) λh=>h.elim
theorem abX {s:aa}(h:agX k=some s):k=.str s:=xE (ku h) λe h=>Const.str.elim (motive:=λk=>(e:k.ctorIdx=5)->Const.str.elim (motive:=λz=>Option aa) k e some=some s->k=.str s) k e (λx z h=>aT Const.str (mT h)) e h
theorem Wt {s:aa}(h:Wu k=some s):∃n q,k=some (.Constant (.str s) n q):=match k,h with
 |some x,h=>xE (ku (show alf x=some s from h)) λe h=>Expr.Constant.elim (motive_1:=λx=>(e:x.ctorIdx=19)->Expr.Constant.elim (motive_1:=λz=>Option aa) x e (λk z z=>agX k)=some s->∃n q,some x=some (.Constant (.str s) n q)) x e (λk n q z h=>(Tf n q ((abX h)▸rfl))) e h
theorem alU {s:Sl}(h:slot V x=some s):∃n p,x=.Name n p/\look n V=some s:=
 xE (ku h) λe h=>Expr.Name.elim (motive_1:=λx=>(e:x.ctorIdx=23)->Expr.Name.elim (motive_1:=λz=>Option Sl) x e (λn z=>look n V)=some s->∃n p,x=.Name n p/\look n V=some s) x e (λn p z h=>(r9 n p rfl h)) e h
end
noncomputable def glob:dU:=[("len",.builtin "len"),("is_lacking",.ref 529),("pick_items",.ref 737),("label_text",.ref 332),("share",.ref 318),("range",.type "range"),("_law_texts",.ref 891),("level_at",.ref 339),("sort_key",.ref 810),("column_keys",.ref 776),("exact_text",.ref 191),("item_as",.ref 477),("is_complete",.ref 817),("Vector",.ref 279),("_law_ranked",.ref 896),("_law_column",.ref 872),("_law_pick",.ref 867),("tuple",.type "tuple")]
theorem abD:∀P,(glob.all λp=>Ej P p.1 p.2&&(ja p.1&&wU P p.2))=true:=λP=>by kernel_rfl
noncomputable def kN (k:NameKind):List (aa×NameKind)->ay:=List.rec [] λp z ih=>match p.2==k with|true=>p.1::ih|false=>ih
def flK (R:kc)(fl:DF)(_:VS):Prop:=R (ie fl)
section
variable (c:WC)(self:WC->Tk->VS->Prop)
abbrev ifK (A B:VS->Prop)(o:Bool)(V:VS):Prop:=fW o (A V) (B V)
def sqK (P:VS->Prop)(Q:bY)(f:DF)(V:VS):Prop:=match f with| .next=>P V|f=>Q f V
def knK (P:VS->Prop)(V:VS):Prop:=Kn (P V)
def rtK (Q:bY)(d:D)(V:VS):Prop:=Q (.ret d) V
def nxK (Q:bY)(_:D)(V:VS):Prop:=Q .next V
def ntK (Q:Dm)(o:Bool)(V:VS):Prop:=Q (!o) V
def c1K (r:aD)(k:D->D->VS->Prop)(a:D)(V:VS):Prop:=self c (.ke r (k a)) V
def csK (Q:ak->VS->Prop)(d:D)(ds:ak)(V:VS):Prop:=Q (d::ds) V
def klK (r:c7)(Q:ak->VS->Prop)(d:D)(V:VS):Prop:=self c (.kl r (csK Q d)) V
end
noncomputable def fN (l:List (aa×NameKind)):ay:=kN .free l
noncomputable def gN (l:List (aa×NameKind)):ay:=kN .globalImplicit l
noncomputable def Sj (gl:dU):ay->Option dU:=List.rec (some []) λy z ih=>match look y gl with
 |some v=>ih.map ((y,v):: ·)
 |none=>none
noncomputable def fzO (s:Sl):Option D:=nM s.ctorIdx 1 (λh=>Sl.fz.elim (motive:=λz=>Option D) s h some) none
noncomputable def JS (V:VS):ay->Option VS:=List.rec (some []) λy z ih=>match(look y V).bind fzO with
 |some d=>ih.map ((y,.fz d):: ·)
 |none=>none
noncomputable def GH:ay->VS->VS:=List.rec (λV=>V) λy z ih V=>match look y V with
 |some s=>match s with
  | .ow d=>ih (jH y (.fz d) V)
  |_=>ih V
 |none=>ih V
noncomputable def SH (ce:ay)(sc:eO)(ts:ay)(caps:ay)(gl:dU):Bool:=
 (ts.all λx=>sc.names.lookup x==some .local||sc.names.lookup x==some .cell)&&(caps.all (λy=>sc.names.lookup y==some .free)&&(gl.all (λp=>sc.names.lookup p.1==some .globalImplicit)&&
 (sc.names.all (λp=>ja p.1&&sc.names.lookup p.1==some p.2&&(p.2 !=.free||caps.contains p.1))&&(sc.kind==.function&&(decide (ts++caps).Nodup&&caps.all (λy=>ce.contains y))))))
noncomputable def JR (sc:eO)(x:aa)(caps:ay):ay:=match sc.names.lookup x==some .cell with
 |true=>x::caps
 |false=>caps
def Hh (src:D)(ds:ak):Prop:=∀w A,Around.handled A=none->gq w A src ds
section
variable (w:Tk->VS->Prop)
def abP (bA:aD)(x:aa)(au:VS)(d y:D):Prop:=w (.ke bA λz V4=>V4=(x,.fz d)::au/\z=y) ((x,.fz d)::au)
def aiw (t:aD)(x:aa)(au:VS)(d:D)(b:Bool):Prop:=w (.kb t λo V4=>V4=(x,.fz d)::au/\o=b) ((x,.fz d)::au)
def acY (bA:aD)(x:aa)(gJ:c7)(au:VS)(d:D)(b:Bool)(y:D):Prop:=l0 gJ (b=true/\abP w bA x au d y) (l1 gJ (λt=>aiw w t x au d b/\(b=true->abP w bA x au d y)) False)
@[irreducible] def LD (bA:aD) (x:aa) (gJ:c7) (au:VS) (src:D) (Q:az) (V:VS):Prop:=
 ∃(X:Type) (xs:List X) (F G:X->D) (p:X->Bool),Hh src (xs.map F)/\(xs.filter p).length<=cap/\(∀a∈xs,acY w bA x gJ au (F a) (p a) (G a))/\Q (.list ((xs.filter p).map G)) V
end
noncomputable def aln (x:aD):Option aa:=nM x.ctorIdx 16 (λh=>Expr.Call.elim (motive_1:=λz=>Option aa) x h λf z z z=>nM f.ctorIdx 23 (λh=>Expr.Name.elim (motive_1:=λz=>Option aa) f h λg z=>some g) none) none
noncomputable def ao0 (x:aD):Option aa:=nM x.ctorIdx 16 (λh=>Expr.Call.elim (motive_1:=λz=>Option aa) x h λf z z z=>nM f.ctorIdx 20 (λh=>Expr.Attribute.elim (motive_1:=λz=>Option aa) f h λz n z=>some n) none) none
noncomputable def ajQ (x:aD):Bool:=match aln x with|some g=>c8 g "reversed"|none=>false
noncomputable def ajv (gl:dU)(x:aD):Bool:=(match aln x with|some g=>(match(look g gl).bind Ls with|some f=>Wj f|none=>false)|none=>false)||(match ao0 x with|some n=>c8 n "setdefault"|none=>false)
section
variable (c:WC)(self:WC->Tk->VS->Prop)
def cwK (bA:aD)(x:aa)(gJ:c7)(sc:eO)(gl:dU)(Q:az)(src:D)(V:VS):Prop:=oU (JS V (fN sc.names)) λau=>LD (self ⟨c.m,gl,JR sc x (fN sc.names)⟩) bA x gJ au src Q V
def Xn (bA:aD)(gens:List Comprehension)(sc:eO)(lf:Prop)(Q:az)(V:VS):Prop:=l1 gens (λg=>fW (decide (g.is_async=0)) (uZ g.target (λx z=>
  fW (tY g.iter||ajQ g.iter) lf (oW (Sj glob (gN sc.names)) (λgl=>fW (ajv gl bA) lf (oW (JS (GH (fN sc.names) V) (fN sc.names)) (λz=>fW (SH c.ce sc [x] (fN sc.names) gl)
   (self c (.ke g.iter (cwK c self bA x g.ifs sc gl Q)) (GH (fN sc.names) V)) lf) lf)) lf)) lf) lf) lf
noncomputable def mOk (o:aD)(args:c7)(ap p:Pos):Bool:= !(args.any gC)&&(!(NQ o)&&(Nat.ble args.length 3&&ap.endLine==p.line))
noncomputable def aaM (d:D)(n:aa):Option String:=match d with
 | .dict _=>match c8 n "get" with|true=>some "dict.get"|false=>none
 | .str _=>match c8 n "join" with|true=>some "str.join"|false=>none
 | .tup _=>match c8 n "index" with|true=>some "tuple.index"|false=>none
 | .list _=>match c8 n "index" with|true=>some "list.index"|false=>none
 |_=>none
def aov (l:uX)(ds:ak)(Q:az)(V:VS):Prop:=l1 ds (λk=>uz k (λs=>Q ((d9 l s).getD .none) V) False) False
def ajl (d:D)(id:String)(ds:ak)(Q:az)(V:VS):Prop:=Sz d (λl=>aov l ds Q V) (DV c (.builtin id) (d::ds) Q V)
def mxK (d:D)(Q:az)(id:String)(ds:ak)(V:VS):Prop:=ajl c d id ds Q V
def mtK (args:c7)(n:aa)(Q:az)(d:D)(V:VS):Prop:=oU (aaM d n) λid=>self c (.kl args (mxK c d Q id)) V
def VZ (o:aD)(n:aa)(ap:Pos)(args:c7)(p:Pos)(lf:Prop)(Q:az)(V:VS):Prop:=fW (mOk o args ap p&&(c8 n "get"||(c8 n "join"||c8 n "index")))
 (self c (.ke o (mtK c self args n Q)) V) lf
def aeK (x:aa)(v:ao)(l:ak)(mk:gm)(Q:az)(y:D)(V:VS):Prop:=atW x v V (l.length+1<=cap/\Q .none (jH x (mk (.list (l++[y]))) V))
def alw (x:aa)(e:aD)(mk:gm)(d:D)(lf:Prop)(Q:az)(V:VS):Prop:=qK d (λl=>∀v,self c (.ke e (aeK x v l mk Q)) (jH x (.at v) V)) lf
def akV (x:aa)(e:aD)(mk:gm)(d:D)(lf:Prop)(Q:az)(V:VS):Prop:=qK d (λl=>∀v,self c (.ke e λy V2=>qK y (λm=>atW x v V2 (l.length+m.length<=cap/\Q .none (jH x (mk (.list (l++m))) V2))) False) (jH x (.at v) V)) lf
def sdE (x:aa)(e g:aD)(mk:gm)(d:D)(lf:Prop)(Q:az)(V:VS):Prop:=Sz d (λl=>∀v,self c (.ke e λk V1=>self c (.ke g λy V2=>
  uz k (λs=>atW x v V2 (l.length<=cap/\(∀z,d9 l s=some z->Q z (jH x (mk (.dict l)) V2))/\(d9 l s=none->Q y (jH x (mk (.dict (jG l s y))) V2)))) False) V1) (jH x (.at v) V)) lf
def afS (f:av)(args:c7)(lf:Prop)(Q:az)(V:VS):Prop:=lC args (λa rest=>uZ a (λx z=>oW ((look x V).bind xK) (λr=>qK r.1 (λl=>
  ∀u,self c (.kl rest λds V2=>atW x u V2 (Bl c.m f l ds λd l'=>Q d (jH x (r.2 (.list l')) V2))) (jH x (.at u) V)) lf) lf) lf) lf
def afj (x:aa)(n:aa)(ap p:Pos)(args:c7)(mk:gm)(d:D)(lf:Prop)(Q:az)(V:VS):Prop:=fW (mOk (.Name x ap) args ap p)
 (l0 args (fW (c8 n "reverse") (qK d (fun l=>Q .none (jH x (mk (.list l.reverse)) V)) lf) lf)
 (l1 args (fun e=>fW (c8 n "append") (alw c self x e mk d lf Q V) (fW (c8 n "extend") (akV c self x e mk d lf Q V) lf))
 (l2 args (fun e g=>fW (c8 n "setdefault") (sdE c self x e g mk d lf Q V) lf) lf))) lf
def VG (o:Option aD)(k:az)(V:VS):Prop:=match o with
 |none=>k .none V
 |some e=>self c (.ke e k) V
def aiH (o i:aD)(lf:Prop)(Q:az)(V:VS):Prop:=ah6 i (λlo up st z=>fW st.isNone (self c (.ke o λd V1=>VG c self lo (λa V2=>VG c self up (λb V3=>aiI d a b Q V3) V2) V1) V) lf) lf
def ak2 (ks:List (Option aD)):c7->(uX->VS->Prop)->VS->Prop:=List.rec (λvs Q V=>l0 vs (Q [] V) False)
 (λk z ih vs Q V=>oU (Wu k) λs=>lC vs (λv vs=>self c (.ke v λd V1=>ih vs (λl V2=>Q ((s,d)::l) V2) V1) V) False) ks
noncomputable def afH:ay->Bool:=List.rec true λx r ih=> !(r.any (c8 x))&&ih
def ak3 (ks:List (Option aD))(vs:c7)(lf:Prop)(Q:az)(V:VS):Prop:=lC ks (λz z=>fW (Nat.ble ks.length 15&&(Nat.beq ks.length vs.length&&ks.all λk=>(Wu k).isSome)) (ak2 c self ks vs (λl V1=>fW (afH (l.map (·.1))) (Q (.dict l) V1) False) V) lf) lf
noncomputable def isB (k:Const):Bool:=match k with| .bool _=>true|_=>false
def amS (n : aa) (v : aD) (s : Option Sl) (lf k : Prop) : Prop := fW (c8 n "shared") (aeQ v (fun b z z => fW (isB b) (oW (s.bind fzO) (fun d => Xl d (fun z z z => k) lf) lf) lf) lf) lf
noncomputable def owO (s:Sl):Option D:=nM s.ctorIdx 2 (λh=>Sl.ow.elim (motive:=λz=>Option D) s h some) none
def afU (g:aa)(v:ao)(args:c7)(V:VS)(P:Nat->Prop)(N:Prop):Prop:=fW (c8 g "len"&&(match v with| .builtin b=>decide (b="len")|_=>false)) (l1 args (fun a=>uZ a (fun x z=>fW (c8 x "flags"||c8 x "table") (oW (((look x V).bind owO).bind aa2) P N) N) N) N) N
def apK (v:ao)(Q:az)(ds:ak)(V:VS):Prop:=alv c v ds Q V
def adk (f:aD)(args:c7)(kw:List Keyword)(lf:Prop)(p:Pos)(Q:az)(V:VS):Prop:=l0 kw (uZ f (λg z=>oW (look g V) (λz=>lf) (oW (look g c.gl) (λv=>fW (args.any gC) lf
   (oW (Ls v) (λf=>fW (Wj f) (afS c self f args lf Q V) (self c (.kl args (apK c v Q)) V)) (afU g v args V (λn=>n<=cap/\Q (.int n) V) (self c (.kl args (apK c v Q)) V)))) lf))
  (aeR f (λo n ap=>uZ o (λx xp=>oW (look x V) (λs=>oW (xK s) (λr=>afj c self x n ap p args r.2 r.1 lf Q V) (VZ c self o n ap args p lf Q V)) lf) (VZ c self o n ap args p lf Q V)) lf)) lf
noncomputable def ajT (k:Const):Option Int:=nM k.ctorIdx 2 (λh=>Const.int.elim (motive:=λz=>Option Int) k h some) none
def lnS (o i:aD)(lf:Prop)(Q:az)(V:VS):Prop:=aeQ i (λk z z=>oW (ajT k) (λn=>uZ o (λx z=>oW ((look x V).bind xK) (λr=>qK r.1 (λl=>fW (nnB n) (oU l[n.toNat]? λy=>Q y V) lf) lf) lf) lf) lf) lf
noncomputable def anb (x:aa)(f:aD):Bool:=c8 x "ind"||nM f.ctorIdx 23 (fun h=>Expr.Name.elim (motive_1:=fun z=>Bool) f h fun g z=>c8 g "sorted") false
def agY (l:aD)(VJ:List CmpOp)(rs:c7)(k:CmpOp->D->D->VS->Prop)(lf:Prop)(V:VS):Prop:=l1 VJ (λop=>l1 rs (λr=>fW (behindInMarks op r||anu V op r) lf (self c (.ke l (c1K c self r (k op))) V)) lf) lf
def sX (x:aa)(mk:gm)(Q:bY)(d:D)(V1:VS):Prop:=match look x V1 with|some z=>Q .next (jH x (mk d) V1)|none=>False
def muK (Q:az)(a b:D)(V:VS):Prop:=ajk a b Q V
def vcK (Q:az)(ds:ak)(V:VS):Prop:=aeU c ds Q V
def alu (x:aa)(v:aD)(lf:Prop)(Q:bY)(V:VS):Prop:=fW (look x V).isSome
 (fW (vG v) (aic v (λbA gens sc z=>Xn c self bA gens sc lf (sX x .ow Q) V) lf)
 (ah8 v (λxs z=>l0 xs (sX x .ow Q (.list []) V) (self c (.ke v (sX x .fz Q)) V))
 (aia v (λks vs dp=>fW (ks.isEmpty&&vs.isEmpty) (sX x .ow Q (ak4 dp) V) (self c (.ke v (sX x .fz Q)) V))
 (aih v (λl op r z=>fW (ajt l op) (self c (.ke l (c1K c self r (muK (sX x .ow Q)))) V) (self c (.ke v (sX x .fz Q)) V))
 (aie v (λf args kw z=>fW (aiu c V f) (fW (kw.isEmpty&& !args.any gC) (self c (.kl args (vcK c (sX x .ow Q))) V) lf) (fW (anb x f) lf (self c (.ke v (sX x .fz Q)) V)))
 (self c (.ke v (sX x .fz Q)) V)))))) lf
def puK (x:aa)(u:ao)(r:D×gm)(y:D)(Q:bY)(k:D)(V:VS):Prop:=atW x u V (ai1 r.1 k y λd=>Q .next (jH x (r.2 d) V))
def ai2 (x:aa)(i v:aD)(lf:Prop)(Q:bY)(V:VS):Prop:=fW (vG v) lf (self c (.ke v λy V1=>oU ((look x V1).bind xK) λr=>∀u,self c (.ke i (puK x u r y Q)) (jH x (.at u) V1)) V)
def ai4 (x:aa)(n:aa)(v:aD)(lf:Prop)(Q:bY)(V:VS):Prop:=fW (c8 n "attrs") (fW (vG v) lf (self c (.ke v fun y V1=>oU ((look x V1).bind xK) fun r=>Xl r.1 (fun ks i z=>Q .next (jH x (r.2 (.vec ks i y)) V1)) False) V)) (amS n v (look x V) lf (Q .next V))
def ioK (op:Operator)(a:D)(Q:az)(b:D)(V:VS):Prop:=ajS c op a b Q V
def trK (Q:Dm)(d:D)(V:VS):Prop:=tru c d Q V
def cmK (Q:az)(op:CmpOp)(a b:D)(V:VS):Prop:=alh c op a b Q V
def biK (op:Operator)(Q:az)(a b:D)(V:VS):Prop:=alp c op a b Q V
def atK (a:aa)(Q:az)(d:D)(V:VS):Prop:=adm c a d Q V
def suK (o i:aD)(Q:az)(a b:D)(V:VS):Prop:=aiC c (subscriptTail o i) a b Q V
def tpK (Q:az)(ds:ak)(V:VS):Prop:=ag0 ds (Q (.tup ds) V)
def lsK (Q:az)(ds:ak)(V:VS):Prop:=ag0 ds (Q (.list ds) V)
def foK (x:aa)(b o:fc)(Q:bY)(src:D)(V:VS):Prop:=AO c x b o src Q V
def step (t:Tk)(V:VS):Prop:=match t with
 | .ke x Q=>match x with
  | .Name y p=>acT c y p Q V
  | .Constant k n p=>alg c k n p Q V
  | .Attribute o a p=>fW (NQ o) (dD c (.ke (.Attribute o a p) Q) V) (self c (.ke o (atK c a Q)) V)
  | .Compare l VJ rs p=>agY c self l VJ rs (cmK c Q) (dD c (.ke (.Compare l VJ rs p) Q) V) V
  | .BinOp l op r _=>self c (.ke l (c1K c self r (biK c op Q))) V
  | .BoolOp op xs _=>match op with| .And=>self c (.kva xs Q) V| .Or=>self c (.kvo xs Q) V
  | .Subscript o i p=>fW (anv V o) (lnS o i (dD c (.ke (.Subscript o i p) Q) V) Q V) (fW (abg i) (aiH c self o i (dD c (.ke (.Subscript o i p) Q) V) Q V) (self c (.ke o (c1K c self i (suK c o i Q))) V))
  | .Tuple xs _ _=>self c (.kl xs (tpK Q)) V
  | .List xs _=>self c (.kl xs (lsK Q)) V
  | .UnaryOp op y p=>match op with
   | .USub=>self c (.ke y λd V1=>ajj c d Q V1) V
   |op=>dD c (.ke (.UnaryOp op y p) Q) V
  | .IfExp t a b _=>self c (.kb t (ifK (self c (.ke a Q)) (self c (.ke b Q)))) V
  | .Call f args kw p=>adk c self f args kw (dD c (.ke (.Call f args kw p) Q) V) p Q V
  | .Dict ks vs p=>ak3 c self ks vs (dD c (.ke (.Dict ks vs p) Q) V) Q V
  | .JoinedStr vs p=>lC vs (λz r=>lC r (λz z=>self c (.kj Str.empty vs Q) V) (dD c (.ke (.JoinedStr vs p) Q) V)) (dD c (.ke (.JoinedStr vs p) Q) V)
  | .FormattedValue v k sp p=>fW (decide (k= -1)&&sp.isNone) (self c (.ke v λd V1=>akS d Q V1) V) (dD c (.ke (.FormattedValue v k sp p) Q) V)
  | .ListComp bA gens sc p=>Xn c self bA gens sc (dD c (.ke (.ListComp bA gens sc p) Q) V) Q V
  |x=>dD c (.ke x Q) V
 | .kb x Q=>match x with
  | .Compare l VJ rs p=>agY c self l VJ rs (cmK c (trK c Q)) (dD c (.kb (.Compare l VJ rs p) Q) V) V
  | .BoolOp op xs _=>match op with| .And=>self c (.kta xs Q) V| .Or=>self c (.kto xs Q) V
  | .UnaryOp op y p=>match op with
   | .Not=>self c (.kb y (ntK Q)) V
   |op=>dD c (.kb (.UnaryOp op y p) Q) V
  |x=>fW (agd x) (self c (.ke x (trK c Q)) V) (dD c (.kb x Q) V)
 | .kta xs Q=>match xs with
  |[]=>Q true V
  |x::r=>self c (.kb x (ifK (self c (.kta r Q)) (Q false))) V
 | .kto xs Q=>match xs with
  |[]=>Q false V
  |x::r=>self c (.kb x (ifK (Q true) (self c (.kto r Q)))) V
 | .kva xs Q=>lC xs (λx r=>lC r (λz z=>self c (.ke x λd V1=>tru c d (λo V2=>fW o (self c (.kva r Q) V2) (Q d V2)) V1) V) (self c (.ke x Q) V)) (dD c (.kva xs Q) V)
 | .kvo xs Q=>lC xs (λx r=>lC r (λz z=>self c (.ke x λd V1=>tru c d (λo V2=>fW o (Q d V2) (self c (.kvo r Q) V2)) V1) V) (self c (.ke x Q) V)) (dD c (.kvo xs Q) V)
 | .kl xs Q=>lC xs (λx r=>fW (gC x) (dD c (.kl xs Q) V) (self c (.ke x (klK c self r Q)) V)) (Q [] V)
 | .kj out xs Q=>match xs with
  |[]=>out.length<=sizeLine/\Q (.str out) V
  |x::r=>self c (.ke x λd V1=>uz d (λy=>(out++y).length<=sizeLine/\self c (.kj (out++y) r Q) V1) False) V
 | .kx st Q=>match st with
  | .If t a b _=>self c (.kb t (ifK (self c (.ks a 0 Q)) (self c (.ks b 0 Q)))) V
  | .Return o p=>match o with
   |some x=>self c (.ke x (rtK Q)) V
   |none=>dD c (.kx (.Return none p) Q) V
  | .Pass _=>Q .next V
  | .Expr y p=>fW (vG y) (dD c (.kx (.Expr y p) Q) V) (self c (.ke y (nxK Q)) V)
  | .Assign ts v p=>l1 ts (λt=>uZ t (λx z=>alu c self x v (dD c (.kx (.Assign ts v p) Q) V) Q V)
    (ah4 t (λo i z=>uZ o (λx z=>ai2 c self x i v (dD c (.kx (.Assign ts v p) Q) V) Q V) (dD c (.kx (.Assign ts v p) Q) V))
    (aeR t (λo n z=>uZ o (λx z=>ai4 c self x n v (dD c (.kx (.Assign ts v p) Q) V) Q V) (dD c (.kx (.Assign ts v p) Q) V)) (dD c (.kx (.Assign ts v p) Q) V)))) (dD c (.kx (.Assign ts v p) Q) V)
  | .AugAssign t op v p=>uZ t (λx z=>oW ((look x V).bind fzO) (λa=>self c (.ke v (ioK c op a (sX x .fz Q))) V) (dD c (.kx (.AugAssign t op v p) Q) V)) (dD c (.kx (.AugAssign t op v p) Q) V)
  | .For t it b o p=>uZ t (λx z=>fW (tY it) (dD c (.kx (.For t it b o p) Q) V) (self c (.ke it (foK c x b o Q)) V)) (dD c (.kx (.For t it b o p) Q) V)
  |st=>dD c (.kx st Q) V
 | .ks body k Q=>match body[k]? with
  |none=>Q .next V
  |some st=>self c (.kx st (sqK (self c (.ks body (k+1) Q)) Q)) V
 | .kq body k Q=>match body[k]? with
  |none=>Q .next V
  |some st=>self c (.kx st (sqK (knK (self c (.kq body (k+1) Q))) Q)) V
end
def wp:Nat->WC->Tk->VS->Prop:=Nat.rec (λc t V=>dD c t V) λz w c t V=>step c w t V
theorem Xe (h:AO c x b o src Q V):∀fr A (E:aS),Fr c fr A->iL fr->∃ds,gq fr.w A src ds/\Dq fr A x b o Q ds V:=by unfold AO at h;exact h
theorem EC (h:NQ o=false):attributeBase o a e w=w:=by
 induction o using Expr.casesOn with
 |Call f args kw q=>induction args using nU with
  |nil=>exact Pz h
  |cons _ _=>cases f<;>rfl
 |_=>rfl
theorem ab2 (h:NQ o=false):eval (.Attribute o a p) e=(do
   let v<-eval o e
   standAt p.atName
   let r<-holding [v] (getAttr v a true);letTemporaryGo o v r
   pure r):=by
 show(do
   let v<-attributeBase o a e (eval o e)
   standAt p.atName
   let r<-holding [v] (getAttr v a true);letTemporaryGo o v r
   pure r)=_;rw[EC h]
theorem JT {X Y:Type}{o:Option X}{f:X->Option Y}{y:Y}(h:o.bind f=some y):∃x,o=some x/\f x=some y:=YX.mp h
theorem agL {d:D}(h:fzO s=some d):s=.fz d:=xE (ku h) λe h=>Sl.fz.elim (motive:=λs=>(e:s.ctorIdx=1)->Sl.fz.elim (motive:=λz=>Option D) s e some=some d->s=.fz d) s e (λx z h=>aT Sl.fz (mT h)) e h
theorem afk {d:D}(h:owO s=some d):s=.ow d:=xE (ku h) λe h=>Sl.ow.elim (motive:=λs=>(e:s.ctorIdx=2)->Sl.ow.elim (motive:=λz=>Option D) s e some=some d->s=.ow d) s e (λx z h=>aT Sl.ow (mT h)) e h
theorem abk {n:Int}(h:ajT k=some n):k=.int n:=xE (ku h) λe h=>Const.int.elim (motive:=λk=>(e:k.ctorIdx=2)->Const.int.elim (motive:=λz=>Option Int) k e some=some n->k=.int n) k e (λx z h=>aT Const.int (mT h)) e h
theorem GG {x:aa}{V:VS}{d:D}(h:(look x V).bind fzO=some d):look x V=some (.fz d):=aq (JT h) λs e h=>e.trans (aT some (agL h))
theorem Fy {x:aa}{V:VS}{r:D×gm}(h:(look x V).bind xK=some r):ia x (r.2 r.1) V (λt=>jH x t V)/\(r.2=.ow\/r.2=.ln):=aq (JT h) λs e h=>⟨cj (e.trans (aT some (Fx h).1)),(Fx h).2⟩
section
variable {fr:Fm}{A:aQ}{V:VS}{c:WC}
theorem gG.mono (h:gG fr A E Rp V t a b Q)(k:∀b V,Q b V->Q' b V):gG fr A E Rp V t a b Q':=λv u F Vc own rest rv ra rb=>(h v u F Vc own rest rv ra rb).mono λa σ z=>bB z λd V' own' ic e le r q=>(aV d V' own' ic e le r (k _ _ q))
theorem uY.HN (h:uY fr A E RB V truthy a Q)(k:∀b V,Q b V->Q' b V):uY fr A E RB V truthy a Q':=λv F Vc own rest rv ra=>(h v F Vc own rest rv ra).mono λa σ z=>bB z λd V' own' ic e le r q=>(aV d V' own' ic e le r (k _ _ q))
theorem akR:GH (y::r) V=(match look y V with|some s=>(match s with| .ow d=>GH r (jH y (.fz d) V)|_=>GH r V)|none=>GH r V:VS):=rfl
theorem Xc {α δ:Type}{R:ah->δ->α->Prop}{t:Sem α}{Q:δ->VS->Prop}{ys:ay}:∀{V:VS},DT fr A E R (GH ys V) t Q->DT fr A E R V t Q:=by
 induction ys with
 |nil=>exact λh=>h
 |cons y r ih=>
  intro V h;simp only[akR] at h;induction e:look y V using fL with
  |none=>rw[e] at h;exact ih h
  |some s=>
   rw[e] at h;induction s using Sl.casesOn with
   |ow d=>exact KV y (rN e) (ih h)
   |_=>exact ih h
theorem jw:∀{W:VS},JS V ys=some W->W.map (·.1)=ys/\gu W V:=by
 induction ys with
 |nil=>intro W h;cases h;exact⟨rfl,.nil⟩
 |cons y r ih=>
  intro W h;have h:(match(look y V).bind fzO with|some d=>(JS V r).map ((y,.fz d):: ·)|none=>none)=some W:=h;induction e:(look y V).bind fzO using fL with
  |none=>rw[e] at h;exact aA h
  |some d=>rw[e] at h;refine aq (J4.mp h) λl e2 z0=>?_;subst z0;exact⟨aT (y:: ·) (ih e2).1,.cons (bx (GG e)) (ih e2).2⟩
theorem gu.afL {W V:VS}(s:gu W V):∀p∈W,p∈V:=by
 induction s with
 |nil=>intro p hp;exact aR hp
 |cons q z ih=>intro p hp;cases hp with|head=>exact q.mem|tail z hp=>exact ih p hp
theorem Ob (h:JS V ys=some W):∀y∈ys,y∈V.map (·.1):=λy hy=>by have:=jw h;rw[<-this.1] at hy;refine aq (bN.mp hy) λp hp e=>?_;clear h hy;subst e;exact j9 (this.2.afL p hp)
theorem AK:∀{l:dU},Sj gl ys=some l->∀p∈l,p∈gl:=by
 induction ys with
 |nil=>intro l h;cases h;exact λp hp=>aR hp
 |cons y r ih=>
  intro l h;have h:(match look y gl with|some v=>(Sj gl r).map ((y,v):: ·)|none=>none)=some l:=h;induction e:look y gl using fL with
  |none=>rw[e] at h;exact aA h
  |some v=>
   rw[e] at h;refine aq (J4.mp h) λl' e2 z0=>?_;subst z0;intro p hp;cases hp with
   |head=>exact(bx e).mem
   |tail z hp=>exact ih e2 p hp
theorem Bg (hg:∀p∈gl',p∈glob){W:VS}(hW:W.map (·.1)=caps)(h:SH ce sc ts caps gl'=true):
  jZ fr.w.params sc ts (W.map (·.1)) gl'/\∀y∈caps,y∈ce:=by
 rw[hW];unfold SH at h;simp only[iK] at h;refine jl h λh1 h2 h3 h4 bK=>nX bK λh5 h6 h7=>clear% bK;?_;refine⟨⟨?_,by simpa using h5,jx h6⟩,λy hy=>by simpa using j8.mp h7 y hy⟩;unfold Eu;simp only[iK];refine⟨⟨⟨h1,h2⟩,j8.mpr λp hp=>?_⟩,h4⟩;have h8:=j8.mp h3 p hp;have h9:=j8.mp (abD fr.w.params) p (hg p hp);simp only[iK] at h9 ⊢;exact⟨⟨⟨h8,h9.1⟩,h9.2.1⟩,h9.2.2⟩
theorem Ab {ap p:Pos}(h:mOk o args ap p=true):args.any gC=false/\eval (.Call (.Attribute o n ap) args [] p) e=(do
   let ov<-eval o e
   standAt ap.atName
   let (f,first)<-holding [ov] (getMethod ov n (do return (<-importBound o e).getD true))
   callWith p f first (backTo p (starEach args e)) []):=by
 unfold mOk at h;simp only[iK,G5] at h;refine kU h λh1 h2 h3 h4=>⟨h1,?_⟩;have h3:=fu h3;have few:methodCallForm (args.length+0) (backTo p (starEach args e)) (backToKw p (keywordEach [] e))=true:=by
  have hk:backToKw p (keywordEach [] e)=[]:=by with_unfolding_all rfl
  delta methodCallForm;rw[HZ h1,hk];exact i6 (show args.length+0+0<30 by omega)
 show(do
   let ov<-attributeBase o n e (eval o e)
   standAt ap.atName
   methodCall o n ap p e ov (args.length+0) (backTo p (starEach args e)) (backToKw p (keywordEach [] e)))=_;rw[EC h2];have hp:methodCallPos true o e ap p=pure p:=bg h4;delta methodCall;rw[few,hp];rfl
theorem aaL {id:String}(h:aaM d n=some id):∃T,HM d=some T/\iO T n id:=by
 have key:∀{m:aa} {i:String} {T:String},(match c8 n m with|true=>some i|false=>none)=some id->iO T m i->iO T n id:=λ{m i T} h q=>by
  induction e:c8 n m using pR with
  |true=>rw[e] at h;cases h;rw[fP e];exact q
  |false=>rw[e] at h;exact aA h
 unfold aaM at h;split at h
 .exact⟨_,rfl,key h ajq⟩
 .exact⟨_,rfl,key h afO⟩
 .exact⟨_,rfl,key h V9⟩
 .exact⟨_,rfl,key h aaO⟩
 .exact aA h
theorem Hp.le (h:n<=m)(x:Hp f n l ds P):Hp f m l ds P:=λfr gl A E hf room=>x fr gl A E hf (room.le h)
theorem jn (h:sX x mk Q d V1):∃V2,Pv x (mk d) V1 V2/\Q .next V2:=by
 unfold sX at h;split at h
 .rename_i e;exact⟨_,fi e,h⟩
 .exact h.elim
theorem B7.mono (h:B7 fr A t E V ds Q)(k:∀d V,Q d V->Q' d V):B7 fr A t E V ds Q':=λvs F Vc own rest rv r=>(h vs F Vc own rest rv r).mono λa σ z=>cU z λd V' own' cs a1 a2 a3 a4 a5 a6=>(aL d V' own' cs a1 a2 a3 a4 a5 (k _ _ a6))
theorem afG (h:afH l=true):l.Nodup:=by
 induction l with
 |nil=>exact Ka
 |cons x r ih=>have h:(!(r.any (c8 x))&&afH r)=true:=h;simp only[iK,G5] at h;refine j7.mpr ⟨λq=>?_,ih h.2⟩;have:=adI.mp h.1 x q;exact this (PF x)
theorem age (h:isB k=true):∃b,k=.bool b:=by induction k using Const.casesOn<;>first|exact⟨_,rfl⟩|exact g5 h
end
section
variable {fr:Fm}{A:aQ}{V:VS}{self:WC->Tk->VS->Prop}
def Ih (self:WC->Tk->VS->Prop):Prop:=∀c fr A E t V,Fr c fr A->self c t V->t.ok fr A E V
variable (ih:Ih self){c:WC}(F:Fr c fr A)
include ih F
theorem Ih.e (h:self c (.ke x Q) V):DT fr A E Rp V (eval x fr.e) Q:=ih c fr A E _ V F h
theorem Ih.b (h:self c (.kb x Q) V):DT fr A E RB V (isTrue x fr.e (eval x fr.e)) Q:=ih c fr A E _ V F h
theorem Ih.l (h:self c (.kl x Q) V):DT fr A E aK V (spliced (backTo p (starEach x fr.e))) Q:=ih c fr A E _ V F h p
theorem Ih.lv {X:Type}{P:Prop}(h:self c (.ke x Q) V)(k:DT fr A E Rp V (eval x fr.e) Q->P):P:=k (ih c fr A E _ V F h)
omit ih F
variable {E:aS}{Q:az}
theorem N9 {P:Prop}{lf:Prop}(h:agY c self l VJ rs k lf V)
  (h1:∀op r,VJ=[op]->rs=[r]->behindInMarks op r=false->self c (.ke l λa V1=>self c (.ke r λb V2=>k op a b V2) V1) V->P)(h2:lf->P):P:=
 NL h (λop eo h=>NL h (λr er h=>cA h (λz=>h2) λe h=>h1 op r eo er (G8.mp e).1 h) h2) h2
theorem abe {X:Type}{xs:List X}{G H:X->D}{p:X->Bool}(ih:Ih self)(room:cC A c.m)
  (hce:∀aP,pX fr aP sc [x] (au.map (·.1)) gl'->∀y∈ce,Ce aP y)(h:∀a∈xs,acY (self ⟨c.m,gl',ce⟩) bA x gJ au (G a) (p a) (H a)):aeD fr A gl' bA x gJ sc au xs G H p:=⟨λaP hc a ha=>
 have F':Fr ⟨c.m,gl',ce⟩ aP A:=⟨hc.f,room,hce aP hc⟩
 l0E (h a ha) (λe h=>by rw[e];exact pV ⟨rfl,h.1.symm,λw=>(Ih.e ih F' h.2).mono λz V4 q=>⟨q.2,q.1⟩⟩) λh=>
 NL h (λt e h=>by rw[e];exact Zj ((Ih.b ih F' h.1).mono λo V4 q=>⟨q.1,q.2,λep=>(Ih.e ih F' (h.2 ep)).mono λz V4 q=>⟨q.2,q.1⟩⟩)) λh=>h.elim⟩
theorem Bj {ts caps l:ay}{aP:Fm}(hc:pX fr aP sc ts caps gl')(hx:x∈ts)(hl:∀y∈l,Ce aP y):∀y∈JR sc x l,Ce aP y:=λy hy=>by
 unfold JR at hy;split at hy
 .rename_i e
  cases hy with
  |head=>exact hc.Oa x hx (by simpa using e)
  |tail _ hy=>exact hl y hy
 .exact hl y hy
theorem afN {src:D}(ih:Ih self)(F:Fr c fr A)(hs:gu au V)
  (h:LD (self ⟨c.m,gl',JR sc x (au.map (·.1))⟩) bA x gJ au src Q V):pW fr A V gl' bA x gJ sc au Q src:=by
 unfold LD at h;obtain⟨X,xs,G,H,p,h1,h2,h3,h4⟩:=h;exact⟨X,xs,G,H,p,h1 _ _ F.room.handled,h2,hs,abe ih F.room (λaP hc=>Bj hc (.head _) hc.cap) h3,h4⟩
theorem JM {P:Prop}{bA:aD}{gens:List Comprehension}{lf:Prop}(ih:Ih self)(F:Fr c fr A)(h:Xn c self bA gens sc lf Q V)(L:lf->P)
  (k:∀x px it gJ gl',gens=[⟨.Name x px,it,gJ,0⟩]->(∀x,foldedSetIterable it fr.e x=pure x)->jZ fr.w.params sc [x] (fN sc.names) gl'->(∀y∈fN sc.names,Ce fr y)->(∀y∈fN sc.names,y∈(GH (fN sc.names) V).map (·.1))->
   (∀E,DT fr A E Rp (GH (fN sc.names) V) (eval it fr.e) λsrc V1=>∃au:VS,au.map (·.1)=fN sc.names/\pW fr A V1 gl' bA x gJ sc au Q src)->P):P:=
 NL h (λg eg h=>cA h (λea h=>n5 h (λx px et h=>cA h (λz=>L) λes h=>oE h (λgl egl h=>cA h (λz=>L) λz h=>oE h (λW e4 h=>cA h (λe5 h=>by
  obtain⟨t,it,gJ,k0⟩:=g;have hc:=jw e4;have hk:=Bg (fr:=fr) (AK egl) hc.1 e5;simp only[hc.1] at hk;refine k x px it gJ gl ?_ (oj (G8.mp es).1) hk.1 (λy hy=>F.ce y (hk.2 y hy)) (Ob e4) λE=>(Ih.e ih F h).mono λsrc V1 q=>Cu q λau e6 q=>?_
  .rw[eg,show t=_ from et,show k0=_ from jx ea]
  .have hc2:=jw e6
   exact⟨au,hc2.1,afN ih F hc2.2 (by rw[hc2.1];exact q)⟩) λz=>L) λz=>L) λz=>L) L) λz=>L) L
noncomputable def Np (e:Env)(pos:Pos):List (Option aD)->c7->List (Sem ao×Sem ao)
 |some k::ks,v::vs=>(eval k e,do let x<-eval v e;standAt pos;pure x)::Np e pos ks vs
 |_,_=>[]
theorem afi {ks:List (Option aD)}:∀{vs:c7},(ks.all λk=>(Wu k).isSome)=true->ks.length=vs.length->
  ((evalEachOpt ks e).zip ((evalEach vs e).map λv=>do let x<-v;standAt pos;pure x)=(Np e pos ks vs).map λp=>(some p.1,p.2))/\(Np e pos ks vs).length=ks.length:=by
 induction ks with
 |nil=>exact λ{vs} z hl=>⟨rfl,rfl⟩
 |cons k ks ih=>
  intro vs hk hl;simp only[List.all_cons,iK] at hk;induction vs using nU with
  |nil=>exact absurd hl (Nat.succ_ne_zero _)
  |cons v vs=>
  induction es:Wu k using fL with
  |none=>rw[es] at hk;exact g5 hk.1
  |some s=>
  refine Hv (Wt es) λn q ek=>?_;have h:=ih hk.2 (Oz hl);rw[ek];exact⟨aT (_:: ·) h.1,aT Nat.succ h.2⟩
theorem abS {ks:List (Option aD)}{pos:Pos}(ih:Ih self)(F:Fr c fr A):∀{vs:c7} {Q:uX->VS->Prop} {V:VS},ak2 c self ks vs Q V->DT fr A E (Zg fr.w) V (evalPairs (Np fr.e pos ks vs)) Q:=by
 induction ks with
 |nil=>exact λ{vs Q V} h=>l0E h (λz q=>O8 q) λh=>h.elim
 |cons k ks ih2=>exact λ{vs Q V} h=>Cu h λs es h=>LQ h (λv BZ ev h=>Hv (Wt es) λn q ek=>by rw[ek,ev];exact KU ((Ih.e ih F h).mono λd V1 q=>ih2 q)) λz h=>h.elim
theorem abT {lf:Prop}(ih:Ih self)(F:Fr c fr A)(h:ak3 c self ks vs lf Q V)(L:lf->DT fr A E Rp V (eval (.Dict ks vs p) fr.e) Q):DT fr A E Rp V (eval (.Dict ks vs p) fr.e) Q:=
 LQ h (λk r ek h=>cA h (λe h=>by simp only[iK] at e;have hp:=afi (pos:=p) (e:=fr.e) e.2.2 (ES e.2.1);refine uS (yV hp.1 (λq=>?_) (by rw[hp.2];exact fu e.1) ((abS ih F h).mono λl V1 q=>cA q (λn q=>⟨afG n,q⟩) λz q=>q.elim));have:=hp.2;rw[q,ek] at this;exact absurd this.symm (Nat.succ_ne_zero _)) λz=>L) λz=>L
theorem aaK {id:String}(F:Fr c fr A)(e:aaM d n=some id)(h:ajl c d id ds Q V):mZ fr A E Rp V (cl (.builtin id)) (d::ds) Q:=
 JK h (λl ed h=>NL h (λk ek h=>lU h (λs es q=>by
  subst ed;have:id="dict.get":=by
   have e:(match c8 n "get" with|true=>some "dict.get"|false=>none)=some id:=e;split at e
   .exact(mT e).symm
   .exact aA e
  rw[this,ek,es];exact afz q) λh=>h.elim) λh=>h.elim) λh=>kr h fr A E F
theorem Nz {o:aD}{n:aa}{ap p:Pos}{lf:Prop}(ih:Ih self)(F:Fr c fr A)(h:VZ c self o n ap args p lf Q V)(L:lf->DT fr A E Rp V (eval (.Call (.Attribute o n ap) args [] p) fr.e) Q):DT fr A E Rp V (eval (.Call (.Attribute o n ap) args [] p) fr.e) Q:=
 cA h (λe h=>have he:=Ab (n:=n) (e:=fr.e) (iK .. ▸e).1
  ahj F.f ((Ih.e ih F h).mono λd V1 q=>Cu q λid e2 q=>aq (aaL e2) λT t1 t2=>(eB T id t1 t2 ((Ih.l ih F q).mono λds V2 q=>aaK F e2 q))) he.2 (gS he.1)) λz=>L
theorem XM {Q:ak->VS->Prop}(h:DT fr A E Rp V (eval x fr.e) λy V1=>Q [y] V1)(hs:gC x=false):DT fr A E aK V (spliced (backTo p (starEach [x] fr.e))) Q:=
 sJ (h.mono λy V1 q=>l6 q) (jB hs)
section
variable {x:aa}{xp ap p:Pos}{args:c7}{e g:aD}{mk:gm}{d:D}{n:aa}{lf:Prop}(ih:Ih self)(F:Fr c fr A)(hl:ia x (mk d) V λt=>jH x t V)(hk:mk=.ow\/mk=.ln)(hm:mOk (.Name x xp) args ap p=true)
 (L:lf->DT fr A E Rp V (eval (.Call (.Attribute (.Name x xp) n ap) args [] p) fr.e) Q)
include ih F hl hk hm L
omit ih in
theorem afd (en:c8 n "reverse"=true)(ea:args=[])(h:qK d (fun l=>Q .none (jH x (mk (.list l.reverse)) V)) lf):DT fr A E Rp V (eval (.Call (.Attribute (.Name x xp) n ap) args [] p) fr.e) Q:=
 kO h (λl el h=>by have en:=fP en;subst en ea el;exact S0 F.f hl hk h (Ab (n:="reverse") (e:=fr.e) hm).2) L
theorem ab5 (en:c8 n "append"=true)(ea:args=[e])(h:alw c self x e mk d lf Q V):DT fr A E Rp V (eval (.Call (.Attribute (.Name x xp) n ap) args [] p) fr.e) Q:=
 kO h (λl el h=>by have en:=fP en;subst en ea el;have he:=Ab (n:="append") (e:=fr.e) hm;exact Zo F.f hl hk (λv=>XM ((Ih.e ih F (h v)).mono λy V2 q=>have q:=JU q;(pG y _ rfl q.1 q.2.1 q.2.2)) (G8.mp he.1).1) he.2 (gS he.1)) L
theorem abN (en:c8 n "extend"=true)(ea:args=[e])(h:akV c self x e mk d lf Q V):DT fr A E Rp V (eval (.Call (.Attribute (.Name x xp) n ap) args [] p) fr.e) Q:=
 kO h (λl el h=>by have en:=fP en;subst en ea el;have he:=Ab (n:="extend") (e:=fr.e) hm;exact Zu F.f hl hk (λv=>XM ((Ih.e ih F (h v)).mono λy V2 q=>kO q (λm em q=>have q:=JU q;(pG m _ (em▸rfl) q.1 q.2.1 q.2.2)) λh=>h.elim) (G8.mp he.1).1) he.2 (gS he.1)) L
theorem aiK (en:c8 n "setdefault"=true)(ea:args=[e,g])(h:sdE c self x e g mk d lf Q V):DT fr A E Rp V (eval (.Call (.Attribute (.Name x xp) n ap) args [] p) fr.e) Q:=
 JK h (λl el h=>by
  have en:=fP en;subst en ea el;have he:=Ab (n:="setdefault") (e:=fr.e) hm;have hs:gC e=false/\gC g=false:=by have hs:=he.1;simp only[BB,G8,BB,G8] at hs;exact⟨hs.1,hs.2.1⟩
  refine Hq F.f hl hk (λv=>sJ ((Ih.e ih F (h v)).mono λk V1 q=>XM (Q:=λds V2=>∃k' y f2,k::ds=[.str k',y]/\ia x (.at v) V2 f2/\l.length<=cap/\(∀z,d9 l k'=some z->Q z (f2 (mk (.dict l))))/\(d9 l k'=none->Q y (f2 (mk (.dict (jG l k' y)))))) ((Ih.e ih F q).mono λy V2 q=>?_) hs.2) (jB hs.1)) he.2 (gS he.1);exact lU q (λs es q=>have q:=JU q;(aV s y _ (es▸rfl) q.1 q.2.1 q.2.2.1 q.2.2.2)) λh=>h.elim) L
omit hm in
theorem aan (h:afj c self x n ap p args mk d lf Q V):DT fr A E Rp V (eval (.Call (.Attribute (.Name x xp) n ap) args [] p) fr.e) Q:=
 cA h (λhm h=>l0E h (λea h=>cA h (λe4 h=>afd F hl hk hm L e4 ea h) λz=>L) λh=>
  NL h (λe ea h=>cA h (λe4 h=>ab5 ih F hl hk hm L e4 ea h) λz h=>cA h (λe4 h=>abN ih F hl hk hm L e4 ea h) λz=>L) λh=>
  l2E h (λe g ea h=>cA h (λe4 h=>aiK ih F hl hk hm L e4 ea h) λz=>L) L) λz=>L
end
section
variable {g:aa}{gp p:Pos}{args:c7}{lf:Prop}(ih:Ih self)(F:Fr c fr A)(L:lf->DT fr A E Rp V (eval (.Call (.Name g gp) args [] p) fr.e) Q)
include ih F L
theorem afR {f:av}(hg:Hs (g,Value.ref f) c.gl)(hs:args.any gC=false)(h:afS c self f args lf Q V):DT fr A E Rp V (eval (.Call (.Name g gp) args [] p) fr.e) Q:=
 LQ h (λa rest ea h=>n5 h (λx xp ex h=>oE h (λr er h=>kO h (λl el h=>by
  have ho:=Fy er;rw[el] at ho;rw[ea,ex] at hs ⊢;exact acE F.f hg ho.1 ho.2 F.room (br _) (λu=>(Ih.l ih F (h u)).mono λds V2 q=>by have q:=JU q;have q2:=q.2;unfold Bl at q2;exact dm q2 λn P hn hx hk=>(pH _ q.1 P (hx.le hn) hk)) (by rfl) (gS hs) (by rfl)) L) λz=>L) L) λz=>L
omit L in
theorem Oc (ev:look g c.gl=some v)(es:args.any gC=false)(h:self c (.kl args (apK c v Q)) V):DT fr A E Rp V (eval (.Call (.Name g gp) args [] p) fr.e) Q:=
 Pe F.f (bx ev) ((Ih.l ih F h).mono λds V1 q=>ab4 F q) (by rfl) (gS es)
omit L in
theorem aa1 {v:ao}{N:Prop}(ev:look g c.gl=some v)(h:afU g v args V (λn=>n<=cap/\Q (.int n) V) N)(l:N->DT fr A E Rp V (eval (.Call (.Name g gp) args [] p) fr.e) Q):DT fr A E Rp V (eval (.Call (.Name g gp) args [] p) fr.e) Q:=
 cA h (λe h=>NL h (λa ea h=>n5 h (λx xp ex h=>cA h (λz h=>oE h (λn en q=>aq (JT en) λd ed en=>by
  simp only[iK] at e;have eg:=fP e.1;have e3:look x V=some (.ow d):=aq (JT ed) λs e1 e2=>e1.trans (aT some (afk e2));have e2:=e.2;split at e2
  .rw[jx e2] at ev
   rw[ea,ex];subst eg;exact ahk F.f (bx ev) (cj e3) (.inl rfl) en q.1 (by rw[zg e3];exact q.2)
  .exact g5 e2) λz=>l) λz=>l) l) l) λz=>l
theorem abZ (h:oW (look g V) (λz=>lf) (oW (look g c.gl) (λv=>fW (args.any gC) lf
   (oW (Ls v) (λf=>fW (Wj f) (afS c self f args lf Q V) (self c (.kl args (apK c v Q)) V)) (afU g v args V (λn=>n<=cap/\Q (.int n) V) (self c (.kl args (apK c v Q)) V)))) lf)):DT fr A E Rp V (eval (.Call (.Name g gp) args [] p) fr.e) Q:=
 oE h (λz z=>L) λz h=>oE h (λv ev h=>cA h (λz=>L) λes h=>oE h (λf er h=>cA h (λz h=>afR ih F L (bx (ev.trans (aT some (Nm er)))) es h) λz h=>Oc ih F ev es h) λz h=>aa1 ih F ev h λh=>Oc ih F ev es h) λz=>L
end
theorem ab0 {o:aD}{n:aa}{lf:Prop}(ih:Ih self)(F:Fr c fr A)(h:uZ o (λx xp=>oW (look x V) (λs=>oW (xK s) (λr=>afj c self x n ap p args r.2 r.1 lf Q V) (VZ c self o n ap args p lf Q V)) lf) (VZ c self o n ap args p lf Q V))
  (L:lf->DT fr A E Rp V (eval (.Call (.Attribute o n ap) args [] p) fr.e) Q):DT fr A E Rp V (eval (.Call (.Attribute o n ap) args [] p) fr.e) Q:=
 n5 h (λx xp eo h=>oE h (λs es h=>oE h (λr er q=>by have ho:=Fx er;clear h er;subst eo;exact aan ih F (cj (es.trans (aT some ho.1))) ho.2 L q) λz h=>Nz ih F h L) λz=>L) λh=>Nz ih F h L
theorem XA {lf:Prop}(ih:Ih self)(F:Fr c fr A)(h:adk c self f args kw lf p Q V)(L:lf->DT fr A E Rp V (eval (.Call f args kw p) fr.e) Q):DT fr A E Rp V (eval (.Call f args kw p) fr.e) Q:=
 l0E h (λek h=>n5 h (λg gp ef h=>by subst ek ef;exact abZ ih F L h) λh=>acH h (λo n ap ef h=>by subst ek ef;exact ab0 ih F h L) L) L
theorem Nr (ih:Ih self)(F:Fr c fr A)(h:VG c self o k V):DT fr A E Rp V (evalPart o fr.e) k:=match o,h with
 |none,h=>MY h
 |some e,h=>MX (Ih.e ih F h)
theorem ae7 (ih:Ih self)(F:Fr c fr A){lf:Prop}(h:aiH c self o i lf Q V)(L:lf->DT fr A E Rp V (eval (.Subscript o i p) fr.e) Q):DT fr A E Rp V (eval (.Subscript o i p) fr.e) Q:=
 ah5 h (λlo up st q ei h=>cA h (λe h=>by rw[ei,aep.mp e];exact acz ((Ih.e ih F h).mono λd V1 z=>(Nr ih F z).mono λa V2 z=>(Nr ih F z).mono λb V3 z=>ae9 z)) λy=>L) L
theorem afT {o i:aD}{p:Pos}{lf:Prop}(F:Fr c fr A)(h:lnS o i lf Q V)(L:lf->DT fr A E Rp V (eval (.Subscript o i p) fr.e) Q):DT fr A E Rp V (eval (.Subscript o i p) fr.e) Q:=
 acG h (λk n0 ip ei h=>oE h (λn en h=>n5 h (λx xp eo h=>oE h (λr er h=>kO h (λl el h=>cA h (λe3 h=>Cu h λy e4 q=>by refine aq (JT er) λs e1 e2=>?_;have ho:=Fx e2;have e1:=e1.trans (aT some ho.1);rw[el] at e1;rw[ei,abk en,eo];exact ahh F.f (cj e1) ho.2 λv=>aeJ ⟨_,y,cj (HL e1),λF Vc cs rest u f7 rk=>Rr (IL e3) e4 f7 rk (λz z=>rfl),by rw[Nb,zg e1];exact q⟩) λz=>L) L) λz=>L) L) λz=>L) L
end
section
variable {fr:Fm}{A:aQ}{V:VS}{self:WC->Tk->VS->Prop}{c:WC}{E:aS}
theorem T6 (ih:Ih self)(F:Fr c fr A){x:aD}(h:step c self (.ke x Q) V):DT fr A E Rp V (eval x fr.e) Q:=by
 induction x using Expr.casesOn with
 |Name y p=>exact VY F h
 |Constant k n p=>exact abW F h
 |Attribute o a p=>exact cA h (λz h=>bI h fr A E F) λe h=>aho ((Ih.e ih F h).mono λd V1 q=>XI F q) (ab2 e)
 |Compare l VJ rs p=>exact N9 h (λop r e1 e2 hm hh=>by rw[e1,e2];exact S2 ((Ih.e ih F hh).mono λa V1 q=>(Ih.e ih F q).mono λb V2 q=>N8 F q) hm) (λh=>bI h fr A E F)
 |BinOp l op r p=>exact acF ((Ih.e ih F h).mono λa V1 q=>(Ih.e ih F q).mono λb V2 q=>ab1 F q)
 |BoolOp op xs p=>induction op using BoolOp.casesOn with
  |And=>exact ih _ _ _ E _ _ F h p
  |Or=>exact ih _ _ _ E _ _ F h p
 |Subscript o i p=>exact cA h (λz h=>afT F h λh=>bI h fr A E F) λz h=>cA h (λz h=>ae7 ih F h λh=>bI h fr A E F) λe h=>alM ((Ih.e ih F h).mono λa V1 q=>(Ih.e ih F q).mono λb V2 q=>ZU F e q)
 |Tuple xs k p=>exact Zp F.f ((Ih.l ih F h).mono λds V1 q=>Xy q)
 |List xs p=>exact Pc F.f ((Ih.l ih F h).mono λds V1 q=>Xy q)
 |Dict ks vs p=>exact abT ih F h λh=>bI h fr A E F
 |UnaryOp op y p=>cases op with
  |USub=>exact acw ((Ih.e ih F h).mono λd V1 q=>aaI F q)
  |_=>exact bI h fr A E F
 |IfExp t a b p=>exact acA ((Ih.b ih F h).mono λc V1 q=>have q:=mR q;⟨λe=>Ih.e ih F (q.1 e),λe=>Ih.e ih F (q.2 e)⟩)
 |Call f args kw p=>exact XA ih F h λh=>bI h fr A E F
 |JoinedStr vs p=>exact LQ h (λa r e h=>LQ h (λb r2 e2 h=>by rw[e,e2] at h ⊢;exact ahn (ih _ _ _ E _ _ F h)) λz h=>bI h fr A E F) λz h=>bI h fr A E F
 |FormattedValue v k sp p=>exact cA h (λe h=>by simp only[iK] at e;rw[jx e.1,aep.mp e.2];exact ao9 ((Ih.e ih F h).mono λd V1 q=>agN q)) λz h=>bI h fr A E F
 |ListComp bA gens sc p=>exact JM ih F h (λh=>bI h fr A E F) λx px it gJ gl e hs hB hc hV hd=>by rw[e];exact Xc (acC F.f hB hc hV (hd E) hs)
 |_=>exact bI h fr A E F
theorem VE (h:agd x=true):isTrue x e w=(do let v<-w;standAt x.pos;holding [v] (truthy v)):=by induction x using Expr.casesOn<;>first|rfl|exact g5 h
theorem T7 (ih:Ih self)(F:Fr c fr A){Q:Dm}(h:step c self (.kb x Q) V):DT fr A E RB V (isTrue x fr.e (eval x fr.e)) Q:=by
 have P:∀{x:aD},fW (agd x) (self c (.ke x λd V1=>tru c d Q V1) V) (dD c (.kb x Q) V)->DT fr A E RB V (isTrue x fr.e (eval x fr.e)) Q:=λ{x} h=>cA h (λe h=>Zk ((Ih.e ih F h).mono λd V1 q=>E7 F q) (VE e)) λz h=>bI h fr A E F;induction x using Expr.casesOn with
 |Compare l VJ rs p=>exact N9 h (λop r e1 e2 hm hh=>by rw[e1,e2];exact BX ((Ih.e ih F hh).mono λa V1 q=>(Ih.e ih F q).mono λb V2 q=>gG.mono (N8 F q) λd V3 q=>E7 F q) hm) (λh=>bI h fr A E F)
 |BoolOp op xs p=>induction op using BoolOp.casesOn with
  |And=>exact ih _ _ _ E _ _ F h p _
  |Or=>exact ih _ _ _ E _ _ F h p _
 |UnaryOp op y p=>cases op with
  |Not=>exact ahb (Ih.b ih F h)
  |_=>exact bI h fr A E F
 |_=>exact P h
theorem PL (ih:Ih self)(F:Fr c fr A)(h:step c self (.kta xs Q) V)(p:Pos)(w:Sem ao):DT fr A E RB V (isTrue (.BoolOp .And xs p) fr.e w) Q:=match xs,h with
 |[],h=>SY h
 |x::r,h=>ahd ((Ih.b ih F h).mono λo V1 q=>have q:=mR q;⟨λe=>ih _ _ _ E _ _ F (q.1 e) p w,q.2⟩)
theorem PK (ih:Ih self)(F:Fr c fr A)(h:step c self (.kto xs Q) V)(p:Pos)(w:Sem ao):DT fr A E RB V (isTrue (.BoolOp .Or xs p) fr.e w) Q:=match xs,h with
 |[],h=>Zl h
 |x::r,h=>alJ ((Ih.b ih F h).mono λo V1 q=>have q:=mR q;⟨q.1,λe=>ih _ _ _ E _ _ F (q.2 e) p w⟩)
theorem PJ (ih:Ih self)(F:Fr c fr A){Q:az}(h:step c self (.kva xs Q) V)(p:Pos):DT fr A E Rp V (eval (.BoolOp .And xs p) fr.e) Q:=
 LQ h (λx r e h=>LQ h (λy r2 e2 h=>by
  rw[e2] at e h;rw[e];exact alO ((Ih.e ih F h).mono λd V1 q=>(E7 F q).HN λo V2 q=>have q:=mR q;⟨λe=>ih _ _ _ E _ _ F (q.1 e) p,q.2⟩)) λe2 h=>by
  rw[e,e2];exact ahp (Ih.e ih F h) (by rfl)) λz h=>bI h fr A E F p
theorem PG (ih:Ih self)(F:Fr c fr A){Q:az}(h:step c self (.kvo xs Q) V)(p:Pos):DT fr A E Rp V (eval (.BoolOp .Or xs p) fr.e) Q:=
 LQ h (λx r e h=>LQ h (λy r2 e2 h=>by
  rw[e2] at e h;rw[e];exact ao8 ((Ih.e ih F h).mono λd V1 q=>(E7 F q).HN λo V2 q=>have q:=mR q;⟨q.1,λe=>ih _ _ _ E _ _ F (q.2 e) p⟩)) λe2 h=>by
  rw[e,e2];exact alN (Ih.e ih F h) (by rfl)) λz h=>bI h fr A E F p
theorem T4 (ih:Ih self)(F:Fr c fr A)(h:step c self (.kl xs Q) V)(p:Pos):DT fr A E aK V (spliced (backTo p (starEach xs fr.e))) Q:=
 LQ h (λx r ex h=>cA h (λz h=>bI h fr A E F p) λe h=>by rw[ex];exact sJ ((Ih.e ih F h).mono λd V1 q=>Ih.l ih F q) (jB e)) λe h=>by rw[e];exact l6 h
theorem T5 (ih:Ih self)(F:Fr c fr A)(h:step c self (.kj out xs Q) V):DT fr A E Rp V (joinParts out (evalEach xs fr.e)) Q:=match xs,h with
 |[],h=>Zt h.1 h.2
 |x::r,h=>S1 ((Ih.e ih F h).mono λd V1 q=>lU q (λy e q=>⟨y,e,q.1,ih _ _ _ E _ _ F q.2⟩) λq=>q.elim)
theorem afI (h:ajk a b Q V)(k:∀d V,Q d V->Q' d V):Dp fr A (binaryOp .Mult) E V a b Q':=
 kO h (λl ea h=>NL h (λx el h=>iZ h (λn eb h=>by rw[ea,el,eb];exact tE h.1.1 h.1.2 (k _ _ h.2)) λh=>h.elim) λh=>h.elim) λh=>h.elim
theorem ZP (h:aiu c V g=true):∃n p,g=.Name n p/\Hs (n,Value.ref 279) c.gl:=by
 induction g using Expr.casesOn<;>first|exact g5 h|skip
 rename_i n p;have h:(match look n V with|some _=>false|none=>match look n c.gl with|some v=>isV v|none=>false)=true:=h;split at h
 .exact g5 h
 .split at h
  .rename_i e2;exact(r9 n p rfl (bx (e2.trans (aT some (WD h)))))
  .exact g5 h
theorem aaX (h:ajt l op=true):op=.Mult:=by induction op using Zc6<;>first|rfl|exact g5 h
theorem ano (h:pW fr A V gl' bA x gJ sc au Q src)(k:∀d V,Q d V->Q' d V):pW fr A V gl' bA x gJ sc au Q' src:=by obtain⟨X,xs,F,G,p,h1,h2,h3,h4,h5⟩:=h;exact⟨X,xs,F,G,p,h1,h2,h3,h4,k _ _ h5⟩
section
variable {x:aa}{q p:Pos}{v:aD}{Q:bY}{lf:Prop}(ih:Ih self)(F:Fr c fr A)(hw:iL fr)
include ih F hw
theorem uG (hc:vG v=false)(h:self c (.ke v (sX x .fz Q)) V):DT fr A E RF V (exec (.Assign [.Name x q] v p) fr.e) Q:=Hr hw ((Ih.e ih F h).mono λd V1 z=>jn z) (fC hc)
theorem ab3 (h:alu c self x v lf Q V)(L:lf->DT fr A E RF V (exec (.Assign [.Name x q] v p) fr.e) Q):DT fr A E RF V (exec (.Assign [.Name x q] v p) fr.e) Q:=
 cA h (λel h=>cA h (λw h=>aib h (λbA gens sc cp ev h=>JM ih F h L λy py it gJ gl e hs hB hc hV hd=>by rw[ev,e];exact Xc (Dr F.f hw hB hc hV ((hd E).mono λsrc V1 z=>aq z λau h1 z=>⟨au,h1,ano z λd V1 z=>jn z⟩) hs)) L) λhc h=>
  ah7 h (λxs lp ev h=>l0E h (λe h=>by rw[ev,e];exact S5 F.f hw (jn h) (fC rfl)) λh=>uG ih F hw hc h) λh=>
  ah9 h (λks vs dp ev h=>cA h (λe h=>by
   rw[iK,Ys,Ys] at e;rw[ev,e.1,e.2];unfold ak4 at h;split at h
   .exact eK hw (Zi (jn h)) (fC rfl)
   .split at h
    .exact eK hw (Zh (jn h)) (fC rfl)
    .exact MW hw (jn h) (fC rfl)) λw h=>uG ih F hw hc h) λh=>
  aif h (λl op r bp ev h=>cA h (λe h=>by rw[ev,aaX e];exact eK hw (acs ((Ih.e ih F h).mono λa V1 q=>(Ih.e ih F q).mono λb V2 q=>afI q λd V3 z=>jn z)) (fC rfl)) λw h=>uG ih F hw hc h) λh=>
  aid h (λf args kw cp ev h=>cA h (λe h=>cA h (λe2 h=>by rw[iK,Ys,G5] at e2;refine dw (ZP e) λn np ef hn=>?_;rw[ev,e2.1,ef];exact eK hw (Hj F.f hn ((Ih.l ih F h).mono λds V1 q=>B7.mono (M9 F q) λd V2 z=>jn z) (by rfl) (gS e2.2)) (fC rfl)) λw=>L) λw h=>cA h (λw=>L) λw h=>uG ih F hw hc h) λh=>uG ih F hw hc h) λw=>L
theorem aai {xp:Pos}{i:aD}(h:ai2 c self x i v lf Q V)(L:lf->DT fr A E RF V (exec (.Assign [.Subscript (.Name x xp) i q] v p) fr.e) Q):DT fr A E RF V (exec (.Assign [.Subscript (.Name x xp) i q] v p) fr.e) Q:=
 cA h (λt=>L) λhc h=>Zq F.f ((Ih.e ih F h).mono λy V1 z=>Cu z λr er z=>have ho:=Fy er
  (gE r.2 r.1 _ ho.1 ho.2 (λu=>(Ih.e ih F (z u)).mono λk V2 w=>have w:=JU w;aq (afg w.2) λd' w1 w2=>(eB _ d' w.1 w1 w2)))) (fC hc)
theorem aaj {xp:Pos}{n:aa}(h:ai4 c self x n v lf Q V)(L:lf->DT fr A E RF V (exec (.Assign [.Attribute (.Name x xp) n q] v p) fr.e) Q):DT fr A E RF V (exec (.Assign [.Attribute (.Name x xp) n q] v p) fr.e) Q:=
 cA h (λen h=>cA h (λw=>L) λhc h=>by
  rw[fP en];exact MV F.f ((Ih.e ih F h).mono λy V1 z=>Cu z λr er z=>N5 z (λks i t ev z=>have ho:=Fy er
   (ua r.2 ks i (eB t _ (ev▸ho.1) ho.2 z))) λz=>z.elim) (fC hc)) λw h=>
 cA h (λen h=>acG h (λb k cp ev h=>cA h (λeb h=>oE h (λd ed h=>N5 h (λks i t ed2 h=>xE (age eb) λb' eb=>by simp only[ed2] at ed;rw[fP en,ev,eb];exact KX F.f (bx (GG ed)) h (fC rfl)) L) λw=>L) λw=>L) L) λw=>L
end
theorem T3 (ih:Ih self)(F:Fr c fr A)(hw:iL fr){st:Stmt}{Q:bY}(h:step c self (.kx st Q) V):DT fr A E RF V (exec st fr.e) Q:=by
 have L:∀{st:Stmt},dD c (.kx st Q) V->DT fr A E RF V (exec st fr.e) Q:=λ{st} h=>bI h fr A E F hw;induction st using Stmt.casesOn with
 |If t a b p=>exact acB ((Ih.b ih F h).mono λo V1 q=>have q:=mR q;⟨λe=>ih _ _ _ E _ _ F (q.1 e) hw,λe=>ih _ _ _ E _ _ F (q.2 e) hw⟩)
 |Return o p=>cases o with
  |some x=>exact Zs (Ih.e ih F h)
  |none=>exact L h
 |Pass p=>exact ahi h
 |Expr y p=>exact cA h (λw=>L) λe h=>Zv (Ih.e ih F h) (fC e)
 |Assign ts v p=>exact NL h (λt et h=>by
   rw[et] at h ⊢;refine n5 h (λx q e h=>by rw[e] at h ⊢;exact ab3 ih F hw h L) λh=>ah3 h (λo i q e h=>n5 h (λx xp eo h=>by rw[e,eo] at h ⊢;exact aai ih F hw h L) λh=>by rw[<-e] at*;exact L h) λh=>
    acH h (λo n q e h=>n5 h (λx xp eo h=>by rw[e,eo] at h ⊢;exact aaj ih F hw h L) L) L) L
 |AugAssign t op v p=>exact n5 h (λx q e h=>oE h (λa ea h=>by rw[e];exact S4 F.f hw (bx (GG ea)) ((Ih.e ih F h).mono λb V1 q=>gG.mono (abh F q) λd V2 z=>jn z)) λw=>L) L
 |For t it b o p=>exact n5 h (λx q et h=>cA h (λw=>L) λe h=>by rw[et];exact ahl hw ((Ih.e ih F h).mono λsrc V1 q=>Xe q fr A E F hw) (oj e)) L
 |_=>exact L h
theorem HY (ih:Ih self){body:fc}(F:Fr c fr A)(hw:iL fr)(hR:∀V,R V->DT fr A E RF V (execs (body.drop (k+1)) fr.e) Q)(h:match body[k]? with|none=>Q .next V|some st=>self c (.kx st (sqK R Q)) V):DT fr A E RF V (execs (body.drop k) fr.e) Q:=by
 split at h
 .rename_i e
  rw[YT (SJ.mp e)];exact xq h
 .rename_i e
  refine xE (Bu.mp e) λhk e=>?_;rw[pQ hk,e];refine cL ((ih _ _ _ E _ _ F h hw).mono λf V2 q=>?_);induction f using DF.casesOn with
  |next=>exact hR _ q
  |_=>exact q
end
theorem bD:∀n,Ih (wp n)
 |0,c,fr,A,E,t,V,F,h=>bI h fr A E F
 |n+1,c,fr,A,E,t,V,F,h=>match t,h with
  | .ke _ _,h=>T6 (bD n) F h
  | .kb _ _,h=>T7 (bD n) F h
  | .kta _ _,h=>PL (bD n) F h
  | .kto _ _,h=>PK (bD n) F h
  | .kva _ _,h=>PJ (bD n) F h
  | .kvo _ _,h=>PG (bD n) F h
  | .kl _ _,h=>T4 (bD n) F h
  | .kj _ _ _,h=>T5 (bD n) F h
  | .kx _ _,h=>λhw=>T3 (bD n) F hw h
  | .ks _ _ _,h=>λhw=>HY (bD n) F hw (λV q=>bD n _ _ _ E (.ks _ _ _) V F q hw) h
  | .kq _ _ _,h=>λhw=>HY (bD n) F hw (λV q=>match q with| .mk q=>bD n _ _ _ E (.kq _ _ _) V F q hw) h
noncomputable def Mx:List (aa×NameKind)->ay
 |[]=>[]
 |p::r=>match p.2 with| .cell=>p.1::Mx r| .free=>p.1::Mx r|_=>Mx r
theorem GU:∀{l:List (aa×NameKind)} {y:aa},y∈Mx l->(y,NameKind.cell)∈l\/(y,NameKind.free)∈l
 |(z,k)::r,y,h=>by
  cases k with
  |cell=>cases h with
   |head=>exact .inl (.head _)
   |tail x h=>exact(GU h).imp (.tail _) (.tail _)
  |free=>cases h with
   |head=>exact .inr (.head _)
   |tail x h=>exact(GU h).imp (.tail _) (.tail _)
  |_=>exact(GU (l:=r) h).imp (.tail _) (.tail _)
noncomputable def SI (sc:eO):ay:=match ceB sc (Mx sc.names) with|true=>Mx sc.names|false=>[]
theorem lg {sc:eO}(e:fr.e.scope=sc):∀y∈SI sc,Ce fr y:=λy hy=>by
 unfold SI at hy;induction q:ceB sc (Mx sc.names) using pR with
 |true=>simp only[q] at hy;exact Ce.of e q y hy
 |false=>simp only[q] at hy;exact aR hy
section
variable {c:WC}{fr:Fm}{A:aQ}{E:aS}{V:VS}
theorem wpS (F:Fr c fr A)(hw:iL fr)(h:wp 100 c (.ks l 0 Q) V):DT fr A E RF V (execs l fr.e) Q:=bD 100 c fr A E (.ks l 0 Q) V F h hw
theorem wpX (F:Fr c fr A)(hw:iL fr)(h:wp 100 c (.kx s Q) V):DT fr A E RF V (exec s fr.e) Q:=bD 100 c fr A E (.kx s Q) V F h hw
theorem S8 (F:Fr c fr A)(h:wp 100 c (.ke x Q) V):DT fr A E Rp V (eval x fr.e) Q:=bD 100 c fr A E (.ke x Q) V F h
theorem aE.dO (df:dI f fd body ps ls gl)(hl:ds.length=ps.length)
  (h:∀R:kc,R v->wp 100 ⟨n,gl,SI fd.scope⟩ (.ks body 0 (flK R)) (V0 ps ds ls)):aE f (n+1) ds (λr=>r=v):=
 aE.of df hl λfr A hf hw room iG=>wpS ⟨hf,room,lg iG⟩ hw (h (λr=>r=v) rfl)
theorem aE.ofP (df:dI f fd body ps ls gl)(hl:ds.length=ps.length)
  (h:∀R:kc,(∀d,P d->R d)->wp 100 ⟨n,gl,SI fd.scope⟩ (.ks body 0 (flK R)) (V0 ps ds ls)):aE f (n+1) ds P:=
 aE.of df hl λfr A hf hw room iG=>wpS ⟨hf,room,lg iG⟩ hw (h P λz h=>h)
theorem aE.ani {dv:bC}{n:Nat}{v:D}(df:dI f fd body ps ls gl)(hr:∀F,aK F dds dv)
  (NZ:∀P (vals:bC),vals.length=ds.length->∀S,peek (K P) S (bindArgs fd ⟨vals,[]⟩)=some (ps.zip (vals++dv)))(hl:ds.length+dds.length=ps.length)
  (h:∀R:kc,R v->wp 100 ⟨n,gl,SI fd.scope⟩ (.ks body 0 (flK R)) (V0 ps (ds++dds) ls)):aE f (n+1) ds (λr=>r=v):=
 aE.ofD df hr NZ hl λfr A hf hw room iG=>wpS ⟨hf,room,lg iG⟩ hw (h (λr=>r=v) rfl)
theorem Hp.ofP {f:av}{x0:aa}{ps ls:ay}{l0 ds:ak}{P:D->ak->Prop}(df:dI f fd body (x0::ps) ls gl)(hl:ds.length=ps.length)(hc:l0.length<=cap)
  (h:∀R:D->ak->Prop,(∀d l,P d l->R d l)->wp 100 ⟨n,gl,SI fd.scope⟩ (.ks body 0 λfl V'=>∃l' V2,V'=(x0,.ln (.list l'))::V2/\R (ie fl) l') ((x0,.ln (.list l0))::V0 ps ds ls)):Hp f (n+1) l0 ds P:=
 Hp.of df hl hc λfr A hf hw room iG=>wpS ⟨hf,room,lg iG⟩ hw (h P λz z h=>h)
theorem qD {α β:Prop}(h:α)(e:α=β):Kn β:=.mk (e▸h)
theorem kx {α β:Prop}(a:α)(e:α=β):β:=e▸a
theorem rV {R:kc}(h:R v)(e:d=v):R d:=e▸h
theorem ai {f:av}{P:kc}(x:aE f n ds λr=>r=v)(k:P v)(h:n<=m:=by exact fu rfl):Bk m f ds P:=by unfold Bk;exact(eB n _ h x (λz e=>e▸k))
theorem alm (x:aE f n ds R)(k:∀d,R d->P d)(h:n<=m:=by exact fu rfl):Bk m f ds P:=by unfold Bk;exact(eB n _ h x k)
theorem GV (x:Hp f n l ds R)(k:∀d l',R d l'->P d l')(h:n<=m:=by exact fu rfl):Bl m f l ds P:=by unfold Bl;exact(eB n _ h x k)
theorem f5 {X:Type}{o:Option X}{x:X}{P:X->Prop}(e:o=some x)(h:P x):oU o P:=by subst e;exact h
theorem nnI (h:0<=k):nnB k=true:=match k,h with
 | .ofNat _,_=>rfl
theorem ixZ {l:ak}{k:Int}{x:D}{Y:Prop}(hk:0<=k)(e:l[k.toNat]? =some x)(h:P x):fW (nnB k) (oU l[k.toNat]? P) Y:=cT (nnI hk) (f5 e h)
theorem G0 {X:Prop}(h:n<=cap)(k:X):Sl.at v=Sl.at v/\n<=cap/\X:=⟨rfl,h,k⟩
theorem bS:Hh (.list l) l:=λz z h=>Ea h l
theorem amQ:Hh (.dict l) (l.map λp=> .str p.1):=λz z h=>RU h l
def DC (c:WC)(x:aa)(b:fc)(K:bY)(d:D)(V:VS):Prop:=match look x V with
 |some z=>wp 90 c (.ks b 0 K) (jH x (.fz d) V)
 |none=>False
theorem ZQ {K:bY}(F:Fr c fr A)(hw:iL fr)(h:DC c x b K d V):∃V2,Pv x (.fz d) V V2/\DT fr A E RF V2 (execs b fr.e) K:=by
 unfold DC at h;induction e:look x V using fL with
 |some s=>simp only[e] at h;exact⟨_,fi e,bD 90 c fr A E (.ks b 0 K) _ F h hw⟩
 |none=>simp only[e] at h
section
variable {x:aa}{b o:fc}{src:D}{Q:bY}
theorem Mg (hs:Hh src ds)(Inv:ak->VS->Prop)(h0:Inv ds V)
  (turn:∀d ds V (K:bY),(∀V',Inv ds V'->K .next V')->(∀V',Inv ds V'->K .cont V')->(∀V',Q .next V'->K .brk V')->(∀d V',Q (.ret d) V'->K (.ret d) V')->Inv (d::ds) V->DC c x b K d V)
  (qI:∀V,Inv [] V->wp 90 c (.ks o 0 Q) V):AO c x b o src Q V:=by unfold AO;exact λfr A E F hw=>
 ⟨ds,hs _ _ F.room.handled,Dq.ind Inv (λd ds V h=>ZQ F hw (turn d ds V _ (λz q=>q) (λz q=>q) (λz q=>q) (λz z q=>q) h)) (λV h=>bD 90 c fr A gO (.ks o 0 Q) V F (qI V h) hw) ds V h0⟩
theorem AX {X:Type}{l m r:List X}{a:X}(h:l=m++a::r):m.length+1<=l.length:=by simp only[h,fK,wx];exact Yb (br _) (OC _ _)
theorem AW {X:Type}{l m r:List X}{a:X}(h:l=m++a::r):a∈l:=by rw[h];exact lz _ (.head _)
theorem GJ {X St:Type}{g:X->D}{l:List X}(hs:Hh src (l.map g))(W:List X->St->VS)(P:List X->List X->Prop)(s:St)(hV:V=W [] s)(h0:P [] l)
  (turn:∀done a aF s,l=done++a::aF->P done (a::aF)->∀K:bY,(∀s,P (done++[a]) aF->K .next (W (done++[a]) s))->(∀s,P (done++[a]) aF->K .cont (W (done++[a]) s))->(∀V',Q .next V'->K .brk V')->(∀d V',Q (.ret d) V'->K (.ret d) V')->DC c x b K (g a) (W done s))
  (qI:∀s,P l []->wp 90 c (.ks o 0 Q) (W l s)):AO c x b o src Q V:=by
 refine Mg hs (λds V=>∃done aF s,l=done++aF/\ds=aF.map g/\P done aF/\V=W done s) (kH [] l s rfl rfl h0 hV) ?_ ?_
 .intro d ds V K k1 k2 k3 k4 z0;refine gw z0 λdone aF s e e2 hp z1=>clear% z0;?_;rw[z1]
  cases aF with
  |nil=>cases e2
  |cons a aF=>
  cases e2;exact turn done a aF s e hp K (λs h=>k1 _ (kH (done++[a]) aF s (by rw[e];simp) rfl h rfl)) (λs h=>k2 _ (kH (done++[a]) aF s (by rw[e];simp) rfl h rfl)) k3 k4
 .intro V z2;refine gw z2 λdone aF s e e2 hp z3=>clear% z2;?_;rw[z3]
  cases aF with
  |cons a aF=>cases e2
  |nil=>simp only[pP] at e;subst e;exact qI s hp
theorem GK {X St:Type}{g f:X->D}{l:List X}(hs:Hh src (l.map g))(W:ak->St->VS)(s:St)(hV:V=W [] s)
  (turn:∀done a aF s,l=done++a::aF->∀K:bY,(∀s,K .next (W (done.map f++[f a]) s))->(∀s,K .cont (W (done.map f++[f a]) s))->(∀V',Q .next V'->K .brk V')->(∀d V',Q (.ret d) V'->K (.ret d) V')->DC c x b K (g a) (W (done.map f) s))
  (qI:∀s,wp 90 c (.ks o 0 Q) (W (l.map f) s)):AO c x b o src Q V:=
 GJ hs (λdone s=>W (done.map f) s) (λz z=>True) s hV trivial (λdone a aF s e z K k1 k2 k3 k4=>turn done a aF s e K (λs=>by have:=k1 s trivial;rwa [dN] at this) (λs=>by have:=k2 s trivial;rwa [dN] at this) k3 k4) λs z=>qI s
theorem DK {l m:bF}(h:List.range n=l++a::m):a<n/\l.length=a:=by
 have hl:l.length<(List.range n).length:=by simp only[h,fK,wx];exact YW (Ou _)
 have e:(List.range n)[l.length]? =some a:=by rw[h,O0 (br _),Nat.sub_self];rfl
 simp only[eE hl,Kq] at e;cases e;exact⟨by simpa using hl,rfl⟩
theorem Mf {St:Type}{g:Nat->D}{n:Nat}(hs:Hh src ((List.range n).map g))(W:Nat->St->VS)(P:Nat->Prop)(s:St)(hV:V=W 0 s)(h0:P 0)
  (turn:∀k s,k<n->P k->∀K:bY,(∀s,P (k+1)->K .next (W (k+1) s))->(∀s,P (k+1)->K .cont (W (k+1) s))->(∀V',Q .next V'->K .brk V')->(∀d V',Q (.ret d) V'->K (.ret d) V')->DC c x b K (g k) (W k s))
  (qI:∀s,P n->wp 90 c (.ks o 0 Q) (W n s)):AO c x b o src Q V:=by
 refine GJ hs (λl s=>W l.length s) (λl z=>P l.length) s hV h0 (λdone a aF s e hp K k1 k2 k3 k4=>?_) (λs h=>?_)
 .have q:=DK e
  have e2:(done++[a]).length=a+1:=by rw[fK,q.2];rfl
  rw[e2] at k1 k2;rw[q.2] at hp ⊢;exact turn a s q.1 hp K k1 k2 k3 k4
 .rw[iU] at h ⊢
  exact qI s h
end
section
variable {w:Tk->VS->Prop}{bA:aD}{x:aa}{au:VS}{src:D}{Q:az}{X:Type}{xs:List X}{G H:X->D}
theorem bL (hs:Hh src (xs.map G))(hl:xs.length<=cap)(h:∀a∈xs,abP w bA x au (G a) (H a))(k:Q (.list (xs.map H)) V):LD w bA x [] au src Q V:=by have e:xs.filter (λz=>true)=xs:=adT.mpr λz z=>rfl;unfold LD;refine⟨X,xs,G,H,λz=>true,hs,by rw[e];exact hl,λa ha=>⟨rfl,h a ha⟩,by rw[e];exact k⟩
theorem pL (p:X->Bool)(hs:Hh src (xs.map G))(hl:(xs.filter p).length<=cap)(ht:∀a∈xs,aiw w t x au (G a) (p a))(h:∀a∈xs,p a=true->abP w bA x au (G a) (H a))(k:Q (.list ((xs.filter p).map H)) V):LD w bA x [t] au src Q V:=by unfold LD;exact⟨X,xs,G,H,p,hs,hl,λa ha=>⟨ht a ha,h a ha⟩,k⟩
end
theorem aeT {Q:bY}(Inv:Nat->VS->Prop)(n:Nat)(h0:Inv n V)
  (turn:∀n V,Inv n V->∀K:bY,(∀m V,m<n->Inv m V->K .next V)->(∀m V,m<n->Inv m V->K .cont V)->(∀V,Q .next V->K .brk V)->(∀d V,Q (.ret d) V->K (.ret d) V)->wp 90 c (.kb qz (ifK (wp 90 c (.ks b 0 K)) (wp 90 c (.ks o 0 Q)))) V):dD c (.kx (.While qz b o pos) Q) V:=gV λfr A E F hw=>
 acv Inv (Eb:=gO) n h0 (λn V h=>DT.mono (bD 90 c fr A gO _ V F (turn n V h (λfl V2=>match fl with| .next=>∃m,m<n/\Inv m V2| .cont=>∃m,m<n/\Inv m V2| .brk=>Q .next V2| .ret r=>Q (.ret r) V2) (λm V a b=>⟨m,a,b⟩) (λm V a b=>⟨m,a,b⟩) (λz h=>h) (λz z h=>h))) λt V1 q=>have q:=mR q;⟨λe=>bD 90 c fr A gO (.ks b 0 _) V1 F (q.1 e) hw,λe=>bD 90 c fr A gO (.ks o 0 Q) V1 F (q.2 e) hw⟩) (λz z h=>h.elim)
@[irreducible] def D6 (c:WC) (bA:aD) (x y:aa) (cB:VS) (Q:az) (src:D) (V:VS):Prop:=
 ∃(ds:ak) (d0:D) (mk:gm) (Inv:ak->ak->D->Prop),look y V=some (mk d0)/\(mk=.ow\/mk=.ln)/\qX d0=true/\Hh src ds/\gu cB V/\Inv ds [] d0/\
  (∀d aF rs dy,Inv (d::aF) rs dy->rs.length<=cap/\∃n,wp n c (.ke bA λr V4=>∃ZI,Inv aF (rs++[r]) ZI/\V4=(x,.fz d)::(y,.ln ZI)::cB) ((x,.fz d)::(y,.ln dy)::cB))/\
  ∀rs dy,Inv [] rs dy->rs.length<=cap/\qX dy=true/\Q (.list rs) (jH y (mk dy) V)
theorem NI {x y:aa}{cB:VS}(n:Nat)(mk:gm)(Inv:ak->ak->D->Prop)(hs:Hh src ds)(hl:look y V=some (mk d0))(hk:mk=.ow\/mk=.ln)(hd:qX d0=true)(hF:gu cB V)(h0:Inv ds [] d0)
  (turn:∀d aF rs dy,Inv (d::aF) rs dy->rs.length<=cap/\wp n c (.ke bA λr V4=>∃ZI,Inv aF (rs++[r]) ZI/\V4=(x,.fz d)::(y,.ln ZI)::cB) ((x,.fz d)::(y,.ln dy)::cB))
  (qI:∀rs dy,Inv [] rs dy->rs.length<=cap/\qX dy=true/\Q (.list rs) (jH y (mk dy) V)):D6 c bA x y cB Q src V:=by unfold D6;exact(aL ds d0 mk Inv hl hk hd hs hF (iAA h0 (λd t r y i=>⟨(turn d t r y i).1,n,(turn d t r y i).2⟩) qI))
section
variable {bA it:aD}{x y tx:aa}{px tp p sp:Pos}{sc:eO}{gl':dU}(cB:VS)(ys:ay)(hg:Sj glob ys=some gl')(hk:SH c.ce sc [x] (y::cB.map (·.1)) gl'=true)(hV:((y::cB.map (·.1)).all λz=>(look z V).isSome)=true)
include hg hk hV
omit hg hk in
theorem NH:∀z∈y::cB.map (·.1),z∈V.map (·.1):=λz hz=>by
 have h:=j8.mp hV z hz;induction e:look z V using fL with
 |some s=>exact j9 (bx e).mem
 |none=>rw[e] at h;cases h
omit hV in
theorem IZ (F:Fr c fr A):jZ fr.w.params sc [x] (y::cB.map (·.1)) gl'/\∀z∈y::cB.map (·.1),Ce fr z:=
 have h:=Bg (fr:=fr) (W:=(y,.un)::cB) (AK hg) rfl hk
 ⟨h.1,λz hz=>F.ce z (h.2 z hz)⟩
omit hg hk hV in
theorem NG (F:Fr c fr A)(hQ:∀d V,Q d V->Q' d V)(h:wp 90 c (.ke it (D6 ⟨c.m,gl',JR sc x (y::cB.map (·.1))⟩ bA x y cB Q)) V):DT fr A E Rp V (eval it fr.e) λsrc V1=>Ht fr A V1 gl' bA x y sc cB Q' src:=
 (bD 90 c fr A E _ V F h).mono λsrc V1 q=>by unfold D6 at q;refine cU q λds d0 mk Inv h1 h2 h3 h4 h5 bK=>nX bK λh6 h7 h8=>clear% bK;clear% q;?_;exact(ua ds d0 mk (gg _ Inv (cj h1) h2 h3 (h4 _ _ F.room.handled) h5 (iAA h6 (λaP hc d aF rs dy i=>⟨(h7 d aF rs dy i).1,(h7 d aF rs dy i).2.elim λn h=>bD n ⟨c.m,gl',JR sc x (y::cB.map (·.1))⟩ aP A gO (.ke bA _) _ ⟨hc.f,F.room,Bj hc (.head _) hc.cap⟩ h⟩) (λrs dy i=>⟨(h8 rs dy i).1,(h8 rs dy i).2.1,hQ _ _ (h8 rs dy i).2.2⟩))))
theorem aju (h:wp 90 c (.ke it (D6 ⟨c.m,gl',JR sc x (y::cB.map (·.1))⟩ bA x y cB Q)) V)(hs:autoParam (tY it=false) wu):dD c (.ke (.ListComp bA [⟨.Name x px,it,[],0⟩] sc p) Q) V:=gV λfr A E F=>
 have k:=IZ cB ys hg hk F
 Zw F.f k.1 k.2 (NH cB hV) (NG cB F (λz z h=>h) h) (oj hs)
theorem Wh {Q:bY}(h:wp 90 c (.ke it (D6 ⟨c.m,gl',JR sc x (y::cB.map (·.1))⟩ bA x y cB (λd V1=>oU (look tx V1) λz=>Q .next (jH tx (.ow d) V1)))) V)(hs:autoParam (tY it=false) wu):dD c (.kx (.Assign [.Name tx tp] (.ListComp bA [⟨.Name x px,it,[],0⟩] sc p) sp) Q) V:=gV λfr A E F hw=>
 have k:=IZ cB ys hg hk F
 BY F.f hw k.1 k.2 (NH cB hV) (NG cB F (λd V1 q=>aq (VI q) λz e q=>⟨_,fi e,q⟩) h) (oj hs)
end
def amJ (c:WC)(bA Gm:aD)(x1 x2:aa)(au:VS)(Q:az)(src:D)(V:VS){X Y:Type}(xs:List X)(ys:X->List Y)(G:X->D)(G2:Y->D)(H:X->Y->D):Prop:=
 Hh src (xs.map G)/\(xs.flatMap ys).length<=cap/\gu au V/\
  (∀a∈xs,∀s2,wp 90 c (.ke Gm λLj V2=>V2=(x1,.fz (G a))::(x2,s2)::au/\Hh Lj ((ys a).map G2)/\
   ∀b∈ys a,wp 90 c (.ke bA λy V3=>V3=(x1,.fz (G a))::(x2,.fz (G2 b))::au/\y=H a b) ((x1,.fz (G a))::(x2,.fz (G2 b))::au)) ((x1,.fz (G a))::(x2,s2)::au))/\
  Q (.list (xs.flatMap λa=>(ys a).map (H a))) V
@[irreducible] def Py (c:WC) (bA Gm:aD) (x1 x2:aa) (au:VS) (Q:az) (src:D) (V:VS):Prop:=
 ∃(X Y:Type) (xs:List X) (ys:X->List Y) (G:X->D) (G2:Y->D) (H:X->Y->D),amJ c bA Gm x1 x2 au Q src V xs ys G G2 H
theorem ae0 {X Y:Type}{xs:List X}(ys:X->List Y){G:X->D}(G2:Y->D)(H:X->Y->D)(hs:Hh src (xs.map G))(hl:(xs.flatMap ys).length<=cap)(hF:gu au V)
  (turn:∀a∈xs,∀s2,wp 90 c (.ke Gm λLj V2=>V2=(x1,.fz (G a))::(x2,s2)::au/\Hh Lj ((ys a).map G2)/\
   ∀b∈ys a,wp 90 c (.ke bA λy V3=>V3=(x1,.fz (G a))::(x2,.fz (G2 b))::au/\y=H a b) ((x1,.fz (G a))::(x2,.fz (G2 b))::au)) ((x1,.fz (G a))::(x2,s2)::au))
  (qI:Q (.list (xs.flatMap λa=>(ys a).map (H a))) V):Py c bA Gm x1 x2 au Q src V:=by unfold Py;exact⟨X,Y,xs,ys,G,G2,H,hs,hl,hF,turn,qI⟩
theorem NF {zs:ay}{V:VS}(hV:(zs.all λz=>(look z V).isSome)=true):∀z∈zs,z∈V.map (·.1):=λz hz=>by
 have h:=j8.mp hV z hz;induction e:look z V using fL with
 |some s=>exact j9 (bx e).mem
 |none=>rw[e] at h;cases h
section
variable {bA it Gm:aD}{x1 x2 tx:aa}{K4 mu tp p sp:Pos}{sc:eO}{gl':dU}(au:VS)(ys:ay)(hg:Sj glob ys=some gl')(hk:SH c.ce sc [x1,x2] (au.map (·.1)) gl'=true)(hV:((au.map (·.1)).all λz=>(look z V).isSome)=true)
theorem TS (F:Fr c fr A)(hQ:∀d V,Q d V->Q' d V)(h:wp 90 c (.ke it (Py ⟨c.m,gl',JR sc x1 (JR sc x2 (au.map (·.1)))⟩ bA Gm x1 x2 au Q)) V):DT fr A E Rp V (eval it fr.e) λsrc V1=>Hu fr A V1 gl' bA Gm x1 x2 sc au Q' src:=
 (bD 90 c fr A E _ V F h).mono λsrc V1 q=>by unfold Py at q;obtain⟨X,Y,xs,ys,G,G2,H,q⟩:=q;refine⟨X,Y,xs,ys,G,G2,H,?_⟩;refine jl q λh1 h2 h3 h4 h5=>⟨h1 _ _ F.room.handled,h2,h3,λaP hc a ha s2 z=>?_,hQ _ _ h5⟩;clear q;have F':Fr ⟨c.m,gl',JR sc x1 (JR sc x2 (au.map (·.1)))⟩ aP A:=⟨hc.f,F.room,Bj hc (.head _) (Bj hc (.tail _ (.head _)) hc.cap)⟩;exact(bD 90 _ aP A gO (.ke Gm _) _ F' (h4 a ha s2)).mono λLj V2 q=>⟨q.1,q.2.1 _ _ F.room.handled,λb hb=>(bD 90 _ aP A gO (.ke bA _) _ F' (q.2.2 b hb)).mono λy V3 q=>⟨q.2,q.1⟩⟩
include hg hk hV
theorem aiv {Q:az}(h:wp 90 c (.ke it (Py ⟨c.m,gl',JR sc x1 (JR sc x2 (au.map (·.1)))⟩ bA Gm x1 x2 au Q)) V)(hs:autoParam (tY it=false) wu)(Jj:autoParam (tY Gm=false) wu):dD c (.ke (.ListComp bA [⟨.Name x1 K4,it,[],0⟩,⟨.Name x2 mu,Gm,[],0⟩] sc p) Q) V:=gV λfr A E F=>
 have k:=Bg (fr:=fr) (AK hg) rfl hk
 acD F.f k.1 (λz hz=>F.ce z (k.2 z hz)) (NF hV) (λy=>oj Jj) (TS au F (λy y h=>h) h) (oj hs)
theorem amK {Q:bY}(h:wp 90 c (.ke it (Py ⟨c.m,gl',JR sc x1 (JR sc x2 (au.map (·.1)))⟩ bA Gm x1 x2 au (λd V1=>oU (look tx V1) λy=>Q .next (jH tx (.ow d) V1)))) V)(hs:autoParam (tY it=false) wu)(Jj:autoParam (tY Gm=false) wu):dD c (.kx (.Assign [.Name tx tp] (.ListComp bA [⟨.Name x1 K4,it,[],0⟩,⟨.Name x2 mu,Gm,[],0⟩] sc p) sp) Q) V:=gV λfr A E F hw=>
 have k:=Bg (fr:=fr) (AK hg) rfl hk
 Ds F.f hw k.1 (λz hz=>F.ce z (k.2 z hz)) (NF hV) (λy=>oj Jj) (TS au F (λd V1 q=>aq (VI q) λy e q=>⟨_,fi e,q⟩) h) (oj hs)
end
theorem fO {d e:D}(h:d=e):V=V/\d=e:=⟨rfl,h⟩
end
theorem stX (F:Fr c fr A)(hw:iL fr)(h:wp 90 c (.kx ZY λfl V=>fl=.next/\V=MH) V)(k:DT fr A E RF MH (execs rest fr.e) Q):DT fr A E RF V (execs (ZY::rest) fr.e) Q:=
 cL (DT.mono (bD 90 _ fr A _ (.kx _ _) _ F h hw) λfl V h=>by rw[h.1,h.2];exact k)
theorem Z1 (ks:aa)(i t:D):aE 318 1 [.vec ks i t] (λr=>r=.vec ks i t):=aE.dO PR rfl λR hR=>hR
theorem gX (ks:aa)(d:D)(hk:(ks==("double":aa))=false):aE 529 1 [.str ks,d] (fun r=>r=.bool (eu d)):=
 aE.dO Ay rfl λR hR=>cS (λh=>hR) λh=>cF hk (rV hR (aT D.bool (hk.trans h.symm)))
theorem yj (ks:aa)(a b:Int)(hk:(ks==("double":aa))=false):aE 536 1 [.str ks,.int a,.int b] (fun r=>r=.int (if a<b then-1 else if b<a then 1 else 0)):=
 aE.dO kP rfl λR hR=>cF hk (cS (λh=>rV hR (by rw[bg (jx h)];rfl)) λh=>cS (λk=>rV hR (by rw[aG (of_decide_eq_false h),bg (jx k)];rfl)) λk=>rV hR (by rw[aG (of_decide_eq_false h),aG (of_decide_eq_false k)];rfl))
theorem yi (ks:aa)(a b:aa)(hk:(ks==("double":aa))=false):aE 536 1 [.str ks,.str a,.str b] (fun r=>r=.int (if a.cps.toList<b.cps.toList then-1 else if b.cps.toList<a.cps.toList then 1 else 0)):=
 aE.dO kP rfl λR hR=>cF hk (cS (λh=>rV hR (by rw[bg (jx h)];rfl)) λh=>cS (λk=>rV hR (by rw[aG (of_decide_eq_false h),bg (jx k)];rfl)) λk=>rV hR (by rw[aG (of_decide_eq_false h),aG (of_decide_eq_false k)];rfl))
theorem Me (i:Int):aE 45 1 [.int i] (λr=>r=.tup [.int i,.int 1]):=aE.dO GI rfl λR hR=>hR
theorem iS (ks:aa)(i:D)(n:aa):aE 325 1 [.vec ks i .none,.str n] (λr=>r=.none):=aE.dO uh rfl λR hR=>hR
theorem C1 (ks:aa)(i:D)(l:uX)(n:aa):aE 325 1 [.vec ks i (.dict l),.str n] (λr=>r=(d9 l n).getD .none):=aE.dO uh rfl λR hR=>hR
theorem jc (ks:aa):aE 332 1 [.str ks,.none] (λr=>r=.none):=aE.dO gW rfl λR hR=>hR
theorem jN (s:aa):aE 332 1 [.str "character",.str s] (fun r=>r=.str s):=aE.dO gW rfl fun R hR=>hR
theorem pD (i:Int):aE 332 1 [.str "logical",.int i] (fun r=>r=.str (if i=1 then "TRUE" else "FALSE")):=
 aE.dO gW rfl λR hR=>cS (λh=>rV hR (by rw[bg (eq_of_beq h)];rfl)) λh=>rV hR (by rw[aG (ne_of_beq_false h)];rfl)
theorem An (i:Int)(hi:i.natAbs.log2<1920):aE 332 1 [.str "integer",.int i] (fun r=>r=.str (toString i)):=
 aE.dO gW rfl λR hR=>kZ λfr A E F=>vj hi hR
noncomputable def eU (ks:aa):Bool:=(zu [.str "logical",.str "integer",.str "double",.str "character"]).any (·==ks)
theorem wX (ks:aa)(i t:D):aE 311 1 [.vec ks i t] (λr=>r=.bool (eU ks)):=aE.dO CX rfl λR hR=>hR
theorem Ed (l:ak):aE 290 3 [.list l] (fun r=>r=.vec "integer" (.list l) .none):=aE.dO wY rfl fun R hR=>hR
theorem i0 (l:ak):aE 297 3 [.list l] (fun r=>r=.vec "character" (.list l) .none):=aE.dO Df rfl fun R hR=>hR
theorem Ag (ks:aa)(l:ak)(t:D)(hk:(ks==("NULL":aa))=false):aE 304 1 [.vec ks (.list l) t] (fun r=>r=.int l.length):=aE.dO LG rfl fun R hR=>cF hk hR
noncomputable abbrev pJ (lv:ak):D:=.dict (abM lv)
theorem kJ (ks:aa)(i:D)(l:uX)(n:aa)(x:D)(hx:(d9 l n).getD .none=x):aE 325 1 [.vec ks i (.dict l),.str n] (λr=>r=x):=hx▸C1 ks i l n
theorem yp (ks:aa)(i:D):aE 368 2 [.vec ks i .none] (λr=>r=.list []):=aE.dO pO rfl λR hR=>ai (iS ks i _) hR
theorem pN (ks:aa)(i:D)(lv:ak):aE 368 2 [.vec ks i (pJ lv)] (fun r=>r=.list [.str "factor"]):=
 aE.dO pO rfl fun R hR=>ai (kJ ks i _ _ (.vec "character" (.list [.str "factor"]) .none) (by kernel_rfl)) hR
theorem JH (ks:aa)(i:D):aE 356 2 [.vec ks i .none] (λr=>r=.none):=aE.dO AU rfl λR hR=>ai (iS ks i _) hR
theorem JI (ks:aa)(i:D)(l:uX)(h:(d9 l ("dim":aa)).getD .none=.none):aE 356 2 [.vec ks i (.dict l)] (fun r=>r=.none):=
 aE.dO AU rfl λR hR=>ai (kJ ks i _ _ .none h) hR
theorem Cz (ks:aa)(i:D)(h1:(ks==("language":aa))=false)(h2:(ks==("environment":aa))=false):aE 349 3 [.vec ks i .none] (fun r=>r=.none):=
 aE.dO tH rfl λR hR=>cF h1 (cF h2 (ai (JH ks i) (ai (iS ks i _) hR)))
theorem FL (ks:aa)(i:D)(l:uX)(k2:aa)(ns:ak)(t2:D)(h1:(ks==("language":aa))=false)(h2:(ks==("environment":aa))=false)(h:(d9 l ("dim":aa)).getD .none=.none)(hn:(d9 l ("names":aa)).getD .none=.vec k2 (.list ns) t2):
  aE 349 3 [.vec ks i (.dict l)] (λr=>r=.list ns):=
 aE.dO tH rfl λR hR=>cF h1 (cF h2 (ai (JI ks i l h) (ai (kJ ks i _ _ _ hn) hR)))
theorem rA (ks:aa)(i t:D)(hk:(ks==("integer":aa))=false):aE 685 3 [.vec ks i t] (fun r=>r=.bool false):=aE.dO k6 rfl fun R hR=>cF hk (rV hR (aT D.bool hk))
theorem gY (ks:aa)(i:D)(hk:(ks==("integer":aa))=true):aE 685 3 [.vec ks i .none] (fun r=>r=.bool false):=aE.dO k6 rfl fun R hR=>cT hk (ai (yp ks i) hR)
theorem rq (i:D)(lv:ak):aE 685 3 [.vec "integer" i (pJ lv)] (fun r=>r=.bool true):=
 aE.dO k6 rfl λR hR=>ai (pN _ i lv) (ai (wX _ _ _) hR)
noncomputable def mE (texts:ak):D->D
 | .int i=>if 1<=i/\i<=texts.length then texts.getD (i-1).toNat .none else .none
 |_=> .none
theorem CF (texts:ak):aE 339 1 [.list texts,.none] (λr=>r=.none):=aE.dO tO rfl λR hR=>hR
theorem getD_some {l:ak}{k:Nat}(h:k<l.length):l[k]? =some (l.getD k .none):=by rw[dS,eE h];rfl
theorem FY (texts:ak)(i:Int)(h1:1<=i)(h2:i<=texts.length):aE 339 1 [.list texts,.int i] (λr=>r=texts.getD (i-1).toNat .none):=
 aE.dO tO rfl λR hR=>cF (decide_eq_false (Int.not_lt.mpr h1)) (cF (decide_eq_false (Int.not_lt.mpr h2)) (ixZ (by simp_all) (getD_some (by omega (splitDisjunctions:=true))) hR))
theorem fT (ks:aa)(l:ak)(g:D->D)(n:Nat)(hn:4<=n)(hl:l.length<=cap)(hi:∀d∈l,aE 332 1 [.str ks,d] (λr=>r=g d)):aE 344 n [.vec ks (.list l) .none] (λr=>r=.list (l.map g)):=by
 refine xE (⟨n-1,by omega⟩:∃m,n=m+1) λn z0=>?_;subst z0;refine aE.dO m8 rfl λR hR=>ai (iS ks _ _) ?_ (aB (aB (br _) (gP (br _))) (aB (gP (br _)) (uK hn)));refine bL (G:=id) (H:=g) (by simp only[sF];exact bS) hl (λd hd=>?_) ?_
 .exact ai (hi d hd) (fO rfl) (aB (aB (br _) (gP (br _))) (aB (gP (br _)) (uK hn)))
 .exact hR
theorem m9 (ks:aa)(i:D):aE 723 1 [.vec ks i .none] (λr=>r=.none):=aE.dO pF rfl λR hR=>hR
theorem Ax (ks:aa)(i:D)(lv:ak):aE 723 1 [.vec ks i (pJ lv)] (λr=>r=pJ lv):=by
 refine aE.dO pF rfl λR hR=>?_;refine Mg (amQ (l:=abM lv)) (fun ds V=>(∃s1,ds=[.str "levels",.str "class"]/\V=([("column",.fz (.vec ks i (pJ lv))),("kept",.ow (.dict [])),("name",s1)]:VS))\/(∃s1,ds=[.str "class"]/\V=([("column",.fz (.vec ks i (pJ lv))),("kept",.ow (.dict [("levels",.vec "character" (.list lv) .none)])),("name",s1)]:VS))\/
  (∃s1,ds=[]/\V=([("column",.fz (.vec ks i (pJ lv))),("kept",.ow (.dict (abM lv))),("name",s1)]:VS))) (.inl ⟨_,rfl,rfl⟩) ?_ ?_
 .rintro d ds V K hn- - -(⟨s1,e,rfl⟩|⟨s1,e,rfl⟩|⟨s1,e,rfl⟩)
  .cases e
   intro v;exact⟨rfl,fu rfl,hn _ (.inr (.inl ⟨_,rfl,rfl⟩))⟩
  .cases e
   intro v;exact⟨rfl,fu rfl,hn _ (.inr (.inr ⟨_,rfl,rfl⟩))⟩
  .cases e
 .rintro V (⟨s1,e,rfl⟩|⟨s1,e,rfl⟩|⟨s1,e,rfl⟩)
  .cases e
  .cases e
  .exact⟨fu rfl,hR⟩
inductive Tt:D->D->Prop
 |none:Tt .none .none
 |dR (lv:ak):Tt (pJ lv) (pJ lv)
theorem Gi {t u:D}(ks:aa)(i:D)(h:Tt t u):aE 723 1 [.vec ks i t] (λr=>r=u):=by
 induction h using Tt.casesOn with
 |none=>exact m9 ks i
 |dR lv=>exact Ax ks i lv
noncomputable def VF (l:ak):D->D
 | .int i=>l.getD i.toNat .none
 |_=> .none
theorem Fw {t u:D}(ks:aa)(l ps:ak)(h:Tt t u)(hp:∀p∈ps,∃i:Int,p=.int i/\0<=i/\i<l.length)(kI:ps.length<=cap):aE 737 3 [.vec ks (.list l) t,.list ps] (λr=>r=.vec ks (.list (ps.map (VF l))) u):=by
 refine aE.dO zP rfl fun R hR=>GK (g:=id) (f:=VF l) (l:=ps) (by simp only[sF];exact bS) (fun acc s=>([("column",.fz (.vec ks (.list l) t)),("places",.fz (.list ps)),("items",.ow (.list acc)),("count",.fz (.int l.length)),("place",s)]:VS)) .un rfl ?_ ?_
 .rintro done p aF s e K hn- - -
  refine gb (hp p (AW e)) λi z0 h0 h1=>?_;subst z0;refine cF (decide_eq_false (Int.not_le.mpr h1)) ?_;intro v;have hb:i.toNat<l.length:=by simp_all
  exact ixZ h0 (getD_some hb) (G0 (by rw[bw];exact aB (AX e) kI) (hn _))
 .intro s
  exact ai (Gi ks _ h) hR
theorem xS (lv l:ak)(n:Nat)(hn:5<=n)(hl:l.length<=cap)(Ti:lv.length<=cap)(hs:∀d∈lv,∃s,d=.str s)(hi:∀d∈l,d=.none\/∃i:Int,d=.int i/\1<=i/\i<=lv.length):
  aE 344 n [.vec "integer" (.list l) (pJ lv)] (fun r=>r=.list (l.map (mE lv))):=by
 obtain⟨n,rfl⟩:∃m,n=m+1:=⟨n-1,by omega⟩;refine aE.dO m8 rfl fun R hR=>ai (kJ _ _ _ _ (.vec "character" (.list lv) .none) (by rw[agQ];rfl)) ?_ (aB (aB (gP (br _)) (gP (br _))) (aB (gP (br _)) (uK hn)));refine ai (pN _ _ lv) ?_ (aB (aB (br _) (gP (br _))) (aB (gP (br _)) (uK hn)));refine ai (wX _ _ _) ?_ (aB (aB (gP (br _)) (gP (br _))) (aB (gP (br _)) (uK hn)));refine ai (fT "character" lv id n (uK hn) Ti (fun d hd=>?_)) ?_ (br n)
 .obtain⟨s,rfl⟩:=hs d hd
  exact(jN s)
 rw[sF];refine bL (G:=id) (H:=mE lv) (by simp only[sF];exact bS) hl (λd hd=>?_) ?_
 .rcases hi d hd with rfl|⟨i,rfl,h1,h2⟩
  .exact ai (CF lv) (fO rfl) (aB (aB (gP (br _)) (gP (br _))) (aB (gP (br _)) (uK hn)))
  .exact ai (FY lv i h1 h2) (fO (bg ⟨h1,h2⟩).symm) (aB (aB (gP (br _)) (gP (br _))) (aB (gP (br _)) (uK hn)))
 .exact hR
theorem vF (ks:aa):aE 484 1 [.str ks] (λr=>r=.bool (eU ks)):=aE.dO rY rfl λR hR=>hR
noncomputable def Xk:D->D
 | .int i=> .tup [.int i,.int 1]
 |d=>d
theorem HP (d nt:D)(hd:d=.none\/∃i,d=.int i):aE 463 2 [.str "integer",d,nt] (fun r=>r=Xk d):=by
 refine aE.dO Cd rfl λR hR=>?_;rcases hd with rfl|⟨i,rfl⟩
 .exact hR
 .exact ai (Me i) hR
theorem RW (d nt:D)(hd:d=.none\/∃i,d=.int i):aE 477 3 [.str "integer",d,.str "double",nt] (fun r=>r=Xk d):=
 aE.dO Jc rfl λR hR=>ai (vF _) (ai (HP d nt hd) hR)
theorem xu (d:D):aE 510 1 [d,.none] (λr=>r=d):=aE.dO y9 rfl λR hR=>hR
theorem JV (l:ak)(nt:D)(hl:l.length<=cap)(hi:∀d∈l,d=.none\/∃i,d=.int i):aE 515 5 [.vec "integer" (.list l) .none,.str "double",nt] (fun r=>r=.vec "double" (.list (l.map Xk)) .none):=by
 refine aE.dO JW rfl λR hR=>bL (G:=id) (H:=Xk) (by simp only[sF];exact bS) hl (λd hd=>?_) ?_
 .exact ai (RW d nt (hi d hd)) (fO rfl)
 .exact ai (Cz _ _ (by decide+kernel) (by decide+kernel)) (ai (xu _) hR)
theorem zy (n:Int):aE 108 1 [.tup [.int n,.int 1]] (λr=>r=.none):=aE.dO vc rfl λR hR=>hR
noncomputable def mh (n:Int):aa:=if n<0 then Txt.join "" ["-",toString (-n)] else Txt.join "" [toString n]
theorem qh {n:Int}(hn:n.natAbs<1000):n.natAbs.log2<1920:=by
 refine fU (Nat.eq_zero_or_pos n.natAbs) (λh=>?_) λh=>?_
 .rw[h];decide
 .have:n.natAbs.log2<10:=(Nat.log2_lt (rG h)).mpr (by omega)
  omega
theorem HW:∀m:Fin 1000,(toString ((m.val:Nat):Int):aa).length<=100/\(toString (-((m.val:Nat):Int)):aa).length<=100:=by decide+kernel
theorem Cf {n:Int}(hn:n.natAbs<1000):(toString n:aa).length<=100:=by
 have h:=HW ⟨n.natAbs,hn⟩;refine fU (Int.natAbs_eq n) (λe=>?_) λe=>?_
 .rw[e];exact h.1
 .rw[e];exact h.2
theorem Wk:("":aa).length=0:=by decide
theorem ajw:("-":aa).length=1:=by decide
theorem Wx {s:aa}(h:s.length<=100):([s].map (·.length)).sum+[s].length*("":aa).length<=16777216:=by dsimp only[List.map_cons,List.map_nil,List.sum_cons,List.sum_nil,List.length_cons,List.length_nil,Wk];omega
theorem Ww {s:aa}(h:s.length<=100):([("-":aa),s].map (·.length)).sum+[("-":aa),s].length*("":aa).length<=16777216:=by simp only[fJ,ad8,YG,List.sum_nil,wx,YR,Wk,ajw];omega
theorem E3 (n:Int)(hn:n.natAbs<1000):aE 101 1 [.int n] (λr=>r=.str (mh n)):=by
 refine aE.dO za rfl λR hR=>kZ λfr A E F=>afB (xE (⟨_,rfl⟩:∃r,(if n<0 then-n else n)=r) λr hr=>?_);rw[hr];have hr1:r.natAbs<1000:=by rw[<-hr];split<;>grind
 have c1:decide ((10:Int) ^ (18:Int).toNat<=r)=false:=decide_eq_false (by have:(10:Int) ^ (18:Int).toNat=1000000000000000000:=rfl;grind);have h9:=Cf hr1;refine aeT (fun k V=>V=([("n",.fz (.int n)),("rest",.fz (.int r)),("row",.ow (.list [])),("part",.un)]:VS)) 0 rfl fun k V e K z z z z=>?_;rw[e];refine gB λfr A E F=>afm ?_ (by decide) (by decide) (by decide);refine cF c1 ?_;intro v;refine kZ λfr A E F=>vj (qh hr1) (G0 (fu rfl) ?_);refine cS (λh=>?_) λh=>?_
 .intro v
  refine G0 (fu rfl) (kZ fun fr A E F=>FE (ys:=["-",toString r]) rfl (Ww h9) ?_);have h:=jx h;rw[bg h] at hr;exact rV hR (by rw[mh,bg h,hr];rfl)
 .refine kZ λfr A E F=>FE (ys:=[toString r]) rfl (Wx h9) ?_
  have h:=of_decide_eq_false h;rw[aG h] at hr;exact rV hR (by rw[mh,aG h,hr];rfl)
theorem GO (n:Int)(hn:n.natAbs<1000):aE 191 2 [.tup [.int n,.int 1]] (λr=>r=.str (mh n)):=
 aE.dO AR rfl λR hR=>ai (zy n) (ai (E3 n hn) hR)
noncomputable def As:D->D
 | .str s=> .str ("="++s)
 |_=> .str "NA"
theorem NJ:("=":aa).length=1:=by decide
theorem F8 {s:aa}(h:s.length<=100):("=":aa).length+s.length<=sizeLine:=by rw[nR,NJ];exact aB (Yb (br _) h) (by decide)
theorem uD (ks:aa)(l:ak)(t:D)(ts:ak)(b:Bool)(n:Nat)(hn:6<=n)(hl:ts.length<=cap)(hts:∀d∈ts,d=.none\/∃s,d=.str s/\s.length<=100)(W2:aE 685 3 [.vec ks (.list l) t] (λr=>r=.bool b))
  (hb:(b||(zu [.str "character",.str "logical"]).any (·==ks))=true)(htx:aE 344 5 [.vec ks (.list l) t] (fun r=>r=.list ts)):aE 776 n [.vec ks (.list l) t] (fun r=>r=.list (ts.map As)):=by
 obtain⟨n,rfl⟩:∃m,n=m+1:=⟨n-1,by omega⟩;refine aE.dO nq rfl λR hR=>ai W2 ?_ (aB (aB (br _) (gP (br _))) (aB (gP (br _)) (uK hn)));have key:∀a∈ts,a=.none\/∃s,a=.str s/\("=":aa).length+s.length<=sizeLine:=fun a ha=>(hts a ha).imp id fun z0=>aq z0 fun s e h=>clear% z0;⟨s,e,F8 h⟩;clear hts W2;induction b using pR with
 |true=>
  refine ai htx ?_ (uK hn);refine bL (G:=id) (H:=As) (by rw[sF];exact bS) hl (λd hd=>?_) ?_
  .rcases key d hd with rfl|⟨s,rfl,hs⟩
   .exact fO rfl
   .exact⟨hs,fO rfl⟩
  .exact hR
 |false=>
  refine cT hb (ai htx ?_ (uK hn));refine bL (G:=id) (H:=As) (by rw[sF];exact bS) hl (λd hd=>?_) ?_
  .rcases key d hd with rfl|⟨s,rfl,hs⟩
   .exact fO rfl
   .exact⟨hs,fO rfl⟩
  .exact hR
noncomputable def aba:D->D
 | .int i=> .str ("="++mh i)
 |_=> .str "NA"
theorem Lb:∀m:Fin 1000,(mh ((m.val:Nat):Int)).length<=100/\(mh (-((m.val:Nat):Int))).length<=100:=by decide+kernel
theorem La {n:Int}(hn:n.natAbs<1000):(mh n).length<=100:=by
 have h:=Lb ⟨n.natAbs,hn⟩;refine fU (Int.natAbs_eq n) (λe=>?_) λe=>?_
 .rw[e];exact h.1
 .rw[e];exact h.2
theorem nk (l:ak)(hl:l.length<=cap)(hi:∀d∈l,d=.none\/∃i:Int,d=.int i/\i.natAbs<1000):aE 776 6 [.vec "integer" (.list l) .none] (fun r=>r=.list (l.map aba)):=by
 refine aE.dO nq rfl λR hR=>ai (gY _ _ (by decide+kernel)) ?_;refine ai (JV l _ hl (λd hd=>(hi d hd).imp id λz0=>aq z0 λi e z=>clear% z0;⟨i,e⟩)) ?_;refine bL (xs:=l) (G:=Xk) (H:=aba) bS hl (λd hd=>?_) ?_
 .rcases hi d hd with rfl|⟨i,rfl,hs⟩
  .exact fO rfl
  .exact ai (GO i hs) ⟨F8 (La hs),fO rfl⟩
 .exact hR
noncomputable def gD (l:ak)(i:Nat):D:=l.getD i .none
noncomputable abbrev nD (i:Nat):D:=.int i
inductive nK:D->D->Prop
 |int (a b:Int):nK (.int a) (.int b)
 |str (a b:aa):nK (.str a) (.str b)
noncomputable def su:D->D->Int
 | .int a,.int b=>if a<b then-1 else if b<a then 1 else 0
 | .str a,.str b=>if a.cps.toList<b.cps.toList then-1 else if b.cps.toList<a.cps.toList then 1 else 0
 |_,_=>0
theorem nK.nz {a b:D}(h:nK a b):eu a=false/\eu b=false:=by induction h using nK.casesOn<;>exact⟨rfl,rfl⟩
theorem vZ (ks:aa)(a b:D)(hk:(ks==("double":aa))=false)(h:nK a b):aE 536 1 [.str ks,a,b] (fun r=>r=.int (su a b)):=by
 induction h using nK.casesOn with
 |int a b=>exact yj ks a b hk
 |str a b=>exact yi ks a b hk
theorem Jx {l:ak}{i:Nat}(h:i<l.length):l[i]? =some (gD l i):=getD_some h
theorem vX (ks:aa)(l:ak)(i j:Nat)(hk:(ks==("double":aa))=false)(hi:i<l.length)(hj:j<l.length)(h:nK (gD l i) (gD l j)):
  aE 550 2 [.vec ks (.list l) .none,nD i,nD j,.bool false,.bool true] (λr=>r=.int (su (gD l i) (gD l j))):=by
 refine aE.dO sr rfl λR hR=>f5 (Jx hi) (f5 (Jx hj) (ai (gX ks _ hk) ?_));refine ai (gX ks _ hk) (cF h.nz.1 ?_);refine cF rfl (cF h.nz.1 ?_);exact cF h.nz.2 (ai (vZ ks _ _ hk h) hR)
theorem amZ (n:Nat):sY 0 1 ((n:Int)-0).toNat=(List.range n).map nD:=by simp[sY,nD]
theorem WA {w:bZ}{A:aQ}(hh:A.handled=none)(n:Nat)(hn:n<=cap):gq w A (.range 0 (n:Int) 1) ((List.range n).map nD):=by rw[<-amZ];exact I9 hh 0 n (by decide) (by decide) (by have:(cap:Int)=1048576:=rfl;exact Int.neg_ofNat_le_natCast ..) (by have:(cap:Int)=1048576:=rfl;exact Int.ofNat_le.mpr hn)
theorem iW {n:Nat}(hn:n<=cap):Hh (.range 0 n 1) ((List.range n).map nD):=λz z h=>WA h n hn
theorem Ip {n k:Nat}{d:D}{aF:ak}(h:d::aF=((List.range n).map nD).drop k):k<n/\d=nD k/\aF=((List.range n).map nD).drop (k+1):=by
 have hk:k<n:=by have:=aT List.length h;simp at this;exact YO (id (fH this))
 rw[pQ (by simpa using hk)] at h;simp at h;exact⟨hk,h.1,by simpa using h.2⟩
noncomputable def vD (v:aa×ak):D:=.vec v.1 (.list v.2) .none
noncomputable def Mw:uP->Nat->Nat->Int
 |[],_,_=>0
 |v::r,i,j=>if su (gD v.2 i) (gD v.2 j)≠0 then su (gD v.2 i) (gD v.2 j) else Mw r i j
theorem Xs {v:aa×ak}{r:uP}{i j:Nat}:Mw (v::r) i j=if su (gD v.2 i) (gD v.2 j)≠0 then su (gD v.2 i) (gD v.2 j) else Mw r i j:=rfl
structure Zf (vs:uP) (n:Nat):Prop where
 len:vs.length<=100
 kind:∀v∈vs,(v.1==("double":aa))=false/\(v.1==("NULL":aa))=false/\eU v.1=true
 items:∀v∈vs,v.2.length=n
 cmp:∀v∈vs,∀i j,i<n->j<n->nK (gD v.2 i) (gD v.2 j)
theorem Jw {X:Type}{f:X->D}{l:List X}{k:Nat}{a:X}(h:l[k]? =some a):(l.map f)[k]? =some (f a):=by rw[g9,h];rfl
theorem A0 (vs:uP)(n i j:Nat)(h:Zf vs n)(hi:i<n)(hj:j<n):
  aE 557 3 [.list (vs.map vD),nD i,nD j,.list (List.replicate vs.length (.bool false)),.bool true] (λr=>r=.int (Mw vs i j)):=by
 refine aE.dO vY rfl λR hR=>?_;have hl:=bw (as:=vs) vD;refine Mf (g:=nD) (n:=(vs.map vD).length) (iW (by rw[hl];exact aB h.len (fu rfl))) (fun k (s:Sl×Sl)=>([("vs",.fz (.list (vs.map vD))),("i",.fz (nD i)),("j",.fz (nD j)),("decreasing",.fz (.list (List.replicate vs.length (.bool false)))),("na_last",.fz (.bool true)),("number",s.1),("result",s.2)]:VS)) (fun k=>Mw vs i j=Mw (vs.drop k) i j) (.un,.un) rfl rfl ?_ ?_
 .rintro k s hk ek K hn- -hr
  simp only[hl] at hk;have hv:vs[k]∈vs:=jj hk;simp only[pQ hk,Xs] at ek;refine f5 (Jw (eE hk)) ?_;refine f5 (x:=.bool false) (List.getElem?_replicate_of_lt hk) ?_;refine ai (vX vs[k].1 vs[k].2 i j (h.kind _ hv).1 (by rw[h.items _ hv];exact hi) (by rw[h.items _ hv];exact hj) (h.cmp _ hv i j hi hj)) ?_;refine cS (λhb=>?_) λhb=>?_
  .exact hr _ _ (rV hR (by rw[ek,bg (bi_ine.mp hb)];rfl))
  .exact hn (_,_) (by rw[ek,aG (by simpa using hb)])
 .intro s ek
  rw[hl,Yr] at ek;exact rV hR (by rw[ek];rfl)
noncomputable def tP (vs:uP)(a b:Nat):Bool:=decide (Mw vs a b<=0)
theorem abG {L:bF}{i:Nat}(h:i<L.length):(L.map nD)[((i:Nat):Int).toNat]? =some (nD L[i]):=Jw (eE h)
theorem DX {T:kc}{vs:uP}{L R M:bF}{i j:Nat}(hT:T (.list ((List.merge L R (tP vs)).map nD)))(em:M++List.merge (L.drop i) (R.drop j) (tP vs)=List.merge L R (tP vs))(h:L.length<=i\/R.length<=j)(hn:M.length+L.length+R.length<=100000):
  (M.map nD).length+((L.map nD).drop i).length<=cap/\(M.map nD++(L.map nD).drop i).length+((R.map nD).drop j).length<=cap/\T (.list (M.map nD++(L.map nD).drop i++(R.map nD).drop j)):=by
 have e:M.map nD++(L.map nD).drop i++(R.map nD).drop j=(List.merge L R (tP vs)).map nD:=by
  rw[<-em,<-List.map_drop,<-List.map_drop,<-dN,<-dN,eN];refine fU (h) (λh=>?_) λh=>?_
  .rw[YT h];simp
  .rw[YT h];simp
 refine⟨?_,?_,by rw[e];exact hT⟩
 .simp;have:cap=1048576:=rfl;omega
 .simp;have:cap=1048576:=rfl;omega (splitDisjunctions:=true)
theorem FP (vs:uP)(n:Nat)(h:Zf vs n)(L R:bF)(hL:∀a∈L,a<n)(hR:∀a∈R,a<n)(hn:L.length+R.length<=1000):
  aE 564 4 [.list (L.map nD),.list (R.map nD),.list (vs.map vD),.list (List.replicate vs.length (.bool false)),.bool true] (λr=>r=.list ((List.merge L R (tP vs)).map nD)):=by
 refine aE.dO Aa rfl λT hT=>?_;refine aeT (λm V=>∃(i j:Nat) (M:bF),m=(L.length-i)+(R.length-j)/\i<=L.length/\j<=R.length/\M.length=i+j/\M++List.merge (L.drop i) (R.drop j) (tP vs)=List.merge L R (tP vs)/\
  V=([("left",.fz (.list (L.map nD))),("right",.fz (.list (R.map nD))),("vs",.fz (.list (vs.map vD))),("decreasing",.fz (.list (List.replicate vs.length (.bool false)))),("na_last",.fz (.bool true)),("merged",.ow (.list (M.map nD))),("i",.fz (nD i)),("j",.fz (nD j))]:VS)) _ (aV 0 0 [] rfl (jU _) (jU _) rfl (iA rfl rfl)) ?_;intro m V z K hN y y y;refine rI z λi j M z2=>nX z2 λemn hi z3=>kU z3 λhj hM em eV=>clear% z;clear% z2;clear% z3;?_;subst emn eV;refine cS (λh1=>?_) λh1=>?_
 .refine cS (λh2=>?_) λh2=>?_
  .have qG:i<L.length:=by simpa using h1
   have Sa:j<R.length:=by simpa using h2
   have hM2:(M.map nD).length+1<=cap:=by rw[bw];have:cap=1048576:=rfl;omega
   rw[pQ qG,pQ Sa,YM] at em;refine f5 (abG qG) (f5 (abG Sa) ?_);refine ai (A0 vs n L[i] R[j] h (hL _ (jj qG)) (hR _ (jj Sa))) (cS (λhb=>?_) λhb=>?_)
   .intro v
    refine f5 (abG qG) (G0 hM2 ?_);rw[bg (show tP vs L[i] R[j]=true from hb)] at em;exact hN _ _ (Nat.add_lt_add_right (adV _ _ qG) _) (aV (i+1) j (M++[L[i]]) rfl qG hj (by simp only[fK,J3];omega) (iA (by rw[pQ Sa,eN];exact em) (by rw[dN];rfl)))
   .intro v
    refine f5 (abG Sa) (G0 hM2 ?_);rw[aG (show ¬tP vs L[i] R[j]=true from λq=>Bool.noConfusion (hb.symm.trans q))] at em;exact hN _ _ (adQ (adV _ _ Sa) _) (aV i (j+1) (M++[R[j]]) rfl hi Sa (by simp only[fK,J3];exact Nat.add_left_inj.mpr hM) (iA (by rw[pQ qG,eN];exact em) (by rw[dN];rfl)))
  .exact DX hT em (.inr (qN (by simpa using h2))) (by omega)
 .exact DX hT em (.inl (qN (by simpa using h1))) (by omega)
noncomputable def rD (r:bF):D:=.list (r.map nD)
noncomputable def gc (le:Nat->Nat->Bool):pT->pT
 |a::b::r=>List.merge a b le::gc le r
 |l=>l
theorem ko {le:Nat->Nat->Bool}{a b:bF}{r:pT}:gc le (a::b::r)=List.merge a b le::gc le r:=rfl
theorem pZ (le:Nat->Nat->Bool):∀l:pT,(gc le l).length=(l.length+1)/2
 |[]=>rfl
 |[_]=>(by decide:1=(1+1)/2)
 |a::b::r=>by simp only[ko,wx,pZ le r];omega
noncomputable def gU (le:Nat->Nat->Bool):Nat->pT->bF
 |0,l=>l.headD []
 |f+1,l=>if l.length<=1 then l.headD [] else gU le f (gc le l)
noncomputable def fQ (le:Nat->Nat->Bool)(l:pT):Nat->pT
 |0=>[]
 |k+1=>fQ le l k++[List.merge (l.getD (2*k) []) (l.getD (2*k+1) []) le]
theorem oZ {le:Nat->Nat->Bool}{f:Nat}{l:pT}:gU le (f+1) l=if l.length<=1 then l.headD [] else gU le f (gc le l):=rfl
theorem ki {le:Nat->Nat->Bool}{l:pT}{k:Nat}:fQ le l (k+1)=fQ le l k++[List.merge (l.getD (2*k) []) (l.getD (2*k+1) []) le]:=rfl
theorem kX (le:Nat->Nat->Bool)(l:pT):∀k,(fQ le l k).length=k
 |0=>rfl
 |k+1=>by simp[ki,kX le l k]
theorem oh (le:Nat->Nat->Bool)(a b:bF)(l:pT):∀k,fQ le (a::b::l) (k+1)=List.merge a b le::fQ le l k
 |0=>by rfl
 |k+1=>by
  rw[ki,oh le a b l k];simp only[ki,OS];have e1:2*(k+1)=2*k+1+1:=by rfl
  rfl
theorem IE (le:Nat->Nat->Bool):∀l:pT,gc le l=fQ le l (l.length/2)++(if l.length % 2=1 then [l.getD (l.length-1) []] else [])
 |[]=>rfl
 |[a]=>by show [a]=fQ le [a] (1/2)++(if 1 % 2=1 then [a] else []);rfl
 |a::b::r=>by
  have e1:(a::b::r).length/2=r.length/2+1:=by simp only[wx];omega
  simp only[e1,oh,ko,IE le r];dsimp only[List.length_cons,List.cons_append];have e2:(r.length+1+1) % 2=r.length % 2:=by omega
  rw[e2];congr 2;split
  .rename_i h
   have e3:r.length+1+1-1=(r.length-1)+1+1:=by omega
   rw[e3];rfl
  .rfl
theorem PN {b:Int}(hb: -10<=b)(hb':b<=1000):Builtin.Range.small 0 b 2=true:=by delta Builtin.Range.small Builtin.Range.rangeSize;simp only[Builtin.Range.rangeFitsLong,iK,xg,decide_eq_true_eq,eH,show(2:Int)>0 by decide,if_true];split<;>grind
theorem Ua {k:Nat}(hk:1<=k):Builtin.Range.rangeSize 0 ((k:Int)-1) 2=((k/2:Nat):Int):=by unfold Builtin.Range.rangeSize;rw[bg (by decide)];split<;>omega
theorem aiG {k:Nat}(hk:1<=k)(hn:k<=1000):Hh (.range 0 ((k:Int)-1) 2) ((List.range (k/2)).map λi=>nD (2*i)):=λw A hh=>by
 have:=rX (w:=w) hh 0 ((k:Int)-1) 2 (k/2) (PN (by omega) (by omega)) (Ua hk);have e:sY 0 2 (k/2)=(List.range (k/2)).map λi=>nD (2*i):=dZ λi z=>by simp[nD];omega
 rwa [e] at this
def mY (n:Nat)(rs:pT):Prop:=(∀r∈rs,∀a∈r,a<n)/\rs.flatten.length<=1000/\rs.length<=1000
theorem ID {n:Nat}(le:Nat->Nat->Bool):∀{rs:pT},mY n rs->mY n (gc le rs)
 |[],h=>h
 |[_],h=>h
 |a::b::r,h=>by
  have hr:mY n r:=⟨λx hx=>h.1 x (.tail _ (.tail _ hx)),by have:=h.2.1;simp at this ⊢;omega,by have:=h.2.2;simp at this;omega⟩;have ih:=ID le hr;refine⟨λx hx y hy=>?_,?_,?_⟩
  .rcases bW.mp hx with rfl|hx
   .rcases List.mem_merge.mp hy with hy|hy
    .exact h.1 a (.head _) y hy
    .exact h.1 b (.tail _ (.head _)) y hy
   .exact ih.1 x hx y hy
  .have e:∀rs:pT,(gc le rs).flatten.length=rs.flatten.length:=by
    intro rs;have:∀k (rs:pT),rs.length<=k->(gc le rs).flatten.length=rs.flatten.length:=by
     intro k;induction k with
     |zero=>intro rs hk;have:=Kv.mp (Nat.le_zero.mp hk);rw[this];rfl
     |succ k ih=>
      intro rs hk
      match rs,hk with
      |[],_=>rfl
      |[_],_=>rfl
      |a::b::r,hk=>simp only[ko,Bs,fK,List.length_merge,ih r (by simp at hk;omega)];exact Ov a.length b.length r.flatten.length
    exact this _ rs (br _)
   rw[e];exact h.2.1
  .rw[pZ];have:=h.2.2;omega
theorem ade:∀P:bF,(P.map λa=>[a]).flatten.length=P.length
 |[]=>rfl
 |_::P=>by simp[ade P]
theorem N3 {r:bF}:∀{rs:pT},r∈rs->r.length<=rs.flatten.length
 |a::rs,h=>by
  rcases bW.mp h with rfl|h
  .simp
  .have:=N3 h;simp only[Bs,fK];exact Nat.le_add_left_of_le this
theorem abE {rs:pT}(h:1<=rs.length):(rs.map rD)[(-1+((rs.map rD).length:Int)).toNat]? =some (rD (rs.getD (rs.length-1) [])):=by
 have e:(-1+((rs.map rD).length:Int)).toNat=rs.length-1:=by simp;omega
 rw[e];have:rs.length-1<rs.length:=eW (eW (qO (br _)) (uK (br _))) (fh (Yz h));simp[this,dS]
theorem mY.get {n:Nat}{rs:pT}(h:mY n rs)(k:Nat):(∀a∈rs.getD k [],a<n)/\(rs.getD k []).length<=1000:=by
 rcases XZ k rs.length with q|q
 .rw[dS,eE q,jV]
  exact⟨h.1 _ (jj q),aB (N3 (jj q)) h.2.1⟩
 .have e:rs.getD k []=[]:=by rw[dS,yt q,Option.getD_none]
  rw[e];exact⟨by simp,by exact jU _⟩
theorem mY.aow {n:Nat}{rs:pT}(h:mY n rs){k:Nat}(hk:k+1<rs.length):(rs.getD k []).length+(rs.getD (k+1) []).length<=1000:=by
 refine aB ?_ h.2.1;have e:rs=rs.take k++rs.getD k []::rs.getD (k+1) []::rs.drop (k+2):=by
  have h1:k<rs.length:=by omega
  simp only[dS,eE h1,jV,dS,eE hk,jV];simp only[<-pQ hk,<-pQ h1,OU]
 rw[e];have h1:k<rs.length:=by omega
 simp only[dS];have e1:(rs.take k++rs[k]?.getD []::rs[k+1]?.getD []::rs.drop (k+2))[k]? =some (rs[k]?.getD []):=by rw[O0 (by simp;exact Kd k rs.length)];simp[Yj (Bq h1)]
 have e2:(rs.take k++rs[k]?.getD []::rs[k+1]?.getD []::rs.drop (k+2))[k+1]? =some (rs[k+1]?.getD []):=by rw[O0 (by simp;exact(aB (Kd _ _) (gP (br _))))];simp[Yj (Bq h1)]
 rw[e1,e2];simp;omega
theorem Xa {rs:pT}{k:Nat}(h:k<rs.length):(rs.map rD)[k]? =some (rD (rs.getD k [])):=Jw (by rw[dS,eE h];rfl)
theorem FO (vs:uP)(n:Nat)(h:Zf vs n)(P:bF)(hP:∀a∈P,a<n)(hPn:P.length<=1000):
  aE 569 5 [.list (P.map nD),.list (vs.map vD),.list (List.replicate vs.length (.bool false)),.bool true] (λr=>r=.list ((gU (tP vs) P.length (P.map λa=>[a])).map nD)):=by
 refine aE.dO zZ rfl λT hT=>?_;have aW:cap=1048576:=rfl;refine bL (xs:=P) (G:=nD) (H:=λa=>rD [a]) bS (by omega) (λa ha=>fO rfl) ?_;rw[show(P.map λa=>rD [a])=(P.map λa=>[a]).map rD from(by simp only[eL];rfl)];refine cS (λhb=>?_) λhb=>?_
 .have:P=[]:=by simpa using hb
  subst this;exact hT
 have hP0:1<=P.length:=by
  clear h hP hPn hT aW;rcases P with _|⟨a,P⟩
  .simp at hb
  .exact OC ..
 have uU:mY n (P.map λa=>[a]):=⟨λr hr a ha=>by refine aq (bN.mp hr) λb hb z0=>?_;subst z0;simp at ha;rw[ha];exact hP _ hb,by rw[ade];exact hPn,by simpa using hPn⟩;refine aeT (λm V=>∃(rs:pT) (f:Nat) (s1 s2:Sl),m=rs.length/\mY n rs/\1<=rs.length/\rs.length<=f+1/\gU (tP vs) f rs=gU (tP vs) P.length (P.map λa=>[a])/\
  V=([("places",.fz (.list (P.map nD))),("vs",.fz (.list (vs.map vD))),("decreasing",.fz (.list (List.replicate vs.length (.bool false)))),("na_last",.fz (.bool true)),("runs",.fz (.list (rs.map rD))),("longer",s1),("at",s2)]:VS)) _ (aL _ P.length .un .un rfl uU (by simpa using hP0) (by simp) rfl rfl) ?_;intro m V z K hN y y y;refine Tv z λrs f s1 s2 z2=>nX z2 λemn ok z3=>kU z3 λh1 hf1 et eV=>clear% z;clear% z2;clear% z3;?_;subst emn eV;have dg:=ok.2.2;have hlm:=bw (as:=rs) rD;refine cS (λhc=>?_) λhc=>?_
 .have hc:1<rs.length:=by have:=jx hc;omega
  obtain⟨f,rfl⟩:∃g,f=g+1:=⟨f-1,by omega⟩;have et':gU (tP vs) f (gc (tP vs) rs)=gU (tP vs) P.length (P.map λa=>[a]):=by rw[<-et,oZ,aG (Nat.not_le_of_lt hc)]
  refine kZ λfr A E F=>DR (by decide) (by decide) ?_;have hs:=aiG (k:=(rs.map rD).length) ((aB h1 (fh (fH hlm)))) (aB (fh hlm) dg);rw[hlm] at hs;refine Mf (n:=rs.length/2) (g:=fun i=>nD (2*i)) (by rw[hlm];exact hs) (fun k s=>([("places",.fz (.list (P.map nD))),("vs",.fz (.list (vs.map vD))),("decreasing",.fz (.list (List.replicate vs.length (.bool false)))),("na_last",.fz (.bool true)),("runs",.fz (.list (rs.map rD))),("longer",.ow (.list ((fQ (tP vs) rs k).map rD))),("at",s)]:VS)) (fun y=>True) s2 rfl trivial ?_ ?_
  .intro k s hk y K hn y y y v
   refine f5 (Xa (k:=2*k) (by omega)) (f5 (Xa (k:=2*k+1) (by omega)) ?_);refine ai (FP vs n h _ _ (ok.get (2*k)).1 (ok.get (2*k+1)).1 (ok.aow (by omega))) (G0 (by rw[bw,kX];omega) ?_);have:=hn (.fz (nD (2*k))) trivial;simp only[ki,dN] at this;exact this
  .intro s y
   have hm:(((rs.map rD).length:Int).fmod 2==1)=decide (rs.length % 2=1):=by
    rw[bw,Int.fmod_eq_emod_of_nonneg _ (by decide)];have:((rs.length:Int) % 2)=((rs.length % 2:Nat):Int):=by rfl
    rw[this];rcases Nat.mod_two_eq_zero_or_one rs.length with q|q<;>rw[q]<;>rfl
   have pe:=IE (tP vs) rs;have pok:=ID (tP vs) ok;have pl:=pZ (tP vs) rs;refine gB λfr A E F=>mC ?_ (by decide);refine cS (λhb=>?_) λhb=>?_
   .rw[hm] at hb
    rw[bg (jx hb)] at pe;intro v;refine gB λfr A E F=>Rx (by decide) (by simp;grind) (abE h1) ?_;refine G0 (by rw[bw,kX];omega) ?_;exact hN _ _ (by omega) (aL (gc (tP vs) rs) f (.fz (.list ((gc (tP vs) rs).map rD))) s rfl pok (by omega) (by omega) et' (by simp only[pe,dN];rfl))
   .rw[hm] at hb
    rw[aG (of_decide_eq_false hb),pP] at pe;exact hN _ _ (by omega) (aL (gc (tP vs) rs) f (.fz (.list ((gc (tP vs) rs).map rD))) s rfl pok (by omega) (by omega) et' (by rw[pe];rfl))
 .have hc:rs.length=1:=by have:=of_decide_eq_false hc;omega
  refine f5 (Xa (k:=0) (by omega)) ?_;have:gU (tP vs) f rs=rs.headD []:=by induction f using O2 with|zero=>rfl|succ f=>rw[oZ,bg (by omega)]
  simp only[<-et,this] at hT;clear h hP hPn aW hb hP0 uU ok h1 hf1 et hN dg hlm;rcases rs with _|⟨a,rs⟩
  .cases hc
  .exact hT
theorem wh (v:aa×ak)(h:eU v.1=true):aE 543 1 [vD v] (λr=>r=.none):=
 aE.dO sC rfl λT hT=>cF (show(!eU v.1)=false by rw[h];rfl) hT
theorem Mn (n:Nat)(hn:n<=100):aE 574 1 [.bool false,nD n] (λr=>r=.list (List.replicate n (.bool false))):=by refine aE.dO GP rfl λT hT=>?_;have aW:(cap:Int)=1048576:=rfl;exact kZ λfr A E F=>aaz (gB λfr A E F=>Dp.fz (tE (Dl n) (by omega) hT))
theorem CP (vs:uP)(n:Nat)(h:Zf vs n)(hv:vs≠[])(hn:n<=1000):aE 581 2 [.list (vs.map vD),.bool true] (λr=>r=.list ((List.range n).map nD)):=by
 refine aE.dO xT rfl λT hT=>?_;induction vs using nU with
 |nil=>exact absurd rfl hv
 |cons v BZ=>
 refine ai (Ag v.1 v.2 .none (h.kind v (.head _)).2.1) ?_;rw[h.items v (.head _)];refine GK (St:=Sl×Sl×Sl) (g:=nD) (f:=nD) (iW (by have:cap=1048576:=rfl;omega)) (fun acc s=>([("vs",.fz (.list ((v::BZ).map vD))),("na_last",.fz (.bool true)),("places",.ow (.list acc)),("place",s.1),("keep",s.2.1),("v",s.2.2)]:VS)) (.un,.un,.un) rfl ?_ ?_
 .intro done a aF s e K HC z z z u
  exact G0 (by have:=AX e;simp only[iU] at this;rw[bw];have:cap=1048576:=rfl;omega) (HC (_,_,s.2.2))
 .exact λs=>hT
theorem Lx (P:aY)(v:ao):∀S,peek (K P) S (bindArgs wL ⟨[v],[]⟩)=some [(("vs":aa),v),("decreasing",.bool false),("na_last",.bool true)]:=fun S=>by kernel_rfl
noncomputable def dW (vs:uP)(n:Nat):bF:=gU (tP vs) n ((List.range n).map λa=>[a])
theorem zU (vs:uP)(n:Nat)(h:Zf vs n)(hv:vs≠[])(hn:n<=1000):aE 589 7 [.list (vs.map vD)] (λr=>r=.list ((dW vs n).map nD)):=by
 refine aE.ani FA (dv:=[.bool false,.bool true]) (dds:=[.bool false,.bool true]) (λF=> .cons .bool (.cons .bool .nil)) (λP vals hl=>dw (eF hl) λv z e1 l1=>by rw[e1,vm l1];exact Lx P v) rfl λT hT=>?_;refine Hv (by clear h hn hT;induction vs using nU with|nil=>exact absurd rfl hv|cons v BZ=>exact(Tf v BZ rfl):∃v BZ,vs=v::BZ) λv BZ e=>?_;have hv0:(vs.map vD)[0]? =some (vD v):=by rw[e];rfl
 have Tg:v∈vs:=by rw[e];exact .head _
 have c0:(((vs.map vD).length:Int)==0)=false:=by rw[e];simp;exact bi_ine.mp rfl
 have cl:∀u∈vs,(((u.2.length:Nat):Int) !=((v.2.length:Nat):Int))=false:=λu hu=>by rw[h.items u hu,h.items v Tg];exact bne_self_eq_false ..
 refine cF c0 (GJ (l:=vs) (g:=vD) bS (fun z s=>([("vs",.fz (.list (vs.map vD))),("decreasing",.fz (.bool false)),("na_last",.fz (.bool true)),("v",s),("flags",.un)]:VS)) (fun z z=>True) .un rfl trivial ?_ ?_)
 .intro done u aF s e2 z K HC z z z
  have hu:=AW e2;refine ai (wh u (h.kind u hu).2.2) (ai (Ag u.1 u.2 .none (h.kind u hu).2.1) ?_);refine f5 hv0 (ai (Ag v.1 v.2 .none (h.kind v Tg).2.1) ?_);exact cF (cl u hu) (HC _ trivial)
 .intro s z
  refine ai (by rw[bw];exact Mn vs.length h.len:aE 574 1 [.bool false,nD (vs.map vD).length] λr=>r=.list (List.replicate vs.length (.bool false))) ?_;refine ai (CP vs n h hv hn) (ai (FO vs n h (List.range n) (λa ha=>dh.mp ha) (by simpa using hn)) ?_);rw[iU];exact hT
noncomputable def aa0 (n:Nat):aa:=toString (n:Int)
noncomputable def Ff (s:aa):aa:=(((Str.empty++aa0 s.length)++":")++s)
noncomputable def Ln:D->aa
 | .str s=>Ff s
 |_=>""
theorem Wl:∀m:Fin 300,(aa0 m.val).length<=3:=by decide+kernel
theorem qi:(":":aa).length=1:=by decide
theorem lP:(Str.empty).length=0:=by decide
theorem I0 {n:Nat}(h:n<=200):(aa0 n).length<=3:=Wl ⟨n,by omega⟩
theorem Up {s:aa}(h:s.length<=200):(Ff s).length<=204:=by have:=I0 h;unfold Ff;simp only[EK,qi,lP];omega
noncomputable def cy (parts:Tq6)(k:Nat):aa:=Txt.join "" (parts.map fun p=>Ln (gD p k))
def BV (n:Nat)(p:ak):Prop:=p.length=n/\∀d∈p,∃s,d=.str s/\s.length<=200
theorem BV.get {n k:Nat}{p:ak}(h:BV n p)(hk:k<n):∃s,gD p k=.str s/\s.length<=200:=by
 have iR:k<p.length:=by rw[h.1];exact hk
 have:gD p k∈p:=by simp only[gD,dS,eE iR,jV];exact jj iR
 exact h.2 _ this
theorem PT (l:ay)(hl:l.length<=100)(h:∀s∈l,s.length<=204):(l.map (·.length)).sum+l.length*("":aa).length<=16777216:=by
 have:(l.map (·.length)).sum<=l.length*204:=by
  clear hl;induction l with
  |nil=>exact StrLaws.sumLen_le [] h
  |cons a l ih=>have h1:=h a (.head _);have h2:=ih λs hs=>h s (.tail _ hs);simp only[fJ,YG,wx];omega
 rw[Wk];omega
theorem zG (cs:ak)(g:D->ak)(n:Nat)(hn:n<=1000)(hc:cs.length<=100)(hg:∀c∈cs,aE 776 6 [c] (λr=>r=.list (g c)))(hk:∀c∈cs,BV n (g c)):
  aE 781 7 [.list cs,nD n] (λr=>r=.list ((List.range n).map λk=> .str (cy (cs.map g) k))):=by
 refine aE.dO Fj rfl λT hT=>?_;have aW:cap=1048576:=rfl;refine bL (xs:=cs) (G:=id) (H:=λc=> .list (g c)) (by simp only[sF];exact bS) (by omega) (λc nh=>ai (hg c nh) (fO rfl)) ?_;have turn:∀k,k<n->∀c∈cs,∃s,(g c)[k]? =some (.str s)/\gD (g c) k=.str s/\s.length<=200:=λk l8 c nh=>by exact aq ((hk c nh).get l8) λs es ng=>⟨s,by simp only[Jx (by rw[(hk c nh).1];exact l8),es],es,ng⟩
 refine GK (St:=Sl×Bool) (g:=nD) (f:=fun k=> .str (cy (cs.map g) k)) (iW (by omega)) (fun acc s=>([("columns",.fz (.list cs)),("rows",.fz (nD n)),("parts",bif s.2 then .ow (.list (cs.map fun c=> .list (g c))) else .fz (.list (cs.map fun c=> .list (g c)))),("found",.ow (.list acc)),("place",s.1)]:VS)) (.un,true) rfl ?_ ?_
 .intro done k aF s e K HC z z z
  have l8:k<n:=(DK e).1;obtain⟨s1,b⟩:=s;cases b
  all_goals
   intro v;refine bL (xs:=cs) (G:=λc=> .list (g c)) (H:=λc=> .str (Ln (gD (g c) k))) bS (by omega) (λc nh=>?_) ?_
   .refine gb (turn k l8 c nh) λs e1 e2 h2=>?_
    have hz:sizeLine=16777216:=nR;have h3:=I0 h2;rw[e2];refine f5 e1 ⟨by omega,?_⟩;refine⟨qh (by have:((s.length:Nat):Int).natAbs=s.length:=rfl;omega),?_⟩;refine⟨by simp only[EK,lP];have:(toString ((s.length:Nat):Int):aa).length<=3:=h3;omega,?_⟩;refine⟨by simp only[EK,lP,qi];have:(toString ((s.length:Nat):Int):aa).length<=3:=h3;omega,?_⟩;refine f5 e1 ⟨by omega,?_⟩;refine⟨by simp only[EK,lP,qi];have:(toString ((s.length:Nat):Int):aa).length<=3:=h3;omega,?_⟩;exact⟨by simp only[EK,lP,qi];have:(toString ((s.length:Nat):Int):aa).length<=3:=h3;omega,fO rfl⟩
   .refine kZ λfr A E F=>FE (ys:=cs.map λc=>Ln (gD (g c) k)) (by rw[eL];rfl) (PT _ (by simpa using hc) λs hs=>?_) ?_
    .refine aq (bN.mp hs) λc nh z2=>?_;clear hn hc hg hT aW turn e HC F hs;subst z2
     refine aq ((hk c nh).get l8) λs es ng=>?_;rw[es];exact Up ng
    refine G0 (by rw[bw];have:=AX e;simp only[iU] at this;omega) ?_;have:=HC (.fz (nD k),false);rw[show cy (cs.map g) k=Txt.join "" (cs.map fun c=>Ln (gD (g c) k)) from by unfold cy;rw[eL];rfl] at this;exact this
 .intro s
  obtain⟨s1,b⟩:=s;induction b using pR<;>exact hT
theorem E4 {K X:Type}[DecidableEq K](l:List (K×X))(k:K)(x:X)(j:K):d9 (l++[(k,x)]) j=(d9 l j).or (if k=j then some x else none):=by
 induction l with
 |nil=>simp[bP];rfl
 |cons p l ih=>
  obtain⟨n,d⟩:=p;simp only[OS,bP,bP];by_cases h:n=j
  .simp[h]
  .simp only[aG h];exact ih
theorem lE {K X:Type}[DecidableEq K]{l:List (K×X)}{k:K}{x:X}(h:d9 l k=none):jG l k x=l++[(k,x)]:=by unfold jG;rw[aG];intro hc;refine aq (EI.mp hc) λp hp e=>?_;have e:p.1=k:=jx e;unfold d9 at h;rw[Option.map_eq_none_iff,List.find?_eq_none] at h;exact h p hp (by with_reducible assumption)
noncomputable def bl (ks:ay):bF:=(List.range ks.length).map fun k=>ks.idxOf (ks.getD k "")
theorem Sm {ks:ay}{k:Nat}(h:k<ks.length):(ks.map D.str)[((k:Nat):Int).toNat]? =some (.str (ks.getD k "")):=by simp[h,dS,eE h]
theorem DG {T:ay}{x:aa}(hm:x∈T)(f:aa->D)(key:aa):(if key∈T then some (f key) else none)=if key∈T++[x] then some (f key) else none:=by
 by_cases q:key∈T
 .simp_all
 .have:¬key=x:=λe=>q (e▸hm)
  simp_all
theorem Nd {T:ay}{x:aa}(hm:x∉T)(f:aa->D)(y:D)(hy:f x=y)(key:aa):(if key∈T then some (f key) else none).or (if x=key then some y else none)=if key∈T++[x] then some (f key) else none:=by
 by_cases q:key∈T
 .simp_all
 .by_cases q2:x=key
  .subst q2;simp_all
  .have:¬key=x:=λe=>q2 e.symm
   simp_all
theorem NS {ks:ay}{k:Nat}(hk:k<ks.length)(h:ks.getD k ""∉ks.take k):ks.idxOf (ks.getD k "")=k:=by
 have e:ks=ks.take k++ks.getD k ""::ks.drop (k+1):=by
  conv=>lhs;rw[<-OU k ks]
  rw[pQ hk,dS,eE hk,jV]
 generalize hx:ks.getD k ""=x at*;rw[e,List.idxOf_append,aG h];simp;omega
theorem ya (ks:ay)(hn:ks.length<=1000):aE 786 1 [.list (ks.map .str)] (λr=>r=.list ((bl ks).map nD)):=by
 refine aE.dO uq rfl λT hT=>?_;have aW:cap=1048576:=rfl;have HD:(bl ks).length=ks.length:=by unfold bl;simp only[bw,iU]
 refine aju (y:="known") [("keys",.fz (.list (ks.map .str)))] [] rfl rfl rfl ?_;refine NI 90 .ow (λaF rs dy=>∃(k:Nat) (tb:uX),aF=((List.range ks.length).map nD).drop k/\k<=ks.length/\rs=((bl ks).take k).map nD/\dy=.dict tb/\tb.length<=k/\∀key,d9 tb key=if key∈ks.take k then some (nD (ks.idxOf key)) else none)
  (by rw[bw];exact iW (by omega)) rfl (.inl rfl) rfl (jw (ys:=["keys"]) rfl).2 (gg 0 [] rfl (jU _) rfl rfl (br _) (fun key=>(aG (JZ)).symm)) ?_ ?_
 .intro d aF rs dy z0;refine f9 z0 λk tb e hk z1 z2 vH htb=>clear% z0;?_;rw[z1];subst z2
  refine nX (Ip e) λl8 z e'=>?_;clear hT aW e;rw[z];have efk:(bl ks).take (k+1)=(bl ks).take k++[ks.idxOf (ks.getD k "")]:=by simp only[SN (by rw[HD];exact l8)];simp[bl]
  have etk:ks.take (k+1)=ks.take k++[ks.getD k ""]:=by simp only[SN l8,dS,eE l8];rfl
  refine⟨by simp only[bw,BD];exact aB (aB (br _) (Kd _ _)) (aB hk (aB hn (by decide))),λv=>?_⟩;refine f5 (Sm l8) ⟨rfl,by exact aB (aB vH hk) (aB hn (by decide)),λz hz=>?_,λhz=>?_⟩
  .rw[htb] at hz
   split at hz
   .rename_i hm
    cases hz;refine⟨_,(gg (k+1) tb e' l8 (by simp only[efk,dN];rfl) rfl (gP vH) (λkey=>?_)),rfl⟩;simp only[htb,etk];exact DG hm (λkey=>nD (ks.idxOf key)) key
   .exact aA hz
  .rw[lE hz]
   have NT:ks.getD k ""∉ks.take k:=fun q=>by rw[htb,bg q] at hz;exact fD hz
   have WY:=NS l8 NT;refine⟨_,(gg (k+1) _ e' l8 (by simp only[efk,WY,dN];rfl) rfl (by simp only[fK,J3];exact Kg vH) (λkey=>?_)),rfl⟩;simp only[E4,htb,etk];exact Nd NT (λkey=>nD (ks.idxOf key)) (nD k) (by rw[WY]) key
 .intro rs dy z3;refine f9 z3 λk tb e hk z4 z5 vH htb=>clear% z3;?_;rw[z4];subst z5
  have hk:k=ks.length:=by
   have:=aT List.length e;simp only[OJ,bw,iU,YR] at this
   grind
  rw[hk];rw[YV (by rw[HD];exact br _)];exact⟨by rw[bw,HD];exact aB hn (by decide),rfl,hT⟩
structure acu (attrs:uX) (n:Nat) (bz:ak):Prop where
 rows:∃k t,d9 attrs ("row.names":aa)=some (.vec k (.list bz) t)
 len:bz.length=n
theorem um (ks:aa)(i:D)(attrs:uX)(n:Nat)(bz:ak)(h:acu attrs n bz):aE 704 1 [.vec ks i (.dict attrs)] (λr=>r=nD n):=by refine aE.dO AN rfl fun T hT=>Hv h.rows fun k t hr=>cF (show(!(d9 attrs ("row.names":aa)).isSome)=false by rw[hr];rfl) ?_;exact f5 hr (rV hT (aT (λn:Nat=>nD n) h.len))
theorem kL (ks:aa)(cs:ak)(attrs:uX)(bz:ak)(g:D->ak)(n:Nat)(AI:acu attrs n bz)(hn:n<=1000)(hc:cs.length<=100)(hg:∀c∈cs,aE 776 6 [c] (λr=>r=.list (g c)))(hk:∀c∈cs,BV n (g c)):
  aE 791 8 [.vec ks (.list cs) (.dict attrs)] (λr=>r=.list ((List.range n).map λk=> .int (if(bl ((List.range n).map (cy (cs.map g)))).getD k 0≠k then 1 else 0))):=by
 refine aE.dO qJ rfl λT hT=>?_;have aW:cap=1048576:=rfl;refine ai (um _ _ attrs n bz AI) (ai (zG cs g n hn hc hg hk) ?_);rw[show((List.range n).map λk=>D.str (cy (cs.map g) k))=((List.range n).map (cy (cs.map g))).map .str by rw[eL];rfl];generalize L7:(List.range n).map (cy (cs.map g))=keys at hT ⊢;have uV:keys.length=n:=by rw[<-L7];simp
 refine ai (ya keys (aB (fh uV) hn)) ?_;have HD:(bl keys).length=n:=by simp[bl,uV]
 refine bL (xs:=List.range n) (G:=nD) (H:=λk=> .int (if(bl keys).getD k 0≠k then 1 else 0)) (by rw[<-HD,<-bw (as:=bl keys) nD];exact iW (by rw[bw];exact aB (fh HD) (aB hn (by decide)))) (by rw[iU];omega) (λk iR=>?_) hT;have iR:=dh.mp iR;have e:((bl keys).map nD)[k]? =some (nD ((bl keys).getD k 0)):=Jw (by rw[dS,eE (eW iR (fh (fH HD)))];rfl);refine f5 e ?_;generalize (bl keys).getD k 0=m;refine cS (λh=>fO ?_) λh=>fO ?_
 .rw[bg (by simp at h;exact neN λa=>h (aT Nat.cast a))]
 .rw[aG (by simp at h;omega)]
abbrev qy:=aa×ak×D
noncomputable def cD (c:qy):D:=.vec c.1 (.list c.2.1) c.2.2
noncomputable def gf (cs:List qy)(k:Nat):Bool:=cs.any λc=>eu (gD c.2.1 k)
noncomputable def dY (n:Nat)(f:Nat->Bool):ak:=(List.range n).map λk=> .int (if f k then 0 else 1)
theorem jS (n:Nat)(f:Nat->Bool):(dY n f).length=n:=by simp[dY]
theorem Mj (n:Nat)(f:Nat->Bool)(k:Nat):(dY n f).set k (.int 0)=dY n λj=>f j||j==k:=by
 apply EM;intro j;rw[List.getElem?_set];simp only[dY,bw,iU,g9];by_cases h:j<n
 .rw[MG h]
  by_cases e:k=j
  .subst e;simp[h]
  .have:¬j=k:=λq=>e q.symm
   simp[e,this]
 .have:(List.range n)[j]? =none:=by simp;simp_all
  rw[this];by_cases e:k=j
  .rw[e];simp[h]
  .exact aG e
theorem jv {n:Nat}{f g:Nat->Bool}(h:∀k,k<n->f k=g k):dY n f=dY n g:=by unfold dY;apply dZ;intro k hk;rw[h k (dh.mp hk)]
theorem Mi {n:Nat}{f g:Nat->Bool}{k:Nat}:dY n (λj=>f j||(decide (j<k+1)&&g j))=if g k then(dY n λj=>f j||(decide (j<k)&&g j)).set k (.int 0) else dY n λj=>f j||(decide (j<k)&&g j):=by
 have key:∀j,decide (j<k+1)=(decide (j<k)||j==k):=λj=>by rw[qM,xg,i7,i7,eH];exact Nat.lt_succ_iff_lt_or_eq
 split
 .rename_i h
  simp only[Mj];refine jv λj _=>?_;rw[key];by_cases q:j=k
  .subst q;simp[h]
  .rw[beq_eq_false_iff_ne.mpr q,EG]
   try simp only[EG]
 .rename_i h
  refine jv λj _=>?_;rw[key];by_cases q:j=k
  .subst q;simp[h]
  .rw[beq_eq_false_iff_ne.mpr q,EG]
   try rw[EG]
theorem yf (ks:aa)(cs:List qy)(attrs:uX)(bz:ak)(n:Nat)(AI:acu attrs n bz)(hn:n<=1000)(hc:∀c∈cs,(c.1==("double":aa))=false/\c.2.1.length=n):
  aE 803 2 [.vec ks (.list (cs.map cD)) (.dict attrs)] (λr=>r=.list (dY n (gf cs))):=by
 refine aE.dO uA rfl λT hT=>?_;have aW:cap=1048576:=rfl;refine ai (um _ _ attrs n bz AI) (⟨⟨Dl n,by omega⟩,?_⟩);have e0:List.replicate (n:Int).toNat (D.int 1)=dY n (gf []):=(ad4.mpr ⟨jS n _,λb hb=>by refine aq (bN.mp hb) λk z z0=>?_;clear AI hn hc hT aW hb;subst z0;rfl⟩).symm;rw[e0];refine GJ (St:=Sl×Sl) (l:=cs) (g:=cD) bS (fun done s=>([("df",.fz (.vec ks (.list (cs.map cD)) (.dict attrs))),("flags",.ow (.list (dY n (gf done)))),("column",s.1),("place",s.2)]:VS)) (fun z z=>True) (.un,.un) rfl trivial ?_ (fun s z=>hT);intro done c aF s e z K HC z z z;have hc:=hc c (AW e);refine⟨by rw[jS];omega,?_⟩;rw[jS];have e1:dY n (gf done)=dY n λj=>gf done j||(decide (j<0)&&eu (gD c.2.1 j)):=jv λj z=>by simp
 refine Mf (n:=n) (g:=nD) (iW (by omega)) (fun k s=>([("df",.fz (.vec ks (.list (cs.map cD)) (.dict attrs))),("flags",.ow (.list (dY n fun j=>gf done j||(decide (j<k)&&eu (gD c.2.1 j))))),("column",.fz (cD c)),("place",s)]:VS)) (fun z=>True) s.2 (by rw[<-e1];rfl) trivial ?_ ?_
 .intro k s hk z K hn2 z z z
  have hst:=Mi (n:=n) (f:=gf done) (g:=λj=>eu (gD c.2.1 j)) (k:=k);refine f5 (Jx (hc.2▸hk)) (ai (gX _ _ hc.1) ?_);refine cS (λh=>?_) λh=>?_
  .intro v
   refine⟨rfl,⟨Dl k,by rw[jS];simp_all,by rw[jS];omega⟩,?_⟩;have:=hn2 (.fz (nD k)) trivial;rw[hst,bg (show eu (gD c.2.1 k)=true from h)] at this;exact this
  .have:=hn2 (.fz (nD k)) trivial
   rw[hst,aG (λq:eu (gD c.2.1 k)=true=>Bool.noConfusion (q.symm.trans h))] at this;exact this
 .intro s2 z
  have:=HC (.fz (cD c),s2) trivial;rw[show dY n (gf (done++[c]))=dY n λj=>gf done j||(decide (j<n)&&eu (gD c.2.1 j)) from jv λj hj=>by simp[gf,hj]] at this;exact this
theorem zB (c:qy):aE 810 3 [cD c] (λr=>r=vD (c.1,c.2.1)):=aE.dO Fc rfl λT hT=>hT
theorem CW (cs:List qy)(n k:Nat)(hk:k<n)(hc:∀c∈cs,(c.1==("double":aa))=false/\c.2.1.length=n):
  aE 817 2 [.list (cs.map cD),nD k] (λr=>r=.bool (!gf cs k)):=by
 refine aE.dO xU rfl fun T hT=>GJ (l:=cs) (g:=cD) bS (fun z s=>([("columns",.fz (.list (cs.map cD))),("place",.fz (nD k)),("column",s)]:VS)) (fun z aF=>gf cs k=gf aF k) .un rfl rfl ?_ ?_
 .intro done c aF s e el K hn z z hr
  have hc:=hc c (AW e);refine f5 (Jx (hc.2▸hk)) (ai (gX _ _ hc.1) ?_);refine cS (λh=>?_) λh=>?_
  .exact hr _ _ (rV hT (by rw[el];show D.bool false=.bool !(eu (gD c.2.1 k)||_);rw[show eu (gD c.2.1 k)=true from h];rfl))
  .exact hn _ (by rw[el];show(eu (gD c.2.1 k)||_)=_;rw[show eu (gD c.2.1 k)=false from h];rfl)
 .intro s el
  exact rV hT (by rw[el];rfl)
noncomputable abbrev JB (names bz:ak):uX:=[("names",.vec "character" (.list names) .none),("class",.vec "character" (.list [.str "data.frame"]) .none),("row.names",.vec "integer" (.list bz) .none)]
noncomputable abbrev jd (names bz:ak):D:=.dict (JB names bz)
theorem Sn (names bz:ak):d9 (JB names bz) ("names":aa)=some (.vec "character" (.list names) .none):=by kernel_rfl
theorem abH (names bz:ak):d9 (JB names bz) ("dim":aa)=none:=by kernel_rfl
theorem Xd (names bz:ak):d9 (JB names bz) ("row.names":aa)=some (.vec "integer" (.list bz) .none):=by kernel_rfl
theorem AM (names bz:ak)(n:Nat)(h:bz.length=n):acu (JB names bz) n bz:=⟨(Tf _ _ (Xd names bz)),h⟩
theorem pM (i:D)(ns:ay)(bz:ak)(hn:ns.length<=100):aE 709 4 [.vec "list" i (jd (ns.map .str) bz)] (fun r=>r=.list (ns.map .str)):=by refine aE.dO wg rfl fun T hT=>ai (FL "list" i (JB (ns.map .str) bz) "character" (ns.map .str) .none rfl rfl (by rw[abH];rfl) (by rw[Sn];rfl)) ?_;exact bL (xs:=ns) (G:=.str) (H:=.str) bS (by have:cap=1048576:=rfl;omega) (λs z=>fO rfl) hT
theorem oY (cs names:ak)(lab:D)(hl:cs.length<=100)(hc:∀c∈cs,∃k i t,c=.vec k i t):
  aE 690 4 [.list cs,.list names,lab] (fun r=>r=.vec "list" (.list cs) (.dict [("names",.vec "character" (.list names) .none),("class",.vec "character" (.list [.str "data.frame"]) .none),("row.names",lab)])):=by
 refine aE.dO Cw rfl λT hT=>bL (xs:=cs) (G:=id) (H:=id) (by simp only[sF];exact bS) (by have:cap=1048576:=rfl;omega) (λd hd=>?_) ?_
 .refine rI (hc d hd) λk i t z0=>?_;rw[z0]
  exact ai (Z1 k i t) (fO rfl)
 rw[sF];exact ai (i0 names) (ai (i0 [.str "data.frame"]) hT)
theorem tu (n:Nat)(hn:n<=1000):aE 697 4 [nD n] (fun r=>r=.vec "integer" (.list ((List.range n).map fun k=>nD (k+1))) .none):=by
 refine aE.dO zN rfl λT hT=>?_;have aW:(cap:Int)=1048576:=rfl;refine kZ λfr A E F=>B7.fz (qa F.room.handled (J5 cap 1) (by omega) (J5 cap (n+1)) (by omega) (by omega) ?_);have e:sY 1 1 ((n:Int)+1-1).toNat=(List.range n).map λk=>nD (k+1):=by
  unfold sY;have:((n:Int)+1-1).toNat=n:=by simp
  rw[this];apply dZ;intro k z;refine aT _ ?_;omega
 rw[e];exact ai (Ed _) hT
theorem xJ (i:D)(names bz:ak)(ps:bF)(hp:∀p∈ps,p<bz.length)(nN:ps.Nodup)(hl:ps.length<=1000):
  aE 742 3 [.vec "list" i (jd names bz),.list (ps.map nD)] (fun r=>r=.vec "integer" (.list (ps.map (gD bz))) .none):=by
 refine aE.dO tw rfl λT hT=>?_;have aW:cap=1048576:=rfl;refine Mg (bS (l:=ps.map nD)) (λaF V=>∃(done ps':bF) (es:ZJ) (s1:Sl),aF=ps'.map nD/\ps=done++ps'/\(∀k:Nat,(d9 es (k:Int)).isSome=decide (k∈done))/\es.length=done.length/\
  V=([("df",.fz (.vec "list" i (jd names bz))),("places",.fz (.list (ps.map nD))),("labels",.fz (.vec "integer" (.list bz) .none)),("count",.fz (nD bz.length)),("seen",.ow (.bh es)),("lacks",.fz (.bool false)),("place",s1),("texts",.un),("found",.un)]:VS)) (cZ [] ps [] .un rfl rfl (fun k=>rfl) (iA rfl rfl)) ?_ ?_
 .intro d aF V K hn z z z z0;refine gR z0 λdone ps' es s1 e ec he bK=>xA bK λTp z1=>clear% bK;clear% z0;?_;rw[z1]
  induction ps' using nU with
  |nil=>cases e
  |cons k ps'=>
  cases e;have hkd:k∉done:=λq=>by simp only[ec] at nN;exact(G6.mp nN).2.2 k q k (.head _) rfl
  have ZF:=AX ec;have c2:(d9 es (k:Int)).isSome=false:=by rw[he];exact decide_eq_false hkd
  have c3:d9 es (k:Int)=none:=by induction q:d9 es (k:Int) using fL with|none=>rfl|some z=>rw[q] at c2;cases c2
  refine cF (decide_eq_false (Int.not_le.mpr (XX.mpr (hp k (AW ec))))) (gV λfr A E F=>ahc F.f (S8 F ?_));refine inE (cj (V:=[("df",.fz (.vec "list" i (jd names bz))),("places",.fz (.list (ps.map nD))),("labels",.fz (.vec "integer" (.list bz) .none)),("count",.fz (nD bz.length)),("seen",.ow (.bh es)),("lacks",.fz (.bool false)),("place",.fz (nD k)),("texts",.un),("found",.un)]) rfl) (cF c2 ?_);intro v;refine⟨rfl,by exact aB (aB (fh Tp) (gP (br _))) (aB ZF (aB hl (by decide))),?_⟩;rw[lE c3];refine hn _ (cZ (done++[k]) ps' _ _ rfl (by simp only[ec,eN];rfl) (λj=>?_) (iA (by rw[fK,fK,Tp];rfl) rfl));rw[E4];by_cases q:j=k
  .rw[q];simp
  .have:¬((k:Int)=(j:Int)):=λr=>q (Int.ofNat_inj.mp (id (fH r)))
   simp_all
 .intro V z2;refine gR z2 λdone ps' es s1 e ec he bK=>xA bK λTp z3=>clear% bK;clear% z2;?_;rw[z3]
  refine bL (xs:=ps) (G:=nD) (H:=gD bz) bS (by omega) (λk hkm=>?_) hT;exact f5 (Jx (hp k hkm)) (fO rfl)
noncomputable def fE (c:qy)(ps:bF):qy:=(c.1,ps.map (gD c.2.1),c.2.2)
theorem Rq (l:ak)(ps:bF):(ps.map nD).map (VF l)=ps.map (gD l):=by rw[eL];rfl
theorem iz (c:qy)(ps:bF)(hk:Tt c.2.2 c.2.2)(hp:∀p∈ps,p<c.2.1.length)(kI:ps.length<=1000):aE 737 3 [cD c,.list (ps.map nD)] (λr=>r=cD (fE c ps)):=by
 have aW:cap=1048576:=rfl;have:=Fw c.1 c.2.1 (ps.map nD) hk (λp mL=>by refine aq (bN.mp mL) λk hk z0=>?_;subst z0;exact⟨_,rfl,by omega,by have:=hp k hk;simp_all⟩) (by simp;omega);rw[Rq] at this;exact this
theorem IB (cs:List qy)(names:ay)(bz:ak)(ps:bF)(n:Nat)(hl:bz.length=n)(hn:names.length<=100)(qp:cs.length<=100)(hc:∀c∈cs,Tt c.2.2 c.2.2/\c.2.1.length=n)(hp:∀p∈ps,p<n)(nN:ps.Nodup)(kI:ps.length<=1000):
  aE 747 5 [.vec "list" (.list (cs.map cD)) (jd (names.map .str) bz),.list (ps.map nD)] (fun r=>r=.vec "list" (.list (cs.map fun c=>cD (fE c ps))) (jd (names.map .str) (ps.map (gD bz)))):=by
 refine aE.dO Cr rfl λT hT=>?_;have aW:cap=1048576:=rfl;refine bL (xs:=cs) (G:=cD) (H:=λc=>cD (fE c ps)) bS (by omega) (λc nh=>?_) ?_
 .have h:=hc c nh
  exact ai (iz c ps h.1 (by rw[h.2];exact hp) kI) (fO rfl)
 refine ai (pM _ names bz hn) (ai (xJ _ _ bz ps (by rw[hl];exact hp) nN kI) ?_);refine ai (oY _ _ _ (by simpa using qp) (λc hc=>by refine aq (bN.mp hc) λc z z1=>?_;clear hl hn qp hc hp nN kI hT aW;subst z1;exact(ua _ _ _ rfl))) hT
noncomputable def qR (keys:ay)(n:Nat):bF:=(List.range n).filter λk=>decide ((bl keys).getD k 0=k)
theorem Cc (cs:List qy)(names:ay)(bz:ak)(g:D->ak)(n:Nat)(hl:bz.length=n)(hn:n<=1000)(NT:names.length<=100)(qp:cs.length<=100)(hc:∀c∈cs,Tt c.2.2 c.2.2/\c.2.1.length=n)
  (hg:∀c∈cs,aE 776 6 [cD c] (λr=>r=.list (g (cD c))))(hk:∀c∈cs,BV n (g (cD c)))(ps:bF)(kI:qR ((List.range n).map (cy (cs.map λc=>g (cD c)))) n=ps):
  aE 796 9 [.vec "list" (.list (cs.map cD)) (jd (names.map .str) bz)] (fun r=>r=.vec "list" (.list (cs.map fun c=>cD (fE c ps))) (jd (names.map .str) (ps.map (gD bz)))):=by
 refine aE.dO xy rfl λT hT=>?_;have aW:cap=1048576:=rfl;refine ai (kL _ (cs.map cD) _ bz g n (AM _ _ n hl) hn (by simpa using qp) (λc nh=>by
  refine aq (bN.mp nh) λc' L8 z0=>?_;subst z0;exact hg c' L8) (λc nh=>by
  refine aq (bN.mp nh) λc' L8 z1=>?_;subst z1;exact hk c' L8)) ?_;rw[eL,show(cs.map (g∘cD))=cs.map λc=>g (cD c) from rfl];generalize (List.range n).map (cy (cs.map λc=>g (cD c)))=keys at kI ⊢;have dg:((List.range n).map λk=>D.int (if(bl keys).getD k 0≠k then 1 else 0)).length=n:=by rw[bw,iU]
 refine pL (xs:=List.range n) (G:=nD) (H:=nD) (λk=>decide ((bl keys).getD k 0=k)) (by rw[dg];exact iW (by omega)) (aB (jk _ _) (by rw[iU];omega)) (λk iR=>?_) (λk iR z=>fO rfl) ?_
 .have To:((List.range n).map λk=>D.int (if(bl keys).getD k 0≠k then 1 else 0))[k]? =some (.int (if(bl keys).getD k 0≠k then 1 else 0)):=Jw (f:=λk=>D.int (if(bl keys).getD k 0≠k then 1 else 0)) (MG (dh.mp iR))
  refine f5 To ⟨rfl,?_⟩;by_cases q:(bl keys).getD k 0=k
  .rw[aG (λh=>h q),i6 q];rfl
  .rw[bg q,decide_eq_false q];rfl
 .rw[show(List.range n).filter (λk=>decide ((bl keys).getD k 0=k))=ps from kI]
  have gh:ps.Sublist (List.range n):=by rw[<-kI];exact yr
  exact ai (IB cs names bz ps n hl NT qp hc (λp hp=>dh.mp (gh.subset hp)) (gh.nodup BE) (by have:=gh.length_le;simp at this;exact aB this hn)) hT
noncomputable def wV (ks:aa):D->aa
 | .none=>"NA"
 | .str s=>"="++s
 | .int i=>toString i
 |_=>""
theorem CS (ks:aa):aE 645 1 [.str ks,.none] (fun r=>r=.str "NA"):=aE.dO mJ rfl fun T hT=>hT
theorem Gj (s:aa)(hs:s.length<=100):aE 645 1 [.str "character",.str s] (fun r=>r=.str ("="++s)):=aE.dO mJ rfl fun T hT=>⟨F8 hs,hT⟩
theorem Gl (ks:aa)(i:Int)(h1:(ks==("character":aa))=false)(h2:(ks==("double":aa))=false)(hi:i.natAbs<1000):aE 645 1 [.str ks,.int i] (fun r=>r=.str (toString i)):=
 aE.dO mJ rfl λT hT=>cF h1 (cF h2 (kZ λfr A E F=>vj (qh hi) hT))
def Ho (ks:aa):kc
 | .none=>True
 | .str s=>ks="character"/\s.length<=100
 | .int i=>(ks==("character":aa))=false/\(ks==("double":aa))=false/\i.natAbs<1000
 |_=>False
theorem LR (ks:aa)(d:D)(h:Ho ks d):aE 645 1 [.str ks,d] (λr=>r=.str (wV ks d)):=by
 induction d using D.casesOn with
 |none=>exact CS ks
 |str s=>refine xA h λz0 hs=>?_;try clear h;rw[z0];exact Gj s hs
 |int i=>exact Gl ks i h.1 h.2.1 h.2.2
 |_=>exact h.elim
theorem Jd (c:qy)(h:eU c.1=true):aE 652 1 [cD c] (λr=>r=.bool false):=by refine aE.dO CT rfl λT hT=>rV hT ?_;show D.bool _=_;refine aT _ ?_;have h:([("logical":aa),"integer","double","character"]:ay).any (·==c.1)=true:=h;simp only[BB,List.any_nil,EG,xg,eH] at h;rcases h with h|h|h|h<;>rw[<-h]<;>decide+kernel
noncomputable def eS (c:qy):ay:=c.2.1.map (wV c.1)
theorem akO {c:qy}{k:Nat}(h:k<c.2.1.length):(eS c).getD k ""=wV c.1 (gD c.2.1 k):=by simp[eS,gD,dS,eE h]
theorem AP {ks:ay}{k:Nat}(hk:k<ks.length):(bl ks).take (k+1)=(bl ks).take k++[ks.idxOf (ks.getD k "")]:=by
 have hl:k<(bl ks).length:=by simpa[bl] using hk
 simp only[SN hl];simp[bl]
theorem D7 {ks:ay}{k:Nat}(hk:k<ks.length):ks.take (k+1)=ks.take k++[ks.getD k ""]:=by simp only[SN hk];simp[dS,eE hk]
def KA (ks:ay)(k:Nat)(tb:uX):Prop:=tb.length<=k/\∀key,d9 tb key=if key∈ks.take k then some (nD (ks.idxOf key)) else none
theorem HT (ks:ay):KA ks 0 []:=⟨br _,λkey=>by simp;rfl⟩
theorem ZR {ks:ay}{k:Nat}{tb:uX}(hk:k<ks.length)(h:KA ks k tb){z:D}(hz:d9 tb (ks.getD k "")=some z):z=nD (ks.idxOf (ks.getD k ""))/\KA ks (k+1) tb:=by
 simp only[h.2] at hz;split at hz
 .rename_i hm
  cases hz;refine⟨rfl,gP h.1,λkey=>?_⟩;rw[h.2,D7 hk];exact DG hm (λkey=>nD (ks.idxOf key)) key
 .exact aA hz
theorem HU {ks:ay}{k:Nat}{tb:uX}(hk:k<ks.length)(h:KA ks k tb)(hz:d9 tb (ks.getD k "")=none):ks.idxOf (ks.getD k "")=k/\KA ks (k+1) (jG tb (ks.getD k "") (nD k)):=by
 have NT:ks.getD k ""∉ks.take k:=fun q=>by rw[h.2,bg q] at hz;exact fD hz
 have WY:=NS hk NT;refine⟨WY,by rw[lE hz,fK];exact Kg h.1,λkey=>?_⟩;rw[lE hz,E4,h.2,D7 hk];exact Nd NT (λkey=>nD (ks.idxOf key)) (nD k) (aT _ WY) key
theorem AQ (c:qy)(ha:eU c.1=true)(hn:c.2.1.length<=1000)(hi:∀d∈c.2.1,Ho c.1 d):aE 666 2 [cD c] (λr=>r=.list ((bl (eS c)).map nD)):=by
 refine aE.dO vM rfl λT hT=>?_;have aW:cap=1048576:=rfl;have hlk:(eS c).length=c.2.1.length:=bw ..;have hlf:(bl (eS c)).length=c.2.1.length:=by simp[bl,eS]
 refine ai (Jd c ha) ?_;refine Mg (iW (n:=c.2.1.length) (by omega)) (λaF V=>∃(k:Nat) (tb:uX) (s1:Sl),aF=((List.range c.2.1.length).map nD).drop k/\KA (eS c) k tb/\
  V=([("v",.fz (.vec c.1 (.list c.2.1) c.2.2)),("kept",.un),("first",.un),("known",.ow (.dict tb)),("found",.ow (.list (((bl (eS c)).take k).map nD))),("place",s1)]:VS)) (gE 0 [] .un rfl (HT _) rfl) ?_ ?_
 .intro d aF V K HC y y y z1;refine i9 z1 λk tb s1 e ht z2=>clear% z1;?_;rw[z2]
  refine nX (Ip e) λl8 z0 e'=>?_;rw[z0];have abt:k<(eS c).length:=eW l8 (fh (fH hlk));have qp:(((bl (eS c)).take k).map nD).length+1<=cap:=by simp;grind
  intro v;intro u;have eg:=Jx l8;refine f5 eg (ai (LR c.1 _ (hi (gD c.2.1 k) (by simp only[gD,dS,eE l8,jV];exact jj l8))) ?_);rw[<-akO l8];refine⟨rfl,by have:=ht.1;omega,λz hz=>?_,λhz=>?_⟩
  .have q:=ZR abt ht hz
   refine G0 qp (HC _ (gE (k+1) tb (.fz (nD k)) e' q.2 ?_));rw[AP abt,dN,q.1];rfl
  .have q:=HU abt ht hz
   refine G0 qp (HC _ (gE (k+1) _ (.fz (nD k)) e' q.2 ?_));rw[AP abt,dN,q.1];rfl
 .intro V z3;refine i9 z3 λk tb s1 e ht z4=>clear% z3;?_;rw[z4]
  have hk:c.2.1.length<=k:=by have:=aT List.length e;simp at this;simp_all
  refine rV hT ?_;show D.list _=_;rw[YV (aB (fh hlf) hk)]
theorem xB (c:qy)(ha:eU c.1=true)(hn:c.2.1.length<=1000)(hi:∀d∈c.2.1,Ho c.1 d):aE 671 3 [cD c] (λr=>r=.list ((qR (eS c) c.2.1.length).map nD)):=by
 refine aE.dO sR rfl λT hT=>?_;have aW:cap=1048576:=rfl;refine ai (AQ c ha hn hi) ?_;have hlf:((bl (eS c)).map nD).length=c.2.1.length:=by simp[bl,eS]
 refine pL (xs:=List.range c.2.1.length) (G:=nD) (H:=nD) (λk=>decide ((bl (eS c)).getD k 0=k)) (by rw[hlf];exact iW (by omega)) (aB (jk _ _) (by rw[iU];omega)) (λk iR=>?_) (λk iR z=>fO rfl) hT;have e:((bl (eS c)).map nD)[k]? =some (nD ((bl (eS c)).getD k 0)):=Jw (by rw[dS,eE (by have:=dh.mp iR;simp only[bw] at hlf;simp_all)];rfl);refine f5 e ⟨rfl,?_⟩;rw[qM,eH,i7];exact Int.natCast_inj
noncomputable def aI (c:qy):bF:=(qR (eS c) c.2.1.length).filter λk=> !eu (gD c.2.1 k)
noncomputable def gA (c:qy):bF:=(dW [(c.1,(aI c).map (gD c.2.1))] (aI c).length).map λk=>(aI c).getD k 0
noncomputable def Lg (ks:ay)(key:aa):D:=if key∈ks then nD (ks.idxOf key) else .none
theorem CE (lv:ak)(l:ak)(hl:l.length<=1000)(hi:∀d∈l,d=.none\/∃i,d=.int i):aE 853 5 [.vec "integer" (.list l) (pJ lv)] (fun r=>r=.tup [.list lv,.list (l.map fun d=>match d with| .int i=> .int (i-1)|_=> .none)]):=by refine aE.dO qV rfl λT hT=>?_;have aW:cap=1048576:=rfl;refine ai (rq _ lv) (bL (xs:=l) (G:=id) (H:=λd=>match d with| .int i=> .int (i-1)|_=> .none) (by simp only[sF];exact bS) (by omega) (λd hd=>?_) hT);rcases hi d hd with rfl|⟨i,rfl⟩<;>exact fO rfl
theorem ZS {ks:ay}{k:Nat}{tb:uX}(h:KA ks k tb)(hk:ks.length<=k)(key:aa):(d9 tb key).getD .none=Lg ks key:=by
 rw[h.2,YV hk];unfold Lg;by_cases q:key∈ks
 .rw[bg q,bg q];rfl
 .rw[aG q,aG q];rfl
theorem Mc {l:ak}{k:Nat}(h:k<l.length):gD l k∈l:=by simp only[gD,dS,eE h,jV];exact jj h
theorem LA {ks:ay}{k:Nat}(h:ks.Nodup)(hk:k<ks.length):ks.getD k ""∉ks.take k:=fun q=>by rw[<-OU k ks,pQ hk] at h;refine(G6.mp h).2.2 _ q _ (.head _) ?_;rw[dS,eE hk,jV]
theorem VC (c:qy):∀k∈aI c,k<c.2.1.length:=λz hk=>dh.mp ((yr.trans yr).subset hk)
theorem Rj (c:qy):(aI c).length<=c.2.1.length:=aB (yr.trans yr:(aI c).Sublist (List.range c.2.1.length)).length_le (fh iU)
theorem xO (c:qy)(n m:Nat)(hm:9<=m)(hn:n<=1000)(dg:c.2.1.length=n)(ht:c.2.2=.none)(ha:eU c.1=true)(hd:(c.1==("double":aa))=false)(ac2:(c.1==("NULL":aa))=false)
  (W2:aE 685 3 [cD c] (λr=>r=.bool false))(hi:∀d∈c.2.1,Ho c.1 d)(Sg:∀a∈c.2.1,∀b∈c.2.1,eu a=false->eu b=false->nK a b)
  (gk:ay)(uc:aE 776 6 [cD c] (λr=>r=.list (gk.map .str)))(gkl:gk.length=n)(lab:D->D)(xW:∀d∈c.2.1,aE 332 1 [.str c.1,d] (λr=>r=lab d))
  (iX:∀k∈gA c,k<n)(Eg:(gA c).length<=1000)(WT:((gA c).map fun k=>gk.getD k "").Nodup)(WS:∀k∈dW [(c.1,(aI c).map (gD c.2.1))] (aI c).length,k<(aI c).length):
  aE 853 m [cD c] (fun r=>r=.tup [.list ((gA c).map fun k=>lab (gD c.2.1 k)),.list (gk.map fun key=>Lg ((gA c).map fun k=>gk.getD k "") key)]):=by
 obtain⟨m,rfl⟩:∃k,m=k+1:=⟨m-1,by grind⟩;refine aE.dO qV rfl λT hT=>?_;have aW:cap=1048576:=rfl;have hpn:=VC c;have abr:=Rj c;have w4:=(yr:(qR (eS c) c.2.1.length).Sublist (List.range c.2.1.length));refine ai W2 ?_ (by omega);refine ai (xB c ha (aB (fh dg) hn) hi) ?_ (by omega);refine pL (xs:=qR (eS c) c.2.1.length) (G:=nD) (H:=nD) (λk=> !eu (gD c.2.1 k)) bS (aB abr (aB (fh dg) (aB hn (by decide)))) (λk hk=>?_) (λk iR z=>fO rfl) ?_
 .have e:=Jx (dh.mp (w4.subset hk))
  refine f5 e (ai (gX _ _ hd) ?_ (by omega));exact⟨rfl,rfl⟩
 refine ai (iz c (aI c) (by rw[ht];exact .none) hpn (aB abr (aB (fh dg) hn))) ?_ (by omega);refine ai (zB (fE c (aI c))) ?_ (by omega);refine ai (zU [(c.1,(aI c).map (gD c.2.1))] (aI c).length ⟨by simp,λv hv=>?_,λv hv=>?_,λv hv i j hi hj=>?_⟩ (OH (c.fst,List.map (gD c.snd.fst) (aI c)) []) ((aB abr (aB (fh dg) hn)))) ?_ (aB (gP (br _)) (uK hm))
 .cases ly.mp hv
  exact⟨hd,ac2,ha⟩
 .cases ly.mp hv
  exact bw ..
 .cases ly.mp hv
  have hnz:∀k∈aI c,eu (gD c.2.1 k)=false:=λk hk=>by simpa using(ji.mp hk).2
  have hg:∀k,k<(aI c).length->∃a∈aI c,gD ((aI c).map (gD c.2.1)) k=gD c.2.1 a:=λk hk=>by
   refine⟨(aI c)[k],jj hk,?_⟩;have hk2:k<((aI c).map (gD c.2.1)).length:=by simpa using hk
   conv=>lhs;rw[gD,dS,eE hk2,jV,yq]
  refine aq (hg i hi) λa Tr e1=>aq (hg j hj) λb ZH e2=>?_;rw[e1,e2];exact Sg _ (Mc (hpn a Tr)) _ (Mc (hpn b ZH)) (hnz a Tr) (hnz b ZH)
 have eo:((dW [(c.1,(aI c).map (gD c.2.1))] (aI c).length).map λk=>nD ((aI c).getD k 0))=(gA c).map nD:=by unfold gA;rw[eL];rfl
 refine bL (xs:=dW [(c.1,(aI c).map (gD c.2.1))] (aI c).length) (G:=nD) (H:=λk=>nD ((aI c).getD k 0)) bS (by unfold gA at Eg;simp at Eg;omega) (λk hk=>?_) ?_
 .have e:((aI c).map nD)[k]? =some (nD ((aI c).getD k 0)):=Jw (by rw[dS,eE (WS k hk)];rfl)
  exact f5 e (fO rfl)
 rw[eo];refine ai uc ?_ (aB (aB (br _) (gP (br _))) (aB (gP (br _)) (uK hm)));generalize L7:((gA c).map fun k=>gk.getD k "")=ks at WT ⊢;have akh:ks.length=(gA c).length:=by rw[<-L7];exact bw ..
 refine Mg (bS (l:=(gA c).map nD)) (λaF V=>∃(k:Nat) (tb:uX) (s1:Sl),aF=((gA c).map nD).drop k/\k<=ks.length/\tb.length=k/\KA ks k tb/\
  V=([("column",.fz (cD c)),("codes",.un),("places",.fz (.list ((qR (eS c) c.2.1.length).map nD))),("present",.fz (.list ((aI c).map nD))),("heads",.fz (vD ((fE c (aI c)).1,(fE c (aI c)).2.1))),("ordered",.fz (.list ((gA c).map nD))),("keys",.fz (.list (gk.map .str))),("table",.ow (.dict tb)),("place",s1),("texts",.un)]:VS)) (aV 0 [] .un rfl (jU _) rfl (HT _) rfl) ?_ ?_
 .intro d aF V K HC z z z z0;refine bB z0 λk tb s1 e hk vH ht' z1=>clear% z0;?_;rw[z1]
  have l8:k<(gA c).length:=by have:=aT List.length e;simp at this;exact YO (id (fH this))
  rw[pQ (by simpa using l8)] at e;refine xA (Kc e) λzr0 e'=>?_;rw[zr0];have hkk:k<ks.length:=eW l8 (fh (fH akh));have eka:ks.getD k ""=gk.getD (gA c)[k] "":=by rw[dS,eE hkk,jV];simp only[<-L7,yq]
  have hka:(gA c)[k]<gk.length:=by rw[gkl];exact iX _ (jj l8)
  have hz:d9 tb (ks.getD k "")=none:=by rw[ht'.2,aG (LA WT hkk)]
  have q:=HU hkk ht' hz;rw[yq];refine⟨by rw[vH];exact aB (Bq l8) (aB Eg (by decide)),?_⟩;intro v;refine f5 (Sm hka) ?_;rw[<-eka];refine⟨rfl,by exact aB (aB (br _) (fh vH)) (aB (Bq l8) (aB Eg (by decide))),?_⟩;refine HC _ (aV (k+1) _ _ e' hkk ?_ q.2 (by rw[vH];rfl));rw[lE hz,fK,vH];rfl
 .intro V z3;refine bB z3 λk tb s1 e hk vH ht' z4=>clear% z3;?_;rw[z4]
  have hk:ks.length<=k:=by have:=aT List.length e;simp at this;simp_all
  refine ai (iz c (gA c) (by rw[ht];exact .none) (by rw[dg];exact iX) Eg) ?_ (by omega);have bA:=fT c.1 ((gA c).map (gD c.2.1)) lab 4 (by omega) (by simp;omega) (λd hdm=>by refine aq (bN.mp hdm) λk hkm z2=>?_;subst z2;exact xW _ (Mc (by rw[dg];exact iX k hkm)));rw[<-ht] at bA;refine ai bA ?_ (by omega);refine bL (xs:=gk) (G:=.str) (H:=Lg ks) bS (aB (fh gkl) (aB hn (by decide))) (λkey hkm=>fO (ZS ht' hk key)) (rV hT ?_);clear hn dg ht ha hd ac2 W2 hi Sg uc gkl xW iX Eg WS hm hT aW hpn abr w4 eo WT akh e hk vH ht' bA;rw[L7];rw[eL];rfl
noncomputable abbrev dX (l:ak):D:=.vec "integer" (.list l) .none
theorem Aq:aE 407 1 [.str "integer"] (fun r=>r=.int 2):=
 aE.dO Ar rfl λT hT=>kZ λfr A E F=>Lz (by decide+kernel) (by decide+kernel) hT
theorem yk (n:Nat)(h0:0<n)(hn:n<=1000):aE 414 2 [.list (List.replicate n (.str "integer"))] (fun r=>r=.str "integer"):=by
 refine aE.dO yl rfl fun T hT=>Mg bS (fun aF V=>∃(k:Nat) (s:Sl),aF=List.replicate k (.str "integer")/\k<=n/\V=([("kinds",.fz (.list (List.replicate n (.str "integer")))),("names",.fz (.tup [.str "NULL",.str "logical",.str "integer",.str "double",.str "character",.str "list",.str "expression"])),("most",.fz (.int (if k=n then 0 else 2))),("kind",s)]:VS)) (eB n .un rfl (br _) (by rw[bg rfl];rfl)) ?_ ?_
 .intro d aF V K k1 z z z z0;refine dm z0 λk s e hk z1=>clear% z0;?_;subst z1
  induction k using O2 with
  |zero=>cases e
  |succ k=>
   refine xA (Kc e) λzr0 zr1=>?_;rw[zr0];subst zr1;refine ai Aq (kZ fun fr A E F=>afp F.room.handled (k1 _ (eB k (.fz (.str "integer")) rfl (adF hk) ?_)));have h2:(if(if k+1=n then(0:Int) else 2)<2 then(2:Int) else(if k+1=n then(0:Int) else 2))=if k=n then 0 else 2:=by
    rw[aG (show ¬k=n by exact lu (eW (qO (br _)) hk))];by_cases q:k+1=n
    .rw[bg q];rfl
    .rw[aG q];rfl
   rw[h2];rfl
 .intro V z2;refine dm z2 λk s e hk z3=>clear% z2;?_;clear hn hk;subst z3
  have hz:¬k=n:=by rintro rfl;induction k using O2 with|zero=>exact absurd h0 (qL _)|succ z=>cases e
  rw[aG hz];exact hT
theorem kG (ls:Tq6)(h0:ls≠[])(hn:ls.length<=1000)(hl:(ls.map List.length).sum<=10000):aE 759 4 [.list (ls.map dX)] (λr=>r=dX ls.flatten):=by
 refine aE.dO tV rfl λT hT=>?_;have aW:cap=1048576:=rfl;refine Hv (by clear hn hl hT aW;induction ls using nU with|nil=>exact absurd rfl h0|cons l ND=>exact(Tf l ND rfl):∃l ND,ls=l::ND) λl0 ND e0=>?_;have Sb:(ls.map dX)[0]? =some (dX l0):=by rw[e0];rfl
 have hki:(("integer":aa)==("integer":aa))=true:=by decide+kernel
 refine f5 Sb (ai (gY _ _ hki) ?_);refine GK (l:=ls) (g:=dX) (f:=dX) bS (fun l s=>[("parts",.fz (.list (ls.map dX))),("plain",.ow (.list l)),("part",s),("kind",.un),("items",.un)]) .un rfl (fun done l aF s e K k1 z z z=>?_) fun s=>?_
 .intro v
  exact ai (gY _ _ hki) (G0 (by rw[bw];have:=AX e;omega) (k1 _))
 refine bL (xs:=ls) (G:=dX) (H:=fun z=> .str "integer") bS (by omega) (fun l z=>fO rfl) ?_;rw[List.map_const'];refine ai (yk ls.length (by rw[e0];exact Ou _) hn) ?_;refine GJ (l:=ls) (g:=dX) bS (fun done s=>[("parts",.fz (.list (ls.map dX))),("plain",.fz (.list (ls.map dX))),("part",s),("kind",.fz (.str "integer")),("items",.ow (.list done.flatten))]) (fun z z=>True) s rfl trivial (fun done l aF s e z K k1 z z z=>?_) fun s z=>?_
 .intro v
  refine G0 (by rw[e] at hl;simp at hl;rw[List.length_flatten];omega) ?_;have q:=k1 (.fz (dX l)) trivial;rw[List.flatten_append,List.flatten_singleton] at q;exact q
 exact f5 Sb (ai (m9 _ _) hT)
theorem rW (xs:ak)(h0:xs≠[])(hn:xs.length<=1000):aE 829 5 [.list (xs.map λx=>dX [x])] (λr=>r=dX xs):=by
 refine aE.dO jO rfl λT hT=>?_;have c0:(((xs.map λx=>dX [x]).length:Int)==0)=false:=by clear hn hT;induction xs using nU with|nil=>exact absurd rfl h0|cons _ _=>rfl
 refine GK (l:=xs) (g:=fun x=>dX [x]) (f:=id) bS (fun z s=>[("results",.fz (.list (xs.map fun x=>dX [x]))),("one",s)]) .un rfl (fun done x aF s e K k1 z z z=>k1 _) fun s=>cF c0 ?_;have e1:(xs.map λx=>dX [x])=(xs.map λx=>[x]).map dX:=by rw[eL];rfl
 have er:(xs.map λx=>[x]).map List.length=List.replicate xs.length 1:=by rw[eL];exact List.map_const' ..
 have e2:(xs.map λx=>[x]).flatten=xs:=by
  clear er e1 c0 hn h0 hT;induction xs with
  |nil=>rfl
  |cons a l ih=>rw[fJ,Bs,ih];rfl
 have q:=kG (xs.map λx=>[x]) (λh=>h0 (ER.mp h)) (by rw[bw];exact hn) (by rw[er,List.sum_replicate_nat];exact aB (adU _ hn) (by decide));rw[e2,<-e1] at q;exact ai q hT
theorem rU (ls:Tq6)(h0:ls≠[])(hn:ls.length<=1000)(h2:∀l∈ls,l.length=2):aE 829 5 [.list (ls.map dX)] (fun r=>r=.vec "list" (.list (ls.map dX)) .none):=by
 refine aE.dO jO rfl λT hT=>?_;refine Hv (by clear hn h2 hT;induction ls using nU with|nil=>exact absurd rfl h0|cons l ND=>exact(Tf l ND rfl):∃x S7,ls=x::S7) λx0 S7 z0=>?_;subst z0;have c0:((x0.length:Int) !=1)=true:=by rw[h2 x0 (.head _)];rfl
 refine Mg bS (fun ds V=>ds=(x0::S7).map dX/\V=([("results",.fz (.list ((x0::S7).map dX))),("one",.un)]:VS)) ⟨rfl,rfl⟩ ?_ ?_
 .intro d ds V K z z z k4 z1;refine xA z1 λe z2=>clear% z1;?_;rw[z2]
  cases e;exact cT c0 (k4 _ _ hT)
 .intro V z3;refine xA z3 λe z=>clear% z3;?_
  cases e
theorem nu (vs gs:List qy)(n:Nat)(hg:gs≠[])(hl:vs.length+gs.length<=1000)(hn:∀c∈vs++gs,c.2.1.length=n):aE 836 1 [.list (vs.map cD),.list (gs.map cD)] (λr=>r=.none):=by
 refine aE.dO lV rfl λT hT=>?_;have aW:cap=1048576:=rfl;refine Hv (by clear hl hn hT aW;induction gs using nU with|nil=>exact absurd rfl hg|cons l ND=>exact(Tf l ND rfl):∃x S7,gs=x::S7) λg0 gs' e0=>?_;have Sb:(gs.map cD)[0]? =some (cD g0):=by rw[e0];rfl
 have hgn:g0.2.1.length=n:=hn g0 (by rw[e0];exact lz _ (.head _));refine f5 Sb ⟨by simp only[bw,bw];omega,?_⟩;rw[hgn];refine GK (l:=vs++gs) (g:=cD) (f:=cD) (by rw[dN];exact bS) (fun z s=>[("values",.fz (.list (vs.map cD))),("groups",.fz (.list (gs.map cD))),("rows",.fz (nD n)),("column",s)]) .un rfl (fun done x aF s e K k1 z z z=>?_) fun s=>hT;refine cF (by rw[hn x (AW e)];exact bne_self_eq_false _) (k1 _)
theorem wj (vs gs:List qy)(n:Nat)(hg:gs≠[])(hl:vs.length+gs.length<=1000)(hn:∀g0∈gs.head?,g0.2.1.length=n)(hb:∃c∈vs++gs,c.2.1.length≠n):ZK 836 3 [.list (vs.map cD),.list (gs.map cD)] "arguments must have same length":=by
 refine ZK.of lV rfl λfr A aJ hf hw room iG NU sk=>?_;have aW:cap=1048576:=rfl;refine Hv (by clear hl hn hb hf hw room iG NU sk aW;induction gs using nU with|nil=>exact absurd rfl hg|cons l ND=>exact(Tf l ND rfl):∃x S7,gs=x::S7) λg0 gs' e0=>?_;have Sb:(gs.map cD)[0]? =some (cD g0):=by rw[e0];rfl
 obtain rfl:g0.2.1.length=n:=hn g0 (aT _ e0);have F:Fr ⟨2,nv,SI ny.scope⟩ fr A:=⟨hf,room,lg iG⟩;refine stX (MH:=([("values",.fz (.list (vs.map cD))),("groups",.fz (.list (gs.map cD))),("rows",.fz (nD g0.2.1.length)),("column",.un)]:VS)) F hw (?_) ?_
 .exact f5 Sb ⟨rfl,rfl⟩
 refine(cL (ahm hw sk (DT.mono (S8 F (Q:=fun d V=>d=.list (vs.map cD++gs.map cD)/\V=([("values",.fz (.list (vs.map cD))),("groups",.fz (.list (gs.map cD))),("rows",.fz (nD g0.2.1.length)),("column",.un)]:VS)) ⟨by simp only[bw,bw];omega,rfl,rfl⟩) ?_)));rintro d V ⟨rfl,rfl⟩;rw[<-dN];refine⟨_,Ea room.handled _,KS.ind (fun aF V=>∃(fm:List qy) (s:Sl),aF=fm.map cD/\(∃c∈fm,c.2.1.length≠g0.2.1.length)/\V=([("values",.fz (.list (vs.map cD))),("groups",.fz (.list (gs.map cD))),("rows",.fz (nD g0.2.1.length)),("column",s)]:VS)) ?_ ?_ _ _ (eB (vs++gs) .un rfl hb rfl)⟩
 .intro d aF V z0;refine dm z0 λfm s e z1 z2=>clear% z0;aq z1 λc hc Tq=>clear% z1;?_;rw[z2]
  induction fm using nU with
  |nil=>cases e
  |cons x fm=>
  cases e;refine⟨_,fi rfl,?_⟩;by_cases hx:x.2.1.length=g0.2.1.length
  .refine bD 90 _ fr A _ (.ks _ 0 _) _ F (cF (by rw[hx];exact bne_self_eq_false _) ?_) hw
   refine⟨fm,.fz (cD x),rfl,?_,rfl⟩;rcases bW.mp hc with rfl|hc
   .exact absurd hx Tq
   .exact⟨c,hc,Tq⟩
  .have hx':(((x.2.1.length:Nat):Int) !=((g0.2.1.length:Nat):Int))=true:=by simp;exact Nat.ToInt.of_diseq rfl rfl hx
   refine cL (acB (DT.mono (bD 90 _ fr A _ (.kb _ λb z=>b=true) _ F hx') ?_));rintro b V rfl;exact⟨λz=>cL (Pb hf hw sk room (br _) (bx rfl) NU),nofun⟩
 .intro V z3;refine dm z3 λfm s e z4 z5=>clear% z3;aq z4 λc hc Tq=>clear% z4;?_;rw[z5]
  induction fm using nU with
  |nil=>cases hc
  |cons _ _=>cases e
theorem Dg (vs gs:List qy)(n:Nat)(hg:gs≠[])(hl:vs.length+gs.length<=1000)(hn:∀g0∈gs.head?,g0.2.1.length=n)(hb:∃c∈vs++gs,c.2.1.length≠n)(d1 d2 d3:D):ZK 841 4 [.list (vs.map cD),d1,.list (gs.map cD),d2,d3] "arguments must have same length":=by
 refine ZK.of iJ rfl λfr A aJ hf hw room iG NU sk=>Hv (by clear hl hn hb hf hw room iG NU sk;induction gs using nU with|nil=>exact absurd rfl hg|cons l ND=>exact(Tf l ND rfl):∃x S7,gs=x::S7) λg0 gs' e0=>?_;have c0:(((gs.map cD).length:Int)==0)=false:=by rw[e0];rfl
 have F:Fr ⟨3,jg,SI jh.scope⟩ fr A:=⟨hf,room,lg iG⟩;refine stX (MH:=V0 _ _ _) F hw ((cF c0 ⟨rfl,rfl⟩)) ((cL (Zv (Pe hf (bx rfl) (DT.mono (bD 90 _ fr A _ (.kl _ λds z=>ds=[.list (vs.map cD),.list (gs.map cD)]) _ F ?_ _) ?_)))))
 .exact rfl
 rintro ds V rfl;exact(wj vs gs n hg hl hn hb).run hf hw room (br _) sk
theorem yd (rows:Tq6)(h0:rows≠[])(hn:rows.length<=100):aE 764 4 [.list (rows.map .list)] (fun r=>r=.vec "list" (.list (rows.map fun l=> .vec "character" (.list l) .none)) .none):=by
 refine aE.dO ux rfl λT hT=>?_;have aW:cap=1048576:=rfl;have c0:(((rows.map D.list).length:Int)==0)=false:=by
  clear hn hT aW;induction rows using nU with
  |nil=>exact absurd rfl h0
  |cons l ls=>rfl
 refine pL (xs:=rows) (G:=.list) (H:=.list) (λz=>true) bS (aB (jk _ _) (by omega)) (λl z=>⟨rfl,rfl⟩) (λl z z=>fO rfl) ?_;rw[adT.mpr λz z=>rfl];refine cF c0 (GK (l:=rows) (g:=.list) (f:=fun l=> .vec "character" (.list l) .none) bS (fun l s=>[("rows",.fz (.list (rows.map .list))),("items",.ow (.list l)),("names",s)]) .un rfl (fun done l aF s e K k1 z z z=>?_) fun s=>hT);intro v;exact ai (i0 l) (G0 (by rw[bw];have:=AX e;omega) (k1 _))
noncomputable abbrev XK (rows:Tq6):D:=.vec "list" (.list (rows.map fun l=> .vec "character" (.list l) .none)) .none
noncomputable abbrev MC (ext:ak)(rows:Tq6):uX:=[("dim",.vec "integer" (.list ext) .none),("dimnames",XK rows)]
theorem IM (ks:aa)(items:D)(ext:ak)(rows:Tq6)(h0:rows≠[])(hn:rows.length<=100):aE 771 6 [.str ks,items,.list ext,.list (rows.map .list)] (λr=>r=.vec ks items (.dict (MC ext rows))):=by
 refine aE.of Cy rfl λfr A hf hw room iG=>?_;have aW:cap=1048576:=rfl;have F:Fr ⟨5,tF,SI tG.scope⟩ fr A:=⟨hf,room,lg iG⟩;refine stX (MH:=([("kind",.fz (.str ks)),("items",.fz items),("extents",.fz (.list ext)),("names",.fz (.list (rows.map .list))),("made",.ow (.vec ks items .none)),("dimnames",.un)]:VS)) F hw (⟨rfl,rfl⟩) (?_);intro F0 Vc own rest rv;refine KP hf rv (O7 ?_);refine KU (S8 F (ai (Ed ext) ?_));refine O8 (iA (j7.mpr ⟨JZ,Ka⟩) (ua _ _ _ (eB _ _ rfl (cj rfl) (λF1 c5 aC a d b kt iv es ep cM bQ ri re ha hd hb=>?_))));refine bq (DT.go (bD 90 _ fr A _ (.kx _ fun fl V'=>fl=DF.next/\V'=([("kind",.fz (.str ks)),("items",.fz items),("extents",.fz (.list ext)),("names",.fz (.list (rows.map .list))),("made",.at (.ref a)),("dimnames",.fz (XK rows))]:VS)) _ F ?_ hw) bQ ?_)
 .exact ai (yd rows h0 hn) ⟨rfl,rfl⟩
 rintro v F2 jX bE fl V2 ff fM r2 ⟨rfl,rfl⟩;cases r2;refine bq (ag9 (DT.go (bD 90 _ fr A _ (.kb _ fun bb V'=>bb=true/\V'=([("kind",.fz (.str ks)),("items",.fz items),("extents",.fz (.list ext)),("names",.fz (.list (rows.map .list))),("made",.at (.ref a)),("dimnames",.fz (XK rows))]:VS)) _ F ?_) ff ?_))
 .exact⟨rfl,rfl⟩
 rintro v F3 nH cY bb V3 lH iP r3 ⟨rfl,rfl⟩;rw[r3];refine aq (lH.En (show(("dimnames":aa),Sl.fz (XK rows))∈_ from .tail _ (.tail _ (.tail _ (.tail _ (.tail _ (.head _))))))) fun dv hdv rdv=>?_;have ac3:=lH.Od (show(("made":aa),Sl.at (.ref a))∈_ from .tail _ (.tail _ (.tail _ (.tail _ (.head _)))));refine bq (xm (dF hf hdv (MO (dF hf ac3 (O4 hf.cx (k:=.str ks kt) (i:=iv) (t:=.ref b) ⟨d,.inr ⟨by exact AW rfl,by simp⟩⟩ rfl (KG λtk=>?_))) (by with_unfolding_all rfl))) (by with_unfolding_all rfl));have hes:es.length<=sizeLine:=by rw[re.len];exact aB (by show 1<=cap;exact fu rfl) c9
 refine BL (own':=fun mQ=>cY++([(a,.inst d),(d,.dJ (.str ks kt) iv (.ref b)),(b,.dict (stored es ("dimnames":aa) dv) mQ)]++rest)) (fun mQ=>wA.app (.there (.there .here)) cY) (fun mQ=>?_) hes;refine gM ?_;have e0:jG [((("dim":aa)),D.vec "integer" (.list ext) .none)] ("dimnames":aa) (XK rows)=MC ext rows:=by kernel_rfl
 have reP:=((re.mono fM).mono iP).put (k:=("dimnames":aa)) rdv;rw[e0] at reP;refine T.perm (own':=(b,.dict (stored es ("dimnames":aa) dv) mQ)::(cY++([(a,.inst d),(d,.dJ (.str ks kt) iv (.ref b))]++rest))) ?_ ?_
 .have e1:([(a,Cell.inst d),(d,.dJ (.str ks kt) iv (.ref b)),(b,.dict (stored es ("dimnames":aa) dv) mQ)]++rest)=([(a,Cell.inst d),(d,.dJ (.str ks kt) iv (.ref b))]++(b,.dict (stored es ("dimnames":aa) dv) mQ)::rest):=rfl
  rw[e1,<-eN,<-eN];exact nS.symm
 refine i8 .here hb λF4 LI e4=>?_;refine p9 (cs:=[(a,.inst d),(d,.dJ (.str ks kt) iv (.ref b))]) (.vec (((ri.mono fM).mono iP).mono LI) (.dict e4 (reP.mono LI))) (λp hp=>by
  cases hp with
  |head=>exact ha
  |tail z q=>cases q with
   |head=>exact hd
   |tail z q=>exact aR q) (λF5 LH r5=>?_) jI;have Nk:=RV.akN (x:="made") (v:=.ref a) (cj rfl) r5 ((lH.mono LI).mono LH);refine T.lift ((((cM.trans fM).trans iP).trans LI).trans LH) ((wpS F hw ?_:DT fr A _ RF _ _ _) F5 nH cY rest Nk);rfl
noncomputable def oD:gF->D
 |none=> .none
 |some k=>nD k
theorem Nv (k:Nat):oD (some k)=.int (k:Nat):=rfl
noncomputable def GD (cu cv:d8)(R q p:Nat):Bool:=
 match cu.getD p none,cv.getD p none with
 |some i,some j=>j*R+i==q
 |_,_=>false
noncomputable def SE (cu cv:d8)(R k q:Nat):Nat:=((List.range k).filter (GD cu cv R q)).length
noncomputable def jf (cu cv:d8)(R C k:Nat):ak:=(List.range (R*C)).map λq=>nD (SE cu cv R k q)
theorem JQ (cu cv:d8)(R C k:Nat):(jf cu cv R C k).length=R*C:=by simp[jf]
theorem Ey (cu cv:d8)(R k q:Nat):SE cu cv R (k+1) q=SE cu cv R k q+(if GD cu cv R q k then 1 else 0):=by unfold SE;simp only[Yo,EN,fK];refine aT _ ?_;simp only[EJ,Ke];split<;>rfl
theorem N7 (cu cv:d8)(R C k:Nat)(h:∀q,GD cu cv R q k=false):jf cu cv R C (k+1)=jf cu cv R C k:=by unfold jf;apply dZ;intro q z;rw[Ey,h q];rfl
theorem Xo (cu cv:d8)(R C k i j:Nat)(h1:cu.getD k none=some i)(h2:cv.getD k none=some j):(jf cu cv R C k).set (j*R+i) (nD (SE cu cv R k (j*R+i)+1))=jf cu cv R C (k+1):=by
 apply OI
 .simp[jf]
 .intro m hm1 LY
  rw[List.getElem_set];have hm:m<R*C:=by simpa[jf] using LY
  simp only[jf,yq,Kq];rw[Ey];have e:GD cu cv R m k=(j*R+i==m):=by unfold GD;rw[h1,h2]
  rw[e];clear h1 h2 hm1 LY hm e;by_cases q:j*R+i=m
  .rw[q]
   simp
  .rw[aG q]
   simp[q]
theorem abF {l:d8}{k:Nat}(h:k<l.length):(l.map oD)[((k:Nat):Int).toNat]? =some (oD (l.getD k none)):=by simp[h,dS]
theorem Xp (cu cv:d8)(R C k q:Nat)(h:q<R*C):(jf cu cv R C k)[((q:Nat):Int).toNat]? =some (nD (SE cu cv R k q)):=by simp[jf,h]
theorem C8 (u v:qy)(n m:Nat)(hm:9<=m)(hn:n<=1000)(hu:u.2.1.length=n)(hv:v.2.1.length=n)(ru ic:ak)(cu cv:d8)(hru:ru.length<=100)(hrv:ic.length<=100)(hcu:cu.length=n)(hcv:cv.length=n)
  (hlu:aE 853 m [cD u] (λr=>r=.tup [.list ru,.list (cu.map oD)]))(Ti:aE 853 m [cD v] (λr=>r=.tup [.list ic,.list (cv.map oD)]))
  (hiu:∀p i,cu.getD p none=some i->i<ru.length)(hiv:∀p i,cv.getD p none=some i->i<ic.length):
  aE 860 (m+1) [cD u,cD v] (fun r=>r=.vec "integer" (.list (jf cu cv ru.length ic.length n)) (.dict (MC [nD ru.length,nD ic.length] [ru,ic]))):=by
 refine aE.dO ye rfl λT hT=>?_;have aW:cap=1048576:=rfl;obtain⟨uk,ul,ut⟩:=u;obtain⟨vk,vl,vt⟩:=v;simp only at hu hv;have jr:(((ul.length:Nat):Int) !=((vl.length:Nat):Int))=false:=by rw[hu,hv];exact bne_self_eq_false _
 have hRC:ru.length*ic.length<=10000:=OB hru hrv;generalize hR:ru.length=R at hRC hiu hT ⊢;generalize hC:ic.length=C at hRC hiv hT ⊢;refine cF jr (gV λfr A E F hw=>qx F.room.handled hw (S8 F ?_));refine ai hlu ?_ (br _);refine(cZ _ _ _ _ rfl (fi rfl) (fi rfl) ?_);refine gV λfr A E F hw=>qx F.room.handled hw (S8 F ?_);refine ai Ti ?_ (br _);refine(cZ _ _ _ _ rfl (fi rfl) (fi rfl) ?_);refine gB λz z z z=>FD ?_ (ON (Oq (Rat.intCast_lt_intCast.mp rfl) (by omega)));rw[hR,hC,<-Int.natCast_mul];refine⟨⟨by omega,by omega⟩,?_⟩;have e1:List.replicate ((R*C:Nat):Int).toNat (D.int 0)=jf cu cv R C 0:=by rw[Dj,ad4.mpr ⟨JQ _ _ _ _ _,λb hb=>?_⟩];refine aq (bN.mp hb) λk z z0=>?_;clear hm hn hru hrv hcu hcv aW hu hlu hv Ti jr hR hiu hC hRC hiv hT F hw hb;subst z0;rfl
 rw[e1];refine Mf (n:=n) (g:=nD) (by rw[bw,hcu];exact iW (by omega)) (fun k s=>[("u",.fz (.vec uk (.list ul) ut)),("v",.fz (.vec vk (.list vl) vt)),("rows",.fz (.list ru)),("first",.fz (.list (cu.map oD))),("columns",.fz (.list ic)),("second",.fz (.list (cv.map oD))),("counts",.ow (.list (jf cu cv R C k))),("place",s)]) (fun z=>True) .un rfl trivial (fun k s hk z K k1 z z z=>?_) fun s z=>?_
 .have g1:=abF (l:=cu) (k:=k) (eW hk (fh (fH hcu)))
  have g2:=abF (l:=cv) (k:=k) (eW hk (fh (fH hcv)));refine f5 g1 ?_;rcases h1:cu.getD k none with _|i
  .have q:=k1 (.fz (nD k)) trivial
   rw[N7 _ _ _ _ _ (λq=>by unfold GD;rw[h1])] at q;exact q
  .refine f5 g2 ?_
   rcases h2:cv.getD k none with _|j
   .have q:=k1 (.fz (nD k)) trivial
    rw[N7 _ _ _ _ _ (λq=>by unfold GD;rw[h1,h2])] at q;exact q
   .have hi:=hiu k i h1
    have hj:=hiv k j h2;have hq:j*R+i<R*C:=by
     calc j*R+i<j*R+R:=adQ hi _
      _=(j+1)*R:=by rw[Ot]
      _<=C*R:=adU _ hj
      _=R*C:=EF _ _
    refine gV λfr A E F hw=>S3 F.f (cj rfl) (.inl rfl) (by rw[JQ];omega) (λv=>S8 F ?_);refine f5 g2 ?_;rw[h2,Nv];refine gB λz z z z=>FD ?_ (ON (Oq (Rat.intCast_lt_intCast.mp rfl) (by omega)));refine f5 g1 ?_;rw[h1,Nv];refine⟨_,_,_,cj rfl,aT D.int (show((j:Int)*(ru.length:Int)+(i:Int))=((j*R+i:Nat):Int) by rw[hR,Int.natCast_add,Int.natCast_mul]),Dl _,Xp cu cv R C k _ hq,S8 F (Nt ⟨_,cj rfl,?_⟩)⟩;have q:=k1 (.fz (nD k)) trivial;rw[<-Xo cu cv R C k i j h1 h2] at q;exact q
 clear hn hru hrv hcu hcv aW hu hlu hv Ti jr hiu hRC hiv F hw e1;subst hR hC;exact ai (IM "integer" (.list (jf cu cv ru.length ic.length n)) [nD ru.length,nD ic.length] [ru,ic] nofun (by show 2<=100;decide)) hT (ad1 hm)
theorem oi {X:Type}{P:List X->Prop}(h0:P [])(h1:∀l p,P l->P (l++[p]))(l:List X):P l:=by
 have key:∀l:List X,P l.reverse:=λl=>by
  induction l with
  |nil=>exact h0
  |cons a l ih=>rw[Yx];exact h1 _ _ ih
 have:=key l.reverse
 rwa [List.reverse_reverse] at this
noncomputable def zq (keys:ay)(kept:bF):uP:=kept.foldl (fun l p=>tM l (keys.getD p "") (nD p)) []
noncomputable def gZ (keys:ay)(kept:bF)(s:aa):bF:=kept.filter fun p=>keys.getD p ""==s
theorem zp (keys:ay)(kept:bF)(p:Nat):zq keys (kept++[p])=tM (zq keys kept) (keys.getD p "") (nD p):=by simp[zq,Yv]
theorem W8 (keys:ay)(kept:bF)(p:Nat)(s:aa):gZ keys (kept++[p]) s=if keys.getD p ""=s then gZ keys kept s++[p] else gZ keys kept s:=by
 unfold gZ;rw[EN];by_cases h:keys.getD p ""=s
 .rw[bg h,EJ,bg (by rw[h];exact beq_self_eq_true s)];rfl
 .rw[aG h,EJ,aG (by rw[eH];exact h)];exact pP ..
theorem Nf (keys:ay)(s:aa)(kept:bF):d9 (zq keys kept) s=if gZ keys kept s=[] then none else some ((gZ keys kept s).map nD):=by
 refine oi (P:=λkept=>d9 (zq keys kept) s=if gZ keys kept s=[] then none else some ((gZ keys kept s).map nD)) rfl (λl p ih=>?_) kept
 .rw[zp,aaP,W8]
  by_cases h:keys.getD p ""=s
  .rw[bg h,bg h,h,ih]
   simp only[List.append_eq_nil_iff,List.cons_ne_self,and_false,if_false,dN,fJ,ad8];by_cases h2:gZ keys l s=[]
   .rw[bg h2,h2];rfl
   .rw[aG h2];rfl
  .rw[aG h,aG h,ih]
theorem TY (keys:ay)(kept:bF):(zq keys kept).length<=kept.length:=by
 refine oi (P:=λkept=>(zq keys kept).length<=kept.length) (jU _) (λl p ih=>?_) kept
 .rw[zp]
  have:=Wb (zq keys l) (keys.getD p "") (nD p);simp only[fK,J3];omega
noncomputable def AJ (keys:ay)(kept:bF)(p:Nat):Bool:=decide ((gZ keys kept (keys.getD p "")).headD 0=p)
noncomputable def k8 (keys:ay)(kept:bF):bF:=kept.filter (AJ keys kept)
noncomputable def gI (gs:List qy)(n:Nat):bF:=(List.range n).filter λk=> !gf gs k
theorem ald {s t u:Sl}{V V' W':VS}(c:Cv y s t V V')(p:Pv x u V' W'):∃W,Pv x u V W/\(W=W'\/Cv y s t W W'):=by
 induction c generalizing W' with
 |here=>cases p with
  |here=>exact⟨_,.here,.inl rfl⟩
  |there p=>exact⟨_,.there p,.inr .here⟩
 |there c ih=>cases p with
  |here=>exact⟨_,.here,.inr (.there c)⟩
  |there p=>refine aq (ih p) λW q r=>?_;exact⟨_,.there q,r.imp (aT _) .there⟩
theorem Fr.ceI {c:WC}(F:Fr c fr A){ys:ay}(h:(ys.all λy=>c.ce.contains y)=true):∀y∈ys,Ce fr y:=λy hy=>F.ce y (List.contains_iff_mem.mp (j8.mp h y hy))
theorem Fr.chk (_:Fr c fr A){sc:eO}{x:aa}{W:VS}{gl':dU}(hg:Sj glob ys=some gl')(h:SH c.ce sc [x] (W.map (·.1)) gl'=true):jZ fr.w.params sc [x] (W.map (·.1)) gl':=(Bg (AK hg) rfl h).1
theorem aox {V:VS}(hl:look y V=some (.ow e))(h:AO c x b o src Q (jH y (.fz e) V)):AO c x b o src Q V:=by
 unfold AO at h ⊢;intro fr A E F hw;refine aq (h fr A E F hw) λds h1 h2=>⟨ds,h1,?_⟩;clear h F hw h1;induction ds using nU with
 |nil=>exact KV y (rN hl) h2
 |cons d ds=>exact aq h2 λV2 p h2=>aq (ald (rN hl) p) λW q r=>⟨W,q,r.elim (λe=>e▸h2) λc=>KV y c h2⟩
theorem vK (gs:List qy)(g:D->ak)(n:Nat)(Sb:gs≠[])(jR:gs.length<=100)(hn:n<=1000)(hc:∀c∈gs,(c.1==("double":aa))=false/\(c.1==("NULL":aa))=false/\eU c.1=true/\Tt c.2.2 c.2.2/\c.2.1.length=n)
  (hg:∀c∈gs,aE 776 6 [cD c] (λr=>r=.list (g (cD c))))(hk:∀c∈gs,BV n (g (cD c)))(keys:ay)(iY:keys=(List.range n).map (cy (gs.map λc=>g (cD c))))(kept firsts:bF)(ud:kept=gI gs n)(jt:firsts=k8 keys kept)
  (heads:uP)(mO:heads=gs.reverse.map λc=>(c.1,firsts.map (gD c.2.1)))(Sg:∀c∈gs,∀i∈firsts,∀j∈firsts,nK (gD c.2.1 i) (gD c.2.1 j))(iX:∀k∈dW heads firsts.length,k<firsts.length)(hol:(dW heads firsts.length).length<=1000):
  aE 822 8 [.list (gs.map cD)] (fun r=>r=.list ((dW heads firsts.length).map fun j=> .list ((gZ keys kept (keys.getD (firsts.getD j 0) "")).map nD))):=by
 refine aE.dO sd rfl λT hT=>?_;have aW:cap=1048576:=rfl;have NW:kept.Sublist (List.range n):=by rw[ud];exact yr
 have l8:∀k∈kept,k<n:=λk h=>dh.mp (NW.subset h);have uV:kept.length<=n:=aB NW.length_le (fh iU);have Jm:firsts.Sublist kept:=by rw[jt];exact yr
 have HD:firsts.length<=n:=aB Jm.length_le uV;have AH:keys.length=n:=by rw[iY,bw,iU]
 refine Hv (by clear jR hn hc hg hk iY ud jt mO Sg iX hol hT aW NW l8 uV Jm HD AH;induction gs using nU with|nil=>exact absurd rfl Sb|cons c gs'=>exact(Tf c gs' rfl):∃c gs',gs=c::gs') λc0 gs' eg=>?_;have akq:(gs.map cD)[0]? =some (cD c0):=by rw[eg];rfl
 have hgi:c0.2.1.length=n:=(hc c0 (by rw[eg];exact .head _)).2.2.2.2;have ags:∀p∈kept,p∈gZ keys kept (keys.getD p ""):=fun p hp=>ji.mpr ⟨hp,beq_self_eq_true _⟩;have agi:∀p∈kept,d9 (zq keys kept) (keys.getD p "")=some ((gZ keys kept (keys.getD p "")).map nD):=fun p hp=>by rw[Nf,aG];intro q;have:=ags p hp;rw[q] at this;exact aR this
 refine f5 akq (pL (xs:=List.range n) (G:=nD) (H:=nD) (λk=> !gf gs k) (by rw[<-hgi];exact iW (aB (fh hgi) (aB hn (by decide)))) (aB (jk _ _) (by rw[iU];omega)) (λk iR=>ai (CW gs n k (dh.mp iR) (λc h=>⟨(hc c h).1,(hc c h).2.2.2.2⟩)) ⟨rfl,rfl⟩) (λk iR z=>fO rfl) ?_);rw[show(List.range n).filter (λk=> !gf gs k)=kept from ud.symm];have q:=zG (gs.map cD) g n hn (by simpa using jR) (λc nh=>by
  refine aq (bN.mp nh) λc' L8 z0=>?_;subst z0;exact hg c' L8) (λc nh=>by
  refine aq (bN.mp nh) λc' L8 z1=>?_;subst z1;exact hk c' L8);rw[show((List.range n).map λk=>D.str (cy ((gs.map cD).map g) k))=keys.map .str by rw[iY,eL,eL];rfl,<-hgi] at q;refine ai q (GJ (l:=kept) (g:=nD) bS (fun done s=>[("groups",.fz (.list (gs.map cD))),("rows",.fz (nD c0.2.1.length)),("kept",.fz (.list (kept.map nD))),("keys",.fz (.list (keys.map .str))),("table",.ow (.cK (zq keys done))),("place",s),("firsts",.un),("heads",.un)]) (fun z z=>True) .un rfl trivial (fun done p aF s ed z K k1 z z z=>?_) fun s z=>?_)
 .have WQ:p<keys.length:=by rw[AH];exact l8 p (AW ed)
  have vH:=TY keys done;have ZF:=AX ed;refine gV λfr A E F=>Zr F.f (cj rfl) (aB (aB vH (gP (br _))) (aB (aB ZF uV) (aB hn (by decide)))) (λv=>S8 F ?_);refine f5 (Sm WQ) ⟨_,rfl,S8 F ⟨_,cj rfl,λds hds=>?_,?_⟩⟩
  .rw[Nf] at hds
   split at hds
   .exact aA hds
   .cases hds
    have h1:(gZ keys done (keys.getD p "")).length<=done.length:=jk _ _;rw[bw];omega
  .have q:=k1 (.fz (nD p)) trivial
   rw[zp] at q;exact q
 refine aox (y:="table") rfl (GJ (l:=kept) (g:=nD) bS (fun done s=>[("groups",.fz (.list (gs.map cD))),("rows",.fz (nD c0.2.1.length)),("kept",.fz (.list (kept.map nD))),("keys",.fz (.list (keys.map .str))),("table",.fz (.cK (zq keys kept))),("place",s),("firsts",.ow (.list ((done.filter (AJ keys kept)).map nD))),("heads",.un)]) (fun z z=>True) s rfl trivial (fun done p aF s ed z K k1 z z z=>?_) fun s z=>?_)
 .have hp:=AW ed
  have WQ:p<keys.length:=by rw[AH];exact l8 p hp
  have agt:((gZ keys kept (keys.getD p "")).map nD)[0]? =some (nD ((gZ keys kept (keys.getD p "")).headD 0)):=by
   have h1:=ags p hp;induction h2:gZ keys kept (keys.getD p "") using nU with
   |nil=>rw[h2] at h1;exact aR h1
   |cons a l=>rfl
  have ZF:=AX ed;have HD:=jk (AJ keys kept) done;have ehd:((((gZ keys kept (keys.getD p "")).headD 0:Nat):Int)==((p:Nat):Int))=AJ keys kept p:=by unfold AJ;rw[qM,i7,eH];exact Int.natCast_inj
  have q:=k1 (.fz (nD p)) trivial;rw[EN,EJ] at q;refine f5 (Sm WQ) (f5 (agi p hp) ?_);refine f5 agt (cS (λhb=>?_) λhb=>?_)
  .rw[ehd] at hb
   rw[bg hb,Ke,dN] at q;intro v;exact G0 (by rw[bw];exact aB (aB (br _) (Kg HD)) (aB (aB ZF uV) (aB hn (by decide)))) q
  .rw[ehd] at hb
   rw[aG (by rw[hb];exact sG),Ke,pP] at q;exact q
 rw[show kept.filter (AJ keys kept)=firsts from jt.symm];refine gV fun fr A E F hw=>KV "firsts" (rN rfl) (yC [("firsts",.fz (.list (firsts.map nD)))] [("sort_key",.ref 810),("pick_items",.ref 737)] F.f hw (bx rfl) F.room.handled ?_ (F.ceI rfl) (Ob (W:=[("firsts",.fz (.list (firsts.map nD)))]) rfl) (S8 F ?_))
 .exact F.chk (ys:=["sort_key","pick_items"]) rfl rfl
 refine⟨_,rfl,fun d=>(match d with| .vec k (.list l) t=>vD (k,firsts.map (gD l))|_=> .none),by rw[bw];omega,(jw (ys:=["firsts"]) rfl).2,fun aP hcf hf' d hdm=>?_,_,fi rfl,?_⟩
 .refine aq (bN.mp hdm) λc nh z2=>?_;subst z2
  have h:=hc c nh;refine DT.mono (bD 90 ⟨7,_,JR _ _ _⟩ aP A gO (.ke _ fun y V4=>y=vD (c.1,firsts.map (gD c.2.1))/\V4=([("group",.fz (cD c)),("firsts",.fz (.list (firsts.map nD)))]:VS)) _ ⟨hf',F.room,Bj hcf (.head _) hcf.cap⟩ ?_) ?_
  .refine ai (iz c firsts h.2.2.2.1 (λp hp=>by rw[h.2.2.2.2];exact l8 p (Jm.subset hp)) (aB HD hn)) ?_
   exact ai (zB _) ⟨rfl,rfl⟩
  .rintro y V4 ⟨rfl,rfl⟩
   exact⟨rfl,.fz .nil⟩
 have eh:((gs.map cD).reverse.map λd=>(match d with| .vec k (.list l) t=>vD (k,firsts.map (gD l))|_=> .none))=heads.map vD:=by rw[mO,<-List.map_reverse,eL,eL];rfl
 have hhl:heads.length=gs.length:=by rw[mO,bw,OP]
 rw[eh];have hmh:∀v∈heads,∃c∈gs,v=(c.1,firsts.map (gD c.2.1)):=λv hv=>by rw[mO] at hv;refine aq (bN.mp hv) λc nh z3=>?_;subst z3;exact⟨c,JY.mp nh,rfl⟩
 refine ai (zU heads firsts.length ⟨by exact le_of_eq_of_le hhl jR,λv hv=>?_,λv hv=>?_,λv hv i j hi hj=>?_⟩ (λq=>by rw[q] at hhl;clear jR hn hc hg hk iY ud jt mO Sg iX hol hT aW NW l8 uV Jm HD AH eg akq hgi ags agi q F hw eh hmh;induction gs using nU with|nil=>exact Sb rfl|cons a b=>cases hhl) (aB HD hn)) ?_
 .refine aq (hmh v hv) λc nh z4=>?_;subst z4
  have h:=hc c nh;exact⟨h.1,h.2.1,h.2.2.1⟩
 .refine aq (hmh v hv) λc nh z5=>?_;subst z5
  exact bw ..
 .refine aq (hmh v hv) λc nh z6=>?_;subst z6
  have hgm:∀k,k<firsts.length->∃a∈firsts,gD (firsts.map (gD c.2.1)) k=gD c.2.1 a:=λk hk=>by
   refine⟨firsts[k],jj hk,?_⟩;have hk2:k<(firsts.map (gD c.2.1)).length:=by rw[bw];exact hk
   rw[gD,dS,eE hk2,jV,yq]
  refine aq (hgm i hi) λa Tr e1=>aq (hgm j hj) λb ZH e2=>?_;rw[e1,e2];exact Sg c nh a Tr b ZH
 refine bL (xs:=dW heads firsts.length) (G:=nD) (H:=fun j=> .list ((gZ keys kept (keys.getD (firsts.getD j 0) "")).map nD)) bS (by omega) (fun k iR=>?_) hT;have iR:=iX k iR;have e:(firsts.map nD)[k]? =some (nD (firsts.getD k 0)):=Jw (by rw[dS,eE iR];rfl);have hfk:firsts.getD k 0∈kept:=by rw[dS,eE iR,jV];exact Jm.subset (jj iR)
 refine f5 e (f5 (Sm (by rw[AH];exact l8 _ hfk)) ?_);exact f5 (agi _ hfk) (fO rfl)
theorem G3 (f:av)(vs gs:List qy)(vn gn:ay)(n:Nat)(places:pT)(fnD:qy->D)(jD:qy->D)(hkf:∀P,wU P (.ref f)=true)(hn:n<=1000)
  (Sb:gs≠[])(hl:vs.length+gs.length<=100)(Tj:vn.length+gn.length<=100)(dg:∀c∈vs++gs,c.2.1.length=n)(B5:∀c∈vs++gs,Tt c.2.2 c.2.2)
  (vI:places≠[])(w5:places.length<=1000)(ZD:∀ps∈places,ps≠[]/\ps.length<=1000/\∀p∈ps,p<n)(Tn:aE 822 8 [.list (gs.map cD)] (λr=>r=.list (places.map λps=> .list (ps.map nD))))
  (hfn:∀c∈vs,∀ps∈places,aE f 5 [cD (fE c ps)] (λr=>r=fnD (fE c ps)))(hj:∀c∈vs,aE 829 5 [.list (places.map λps=>fnD (fE c ps))] (λr=>r=jD c))(hjv:∀c∈vs,∃k i t,jD c=.vec k i t):
  aE 841 9 [.list (vs.map cD),.list (vn.map .str),.list (gs.map cD),.list (gn.map .str),.const (.ref f)] (fun r=>r=.vec "list" (.list ((gs.map fun c=>cD (fE c (places.map fun ps=>ps.headD 0)))++vs.map jD)) (jd ((gn++vn).map .str) ((List.range places.length).map fun k=>nD (k+1)))):=by
 refine aE.dO iJ rfl λT hT=>?_;have aW:cap=1048576:=rfl;have c0:((((gs.map cD).length:Nat):Int)==0)=false:=by
  clear hkf hn hl Tj dg B5 vI w5 ZD Tn hfn hj hjv hT aW;induction gs using nU with
  |nil=>exact absurd rfl Sb
  |cons a b=>rfl
 have c1:((((places.map λps=>D.list (ps.map nD)).length:Nat):Int)==0)=false:=by
  clear hkf hn Sb hl Tj dg B5 w5 ZD Tn hfn hj hjv hT aW c0;induction places using nU with
  |nil=>exact absurd rfl vI
  |cons a b=>rfl
 refine cF c0 (ai (nu vs gs n Sb (by omega) dg) ?_);refine ai Tn (cF c1 ?_);refine GK (l:=gs) (g:=cD) (f:=fun c=>cD (fE c (places.map fun ps=>ps.headD 0))) bS (fun l s=>[("values",.fz (.list (vs.map cD))),("value_names",.fz (.list (vn.map .str))),("groups",.fz (.list (gs.map cD))),("group_names",.fz (.list (gn.map .str))),("fn",.fz (.const (.ref f))),("rows",.fz (.list (places.map fun ps=> .list (ps.map nD)))),("columns",.ow (.list l)),("group",s),("column",.un)]) .un rfl (fun done c aF s ed K k1 z z z=>?_) fun s=>?_
 .have nh:c∈vs++gs:=lz _ (AW ed)
  intro v;refine bL (xs:=places) (G:=λps=> .list (ps.map nD)) (H:=λps=>nD (ps.headD 0)) bS (by omega) (λps kI=>?_) ?_
  .induction ps using nU with
   |nil=>exact absurd rfl (ZD [] kI).1
   |cons p ps=>exact fO rfl
  have q:=iz c (places.map λps=>ps.headD 0) (B5 c nh) (λp hp=>by
   refine aq (bN.mp hp) λps kI z0=>?_;subst z0;rw[dg c nh];have h:=ZD ps kI;induction ps using nU with
   |nil=>exact absurd rfl h.1
   |cons p ps=>exact h.2.2 p (.head _)) (by rw[bw];omega);rw[eL] at q;exact ai q (G0 (by rw[bw];have:=AX ed;omega) (k1 _))
 refine GK (l:=vs) (g:=cD) (f:=jD) bS (fun l s2=>[("values",.fz (.list (vs.map cD))),("value_names",.fz (.list (vn.map .str))),("groups",.fz (.list (gs.map cD))),("group_names",.fz (.list (gn.map .str))),("fn",.fz (.const (.ref f))),("rows",.fz (.list (places.map fun ps=> .list (ps.map nD)))),("columns",.ow (.list ((gs.map fun c=>cD (fE c (places.map fun ps=>ps.headD 0)))++l))),("group",s),("column",s2)]) .un (by rw[pP]) (fun done c aF s2 ed K k1 z z z=>?_) fun s2=>?_
 .have hcv:c∈vs:=AW ed
  have nh:c∈vs++gs:=uJ _ hcv;intro v;refine bL (xs:=places) (G:=λps=> .list (ps.map nD)) (H:=λps=>fnD (fE c ps)) bS (by omega) (λps kI=>?_) ?_
  .have h:=ZD ps kI
   refine gV λfr A E F=>Pd F.f (bx rfl) (hkf _) (bD 90 _ fr A E (.kl _ _) _ F ?_ _);refine ai (iz c ps (B5 c nh) (by rw[dg c nh];exact h.2.2) h.2.1) ?_;exact(hfn c hcv ps kI).run F.f F.room (by decide) λd e=>fO e
  refine ai (hj c hcv) (G0 (by rw[fK,bw,bw];have:=AX ed;omega) ?_);rw[eN];exact k1 _
 refine⟨by simp only[bw,bw];omega,?_⟩;rw[<-dN];have el:(places.map λps=>D.list (ps.map nD)).length=places.length:=bw ..;have q:=tu _ (el▸w5);rw[<-el] at hT;refine ai q (ai (oY _ _ _ (by simp only[fK,bw];omega) (λx hx=>?_)) hT);rcases j6.mp hx with hx|hx
 .refine aq (bN.mp hx) λc z z1=>?_;subst z1
  exact(ua _ _ _ rfl)
 .refine aq (bN.mp hx) λc hc z2=>?_;subst z2
  exact hjv c hc
theorem Bp (vs gs:List qy)(n:Nat)(hg:gs≠[])(hl:vs.length+gs.length<=1000)(dg:∀c∈vs++gs,c.2.1.length=n)(Tn:aE 822 8 [.list (gs.map cD)] (fun r=>r=.list []))(d1 d2 d3:D):ZK 841 9 [.list (vs.map cD),d1,.list (gs.map cD),d2,d3] "no rows to aggregate":=by
 refine ZK.of iJ rfl λfr A aJ hf hw room iG NU sk=>Hv (by clear hl dg Tn hf hw room iG NU sk;induction gs using nU with|nil=>exact absurd rfl hg|cons l ND=>exact(Tf l ND rfl):∃x S7,gs=x::S7) λg0 gs' e0=>?_;have c0:(((gs.map cD).length:Int)==0)=false:=by rw[e0];rfl
 have F:Fr ⟨8,jg,SI jh.scope⟩ fr A:=⟨hf,room,lg iG⟩;refine stX (MH:=V0 _ _ _) F hw ((cF c0 ⟨rfl,rfl⟩)) ((stX (MH:=V0 _ _ _) F hw ((ai (nu vs gs n hg hl dg) ⟨rfl,rfl⟩)) ?_));refine(stX (MH:=jH "rows" (.fz (.list [])) (V0 _ _ _)) F hw ((ai Tn ⟨rfl,rfl⟩)) ?_);refine(cL (acB (DT.mono (bD 90 _ fr A _ (.kb _ λb z=>b=true) _ F rfl) ?_)));rintro b V rfl;exact⟨λz=>cL (Pb hf hw sk room (by decide) (bx rfl) NU),nofun⟩
theorem R0 (l:ak):FnO 290 3 [.list l] (fun r=>r=.vec "integer" (.list l) .none):=by
 refine FnO.of wY rfl (by with_unfolding_all exact rfl) λfr A hf hw room iG=>?_;have F:Fr ⟨2,AD,SI AE.scope⟩ fr A:=⟨hf,room,lg iG⟩;refine Hj hf (bx rfl) (DT.mono (bD 90 _ fr A _ (.kl _ fun ds z=>ds=[.str "integer",.list l]) _ F ?_ _) ?_)
 .exact rfl
 rintro ds V rfl;exact wN hf room (by decide) rfl
noncomputable def iu (Wi:bF)(k:Nat):ak:=((List.range k).map λp=>List.replicate (Wi.getD p 0) (nD (p+1))).flatten
theorem n8 (Wi:bF)(k:Nat):iu Wi (k+1)=iu Wi k++List.replicate (Wi.getD k 0) (nD (k+1)):=by simp[iu,Yo]
theorem Cg (ls:Tq6)(ns:ay)(bz:ak)(h0:ls≠[])(Th:ns.length=ls.length)(hl:ls.length<=50)(hll:∀l∈ls,l.length<=10):
  aE 848 6 [.vec "list" (.list (ls.map dX)) (jd (ns.map .str) bz)] (fun r=>r=.vec "list" (.list [dX ls.flatten,.vec "integer" (.list (iu (ls.map List.length) ls.length)) (pJ (ns.map .str))]) (jd [.str "values",.str "ind"] ((List.range (iu (ls.map List.length) ls.length).length).map fun k=>nD (k+1)))):=by
 refine aE.dO xC rfl λT hT=>?_;have aW:cap=1048576:=rfl;have aj2:∀k,k<=ls.length->(iu (ls.map List.length) k).length<=10*k:=λk=>by
  induction k with
  |zero=>intro z;exact br _
  |succ k ih=>
   intro hk;have h1:=ih (by omega);have h2:(ls.map List.length).getD k 0<=10:=by have iR:k<ls.length:=eW (qO (br _)) hk;simp only[dS,g9,eE iR,Option.map_some,jV];exact hll _ (jj iR)
   simp only[n8,fK,OT];omega
 refine ai (pM _ ns bz (aB (fh Th) (aB hl (by decide)))) (Mf (n:=ls.length) (g:=nD) (by rw[bw,Th];exact iW (by omega)) (fun k s1=>[("df",.fz (.vec "list" (.list (ls.map dX)) (jd (ns.map .str) bz))),("names",.fz (.list (ns.map .str))),("codes",.ow (.list (iu (ls.map List.length) k))),("place",s1),("ind",.un),("values",.un)]) (fun z=>True) .un rfl trivial (fun k s1 l8 z K k1 z z z=>?_) fun s1 z=>?_)
 .have jR:(ls.map dX)[k]? =some (dX (ls.getD k [])):=by simp[l8,dS]
  have Tj:(ls.getD k []).length=(ls.map List.length).getD k 0:=by simp[l8,dS]
  have hs':=aj2 (k+1) l8;simp only[n8,fK,OT] at hs';intro v;refine f5 jR (gB λz z z z=>Dp.fz (tE (Dl _) (by have:=hll (ls.getD k []);rw[Tj];omega) ?_));rw[Dj,Tj];refine G0 (by rw[OT];omega) ?_;have q:=k1 (.fz (nD k)) trivial;rw[n8] at q;exact q
 have xX:=aj2 ls.length (br _);generalize iu (ls.map List.length) ls.length=codes at xX hT ⊢;refine gV λfr A E F hw=>eK hw (Hj F.f (bx rfl) (bD 90 _ fr A E (.kl _ _) _ F ?_ _));refine(R0 codes).run F.f F.room (by decide) λd e=>?_;rw[e];refine⟨_,fi rfl,?_⟩;refine ai (i0 _) (ai (i0 _) ?_);refine ai (kG ls h0 (by omega) (by
  have key:∀m:Tq6,(∀l∈m,l.length<=10)->(m.map List.length).sum<=10*m.length:=λm=>by
   induction m with
   |nil=>intro z;exact br _
   |cons a m ih=>intro h;have h1:=ih λl hl=>h l (.tail _ hl);have h2:=h a (.head _);simp only[fJ,YG,wx];omega
  have:=key ls hll;omega)) ?_;refine ai (tu codes.length (aB xX (aB (Nat.mul_le_mul_left _ hl) (by decide)))) (ai (oY _ _ _ (by show 2<=_;decide) (λx hx=>?_)) hT);cases hx with
 |head=>exact(ua _ _ _ rfl)
 |tail z hx=>cases hx with
  |head=>exact(ua _ _ _ rfl)
  |tail z hx=>exact aR hx
noncomputable def gK (cs:cH)(i r s:Int):ak:=[.list (cs.map .int),.int i,.int r,.int s]
theorem akA (cs:cH)(i r s:Int):gK cs i r s=[.list (cs.map .int),.int i,.int r,.int s]:=rfl
structure BU (cs:cH) (m:Int) (d:D) (l:ak):Prop where
 got:∃k:Nat,d=nD k/\(k:Int)<m
 hand:∃i r s,l=gK cs i r s/\0<=i/\i<=cs.length
theorem BU.elim {cs:cH}{m:Int}{G:D->ak->Prop}(k:∀(k:Nat) (i r s:Int),(k:Int)<m->0<=i->i<=cs.length->G (nD k) (gK cs i r s))(d:D)(l:ak)(h:BU cs m d l):G d l:=
 aq h.got λk' e hk=>rI h.hand λi r s z=>nX z λe2 a b=>by rw[e,e2];exact k k' i r s hk a b
theorem Mh (a m:Int)(hm:0<m):∃k:Nat,a.fmod m=k/\(k:Int)<m:=by have h1:=Int.fmod_nonneg_of_pos a hm;have h2:=Int.fmod_lt_of_pos a hm;exact⟨(a.fmod m).toNat,by exact Int.eq_natCast_toNat.mpr h1,by omega (splitDisjunctions:=true)⟩
theorem Zz {v:ao}{a b c d:D}{n:Int}{K:Prop}(h:0<=n/\n<4)(k:K):Sl.at v=Sl.at v/\(0<=n/\n<(([a,b,c,d]:ak).length:Int)/\([a,b,c,d]:ak).length<=cap)/\K:=⟨rfl,⟨h.1,h.2,fu rfl⟩,k⟩
theorem tB {cs:cH}{T:D->ak->Prop}{m:Int}(hT:∀d l,BU cs m d l->T d l)(a:Int)(hm:0<m){i r s:Int}(h0:0<=i)(h1:i<=cs.length){V2:VS}:∃l' V3,((("hand":aa),Sl.ln (.list (gK cs i r s)))::V2:VS)=(("hand":aa),Sl.ln (.list l'))::V3/\T (.int (a.fmod m)) l':=
 let ⟨k,e,hk⟩:=Mh a m hm
 (r9 _ _ rfl (hT _ _ ⟨⟨k,aT D.int e,hk⟩,(gE _ _ _ rfl h0 h1)⟩))
theorem mG (cs:cH)(k7:cs.length<=1000)(i r s m:Int)(h0:0<=i)(h1:i<=cs.length)(hm:0<m)(LY:m<1000):Hp 867 3 (gK cs i r s) [.int m] (BU cs m):=by
 refine Hp.ofP Gd rfl (fu rfl) λT hT=>?_;have aW:cap=1048576:=rfl;refine cS (λhs=>?_) λhs=>?_
 .refine cS (λhi=>?_) λhi=>?_
  .refine gB λz z z z=>FD ?_ (ON (Oq (by simp_all) (by simp)))
   refine gB λz z z z=>mC ?_ (by decide);intro v;refine Zz (by decide) (gB λz z z z=>yL ?_ (by decide) (by decide));refine gB λz z z z=>mC ?_ (lq (By hm));exact tB hT _ hm h0 h1
  .have qG:i<cs.length:=by
    have:i≠(cs.length:Int):=by simpa using hi
    omega
   have hg:(cs.map D.int)[i.toNat]? =some (.int (cs.getD i.toNat 0)):=by
    have jQ:i.toNat<cs.length:=by simp_all
    simp[jQ,dS]
   refine ixZ h0 hg ?_;intro v;refine Zz (by decide) (cS (λhf=>?_) λhf=>?_)
   .intro v
    refine Zz (by decide) (gB λz z z z=>mC ?_ (lq (By hm)));refine gB λz z z z=>yL ?_ (lq (By hm)) (by grind);intro v;exact Zz (by decide) (tB hT _ hm (Int.le_add_one h0) (by trivial))
   .intro v
    refine Zz (by decide) (gB λz z z z=>mC ?_ (lq (By hm)));refine gB λz z z z=>yL ?_ (lq (By hm)) (by omega);intro v;exact Zz (by decide) (tB hT _ hm (Int.le_add_one h0) (by trivial))
 .refine gB λz z z z=>mC ?_ (lq (By hm))
  refine gB λz z z z=>yL ?_ (lq (By hm)) (by omega);intro v;exact Zz (by decide) (tB hT _ hm h0 h1)
inductive Gk where
 |int|chr|nZ|dR (lv:ay)
noncomputable def Gk.name:Gk->aa
 | .int=>"integer"
 | .chr=>"character"
 | .nZ=>"logical"
 | .dR _=>"integer"
noncomputable def Gk.size:Gk->Nat
 | .int=>5
 | .chr=>5
 | .nZ=>2
 | .dR lv=>lv.length
noncomputable def Gk.attrs:Gk->D
 | .dR lv=>pJ (lv.map .str)
 |_=> .none
noncomputable def aO:ay:=["u","v","w","x","y"]
noncomputable def aM (g:Gk):gF->D
 |none=> .none
 |some k=>match g with
  | .int=> .int ((k:Int)-1)
  | .chr=> .str (aO.getD k "")
  | .nZ=> .int (k:Int)
  | .dR _=> .int (1+(k:Int))
noncomputable def bX (g:Gk)(l:d8):qy:=(g.name,l.map (aM g),g.attrs)
noncomputable def lvs:List ay:=[["v","u","w"],["x","v"],["u"]]
def BW (g:Gk):Prop:=∀lv,g=.dR lv->lv∈lvs
def pS (g:Gk)(l:d8):Prop:=∀k,some k∈l->k<g.size
noncomputable def NN:Gk->aa
 | .int=>"integer"
 | .chr=>"character"
 | .nZ=>"logical"
 | .dR _=>"factor"
structure S6 (cs:cH) (n:Nat) (kn:aa) (d:D) (l:ak):Prop where
 got:∃g v,NN g=kn/\BW g/\v.length=n/\pS g v/\d=cD (bX g v)
 hand:∃i r s,l=gK cs i r s/\0<=i/\i<=cs.length
theorem S6.elim {cs:cH}{n:Nat}{kn:aa}{G:D->ak->Prop}(k:∀g v (i r s:Int),NN g=kn->BW g->v.length=n->pS g v->0<=i->i<=cs.length->G (cD (bX g v)) (gK cs i r s))(d:D)(l:ak)(h:S6 cs n kn d l):G d l:=
 Hv h.got λg v z=>jl z λe1 e2 e3 e4 e=>rI h.hand λi r s z=>nX z λe5 a b=>by rw[e,e5];exact k g v i r s e1 e2 e3 e4 a b
noncomputable def pk (m k:Nat):gF:=if k=5 then none else some (k % m)
theorem adb (k m:Nat):((k:Nat):Int).fmod ((m:Nat):Int)=((k % m:Nat):Int):=by induction k using O2<;>rfl
theorem RH:∀k:Nat,k<5->∃x,("uvwxy":aa).cps[((k:Nat):Int).toNat]? =some x/\(⟨#[x]⟩:aa)=aO.getD k ""
 |0,_=>⟨117,by kernel_rfl,by kernel_rfl⟩
 |1,_=>⟨118,by kernel_rfl,by kernel_rfl⟩
 |2,_=>⟨119,by kernel_rfl,by kernel_rfl⟩
 |3,_=>⟨120,by kernel_rfl,by kernel_rfl⟩
 |4,_=>⟨121,by kernel_rfl,by kernel_rfl⟩
 |_+5,h=>by omega
theorem ai6 {m:Nat}(hm:0<m){ks:bF}:∀x,some x∈ks.map (pk m)->x<m:=λx hx=>by
 refine aq (bN.mp hx) λk hk e=>?_;unfold pk at e;split at e
 .exact aA e
 .clear hx hk;cases e;exact Ol _ hm
theorem pkT {g:Gk}{m k:Nat}(h:(((k:Nat):Int)==5)=true):D.none=aM g (pk m k):=by
 have e:k=5:=by have:=eq_of_beq h;exact fH ((λ{m n}=>Int.ofNat_inj.mp) (id (fH this)))
 rw[e];rfl
theorem pkF {g:Gk}{m k:Nat}{d:D}(h:(((k:Nat):Int)==5)=false)(e:d=aM g (some (k % m))):d=aM g (pk m k):=by
 have:k≠5:=λq=>by subst q;cases h
 unfold pk;rw[aG this];exact e
theorem pk5 {k:Nat}(hk:k<6)(h:(((k:Nat):Int)==5)=false):k % 5=k:=Yp (by
 have:k≠5:=λq=>by subst q;cases h
 omega)
theorem yR {cs:cH}{n:Nat}{kn:aa}{T:D->ak->Prop}(hT:∀d l,S6 cs n kn d l->T d l){i r s:Int}{ks:bF}{V2:VS}(h0:0<=i)(h1:i<=cs.length)(uV:ks.length=n)(g:Gk)(hg:NN g=kn)(hm:0<g.size)(hgi:BW g):∃l' V3,((("hand":aa),Sl.ln (.list (gK cs i r s)))::V2:VS)=(("hand":aa),Sl.ln (.list l'))::V3/\T (.vec g.name (.list (ks.map fun k=>aM g (pk g.size k))) g.attrs) l':=
 (r9 _ _ rfl (hT _ _ ⟨(pG g (ks.map (pk g.size)) hg hgi (by rw[bw];exact uV) (iA (ai6 hm) (by unfold bX;rw[eL];rfl))),(gE _ _ _ rfl h0 h1)⟩))
theorem W9 {g:Gk}(h:∀lv,g≠.dR lv):BW g:=λlv e=>absurd e (h lv)
theorem afP:∀k:Nat,(k:Int)<3->∃lv,lv∈lvs/\(lvs.map λlv=>D.list (lv.map D.str))[((k:Nat):Int).toNat]? =some (.list (lv.map D.str))/\0<lv.length
 |0,_=>⟨_,.head _,rfl,by decide⟩
 |1,_=>⟨_,.tail _ (.head _),rfl,by decide⟩
 |2,_=>⟨_,.tail _ (.tail _ (.head _)),rfl,by decide⟩
 |k+3,h=>by trivial
theorem tQ (cs:cH)(k7:cs.length<=1000)(i r s:Int)(h0:0<=i)(h1:i<=cs.length)(n:Nat)(hn:n<=5)(kn:aa)(l8:kn="integer"\/kn="logical"\/kn="character"\/kn="factor"):Hp 872 5 (gK cs i r s) [.str kn,nD n] (S6 cs n kn):=by
 refine Hp.ofP Aj rfl (fu rfl) λT hT=>?_;have aW:cap=1048576:=rfl;refine Wh (y:="hand") [] ["_law_pick"] rfl rfl rfl (NI 90 .ln (fun aF rs dy=>∃(ks:bF) (i r s:Int),rs=ks.map nD/\(∀k∈ks,k<6)/\ks.length+aF.length=n/\dy=.list (gK cs i r s)/\0<=i/\i<=cs.length) (iW (by omega)) rfl (.inr rfl) rfl .nil (aL [] i r s rfl (fun z h=>aR h) (by simp) rfl h0 h1) ?_ ?_)
 .intro d aF rs dy z0;refine cU z0 λks i r s z1 hk6 uV z2 h0 h1=>clear% z0;?_;subst z1;rw[z2]
  simp only[wx] at uV;refine⟨by rw[bw];exact aB (YL (fh uV)) (aB (Om _ _) (aB hn (by decide))),λu=>⟨rfl,?_⟩⟩;refine GV (mG cs k7 i r s 6 h0 h1 (by decide) (by decide)) (BU.elim λk i' r' s' hk h0' h1'=>?_);refine⟨_,(aL (ks++[k]) i' r' s' (by rw[dN];rfl) (λx hx=>?_) (by rw[fK,J3];exact ED (fH (Yy _ _ _)) (ED (Ov _ _ _) uV)) rfl h0' h1'),rfl⟩;refine fU (j6.mp hx) (λhx=>?_) λhx=>?_
  .exact hk6 x hx
  .have:=ly.mp hx
   omega
 intro rs dy z3;refine cU z3 λks i r s z4 hk6 uV z5 h0 h1=>clear% z3;?_;subst z4;rw[z5];refine⟨by rw[bw];rw[YR] at uV;exact aB (YL (fh uV)) (aB (Nat.sub_le_sub_right hn _) (by decide)),rfl,?_⟩;rcases l8 with rfl|rfl|rfl|rfl
 .refine bL (xs:=ks) (G:=nD) (H:=λk=>aM .int (pk 5 k)) bS (aB (fh uV) (aB hn (by decide))) (λk hk=>?_) ?_
  .exact cS (λh=>fO (pkT h)) (λh=>fO (pkF h (by rw[pk5 (hk6 k hk) h];rfl)))
  exact yR hT h0 h1 uV .int rfl (by decide) (W9 λz e=>nomatch e)
 .refine bL (xs:=ks) (G:=nD) (H:=λk=>aM .nZ (pk 2 k)) bS (aB (fh uV) (aB hn (by decide))) (λk hk=>?_) ?_
  .refine cS (λh=>fO (pkT h)) (λh=>gB λz z z z=>mC (fO (pkF h ?_)) (by decide))
   exact aT D.int (adb k 2)
  exact yR hT h0 h1 uV .nZ rfl (by decide) (W9 λz e=>nomatch e)
 .refine bL (xs:=ks) (G:=nD) (H:=λk=>aM .chr (pk 5 k)) bS (aB (fh uV) (aB hn (by decide))) (λk hk=>?_) ?_
  .refine cS (λh=>fO (pkT h)) (λh=>?_)
   have h5:=pk5 (hk6 k hk) h;refine aq (RH k (by have:=Ol k (y:=5) (by decide);simp_all)) λx hx ex=>?_;refine gB λz z z z=>aap (Dl _) hx (by decide) (fO (pkF h ?_));rw[h5,ex];rfl
  exact yR hT h0 h1 uV .chr rfl (by decide) (W9 λz e=>nomatch e)
 .intro u
  refine⟨rfl,?_⟩;refine GV (mG cs k7 i r s 3 h0 h1 (by decide) (by decide)) (BU.elim λk i' r' s' hk h0' h1'=>?_);refine gb (afP k hk) λlv anT anU ake=>f5 anU (bL (xs:=ks) (G:=nD) (H:=λj=>aM (.dR lv) (pk lv.length j)) bS (aB (fh uV) (aB hn (by decide))) (λj hj=>?_) ?_)
  .refine cS (λh=>fO (pkT h)) (λh=>gB λz z z z=>mC (fO (pkF h ?_)) ?_)
   .simp only[bw,adb];rfl
   .rw[bw];exact Int.natCast_ne_zero_iff_pos.mpr ake
  exact yR hT h0' h1' uV (.dR lv) rfl ake (λlv' q=>by cases q;exact anT)
theorem mj {X:Type}{lt:X->X->Prop}(irr:∀a,¬lt a a)(als:∀a b,lt a b->¬lt b a):∀{l m:List X},l.Pairwise lt->m.Pairwise lt->(∀x,x∈l↔x∈m)->l=m
 |[],[],_,_,_=>rfl
 |[],b::m,_,_,h=>by have:=(h b).mpr (.head _);exact aR this
 |a::l,[],_,_,h=>by have:=(h a).mp (.head _);exact aR this
 |a::l,b::m,hl,hm,h=>by
  refine xA (J1.mp hl) λh1 h2=>xA (J1.mp hm) λh3 h4=>?_;have N2:a=b:=by
   refine fU (bW.mp ((h a).mp (.head _))) (λe=>?_) λha=>?_
   .exact e
   .rcases bW.mp ((h b).mpr (.head _)) with e|hb
    .exact e.symm
    .exact absurd (h1 b hb) (als _ _ (h3 a ha))
  clear hl hm;subst N2;refine aT (a:: ·) (mj irr als h2 h4 λx=>⟨λhx=>?_,λhx=>?_⟩)
  .refine fU (bW.mp ((h x).mp (.tail _ hx))) (λe=>?_) λh'=>?_
   .subst e;exact absurd (h1 _ hx) (irr _)
   .exact h'
  .refine fU (bW.mp ((h x).mpr (.tail _ hx))) (λe=>?_) λh'=>?_
   .subst e;exact absurd (h3 _ hx) (irr _)
   .exact h'
theorem yQ {K:Type}[DecidableEq K](ks:List K):∀x,x∈jT ks↔x∈ks:=by
 refine oi (P:=λks=>∀x,x∈jT ks↔x∈ks) (λx=>by rfl) (λl p ih x=>?_) ks;rw[lT];split
 .rename_i h
  rw[ih,j6,ly];refine⟨.inl,λh'=>h'.elim id λe=>?_⟩;simp only[e];exact(ih p).mp h
 .rw[j6,j6,ih]
theorem Er {K:Type}[DecidableEq K](ks:List K):(jT ks).Nodup:=by
 refine oi (P:=λks=>(jT ks).Nodup) (by simp[jT]) (λl p ih=>?_) ks;simp only[lT];split
 .exact ih
 .rename_i h
  refine G6.mpr ⟨ih,by simp,λa ha b hb e=>?_⟩;simp only[ly.mp hb] at e;exact h (e▸ha)
theorem ni (m:Nat)(p:Nat->Bool):((List.range m).filter p).Pairwise (·< ·):=List.Pairwise.filter _ OV
theorem PM {X:Type}[DecidableEq X](f:Nat->X)(m:Nat)(inj:∀i j,i<m->j<m->f i=f j->i=j)(zs:List X)(hn:zs.Nodup)(hm:∀x∈zs,∃k,k<m/\x=f k)(hs:zs.Pairwise λa b=>∀i j,i<m->j<m->a=f i->b=f j->i<=j):
  zs=((List.range m).filter λk=>decide (f k∈zs)).map f:=by
 have ZE:∃is:bF,zs=is.map f/\∀i∈is,i<m:=by
  clear hn hs;induction zs with
  |nil=>exact⟨[],rfl,λ_ h=>aR h⟩
  |cons a l ih=>
   refine aq (ih λx hx=>hm x (.tail _ hx)) λis e h=>aq (hm a (.head _)) λk hk ek=>⟨k::is,by rw[fJ,e,ek],λi hi=>?_⟩;rcases bW.mp hi with rfl|hi
   .exact hk
   .exact h i hi
 refine aq ZE λis z1 hi=>clear% ZE;?_;subst z1;refine aT _ ?_;refine mj (lt:=(·< ·)) (λa=>qL a) (λa b h=>by exact Kf (Bq h)) ?_ (ni _ _) λx=>?_
 .have h1:=J0.mp hs
  have h2:=J0.mp hn;refine SM ?_ (h1.and h2);intro a b ha hb ⟨q1,q2⟩;have:=q1 a b (hi a ha) (hi b hb) rfl rfl;have:a≠b:=λe=>q2 (aT _ e)
  (expose_names;exact adJ this_1 this)
 .rw[ji,dh,i7,bN]
  refine⟨λhx=>⟨hi x hx,x,hx,rfl⟩,λz0=>gy z0 λhx y hy e=>?_⟩;rw[<-inj y x (hi y hy) hx e];exact hy
theorem kB:∀i j,i<5->j<5->aO.getD i ""=aO.getD j ""->i=j:=by
 have:∀i:Fin 5,∀j:Fin 5,aO.getD i.val ""=aO.getD j.val ""->i.val=j.val:=by decide+kernel
 exact λi j hi hj=>this ⟨i,hi⟩ ⟨j,hj⟩
theorem Af:∀i j,i<5->j<5->((aO.getD i "").cps.toList<(aO.getD j "").cps.toList↔i<j):=by
 have:∀i:Fin 5,∀j:Fin 5,((aO.getD i.val "").cps.toList<(aO.getD j.val "").cps.toList↔i.val<j.val):=by decide+kernel
 exact λi j hi hj=>this ⟨i,hi⟩ ⟨j,hj⟩
noncomputable def dz (g:Gk):gF->D
 |none=> .none
 |some k=>match g with
  | .dR lv=> .str (lv.getD k "")
  |_=>aM g (some k)
theorem Xb (g:Gk)(v:d8)(p:Nat):gD (v.map (aM g)) p=aM g (v.getD p none):=by unfold gD;rw[dS,dS,g9];cases v[p]? <;>rfl
theorem rR (g:Gk)(v:d8)(ps:bF):fE (bX g v) ps=bX g (ps.map λp=>v.getD p none):=by delta fE bX;rw[eL];congr 2;exact dZ λp z=>Xb g v p
theorem pC (cs names bz:ak):aE 879 3 [.list cs,.list names,.vec "integer" (.list bz) .none] (fun r=>r=.vec "list" (.list cs) (jd names bz)):=aE.dO vA rfl fun T hT=>hT
theorem jM (ks:aa)(i:D):aE 886 1 [.vec ks i .none] (λr=>r=.bool false):=aE.dO kF rfl λT hT=>hT
theorem kD (ks:aa)(i:D)(lv:ak):aE 886 1 [.vec ks i (pJ lv)] (λr=>r=.bool true):=aE.dO kF rfl λT hT=>hT
theorem qY (lv:ay)(v:d8)(hv:pS (.dR lv) v)(hn:v.length<=1000)(hl:lv.length<=100):aE 891 3 [cD (bX (.dR lv) v)] (λr=>r=.list (v.map (dz (.dR lv)))):=by
 refine aE.dO qZ rfl λT hT=>?_;have aW:cap=1048576:=rfl;refine ai (kD _ _ _) (bL (xs:=v) (G:=aM (.dR lv)) (H:=dz (.dR lv)) bS (by omega) (λx hx=>?_) hT);induction x using fL with
 |none=>exact fO rfl
 |some k=>have e1:(1+(k:Int)-1)=(k:Int):=YQ.mpr rfl;exact ixZ (by simp_all) (by rw[e1];exact Sm (hv k hx)) (fO rfl)
theorem gx (g:Gk)(hg:∀lv,g≠.dR lv)(v:d8):aE 891 3 [cD (bX g v)] (λr=>r=.list (v.map (dz g))):=by
 have ea:g.attrs=.none:=by induction g using Gk.casesOn with|dR lv=>exact absurd rfl (hg lv)|_=>rfl
 have et:v.map (dz g)=v.map (aM g):=dZ λx z=>by induction x using fL with
  |none=>rfl
  |some k=>induction g using Gk.casesOn with|dR lv=>exact absurd rfl (hg lv)|_=>rfl
 rw[et];refine aE.dO qZ rfl λT hT=>?_;show wp 100 _ (.ks (fB 143) 0 fun fl z=>T (ie fl)) (V0 ["v"] [.vec g.name (.list (v.map (aM g))) g.attrs] []);rw[ea];exact ai (jM _ _) hT
noncomputable def aU:Gk->d8->bF
 | .dR lv,_=>List.range lv.length
 |g,v=>(List.range g.size).filter λk=>decide (some k∈v)
noncomputable def jK (g:Gk)(v:d8):gF->gF:=Option.map λk=>(aU g v).idxOf k
noncomputable def cJ (g:Gk)(v:d8):ak:=(aU g v).map λk=>dz g (some k)
theorem iQ {X:Type}[BEq X][LawfulBEq X](f:Nat->X)(k:Nat):∀(l:bF),(∀i∈l,f i=f k->i=k)->(l.map f).idxOf (f k)=l.idxOf k
 |[],_=>rfl
 |a::l,h=>by
  rw[fJ,OE,OE,iQ f k l λi hi=>h i (.tail _ hi)];by_cases e:a=k
  .subst e;simp
  .have:f a≠f k:=λq=>e (h a (.head _) q)
   have h1:(f a==f k)=false:=beq_false_of_ne this;have h2:(a==k)=false:=beq_false_of_ne e;rw[h1,h2]
theorem HR (g:Gk)(k:Nat):eu (dz g (some k))=false:=by induction g using Gk.casesOn<;>rfl
theorem Ld (g:Gk)(x:gF):(!eu (dz g x))=x.isSome:=by
 induction x using fL with
 |none=>rfl
 |some k=>rw[HR];rfl
theorem wI {g:Gk}{v:d8}{T:kc}{sv:Sl}{ord:ak}(eo:ord=cJ g v)(hn:v.length<=1000)(hT:T (.tup [.list (cJ g v),.list (v.map λx=>oD (jK g v x))]))
  (ZE:∀k,some k∈v->∀(fr:Fm) (A:aQ) (E:aS) (V:VS) (Q:az),Q (nD ((aU g v).idxOf k)) V->mZ fr A E Rp V (cl (.builtin "list.index")) [.list (cJ g v),dz g (some k)] Q):
  wp 98 ⟨3,q9,SI rj.scope⟩ (.ks (fB 144) 2 fun fl z=>T (ie fl)) [("v",sv),("texts",.fz (.list (v.map (dz g)))),("order",.ow (.list ord))]:=by
 rw[eo];refine bL (xs:=v) (G:=dz g) (H:=λx=>oD (jK g v x)) bS (aB hn (by decide)) (λx hx=>?_) hT;induction x using fL with
 |none=>exact fO rfl
 |some k=>refine cF (HR g k) (kZ λfr A E z=>?_);exact ZE k hx fr A E _ _ (fO rfl)
theorem Ah (lv:ay)(v:d8)(hv:pS (.dR lv) v)(hn:v.length<=1000)(hl:lv.length<=100)(nN:lv.Nodup):aE 896 4 [cD (bX (.dR lv) v)] (λr=>r=.tup [.list (cJ (.dR lv) v),.list (v.map λx=>oD (jK (.dR lv) v x))]):=by
 have e1:lv.map D.str=cJ (.dR lv) v:=by
  show lv.map D.str=(List.range lv.length).map fun k=>D.str (lv.getD k "");apply OI
  .simp only[bw,bw,iU]
  .intro i h1 h2
   have:i<lv.length:=by simpa using h1
   rw[yq,yq,Kq,dS,eE this];rfl
 refine aE.dO pA rfl λT hT=>?_;have aW:cap=1048576:=rfl;refine ai (qY lv v hv hn hl) (ai (kD _ _ _) ?_);refine bL (xs:=lv) (G:=D.str) (H:=D.str) bS (by omega) (λx hx=>fO rfl) (kx (wI (sv:=.fz (cD (bX (.dR lv) v))) e1 hn hT (λk hk fr A E V Q q=>?_)) (by kernel_rfl));have iR:k<lv.length:=hv k hk;rw[<-e1];have hg:lv.getD k ""∈lv:=by rw[dS,eE iR,jV];exact jj iR
 refine DS hg ?_;have h1:(List.range lv.length).idxOf k=k:=by have:=YZ (BE (n:=lv.length)) k (by simpa using iR);simpa using this
 have h2:lv.idxOf (lv.getD k "")=k:=by rw[dS,eE iR,jV];exact YZ nN k iR
 rw[h2];have q:Q (nD ((List.range lv.length).idxOf k)) V:=q;rw[h1] at q;exact q
noncomputable def oQ (v:d8):bF:=v.filterMap id
theorem pY (v:d8)(k:Nat):k∈oQ v↔some k∈v:=by simp[oQ,EO]
theorem DN (v:d8):(oQ v).length<=v.length:=List.length_filterMap_le _ _
theorem IA (t:gF->D)(v:d8):(v.filter λx=>x.isSome).map t=(oQ v).map λk=>t (some k):=by
 induction v with
 |nil=>rfl
 |cons x v ih=>induction x using fL with
  |none=>exact ih
  |some k=>exact aT (t (some k):: ·) ih
theorem DH {X:Type}[DecidableEq X](f:Nat->X)(m:Nat)(inj:∀i j,i<m->j<m->f i=f j->i=j)(v:d8)(hv:∀k,some k∈v->k<m)(zs:List X)(hp:zs.Perm (jT ((oQ v).map f)))
  (hs:zs.Pairwise λa b=>∀i j,i<m->j<m->a=f i->b=f j->i<=j):zs=((List.range m).filter λk=>decide (some k∈v)).map f:=by
 have qE:∀x,x∈zs↔x∈(oQ v).map f:=λx=>hp.mem_iff.trans (yQ _ x);rewrite [PM f m inj zs (hp.nodup_iff.mpr (Er _)) (λx hx=>?_) hs]
 .refine aT _ ?_
  refine BH λk hk=>?_;have hk:=dh.mp hk;rw[decide_eq_decide,qE,bN,<-pY];refine⟨λz0=>aq z0 λj hj e=>?_,λh=>⟨k,h,rfl⟩⟩;rw[<-inj j k (hv j ((pY v j).mp hj)) hk e];exact hj
 .exact aq (bN.mp ((qE x).mp hx)) λk hk e=>⟨k,hv k ((pY v k).mp hk),e.symm⟩
def aeG (d:D)(l:ak):Prop:=(∃ys:ay,d=.list (ys.map .str)/\ys.length<=60/\∀zs,zs.Perm (jT ys)->sortedS zs=true->zs.map .str=l)\/(∃ys:cH,d=.list (ys.map .int)/\ys.length<=60/\∀zs:cH,zs.Perm (jT ys)->zs.Pairwise (·<= ·)->zs.map .int=l)
theorem SW {fr:Fm}{A:aQ}{gl:dU}{E:aS}{V:VS}(hf:dH fr gl)(hh:A.handled=none){p1 p2 p3 p4:Pos}{e:aD}{Q:az}(hg1:Hs ((("sorted":aa),Value.builtin "sorted")) gl)(hg2:Hs ((("set":aa),Value.type "set")) gl){l:ak}
  (he:gC e=false)(h:DT fr A E Rp V (eval e fr.e) fun d V1=>aeG d l/\Q (.list l) V1):Dt fr A (eval (.Call (.Name "sorted" p1) [.Call (.Name "set" p2) [e] [] p3] [] p4) fr.e) E V Q:=
 KR hf hh hg1 hg2 (h.mono λd V1 ⟨h,q⟩=>h.imp (fun⟨ys,a,b,c⟩=>⟨ys,a,b,λzs x y=>c zs x y▸q⟩) (fun⟨ys,a,b,c⟩=>⟨ys,a,b,λzs x y=>c zs x y▸q⟩)) (by rfl) (by rfl) (by rfl) (gS (by simp[he])) (by rfl) (jB he)
theorem tg {g:Gk}(hg:∀lv,g≠.dR lv){v:d8}(hn:v.length<=50)
  (hs:aeG (.list ((oQ v).map λk=>dz g (some k))) (cJ g v))
  (ZE:∀k,some k∈v->∀(fr:Fm) (A:aQ) (E:aS) (V:VS) (Q:az),Q (nD ((aU g v).idxOf k)) V->mZ fr A E Rp V (cl (.builtin "list.index")) [.list (cJ g v),dz g (some k)] Q):
  aE 896 4 [cD (bX g v)] (λr=>r=.tup [.list (cJ g v),.list (v.map λx=>oD (jK g v x))]):=by
 have ea:g.attrs=.none:=by clear hn hs ZE;induction g using Gk.casesOn with|dR lv=>exact absurd rfl (hg lv)|_=>rfl
 have htx:=gx g hg v;have ecD:cD (bX g v)=.vec g.name (.list (v.map (aM g))) .none:=by rw[<-ea];rfl
 rw[ecD] at htx ⊢;refine aE.dO pA rfl λT hT=>ai htx (ai (jM _ _) (gV λfr A E F hw=>eK hw (SW (l:=cJ g v) F.f F.room.handled (bx rfl) (bx rfl) rfl (bD 90 _ fr A E (.ke _ _) _ F ?_))));refine pL (xs:=v) (G:=dz g) (H:=dz g) (λx=>x.isSome) bS (aB (jk _ _) (aB hn (by decide))) (λx z=>⟨rfl,Ld g x⟩) (λx z z=>fO rfl) ?_;rw[IA];exact⟨hs,_,fi rfl,kx (wI (sv:=.fz (.vec g.name (.list (v.map (aM g))) .none)) rfl (aB hn (by decide)) hT ZE) (by kernel_rfl)⟩
theorem VH {g:Gk}{v:d8}{X:Type}{f:Nat->X}{t:X->D}(hc:∀k,dz g (some k)=t (f k)):((aU g v).map f).map t=cJ g v:=by unfold cJ;rw[eL];exact dZ λk z=>(hc k).symm
theorem Nq {g:Gk}{v:d8}(ep:aU g v=(List.range g.size).filter λk=>decide (some k∈v))(hv:pS g v){k:Nat}(hk:some k∈v):k∈aU g v:=by rw[ep];exact ji.mpr ⟨dh.mpr (hv k hk),i6 hk⟩
theorem pq (g:Gk)(c:Int)(hg:∀lv,g≠.dR lv)(hc:∀k,dz g (some k)=.int ((k:Int)-c))(v:d8)(hv:pS g v)(hn:v.length<=50):aE 896 4 [cD (bX g v)] (λr=>r=.tup [.list (cJ g v),.list (v.map λx=>oD (jK g v x))]):=by
 have ep:aU g v=(List.range g.size).filter λk=>decide (some k∈v):=by clear hc hv hn;induction g using Gk.casesOn with|dR lv=>exact absurd rfl (hg lv)|_=>rfl
 have eo:((aU g v).map λk:Nat=>(k:Int)-c).map D.int=cJ g v:=VH hc;refine tg hg hn (.inr ⟨(oQ v).map λk:Nat=>(k:Int)-c,?_,?_,λzs hp hs=>?_⟩) (λk hk fr A E V Q q=>?_)
 .rw[eL];exact aT D.list (dZ λk z=>hc k)
 .have:=DN v
  rw[bw];omega
 .have ez:=DH (λk:Nat=>(k:Int)-c) g.size (λi j z z e=>by omega) v hv zs hp (hs.imp λh i j z z e1 e2=>by simp_all)
  simp only[<-ep] at ez;rw[ez,eo]
 .rw[<-eo,hc k]
  refine Rw (bN.mpr ⟨k,Nq ep hv hk,rfl⟩) ?_;rw[iQ (λk:Nat=>(k:Int)-c) k (aU g v) λi z e=>by omega];exact q
theorem IY:∀i j,i<5->j<5->PySem.Spec.ltCps (aO.getD i "").cps.toList (aO.getD j "").cps.toList=decide (i<j):=by
 have:∀i:Fin 5,∀j:Fin 5,PySem.Spec.ltCps (aO.getD i.val "").cps.toList (aO.getD j.val "").cps.toList=decide (i.val<j.val):=by decide+kernel
 exact λi j hi hj=>this ⟨i,hi⟩ ⟨j,hj⟩
theorem oH:∀(is:bF) (i:Nat),i<5->(∀j∈is,j<5)->risingS (aO.getD i "") (is.map fun k=>aO.getD k "")=true->(i::is).Pairwise (·<= ·)
 |[],i,_,_,_=>OW _ _
 |j::is,i,hi,hj,h=>by
  rw[fJ] at h;unfold risingS at h;rw[iK,IY j i (hj j (.head _)) hi] at h;have h1:=oH is j (hj j (.head _)) (λk hk=>hj k (.tail _ hk)) h.2;have h2:i<=j:=by simpa using h.1
  refine J1.mpr ⟨λk hk=>?_,h1⟩;clear hi hj h;rcases bW.mp hk with rfl|hk
  .exact h2
  .exact aB h2 ((J1.mp h1).1 k hk)
theorem Ae (zs:ay)(hm:∀x∈zs,∃k,k<5/\x=aO.getD k "")(h:sortedS zs=true):zs.Pairwise fun a b=>∀i j,i<5->j<5->a=aO.getD i ""->b=aO.getD j ""->i<=j:=by
 have ZE:∃is:bF,zs=(is.map fun k=>aO.getD k "")/\∀i∈is,i<5:=by
  clear h;induction zs with
  |nil=>exact⟨[],rfl,λz h=>aR h⟩
  |cons a l ih=>
   refine aq (ih λx hx=>hm x (.tail _ hx)) λis e h=>aq (hm a (.head _)) λk hk ek=>⟨k::is,by rw[fJ,e,ek],λi hi=>?_⟩;rcases bW.mp hi with rfl|hi
   .exact hk
   .exact h i hi
 refine aq ZE λis z0 hi=>?_;try clear ZE;subst z0
 have hp:is.Pairwise (·<= ·):=by
  induction is using nU with
  |nil=>exact List.Pairwise.nil
  |cons i is=>exact oH is i (hi i (.head _)) (λj hj=>hi j (.tail _ hj)) h
 refine J0.mpr (SM ?_ hp);intro a b ha hb N2 i j h1 h2 e1 e2;rw[<-kB a i (hi a ha) h1 e1,<-kB b j (hi b hb) h2 e2];exact N2
theorem Ai (v:d8)(hv:pS .chr v)(hn:v.length<=50):aE 896 4 [cD (bX .chr v)] (λr=>r=.tup [.list (cJ .chr v),.list (v.map λx=>oD (jK .chr v x))]):=by
 have hg:∀lv,Gk.chr≠.dR lv:=λlv q=>nomatch q;have hc:∀k,dz .chr (some k)=.str (aO.getD k ""):=fun k=>rfl;have ep:aU .chr v=(List.range Gk.chr.size).filter λk=>decide (some k∈v):=rfl;have eo:((aU .chr v).map fun k=>aO.getD k "").map D.str=cJ .chr v:=VH hc;refine tg hg hn (.inl ⟨(oQ v).map fun k:Nat=>aO.getD k "",?_,?_,fun zs hp hs=>?_⟩) (fun k hk fr A E V Q q=>?_)
 .rw[eL];exact aT D.list (dZ λk z=>hc k)
 .have:=DN v
  rw[bw];omega
 .have anZ:∀x∈zs,∃k,k<5/\x=aO.getD k "":=fun x hx=>by exact aq (bN.mp ((yQ _ x).mp (hp.mem_iff.mp hx))) λk hk e=>⟨k,hv k ((pY v k).mp hk),e.symm⟩
  have ez:=DH (fun k:Nat=>aO.getD k "") 5 kB v hv zs hp (Ae zs anZ hs);rw[ez];exact eo
 .rw[<-eo,hc k]
  refine DS (bN.mpr ⟨k,Nq ep hv hk,rfl⟩) ?_;rw[iQ (fun k:Nat=>aO.getD k "") k (aU .chr v) fun i hi e=>kB i k (dh.mp (ji.mp hi).1) (hv k hk) e];exact q
theorem vp:∀lv∈lvs,lv.Nodup/\lv.length<=3/\0<lv.length:=by decide+kernel
theorem kC (g:Gk)(hg:∀lv,g=.dR lv->lv.length<=100)(v:d8)(hv:pS g v)(hn:v.length<=50):aE 891 3 [cD (bX g v)] (λr=>r=.list (v.map (dz g))):=by
 induction g using Gk.casesOn with
 |dR lv=>exact qY lv v hv (by omega) (hg lv rfl)
 |int=>exact gx .int (λz q=>by cases q) v
 |chr=>exact gx .chr (λz q=>by cases q) v
 |nZ=>exact gx .nZ (λz q=>by cases q) v
theorem mF (g:Gk)(hg:BW g)(v:d8)(hv:pS g v)(hn:v.length<=50):aE 896 4 [cD (bX g v)] (λr=>r=.tup [.list (cJ g v),.list (v.map λx=>oD (jK g v x))]):=by
 induction g using Gk.casesOn with
 |dR lv=>exact nX (vp lv (hg lv rfl)) λh1 h2 h3=>Ah lv v hv (by omega) (by omega) h1
 |int=>exact pq .int 1 (λz q=>by cases q) (λk=>rfl) v hv hn
 |chr=>exact Ai v hv hn
 |nZ=>exact pq .nZ 0 (λz q=>by cases q) (λk=>by show D.int (k:Int)=D.int ((k:Int)-0);rw[Int.sub_zero]) v hv hn
noncomputable def aiB (v:d8):Int:=ZT ((oQ v).map λk:Nat=>(k:Int)-1)
theorem RL (v:d8)(hn:v.length<=1000):aE 901 5 [cD (bX .int v)] (λr=>r=dX [.int (aiB v)]):=by
 refine aE.dO I2 rfl λT hT=>pL (xs:=v) (G:=aM .int) (H:=aM .int) (λx=>x.isSome) bS (aB (jk _ _) (aB hn (by decide))) (λx z=>⟨rfl,by induction x using fL<;>rfl⟩) (λx z z=>fO rfl) ?_;have e0:(v.filter λx=>x.isSome).map (aM .int)=((oQ v).map λk:Nat=>(k:Int)-1).map .int:=by simp only[IA,eL];rfl
 rw[e0];exact kZ λz z z F=>VK F.room.handled hT
theorem I5 (v:d8):aE 908 5 [cD (bX .int v)] (λr=>r=dX [nD v.length]):=aE.dO CH rfl λT hT=>rV hT (aT (λn=>dX [nD n]) (bw ..))
theorem RK (v:d8):aE 915 5 [cD (bX .int v)] (λr=>r=dX [nD v.length,.int 7]):=aE.dO I1 rfl λT hT=>rV hT (aT (λn=>dX [nD n,.int 7]) (bw ..))
noncomputable def Ao:Gk->Nat->aa
 | .int,k=>mh ((k:Int)-1)
 | .chr,k=>aO.getD k ""
 | .nZ,k=>if k=1 then "TRUE" else "FALSE"
 | .dR lv,k=>lv.getD k ""
noncomputable def iD (g:Gk):gF->aa
 |none=>"NA"
 |some k=>"="++Ao g k
noncomputable def Gv:Gk->Bool
 | .dR _=>true
 |_=>false
theorem wW (g:Gk)(v:d8):aE 685 3 [cD (bX g v)] (λr=>r=.bool (Gv g)):=by
 induction g using Gk.casesOn with
 |dR lv=>exact rq _ _
 |int=>exact gY "integer" _ (by decide+kernel)
 |chr=>exact rA "character" _ _ (by decide+kernel)
 |nZ=>exact rA "logical" _ _ (by decide+kernel)
theorem tS (g:Gk)(hg:BW g):∀o:gF,(∀k,o=some k->k<g.size)->(iD g o).length<=9
 |none,_=>by show("NA":aa).length<=9;decide
 |some k,h=>by
  have hk:=h k rfl;induction g using Gk.casesOn with
  |int=>
   have:∀k:Fin 5,(iD .int (some k.val)).length<=9:=by decide+kernel
   exact this ⟨k,hk⟩
  |chr=>
   have:∀k:Fin 5,(iD .chr (some k.val)).length<=9:=by decide+kernel
   exact this ⟨k,hk⟩
  |nZ=>
   have:∀k:Fin 2,(iD .nZ (some k.val)).length<=9:=by decide+kernel
   exact this ⟨k,hk⟩
  |dR lv=>
   have:∀lv∈lvs,∀k:Fin lv.length,(iD (.dR lv) (some k.val)).length<=9:=by decide+kernel
   exact this lv (hg lv rfl) ⟨k,hk⟩
noncomputable def oF (m i:Nat):gF:=if i<m then some i else none
theorem yM {m:Nat}(o:gF)(h:∀k,o=some k->k<m):∃i:Fin (m+1),oF m i.val=o:=by
 induction o using fL with
 |none=>exact⟨⟨m,by exact Nat.lt_add_one ..⟩,aG (qL m)⟩
 |some k=>exact⟨⟨k,by have:=h k rfl;exact Nat.lt_add_right 1 (h k rfl)⟩,bg (h k rfl)⟩
theorem Au (g:Gk)(hg:BW g)(a b:gF)(ha:∀k,a=some k->k<g.size)(hb:∀k,b=some k->k<g.size)(h:iD g a=iD g b):a=b:=by
 have key:(∀a b:Fin (g.size+1),iD g (oF g.size a.val)=iD g (oF g.size b.val)->a.val=b.val)->a=b:=by intro hf;refine xE (yM a ha) λa' z0=>?_;subst z0;refine xE (yM b hb) λb' z1=>?_;subst z1;rw[hf _ _ h]
 refine key ?_;clear key h ha hb;induction g using Gk.casesOn with
 |int=>decide+kernel
 |chr=>decide+kernel
 |nZ=>decide+kernel
 |dR lv=>
  have h0:=hg lv rfl;clear hg;unfold lvs at h0;simp only[bW,JZ,or_false] at h0;rcases h0 with rfl|rfl|rfl
  .decide+kernel
  .decide+kernel
  .decide+kernel
theorem Wm:∀m:Fin 10,(aa0 m.val).cps.toList=[48+m.val]:=by decide+kernel
theorem uH (a b:aa):(a++b).cps.toList=a.cps.toList++b.cps.toList:=by rw[Array.toList_append]
theorem Ie {s:aa}(h:s.length<=9):(Ff s).cps.toList=(48+s.length)::58::s.cps.toList:=by unfold Ff;simp only[uH,uH,uH,Wm ⟨s.length,by exact qO h⟩];rfl
theorem Nh {a b:aa}(h:a.cps.toList=b.cps.toList):a=b:=by cases a;cases b;simp only at h;rw[Yt] at h;rw[h]
theorem Ng (s:aa):s.length=s.cps.toList.length:=(G7 ..).symm
theorem Ic:∀{l m:ay},l.length=m.length->(∀s∈l,s.length<=9)->(∀s∈m,s.length<=9)->(l.map λs=>(Ff s).cps.toList).flatten=(m.map λs=>(Ff s).cps.toList).flatten->l=m
 |[],[],_,_,_,_=>rfl
 |[],_::_,h,_,_,_=>by cases h
 |_::_,[],h,_,_,_=>by cases h
 |s::l,t::m,hl,h1,h2,h=>by
  rw[fJ,fJ,Bs,Bs,Ie (h1 s (.head _)),Ie (h2 t (.head _))] at h;simp only[OS,List.cons.injEq,true_and] at h;refine xA h λh3 h4=>clear% h;?_;have h5:s.cps.toList.length=t.cps.toList.length:=by simp only[<-Ng,<-Ng];simp_all
  refine xA (List.append_inj h4 h5) λh6 h7=>?_;rw[Nh h6,Ic (OQ hl) (λx hx=>h1 x (.tail _ hx)) (λx hx=>h2 x (.tail _ hx)) h7]
theorem Wy:∀l:ay,(Txt.join "" l).cps.toList=(l.map fun s=>s.cps.toList).flatten:=fun l=>by
 unfold Txt.join;rw[StrLaws.glued_eq_join];induction l with
 |nil=>rfl
 |cons x l ih=>
  induction l using nU with
  |nil=>show x.cps.toList=_;simp
  |cons y l=>
   show(x++""++Str.join "" (y::l)).cps.toList=_;simp only[uH,uH,ih];have:("":aa).cps.toList=[]:=by decide
   rw[this];simp
abbrev GC:=Gk×d8
abbrev bT:=List GC
noncomputable abbrev aX (c:GC):qy:=bX c.1 c.2
structure gQ (n:Nat) (c:GC):Prop where
 gk:BW c.1
 val:pS c.1 c.2
 len:c.2.length=n
theorem gQ.get {n:Nat}{c:GC}(h:gQ n c)(p:Nat):∀k,c.2.getD p none=some k->k<c.1.size:=λk e=>by
 refine h.val k ?_;rw[dS] at e;induction q:c.2[p]? using fL with
 |none=>rw[q] at e;cases e
 |some x=>rw[q] at e;have e:x=some k:=e;subst e;exact Ks q
theorem gQ.mem {n:Nat}{c:GC}(h:gQ n c){o:gF}(ho:o∈c.2):∀k,o=some k->k<c.1.size:=λk e=>h.val k (e▸ho)
noncomputable def Wf:D->D
 | .int i=> .str (if i=1 then "TRUE" else "FALSE")
 |d=>d
noncomputable def eZ:D->ak
 | .vec k (.list l) (.dict ((_,.vec _ (.list lv) _)::_))=>l.map λd=>As (mE lv d)
 | .vec k (.list l) _=>if k="integer" then l.map aba else if k="character" then l.map As else l.map fun d=>As (Wf d)
 |_=>[]
noncomputable def I6 (c:GC):ak:=(c.2.map (iD c.1)).map .str
theorem wR (lv:ay)(k:Nat)(hk:k<lv.length):mE (lv.map D.str) (.int (1+(k:Int)))=.str (lv.getD k ""):=by
 show(if 1<=1+(k:Int)/\1+(k:Int)<=((lv.map D.str).length:Nat) then(lv.map D.str).getD (1+(k:Int)-1).toNat .none else .none)=_;rw[bg (by rw[bw];omega)];have e:(1+(k:Int)-1).toNat=k:=by omega
 rw[e];simp[dS,hk]
theorem qk {n:Nat}(c:GC)(h:gQ n c):eZ (cD (aX c))=I6 c:=by
 obtain⟨g,v⟩:=c;have hv:=h.val;unfold I6;simp only[eL];induction g using Gk.casesOn with
 |int=>show(v.map (aM .int)).map aba=_;rw[eL];exact dZ λo z=>by induction o using fL<;>rfl
 |chr=>show(v.map (aM .chr)).map As=_;rw[eL];exact dZ λo z=>by cases o<;>rfl
 |nZ=>
  show(v.map (aM .nZ)).map (λd=>As (Wf d))=_;rw[eL];refine dZ λo z=>?_;induction o using fL with
  |none=>rfl
  |some k=>
   show D.str ("="++(if((k:Nat):Int)=1 then("TRUE":aa) else("FALSE":aa)))=D.str ("="++(if k=1 then("TRUE":aa) else("FALSE":aa)));have:(((k:Nat):Int)=1)=(k=1):=by rw[eq_iff_iff];omega
   simp only[this]
 |dR lv=>
  show(v.map (aM (.dR lv))).map (λd=>As (mE (lv.map D.str) d))=_;rw[eL];refine dZ λo ho=>?_;induction o using fL with
  |none=>rfl
  |some k=>show As (mE (lv.map D.str) (.int (1+(k:Int))))=_;rw[wR lv k (hv k ho)];rfl
theorem aa6 (g:Gk)(hg:BW g)(k:Nat)(hk:k<g.size):(Ao g k).length<=9:=by
 have h:=tS g hg (some k) λj e=>by cases e;exact hk
 have:("="++Ao g k).length=1+(Ao g k).length:=by rw[EK,NJ]
 have h:("="++Ao g k).length<=9:=h;omega
theorem CK {n:Nat}(c:GC)(h:gQ n c)(hn:n<=50):aE 344 5 [cD (aX c)] (λr=>r=.list (c.2.map λo=>match o with|none=> .none|some k=> .str (Ao c.1 k)))\/c.1=.int:=by
 obtain⟨g,v⟩:=c;have hl:v.length=n:=h.len;have aW:cap=1048576:=rfl;induction g using Gk.casesOn with
 |int=>exact .inr rfl
 |chr=>
  left;have:=fT "character" (v.map (aM .chr)) (fun d=>d) 5 (fu rfl) (by rw[bw];exact aB (fh hl) (aB hn (by decide))) (fun d hd=>by
   refine aq (bN.mp hd) λo z xr=>?_;subst xr;induction o using fL with
   |none=>exact jc _
   |some k=>exact jN _);rw[eL] at this;have e:v.map ((λd=>d)∘aM .chr)=v.map λo=>match o with|none=> .none|some k=> .str (Ao .chr k):=dZ λo z=>by induction o using fL<;>rfl
  rw[e] at this;exact this
 |nZ=>
  left;have:=fT "logical" (v.map (aM .nZ)) Wf 5 (fu rfl) (by rw[bw];exact aB (fh hl) (aB hn (by decide))) (fun d hd=>by
   refine aq (bN.mp hd) λo z xr=>?_;subst xr;cases o with
   |none=>exact jc _
   |some k=>exact pD _);rw[eL] at this;have e:v.map (Wf∘aM .nZ)=v.map λo=>match o with|none=> .none|some k=> .str (Ao .nZ k):=dZ λo z=>by
   induction o using fL with
   |none=>rfl
   |some k=>
    show D.str (if((k:Nat):Int)=1 then("TRUE":aa) else("FALSE":aa))=D.str (if k=1 then("TRUE":aa) else("FALSE":aa));have:(((k:Nat):Int)=1)=(k=1):=by rw[eq_iff_iff];omega
    simp only[this]
  rw[e] at this;exact this
 |dR lv=>
  left;refine nX (vp lv (h.gk lv rfl)) λz h2 z=>?_;have:=xS (lv.map D.str) (v.map (aM (.dR lv))) 5 (by omega) (by rw[bw];exact aB (fh hl) (aB hn (by decide))) (by rw[bw];omega) (λd hd=>by
   refine aq (bN.mp hd) λs z xr=>?_;subst xr;exact⟨s,rfl⟩) (λd hd=>by
   refine aq (bN.mp hd) λo ho xr=>?_;subst xr;cases o with
   |none=>exact .inl rfl
   |some k=>have hk:k<lv.length:=h.val k ho;exact .inr ⟨1+(k:Int),rfl,by exact Int.le.intro k rfl,by rw[bw];omega⟩);rw[eL] at this;have e:v.map (mE (lv.map D.str)∘aM (.dR lv))=v.map λo=>match o with|none=> .none|some k=> .str (Ao (.dR lv) k):=dZ λo ho=>by
   induction o using fL with
   |none=>rfl
   |some k=>exact wR lv k (h.val k ho)
  rw[e] at this;exact this
theorem iT {n:Nat}(c:GC)(h:gQ n c)(hn:n<=50):aE 776 6 [cD (aX c)] (λr=>r=.list (eZ (cD (aX c)))):=by
 rw[qk c h];have aW:cap=1048576:=rfl;refine fU (CK c h hn) (λht=>?_) λhi=>?_
 .obtain⟨g,v⟩:=c
  have hl:v.length=n:=h.len;by_cases akj:g=.int
  .subst akj
   have:=nk (v.map (aM .int)) (by rw[bw];exact aB (fh hl) (aB hn (by decide))) (λd hd=>by
    refine aq (bN.mp hd) λo ho z0=>?_;subst z0;cases o with
    |none=>exact .inl rfl
    |some k=>have hk:k<5:=h.val k ho;exact .inr ⟨(k:Int)-1,rfl,by omega (splitDisjunctions:=true)⟩);rw[<-qk (.int,v) h];exact this
  .have hb:(Gv g||(zu [.str "character",.str "logical"]).any (·==g.name))=true:=by
    induction g using Gk.casesOn with
    |int=>exact absurd rfl akj
    |chr=>show(false||_)=true;decide+kernel
    |nZ=>show(false||_)=true;decide+kernel
    |dR lv=>rfl
   have:=uD g.name (v.map (aM g)) g.attrs _ (Gv g) 6 (by omega) (by rw[bw];show v.length<=cap;exact aB (fh hl) (aB hn (by decide))) (λd hd=>by
    refine aq (bN.mp hd) λo ho z1=>?_;subst z1;induction o using fL with
    |none=>exact .inl rfl
    |some k=>have:=aa6 g h.gk k (h.val k ho);exact .inr ⟨Ao g k,rfl,by omega⟩) (wW g v) hb ht;rw[eL] at this;have e:(v.map (As∘λo=>match o with|none=> .none|some k=> .str (Ao g k)))=I6 (g,v):=by
    unfold I6;rw[eL];exact dZ λo z=>by induction o using fL<;>rfl
   rw[e] at this;exact this
 .obtain⟨g,v⟩:=c
  have hi:g=.int:=hi;subst hi;have hl:v.length=n:=h.len;have:=nk (v.map (aM .int)) (by rw[bw];exact aB (fh hl) (aB hn (by decide))) (λd hd=>by
   refine aq (bN.mp hd) λo ho z2=>?_;subst z2;cases o with
   |none=>exact .inl rfl
   |some k=>have hk:k<5:=h.val k ho;exact .inr ⟨(k:Int)-1,rfl,by omega (splitDisjunctions:=true)⟩);rw[<-qk (.int,v) h];exact this
theorem Hl {n:Nat}(c:GC)(h:gQ n c):BV n (eZ (cD (aX c))):=by rw[qk c h];refine⟨by unfold I6;simp only[bw,bw];exact h.len,λd hd=>?_⟩;refine aq (bN.mp hd) λs hs z0=>?_;subst z0;refine aq (bN.mp hs) λo ho z1=>?_;subst z1;have:=tS c.1 h.gk o (h.mem ho);exact⟨_,rfl,by omega⟩
theorem rT {n:Nat}(cs:bT)(h:∀c∈cs,gQ n c)(i j:Nat)(hi:i<n)(hj:j<n):
  cy (cs.map λc=>eZ (cD (aX c))) i=cy (cs.map λc=>eZ (cD (aX c))) j↔∀c∈cs,c.2.getD i none=c.2.getD j none:=by
 have anH:∀c∈cs,∀k,k<n->Ln (gD (eZ (cD (aX c))) k)=Ff (iD c.1 (c.2.getD k none)):=λc hc k hk=>by
  rw[qk c (h c hc)];have iR:k<c.2.length:=by rw[(h c hc).len];exact hk
  show Ln (((c.2.map (iD c.1)).map D.str).getD k .none)=_;rw[dS,g9,g9,eE iR,dS,eE iR];rfl
 have abp:∀k,k<n->(cy (cs.map λc=>eZ (cD (aX c))) k).cps.toList=((cs.map λc=>iD c.1 (c.2.getD k none)).map λs=>(Ff s).cps.toList).flatten:=λk hk=>by
  unfold cy;rw[Wy,eL,eL,eL];refine aT _ ?_;exact dZ λc hc=>by show(Ln (gD (eZ (cD (aX c))) k)).cps.toList=_;rw[anH c hc k hk];rfl
 constructor
 .intro e
  have e:=aT (λs:aa=>s.cps.toList) e;simp only[abp i hi,abp j hj] at e;have e2:=Ic (by grind) (λs hs=>?_) (λs hs=>?_) e
  .intro c hc
   have e3:=Yw.mp e2 c hc;exact Au c.1 (h c hc).gk _ _ ((h c hc).get i) ((h c hc).get j) e3
  .refine aq (bN.mp hs) λc hc z0=>?_;subst z0
   exact tS c.1 (h c hc).gk _ ((h c hc).get i)
  .refine aq (bN.mp hs) λc hc z1=>?_;subst z1
   exact tS c.1 (h c hc).gk _ ((h c hc).get j)
 .intro e
  refine Nh ?_;rw[abp i hi,abp j hj];have:(cs.map λc=>iD c.1 (c.2.getD i none))=cs.map λc=>iD c.1 (c.2.getD j none):=dZ λc hc=>by rw[e c hc]
  rw[this]
theorem pg {le le':Nat->Nat->Bool}:∀(l r:bF),(∀a∈l,∀b∈r,le a b=le' a b)->List.merge l r le=List.merge l r le'
 |[],r,_=>by rw[List.nil_merge,List.nil_merge]
 |a::l,[],_=>by rw[List.merge_right,List.merge_right]
 |a::l,b::r,h=>by rw[YM,YM,h a (.head _) b (.head _),pg l (b::r) λx hx y hy=>h x (.tail _ hx) y hy,pg (a::l) r λx hx y hy=>h x hx y (.tail _ hy)]
theorem wK {le le':Nat->Nat->Bool}{m:Nat}(h:∀a b,a<m->b<m->le a b=le' a b):∀l:pT,(∀r∈l,∀a∈r,a<m)->gc le l=gc le' l
 |[],_=>rfl
 |[_],_=>rfl
 |a::b::r,hl=>by rw[ko,ko,wK h r λx hx=>hl x (.tail _ (.tail _ hx)),pg a b λx hx y hy=>h x y (hl a (.head _) x hx) (hl b (.tail _ (.head _)) y hy)]
theorem DP {le:Nat->Nat->Bool}{P:Nat->Prop}:∀l:pT,(∀r∈l,∀a∈r,P a)->∀r∈gc le l,∀a∈r,P a
 |[],h=>h
 |[_],h=>h
 |a::b::r,h=>λx hx y hy=>by
  rw[ko] at hx;rcases bW.mp hx with rfl|hx
  .rcases j6.mp ((ad9 (le:=le) (xs:=a) (ys:=b)).mem_iff.mp hy) with q|q
   .exact h a (.head _) y q
   .exact h b (.tail _ (.head _)) y q
  .exact DP r (λz hz=>h z (.tail _ (.tail _ hz))) x hx y hy
theorem tK {le le':Nat->Nat->Bool}{m:Nat}(h:∀a b,a<m->b<m->le a b=le' a b):∀(f:Nat) (l:pT),(∀r∈l,∀a∈r,a<m)->gU le f l=gU le' f l
 |0,_,_=>rfl
 |f+1,l,hl=>by
  rw[oZ,oZ];split
  .rfl
  .rw[wK h l hl]
   exact tK h f _ (DP l hl)
theorem zS (le:Nat->Nat->Bool):∀l:pT,(gc le l).flatten.Perm l.flatten
 |[]=> .refl _
 |[_]=> .refl _
 |a::b::r=>by rw[ko,Bs,Bs,Bs,<-eN];exact List.Perm.append (ad9 le) (zS le r)
theorem tC {le:Nat->Nat->Bool}(tr:∀a b c,le a b=true->le b c=true->le a c=true)(to:∀a b,(le a b||le b a)=true):∀l:pT,(∀r∈l,r.Pairwise λa b=>le a b=true)->∀r∈gc le l,r.Pairwise λa b=>le a b=true
 |[],h=>h
 |[_],h=>h
 |a::b::r,h=>λx hx=>by
  rw[ko] at hx;rcases bW.mp hx with rfl|hx
  .exact List.pairwise_merge tr to _ _ (h a (.head _)) (h b (.tail _ (.head _)))
  .exact tC tr to r (λz hz=>h z (.tail _ (.tail _ hz))) x hx
theorem IV {le:Nat->Nat->Bool}(tr:∀a b c,le a b=true->le b c=true->le a c=true)(to:∀a b,(le a b||le b a)=true):∀(f:Nat) (l:pT),l.length<=f+1->(∀r∈l,r.Pairwise λa b=>le a b=true)->
  (gU le f l).Perm l.flatten/\(gU le f l).Pairwise λa b=>le a b=true:=by
 have base:∀l:pT,l.length<=1->(∀r∈l,r.Pairwise λa b=>le a b=true)->(l.headD []).Perm l.flatten/\(l.headD []).Pairwise λa b=>le a b=true:=by
  intro l hl hs
  match l,hl with
  |[],_=>exact⟨.refl _,List.Pairwise.nil⟩
  |[a],_=>exact⟨by simp,hs a (.head _)⟩
 intro f;induction f with
 |zero=>exact λl hl hs=>base l hl hs
 |succ f ih=>
  intro l hl hs;simp only[oZ];split
  .rename_i h1
   exact base l h1 hs
  .refine xA (ih (gc le l) (by rw[pZ];omega) (tC tr to l hs)) λh1 h2=>?_
   exact⟨h1.trans (zS le l),h2⟩
theorem sV:∀l:bF,(l.map λa=>[a]).flatten=l
 |[]=>rfl
 |a::l=>by rw[fJ,Bs,sV l];rfl
theorem wM (vs:uP)(m:Nat)(kf:Nat->cH)(h:∀a b,a<m->b<m->tP vs a b= !l7 (kf b) (kf a)):(dW vs m).Perm (List.range m)/\(dW vs m).Pairwise (λa b=>l7 (kf b) (kf a)=false):=by
 unfold dW;rw[tK (le':=λa b=> !l7 (kf b) (kf a)) h m _ (λr hr a ha=>by
  refine aq (bN.mp hr) λx hx z0=>?_;subst z0;rw[ly.mp ha];exact dh.mp hx)];have tr:∀a b c,(!l7 (kf b) (kf a))=true->(!l7 (kf c) (kf b))=true->(!l7 (kf c) (kf a))=true:=λa b c h1 h2=>by
  simp only[G5] at h1 h2 ⊢;induction hc:l7 (kf c) (kf a) using pR with
  |false=>rfl
  |true=>
   rcases lN (kf a) (kf b) with q|q|q
   .have:=jC _ _ _ hc q
    rw[h2] at this;exact g5 this
   .rw[q] at hc
    rw[h2] at hc;exact g5 hc
   .rw[h1] at q;exact g5 q
 have to:∀a b,((!l7 (kf b) (kf a))||(!l7 (kf a) (kf b)))=true:=λa b=>by
  induction h1:l7 (kf b) (kf a) using pR with
  |false=>rfl
  |true=>
   induction h2:l7 (kf a) (kf b) using pR with
   |false=>rfl
   |true=>have:=jC _ _ _ h1 h2;rw[iB] at this;exact g5 this
 refine xA (IV (le:=λa b=> !l7 (kf b) (kf a)) tr to m ((List.range m).map λa=>[a]) (by simp) (λr hr=>by refine aq (bN.mp hr) λx hx z1=>?_;subst z1;exact OW _ _)) λh1 h2=>?_;simp only[sV] at h1;exact⟨h1,h2.imp λh=>by simpa using h⟩
theorem F9 {m:Nat}:∀(vs:uP) (rs:List (Nat->Int)),vs.length=rs.length->(∀p∈vs.zip rs,∀i j,i<m->j<m->(su (gD p.1.2 i) (gD p.1.2 j)<0↔p.2 i<p.2 j)/\(0<su (gD p.1.2 i) (gD p.1.2 j)↔p.2 j<p.2 i))->
  ∀i j,i<m->j<m->tP vs i j= !l7 (rs.map λr=>r j) (rs.map λr=>r i)
 |[],[],_,_,_,_,_,_=>rfl
 |[],_::_,h,_,_,_,_,_=>by cases h
 |_::_,[],h,_,_,_,_,_=>by cases h
 |v::vs,r::rs,hl,h,i,j,hi,hj=>by
  refine xA (h (v,r) (.head _) i j hi hj) λh1 h2=>?_;have ih:=F9 vs rs (OQ hl) (λp hp=>h p (.tail _ hp)) i j hi hj;simp only at h1 h2;unfold tP at ih ⊢;rw[fJ,fJ,D0,Xs];by_cases h0:su (gD v.2 i) (gD v.2 j)=0
  .rw[aG (not_not_intro h0),ih,bg (by omega)]
  .rw[bg h0,aG (by grind)]
   omega
theorem Ez (g:Gk)(hg:g.size<=5)(a b:Nat)(ha:a<g.size)(hb:b<g.size):(su (aM g (some a)) (aM g (some b))<0↔a<b)/\(0<su (aM g (some a)) (aM g (some b))↔b<a):=by
 have key:∀x y:Int,((if x<y then(-1:Int) else if y<x then 1 else 0)<0↔x<y)/\(0<(if x<y then(-1:Int) else if y<x then 1 else 0)↔y<x):=λx y=>by
  split
  .constructor<;>omega
  .split
   .constructor<;>simp_all
   .constructor<;>simp_all
 induction g using Gk.casesOn with
 |int=>have:=key ((a:Int)-1) ((b:Int)-1);show((if((a:Int)-1)<((b:Int)-1) then(-1:Int) else if((b:Int)-1)<((a:Int)-1) then 1 else 0)<0↔a<b)/\(0<(if((a:Int)-1)<((b:Int)-1) then(-1:Int) else if((b:Int)-1)<((a:Int)-1) then 1 else 0)↔b<a);simp_all
 |nZ=>have:=key (a:Int) (b:Int);show((if(a:Int)<(b:Int) then(-1:Int) else if(b:Int)<(a:Int) then 1 else 0)<0↔a<b)/\(0<(if(a:Int)<(b:Int) then(-1:Int) else if(b:Int)<(a:Int) then 1 else 0)↔b<a);simp_all
 |dR lv=>have:=key (1+(a:Int)) (1+(b:Int));show((if(1+(a:Int))<(1+(b:Int)) then(-1:Int) else if(1+(b:Int))<(1+(a:Int)) then 1 else 0)<0↔a<b)/\(0<(if(1+(a:Int))<(1+(b:Int)) then(-1:Int) else if(1+(b:Int))<(1+(a:Int)) then 1 else 0)↔b<a);simp_all
 |chr=>
  have h1:=Af a b ha hb;have h2:=Af b a hb ha;show((if(aO.getD a "").cps.toList<(aO.getD b "").cps.toList then(-1:Int) else if(aO.getD b "").cps.toList<(aO.getD a "").cps.toList then 1 else 0)<0↔a<b)/\(0<(if(aO.getD a "").cps.toList<(aO.getD b "").cps.toList then(-1:Int) else if(aO.getD b "").cps.toList<(aO.getD a "").cps.toList then 1 else 0)↔b<a);simp only[h1,h2];split
  .constructor<;>omega
  .split
   .constructor<;>simp_all
   .constructor<;>simp_all
theorem Jh {l:bF}(h:l.Pairwise (·< ·)):∀a∈l,∀b∈l,(l.idxOf a<l.idxOf b↔a<b):=by
 induction l with
 |nil=>intro a ha;exact aR ha
 |cons x l ih=>
  refine xA (J1.mp h) λh1 h2=>?_;intro a ha b hb;rw[OE,OE];by_cases ea:x=a
  .subst ea
   by_cases eb:x=b
   .rw[eb];simp
   .have hb':b∈l:=(bW.mp hb).resolve_left (λq=>eb q.symm)
    have:=h1 b hb';have q:(x==b)=false:=beq_false_of_ne eb;simp[q];omega
  .have ha':a∈l:=(bW.mp ha).resolve_left (λq=>ea q.symm)
   have q:(x==a)=false:=beq_false_of_ne ea;by_cases eb:x=b
   .subst eb
    have:=h1 a ha';simp[q];omega
   .have hb':b∈l:=(bW.mp hb).resolve_left (λq=>eb q.symm)
    have q2:(x==b)=false:=beq_false_of_ne eb;have:=ih h2 a ha' b hb';simp[q,q2];omega
theorem jo (g:Gk)(v:d8):(aU g v).Pairwise (·< ·):=by induction g using Gk.casesOn<;>first|exact OV|exact ni _ _
theorem iy {g:Gk}{v:d8}(hv:pS g v){k:Nat}(h:some k∈v):k∈aU g v:=by
 have hk:=hv k h;induction g using Gk.casesOn with
 |dR lv=>exact dh.mpr hk
 |int=>exact ji.mpr ⟨dh.mpr hk,by exact i6 h⟩
 |chr=>exact ji.mpr ⟨dh.mpr hk,by exact i6 h⟩
 |nZ=>exact ji.mpr ⟨dh.mpr hk,by exact i6 h⟩
noncomputable def bO (c:GC)(i:Nat):gF:=c.2.getD i none
theorem lD {n:Nat}{c:GC}(h:gQ n c){i:Nat}(hi:i<n):bO c i∈c.2:=by
 have qG:i<c.2.length:=by rw[h.len];exact hi
 unfold bO;rw[dS,eE qG];exact jj qG
noncomputable def Vo (c:GC):gF->Int
 |some k=>((aU c.1 c.2).idxOf k:Nat)
 |none=> -1
noncomputable def eT (gs:bT)(i:Nat):cH:=gs.reverse.map λc=>Vo c (bO c i)
theorem rS (g:Gk)(o:gF):eu (aM g o)=o.isNone:=by
 induction o using fL with
 |none=>rfl
 |some k=>induction g using Gk.casesOn<;>rfl
theorem se (c:GC)(i:Nat):gD (aX c).2.1 i=aM c.1 (bO c i):=Xb c.1 c.2 i
theorem tR (gs:bT)(i:Nat):gf (gs.map aX) i=gs.any λc=>(bO c i).isNone:=by unfold gf;rw[List.any_map];refine aT _ ?_;funext c;show eu (gD (aX c).2.1 i)=_;simp only[se,rS]
section
variable {n:Nat}{gs:bT}(w6:∀c∈gs,gQ n c)
theorem iF {gs:bT}{n i:Nat}(hi:i∈gI (gs.map aX) n):i<n/\∀c∈gs,∃k,bO c i=some k:=by
 refine xA (ji.mp hi) λh1 h2=>⟨dh.mp h1,λc hc=>?_⟩;rw[tR,G5,adI] at h2;have:=h2 c hc;induction q:bO c i using fL with
 |none=>rw[q] at this;exact absurd rfl this
 |some k=>exact⟨k,rfl⟩
include w6
theorem Lp {c:GC}(hc:c∈gs){i j:Nat}(hi:i∈gI (gs.map aX) n)(hj:j∈gI (gs.map aX) n):
  ∃a b,bO c i=some a/\bO c j=some b/\a<c.1.size/\b<c.1.size/\(Vo c (bO c i)<Vo c (bO c j)↔a<b)/\(Vo c (bO c i)=Vo c (bO c j)↔a=b):=by
 refine xA (iF hi) λvJ h1=>xA (iF hj) λhjn h2=>xE (h1 c hc) λa ea=>xE (h2 c hc) λb eb=>?_;have ok:=w6 c hc;have ha:some a∈c.2:=ea▸lD ok vJ;have hb:some b∈c.2:=eb▸lD ok hjn;have h3:=Jh (jo c.1 c.2) a (iy ok.val ha) b (iy ok.val hb);have h4:=Jh (jo c.1 c.2) b (iy ok.val hb) a (iy ok.val ha);refine(gg a b ea eb (ok.val a ha) (ok.val b hb) ?_ ?_)
 .rw[ea,eb]
  show(((aU c.1 c.2).idxOf a:Nat):Int)<(((aU c.1 c.2).idxOf b:Nat):Int)↔_;simp_all
 .rw[ea,eb]
  show(((aU c.1 c.2).idxOf a:Nat):Int)=(((aU c.1 c.2).idxOf b:Nat):Int)↔_;omega
theorem Vl {i j:Nat}(hi:i∈gI (gs.map aX) n)(hj:j∈gI (gs.map aX) n):eT gs i=eT gs j↔∀c∈gs,bO c i=bO c j:=by
 unfold eT;rw[Yw];refine⟨λh c hc=>?_,λh c hc=>?_⟩
 .refine f9 (Lp w6 hc hi hj) λa b ea eb z z z h2=>?_
  rw[ea,eb,h2.mp (h c (JY.mpr hc))]
 .rw[h c (JY.mp hc)]
theorem Ws {i j:Nat}(keys:ay)(iY:keys=(List.range n).map (cy ((gs.map aX).map λc=>eZ (cD c))))(hi:i∈gI (gs.map aX) n)(hj:j∈gI (gs.map aX) n):
  keys.getD i ""=keys.getD j ""↔eT gs i=eT gs j:=by
 have vJ:=(iF hi).1;have hjn:=(iF hj).1;have hk:∀k,k<n->keys.getD k ""=cy (gs.map fun c=>eZ (cD (aX c))) k:=fun k hk=>by rw[iY,eL];simp[dS,hk];rfl
 simp only[hk i vJ,hk j hjn,rT gs w6 i j vJ hjn,Vl w6 hi hj];rfl
theorem Se (firsts:bF)(hf:∀p∈firsts,p∈gI (gs.map aX) n)(heads:uP)(mO:heads=(gs.map aX).reverse.map λc=>(c.1,firsts.map (gD c.2.1))):
  ∀a b,a<firsts.length->b<firsts.length->tP heads a b= !l7 (eT gs (firsts.getD b 0)) (eT gs (firsts.getD a 0)):=by
 intro a b ha hb;have Jo:∀k,k<firsts.length->firsts.getD k 0∈firsts:=λk hk=>by rw[dS,eE hk];exact jj hk
 have e0:heads=gs.reverse.map λc=>((aX c).1,firsts.map (gD (aX c).2.1)):=by rw[mO,<-List.map_reverse,eL];rfl
 have key:=F9 (m:=firsts.length) heads (gs.reverse.map λc=>λj=>Vo c (bO c (firsts.getD j 0))) (by simp only[e0,bw,bw]) (λp hp i j hi hj=>?_) a b ha hb
 .rw[key,eL,eL]
  rfl
 .rw[e0,List.zip_map',bN] at hp
  refine aq hp λc hc z0=>clear% hp;?_;subst z0;have hc:=JY.mp hc;have hg:∀k,k<firsts.length->gD (firsts.map (gD (aX c).2.1)) k=aM c.1 (bO c (firsts.getD k 0)):=λk hk=>by
   rw[<-se];have hk2:k<(firsts.map (gD (aX c).2.1)).length:=by simpa using hk
   conv=>lhs;rw[gD,dS,eE hk2,jV,yq]
   simp only[dS,eE hk,jV]
  show(su (gD (firsts.map (gD (aX c).2.1)) i) (gD (firsts.map (gD (aX c).2.1)) j)<0↔Vo c (bO c (firsts.getD i 0))<Vo c (bO c (firsts.getD j 0)))/\(0<su (gD (firsts.map (gD (aX c).2.1)) i) (gD (firsts.map (gD (aX c).2.1)) j)↔Vo c (bO c (firsts.getD j 0))<Vo c (bO c (firsts.getD i 0)));rw[hg i hi,hg j hj];refine f9 (Lp w6 hc (hf _ (Jo i hi)) (hf _ (Jo j hj))) λx y ex ey hx hy h1 h2=>f9 (Lp w6 hc (hf _ (Jo j hj)) (hf _ (Jo i hi))) λy' x' ey' ex' z z h3 z=>?_;rw[ex] at ex';cases ex';rw[ey] at ey';cases ey';have h5:c.1.size<=5:=by
   cases To:c.1 with
   |dR lv=>have:=(vp lv ((w6 c hc).gk lv To)).2.1;omega
   |_=>decide
  refine xA (Ez c.1 h5 x y hx hy) λh6 h7=>?_;rw[h1,h3,ex,ey];exact⟨h6,h7⟩
end
theorem abU {K:Type}[DecidableEq K](ks:List K):(jT ks).Sublist ks:=by
 refine oi (P:=λks=>(jT ks).Sublist ks) (by simp[jT]) (λl p ih=>?_) ks;rw[lT];split
 .exact ih.trans (OY _ _)
 .exact ih.append (fZ _)
theorem Ml {keys:ay}{kept:bF}{p q:Nat}(hp:p∈k8 keys kept)(hq:q∈k8 keys kept)(h:keys.getD p ""=keys.getD q ""):p=q:=by have h1:=jx (ji.mp hp).2;have h2:=jx (ji.mp hq).2;rw[h] at h1;exact h1.symm.trans h2
theorem Sq {keys:ay}{kept:bF}{q:Nat}(hq:q∈kept):∃p∈k8 keys kept,keys.getD p ""=keys.getD q "":=by
 have hm:q∈gZ keys kept (keys.getD q ""):=ji.mpr ⟨hq,beq_self_eq_true _⟩;have hh:(gZ keys kept (keys.getD q "")).headD 0∈gZ keys kept (keys.getD q ""):=by
  induction h:gZ keys kept (keys.getD q "") using nU with
  |nil=>rw[h] at hm;exact aR hm
  |cons a l=>exact .head _
 refine xA (ji.mp hh) λh1 h2=>?_;have h2:=eH.mp h2;refine⟨(gZ keys kept (keys.getD q "")).headD 0,ji.mpr ⟨h1,?_⟩,h2⟩;unfold AJ;rw[h2];exact i6 rfl
theorem Rn {n:Nat}{gs:bT}(w6:∀c∈gs,gQ n c)(keys:ay)(iY:keys=(List.range n).map (cy ((gs.map aX).map λc=>eZ (cD c))))(kept firsts:bF)(ud:kept=gI (gs.map aX) n)(jt:firsts=k8 keys kept)
  (heads:uP)(mO:heads=(gs.map aX).reverse.map λc=>(c.1,firsts.map (gD c.2.1)))(bV:B6)(hy:bV.Perm (kept.map (eT gs)))(hs:bV.Pairwise λa b=>l7 b a=false):
  (∀k∈dW heads firsts.length,k<firsts.length)/\(dW heads firsts.length).length=firsts.length/\
  ((dW heads firsts.length).map fun j=>gZ keys kept (keys.getD (firsts.getD j 0) ""))=(jT bV).map fun r=>kept.filter fun i=>decide (eT gs i=r):=by
 have hfk:∀p∈firsts,p∈kept:=λp hp=>by rw[jt] at hp;exact(ji.mp hp).1
 have aoe:∀p∈firsts,p∈gI (gs.map aX) n:=λp hp=>ud▸hfk p hp;have Jo:∀k,k<firsts.length->firsts.getD k 0∈firsts:=λk hk=>by rw[dS,eE hk];exact jj hk
 refine xA (wM heads firsts.length (λj=>eT gs (firsts.getD j 0)) (Se w6 firsts aoe heads mO)) λh1 h2=>?_;have iX:∀k∈dW heads firsts.length,k<firsts.length:=λk hk=>dh.mp (h1.mem_iff.mp hk);refine⟨iX,by rw[h1.length_eq,iU],?_⟩;generalize dW heads firsts.length=ord at h1 h2 iX ⊢;have hki:∀i∈kept,∀j∈kept,(keys.getD i ""=keys.getD j ""↔eT gs i=eT gs j):=fun i hi j hj=>Ws w6 keys iY (ud▸hi) (ud▸hj);have hgr:∀p∈kept,gZ keys kept (keys.getD p "")=kept.filter fun i=>decide (eT gs i=eT gs p):=fun p hp=>by unfold gZ;refine BH λi hi=>?_;rw[qM,eH,i7];exact hki i hi p hp
 have aoc:firsts.Nodup:=by rw[jt];refine YS yr ?_;rw[ud];exact YS yr BE
 have e1:(ord.map fun j=>gZ keys kept (keys.getD (firsts.getD j 0) ""))=(ord.map fun j=>eT gs (firsts.getD j 0)).map fun r=>kept.filter fun i=>decide (eT gs i=r):=by rw[eL];exact dZ λj hj=>hgr _ (hfk _ (Jo j (iX j hj)))
 rw[e1];congr 1;refine mj (lt:=λa b=>l7 a b=true) (λa h=>by rw[iB] at h;exact g5 h) (λa b h1 h2=>by have:=jC _ _ _ h1 h2;rw[iB] at this;exact g5 this) ?_ ?_ λx=>?_
 .refine J0.mpr ?_
  have nN:ord.Nodup:=h1.nodup_iff.mpr BE;refine SM ?_ (h2.and nN);intro a b ha hb ⟨q1,q2⟩;have N2:eT gs (firsts.getD a 0)≠eT gs (firsts.getD b 0):=λe=>by
   have ma:=Jo a (iX a ha);have mb:=Jo b (iX b hb);have e2:=(hki _ (hfk _ ma) _ (hfk _ mb)).mpr e;have hff:∀p,p∈firsts->p∈k8 keys kept:=λp hp=>by rw[<-jt];exact hp
   have e3:=Ml (hff _ ma) (hff _ mb) e2;have la:=iX a ha;have lb:=iX b hb;rw[dS,eE la,dS,eE lb] at e3;exact q2 ((List.getElem_inj aoc).mp e3)
  rcases lN (eT gs (firsts.getD a 0)) (eT gs (firsts.getD b 0)) with q|q|q
  .exact q
  .exact absurd q N2
  .rw[q1] at q;exact g5 q
 .refine SM ?_ ((hs.sublist (abU bV)).and (Er bV))
  intro a b ha hb ⟨q1,q2⟩;rcases lN a b with q|q|q
  .exact q
  .exact absurd q q2
  .rw[q1] at q;exact g5 q
 .rw[yQ,hy.mem_iff,bN,bN]
  constructor
  .rintro ⟨j,hj,rfl⟩
   exact⟨_,hfk _ (Jo j (iX j hj)),rfl⟩
  .intro z0;refine aq z0 λq hq z1=>clear% z0;?_;subst z1
   refine aq (Sq (keys:=keys) hq) λp hp e=>?_;rw[<-jt] at hp;obtain⟨j,hj,ej⟩:=Kr.mp hp;refine⟨j,h1.mem_iff.mpr (dh.mpr hj),?_⟩;have:firsts.getD j 0=p:=by rw[dS,eE hj];exact ej
   rw[this];exact(hki p (hfk p hp) q hq).mp e
theorem XJ (g:Gk):Tt g.attrs g.attrs:=by
 induction g using Gk.casesOn with
 |dR lv=>exact .dR _
 |_=>exact .none
theorem LC (g:Gk):(g.name==("double":aa))=false/\(g.name==("NULL":aa))=false/\eU g.name=true:=by
 induction g using Gk.casesOn with
 |int=>exact(by decide+kernel:(("integer":aa)==("double":aa))=false/\(("integer":aa)==("NULL":aa))=false/\eU "integer"=true)
 |chr=>exact(by decide+kernel:(("character":aa)==("double":aa))=false/\(("character":aa)==("NULL":aa))=false/\eU "character"=true)
 |nZ=>exact(by decide+kernel:(("logical":aa)==("double":aa))=false/\(("logical":aa)==("NULL":aa))=false/\eU "logical"=true)
 |dR lv=>exact(by decide+kernel:(("integer":aa)==("double":aa))=false/\(("integer":aa)==("NULL":aa))=false/\eU "integer"=true)
theorem Bf (g:Gk)(a b:Nat):nK (aM g (some a)) (aM g (some b)):=by
 induction g using Gk.casesOn with
 |chr=>exact .str _ _
 |_=>exact .int _ _
noncomputable def e8 (gs:bT)(n:Nat):bF:=gI (gs.map aX) n
structure Srt (gs:bT) (n:Nat) (bV:B6):Prop where
 perm:bV.Perm ((e8 gs n).map (eT gs))
 sorted:bV.Pairwise λa b=>l7 b a=false
noncomputable def aH (gs:bT)(n:Nat)(bV:B6):pT:=(jT bV).map λr=>(e8 gs n).filter λi=>decide (eT gs i=r)
theorem Ek {n:Nat}(hn:n<=50)(gs:bT)(w6:∀c∈gs,gQ n c)(h0:gs≠[])(hl:gs.length<=50)(bV:B6)(hy:Srt gs n bV):aE 822 8 [.list ((gs.map aX).map cD)] (λr=>r=.list ((aH gs n bV).map λps=> .list (ps.map nD))):=by
 refine nX (Rn w6 _ rfl _ _ rfl rfl _ rfl bV hy.perm hy.sorted) λh1 h2 h3=>?_;have HD:(k8 ((List.range n).map (cy ((gs.map aX).map λc=>eZ (cD c)))) (gI (gs.map aX) n)).length<=n:=by refine aB (jk _ _) (aB (jk _ _) ?_);rw[iU];exact br _
 have:=vK (gs.map aX) eZ n (by simpa using h0) (by rw[bw];omega) (by omega) (λc hc=>by refine aq (bN.mp hc) λc' ju z0=>?_;subst z0;exact nX (LC c'.1) λn1 n2 n3=>⟨n1,n2,n3,XJ c'.1,by rw[<-(w6 c' ju).len];exact bw ..⟩)
  (λc hc=>by
   refine aq (bN.mp hc) λc' ju z1=>?_;subst z1;exact iT c' (w6 c' ju) hn) (λc hc=>by
   refine aq (bN.mp hc) λc' ju z2=>?_;subst z2;exact Hl c' (w6 c' ju)) _ rfl _ _ rfl rfl _ rfl (λc hc i hi j hj=>by
   refine aq (bN.mp hc) λc' ju z3=>?_;subst z3;have qG:=(ji.mp hi).1;have Sa:=(ji.mp hj).1;refine xE ((iF qG).2 c' ju) λa ea=>xE ((iF Sa).2 c' ju) λb eb=>?_;rw[se,se,ea,eb];exact Bf c'.1 a b) h1 (by rw[h2];exact aB HD (aB hn (by decide)));have e:((dW ((gs.map aX).reverse.map fun c=>(c.1,(k8 ((List.range n).map (cy ((gs.map aX).map fun c=>eZ (cD c)))) (gI (gs.map aX) n)).map (gD c.2.1))) (k8 ((List.range n).map (cy ((gs.map aX).map fun c=>eZ (cD c)))) (gI (gs.map aX) n)).length).map fun j=>D.list ((gZ ((List.range n).map (cy ((gs.map aX).map fun c=>eZ (cD c)))) (gI (gs.map aX) n) (((List.range n).map (cy ((gs.map aX).map fun c=>eZ (cD c)))).getD ((k8 ((List.range n).map (cy ((gs.map aX).map fun c=>eZ (cD c)))) (gI (gs.map aX) n)).getD j 0) "")).map nD))=(aH gs n bV).map fun ps=>D.list (ps.map nD):=by
  have:=aT (λl:pT=>l.map λps=>D.list (ps.map nD)) h3;simp only[eL] at this ⊢;unfold aH;simp only[eL];exact this
 rw[e] at this;exact this
theorem zO {n:Nat}{gs:bT}{bV:B6}(hy:Srt gs n bV):∀ps∈aH gs n bV,ps≠[]/\ps.length<=n/\∀p∈ps,p<n:=by
 intro ps kI;refine aq (bN.mp kI) λr hr z0=>?_;subst z0;refine⟨λq=>?_,?_,λp hp=>?_⟩
 .have:=hy.perm.mem_iff.mp ((yQ _ r).mp hr)
  refine aq (bN.mp this) λi hi z1=>?_;subst z1;have:i∈(e8 gs n).filter λj=>decide (eT gs j=eT gs i):=ji.mpr ⟨hi,i6 rfl⟩;rw[q] at this;exact aR this
 .refine aB (jk _ _) (aB (jk _ _) ?_)
  rw[iU];exact br _
 .exact dh.mp (ji.mp (ji.mp hp).1).1
theorem wJ {n:Nat}{gs:bT}{bV:B6}(hy:Srt gs n bV):(aH gs n bV).length<=n:=by unfold aH;rw[bw];refine aB (kM bV) ?_;rw[hy.perm.length_eq,bw];refine aB (jk _ _) ?_;rw[iU];exact br _
noncomputable def oO:Nat->av
 |0=>901
 |1=>908
 |_=>915
noncomputable def lI (w:Nat)(v:d8):ak:=
 match w with
 |0=>[.int (aiB v)]
 |1=>[nD v.length]
 |_=>[nD v.length,.int 7]
noncomputable def m7 (w:Nat)(v:d8):D:=dX (lI w v)
theorem Vz (w:Nat)(v:d8)(hn:v.length<=1000):aE (oO w) 5 [cD (bX .int v)] (λr=>r=m7 w v):=by
 match w with
 |0=>exact RL v hn
 |1=>exact I5 v
 |w+2=>exact RK v
theorem DL (w:Nat):∀P,wU P (.ref (oO w))=true:=by
 match w with
 |0=>exact λP=>by kernel_rfl
 |1=>exact λP=>by kernel_rfl
 |w+2=>exact λP=>by kernel_rfl
noncomputable def nQ (w:Nat)(places:pT)(v:d8):D:=
 if w<2 then dX (places.map fun ps=>(lI w (ps.map fun p=>v.getD p none)).headD .none) else .vec "list" (.list (places.map fun ps=>m7 w (ps.map fun p=>v.getD p none))) .none
noncomputable def ME (places:pT)(c:GC):D:=cD (bX c.1 ((places.map λps=>ps.headD 0).map (bO c)))
noncomputable def Jg (d:D):gF:=nM d.ctorIdx 2 (λh=>D.int.elim (motive_1:=λz=>gF) d h λi=>some (i+1).toNat) none
theorem JX {n:Nat}(hn:n<=50)(w:Nat)(hw:w<3)(gs:bT)(vs:List d8)(gn vn:ay)(w6:∀c∈gs,gQ n c)(nc:∀v∈vs,gQ n (.int,v))(h0:gs≠[])(hl:vs.length+gs.length<=50)(Tj:vn.length+gn.length<=100)
  (bV:B6)(hy:Srt gs n bV)(vI:aH gs n bV≠[]):
  aE 841 9 [.list ((vs.map (bX .int)).map cD),.list (vn.map .str),.list ((gs.map aX).map cD),.list (gn.map .str),.const (.ref (oO w))] (fun r=>r=.vec "list" (.list (gs.map (ME (aH gs n bV))++vs.map (nQ w (aH gs n bV)))) (jd ((gn++vn).map .str) ((List.range (aH gs n bV).length).map fun k=>nD (k+1)))):=by
 have w5:=wJ hy;have WO:=zO hy;have Tn:=Ek hn gs w6 h0 (ad1 hl) bV hy;generalize aH gs n bV=places at w5 WO Tn vI ⊢;have aku:∀c∈vs.map (bX .int)++gs.map aX,c.2.1.length=n/\Tt c.2.2 c.2.2:=λc hc=>by
  refine fU (j6.mp hc) (λhc=>?_) λhc=>?_
  .refine aq (bN.mp hc) λv hv z0=>?_;subst z0
   exact⟨by rw[<-(nc v hv).len];exact bw ..,.none⟩
  .refine aq (bN.mp hc) λc' ju z1=>?_;subst z1
   exact⟨by rw[<-(w6 c' ju).len];exact bw ..,XJ c'.1⟩
 have N1:∀v:d8,(v.map (aM .int)).map Jg=v:=λv=>by
  rw[eL];refine(dZ λo _=>?_).trans (sF v);induction o using fL with
  |none=>rfl
  |some k=>show some ((k:Int)-1+1).toNat=some k;congr 1;simp
 have WQ:∀(v:d8) (ps:bF),fE (bX .int v) ps=bX .int (ps.map λp=>v.getD p none):=λv ps=>rR .int v ps;have:=G3 (oO w) (vs.map (bX .int)) (gs.map aX) vn gn n places (λc=>m7 w (c.2.1.map Jg)) (λc=>nQ w places (c.2.1.map Jg)) (DL w) (by omega)
  (by simpa using h0) (by rw[bw,bw];omega) Tj (λc hc=>(aku c hc).1) (λc hc=>(aku c hc).2) vI (aB w5 (aB hn (by decide))) (λps kI=>⟨(WO ps kI).1,by have:=(WO ps kI).2.1;omega,(WO ps kI).2.2⟩) Tn (λc hc ps kI=>?_) (λc hc=>?_) (λc hc=>?_)
 .have e1:((gs.map aX).map λc=>cD (fE c (places.map λps=>ps.headD 0)))=gs.map (ME places):=by
   rw[eL];exact dZ λc _=>by show cD (fE (bX c.1 c.2) _)=_;rw[rR];rfl
  have e2:((vs.map (bX .int)).map λc=>nQ w places (c.2.1.map Jg))=vs.map (nQ w places):=by rw[eL];exact dZ λv _=>aT (nQ w places) (N1 v)
  rw[e1,e2] at this;exact this
 .refine aq (bN.mp hc) λv hv z2=>?_;subst z2
  rw[WQ];show aE _ _ _ (λr=>r=m7 w (((ps.map λp=>v.getD p none).map (aM .int)).map Jg));rw[N1];exact Vz w _ (by rw[bw];have:=(WO ps kI).2.1;omega)
 .refine aq (bN.mp hc) λv hv z3=>?_;subst z3
  show aE _ _ [.list (places.map λps=>m7 w ((fE (bX .int v) ps).2.1.map Jg))] (λr=>r=nQ w places ((v.map (aM .int)).map Jg));have e1:(places.map λps=>m7 w ((fE (bX .int v) ps).2.1.map Jg))=places.map λps=>m7 w (ps.map λp=>v.getD p none):=dZ λps _=>by rw[WQ];exact aT (m7 w) (N1 _)
  rw[e1,N1];unfold nQ;split
  .rename_i h2
   have e2:(places.map λps=>m7 w (ps.map λp=>v.getD p none))=(places.map λps=>(lI w (ps.map λp=>v.getD p none)).headD .none).map λx=>dX [x]:=by
    rw[eL];refine dZ λps _=>?_
    match w,h2 with
    |0,_=>rfl
    |1,_=>rfl
   rw[e2];exact rW _ (by simpa using vI) (by rw[bw];exact aB w5 (aB hn (by decide)))
  .rename_i h2
   have e2:(places.map λps=>m7 w (ps.map λp=>v.getD p none))=(places.map λps=>lI w (ps.map λp=>v.getD p none)).map dX:=by rw[eL];rfl
   rw[e2];refine rU _ (by simpa using vI) (by rw[bw];exact aB w5 (aB hn (by decide))) (λl hl=>?_);refine aq (bN.mp hl) λps _ z4=>?_;subst z4
   match w,h2 with
   |0,h=>exact absurd Nat.zero_lt_two h
   |1,h=>exact absurd Nat.one_lt_two h
   |w+2,_=>rfl
 .show ∃k i t,nQ w places _=_
  unfold nQ;split
  .exact(ua _ _ _ rfl)
  .exact(ua _ _ _ rfl)
theorem aE.up {f:av}{n m:Nat}{ds:ak}{P:kc}(x:aE f n ds P)(h:n<=m):aE f m ds P:=λfr gl A E V Q hf room k=>x fr gl A E V Q hf (room.le h) k
theorem aE.weak {f:av}{n:Nat}{ds:ak}{P P':kc}(x:aE f n ds P)(h:∀d,P d->P' d):aE f n ds P':=λfr gl A E V Q hf room k=>x fr gl A E V Q hf room λd hd=>k d (h d hd)
theorem RX (g:Gk)(hg:∀lv,g≠.dR lv)(a b:gF)(ha:∀k,a=some k->k<g.size)(hb:∀k,b=some k->k<g.size)(h:wV g.name (aM g a)=wV g.name (aM g b)):a=b:=by
 have key:(∀a b:Fin (g.size+1),wV g.name (aM g (oF g.size a.val))=wV g.name (aM g (oF g.size b.val))->a.val=b.val)->a=b:=by intro hf;refine xE (yM a ha) λa' z0=>?_;subst z0;refine xE (yM b hb) λb' z1=>?_;subst z1;rw[hf _ _ h]
 refine key ?_;clear key h ha hb;induction g using Gk.casesOn with
 |int=>decide+kernel
 |chr=>decide+kernel
 |nZ=>decide+kernel
 |dR lv=>exact absurd rfl (hg lv)
theorem Px (ks:ay)(n:Nat)(hn:ks.length=n)(k:Nat):k∈qR ks n↔k<n/\ks.idxOf (ks.getD k "")=k:=by
 unfold qR;rw[ji,dh,i7];refine and_congr_right λhk=>?_;have iR:k<ks.length:=by simp_all
 unfold bl;simp[dS,iR]
theorem Ji {ks:ay}{k:Nat}(hk:k<ks.length):∃p,p<ks.length/\ks.getD p ""=ks.getD k ""/\ks.idxOf (ks.getD p "")=p:=by
 have hm:ks.getD k ""∈ks:=by rw[dS,eE hk];exact jj hk
 have hl:=OX.mpr hm;have e:ks.getD (ks.idxOf (ks.getD k "")) ""=ks.getD k "":=by rw[dS,eE hl];exact YD hl
 exact⟨_,hl,e,by rw[e]⟩
section
variable {n:Nat}{c:GC}
theorem qj (h:gQ n c){k:Nat}(hk:k<n):(eS (aX c)).getD k ""=wV c.1.name (aM c.1 (bO c k)):=by simp only[akO (show k<(aX c).2.1.length by rw[show(aX c).2.1.length=n from by rw[<-h.len];exact bw ..];exact hk),se];rfl
theorem vB (h:gQ n c):(eS (aX c)).length=n:=by unfold eS;rw[bw];simp only[<-h.len];exact bw ..
theorem lJ (h:gQ n c)(k:Nat):k∈aI (aX c)↔k<n/\(eS (aX c)).idxOf ((eS (aX c)).getD k "")=k/\∃x,bO c k=some x:=by
 unfold aI;have hl:(aX c).2.1.length=n:=by rw[<-h.len];exact bw ..
 rw[ji,hl,Px _ _ (vB h),se,rS,and_assoc];refine and_congr_right λz=>and_congr_right λz=>?_;cases bO c k<;>simp
theorem Rk (h:gQ n c){p q:Nat}(hp:p∈aI (aX c))(hq:q∈aI (aX c))(e:bO c p=bO c q):p=q:=by refine nX ((lJ h p).mp hp) λh1 h2 z=>nX ((lJ h q).mp hq) λh3 h4 z=>?_;rw[qj h h1,e,<-qj h h3] at h2;exact h2.symm.trans h4
theorem VB (h:gQ n c):(aI (aX c)).Nodup:=by delta aI qR;exact YS (yr.trans yr) BE
theorem VA (h:gQ n c)(hg:∀lv,c.1≠.dR lv){k x:Nat}(hx:some x∈c.2):∃p∈aI (aX c),bO c p=some x:=by
 obtain⟨i,hi,e⟩:=Kr.mp hx;have vJ:i<n:=by rw[<-h.len];exact hi
 have ei:bO c i=some x:=by unfold bO;rw[dS,eE hi];exact e
 refine gb (Ji (ks:=eS (aX c)) (k:=i) (by rw[vB h];exact vJ)) λp hp e1 e2=>?_;simp only[vB h] at hp;have ev:bO c p=some x:=by simp only[qj h hp,qj h vJ] at e1;rw[RX c.1 hg _ _ (h.mem (lD h hp)) (h.mem (lD h vJ)) e1,ei]
 exact⟨p,(lJ h p).mpr ⟨hp,e2,x,ev⟩,ev⟩
noncomputable def jb (c:GC)(k:Nat):Nat:=(bO c k).getD 0
theorem DQ (h:gQ n c)(hg:∀lv,c.1≠.dR lv)(hs:c.1.size<=5):(∀k∈dW [((aX c).1,(aI (aX c)).map (gD (aX c).2.1))] (aI (aX c)).length,k<(aI (aX c)).length)/\(∀k∈gA (aX c),k∈aI (aX c))/\(gA (aX c)).map (jb c)=aU c.1 c.2:=by
 have Jo:∀k,k<(aI (aX c)).length->(aI (aX c)).getD k 0∈aI (aX c):=λk hk=>by rw[dS,eE hk];exact jj hk
 have CY:∀p∈aI (aX c),bO c p=some (jb c p)/\jb c p<c.1.size/\some (jb c p)∈c.2:=λp hp=>by
  refine ZN ((lJ h p).mp hp) λh1 z x ex=>?_;have:jb c p=x:=by unfold jb;rw[ex];rfl
  rw[this];exact⟨ex,h.mem (lD h h1) x ex,ex▸lD h h1⟩
 refine xA (wM [((aX c).1,(aI (aX c)).map (gD (aX c).2.1))] (aI (aX c)).length (λj=>[((jb c ((aI (aX c)).getD j 0):Nat):Int)]) (λa b ha hb=>by
  refine F9 (m:=(aI (aX c)).length) [((aX c).1,(aI (aX c)).map (gD (aX c).2.1))] [λj=>((jb c ((aI (aX c)).getD j 0):Nat):Int)] rfl (λp hp i j hi hj=>?_) a b ha hb;rw[adO,List.zip_nil_right,ly] at hp;rw[hp];have hgg:∀k,k<(aI (aX c)).length->gD ((aI (aX c)).map (gD (aX c).2.1)) k=aM c.1 (some (jb c ((aI (aX c)).getD k 0))):=λk hk=>by
   have hk2:k<((aI (aX c)).map (gD (aX c).2.1)).length:=by simpa using hk
   conv=>lhs;rw[gD,dS,eE hk2,jV,yq]
   rw[se,<-(CY _ (Jo k hk)).1,dS,eE hk,jV]
  show(su (gD ((aI (aX c)).map (gD (aX c).2.1)) i) (gD ((aI (aX c)).map (gD (aX c).2.1)) j)<0↔((jb c ((aI (aX c)).getD i 0):Nat):Int)<((jb c ((aI (aX c)).getD j 0):Nat):Int))/\(0<su (gD ((aI (aX c)).map (gD (aX c).2.1)) i) (gD ((aI (aX c)).map (gD (aX c).2.1)) j)↔((jb c ((aI (aX c)).getD j 0):Nat):Int)<((jb c ((aI (aX c)).getD i 0):Nat):Int));rw[hgg i hi,hgg j hj];have:=Ez c.1 hs _ _ (CY _ (Jo i hi)).2.1 (CY _ (Jo j hj)).2.1;simp_all)) λh1 h2=>?_;have iX:∀k∈dW [((aX c).1,(aI (aX c)).map (gD (aX c).2.1))] (aI (aX c)).length,k<(aI (aX c)).length:=λk hk=>dh.mp (h1.mem_iff.mp hk);refine⟨iX,λk hk=>?_,?_⟩
 .unfold gA at hk
  refine aq (bN.mp hk) λj hj xr=>?_;subst xr;exact Jo j (iX j hj)
 .unfold gA
  rw[eL];generalize dW [((aX c).1,(aI (aX c)).map (gD (aX c).2.1))] (aI (aX c)).length=ord at h1 h2 iX ⊢;refine mj (lt:=(·< ·)) (λa=>qL a) (λa b h=>by exact Kf (Bq h)) ?_ (jo _ _) λx=>?_
  .refine J0.mpr ?_
   have nN:ord.Nodup:=h1.nodup_iff.mpr BE;refine SM ?_ (h2.and nN);intro a b ha hb ⟨q1,q2⟩;have ma:=Jo a (iX a ha);have mb:=Jo b (iX b hb);show jb c ((aI (aX c)).getD a 0)<jb c ((aI (aX c)).getD b 0);have jr:jb c ((aI (aX c)).getD a 0)≠jb c ((aI (aX c)).getD b 0):=λe=>by have e3:=Rk h ma mb (by rw[(CY _ ma).1,(CY _ mb).1,e]);have la:=iX a ha;have lb:=iX b hb;rw[dS,eE la,dS,eE lb] at e3;exact q2 ((List.getElem_inj (VB h)).mp e3)
   have q1:l7 [((jb c ((aI (aX c)).getD b 0):Nat):Int)] [((jb c ((aI (aX c)).getD a 0):Nat):Int)]=false:=q1;rw[l7,aG (by exact Nat.ToInt.of_diseq rfl rfl (id (lq jr)))] at q1;have:=of_decide_eq_false q1;omega
  .rw[bN]
   constructor
   .rintro ⟨j,hj,rfl⟩
    exact iy h.val (CY _ (Jo j (iX j hj))).2.2
   .intro hx
    have hx':some x∈c.2:=by
     cases To:c.1 with
     |dR lv=>exact absurd To (hg lv)
     |_=>rw[To] at hx;simpa using(ji.mp hx).2
    refine aq (VA (k:=0) h hg hx') λp hp e=>?_;obtain⟨j,hj,ej⟩:=Kr.mp hp;refine⟨j,h1.mem_iff.mpr (dh.mpr hj),?_⟩;show jb c ((aI (aX c)).getD j 0)=x;have:(aI (aX c)).getD j 0=p:=by rw[dS,eE hj];exact ej
    rw[this];unfold jb;rw[e];rfl
end
noncomputable def Wq (g:Gk):D->D:=match g with
 | .int=>λd=>match d with| .int i=> .str (toString i)|_=> .none
 | .nZ=>Wf
 |_=>id
noncomputable def qA (c:GC):ak:=match c.1 with
 | .dR lv=>lv.map .str
 |g=>(gA (aX c)).map λk=>Wq g (gD (aX c).2.1 k)
noncomputable def bk (c:GC):d8:=c.2.map (jK c.1 c.2)
theorem wQ (hn:n<=50)(c:GC)(h:gQ n c):aE 853 9 [cD (aX c)] (λr=>r=.tup [.list (qA c),.list ((bk c).map oD)]):=by
 obtain⟨g,v⟩:=c;have hl:v.length=n:=h.len;have dR:∀lv,g=.dR lv->aE 853 9 [cD (aX (g,v))] (λr=>r=.tup [.list (qA (g,v)),.list ((bk (g,v)).map oD)]):=by
  rintro lv rfl;have:=CE (lv.map .str) (v.map (aM (.dR lv))) (by rw[bw];exact aB (fh hl) (aB hn (by decide))) (λd hd=>by
   refine aq (bN.mp hd) λo z xr=>?_;subst xr;induction o using fL with
   |none=>exact .inl rfl
   |some k=>exact .inr ⟨_,rfl⟩);rw[eL] at this;refine aE.up (aE.weak this λr hr=>hr.trans (aT (λl=>D.tup [.list (lv.map .str),.list l]) ?_)) (fu rfl);unfold bk;rw[eL];refine dZ λo ho=>?_;induction o using fL with
  |none=>rfl
  |some k=>
   have hk:k<lv.length:=h.val k ho;show D.int (1+(k:Int)-1)=nD ((List.range lv.length).idxOf k);have h1:(List.range lv.length).idxOf k=k:=by have:=YZ (BE (n:=lv.length)) k (by simpa using hk);simpa using this
   rw[h1];show D.int _=D.int _;congr 1;exact YQ.mpr rfl
 by_cases hf:∃lv,g=.dR lv
 .exact xE hf λlv e=>dR lv e
 have hg:∀lv,g≠.dR lv:=λlv e=>hf ⟨lv,e⟩;have hs:g.size<=5:=by induction g using Gk.casesOn with|dR lv=>exact absurd rfl (hg lv)|_=>decide
 have ha:g.attrs=.none:=by clear hn h hl hf hs;induction g using Gk.casesOn with|dR lv=>exact absurd rfl (hg lv)|_=>rfl
 refine nX (DQ (c:=(g,v)) h hg hs) λs1 s2 s3=>nX (LC g) λn1 n2 n3=>?_;have dg:(aX (g,v)).2.1.length=n:=by rw[<-hl];exact bw ..
 have Tq:∀k∈gA (aX (g,v)),k<n/\bO (g,v) k=some (jb (g,v) k):=λk hk=>by exact ZN ((lJ h k).mp (s2 k hk)) λh1 z x ex=>⟨h1,by unfold jb;rw[ex];rfl⟩
 have To:∀k,k<n->(v.map (iD g)).getD k ""=iD g (bO (g,v) k):=fun k hk=>by have iR:k<v.length:=eW hk (fh (fH hl));unfold bO;simp[dS,iR]
 have L7:((gA (aX (g,v))).map fun k=>(v.map (iD g)).getD k "")=(aU g v).map fun k=>iD g (some k):=by have:aU g v=(gA (aX (g,v))).map (jb (g,v)):=s3.symm;rewrite [this,eL];refine dZ λk hk=>?_;rw[To k (Tq k hk).1,(Tq k hk).2];rfl
 have hpv:∀k∈aU g v,k<g.size:=λk hk=>by have:(aU g v)=(gA (aX (g,v))).map (jb (g,v)):=s3.symm;rw[this] at hk;refine aq (bN.mp hk) λp hp xr=>?_;subst xr;exact h.get p _ ((Tq p hp).2)
 have WX:∀i∈aU g v,∀j∈aU g v,iD g (some i)=iD g (some j)->i=j:=λi hi j hj e=>by have:=Au g h.gk (some i) (some j) (λk q=>by cases q;exact hpv i hi) (λk q=>by cases q;exact hpv j hj) e;clear hn h hl dR hf hg hs ha s1 s2 s3 n1 n2 n3 dg Tq To L7 hpv hi hj e;cases this;rfl
 have xW:∀d∈(aX (g,v)).2.1,aE 332 1 [.str (aX (g,v)).1,d] (λr=>r=Wq g d):=λd hd=>by
  refine aq (bN.mp hd) λo ho xr=>?_;subst xr;clear hn hl hf hs ha s1 s2 s3 n1 n2 n3 dg Tq To L7 hpv WX hd;induction o using fL with
  |none=>
   have:Wq g (aM g none)=.none:=by clear h dR hg ho;induction g using Gk.casesOn<;>rfl
   rw[this];exact jc _
  |some k=>
   have hk:=h.val k ho;induction g using Gk.casesOn with
   |dR lv=>exact absurd rfl (hg lv)
   |int=>have hk:k<5:=hk;refine An _ (qh ?_);omega (splitDisjunctions:=true)
   |chr=>exact jN _
   |nZ=>exact pD _
 have uc:=iT (g,v) h hn;rw[qk (g,v) h] at uc;have:=xO (aX (g,v)) n 9 (by omega) (by omega) dg ha n3 n1 n2 (by
   have:=wW g v;have e:Gv g=false:=by clear hn h hl hf hs ha s1 s2 s3 n1 n2 n3 dg Tq To L7 hpv WX xW uc;cases g with|dR lv=>exact absurd rfl (hg lv)|_=>rfl
   rw[e] at this;exact this) (λd hd=>by
   obtain⟨o,ho,rfl⟩:=bN.mp hd;induction o using fL with
   |none=>exact trivial
   |some k=>
    have hk:=h.val k ho;induction g using Gk.casesOn with
    |dR lv=>exact absurd rfl (hg lv)
    |int=>have hk:k<5:=hk;exact⟨(by decide+kernel:(("integer":aa)==("character":aa))=false),(by decide+kernel:(("integer":aa)==("double":aa))=false),by omega (splitDisjunctions:=true)⟩
    |chr=>
     refine⟨rfl,?_⟩;have:∀k:Fin 5,(aO.getD k.val "").length<=100:=by decide+kernel
     exact this ⟨k,hk⟩
    |nZ=>have hk:k<2:=hk;exact⟨(by decide+kernel:(("logical":aa)==("character":aa))=false),(by decide+kernel:(("logical":aa)==("double":aa))=false),by omega⟩) (fun a ha b hb h1 h2=>by
   refine aq (bN.mp ha) λo ho xr=>?_;subst xr;refine aq (bN.mp hb) λo' CZ xr=>?_;subst xr;rw[rS] at h1 h2;induction o using fL with
   |none=>cases h1
   |some x=>
    induction o' using fL with
    |none=>cases h2
    |some y=>exact Bf g x y) (v.map (iD g)) uc (by rw[bw];exact hl) (Wq g) xW
  (λk hk=>(Tq k hk).1) (by
   have:(gA (aX (g,v))).length=(aU g v).length:=by have:=aT List.length s3;rw[bw] at this;exact this
   have h2:(aU g v).length<=5:=by
    induction g using Gk.casesOn with
    |dR lv=>exact absurd rfl (hg lv)
    |int=>exact aB (jk _ _) (by rw[iU];exact hs)
    |chr=>exact aB (jk _ _) (by rw[iU];exact hs)
    |nZ=>exact aB (jk _ _) (by rw[iU];exact hs)
   omega) (by
   rw[L7];refine J0.mpr (SM ?_ (jo g v));intro a b ha hb N2 e;have:=WX a ha b hb e;simp_all) s1;have e1:((gA (aX (g,v))).map λk=>Wq g (gD (aX (g,v)).2.1 k))=qA (g,v):=by
  unfold qA;clear hn h hl hf hs ha s1 s2 s3 n1 n2 n3 dg Tq To L7 hpv WX xW uc;cases g with
  |dR lv=>exact absurd rfl (hg lv)
  |_=>rfl
 have e2:((v.map (iD g)).map fun key=>Lg ((gA (aX (g,v))).map fun k=>(v.map (iD g)).getD k "") key)=(bk (g,v)).map oD:=by
  rw[L7];unfold bk;rw[eL,eL];refine dZ λo ho=>?_;show Lg ((aU g v).map λk=>iD g (some k)) (iD g o)=oD (jK g v o);unfold Lg;induction o using fL with
  |none=>
   rw[aG]
   .rfl
   .intro hm
    refine aq (bN.mp hm) λk hk e=>?_;have:=Au g h.gk (some k) none (λj q=>by cases q;exact hpv k hk) (λj q=>aA q) e;exact fD this
  |some k=>have hkp:k∈aU g v:=iy h.val ho;rw[bg (bN.mpr ⟨k,hkp,rfl⟩),iQ (λk=>iD g (some k)) k (aU g v) λi hi e=>WX i hi k hkp e];rfl
 rw[e1,e2] at this;exact this
theorem lO (c:GC)(h:gQ n c):(qA c).length=(aU c.1 c.2).length:=by
 obtain⟨g,v⟩:=c;have key:(∀lv,g≠.dR lv)->(qA (g,v)).length=(aU g v).length:=λhg=>by
  have hs:g.size<=5:=by induction g using Gk.casesOn with|dR lv=>exact absurd rfl (hg lv)|_=>decide
  refine nX (DQ (c:=(g,v)) h hg hs) λs1 s2 s3=>?_;have:=aT List.length s3;simp only[bw] at this;rw[<-show(gA (aX (g,v))).length=(aU g v).length from this];clear h hs s1 s2 s3;induction g using Gk.casesOn with
  |dR lv=>exact absurd rfl (hg lv)
  |_=>exact bw ..
 induction g using Gk.casesOn with
 |dR lv=>show(lv.map D.str).length=(List.range lv.length).length;simp only[bw,iU]
 |int=>exact key λlv q=>by cases q
 |chr=>exact key λlv q=>by cases q
 |nZ=>exact key λlv q=>by cases q
theorem tn (c:GC)(h:gQ n c):(aU c.1 c.2).length<=5:=by
 obtain⟨g,v⟩:=c;induction g using Gk.casesOn with
 |dR lv=>have:=(vp lv (h.gk lv rfl)).2.1;rw[iU];omega
 |int=>exact aB (jk _ _) (by rw[iU];exact fu rfl)
 |chr=>exact aB (jk _ _) (by rw[iU];exact fu rfl)
 |nZ=>exact aB (jk _ _) (by rw[iU];exact fu rfl)
theorem Ex (c:GC)(p:Nat):(bk c).getD p none=jK c.1 c.2 (bO c p):=by delta bk bO;rw[dS,g9,dS];cases c.2[p]? <;>rfl
theorem Be (c:GC)(h:gQ n c)(p i:Nat)(e:(bk c).getD p none=some i):i<(aU c.1 c.2).length:=by
 rw[Ex] at e;induction q:bO c p using fL with
 |none=>rw[q] at e;cases e
 |some k=>
  rw[q] at e;have e:(aU c.1 c.2).idxOf k=i:=by simpa[jK] using e
  rw[<-e];have hm:some k∈c.2:=by
   unfold bO at q;rw[dS] at q;induction r:c.2[p]? using fL with
   |none=>rw[r] at q;cases q
   |some x=>rw[r] at q;have q:x=some k:=q;subst q;exact Ks r
  exact OX.mpr (iy h.val hm)
theorem C9 (hn:n<=50)(u v:GC)(hu:gQ n u)(hv:gQ n v):
  aE 860 10 [cD (aX u),cD (aX v)] (fun r=>r=.vec "integer" (.list (jf (bk u) (bk v) (aU u.1 u.2).length (aU v.1 v.2).length n)) (.dict (MC [nD (aU u.1 u.2).length,nD (aU v.1 v.2).length] [qA u,qA v]))):=by
 have dg:∀c:GC,gQ n c->(aX c).2.1.length=n/\(bk c).length=n:=λc h=>by
  constructor
  .rw[<-h.len];exact bw ..
  .unfold bk;rw[bw];exact h.len
 have:=C8 (aX u) (aX v) n 9 (by omega) (by omega) (dg u hu).1 (dg v hv).1 (qA u) (qA v) (bk u) (bk v) (by rw[lO u hu];have:=tn u hu;omega) (by rw[lO v hv];have:=tn v hv;omega) (dg u hu).2 (dg v hv).2 (wQ hn u hu) (wQ hn v hv)
  (λp i e=>by rw[lO u hu];exact Be u hu p i e) (λp i e=>by rw[lO v hv];exact Be v hv p i e);rw[lO u hu,lO v hv] at this;exact this
noncomputable def yc (cs:bT)(k:Nat):Bool:=(List.range k).any λj=>cs.all λc=>decide (bO c j=bO c k)
theorem Gx (ks:ay)(k:Nat)(hk:k<ks.length):ks.idxOf (ks.getD k "")≠k↔∃j,j<k/\ks.getD j ""=ks.getD k "":=by
 have hg:ks.getD k ""=ks[k]:=by rw[dS,eE hk];rfl
 have hm:ks.getD k ""∈ks:=by rw[hg];exact jj hk
 have hl:=OX.mpr hm;have ha:ks.getD (ks.idxOf (ks.getD k "")) ""=ks.getD k "":=by rw[dS,eE hl];exact YD hl
 constructor
 .intro jr
  refine⟨ks.idxOf (ks.getD k ""),?_,ha⟩;refine fU (Nat.lt_or_gt_of_ne jr) (λh=>?_) λh=>?_
  .exact h
  .exfalso
   have:=YU (p:=(·==ks.getD k "")) (xs:=ks) (i:=k) h;rw[<-hg] at this;simp at this
 .intro z0 jr;refine aq z0 λj hj e=>clear% z0;?_
  have hjl:j<ks.length:=Br hj hk;have:j<ks.idxOf (ks.getD k ""):=eW hj (fh (fH jr));have:=YU (p:=(·==ks.getD k "")) (xs:=ks) (i:=j) this;have e2:ks.getD j ""=ks[j]:=by rw[dS,eE hjl];rfl
  rw[<-e2,e] at this;simp at this
section
variable {n:Nat}{cs:bT}(k7:∀c∈cs,gQ n c)
include k7
theorem Eo (k:Nat)(hk:k<n):(decide ((bl ((List.range n).map (cy (cs.map λc=>eZ (cD (aX c)))))).getD k 0=k))= !yc cs k:=by
 generalize L7:(List.range n).map (cy (cs.map λc=>eZ (cD (aX c))))=ks;have hl:ks.length=n:=by rw[<-L7];simp
 have hkk:k<ks.length:=by simp_all
 have hg:∀j,j<n->ks.getD j ""=cy (cs.map fun c=>eZ (cD (aX c))) j:=fun j hj=>by rw[<-L7];simp[dS,hj]
 have e1:(bl ks).getD k 0=ks.idxOf (ks.getD k ""):=by unfold bl;simp[dS,hkk]
 rw[e1];have h2:=Gx ks k hkk;have h3:(∃j,j<k/\ks.getD j ""=ks.getD k "")↔yc cs k=true:=by
  unfold yc;rw[EI];constructor
  .intro z0;refine aq z0 λj hj e=>clear% z0;?_
   simp only[hg j (Br hj hk),hg k hk] at e;have:=(rT cs k7 j k (Br hj hk) hk).mp e;exact⟨j,dh.mpr hj,j8.mpr λc hc=>i6 (this c hc)⟩
  .intro z1;refine aq z1 λj hj e=>clear% z1;?_
   have hj:=dh.mp hj;refine⟨j,hj,?_⟩;rw[hg j (Br hj hk),hg k hk];exact(rT cs k7 j k (Br hj hk) hk).mpr λc hc=>jx (j8.mp e c hc)
 rw[qM,i7,G5];constructor
 .intro e
  induction q:yc cs k using pR with
  |false=>rfl
  |true=>exact absurd e (h2.mpr (h3.mpr q))
 .intro q
  refine Classical.byContradiction λjr=>?_;have:=h3.mp (h2.mp jr);rw[q] at this;exact g5 this
theorem Jy {c:GC}(hc:c∈cs):(aX c).2.1.length=n:=by rw[<-(k7 c hc).len];exact bw ..
theorem ak0 (hn:n<=50)(hl:cs.length<=50)(names bz:ak)(xW:bz.length=n):
  aE 791 8 [.vec "list" (.list ((cs.map aX).map cD)) (jd names bz)] (fun r=>r=.list ((List.range n).map fun k=> .int (if yc cs k then 1 else 0))):=by
 have:=kL "list" ((cs.map aX).map cD) (JB names bz) bz eZ n (AM names bz n xW) (by omega) (by simp;omega) (fun d hd=>by
  refine aq (bN.mp hd) λc hc z0=>?_;subst z0;refine aq (bN.mp hc) λc ju z1=>?_;subst z1;exact iT c (k7 c ju) hn) (λd hd=>by
  refine aq (bN.mp hd) λc hc z2=>?_;subst z2;refine aq (bN.mp hc) λc ju z3=>?_;subst z3;exact Hl c (k7 c ju));refine this.weak λr hr=>hr.trans (aT D.list (dZ λk hk=>?_));have hk:=dh.mp hk;have e:((cs.map aX).map cD).map eZ=cs.map λc=>eZ (cD (aX c)):=by rw[eL,eL];rfl
 rw[e];have h1:=Eo k7 k hk;refine aT _ ?_;induction q:yc cs k using pR with
 |true=>rw[q] at h1;rw[bg (of_decide_eq_false h1)];rfl
 |false=>rw[q] at h1;have h1:=jx h1;rw[aG (λh=>h h1)];rfl
theorem Mt (hn:n<=50)(names bz:ak)(xW:bz.length=n):
  aE 803 2 [.vec "list" (.list ((cs.map aX).map cD)) (jd names bz)] (fun r=>r=.list (dY n (gf (cs.map aX)))):=
 yf "list" (cs.map aX) (JB names bz) bz n (AM names bz n xW) (by omega) fun c hc=>by refine aq (bN.mp hc) λc ju z0=>?_;subst z0;exact⟨(LC c.1).1,Jy k7 ju⟩
noncomputable def kW (cs:bT)(n:Nat):bF:=(List.range n).filter λk=> !yc cs k
theorem TP (hn:n<=50)(hl:cs.length<=50)(names:ay)(bz:ak)(NT:names.length<=100)(xW:bz.length=n):
  aE 796 9 [.vec "list" (.list ((cs.map aX).map cD)) (jd (names.map .str) bz)] (fun r=>r=.vec "list" (.list (cs.map fun c=>cD (bX c.1 ((kW cs n).map (bO c))))) (jd (names.map .str) ((kW cs n).map (gD bz)))):=by
 have:=Cc (cs.map aX) names bz eZ n xW (by omega) NT (by rw[bw];omega) (λc hc=>by
  refine aq (bN.mp hc) λc ju z0=>?_;subst z0;exact⟨XJ c.1,Jy k7 ju⟩) (λc hc=>by
  refine aq (bN.mp hc) λc ju z1=>?_;subst z1;exact iT c (k7 c ju) hn) (λc hc=>by
  refine aq (bN.mp hc) λc ju z2=>?_;subst z2;exact Hl c (k7 c ju)) (kW cs n) (by
  delta qR kW;rw[eL];exact BH λk hk=>Eo k7 k (dh.mp hk));refine this.weak λr hr=>hr.trans ?_;rw[eL];have e:cs.map ((λc=>cD (fE c (kW cs n)))∘aX)=cs.map λc=>cD (bX c.1 ((kW cs n).map (bO c))):=dZ λc z=>by
  show cD (fE (bX c.1 c.2) _)=_;rw[rR];rfl
 rw[e]
end
theorem ZZ {n:Nat}(hn:n<=10)(vs:List d8)(nc:∀v∈vs,v.length=n)(h0:vs≠[])(hl:vs.length<=50)(ns:ay)(bz:ak)(Th:ns.length=vs.length):
  aE 848 6 [.vec "list" (.list ((vs.map (bX .int)).map cD)) (jd (ns.map .str) bz)] (fun r=>∃lb,r=.vec "list" (.list [dX ((vs.map fun v=>v.map (aM .int)).flatten),.vec "integer" (.list (iu (vs.map fun z=>n) vs.length)) (pJ (ns.map .str))]) (jd [.str "values",.str "ind"] lb)):=by
 have:=Cg (vs.map λv=>v.map (aM .int)) ns bz (by simpa using h0) (by simp only[bw];exact Th) (by rw[bw];exact hl) (λl hl=>by refine aq (bN.mp hl) λv hv z0=>?_;subst z0;rw[bw,nc v hv];exact hn);have e1:(vs.map λv=>v.map (aM .int)).map dX=(vs.map (bX .int)).map cD:=by rw[eL,eL];rfl
 have e2:(vs.map λv=>v.map (aM .int)).map List.length=vs.map λz=>n:=by
  rw[eL];exact dZ λv hv=>by show(v.map (aM .int)).length=n;rw[bw,nc v hv]
 rw[e1,e2,bw] at this;exact this.weak λr hr=>⟨_,hr⟩
noncomputable def mH:FuncData:=⟨PU,PU,(fA 148),.stmts (fB 148),(fS 148),3,[],.none,.none,.none,(.str Uq 1349),none,(.ref 919),.none,0⟩
noncomputable abbrev iC:dU:=[("sum",.builtin "sum"),("_law_pick",.ref 867),("range",.type "range"),("len",.builtin "len"),("sorted",.builtin "sorted"),("_law_sum",.ref 901),("_law_count",.ref 908),("_law_two",.ref 915),("aggregate_by",.ref 841),("Vector",.ref 279),("Refusal",.ref 398),("list",.type "list"),("_law_texts",.ref 891),("_law_frame_of",.ref 879),("duplicated_rows",.ref 791),("complete_rows",.ref 803),("unique_rows",.ref 796),("_law_ranked",.ref 896),("cross_table",.ref 860),("stack_frame",.ref 848)]
noncomputable abbrev LO:ay:=["cells","hand","many","wide","groups","values","which","names","tops","ranks","rows","whole_rows","keys","row","places","pure","at","due","column","df","lines","flags","less","kept","one","first","two","second","told","counts","pile","error"]
theorem aa5:dI 920 mH (fB 148) ["script"] LO iC:=
 ⟨⟨λP=>by kernel_rfl,λP=>by kernel_rfl,rfl,rfl,rfl,rfl,by kernel_rfl,by kernel_rfl,by kernel_rfl⟩,bf (λP S v0=>by kernel_rfl),λP=>by kernel_rfl,by decide⟩
theorem aaN:∀k:Nat,(k:Int)<6->∃m:Nat,m<=5/\([.int 1,.int 2,.int 3,.int 4,.int 5,.int 0]:ak)[((k:Nat):Int).toNat]? =some (nD m)
 |0,_=>⟨1,by decide,rfl⟩
 |1,_=>⟨2,by decide,rfl⟩
 |2,_=>⟨3,by decide,rfl⟩
 |3,_=>⟨4,by decide,rfl⟩
 |4,_=>⟨5,by decide,rfl⟩
 |5,_=>⟨0,by decide,rfl⟩
 |k+6,h=>by trivial
noncomputable abbrev LP (v0 v1 v2 v3 v4 v5 v6 v7 v8 v9 v10 v11 v12 TM TL Pw S9 Hx K0 KZ v20 Hw HK Dz E5 yE yD ze zd sQ v30 zc B0:Sl:=.un):VS:=("script",v0)::("cells",v1)::("hand",v2)::("many",v3)::("wide",v4)::("groups",v5)::("values",v6)::("which",v7)::("names",v8)::("tops",v9)::("ranks",v10)::("rows",v11)::("whole_rows",v12)::("keys",TM)::("row",TL)::("places",Pw)::("pure",S9)::("at",Hx)::("due",K0)::("column",KZ)::("df",v20)::("lines",Hw)::("flags",HK)::("less",Dz)::("kept",E5)::("one",yE)::("first",yD)::("two",ze)::("second",zd)::("told",sQ)::("counts",v30)::("pile",zc)::("error",B0)::[]
noncomputable abbrev lvO (sa:av)(v1 v2 v3 v4 v5 v6 v7 v8 v9 v10 v11 v12 TM TL Pw S9 Hx K0 KZ v20 Hw HK Dz E5 yE yD ze zd sQ v30 zc B0:Sl:=.un):VS:=LP (.at (.ref sa)) v1 v2 v3 v4 v5 v6 v7 v8 v9 v10 v11 v12 TM TL Pw S9 Hx K0 KZ v20 Hw HK Dz E5 yE yD ze zd sQ v30 zc B0
noncomputable abbrev Gh:WC:=⟨12,iC,SI mH.scope⟩
noncomputable def lQ:fc:=(fB 148).take 16
def lG (b:fc)(j:Nat)(Q:bY)(V:VS):Prop:=wp (100-j) Gh (.kq b j Q) V
theorem IC {m:Int}{N:Nat}{cs:cH}(k7:cs.length<=63){i r s:Int}(h0:0<=i)(h1:i<=cs.length)(hm:0<m)(LY:m<1000)(hN:3<=N){P:D->ak->Prop}(k:∀(k:Nat) (i r s:Int),(k:Int)<m->0<=i->i<=cs.length->P (nD k) (gK cs i r s)):Bl N 867 (gK cs i r s) [.int m] P:=
 GV (mG cs (by omega) i r s m h0 h1 hm LY) (λd l' z=>aq z.1 λk' e hk=>rI z.2 λi r s z3=>nX z3 λe2 a b=>by rw[e,e2];exact k k' i r s hk a b) hN
theorem ajG {sa:av}{cs:cH}{s:Int}(k7:cs.length<=63){Q:bY}
  (k:∀(i r s:Int) (n wd:Nat),0<=i->i<=cs.length->n<=5->1<=wd->wd<=2->lG lQ 4 Q (lvO sa (v1:=.fz (.list (cs.map .int))) (v2:=.ow (.list (gK cs i r s))) (v3:=.fz (nD n)) (v4:=.fz (nD wd)))):
  lG lQ 2 Q (lvO sa (v1:=.fz (.list (cs.map .int))) (v2:=.ow (.list (gK cs 0 0 s)))):=by
 intro u;refine⟨rfl,?_⟩;refine IC k7 (Int.le_refl _) (Dl _) (by decide) (by decide) (by decide) λkk i r s hk h0 h1=>aq (aaN kk hk) λn hn hg=>f5 hg (qD (α:=lG lQ 3 Q (lvO sa (v1:=.fz (.list (cs.map .int))) (v2:=.ow (.list (gK cs i r s))) (v3:=.fz (nD n)))) ?_ (by kernel_rfl));intro u;refine⟨rfl,?_⟩;refine IC k7 h0 h1 (by decide) (by decide) (by decide) λkk i r s hk h0 h1=>?_;have e3:1+(kk:Int)=((1+kk:Nat):Int):=by rfl
 exact qD (k i r s n (1+kk) h0 h1 hn (xj ..) (by omega)) (by kernel_rfl)
theorem Wr:∀k:Nat,(k:Int)<4->∃kn:aa,(kn="integer"\/kn="logical"\/kn="character"\/kn="factor")/\([.str "integer",.str "character",.str "factor",.str "logical"]:ak)[((k:Nat):Int).toNat]? =some (.str kn)
 |0,_=>⟨_,.inl rfl,rfl⟩
 |1,_=>⟨_,.inr (.inr (.inl rfl)),rfl⟩
 |2,_=>⟨_,.inr (.inr (.inr rfl)),rfl⟩
 |3,_=>⟨_,.inr (.inl rfl),rfl⟩
 |k+4,h=>by trivial
theorem RQ {g:Gk}(h:NN g="integer"):g=.int:=by
 induction g using Gk.casesOn with
 |int=>rfl
 |chr=>exact absurd h (by decide+kernel:¬(("character":aa)="integer"))
 |nZ=>exact absurd h (by decide+kernel:¬(("logical":aa)="integer"))
 |dR lv=>exact absurd h (by decide+kernel:¬(("factor":aa)="integer"))
noncomputable abbrev Te (sa:av)(cs:cH)(i r s:Int)(n wd:Nat)(gs:bT)(vs:List d8)(w:Nat)(f g:gm)(v8 v9 v10 v11 v12 TM TL Pw S9 Hx K0 KZ v20 Hw HK Dz E5 yE yD ze zd sQ v30 zc B0:Sl:=.un):VS:=LP (.at (.ref sa)) (.fz (.list (cs.map .int))) (.ow (.list (gK cs i r s))) (.fz (nD n)) (.fz (nD wd)) (f (.list ((gs.map aX).map cD))) (g (.list ((vs.map (bX .int)).map cD))) (.fz (nD w)) v8 v9 v10 v11 v12 TM TL Pw S9 Hx K0 KZ v20 Hw HK Dz E5 yE yD ze zd sQ v30 zc B0
noncomputable abbrev lvB (sa:av)(cs:cH)(i r s:Int)(n wd:Nat)(v5 v6 v7 v8 v9 v10 v11 v12 TM TL Pw S9 Hx K0 KZ v20 Hw HK Dz E5 yE yD ze zd sQ v30 zc B0:Sl:=.un):VS:=LP (.at (.ref sa)) (.fz (.list (cs.map .int))) (.ow (.list (gK cs i r s))) (.fz (nD n)) (.fz (nD wd)) v5 v6 v7 v8 v9 v10 v11 v12 TM TL Pw S9 Hx K0 KZ v20 Hw HK Dz E5 yE yD ze zd sQ v30 zc B0
theorem ajF {sa:av}{cs:cH}{i r s:Int}{n wd:Nat}(k7:cs.length<=63)(h0:0<=i)(h1:i<=cs.length)(hn:n<=5)(h2:1<=wd)(h3:wd<=2){Q:bY}
  (k:∀(i r s:Int) (gs:bT) (vs:List d8) (w:Nat),0<=i->i<=cs.length->(∀c∈gs,gQ n c)->gs.length=wd->(∀v∈vs,gQ n (.int,v))->1<=vs.length->vs.length<=2->w<3->lG lQ 7 Q (Te sa cs i r s n wd gs vs w .ow .ow)):
  lG lQ 4 Q (lvB sa cs i r s n wd):=by
 have aW:cap=1048576:=rfl;refine Wh (y:="hand") [("many",.fz (nD n))] ["_law_column","_law_pick"] rfl rfl rfl (NI 0 .ow (fun aF rs dy=>∃(gs:bT) (i r s:Int),rs=(gs.map aX).map cD/\(∀c∈gs,gQ n c)/\gs.length+aF.length=wd/\dy=.list (gK cs i r s)/\0<=i/\i<=cs.length) (iW (by omega)) rfl (.inl rfl) rfl (jw (ys:=["many"]) rfl).2 (aL [] i r s rfl (fun z h=>aR h) (by simp) rfl h0 h1) ?_ ?_)
 .intro d aF rs dy z0;refine cU z0 λgs i r s z1 hg jR z2 h0 h1=>clear% z0;?_;subst z1;rw[z2]
  refine⟨by rw[bw,bw];exact aB (YL (fh jR)) (aB (Om _ _) (aB h3 (by decide))),gV λfr A E F=>Zx (n:=5) (n2:=3) (mk:=.ln) F.f (bx rfl) (bx rfl) (cj rfl) (.inr rfl) F.room (fu rfl) (fu rfl) (λv=>bD 90 _ fr A E (.ke _ _) _ F ?_)⟩;refine⟨_,_,rfl,cj rfl,bD 90 _ fr A E (.ke _ _) _ F ?_⟩;refine⟨_,cj rfl,_,mG cs (by omega) i r s 4 h0 h1 (by decide) (by decide),BU.elim λk i' r' s' hk h0' h1' z=>?_⟩;refine aq (Wr k hk) λkn l8 B5=>(pG _ _ rfl (Dl _) B5 (bD 90 _ fr A E (.ke _ _) _ F ?_));refine⟨_,cj rfl,_,tQ cs (by omega) i' r' s' h0' h1' n hn kn l8,S6.elim λg v i2 r2 s2 e1 e2 e3 e4 agJ agI=>?_⟩;refine⟨_,(aL (gs++[(g,v)]) i2 r2 s2 (by rw[dN,dN];rfl) (λc hc=>?_) (by rw[fK,J3];exact ED (fH (Yy _ _ _)) (ED (Ov _ _ _) jR)) rfl agJ agI),rfl⟩;refine fU (j6.mp hc) (λhc=>?_) λhc=>?_
  .exact hg c hc
  .rw[ly.mp hc];exact⟨e2,e4,e3⟩
 intro rs dy z3;refine cU z3 λgs i r s z4 hg jR z5 h0 h1=>clear% z3;?_;subst z4;rw[z5];refine⟨by rw[bw,bw];exact aB (fh jR) (aB h3 (by decide)),rfl,?_⟩;refine qD (α:=lG lQ 5 Q (lvB sa cs i r s n wd (v5:=.ow (.list ((gs.map aX).map cD))))) ?_ (by kernel_rfl);refine Wh (y:="hand") [("many",.fz (nD n))] ["_law_column"] rfl rfl rfl ?_;intro u;refine⟨rfl,?_⟩;refine IC k7 h0 h1 (by decide) (by decide) (by decide) fun kk i r s hk h0 h1=>NI 90 .ow (fun aF rs dy=>∃(vs:List d8) (i r s:Int),rs=(vs.map (bX .int)).map cD/\(∀v∈vs,gQ n (.int,v))/\vs.length+aF.length=1+kk/\dy=.list (gK cs i r s)/\0<=i/\i<=cs.length) (iW (n:=1+kk) (by omega)) rfl (.inl rfl) rfl (jw (ys:=["many"]) rfl).2 (aL [] i r s rfl (fun z h=>aR h) (by simp) rfl h0 h1) ?_ ?_
 .intro d aF rs dy z6;refine cU z6 λvs i r s z7 hv K5 z8 h0 h1=>clear% z6;?_;subst z7;rw[z8]
  refine⟨by rw[bw,bw];omega,λu=>⟨rfl,?_⟩⟩;refine GV (tQ cs (by omega) i r s h0 h1 n hn "integer" (.inl rfl)) (S6.elim fun g v i2 r2 s2 e1 e2 e3 e4 agJ agI=>?_);cases RQ e1;refine⟨_,(aL (vs++[v]) i2 r2 s2 (by rw[dN,dN];rfl) (λc hc=>?_) (by rw[fK,J3];exact ED (fH (Yy _ _ _)) (ED (Ov _ _ _) K5)) rfl agJ agI),rfl⟩;rcases j6.mp hc with hc|hc
  .exact hv c hc
  .rw[ly.mp hc];exact⟨e2,e4,e3⟩
 intro rs dy z9;refine cU z9 λvs i r s z10 hv K5 z11 h0 h1=>clear% z9;?_;subst z10;rw[z11];refine⟨by rw[bw,bw];omega,rfl,?_⟩;refine qD (α:=lG lQ 6 Q (lvB sa cs i r s n wd (v5:=.ow (.list ((gs.map aX).map cD))) (v6:=.ow (.list ((vs.map (bX .int)).map cD))))) ?_ (by kernel_rfl);intro u;refine⟨rfl,?_⟩;exact IC k7 h0 h1 (by decide) (by decide) (by decide) λw i r s hw h0 h1=>qD (k i r s gs vs w h0 h1 hg jR hv (by simp_all) (by omega) (XX.mp hw)) (by kernel_rfl)
noncomputable def xM (k:Nat):ay:=(["g","h"]:ay).take k
noncomputable def nY (k:Nat):ay:=(["v","w"]:ay).take k
noncomputable def jJ (c:GC):D:=.list ((bk c).map oD)
noncomputable def xH (gs:bT)(p:Nat):ak:=gs.reverse.map λc=>oD (jK c.1 c.2 (bO c p))
noncomputable def rQ (gs:bT)(p:Nat):D:=.list (xH gs p)
theorem afa (k:Nat):DJ [D.str "g",D.str "h"] none (some k)=(xM k).map .str:=by unfold xM;rw[Ox];rfl
theorem ae8 (k:Nat):DJ [D.str "v",D.str "w"] none (some k)=(nY k).map .str:=by unfold nY;rw[Ox];rfl
theorem Lk:∀wd:Nat,1<=wd->wd<=2->Builtin.Range.small ((wd:Int)-1) (-1) (-1)=true/\Builtin.Range.rangeSize ((wd:Int)-1) (-1) (-1)=(wd:Int)
 |1,_,_=>by decide+kernel
 |2,_,_=>by decide+kernel
 |0,h,_=>by exact⟨rfl,rfl⟩
 |k+3,_,h=>by simp_all
theorem aag {X:Type}(gs:List X)(f:X->D)(wd:Nat)(h:gs.length=wd)(d:X):((List.range wd).map λj=>f (gs.getD (wd-1-j) d))=gs.reverse.map f:=by
 apply OI
 .simp[h]
 .intro j h1 h2
  have hj:j<wd:=by simpa using h1
  have h3:gs.length-1-j<gs.length:=by omega (splitDisjunctions:=true)
  simp only[yq,Kq,List.getElem_reverse];simp only[<-h,dS,eE h3];rfl
theorem Ni {X Y:Type}{f:X->Y}{g:Y->D}{l:List X}:Hh (.list ((l.map f).map g)) (l.map λx=>g (f x)):=by rw[eL];exact bS
theorem oK (c:GC):(c.2.map λx=>oD (jK c.1 c.2 x))=(bk c).map oD:=by unfold bk;rw[eL];rfl
theorem ajE {sa:av}{cs:cH}{i r s:Int}{n wd w:Nat}{gs:bT}{vs:List d8}(hn:n<=5)(hg:∀c∈gs,gQ n c)(jR:gs.length=wd)(h2:1<=wd)(h3:wd<=2)
  (R4:1<=vs.length)(sM:vs.length<=2){Q:bY}
  (k:lG lQ 11 Q (Te sa cs i r s n wd gs vs w .fz .fz (.fz (.list ((xM wd).map .str))) (.fz (.list ((nY vs.length).map .str))) (.fz (.list (gs.map jJ))) (.ow (.list ((List.range n).map (rQ gs)))))):
  lG lQ 7 Q (Te sa cs i r s n wd gs vs w .ow .ow):=by
 have aW:cap=1048576:=rfl;refine qD (α:=lG lQ 8 Q (Te sa cs i r s n wd gs vs w .ow .ow (.fz (.list (DJ [.str "g",.str "h"] none (some wd)))))) ?_ (by kernel_rfl);refine qD (α:=lG lQ 9 Q (Te sa cs i r s n wd gs vs w .ow .fz (.fz (.list (DJ [.str "g",.str "h"] none (some wd)))) (.fz (.list (DJ [.str "v",.str "w"] none (some ((vs.map (bX .int)).map cD).length)))))) ?_ (by kernel_rfl);simp only[afa,bw,bw,ae8];refine bL (xs:=gs) (G:=λc=>cD (aX c)) (H:=jJ) Ni (aB (fh jR) (aB h3 (by decide))) (λc hc=>?_) ?_
 .refine ai (mF c.1 (hg c hc).gk c.2 (hg c hc).val (by rw[(hg c hc).len];omega)) ?_
  exact fO (aT D.list (oK c))
 refine qD (α:=lG lQ 10 Q (Te sa cs i r s n wd gs vs w .fz .fz (.fz (.list ((xM wd).map .str))) (.fz (.list ((nY vs.length).map .str))) (.ow (.list (gs.map jJ))))) ?_ (by kernel_rfl);refine bL (xs:=List.range n) (G:=nD) (H:=rQ gs) (iW (by omega)) (by rw[iU];omega) (λp hp=>?_) (qD k (by kernel_rfl));have hp:=dh.mp hp;refine kZ λfr A E F=>DR (by decide) (by decide) ?_;have ss:=Lk wd h2 h3;refine bL (xs:=List.range wd) (G:=λj=> .int ((wd:Int)-1+(j:Int)*(-1))) (H:=λj=>oD ((bk (gs.getD (wd-1-j) (.int,[]))).getD p none)) (λz z h=>rX h _ _ _ wd ss.1 ss.2) (by rw[iU];omega) (λj hj=>?_) ?_
 .have hj:=dh.mp hj
  have jQ:wd-1-j<gs.length:=by grind
  have ec:gs.getD (wd-1-j) (.int,[])=gs[wd-1-j]:=by rw[dS,eE jQ];rfl
  have nh:gs.getD (wd-1-j) (.int,[])∈gs:=by rw[ec];exact jj jQ
  have B5:(gs.map jJ)[((wd:Int)-1+(j:Int)*(-1)).toNat]? =some (jJ (gs.getD (wd-1-j) (.int,[]))):=by
   have e1:((wd:Int)-1+(j:Int)*(-1)).toNat=wd-1-j:=by grind
   rw[e1,ec,g9,eE jQ];rfl
  have w5:p<(bk (gs.getD (wd-1-j) (.int,[]))).length:=by unfold bk;simp only[bw,(hg _ nh).len];exact hp
  exact ixZ (by omega) B5 (f5 (abF w5) (fO rfl))
 refine fO ?_;delta rQ xH;rw[aag gs (λc=>oD ((bk c).getD p none)) wd jR (.int,[])];exact aT D.list (dZ λc z=>by rw[Ex])
theorem afE (o:gF):o=none/\oD o=.none\/∃k:Nat,o=some k/\oD o=.int (k:Int):=by
 induction o using fL with
 |none=>exact .inl ⟨rfl,rfl⟩
 |some k=>exact .inr ⟨k,rfl,rfl⟩
theorem Io (gs:bT)(p:Nat):∀d∈xH gs p,aj 0 d:=λd hd=>by
 refine aq (bN.mp hd) λc z z0=>?_;subst z0;rcases afE (jK c.1 c.2 (bO c p)) with⟨_,e⟩|⟨k,_,e⟩
 .rw[e];exact aj.none
 .rw[e];exact aj.int
theorem zF (gs:bT)(p:Nat):ph .none (xH gs p)=gs.any λc=>(bO c p).isNone:=by
 rw[qM,lM,EI];unfold xH;rw[bN];constructor
 .intro z0;refine aq z0 λc hc e=>⟨c,JY.mp hc,?_⟩
  induction q:bO c p using fL with
  |none=>rfl
  |some k=>rw[q] at e;cases e
 .intro z1;refine aq z1 λc hc e=>⟨c,JY.mpr hc,?_⟩
  induction q:bO c p using fL with
  |none=>rfl
  |some k=>rw[q] at e;cases e
theorem Og {gs:bT}{n p:Nat}(hp:p∈e8 gs n):xH gs p=(eT gs p).map .int:=by refine xA (iF hp) λz h=>?_;delta xH eT;rw[eL];refine dZ λc hc=>?_;obtain⟨k,e⟩:=h c (JY.mp hc);show oD (jK c.1 c.2 (bO c p))=D.int (Vo c (bO c p));rw[e];rfl
theorem D8 (gs:bT)(n p:Nat):p∈e8 gs n↔p<n/\ph .none (xH gs p)=false:=by delta e8 gI;rw[ji,dh,tR,zF,G5]
theorem Tz (gs:bT)(n:Nat):((List.range n).filter λp=> !ph .none (xH gs p)).map (rQ gs)=ll ((e8 gs n).map (eT gs)):=by
 have e:(List.range n).filter (λp=> !ph .none (xH gs p))=e8 gs n:=by delta e8 gI;exact BH λp z=>by simp only[tR,zF]
 rw[e];unfold ll;rw[eL];exact dZ λp hp=>aT D.list (Og hp)
theorem Jf {a b:cH}(h:a.map D.int=b.map D.int):a=b:=by
 induction a generalizing b with
 |nil=>induction b using nU with|nil=>rfl|cons x y=>cases h
 |cons x l ih=>
  induction b using nU with
  |nil=>cases h
  |cons y m=>injection h with h1 h2;injection h1 with h1;rw[h1,ih h2]
theorem V8 (x:cH)(l:B6):ph (.list (x.map .int)) (ll l)=decide (x∈l):=by
 rw[qM,lM,i7];constructor
 .intro h
  refine aq (bN.mp h) λy hy e=>?_;injection e with e;rw[<-Jf e];exact hy
 .exact λh=>bN.mpr ⟨x,h,rfl⟩
theorem tZ (x:cH):aj 1 (.list (x.map .int)):=aj.list λd hd=>by refine aq (bN.mp hd) λi z z0=>?_;subst z0;exact aj.int
theorem afc (gs:bT)(n p:Nat)(hp:p<n)(x:cH):Su (rQ gs p) (.list (x.map .int))=(decide (p∈e8 gs n)&&decide (eT gs p=x)):=by
 rw[qM,qq,iK,i7,i7];constructor
 .intro e
  have e:xH gs p=x.map .int:=by injection e
  have hk:p∈e8 gs n:=(D8 gs n p).mpr ⟨hp,by
   rw[e];induction q:ph .none (x.map D.int) using pR with
   |false=>rfl
   |true=>refine aq (bN.mp (lM.mp q)) λi z e=>?_;cases e⟩;rw[Og hk] at e;exact⟨hk,Jf e⟩
 .intro z0;refine xA z0 λhk z1=>clear% z0;?_;subst z1
  unfold rQ;rw[Og hk]
theorem aak:∀w:Nat,w<3->([.const (.ref 901),.const (.ref 908),.const (.ref 915)]:ak)[((w:Nat):Int).toNat]? =some (.const (.ref (oO w)))
 |0,_=>rfl
 |1,_=>rfl
 |2,_=>rfl
 |_+3,h=>by omega
noncomputable abbrev lvK (sa:av)(cs:cH)(i r s:Int)(n wd:Nat)(gs:bT)(vs:List d8)(w:Nat)(bV:B6)(s1:Sl)(Pw S9 Hx K0 KZ v20 Hw HK Dz E5 yE yD ze zd sQ v30 zc B0:Sl:=.un):VS:=Te sa cs i r s n wd gs vs w .fz .fz (.fz (.list ((xM wd).map .str))) (.fz (.list ((nY vs.length).map .str))) (.fz (.list (gs.map jJ))) (.fz (.list ((List.range n).map (rQ gs)))) (.fz (.list (ll ((e8 gs n).map (eT gs))))) (.fz (.list (ll (jT bV)))) s1 Pw S9 Hx K0 KZ v20 Hw HK Dz E5 yE yD ze zd sQ v30 zc B0
noncomputable abbrev lvW (sa:av)(cs:cH)(i r s:Int)(n wd:Nat)(gs:bT)(vs:List d8)(w:Nat)(TM TL Pw S9 Hx K0 KZ v20 Hw HK Dz E5 yE yD ze zd sQ v30 zc B0:Sl:=.un):VS:=Te sa cs i r s n wd gs vs w .fz .fz (.fz (.list ((xM wd).map .str))) (.fz (.list ((nY vs.length).map .str))) (.fz (.list (gs.map jJ))) (.fz (.list ((List.range n).map (rQ gs)))) (.fz (.list (ll ((e8 gs n).map (eT gs))))) TM TL Pw S9 Hx K0 KZ v20 Hw HK Dz E5 yE yD ze zd sQ v30 zc B0
theorem abb (gs:bT)(n:Nat)(x:cH):((List.range n).filter λp=>decide (p∈e8 gs n)&&decide (eT gs p=x))=(e8 gs n).filter λp=>decide (eT gs p=x):=by
 have e1:e8 gs n=(List.range n).filter λp=>decide (p∈e8 gs n):=by
  conv=>lhs;delta e8 gI
  refine BH λp hp=>?_;have hp:=dh.mp hp;rw[qM,i7,D8,tR,<-zF];simp[hp]
 conv=>rhs;rw[e1]
 simp only[List.filter_filter];exact BH λp z=>Bool.and_comm ..
theorem ajD {sa:av}{cs:cH}{i r s:Int}{n wd w:Nat}{gs:bT}{vs:List d8}(hn:n<=5)(WK:w<3){Q:bY}
  (k:∀(bV:B6) (s1:Sl),Srt gs n bV->Q .next (lvK sa cs i r s n wd gs vs w bV s1 (Pw:=.ow (.list ((aH gs n bV).map λps=> .list (ps.map nD)))) (S9:=.fz (.const (.ref (oO w)))))):
  lG lQ 11 Q (Te sa cs i r s n wd gs vs w .fz .fz (.fz (.list ((xM wd).map .str))) (.fz (.list ((nY vs.length).map .str))) (.fz (.list (gs.map jJ))) (.ow (.list ((List.range n).map (rQ gs))))):=by
 have aW:cap=1048576:=rfl;have uV:((e8 gs n).map (eT gs)).length<=5:=by rw[bw];refine aB (jk _ _) ?_;rw[iU];exact hn
 refine pL (xs:=List.range n) (G:=rQ gs) (H:=rQ gs) (λp=> !ph .none (xH gs p)) bS (aB (jk _ _) (by rw[iU];omega)) (λp u=>gB λu u u F=>aas (n:=0) (k:=0) F.room (by decide) (Io gs p) aj.none (by decide) ⟨rfl,rfl⟩) (λp u u=>fO rfl) ?_;rw[Tz];refine qD (α:=lG lQ 12 Q (Te sa cs i r s n wd gs vs w .fz .fz (.fz (.list ((xM wd).map .str))) (.fz (.list ((nY vs.length).map .str))) (.fz (.list (gs.map jJ))) (.fz (.list ((List.range n).map (rQ gs)))) (.ow (.list (ll ((e8 gs n).map (eT gs))))))) ?_ (by kernel_rfl);refine qD (α:=lG lQ 13 Q (Te sa cs i r s n wd gs vs w .fz .fz (.fz (.list ((xM wd).map .str))) (.fz (.list ((nY vs.length).map .str))) (.fz (.list (gs.map jJ))) (.fz (.list ((List.range n).map (rQ gs)))) (.ow (.list (ll ((e8 gs n).map (eT gs))))) (.ow (.list [])))) ?_ (by kernel_rfl);refine kZ λfr A E F=>B7.fz (FG F.room (by decide) uV λbV hp hs=>?_);have hyl:bV.length<=5:=by rw[hp.length_eq];exact uV
 refine GJ (l:=bV) (g:=λx=> .list (x.map .int)) bS (λdone s1=>lvW sa cs i r s n wd gs vs w (TM:=.ow (.list (ll (jT done)))) (TL:=s1)) (λu u=>True) .un rfl trivial (λdone x aF s1 ed u K k1 u u u=>?_) λs1 u=>?_
 .have ZF:=aB (kM done) (adF (aB (AX ed) hyl))
  refine gV λfr A E F=>Zm F.f F.room (by decide) (bD 90 _ fr A E (.ke _ _) _ F ?_);refine⟨.ow,_,_,1,1,cj rfl,.inl rfl,λy hy=>?_,tZ x,by decide,?_⟩
  .refine aq (bN.mp hy) λz u z0=>?_;subst z0
   exact tZ z
  have q:=k1 (.fz (.list (x.map .int))) trivial;rw[lT] at q;refine cS (λhb=>?_) (λhb=>?_)
  .rw[V8,G5,decide_eq_false_iff_not] at hb
   rw[aG hb] at q;unfold ll at q;rw[dN] at q;intro v;exact G0 (by rw[bw];omega) q
  .rw[V8,Bool.not_eq_false',i7] at hb
   rw[bg hb] at q;exact q
 have ZF:=kM bV;refine qD (α:=lG lQ 14 Q (lvW sa cs i r s n wd gs vs w (TM:=.ow (.list (ll (jT bV)))) (TL:=s1))) ?_ (by kernel_rfl);refine bL (xs:=jT bV) (G:=λx=> .list (x.map .int)) (H:=λx=> .list (((e8 gs n).filter λp=>decide (eT gs p=x)).map nD)) bS (aB ZF (aB hyl (by decide))) (λx hx=>?_) ?_
 .refine pL (xs:=List.range n) (G:=nD) (H:=nD) (λp=>decide (p∈e8 gs n)&&decide (eT gs p=x)) (iW (by omega)) (aB (jk _ _) (by rw[iU];omega)) (λp hp=>?_) (λp u u=>fO rfl) (fO (aT (λl=>D.list (l.map nD)) (abb gs n x)))
  have hp:=dh.mp hp;refine f5 (x:=rQ gs p) (by simp[hp]) (gB λu u u F=>FF F.room (by decide) (n:=1) (k:=1) (aj.list (Io gs p)) (tZ x) (by decide) (by decide) ⟨rfl,afc gs n p hp x⟩)
 have e:(jT bV).map (λx=>D.list (((e8 gs n).filter λp=>decide (eT gs p=x)).map nD))=(aH gs n bV).map λps=> .list (ps.map nD):=by unfold aH;rw[eL];rfl
 rw[e];refine qD (α:=lG lQ 15 Q (lvK sa cs i r s n wd gs vs w bV s1 (Pw:=.ow (.list ((aH gs n bV).map λps=> .list (ps.map nD)))))) ?_ (by kernel_rfl);exact f5 (aak w WK) (qD (k bV s1 ⟨hp,hs⟩) (by kernel_rfl))
section
variable {fr:Fm}{A:aQ}{α β δ ε:Type}{E:aS}{V V':VS}{gl gl':dU}
theorem KL (hf:dH fr gl){px pos:Pos}{m:aa}{t:Tok}{e dd:av}{F:ah}{Vc:eX}{own rest:cN}{V:VS}{f:pU}(c:ia "error" (.at (.ref e)) V f)(rv:RV fr.mt F V Vc own)
  {Q:yw}(h:Q (.str m t) ⟨F,Vc,own++((dd,.obj (j5 fr.w.params (.str m t)))::(e,.obj (yb dd))::rest)⟩):
  T fr A (eval (.Attribute (.Name "error" px) "message" pos) fr.e) E ⟨F,Vc,own++((dd,.obj (j5 fr.w.params (.str m t)))::(e,.obj (yb dd))::rest)⟩ Q:=by
 refine MO (dF hf (rv.Od c.mem) ?_) (by with_unfolding_all rfl);intro hp d tk st;exact b8 (st.own (dd,.obj (j5 fr.w.params (.str m t))) (lz _ (.head _))) λz z z o2 ho2 LY=>M3 (st.cell (p:=(e,.obj (yb dd))) (lz _ (.tail _ (.head _)))) λoe hoe h1 h2 h3=>agK (hf.cx.K.keeps st.keep) hoe h1 h2 h3 ho2 LY rfl (af hp d (tk+1) _ rfl st h)
noncomputable def XH (n:Nat):qy:=("integer",List.replicate (n+1) (.int 1),.none)
noncomputable abbrev FQ (sa:av)(cs:cH)(i r s:Int)(n wd:Nat)(gs:bT)(vs:List d8)(w:Nat)(bV:B6)(s1:Sl)(Hx K0 KZ v20 Hw HK Dz E5 yE yD ze zd sQ v30 zc B0:Sl:=.un):VS:=Te sa cs i r s n wd gs vs w .fz .fz (.fz (.list ((xM wd).map .str))) (.fz (.list ((nY vs.length).map .str))) (.fz (.list (gs.map jJ))) (.fz (.list ((List.range n).map (rQ gs)))) (.fz (.list (ll ((e8 gs n).map (eT gs))))) (.fz (.list (ll (jT bV)))) s1 (.fz (.list ((aH gs n bV).map λps=> .list (ps.map nD)))) (.fz (.const (.ref (oO w)))) Hx K0 KZ v20 Hw HK Dz E5 yE yD ze zd sQ v30 zc B0
theorem Zn {l:fc}{j:Nat}{st:Stmt}{Q:bY}(e:l[j]? =some st)(h:DT fr A E RF V (exec st fr.e) (Pf fr A E (l.drop (j+1)) Q)):DT fr A E RF V (execs (l.drop j) fr.e) Q:=by refine xE (Bu.mp e) λhk e=>?_;rw[pQ hk,e];exact cL h
theorem RN (hf:dH fr iC)(room:cC A 12)(iG:fr.e.scope=mH.scope):Fr Gh fr A:=⟨hf,room,lg iG⟩
theorem ajC (hf:dH fr iC)(hw:iL fr)(room:cC A 12)(iG:fr.e.scope=mH.scope)(sk:wz fr A []){sa:av}{cs:cH}{i r s:Int}{n wd w:Nat}{gs:bT}{vs:List d8}{bV:B6}{s1:Sl}(k7:cs.length<=63)(h0:0<=i)(h1:i<=cs.length)(hn:n<=5)(hg:∀c∈gs,gQ n c)(jR:gs.length=wd)(h2:1<=wd)(h3:wd<=2)
  (sM:vs.length<=2)
  (k:∀(i r s:Int),DT fr A gO RF (FQ sa cs i r s n wd gs vs w bV s1) (execs ((fB 148).drop 17) fr.e) (λfl y=>ie fl=.bool true)):
  DT fr A gO RF (FQ sa cs i r s n wd gs vs w bV s1) (execs ((fB 148).drop 16) fr.e) (λfl y=>ie fl=.bool true):=by
 have aW:cap=1048576:=rfl;have F0:=RN hf room iG;refine Zn rfl (acB (bD 90 Gh fr A gO (.kb _ _) _ F0 ?_));intro u;refine⟨rfl,?_⟩;refine IC k7 h0 h1 (by decide) (by decide) (by decide) λkk i r s hk h0 h1=>⟨λy=>?_,λy=>xq (k i r s)⟩;show DT fr A gO RF (FQ sa cs i r s n wd gs vs w bV s1) _ _;refine cL ?_;intro F Vc own rest rv;have hga:Hs ((("aggregate_by":aa),Value.ref 841)) iC:=bx rfl;have C0:gs.map aX≠[]:=λq=>by rw[ER] at q;subst q;simp at jR;omega
 refine Zc (m:="arguments must have same length") hf hw sk (bx rfl) ?_ rv (cj rfl) ?_ ?_
 .unfold Env.kindOf
  rw[iG]
  kernel_rfl
 .refine bq (Zd (iN (iM hf hga.mem (bJ hf.cx (hf.gl _ hga.mem).2.2.2 ?_ (by with_unfolding_all rfl))) (by with_unfolding_all rfl)) (by rw[iG];kernel_rfl) (by with_unfolding_all rfl))
  refine T.goE (R:=aK) (d0:=[.list ((vs.map (bX .int)++[XH n]).map cD),.list ((nY vs.length).map .str++[.str "z"]),.list ((gs.map aX).map cD),.list ((xM wd).map .str),.const (.ref (oO w))]) (acg:=FQ sa cs i r s n wd gs vs w bV s1) (bD 90 Gh fr A _ (.kl _ _) _ F0 ?_ _ F Vc own rest rv) fun vals F1 c5 aC bQ cM r1=>?_
  .refine gB λy y y y=>Dp.fz (tE (by omega) (by omega) ?_)
   refine⟨by simp;omega,?_⟩;refine⟨by rw[bw];unfold nY;rw[BD];show min vs.length 2+1<=cap;omega,?_⟩;refine⟨?_,rfl⟩;have e3:((n:Int)+1).toNat=n+1:=Int.toNat_natCast_add_one;rw[e3];have e4:(vs.map (bX .int)++[XH n]).map cD=(vs.map (bX .int)).map cD++[dX (List.replicate (n+1) (.int 1))]:=by rw[dN];rfl
   rw[e4]
  have hx:=Dg (vs.map (bX .int)++[XH n]) (gs.map aX) n C0 (by simp;omega) (λg0 h=>by
   have hm:g0∈gs.map aX:=by
    induction h':gs.map aX using nU with
    |nil=>exact absurd h' C0
    |cons a b=>rw[h'] at h;cases h;exact .head _
   refine aq (bN.mp hm) λc hc z2=>?_;subst z2;rw[<-(hg c hc).len];exact bw ..) ⟨XH n,by simp,by simp[XH]⟩ (.list ((nY vs.length).map .str++[.str "z"])) (.list ((xM wd).map .str)) (.const (.ref (oO w)));exact((hx fr iC A [] _ hf hw (room.le (by decide)) sk vals F1 c5 aC bQ r1 rest).mono λy y z=>z.elim).monoE λev s z=>(gE F1 c5 aC bQ cM z)
 .intro e dd t F2 jX bE ff
  refine bq (BS (EY (KL hf (cj rfl) ff (KG λt2=>?_)) (by with_unfolding_all rfl)));have hq:(("arguments must have same length":aa)==("arguments must have same length":aa))=true:=by decide+kernel
  exact T.goE (VP (V:=_) ⟨aT D.bool hq,rfl⟩ _ _ F2 jX bE _ ff .str .str) λv F3 nH cY lH iP rr=>⟨.ret (.bool true),_,cY,_,rfl,iP,lH,cj rfl,.ret rr,rfl⟩
end
section
variable {fr:Fm}{A:aQ}{α β δ ε:Type}{E:aS}{V V':VS}{gl gl':dU}
theorem aat {a b:D}{n k:Nat}(hu:A.units+64<cLine)(ha:aj n a)(hb:aj k b)(hn:n<=60)(hk:k<=60){Q:az}(h:Q (.bool (!Su a b)) V):gG fr A E Rp V (compareOp .NotEq) a b Q:=λv u F Vc own rs rv ra rb hp d tk st=>by refine xE (fq st n ha ra) λas r1=>xE (fq st k hb rb) λbs r2=>ne_dataH r1 r2 (lF ha hn) (lF hb hk) hu (b9 (tk:=tk) st rv ?_ h);rw[uu ha hb];exact .bool
theorem afW (hf:dH fr iC)(hw:iL fr)(room:cC A 12)(iG:fr.e.scope=mH.scope)(sk:wz fr A []){sa:av}{cs:cH}{i r s:Int}{n wd w:Nat}{gs:bT}{vs:List d8}{bV:B6}{s1:Sl}(hn:n<=5)(hg:∀c∈gs,gQ n c)(nc:∀v∈vs,gQ n (.int,v))(jR:gs.length=wd)(h2:1<=wd)(h3:wd<=2)
  (sM:vs.length<=2)(hy:Srt gs n bV)(vI:aH gs n bV=[])
  (k:DT fr A gO RF (FQ sa cs i r s n wd gs vs w bV s1) (execs ((fB 148).drop 18) fr.e) (λfl y=>ie fl=.bool true)):
  DT fr A gO RF (FQ sa cs i r s n wd gs vs w bV s1) (execs ((fB 148).drop 17) fr.e) (λfl y=>ie fl=.bool true):=by
 have aW:cap=1048576:=rfl;have F0:=RN hf room iG;refine Zn rfl ?_;intro F Vc own rest rv;have hga:Hs ((("aggregate_by":aa),Value.ref 841)) iC:=bx rfl;have C0:gs≠[]:=λq=>by subst q;simp at jR;omega
 have hy0:jT bV=[]:=by
  unfold aH at vI
  rwa [ER] at vI
 refine Zc (m:="no rows to aggregate") hf hw sk (bx rfl) ?_ rv (cj rfl) ?_ ?_
 .unfold Env.kindOf
  rw[iG]
  kernel_rfl
 .refine bq (mX (iN (iM hf hga.mem (bJ hf.cx (hf.gl _ hga.mem).2.2.2 ?_ (by with_unfolding_all rfl))) (by with_unfolding_all rfl)) (by with_unfolding_all rfl))
  refine T.goE (R:=aK) (d0:=[.list ((vs.map (bX .int)).map cD),.list ((nY vs.length).map .str),.list ((gs.map aX).map cD),.list ((xM wd).map .str),.const (.ref (oO w))]) (acg:=FQ sa cs i r s n wd gs vs w bV s1) (bD 90 Gh fr A _ (.kl _ _) _ F0 (by exact⟨rfl,rfl⟩) _ F Vc own rest rv) λvals F1 c5 aC bQ cM r1=>?_;have Tn:=Ek (by omega) gs hg C0 (aB (fh jR) (aB h3 (by decide))) bV hy;rw[vI] at Tn;have hx:=Bp (vs.map (bX .int)) (gs.map aX) n (by simpa using C0) (by simp;omega) (λc hc=>by
   rcases j6.mp hc with hc|hc
   .refine aq (bN.mp hc) λv hv z4=>?_;subst z4
    rw[<-(nc v hv).len];exact bw ..
   .refine aq (bN.mp hc) λc' ju z5=>?_;subst z5
    rw[<-(hg c' ju).len];exact bw ..) Tn (.list ((nY vs.length).map .str)) (.list ((xM wd).map .str)) (.const (.ref (oO w)));exact((hx fr iC A [] _ hf hw (room.le (by decide)) sk vals F1 c5 aC bQ r1 rest).mono λy y z=>z.elim).monoE λev s z=>(gE F1 c5 aC bQ cM z)
 .intro e dd t F2 jX bE ff
  have hu:(A.mark (some (.ref e))).units+64<cLine:=room.u64 (by decide);have iY:(ll (jT bV))=[]:=by rw[hy0];rfl
  refine bq (ag9 ?_);refine Y7 ?_;have jr:(!Su (.list (ll (jT bV))) (.list []))=false:=by rw[iY,uw];rfl
  refine T.goE (R:=RB) (d0:=false) (acg:=FQ sa cs i r s n wd gs vs w bV s1 (B0:=.at (.ref e))) (BX (aeI hf (bx rfl) (Pc hf (l6 ⟨jU _,aat hu (n:=1) (k:=1) (aj.list λd hd=>?_) (aj.list λd hd=>aR hd) (by decide) (by decide) (IG ⟨jr,rfl⟩)⟩))) (by with_unfolding_all rfl) F2 jX bE _ ff) λb F3 nH cY lH iP rb=>?_
  .rw[iY] at hd;exact aR hd
  rw[show b=false from rb,aG sG];refine Y7 (mW (KL hf (cj rfl) lH (KG λt2=>?_)) (by with_unfolding_all rfl));have hq:(("no rows to aggregate":aa) !=("no rows to aggregate":aa))=false:=by decide+kernel
  refine T.goE (VL (V:=_) ⟨aT D.bool hq,rfl⟩ _ _ F3 nH cY _ lH .str .str) λv F4 Vc4 oR K3 LI rr=>T.goE (IG (V:=_) (b:=false) ⟨rfl,rfl⟩ v F4 Vc4 oR _ K3 rr) λb F5 Y5 lK Nk LH rb=>?_;rw[show b=false from rb,aG sG];refine KD ?_;refine gM (gM ?_);exact(aL .next _ lK _ rfl ((iP.trans LI).trans LH) Nk (cj rfl) .next k)
end
section
variable {fr:Fm}{A:aQ}{α β δ ε:Type}{E:aS}{V V':VS}{gl gl':dU}
theorem acy {body:fc}{h₀:ExceptHandler}{hs:List ExceptHandler}{pos:Pos}{Q:bY}(h:DT fr A gO RF V (execs body fr.e) Q):DT fr A E RF V (exec (.Try body (h₀::hs) [] [] pos) fr.e) Q:=λF Vc own rest rv hp d tk st=>by
 refine wpAny_Try_except (fk (h F Vc own rest rv hp d tk st) (λf s q=>?_) λy y z=>z.elim);induction f using Zc3 with
 |next=>exact wpAny_execs_nil q
 |_=>exact q
end
noncomputable def zl (w:Nat)(gs:bT)(vs:List d8)(n wd:Nat)(bV:B6):D:=
 .vec "list" (.list (gs.map (ME (aH gs n bV))++vs.map (nQ w (aH gs n bV)))) (jd ((xM wd++nY vs.length).map .str) ((List.range (aH gs n bV).length).map fun k=>nD (k+1)))
theorem DE (g:Gk)(hg:BW g)(o:gF)(ho:∀k,o=some k->k<g.size):aj 0 (dz g o):=by
 induction o using fL with
 |none=>exact aj.none
 |some k=>
  have hk:=ho k rfl;induction g using Gk.casesOn with
  |int=>exact aj.int
  |nZ=>exact aj.int
  |chr=>
   have:∀k:Fin 5,PyData.strOk (aO.getD k.val "")=true:=by decide+kernel
   exact aj.str (this ⟨k,hk⟩)
  |dR lv=>
   have:∀lv∈lvs,∀k:Fin lv.length,PyData.strOk (lv.getD k.val "")=true:=by decide+kernel
   exact aj.str (this lv (hg lv rfl) ⟨k,hk⟩)
theorem DW (a b:Nat):∀d∈(xM a++nY b).map D.str,aj 0 d:=λd hd=>by
 refine aq (bN.mp hd) λs hs z0=>?_;subst z0;refine aj.str ?_;have key:∀s∈(["g","h","v","w"]:ay),PyData.strOk s=true:=by decide+kernel
 rcases j6.mp hs with hs|hs
 .have:=YN hs
  exact key s (by revert this;simp;rintro (rfl|rfl)<;>simp)
 .have:=YN hs
  exact key s (by revert this;simp;rintro (rfl|rfl)<;>simp)
theorem IP (l:bF):∀d∈l.map (λk=>nD (k+1)),aj 0 d:=λd hd=>by refine aq (bN.mp hd) λk z z0=>?_;subst z0;exact aj.int
theorem zI (m:Nat):sY 1 1 ((m:Int)+1-1).toNat=(List.range m).map λk=>nD (k+1):=by
 unfold sY;have:((m:Int)+1-1).toNat=m:=by simp
 rw[this];apply dZ;intro k z;refine aT _ ?_;omega
theorem Jt {X:Type}(gs:List X)(d:X)(k:Nat)(hk:k<gs.length):gs.getD k d=gs[k]/\gs.getD k d∈gs:=by
 have:gs.getD k d=gs[k]:=by rw[dS,eE hk];rfl
 exact⟨this,by rw[this];exact jj hk⟩
theorem vo {X:Type}(gs:List X)(d:X)(f:X->D)(k:Nat)(hk:k<gs.length):(gs.map f)[((k:Nat):Int).toNat]? =some (f (gs.getD k d)):=by simp only[(Jt gs d k hk).1,Dj,g9,eE hk];rfl
noncomputable abbrev dC:GC:=(.int,[])
theorem DM (w:Nat)(v:d8):∀d∈lI w v,aj 0 d:=λd hd=>by
 match w with
 |0=>rw[ly.mp hd];exact aj.int
 |1=>rw[ly.mp hd];exact aj.int
 |w+2=>
  rcases bW.mp hd with rfl|hd
  .exact aj.int
  .rw[ly.mp hd];exact aj.int
theorem zM (w:Nat)(v:d8):(lI w v)[(0:Int).toNat]? =some ((lI w v).headD .none):=by
 match w with
 |0=>rfl
 |1=>rfl
 |w+2=>rfl
theorem HQ (g:Gk)(v:d8)(p:Nat)(hp:p<v.length):(v.map (dz g))[((p:Nat):Int).toNat]? =some (dz g (v.getD p none)):=by rw[Dj,g9,dS,eE hp];rfl
theorem Ry {c:WC}{a b:D}{n:Nat}{V:VS}{Q:az}(hm:7<=c.m)(e:b=a)(h:aj n a)(hn:n<=60)(k:Q (.bool false) V):qU c (compareOp .NotEq) a b Q V:=by rw[e];exact gB λz z z F=>afo F.room hm h h hn hn (by rw[uw];exact k)
theorem zk (a b:Nat):((xM a).map D.str).length+((nY b).map D.str).length<=4:=by delta xM nY;simp only[bw,bw,BD,BD];show min a 2+min b 2<=4;omega (splitDisjunctions:=true)
noncomputable def amL:Option Stmt->fc
 |some (.Try b _ _ _ _)=>b
 |_=>[]
noncomputable def RM:fc:=amL (fB 148)[17]?
theorem aa3 {sa:av}{cs:cH}{i r s:Int}{n wd w:Nat}{gs:bT}{vs:List d8}{bV:B6}{s1:Sl}(hn:n<=5)(hg:∀c∈gs,gQ n c)(nc:∀v∈vs,gQ n (.int,v))(jR:gs.length=wd)(h2:1<=wd)(h3:wd<=2)
  (sM:vs.length<=2)(WK:w<3)(hy:Srt gs n bV)(vI:aH gs n bV≠[]){Q:bY}
  (k:∀st Tc sdu sco,Q .next (FQ sa cs i r s n wd gs vs w bV s1 (sQ:=st) (Hx:=Tc) (K0:=sdu) (KZ:=sco))):
  lG RM 0 Q (FQ sa cs i r s n wd gs vs w bV s1):=by
 have aW:cap=1048576:=rfl;have C0:gs≠[]:=λq=>by subst q;simp at jR;omega
 have w5:=wJ hy;have WO:=zO hy;have vH:=zk wd vs.length;refine ai (JX (by omega) w WK gs vs (xM wd) (nY vs.length) hg nc C0 (by omega) (by rw[bw,bw] at vH;omega) bV hy vI) ?_;refine qD (α:=lG RM 1 Q (FQ sa cs i r s n wd gs vs w bV s1 (sQ:=.fz (zl w gs vs n wd bV)))) ?_ (by kernel_rfl);refine gB λy y y F=>FF F.room (by decide) (n:=2) (k:=1) (aj.list λd hd=>?_) (aj.list λd hd=>aR hd) (by decide) (by decide) ?_
 .refine aq (bN.mp hd) λz y z0=>?_;subst z0
  exact tZ z
 have e3:Su (.list (ll (jT bV))) (.list [])=false:=by
  induction q:Su (.list (ll (jT bV))) (.list []) using pR with
  |false=>rfl
  |true=>have:=qq.mp q;injection this with this;rw[ER] at this;exact absurd (by unfold aH;rw[this];rfl) vI
 rw[e3];refine qD (α:=lG RM 2 Q (FQ sa cs i r s n wd gs vs w bV s1 (sQ:=.fz (zl w gs vs n wd bV)))) ?_ (by kernel_rfl);refine⟨by omega,?_⟩;refine Ry (n:=1) (by decide) (by rw[<-dN]) (aj.list (DW _ _)) (by decide) ?_;have ekl:(ll (jT bV)).length=(aH gs n bV).length:=by unfold aH;rw[bw,bw]
 refine kZ λy y y F=>B7.fz (qa F.room.handled (J5 cap 1) (by omega) (J5 cap ((ll (jT bV)).length+1)) (by omega) (by omega) ?_);refine Ry (n:=1) (by decide) (by rw[ekl,zI]) (aj.list (IP _)) (by decide) (qD (α:=lG RM 3 Q (FQ sa cs i r s n wd gs vs w bV s1 (sQ:=.fz (zl w gs vs n wd bV)))) ?_ (by kernel_rfl));refine Mf (n:=wd) (g:=nD) (iW (by omega)) (λy Tc=>FQ sa cs i r s n wd gs vs w bV s1 (sQ:=.fz (zl w gs vs n wd bV)) (Hx:=Tc)) (λy=>True) .un rfl trivial (λk Tc hk y K k1 y y y=>?_) λTc y=>?_
 .have hkg:k<gs.length:=by simp_all
  refine xA (Jt gs dC k hkg) λy nh=>?_;have uU:=hg _ nh;have B5:(gs.map (ME (aH gs n bV))++vs.map (nQ w (aH gs n bV)))[((k:Nat):Int).toNat]? =some (ME (aH gs n bV) (gs.getD k dC)):=by
   rw[Dj,List.getElem?_append_left (by rw[bw];exact hkg)];have:=vo gs dC (ME (aH gs n bV)) k hkg
   rwa [Dj] at this
  have W0:((gs.map aX).map cD)[((k:Nat):Int).toNat]? =some (cD (aX (gs.getD k dC))):=by rw[eL];exact vo gs dC (cD∘aX) k hkg
  have WV:∀lv,(gs.getD k dC).1=.dR lv->lv.length<=100:=λlv q=>by have:=(vp lv (uU.gk lv q)).2.1;omega
  refine f5 B5 ?_;refine ai (kC (gs.getD k dC).1 WV (((aH gs n bV).map λps=>ps.headD 0).map (bO (gs.getD k dC))) (λj hj=>by refine aq (bN.mp hj) λp y e=>?_;exact uU.get p j e) (by rw[bw,bw];exact aB w5 (aB hn (by decide)))) ?_;refine bL (xs:=aH gs n bV) (G:=λps=> .list (ps.map nD)) (H:=λps=>dz (gs.getD k dC).1 (bO (gs.getD k dC) (ps.headD 0))) bS (aB w5 (aB hn (by decide))) (λps kI=>?_) ?_
  .refine nX (WO ps kI) λq1 q2 q3=>f5 W0 (ai (kC (gs.getD k dC).1 WV (gs.getD k dC).2 uU.val (by rw[uU.len];omega)) ?_)
   induction ps using nU with
   |nil=>exact absurd rfl q1
   |cons p ps=>exact f5 (HQ _ _ p (by rw[uU.len];exact q3 p (.head _))) (fO rfl)
  have e1:(((aH gs n bV).map λps=>ps.headD 0).map (bO (gs.getD k dC))).map (dz (gs.getD k dC).1)=(aH gs n bV).map λps=>dz (gs.getD k dC).1 (bO (gs.getD k dC) (ps.headD 0)):=by rw[eL,eL];rfl
  rw[e1];refine Ry (n:=1) (by decide) rfl (aj.list λd hd=>?_) (by decide) ?_
  .refine aq (bN.mp hd) λps y z1=>?_;clear hn hg nc jR h2 h3 sM WK hy vI aW C0 w5 WO vH F e3 ekl hk k1 nh B5 W0 WV e1 hd;subst z1
   exact DE _ uU.gk _ (uU.get _)
  exact k1 (.fz (nD k)) trivial
 refine qD (α:=lG RM 4 Q (FQ sa cs i r s n wd gs vs w bV s1 (sQ:=.fz (zl w gs vs n wd bV)) (Hx:=Tc))) ?_ (by kernel_rfl);refine Mf (n:=vs.length) (g:=nD) (St:=Sl×Sl×Sl) (by rw[bw,bw];exact iW (by omega)) (λy st=>FQ sa cs i r s n wd gs vs w bV s1 (sQ:=.fz (zl w gs vs n wd bV)) (Hx:=st.1) (K0:=st.2.1) (KZ:=st.2.2)) (λy=>True) (Tc,.un,.un) rfl trivial (λk st hk y K k1 y y y=>?_) λst y=>?_
 .refine xA (Jt vs [] k hk) λy Tg=>?_
  have uU:=nc _ Tg;generalize hv:vs.getD k []=v at uU;have K5:v.length=n:=uU.len;have R3:((vs.map (bX .int)).map cD)[((k:Nat):Int).toNat]? =some (.vec "integer" (.list (v.map (aM .int))) .none):=by rw[eL];have:=vo vs [] (cD∘bX .int) k hk;rw[hv] at this;exact this
  have B5:(gs.map (ME (aH gs n bV))++vs.map (nQ w (aH gs n bV)))[((wd+k:Nat):Int).toNat]? =some (nQ w (aH gs n bV) v):=by
   rw[Dj,O0 (by rw[bw];exact aB (fh jR) (xj _ _)),bw];have:=vo vs [] (nQ w (aH gs n bV)) k hk;rw[hv,Dj] at this;have e1:wd+k-gs.length=k:=by simp_all
   rw[e1];exact this
  have lR:∀d∈(aH gs n bV).map (λps=>D.list (lI w (ps.map λp=>v.getD p none))),aj 1 d:=λd hd=>by refine aq (bN.mp hd) λps y z2=>?_;clear hn hg nc jR h2 h3 sM WK hy vI aW C0 w5 WO vH F e3 ekl k1 Tg hv uU K5 R3 B5 hd;subst z2;exact aj.list (DM w _)
  refine bL (xs:=aH gs n bV) (G:=λps=> .list (ps.map nD)) (H:=λps=> .list (lI w (ps.map λp=>v.getD p none))) bS (aB w5 (aB hn (by decide))) (λps kI=>?_) ?_
  .refine nX (WO ps kI) λq1 q2 q3=>gV λfr A E F=>Pd F.f (bx rfl) (DL w _) (bD 90 _ fr A E (.kl _ _) _ F ?_ _)
   refine bL (xs:=ps) (G:=nD) (H:=λp=>aM .int (v.getD p none)) bS (aB q2 (aB hn (by decide))) (λp hp=>?_) ?_
   .have hpn:p<v.length:=by rw[K5];exact q3 p hp
    refine f5 R3 (f5 (x:=aM .int (v.getD p none)) ?_ (fO rfl));rw[Dj,g9,dS,eE hpn];rfl
   have e1:(ps.map λp=>aM .int (v.getD p none))=(ps.map λp=>v.getD p none).map (aM .int):=by rw[eL];rfl
   rw[e1];refine(Vz w (ps.map λp=>v.getD p none) (by rw[bw];exact aB q2 (aB hn (by decide)))).run F.f F.room (fu rfl) λd e=>?_;rw[e];exact fO rfl
  by_cases hw2:w<2
  .have eav:nQ w (aH gs n bV) v=dX ((aH gs n bV).map λps=>(lI w (ps.map λp=>v.getD p none)).headD .none):=by unfold nQ;rw[bg hw2]
   rw[eav] at B5;refine f5 B5 (cF (by simp;omega) ?_);refine bL (xs:=aH gs n bV) (G:=λps=> .list (lI w (ps.map λp=>v.getD p none))) (H:=λps=>(lI w (ps.map λp=>v.getD p none)).headD .none) bS (aB w5 (aB hn (by decide))) (λps kI=>f5 (zM w _) (fO rfl)) (Ry (n:=1) (by decide) rfl (aj.list λd hd=>?_) (by decide) ?_)
   .refine aq (bN.mp hd) λps y z3=>?_;clear hn hg nc jR h2 h3 sM WK hy vI aW C0 w5 WO vH F e3 ekl k1 Tg hv uU K5 R3 B5 lR hw2 eav hd;subst z3
    exact DM w _ _ (Ks (zM w (ps.map λp=>v.getD p none)))
   exact k1 (_,_,_) trivial
  .have eav:nQ w (aH gs n bV) v=.vec "list" (.list ((aH gs n bV).map fun ps=>m7 w (ps.map fun p=>v.getD p none))) .none:=by unfold nQ;rw[aG hw2]
   rw[eav] at B5;refine f5 B5 (cT (by simp;omega) ?_);refine bL (xs:=aH gs n bV) (G:=λps=>m7 w (ps.map λp=>v.getD p none)) (H:=λps=> .list (lI w (ps.map λp=>v.getD p none))) bS (aB w5 (aB hn (by decide))) (λps kI=>fO rfl) (Ry (n:=2) (by decide) rfl (aj.list lR) (by decide) ?_);exact k1 (_,_,_) trivial
 exact qD (k (.fz (zl w gs vs n wd bV)) st.1 st.2.1 st.2.2) (by kernel_rfl)
section
variable {fr:Fm}{A:aQ}{α β δ ε:Type}{E:aS}{V V':VS}{gl gl':dU}
theorem afV (hf:dH fr iC)(hw:iL fr)(room:cC A 12)(iG:fr.e.scope=mH.scope){sa:av}{cs:cH}{i r s:Int}{n wd w:Nat}{gs:bT}{vs:List d8}{bV:B6}{s1:Sl}(hn:n<=5)(hg:∀c∈gs,gQ n c)(nc:∀v∈vs,gQ n (.int,v))(jR:gs.length=wd)(h2:1<=wd)(h3:wd<=2)
  (sM:vs.length<=2)(WK:w<3)(hy:Srt gs n bV)(vI:aH gs n bV≠[]){Q:bY}
  (k:∀st Tc sdu sco,DT fr A gO RF (FQ sa cs i r s n wd gs vs w bV s1 (sQ:=st) (Hx:=Tc) (K0:=sdu) (KZ:=sco)) (execs ((fB 148).drop 18) fr.e) Q):
  DT fr A gO RF (FQ sa cs i r s n wd gs vs w bV s1) (execs ((fB 148).drop 17) fr.e) Q:=
 Zn rfl (acy (bD 100 Gh fr A gO (.kq RM 0 _) _ (RN hf room iG) (aa3 hn hg nc jR h2 h3 sM WK hy vI λst Tc sdu sco=>k st Tc sdu sco) hw))
end
noncomputable def bR (gs:bT)(vs:List d8):bT:=gs++vs.map λv=>(.int,v)
noncomputable def dfD (gs:bT)(vs:List d8)(n wd:Nat):D:=
 .vec "list" (.list (((bR gs vs).map aX).map cD)) (jd ((xM wd++nY vs.length).map .str) ((List.range n).map fun k=>nD (k+1)))
noncomputable def tN (je:bT)(p:Nat):ak:=je.map λc=>dz c.1 (bO c p)
noncomputable def pn (je:bT)(p:Nat):D:=.tup (tN je p)
noncomputable def w9 (je:bT)(p:Nat):D:=.int (if yc je p then 1 else 0)
theorem FZ:∀a b:Fin 5,aO.getD a.val ""=aO.getD b.val ""->a=b:=by decide+kernel
theorem aaQ:∀lv∈lvs,∀a b:Fin lv.length,lv.getD a.val ""=lv.getD b.val ""->a=b:=by decide+kernel
theorem PC (g:Gk)(hg:BW g)(a b:gF)(ha:∀k,a=some k->k<g.size)(hb:∀k,b=some k->k<g.size)(h:dz g a=dz g b):a=b:=by
 have hn:∀(g:Gk) (k:Nat),dz g (some k)≠D.none:=λg k q=>by induction g using Gk.casesOn<;>cases q
 induction a using fL with
 |none=>
  induction b using fL with
  |none=>rfl
  |some k=>exact absurd h.symm (hn g k)
 |some i=>
  induction b using fL with
  |none=>exact absurd h (hn g i)
  |some j=>
   have hi:=ha i rfl;have hj:=hb j rfl;refine aT _ ?_;induction g using Gk.casesOn with
   |int=>have h:D.int ((i:Int)-1)=D.int ((j:Int)-1):=h;injection h with h;omega
   |nZ=>have h:D.int (i:Int)=D.int (j:Int):=h;injection h with h;omega
   |chr=>have h:D.str (aO.getD i "")=D.str (aO.getD j ""):=h;injection h with h;exact aT Fin.val (FZ ⟨i,hi⟩ ⟨j,hj⟩ h)
   |dR lv=>have h:D.str (lv.getD i "")=D.str (lv.getD j ""):=h;injection h with h;exact aT Fin.val (aaQ lv (hg lv rfl) ⟨i,hi⟩ ⟨j,hj⟩ h)
theorem D4 {n:Nat}{je:bT}(hc:∀c∈je,gQ n c)(i j:Nat):tN je i=tN je j↔∀c∈je,bO c i=bO c j:=by unfold tN;rw[Yw];exact⟨λh c hm=>PC c.1 (hc c hm).gk _ _ ((hc c hm).get i) ((hc c hm).get j) (h c hm),λh c hm=>by rw[h c hm]⟩
theorem We {n:Nat}{je:bT}(hc:∀c∈je,gQ n c)(p:Nat)(hp:p<n):ph (pn je p) (((List.range n).map (pn je)).take p)=yc je p:=by
 rw[qM,lM,<-Ox,List.take_range,Yj (by omega)];unfold yc;rw[EI,bN];constructor
 .intro z0;refine aq z0 λj hj e=>⟨j,hj,j8.mpr λc hm=>i6 ?_⟩
  have e:tN je j=tN je p:=by injection e
  exact(D4 hc j p).mp e c hm
 .intro z1;refine aq z1 λj hj e=>⟨j,hj,?_⟩
  exact aT D.tup ((D4 hc j p).mpr λc hm=>jx (j8.mp e c hm))
theorem zo (g:Gk)(o:gF):dz g o=D.none↔o.isNone=true:=by
 induction o using fL with
 |none=>exact⟨λz=>rfl,λz=>rfl⟩
 |some k=>exact⟨λq=>(by induction g using Gk.casesOn<;>cases q),λq=>(by cases q)⟩
theorem RG (je:bT)(p:Nat):ph .none (tN je p)=gf (je.map aX) p:=by rw[qM,lM,tR,EI];unfold tN;rw[bN];exact⟨λz0=>aq z0 λc hc e=>⟨c,hc,(zo _ _).mp e⟩,λz1=>aq z1 λc hc e=>⟨c,hc,(zo _ _).mpr e⟩⟩
theorem vq {n:Nat}{je:bT}(hc:∀c∈je,gQ n c)(p:Nat):∀d∈tN je p,aj 0 d:=λd hd=>by refine aq (bN.mp hd) λc hm z0=>?_;subst z0;exact DE _ (hc c hm).gk _ ((hc c hm).get p)
theorem JP {n:Nat}{gs:bT}{vs:List d8}(hg:∀c∈gs,gQ n c)(nc:∀v∈vs,gQ n (.int,v)):∀c∈bR gs vs,gQ n c:=λc hc=>by
 refine fU (j6.mp hc) (λhc=>?_) λhc=>?_
 .exact hg c hc
 .refine aq (bN.mp hc) λv hv z0=>?_;subst z0
  exact nc v hv
theorem N6 (gs:bT)(vs:List d8):(gs.map aX).map cD++(vs.map (bX .int)).map cD=((bR gs vs).map aX).map cD:=by unfold bR;rw[dN,dN,eL (g:=aX)];rfl
theorem Ak (n:Nat):((List.range n).map λk=>nD (k+1)).length=n:=by simp
theorem Sp (je:bT)(n:Nat):∀d∈(List.range n).map (w9 je),aj 0 d:=λd hd=>by refine aq (bN.mp hd) λk z z0=>?_;subst z0;exact aj.int
theorem Mk (f:Nat->Bool)(n:Nat):∀d∈dY n f,aj 0 d:=λd hd=>by refine aq (bN.mp hd) λk z z0=>?_;subst z0;exact aj.int
noncomputable abbrev lvY (x0 x1 x2:Sl)(n wd:Nat)(gs:bT)(vs:List d8)(x3 x4 x5 x6 x7 x8 x9 rM rL rK rJ wD:Sl)(v20 Hw HK Dz E5 yE yD ze zd v30 zc B0:Sl:=.un):VS:=LP x0 x1 x2 (.fz (nD n)) (.fz (nD wd)) (.fz (.list ((gs.map aX).map cD))) (.fz (.list ((vs.map (bX .int)).map cD))) x3 (.fz (.list ((xM wd).map .str))) (.fz (.list ((nY vs.length).map .str))) x4 x5 x6 x7 x8 x9 rM rL rK rJ v20 Hw HK Dz E5 yE yD ze zd wD v30 zc B0
theorem Ew {n:Nat}{gs:bT}{vs:List d8}(h3:gs.length<=2)(sM:vs.length<=2):(bR gs vs).length<=4:=by unfold bR;rw[fK,bw];exact aB (Yb h3 sM) (by decide)
theorem ajB {x0 x1 x2 x3 x4 x5 x6 x7 x8 x9 rM wD rL rK rJ:Sl}{n wd:Nat}{gs:bT}{vs:List d8}(hn:n<=5)(hg:∀c∈gs,gQ n c)(nc:∀v∈vs,gQ n (.int,v))(jR:gs.length=wd)(h3:wd<=2)(sM:vs.length<=2){Q:bY}
  (k:lG (fB 148) 22 Q (lvY x0 x1 x2 n wd gs vs x3 x4 x5 x6 x7 x8 x9 rM rL rK rJ wD (v20:=.fz (dfD gs vs n wd)) (Hw:=.fz (.list ((List.range n).map (pn (bR gs vs))))) (HK:=.fz (.list ((List.range n).map (w9 (bR gs vs))))))):
  lG (fB 148) 18 Q (lvY x0 x1 x2 n wd gs vs x3 x4 x5 x6 x7 x8 x9 rM rL rK rJ wD):=by
 have aW:cap=1048576:=rfl;have k7:=JP hg nc;have qp:(bR gs vs).length<=4:=Ew (n:=n) (aB (fh jR) h3) sM;have hgv:((gs.map aX).map cD).length+((vs.map (bX .int)).map cD).length<=cap:=by simp;omega
 have hsg:Hh (.list ((gs.map aX).map cD++(vs.map (bX .int)).map cD)) ((bR gs vs).map λc=>cD (aX c)):=by rw[N6];exact Ni
 refine⟨hgv,?_⟩;refine⟨aB (zk wd vs.length) (by decide),?_⟩;refine kZ λz z z F=>B7.fz (qa F.room.handled (J5 cap 1) (by omega) (J5 cap (n+1)) (by omega) (by omega) ?_);rw[zI];refine ai (pC _ _ _) ?_;rw[N6,<-dN];refine qD (α:=lG (fB 148) 19 Q (lvY x0 x1 x2 n wd gs vs x3 x4 x5 x6 x7 x8 x9 rM rL rK rJ wD (v20:=.fz (dfD gs vs n wd)))) ?_ (by kernel_rfl);refine bL (xs:=List.range n) (G:=nD) (H:=pn (bR gs vs)) (iW (by omega)) (by rw[iU];omega) (λp hp=>?_) ?_
 .have hp:=dh.mp hp
  refine⟨hgv,?_⟩;refine bL (xs:=bR gs vs) (G:=λc=>cD (aX c)) (H:=λc=>dz c.1 (bO c p)) hsg (by omega) (λc hc=>?_) ?_
  .have uU:=k7 c hc
   have WV:∀lv,c.1=.dR lv->lv.length<=100:=λlv q=>by have:=(vp lv (uU.gk lv q)).2.1;omega
   refine ai (kC c.1 WV c.2 uU.val (by rw[uU.len];omega)) ?_;exact f5 (HQ _ _ p (by rw[uU.len];exact hp)) (fO rfl)
  exact kZ λz z z z=>Rt (fO rfl)
 refine qD (α:=lG (fB 148) 20 Q (lvY x0 x1 x2 n wd gs vs x3 x4 x5 x6 x7 x8 x9 rM rL rK rJ wD (v20:=.fz (dfD gs vs n wd)) (Hw:=.ow (.list ((List.range n).map (pn (bR gs vs))))))) ?_ (by kernel_rfl);have an2:∀p,p<n->((List.range n).map (pn (bR gs vs)))[((p:Nat):Int).toNat]? =some (pn (bR gs vs) p):=λp hp=>by simp[hp]
 have akg:∀d∈(List.range n).map (pn (bR gs vs)),aj 1 d:=λd hd=>by refine aq (bN.mp hd) λp z z0=>?_;subst z0;exact aj.tup (vq k7 p)
 refine bL (xs:=List.range n) (G:=nD) (H:=w9 (bR gs vs)) (iW (by omega)) (by rw[iU];omega) (λp hp=>?_) ?_
 .have hp:=dh.mp hp
  have hlm:=We k7 p hp;refine f5 (an2 p hp) (gB λz z z F=>afw F.room (by decide) (n:=1) (k:=1) (λd hd=>akg d (YN hd)) (aj.tup (vq k7 p)) (by decide) ?_);refine cS (λhb=>fO ?_) (λhb=>fO ?_)
  .unfold w9;rw[hlm.symm.trans hb];rfl
  .unfold w9;rw[hlm.symm.trans hb];rfl
 refine qD (α:=lG (fB 148) 21 Q (lvY x0 x1 x2 n wd gs vs x3 x4 x5 x6 x7 x8 x9 rM rL rK rJ wD (v20:=.fz (dfD gs vs n wd)) (Hw:=.fz (.list ((List.range n).map (pn (bR gs vs))))) (HK:=.ow (.list ((List.range n).map (w9 (bR gs vs))))))) ?_ (by kernel_rfl);refine ai (ak0 k7 (by omega) (by omega) _ _ (Ak n)) (Ry (n:=1) (by decide) rfl (aj.list (Sp (bR gs vs) n)) (by decide) ?_);refine ai (Mt k7 (by omega) _ _ (Ak n)) (bL (xs:=List.range n) (G:=pn (bR gs vs)) (H:=λp=> .int (if gf ((bR gs vs).map aX) p then 0 else 1)) bS (by rw[iU];omega) (λp hp=>?_) ?_)
 .have Tj:=RG (bR gs vs) p
  refine gB λz z z F=>afv F.room (by decide) (n:=0) (k:=0) (vq k7 p) aj.none (by decide) (cS (λhb=>fO ?_) (λhb=>fO ?_))
  .rw[Tj.symm.trans hb];rfl
  .rw[Tj.symm.trans hb];rfl
 exact Ry (n:=1) (by decide) rfl (aj.list (Mk _ n)) (by decide) (qD k (by kernel_rfl))
noncomputable def Wg (gs:bT)(vs:List d8)(n wd:Nat):D:=
 .vec "list" (.list ((bR gs vs).map fun c=>cD (bX c.1 ((kW (bR gs vs) n).map (bO c))))) (jd ((xM wd++nY vs.length).map .str) ((kW (bR gs vs) n).map (gD ((List.range n).map fun k=>nD (k+1)))))
theorem Ec (g:Gk)(o:gF):aj 0 (aM g o):=by
 induction o using fL with
 |none=>exact aj.none
 |some k=>
  induction g using Gk.casesOn with
  |int=>exact aj.int
  |nZ=>exact aj.int
  |dR lv=>exact aj.int
  |chr=>
   refine aj.str ?_;have key:∀s∈aO,PyData.strOk s=true:=by decide+kernel
   rw[dS];induction q:aO[k]? using fL with
   |none=>decide+kernel
   |some s=>exact key s (Ks q)
theorem Nc {cs:bT}{n p:Nat}(h:p∈kW cs n):p<n:=by unfold kW at h;exact dh.mp (ji.mp h).1
theorem TQ (cs:bT)(n:Nat):(kW cs n).length<=n:=by unfold kW;refine aB (jk _ _) ?_;rw[iU];exact br _
theorem D5 (cs:bT)(n:Nat):(kW cs n).map (gD ((List.range n).map λk=>nD (k+1)))=(kW cs n).map λk=>nD (k+1):=
 dZ λk hk=>by have:=Nc hk;unfold gD;simp[dS,this]
noncomputable abbrev aaR (x0 x1 x2:Sl)(n wd:Nat)(gs:bT)(vs:List d8)(x3 x4 x5 x6 x7 x8 x9 rM rL rK rJ wD:Sl)(Dz E5 yE yD ze zd v30 zc B0:Sl:=.un):VS:=LP x0 x1 x2 (.fz (nD n)) (.fz (nD wd)) (.fz (.list ((gs.map aX).map cD))) (.fz (.list ((vs.map (bX .int)).map cD))) x3 (.fz (.list ((xM wd).map .str))) (.fz (.list ((nY vs.length).map .str))) x4 x5 x6 x7 x8 x9 rM rL rK rJ (.fz (dfD gs vs n wd)) (.fz (.list ((List.range n).map (pn (bR gs vs))))) (.fz (.list ((List.range n).map (w9 (bR gs vs))))) Dz E5 yE yD ze zd wD v30 zc B0
theorem ajA {x0 x1 x2 x3 x4 x5 x6 x7 x8 x9 rM wD rL rK rJ:Sl}{n wd:Nat}{gs:bT}{vs:List d8}(hn:n<=5)(hg:∀c∈gs,gQ n c)(nc:∀v∈vs,gQ n (.int,v))(jR:gs.length=wd)(h3:wd<=2)(sM:vs.length<=2){Q:bY}
  (k:lG (fB 148) 25 Q (aaR x0 x1 x2 n wd gs vs x3 x4 x5 x6 x7 x8 x9 rM rL rK rJ wD (Dz:=.fz (Wg gs vs n wd)) (E5:=.fz (.list ((kW (bR gs vs) n).map nD))))):
  lG (fB 148) 22 Q (aaR x0 x1 x2 n wd gs vs x3 x4 x5 x6 x7 x8 x9 rM rL rK rJ wD):=by
 have aW:cap=1048576:=rfl;have k7:=JP hg nc;have qp:(bR gs vs).length<=4:=Ew (n:=n) (aB (fh jR) h3) sM;have w4:=TQ (bR gs vs) n;have vH:=zk wd vs.length;refine ai (TP k7 (by omega) (by omega) (xM wd++nY vs.length) _ (by simp only[bw,bw] at vH;rw[fK];omega) (Ak n)) ?_;refine qD (α:=lG (fB 148) 23 Q (aaR x0 x1 x2 n wd gs vs x3 x4 x5 x6 x7 x8 x9 rM rL rK rJ wD (Dz:=.fz (Wg gs vs n wd)))) ?_ (by kernel_rfl);refine pL (xs:=List.range n) (G:=nD) (H:=nD) (λp=> !yc (bR gs vs) p) (iW (by omega)) (aB (jk _ _) (by rw[iU];omega)) (λp hp=>?_) (λp z z=>fO rfl) ?_
 .have hp:=dh.mp hp
  refine f5 (x:=w9 (bR gs vs) p) (by simp[hp]) ⟨rfl,?_⟩;induction hd:yc (bR gs vs) p using pR<;>rfl
 refine qD (α:=lG (fB 148) 24 Q (aaR x0 x1 x2 n wd gs vs x3 x4 x5 x6 x7 x8 x9 rM rL rK rJ wD (Dz:=.fz (Wg gs vs n wd)) (E5:=.ow (.list ((kW (bR gs vs) n).map nD))))) ?_ (by kernel_rfl);refine bL (xs:=kW (bR gs vs) n) (G:=nD) (H:=λp=>nD (p+1)) bS (aB w4 (aB hn (by decide))) (λp hp=>fO rfl) (Ry (n:=1) (by decide) (aT D.list (D5 (bR gs vs) n).symm) (aj.list (by rw[D5];exact IP _)) (by decide) ?_);refine bL (xs:=bR gs vs) (G:=λc=>cD (bX c.1 ((kW (bR gs vs) n).map (bO c)))) (H:=λc=> .list ((kW (bR gs vs) n).map λp=>aM c.1 (bO c p))) bS (by omega) (λc hc=>fO (aT D.list (eL ..))) (bL (xs:=bR gs vs) (G:=λc=>cD (aX c)) (H:=λc=> .list ((kW (bR gs vs) n).map λp=>aM c.1 (bO c p))) Ni (by omega) (λc hc=>?_) ?_)
 .refine bL (xs:=kW (bR gs vs) n) (G:=nD) (H:=λp=>aM c.1 (bO c p)) bS (aB w4 (aB hn (by decide))) (λp hp=>?_) (fO rfl)
  have hpn:p<c.2.length:=by rw[(k7 c hc).len];exact Nc hp
  refine f5 (x:=aM c.1 (bO c p)) ?_ (fO rfl);unfold bO;rw[g9,dS,eE hpn];rfl
 refine Ry (n:=2) (by decide) rfl (aj.list λd hd=>?_) (by decide) ?_
 .refine aq (bN.mp hd) λc z z0=>?_;subst z0
  refine aj.list λd hd=>aq (bN.mp hd) λp z z1=>?_;clear hn hg nc jR h3 sM k aW k7 qp w4 vH hd;subst z1;exact Ec _ _
 exact qD k (by kernel_rfl)
theorem zL {X:Type}(F:Nat->X)(R:Nat):∀C:Nat,((List.range C).flatMap λd=>(List.range R).map λu=>F (d*R+u))=(List.range (R*C)).map F
 |0=>by rfl
 |C+1=>by
  rw[Yo,YI,zL F R C];have e1:R*(C+1)=R*C+R:=by dsimp only[Nat.mul_succ]
  simp only[e1,List.range_add,dN,eL];refine aT _ ?_;simp only[Ko,List.flatMap_nil,pP];refine dZ λu z=>?_;show F (C*R+u)=F (R*C+u);rw[EF]
noncomputable def adi (u v:GC)(n:Nat)(d t:Nat):D:=nD ((List.range n).filter λp=>decide ((bk u).getD p none=some t)&&decide ((bk v).getD p none=some d)).length
theorem Xv {n:Nat}(u v:GC)(hu:gQ n u)(R:Nat)(hR:R=(aU u.1 u.2).length)(d t p:Nat)(ht:t<R):
  (decide ((bk u).getD p none=some t)&&decide ((bk v).getD p none=some d))=GD (bk u) (bk v) R (d*R+t) p:=by
 unfold GD;induction qu:(bk u).getD p none using fL with
 |none=>rfl
 |some i=>
  have hi:=Be u hu p i qu;simp only[<-hR] at hi;induction qv:(bk v).getD p none using fL with
  |none=>show(decide (some i=some t)&&decide (none=some d))=false;exact Bool.and_eq_false_imp.mpr (congrFun rfl)
  |some j=>
   rw[qM];simp only[iK,i7,Option.some.injEq,eH];constructor
   .intro z0;refine xA z0 λz1 z2=>clear% z0;?_;rw[z1];subst z2;rfl
   .intro h
    have h1:(j*R+i)/R=(d*R+t)/R:=by rw[h]
    have h2:(j*R+i) % R=(d*R+t) % R:=by rw[h]
    rw[EF j,EF d,Nat.mul_add_mod,Nat.mul_add_mod,Yp hi,Yp ht] at h2;rw[EF j,EF d,Nat.mul_add_div (adG ht),Nat.mul_add_div (adG hi),Nat.div_eq_of_lt hi,Nat.div_eq_of_lt ht] at h1;exact⟨h2,by omega (splitDisjunctions:=true)⟩
theorem SD {n:Nat}(u v:GC)(hu:gQ n u)(C:Nat):
  ((List.range C).flatMap λd=>(List.range (aU u.1 u.2).length).map λt=>adi u v n d t)=jf (bk u) (bk v) (aU u.1 u.2).length C n:=by
 unfold jf;rw[<-zL];congr 1;funext d;refine dZ λt ht=>?_;have ht:=dh.mp ht;show nD _=nD _;congr 2;exact BH λp z=>Xv u v hu _ rfl d t p ht
theorem vL {X Y:Type}(m:List Y):∀l:List X,(l.flatMap λz=>m).length=l.length*m.length
 |[]=>(Nat.zero_mul _).symm
 |a::l=>by rw[Ko,fK,vL m l,wx,Ot,J9]
theorem Xq (cu cv:d8)(R C k:Nat):∀d∈jf cu cv R C k,aj 0 d:=λd hd=>by refine aq (bN.mp hd) λq z z0=>?_;subst z0;exact aj.int
theorem mw (g:Gk)(v:d8):(cJ g v).length=(aU g v).length:=bw ..
theorem ixO {l:d8}{p:Nat}(hp:p<l.length){P:kc}(h0:l.getD p none=none->P .none)(h1:∀k,l.getD p none=some k->P (.int (k:Nat))):oU (l.map oD)[((p:Nat):Int).toNat]? P:=f5 (abF hp) (by
 induction e:l.getD p none using fL with
 |none=>exact h0 e
 |some k=>exact h1 k e)
theorem Xi {c:WC}{u:Nat}{V:VS}{Q:az}(hm:7<=c.m)(h:Q (.bool false) V):qU c (compareOp .Eq) .none (nD u) Q V:=gB λz z z F=>FF F.room hm (n:=0) (k:=0) aj.none aj.int (by decide) (by decide) (by
 have e:Su .none (nD u)=false:=by
  induction q:Su .none (nD u) using pR with
  |false=>rfl
  |true=>cases qq.mp q
 rw[e];exact h)
theorem Ig {k u:Nat}{b:Bool}(h:(((k:Nat):Int)==((u:Nat):Int))=b):decide (some k=some u)=b:=by rw[<-h,qM,i7,eH];exact⟨λq=>by rw[mT q],λq=>aT some (Int.ofNat.inj q)⟩
noncomputable abbrev DY (x0 x1 x2:Sl)(n wd:Nat)(gs:bT)(vs:List d8)(x3 x4 x5 x6 x7 x8 x9 rM rL rK rJ M8 M7 M6 M5 M4:Sl)(yE yD ze zd sQ v30 zc B0:Sl:=.un):VS:=LP x0 x1 x2 (.fz (nD n)) (.fz (nD wd)) (.fz (.list ((gs.map aX).map cD))) (.fz (.list ((vs.map (bX .int)).map cD))) x3 (.fz (.list ((xM wd).map .str))) (.fz (.list ((nY vs.length).map .str))) x4 x5 x6 x7 x8 x9 rM rL rK rJ M8 M7 M6 M5 M4 yE yD ze zd sQ v30 zc B0
theorem ajz {x0 x1 x2 x3 x4 x5 x6 x7 x8 x9 rM wD rL rK rJ M8 M7 M6 M5 M4:Sl}{n wd:Nat}{gs:bT}{vs:List d8}(hn:n<=5)(hg:∀c∈gs,gQ n c)(nc:∀v∈vs,gQ n (.int,v))(jR:gs.length=wd)(h2:1<=wd)(R4:1<=vs.length){Q:bY}
  (k:∀y0 y1 y2 y3 y4 y5,lG (fB 148) 30 Q (DY x0 x1 x2 n wd gs vs x3 x4 x5 x6 x7 x8 x9 rM rL rK rJ M8 M7 M6 M5 M4 (yE:=y0) (yD:=y1) (ze:=y2) (zd:=y3) (sQ:=y4) (v30:=y5))):
  lG (fB 148) 25 Q (DY x0 x1 x2 n wd gs vs x3 x4 x5 x6 x7 x8 x9 rM rL rK rJ M8 M7 M6 M5 M4 (sQ:=wD)):=by
 have aW:cap=1048576:=rfl;refine xA (Jt gs dC 0 (eW (eW (qO (br _)) h2) (fh (fH jR)))) λz hum=>xA (Jt vs [] 0 (eW (qO (br _)) R4)) λz Tg=>?_;have hu:=hg _ hum;have hv:=nc _ Tg;have W0:((gs.map aX).map cD)[(0:Int).toNat]? =some (cD (aX (gs.getD 0 dC))):=by rw[eL];exact vo gs dC (cD∘aX) 0 (eW (eW (qO (br _)) h2) (fh (fH jR)))
 have R3:((vs.map (bX .int)).map cD)[(0:Int).toNat]? =some (cD (aX (.int,vs.getD 0 []))):=by rw[eL];exact vo vs [] (cD∘bX .int) 0 (eW (qO (br _)) R4)
 have hpu:=tn _ hu;have hpv:(aU .int (vs.getD 0 [])).length<=5:=tn _ hv;have hr1:=mF (gs.getD 0 dC).1 hu.gk (gs.getD 0 dC).2 hu.val (by rw[hu.len];omega);rw[oK] at hr1;have hr2:=mF .int hv.gk (vs.getD 0 []) hv.val (by rw[show(vs.getD 0 []).length=n from hv.len];omega);rw[oK (.int,vs.getD 0 [])] at hr2;refine gV λfr A E F hw=>qx F.room.handled hw (S8 F ?_);refine f5 W0 (ai hr1 (cZ _ _ _ _ rfl (fi rfl) (fi rfl) ?_));refine qD (α:=lG (fB 148) 26 Q (DY x0 x1 x2 n wd gs vs x3 x4 x5 x6 x7 x8 x9 rM rL rK rJ M8 M7 M6 M5 M4 (sQ:=wD) (yE:=.fz (.list (cJ (gs.getD 0 dC).1 (gs.getD 0 dC).2))) (yD:=.fz (.list ((bk (gs.getD 0 dC)).map oD))))) ?_ (by kernel_rfl);refine gV λfr A E F hw=>qx F.room.handled hw (S8 F ?_);refine f5 R3 (ai hr2 (cZ _ _ _ _ rfl (fi rfl) (fi rfl) ?_));refine qD (α:=lG (fB 148) 27 Q (DY x0 x1 x2 n wd gs vs x3 x4 x5 x6 x7 x8 x9 rM rL rK rJ M8 M7 M6 M5 M4 (sQ:=wD) (yE:=.fz (.list (cJ (gs.getD 0 dC).1 (gs.getD 0 dC).2))) (yD:=.fz (.list ((bk (gs.getD 0 dC)).map oD))) (ze:=.fz (.list (cJ .int (vs.getD 0 [])))) (zd:=.fz (.list ((bk (.int,vs.getD 0 [])).map oD))))) ?_ (by kernel_rfl);refine f5 W0 (f5 R3 ?_);refine ai (C9 (by omega) (gs.getD 0 dC) (.int,vs.getD 0 []) hu hv) (qD (α:=lG (fB 148) 28 Q (DY x0 x1 x2 n wd gs vs x3 x4 x5 x6 x7 x8 x9 rM rL rK rJ M8 M7 M6 M5 M4 (yE:=.fz (.list (cJ (gs.getD 0 dC).1 (gs.getD 0 dC).2))) (yD:=.fz (.list ((bk (gs.getD 0 dC)).map oD))) (ze:=.fz (.list (cJ .int (vs.getD 0 [])))) (zd:=.fz (.list ((bk (.int,vs.getD 0 [])).map oD))) (sQ:=.fz (.vec "integer" (.list (jf (bk (gs.getD 0 dC)) (bk (.int,vs.getD 0 [])) (aU (gs.getD 0 dC).1 (gs.getD 0 dC).2).length (aU .int (vs.getD 0 [])).length n)) (.dict (MC [nD (aU (gs.getD 0 dC).1 (gs.getD 0 dC).2).length,nD (aU .int (vs.getD 0 [])).length] [qA (gs.getD 0 dC),qA (.int,vs.getD 0 [])])))))) ?_ (by kernel_rfl));have aoi:(bk (gs.getD 0 dC)).length=n:=by unfold bk;rw[bw];exact hu.len
 have Ma:(bk (.int,vs.getD 0 [])).length=n:=by unfold bk;rw[bw];exact hv.len
 refine amK [("many",.fz (nD n)),("one",.fz (.list (cJ (gs.getD 0 dC).1 (gs.getD 0 dC).2))),("first",.fz (.list ((bk (gs.getD 0 dC)).map oD))),("second",.fz (.list ((bk (.int,vs.getD 0 [])).map oD)))] ["range","len"] rfl rfl rfl (ae0 (xs:=List.range (aU .int (vs.getD 0 [])).length) (G:=nD) (fun z=>List.range (aU (gs.getD 0 dC).1 (gs.getD 0 dC).2).length) nD (adi (gs.getD 0 dC) (.int,vs.getD 0 []) n) (by rw[mw];exact iW (by omega)) ?_ (jw (ys:=["many","one","first","second"]) rfl).2 (fun dn hdn s2=>?_) ?_)
 .rw[vL,iU,iU]
  have:=OB hpv hpu;omega
 .refine⟨rfl,by rw[mw];exact iW (by omega),λun hun=>?_⟩
  refine pL (xs:=List.range n) (G:=nD) (H:=nD) (λp=>decide ((bk (gs.getD 0 dC)).getD p none=some un)&&decide ((bk (.int,vs.getD 0 [])).getD p none=some dn)) (iW (by omega)) (aB (jk _ _) (by rw[iU];omega)) (λp hp=>?_) (λp z z=>fO rfl) (fO (by rw[bw];rfl));have hp:=dh.mp hp;refine ixO (eW hp (fh (fH aoi))) (λq0=>Xi (fu rfl) ⟨rfl,by rw[q0];rfl⟩) (λk1 q0=>?_);refine cS (λq1=>?_) (λq1=>⟨rfl,by rw[q0,Ig q1];rfl⟩);refine ixO (eW hp (fh (fH Ma))) (λq2=>Xi (fu rfl) ⟨rfl,by rw[q2];exact(Yh _).symm⟩) (λk2 q2=>?_);exact cS (λq3=>⟨rfl,by rw[q0,Ig q1,q2,Ig q3];rfl⟩) (λq3=>⟨rfl,by rw[q0,Ig q1,q2,Ig q3];rfl⟩)
 rw[SD (gs.getD 0 dC) (.int,vs.getD 0 []) hu];refine qD (α:=lG (fB 148) 29 Q (DY x0 x1 x2 n wd gs vs x3 x4 x5 x6 x7 x8 x9 rM rL rK rJ M8 M7 M6 M5 M4 (yE:=.fz (.list (cJ (gs.getD 0 dC).1 (gs.getD 0 dC).2))) (yD:=.fz (.list ((bk (gs.getD 0 dC)).map oD))) (ze:=.fz (.list (cJ .int (vs.getD 0 [])))) (zd:=.fz (.list ((bk (.int,vs.getD 0 [])).map oD))) (sQ:=.fz (.vec "integer" (.list (jf (bk (gs.getD 0 dC)) (bk (.int,vs.getD 0 [])) (aU (gs.getD 0 dC).1 (gs.getD 0 dC).2).length (aU .int (vs.getD 0 [])).length n)) (.dict (MC [nD (aU (gs.getD 0 dC).1 (gs.getD 0 dC).2).length,nD (aU .int (vs.getD 0 [])).length] [qA (gs.getD 0 dC),qA (.int,vs.getD 0 [])])))) (v30:=.ow (.list (jf (bk (gs.getD 0 dC)) (bk (.int,vs.getD 0 [])) (aU (gs.getD 0 dC).1 (gs.getD 0 dC).2).length (aU .int (vs.getD 0 [])).length n))))) ?_ (by kernel_rfl);refine Ry (n:=1) (by decide) rfl (aj.list (Xq _ _ _ _ _)) (by decide) (Ry (n:=1) (by decide) (by rw[mw,mw]) (aj.list λd hd=>?_) (by decide) ?_)
 .rcases bW.mp hd with rfl|hd
  .exact aj.int
  .rw[ly.mp hd];exact aj.int
 exact qD (k (.fz (.list (cJ (gs.getD 0 dC).1 (gs.getD 0 dC).2))) (.fz (.list ((bk (gs.getD 0 dC)).map oD))) (.fz (.list (cJ .int (vs.getD 0 [])))) (.fz (.list ((bk (.int,vs.getD 0 [])).map oD))) (.fz (.vec "integer" (.list (jf (bk (gs.getD 0 dC)) (bk (.int,vs.getD 0 [])) (aU (gs.getD 0 dC).1 (gs.getD 0 dC).2).length (aU .int (vs.getD 0 [])).length n)) (.dict (MC [nD (aU (gs.getD 0 dC).1 (gs.getD 0 dC).2).length,nD (aU .int (vs.getD 0 [])).length] [qA (gs.getD 0 dC),qA (.int,vs.getD 0 [])])))) (.fz (.list (jf (bk (gs.getD 0 dC)) (bk (.int,vs.getD 0 [])) (aU (gs.getD 0 dC).1 (gs.getD 0 dC).2).length (aU .int (vs.getD 0 [])).length n)))) (by kernel_rfl)
noncomputable def Gw (n l:Nat):d8:=((List.range l).map λp=>List.replicate n (some p)).flatten
theorem abl {n l k:Nat}(h:some k∈Gw n l):k<l:=by unfold Gw at h;refine aq (List.mem_flatten.mp h) λx hx hk=>aq (bN.mp hx) λp hp z0=>?_;subst z0;have:=(List.mem_replicate.mp hk).2;injection this with this;rw[this];exact dh.mp hp
theorem JD {X:Type}(f:Nat->X)(n:Nat):∀l:bF,((l.map λp=>List.replicate n (f p)).flatten).length=l.length*n
 |[]=>by simp
 |a::l=>by rw[fJ,Bs,fK,JD f n l,OT,wx,Ot,J9]
theorem Lh (n:Nat)(vs:List d8)(tp:ay):iu (vs.map λz=>n) vs.length=(Gw n vs.length).map (aM (.dR tp)):=by
 delta iu Gw;rw[List.map_flatten,eL];refine aT _ ?_;refine dZ λp hp=>?_;have hp:=dh.mp hp;show List.replicate _ _=List.map _ (List.replicate n (some p));rw[adN];have e1:(vs.map λz=>n).getD p 0=n:=by simp[dS,hp]
 rw[e1];refine aT _ ?_;refine aT _ ?_;omega
theorem Lu {X:Type}(l:List X)(d:X):(List.range l.length).map (λp=>l.getD p d)=l:=by
 apply EM;intro i;rw[g9];by_cases h:i<l.length
 .rw[MG h,eE h]
  show some (l.getD i d)=_;rw[dS,eE h];rfl
 .rw[yt (by rw[iU];exact qN h),yt (by simp_all)];rfl
theorem R1 (n:Nat)(tp:ay):(Gw n tp.length).map (dz (.dR tp))=(tp.flatMap λs=>(List.range n).map λz=>D.str s):=by
 unfold Gw;rw[List.map_flatten,eL,List.flatMap_def]
 conv=>rhs;rw[<-Lu tp ""]
 rw[eL];refine aT _ ?_;refine dZ λp z=>?_;show List.map _ (List.replicate n (some p))=(List.range n).map fun z=>D.str (tp.getD p "");rw[adN];apply EM;intro i;rw[List.getElem?_replicate,g9];by_cases h:i<n
 .rw[MG h,bg h];rfl
 .rw[yt (by rw[iU];simp_all),aG h];rfl
noncomputable abbrev LF (x0 x1 x2:Sl)(n:Nat)(x3 x4:Sl)(vs:List d8)(x5 x6 x7 x8 x9 rM wD rL rK rJ M8 M7 M6 M5 M4 x20 x21 x22 x23 x24 x25 x26 x27:Sl)(zc B0:Sl:=.un):VS:=LP x0 x1 x2 (.fz (nD n)) x3 x4 (.fz (.list ((vs.map (bX .int)).map cD))) x5 x6 (.fz (.list ((nY vs.length).map .str))) x7 x8 x9 rM wD rL rK rJ M8 M7 M6 M5 M4 x20 x21 x22 x23 x24 x25 x26 x27 zc B0
theorem eqE {c:WC}{a b:D}{n:Nat}{V:VS}{Q:az}(hm:7<=c.m)(e:b=a)(h:aj n a)(hn:n<=60)(k:Q (.bool true) V):qU c (compareOp .Eq) a b Q V:=by rw[e];exact gB λz z z F=>FF F.room hm h h hn hn (by rw[uw];exact k)
theorem afX {x0 x1 x2 x3 x4 x5 x6 x7 x8 x9 rM wD rL rK rJ M8 M7 M6 M5 M4 x20 x21 x22 x23 x24 x25 x26 x27:Sl}{n:Nat}{vs:List d8}(hn:n<=5)(nc:∀v∈vs,gQ n (.int,v))(R4:1<=vs.length)(sM:vs.length<=2):
  lG (fB 148) 30 (λfl y=>ie fl=.bool true) (LF x0 x1 x2 n x3 x4 vs x5 x6 x7 x8 x9 rM wD rL rK rJ M8 M7 M6 M5 M4 x20 x21 x22 x23 x24 x25 x26 x27):=by
 have aW:cap=1048576:=rfl;have vH:(nY vs.length).length=vs.length:=by unfold nY;rw[BD];show min vs.length 2=vs.length;simp_all
 refine kZ λy y y F=>B7.fz (qa F.room.handled (J5 cap 1) (by omega) (J5 cap (n+1)) (by omega) (by omega) ?_);refine ai (pC _ _ _) (alm (ZZ (by omega) vs (λv hv=>(nc v hv).len) (λq=>by rw[q] at R4;simp at R4) (by omega) (nY vs.length) _ vH) λd z=>?_);obtain⟨lb,rfl⟩:=z;refine qD (α:=lG (fB 148) 31 (fun fl y=>ie fl=.bool true) (LF x0 x1 x2 n x3 x4 vs x5 x6 x7 x8 x9 rM wD rL rK rJ M8 M7 M6 M5 M4 x20 x21 x22 x23 x24 x25 x26 x27 (zc:=.fz (.vec "list" (.list [dX ((vs.map fun v=>v.map (aM .int)).flatten),.vec "integer" (.list (iu (vs.map fun y=>n) vs.length)) (pJ ((nY vs.length).map .str))]) (jd [.str "values",.str "ind"] lb))))) ?_ (by kernel_rfl);have hil:(vs.flatMap λv=>v).length<=cap:=by
  have:∀vs:List d8,(∀v∈vs,gQ n (.int,v))->(vs.flatMap λv=>v).length=vs.length*n:=λvs=>by
   induction vs with
   |nil=>intro y;exact(Nat.zero_mul _).symm
   |cons v vs ih=>intro h;have:v.length=n:=(h v (.head _)).len;simp only[Ko,fK,ih λw hw=>h w (.tail _ hw),this,wx,Ot,J9]
  rw[this vs nc];have:=OB sM hn;omega
 refine aiv [] [] rfl rfl rfl (ae0 (xs:=vs) (G:=λv=>cD (bX .int v)) (λv=>v) (aM .int) (λy o=>aM .int o) Ni hil .nil (λv hv s2=>⟨rfl,bS,λo ho=>⟨rfl,rfl⟩⟩) ?_);refine Ry (n:=1) (by decide) (aT D.list List.flatMap_def) (aj.list λd hd=>?_) (by decide) ?_
 .refine aq (List.mem_flatten.mp hd) λl hl hd=>aq (bN.mp hl) λv y z0=>?_;subst z0
  refine aq (bN.mp hd) λo y z1=>?_;subst z1;exact Ec _ _
 refine Ry (n:=1) (by decide) rfl (aj.list λd hd=>?_) (by decide) ?_
 .rcases bW.mp hd with rfl|hd
  .exact aj.str (by decide+kernel)
  .rw[ly.mp hd];exact aj.str (by decide+kernel)
 have akl:(Gw n vs.length).length=vs.length*n:=by unfold Gw;rw[JD (λp=>some p),iU]
 have h10:=OB sM hn;refine qD (α:=lG (fB 148) 32 (fun fl y=>ie fl=.bool true) (LF x0 x1 x2 n x3 x4 vs x5 x6 x7 x8 x9 rM wD rL rK rJ M8 M7 M6 M5 M4 x20 x21 x22 x23 x24 x25 x26 x27 (zc:=.fz (.vec "list" (.list [dX ((vs.map fun v=>v.map (aM .int)).flatten),.vec "integer" (.list (iu (vs.map fun y=>n) vs.length)) (pJ ((nY vs.length).map .str))]) (jd [.str "values",.str "ind"] lb))))) ?_ (by kernel_rfl);rw[Lh n vs (nY vs.length)];refine ai (kC (.dR (nY vs.length)) (λlv q=>by injection q with q;rw[<-q];exact aB (fh vH) (aB sM (by decide))) (Gw n vs.length) (λk hk=>by have:=abl hk;exact(eW this (fh (fH vH)))) (aB (fh akl) (aB h10 (by decide)))) ?_;have het:=R1 n (nY vs.length);rw[vH] at het;refine aiv [("many",.fz (nD n))] ["range"] rfl rfl rfl (ae0 (xs:=nY vs.length) (G:=D.str) (fun y=>List.range n) nD (fun s y=>D.str s) bS (by rw[vL,iU,vH];omega) (jw (ys:=["many"]) rfl).2 (fun s hs s2=>⟨rfl,iW (by omega),fun j hj=>⟨rfl,rfl⟩⟩) ?_);refine eqE (n:=1) (by decide) (aT D.list het.symm) (aj.list λd hd=>?_) (by decide) rfl;rw[het] at hd;refine aq (List.mem_flatMap.mp hd) λs hs hd=>aq (bN.mp hd) λy y z2=>?_;subst z2;exact DW 0 vs.length _ (by rw[dN];exact lz _ (j9 hs))
section
variable {fr:Fm}{A:aQ}{E:aS}{V:VS}
theorem Ep (e:Env)(m:fc):∀l:fc,execs (l++m) e=(execs l e>>=λf=>match f with| .next=>execs m e|f=>pure f)
 |[]=>by show execs m e=(pure Flow.next>>=_);rw[pure_bind]
 |s::l=>by
  show(exec s e>>=_)=((exec s e>>=_)>>=_);rw[bind_assoc];congr 1;funext f;cases f with
  |next=>exact Ep e m l
  |_=>exact(pure_bind _ _).symm
theorem alL {l m:fc}{Q:bY}(h:DT fr A E RF V (execs l fr.e) (Pf fr A E m Q)):DT fr A E RF V (execs (l++m) fr.e) Q:=λF Vc own rs rv=>by
 rw[Ep];refine T.bind (h.go rv λv F' dG own' d V' ic le r q=>?_);cases r with
 |next=>exact T.lift le (q F' dG own' rs ic)
 |brk=>exact T.pure (cg ic le RF.brk q)
 |cont=>exact T.pure (cg ic le RF.cont q)
 |ret r=>exact T.pure (cg ic le (RF.ret r) q)
theorem ajH (hf:dH fr iC)(hw:iL fr)(room:cC A 12)(iG:fr.e.scope=mH.scope){sa:av}{vs0:bC}{k0:Nat}{cs0:cH}(hb:fr.hb.get? sa=some {cls:=.type "list",data:=.seq vs0.toArray k0})
  (rl:∀F,aK F (cs0.map .int) vs0)(WW:cs0.length<=1000000){Q:bY}
  (k:∀(cs:cH) (s:Int),cs.length<=63->DT fr A E RF (lvO sa (v1:=.fz (.list (cs.map .int))) (v2:=.ow (.list (gK cs 0 0 s)))) (execs ((fB 148).drop 2) fr.e) Q):
  DT fr A E RF (lvO sa) (execs (fB 148) fr.e) Q:=by
 refine Zn (l:=fB 148) (j:=0) rfl (eK hw (SX (n:=63) hf (bx rfl) hb rl (by rw[bw];exact WW) ?_));rw[<-Ox];refine⟨_,fi rfl,Zn (l:=fB 148) (j:=1) rfl (eK hw (Hi hf (bD 90 Gh fr A _ (.kl _ _) _ (RN hf room iG) ?_ _)))⟩;refine kZ λz z z F=>VK F.room.handled ?_;refine gB λz z z z=>mC ?_ (by decide);refine gB λz z z z=>FD ?_ (ON (Oq (by decide) (by decide)));exact⟨fu rfl,_,fi rfl,k (cs0.take 63) _ (by rw[BD];exact Kd ..)⟩
theorem NK (hf:dH fr iC)(hw:iL fr)(room:cC A 12)(iG:fr.e.scope=mH.scope){x0 x1 x2 x3 x4 x5 x6 x7 x8 x9 rM wD rL rK rJ:Sl}{n wd:Nat}{gs:bT}{vs:List d8}(hn:n<=5)(hg:∀c∈gs,gQ n c)(nc:∀v∈vs,gQ n (.int,v))(jR:gs.length=wd)(h2:1<=wd)(h3:wd<=2)(R4:1<=vs.length)(sM:vs.length<=2):
  DT fr A gO RF (lvY x0 x1 x2 n wd gs vs x3 x4 x5 x6 x7 x8 x9 rM rL rK rJ wD) (execs ((fB 148).drop 18) fr.e) (λfl z=>ie fl=.bool true):=
 bD 82 Gh fr A gO (.kq (fB 148) 18 _) _ (RN hf room iG) (ajB hn hg nc jR h3 sM (ajA hn hg nc jR h3 sM (ajz hn hg nc jR h2 R4 λz z z z z z=>afX hn nc R4 sM))) hw
theorem Wn (hf:dH fr iC)(hw:iL fr)(room:cC A 12)(iG:fr.e.scope=mH.scope)(sk:wz fr A []){sa:av}{vs0:bC}{k0:Nat}{cs0:cH}(hb:fr.hb.get? sa=some {cls:=.type "list",data:=.seq vs0.toArray k0})
  (rl:∀F,aK F (cs0.map .int) vs0)(WW:cs0.length<=1000000):
  DT fr A gO RF (lvO sa) (execs (fB 148) fr.e) (λfl z=>ie fl=.bool true):=by
 refine ajH hf hw room iG hb rl WW λcs s k7=>?_;refine(alL (l:=lQ.drop 2) (m:=(fB 148).drop 16) (bD 98 Gh fr A gO (.kq lQ 2 _) _ (RN hf room iG) ?_ hw):DT fr A gO RF _ (execs (lQ.drop 2++(fB 148).drop 16) fr.e) _);refine ajG k7 λi r s n wd h0 h1 hn h2 h3=>?_;refine ajF k7 h0 h1 hn h2 h3 λi r s gs vs w h0 h1 hg jR nc R4 sM WK=>?_;refine ajE hn hg jR h2 h3 R4 sM ?_;refine ajD hn WK λbV s1 hy=>?_;refine KV "places" (V':=FQ sa cs i r s n wd gs vs w bV s1) (rN rfl) ?_;refine ajC hf hw room iG sk k7 h0 h1 hn hg jR h2 h3 sM λi r s=>?_;by_cases vI:aH gs n bV=[]
 .exact afW hf hw room iG sk hn hg nc jR h2 h3 sM hy vI (NK hf hw room iG hn hg nc jR h2 h3 R4 sM)
 .exact afV hf hw room iG hn hg nc jR h2 h3 sM WK hy vI λst Tc sdu sco=>NK hf hw room iG hn hg nc jR h2 h3 R4 sM
end
section
variable {fr:Fm}{A:aQ}{E:aS}{V:VS}{gl gl':dU}
theorem enter {w:bZ}{os:OsState}{hb:Heap}{f:av}{fd:FuncData}{body:fc}{ps ls:ay}{vals:bC}{n:Nat}{P:ao->Prop}{d:Drawn}{tk:Nat}
  (df:dI f fd body ps ls gl')(cx:Cx w hb)(room:cC A (n+1))(hA:A.frames=some [])(LX:vals.length=ps.length)
  (fV:∀aP:Fm,dH aP gl'->iL aP->aP.w=w->aP.hb=hb->aP.e.scope=fd.scope->aP.mt=[]->wz aP (A.deeper aP.e) []->T aP (A.deeper aP.e) (execs body aP.e) gO ⟨λy=>none,K8 ps vals ls,[]⟩ (λfl σ'=>P (kK fl))):
  wpAny (model pw w) A (call (.ref f) vals) (λv s'=>P v/\(∀a o,hb.get? a=some o->s'.heap.get? a=some o)/\s'.os=os/\s'.gens= #[]) gO ⟨hb, #[],d,tk,os⟩:=
 Bw (Pj (F:=λy=>none) (om:=[]) df cx room LX (df.bind _ vals LX) (λy y e=>e) (rH cx.g λy o y y e y=>⟨o,e⟩) (λy y e=>aA e) (λy hp=>nomatch hp) Ka λenv h₁ n7 iG ef hF hW cI=>
  fk (fV _ hF hW rfl rfl iG rfl ⟨by show(A.frames.map _)=_;rw[hA];rfl,ef,λen he=>nomatch he⟩ h₁ d n7 cI) (λfl s' z3=>gv z3 λh' d' cX σ' e stE hP=>by rw[e];exact⟨hP,stE.keep,rfl,rfl⟩) λy y z=>z.elim)
end
section
variable {fr:Fm}{A:aQ}{E:aS}{V:VS}{gl gl':dU}
theorem aa4 {w:bZ}{os:OsState}{hb:Heap}{d:Drawn}{tk:Nat}{m:Nat}(cx:Cx w hb)(room:cC A (m+1))(hm:12<=m)(hA:A.frames=some []){sa:av}{vs0:bC}{k0:Nat}{cs0:cH}(hbs:hb.get? sa=some {cls:=.type "list",data:=.seq vs0.toArray k0})
  (rl:∀F,aK F (cs0.map .int) vs0)(WW:cs0.length<=1000000):
  wpAny (model pw w) A (call (.ref 920) [.ref sa]) (λv s'=>v=.bool true/\(∀a o,hb.get? a=some o->s'.heap.get? a=some o)/\s'.os=os/\s'.gens= #[]) gO ⟨hb, #[],d,tk,os⟩:=by
 refine enter (n:=m) (P:=λv=>v=.bool true) aa5 cx room hA rfl λaP hF hW e0 e1 e2 e3 sk'=>?_
 .subst e1
  have rv:RV aP.mt (fun z=>none) (lvO sa) (K8 ["script"] [.ref sa] LO) []:=.at (RV.un0 LO);have hx:=Wn hF hW ((room.deeper _).le hm) e2 sk' hbs rl WW (λz=>none) _ [] [] rv;refine hx.mono λfl σ' z0=>bB z0 λd V' own' ic e le rr q=>clear% z0;?_;induction rr using RF.casesOn with
  |ret r=>have q:_=D.bool true:=q;subst q;induction r using Rp.XD;rfl
  |_=>cases q
end
section
variable {fr:Fm}{A:aQ}{E:aS}{V:VS}{gl gl':dU}
theorem Tw {P:aY}{h:Heap}{xs:List WData}{vs:bC}(hx:WShape.hasItems [] xs .int=true)(hw:WellAll P h vs xs):∃cs:cH,(∀F,aK F (cs.map .int) vs)/\cs.length=xs.length:=by
 induction xs generalizing vs with
 |nil=>cases hw;exact⟨[],λF=> .nil,rfl⟩
 |cons x xs ih=>
  have hx':WShape.has [] x .int=true/\WShape.hasItems [] xs .int=true:=by simpa[WShape.hasItems] using hx
  refine xE (hasW_int hx'.1) λi z0=>?_;subst z0;cases hw with
  |cons w1 w2=>refine aq (ih hx'.2 w2) λcs h1 h2=>?_;cases w1;exact⟨i::cs,λF=> .cons .int (h1 F),aT Nat.succ h2⟩
theorem aal {xs:List WData}(h:xR.pre.holds xR.records {args:=[.list xs]}=true):xs.length<=63:=by have h:=condW_of (X:= !(decide ((63:Int)<(xs.length:Int)))&&true) h (w_and (w_not (w_lt w_lit (w_len_list (w_arg rfl)))) w_lit);rw[Bool.and_true,G5,decide_eq_false_iff_not] at h;omega
theorem walk:WalkO qv loose (XL qv []) (Hook.says AG) xR Gg [] (λf vs=>PySem.call f vs):=by
 intro w aqW PD mg mb G Y a o pm cd doc dV kV hao hod hcr hdf hmg WZ args vals as aj8 an1 hrd ajW anE;have hK:(Internal.K w.params).In PD.heap:=kIn_of (e:=Wv) Y;have cx:Cx w PD.heap:=⟨hK,⟨mg,G.T.g⟩,⟨mb,G.T.b,G.T.builtins⟩,G.T.nolimit⟩;have hns:nsIn (Internal.K w.params) mainGlobals "law"=some (some (.ref 920)):=by kernel_rfl
 have ha:=mg_of hK G.T.g hns;have hmg:mg "law"=some (.ref a):=hmg;rw[ha] at hmg;clear G Y hao hod hcr hdf an1 hrd anE hK hns;cases hmg;refine xA (pre_splitW aj8) λh1 h2=>dm (hasAllW_cons h1) λd r z1 h3 h4=>?_;subst z1;have hr:=hasAllW_nil h4;clear hmg h4 aj8 h1;subst hr;refine aq (hasW_list h3) λxs z2 h5=>?_;subst z2;have dg:=aal h2;cases ajW with
 |cons w1 w2=>
 cases w2;cases w1 with
 |list hl hw=>
 refine aq (Tw h5 hw) λcs k7 qp=>?_;obtain⟨h,g,dr,tk,os⟩:=PD;have WZ:g= #[]:=WZ;clear h5 h3 h2 hw;rw[WZ];have room:cC callerA (12+1):=⟨by decide,by decide+kernel,rfl,⟨[],rfl⟩⟩;refine fk (aa4 (os:=os) (d:=dr) (tk:=tk) cx room (br _) rfl hl k7 (aB (fh qp) (aB dg (by decide)))) (λv s' z0=>kU z0 λe1 e2 e3 e4=>clear% z0;?_) λy y z=>z.elim;rw[e1];refine⟨.inl (aV (.bool true) (.bool true) [] rfl (λcls=>rfl) (.bool true) ?_ (λy=>⟨Ka,λa ha=>nomatch ha⟩)),.of_keep e2,e3,.of_eq e4⟩;refine J2.mpr ⟨by rfl,?_⟩;exact holdsW_of_value (w_eq_bool (k:=true) (l:=true) (w_res rfl) w_lit)
end
end Mine.Internal
theorem PySem.Challenge.cw_nz0539_01_holds : PySem.Challenge.rw_nz0539_01.Holds := by
 exact Mine.Internal.head Mine.Internal.walk
