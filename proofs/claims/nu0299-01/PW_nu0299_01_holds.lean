import PyProof.Rows.All
import PyProof.AttrMissHeap
import PyProof.MeetsStr
import PyProof.CallStr
import PyProof.CompUse
import PyProof.StrLoop
import PyProof.StrWalks
import PyProof.CompFree
import PyProof.DictItems
import PyProof.TupleKey
import PyProof.DictRoadsH
import PyProof.DictValues
import PyProof.DictWalks
import PyProof.EnumFor
import PyProof.EnumStmt
import PyProof.EnumMake
import PyProof.NeData
import PyProof.ExcClass2
import PyProof.ExcBaseAll.ValueError
import PyProof.ExcAttrAll.ValueError
import PyProof.RangeIter
import PyProof.WalksMore
import PyProof.InstStoreFacts
import PyProof.Rows.TupAssign
import PyProof.Rows.GenSrcRange
import PyProof.Rows.StrNews
import PyProof.Rows.ListMul
import PyProof.SliceMore
import PyProof.Rows.TupDisplay
import PyProof.Rows.SeqMore
import PyProof.Rows.SumAny
import OpenK.KLine
import KE.KItem
import KE.KListMore
import KE.KLam
import KE.KDictList
import KE.KDictOf
import KE.KEqDict
import KE.KIsAll
import KE.KPairComp
import KE.KRevSl
import KE.KTryMore
import OpenK.XOpen
import Lean
import PySem.Challenge.RW_nu0299_01
set_option Elab.async false
set_option tactic.hygienic false
set_option genSizeOf false
set_option genInjectivity false
set_option compiler.extract_closed false
set_option bootstrap.genMatcherCode false
set_option backward.match.sparseCases false
set_option maxRecDepth 1000000
set_option linter.all false
open Array renaming getElem?_eq_some_iff→vX,mk→wc
open Bool renaming and→aN,and_eq_true→ed,and_eq_true_iff→kZ,and_false→Aw,and_true→zM,false_and→zX,false_ne_true→nW,noConfusion→pl,not→hq,not_eq_true'→wb,or→pj,or_eq_true→s0,or_true→Hf,rec→bk,true_and→G6
open Classical renaming propDecidable→dv
open ForInStep renaming yield→s5
open Int renaming add→bM,eq_ofNat_of_zero_le→HB,mul→eG,natCast_nonneg→sV,negSucc→ei,not_lt→sU,ofNat→bl,rec→iB
open Int.negSucc renaming inj→Tv
open Int.ofNat renaming inj→GZ
open List renaming all_append→GP,all_cons→oX,all_eq_true→eU,any_cons→GR,append_nil→k1,concat_eq_append→oZ,contains_cons→pp,eq_nil_or_concat→oY,filterMap_cons→qW,filter_cons→As,find?_cons→vQ,find?_eq_none→Hb,flatten→zZ,forIn_nil→G_,getElem?_eq_some_iff→vY,getElem?_of_mem→Hc,getElem?_toArray→An,length_append→lM,length_cons→nY,length_eq_zero_iff→zN,length_map→pk,lookup→At,lookup_cons→hP,lookup_eq_some_iff→GW,map_append→nN,map_cons→d4,map_inj_left→Ax,map_map→Hl,map_nil→Ht,map_reverse→Hm,mem_append→gA,mem_append_left→gS,mem_append_right→dD,mem_cons→bJ,mem_filter→lW,mem_filterMap→jc,mem_map→ey,mem_map_of_mem→kg,mem_singleton→h7,modify_toArray→G2,nodup_append→pb,nodup_cons→g7,not_mem_nil→Hw,range→sT,range_succ_eq_map→Tx,rec→bW,replicate→lR,replicate_succ→G8,reverse_cons→Ac,size_toArray→G9,take_append_drop→po,toArray→vV,zip_cons_cons→GV
open Nat renaming add→bK,add_assoc→sI,add_comm→Ay,add_le_add→GN,add_le_add_left→lL,add_le_add_right→qL,add_right_cancel_iff→Tz,beq→aU,beq_refl→s_,ble→b2,ble_eq_true_of_le→mP,blt→dc,eq_of_beq_eq_true→b3,eq_zero_or_pos→pv,le_add_left→GQ,le_add_right→vJ,le_max_left→qM,le_max_right→qN,le_of_ble_eq_true→ce,le_of_eq→gz,le_of_lt→vK,le_of_lt_succ→vM,le_of_succ_le→zQ,le_pred_of_lt→zK,le_refl→eh,le_succ→nO,le_trans→c5,le_zero→zO,log2→vU,lt_irrefl→nL,lt_of_le_of_lt→mO,lt_of_lt_of_le→cH,lt_of_succ_lt_succ→pi,lt_succ_of_lt→nM,lt_succ_self→i_,lt_trans→mS,mul→iC,mul_le_mul_left→vL,ne_of_gt→lO,ne_of_lt→dS,not_lt→nK,not_lt_of_le→G7,not_lt_zero→iD,not_succ_le_self→Hk,pow_le_pow_right→GY,pow_succ→vN,rec→gg,sub→eu,sub_add_cancel→HC,succ→bS,succ_le_of_lt→GO,succ_le_succ→iz,succ_lt_succ→mQ,succ_ne_zero→o_,succ_pos→lU,zero_add→Af,zero_le→hL,zero_lt_one→AB,zero_lt_succ→vO
open Nat.succ renaming inj→qO
open Ne renaming symm→h6
open Option renaming isNone_iff_eq_none→s7,isSome_iff_exists→Tt,map_eq_none_iff→Ha,none→hM,rec→cq
open Option.some renaming inj→gR
open Prod renaming fst→lN,rec→pc
open PyProof.Rows renaming Below→fp,Subscript_→vZ,add_int→z9,assignInOrder_cons→Ah,assignInOrder_nil→Hi,assign_Name→Ai,cellsFrom_names→GU,envOfC→mT,gt_int→TB,lookup_of_mem_nodup→GS,lt_int→TA,mod_int'→TF,mul_int→TE,neg_int→Tu,subscriptTail→Aa
open PyProof.Rows.News renaming push→aH
open PySem renaming Addr→a7,Arguments→sJ,Around→hN,Builtin→ge,CmpOp→k4,Comprehension→Av,DictEntry→cu,Env→cI,ExcBaseFacts→v_,Expr→aM,Flow→iZ,GenState→qZ,Heap→bE,IsTupleKey→nU,Model→k0,NameKind→iA,Obj→bY,OsState→d3,Params→bR,Pos→bO,Program→ew,Result→kh,Scope→bB,Shared→a9,Stmt→bI,Str→aI,Value→am,World→cv,assign→lV,assignEach→v6,atKey→ht,backTo→lS,bindArgs→sL,builtinsNs→vS,cLine→hO,call_meetsIn→sW,callerA→pw,cellsFrom→fY,checkBuiltinCall→Hx,closureFor→s6,codeAny→dH,codeAny_call_builtin→HA,codeAny_forLoop_any→Hs,codeAny_mono→hp,compareOp→qR,dictSet→pg,entryOfKey→h8,eval→dP,evalPart_some→Ae,excClassObj→s8,execs→jJ,firstArgMember→Ar,getAttr→sK,hashStr→mR,holding→sN,importedModules→n2,leaving→qQ,letOwnedTupleGo→Hq,mainGlobals→iX,model→aR,newFunctionEnv→Au,notedBy→gT,plainObj_wpAny_Assign_Attribute→Hj,pushCells→pn,pyNext→jb,rawInt→ee,recursionLimit→zR,relabel→n0,setField→v9,setItem→sQ,sizeLine→hr,slot_dict_getitem→He,slot_dict_setitem→zW,standAt→sM,starEach→kj,strKind_is→lQ,subscripted→z_,swapsWith→sZ,sysModules→iY,treeTable→oW,tupleKind→eT,typeIs_str→Ab,valueAt→G0,wpAny→aO,wpAny_Compare1→zY,wpAny_Constant_int→zT,wpAny_Name→vT,wpAny_Return_some→qV,wpAny_Slice→Ad,wpAny_attempt→Aj,wpAny_bind→aP,wpAny_call→nP,wpAny_callSpecial?_slot→sR,wpAny_call_entry→mV,wpAny_comprehension_free→Hu,wpAny_dictEntries→s2,wpAny_dictEpoch→s3,wpAny_execs_cons→iE,wpAny_execs_nil→k7,wpAny_field→s4,wpAny_fieldsOf→Am,wpAny_holding→gB,wpAny_isNot_other→qT,wpAny_isOneOf_valiter→Hp,wpAny_isSubtype_exc→Hy,wpAny_is_other→qS,wpAny_loadName_local→GX,wpAny_loadPart_at→pq,wpAny_mono→b_,wpAny_newFunctionEnv_cells→Ts,wpAny_newObj_type→nX,wpAny_notOrdered_dict→sS,wpAny_pure→br,wpAny_pyIter_slot→Hn,wpAny_rule→ph,wpAny_setField→qX,wpAny_specialOf→Hd,wpAny_standAt→lP,wpAny_storeName_local→v5,wpAny_truthy_bool→zV,wpAny_typeNameOfWhole_keyiter→Ak,wpAny_typeNameOfWhole_valiter→Ap,wpAny_typeNameOf_keyiter→Al,wpAny_typeNameOf_valiter→Aq,wpAny_updateDict→G1,wpAny_updateDictKeys→G3
open PySem.Around renaming frames_deeper→nR,under_plainId→TY
open PySem.Builtin.Dict renaming noArgs→TK,notOrdered→Tw,pairItems→TZ,showsAll→sX,updateFrom→T0
open PySem.Builtin.Int renaming intBits→TC
open PySem.Builtin.Range renaming rangeSize→Hr,small→TW
open PySem.Builtin.Str renaming occurrences→G5
open PySem.Builtin renaming divisionGoesByPylong→TD
open PySem.Calls renaming Name_function_global→zU,spliced_cons→qU,spliced_nil→vW
open PySem.EntryCells renaming newEntry→T1
open PySem.F renaming args_dict_get_2→TI,args_dict_get_3→TJ,args_dict_keyiterator_next_1→TT,args_dict_valueiterator_next_1→TV,attrBase_ValueError→T4,entry_dict_get→Ag,entry_dict_keyiterator_next→TS,entry_dict_valueiterator_next→TU,excBase_ValueError→T2,plainAttrs_dict→Hh,plainAttrs_list→Hg,plainAttrs_str→TO,slot_dict_get→v4,slot_dict_itemiterator_iter→TX,slot_dict_items→TL,slot_dict_iter→TQ,slot_dict_keyiterator_next→v7,slot_dict_valueiterator_next→v8,slot_dict_values→TM,slot_dict_values_iter→TR,slot_list_extend→TG,slot_list_index→TH,slot_str_join→TN,slot_str_upper→TP
open PySem.Heap renaming ExtBut→sO,SameBut→k2,get?_push_of_some→fO,get?_push_size→k6,get?_update_other→q0,get?_update_self→ki,hide_ne→lY,hide_self→ta,hide_size→HD,lt_size→dX,of_hide→Az,size_push→lT
open PySem.Heap.SameBut renaming update→k3
open PySem.Heap.UpToSlots renaming of_keeps→T3
open PySem.NameKind renaming cell→nZ,free→f0
open PySem.Obj renaming cls_mapFields→Ho,data_mapFields→qY,isFreed_of_fields→Ao,mapDict→sP,mapDictKeys→G4,mapFields→kk
open PySem.SeqAt renaming EqAt→ja,RcAt→pf
open PySem.Str renaming length→nS,ofString→ec
open PySem.Txt renaming slice→nV
open PySem.Value renaming builtin→v3,isInt_shape→nT,isStrOf→mU,isStrOf_shape→k5,none→hu,ref→fq
open PySem.W renaming CodeHd→lX,Frag→dn,KtsTurn→pt,TopRead→pd,boot_heap→kl,dictOf→dd,findIn→gf,getL→vR,handedIn→qP,hasDictIn→vP,hideAll→fN,hideAll_get→n1,hideAll_none→pe,hideAll_size→zS,instObj→pa,keepIn→fZ,kia_one→sY,kitOne→mW,kla_obj→pu,kts_self→s9,looks_findIn→wa,looseW→mX,of_hideAll→nQ,piece_app→tb,restOf→HE,tabObj→dw
open PySem.W.Fast renaming te14364793385576792824→zL,te17119622794617984870→AA,te8326940854005059898→T5
open PySem.W.InstAt renaming of_news→zP
open PySem.Within renaming cons→Hz
section
set_option autoImplicit true
namespace Mine
variable {ar:Prop}
section
variable {P Q R S dE W X Y AC:Prop}
def e0_2 (h:P/\Q) (f:P->Q->ar):ar:=f h.1 h.2
def e0_3 (h:P/\Q/\R) (f:P->Q->R->ar):ar:=f h.1 h.2.1 h.2.2
def i0_3 (A:P) (ae:Q) (ag:R):P/\Q/\R:=⟨A,ae,ag⟩
def e0_4 (h:P/\Q/\R/\S) (f:P->Q->R->S->ar):ar:=f h.1 h.2.1 h.2.2.1 h.2.2.2
def i0_4 (A:P) (ae:Q) (ag:R) (ax:S):P/\Q/\R/\S:=⟨A,ae,ag,ax⟩
def e0_5 (h:P/\Q/\R/\S/\dE) (f:P->Q->R->S->dE->ar):ar:=f h.1 h.2.1 h.2.2.1 h.2.2.2.1 h.2.2.2.2
def i0_5 (A:P) (ae:Q) (ag:R) (ax:S) (aS:dE):P/\Q/\R/\S/\dE:=⟨A,ae,ag,ax,aS⟩
def e0_7 (h:P/\Q/\R/\S/\dE/\W/\X) (f:P->Q->R->S->dE->W->X->ar):ar:=f h.1 h.2.1 h.2.2.1 h.2.2.2.1 h.2.2.2.2.1 h.2.2.2.2.2.1 h.2.2.2.2.2.2
def e0_8 (h:P/\Q/\R/\S/\dE/\W/\X/\Y) (f:P->Q->R->S->dE->W->X->Y->ar):ar:=f h.1 h.2.1 h.2.2.1 h.2.2.2.1 h.2.2.2.2.1 h.2.2.2.2.2.1 h.2.2.2.2.2.2.1 h.2.2.2.2.2.2.2
def o2 (h:P∨Q) (A:P->ar) (B:Q->ar):ar:=h.elim A B
def o3 (h:P∨Q∨R) (A:P->ar) (B:Q->ar) (C:R->ar):ar:=h.elim A λh=>h.elim B C
def o4 (h:P∨Q∨R∨S) (A:P->ar) (B:Q->ar) (C:R->ar) (D:S->ar):ar:=h.elim A λh=>h.elim B λh=>h.elim C D
def o5 (h:P∨Q∨R∨S∨dE) (A:P->ar) (B:Q->ar) (C:R->ar) (D:S->ar) (E:dE->ar):ar:=h.elim A λh=>h.elim B λh=>h.elim C λh=>h.elim D E
def o6 (h:P∨Q∨R∨S∨dE∨W) (A:P->ar) (B:Q->ar) (C:R->ar) (D:S->ar) (E:dE->ar) (F:W->ar):ar:=h.elim A λh=>h.elim B λh=>h.elim C λh=>h.elim D λh=>h.elim E F
def o7 (h:P∨Q∨R∨S∨dE∨W∨X) (A:P->ar) (B:Q->ar) (C:R->ar) (D:S->ar) (E:dE->ar) (F:W->ar) (G:X->ar):ar:=h.elim A λh=>h.elim B λh=>h.elim C λh=>h.elim D λh=>h.elim E λh=>h.elim F G
def o8 (h:P∨Q∨R∨S∨dE∨W∨X∨Y) (A:P->ar) (B:Q->ar) (C:R->ar) (D:S->ar) (E:dE->ar) (F:W->ar) (G:X->ar) (H:Y->ar):ar:=h.elim A λh=>h.elim B λh=>h.elim C λh=>h.elim D λh=>h.elim E λh=>h.elim F λh=>h.elim G H
def o9 (h:P∨Q∨R∨S∨dE∨W∨X∨Y∨AC) (A:P->ar) (B:Q->ar) (C:R->ar) (D:S->ar) (E:dE->ar) (F:W->ar) (G:X->ar) (H:Y->ar) (I:AC->ar):ar:=h.elim A λh=>h.elim B λh=>h.elim C λh=>h.elim D λh=>h.elim E λh=>h.elim F λh=>h.elim G λh=>h.elim H I
end
section
variable {A:Sort px} {P Q R S dE W X:A->Prop}
def e1_1 (h:∃a,P a) (f:∀a,P a->ar):ar:=by
 obtain⟨a,A⟩:=h
 exact f _ A
def e1_2 (h:∃a,P a/\Q a) (f:∀a,P a->Q a->ar):ar:=by
 obtain⟨a,A,ae⟩:=h
 exact f _ A ae
def i1_2 (a) (A:P a) (ae:Q a):∃a,P a/\Q a:=⟨a,A,ae⟩
def e1_3 (h:∃a,P a/\Q a/\R a) (f:∀a,P a->Q a->R a->ar):ar:=by
 obtain⟨a,A,ae,ag⟩:=h
 exact f _ A ae ag
def i1_3 (a) (A:P a) (ae:Q a) (ag:R a):∃a,P a/\Q a/\R a:=⟨a,A,ae,ag⟩
def e1_4 (h:∃a,P a/\Q a/\R a/\S a) (f:∀a,P a->Q a->R a->S a->ar):ar:=by
 obtain⟨a,A,ae,ag,ax⟩:=h
 exact f _ A ae ag ax
def i1_4 (a) (A:P a) (ae:Q a) (ag:R a) (ax:S a):∃a,P a/\Q a/\R a/\S a:=⟨a,A,ae,ag,ax⟩
def e1_5 (h:∃a,P a/\Q a/\R a/\S a/\dE a) (f:∀a,P a->Q a->R a->S a->dE a->ar):ar:=by
 obtain⟨a,A,ae,ag,ax,aS⟩:=h
 exact f _ A ae ag ax aS
def i1_5 (a) (A:P a) (ae:Q a) (ag:R a) (ax:S a) (aS:dE a):∃a,P a/\Q a/\R a/\S a/\dE a:=⟨a,A,ae,ag,ax,aS⟩
end
section
variable {A:Sort px} {B:Sort q1} {P Q R S dE W X:A->B->Prop}
def e2_1 (h:∃a b,P a b) (f:∀a b,P a b->ar):ar:=by
 obtain⟨a,b,A⟩:=h
 exact f _ _ A
def i2_1 (a) (b) (A:P a b):∃a b,P a b:=⟨a,b,A⟩
def e2_2 (h:∃a b,P a b/\Q a b) (f:∀a b,P a b->Q a b->ar):ar:=by
 obtain⟨a,b,A,ae⟩:=h
 exact f _ _ A ae
def i2_2 (a) (b) (A:P a b) (ae:Q a b):∃a b,P a b/\Q a b:=⟨a,b,A,ae⟩
def e2_3 (h:∃a b,P a b/\Q a b/\R a b) (f:∀a b,P a b->Q a b->R a b->ar):ar:=by
 obtain⟨a,b,A,ae,ag⟩:=h
 exact f _ _ A ae ag
def i2_3 (a) (b) (A:P a b) (ae:Q a b) (ag:R a b):∃a b,P a b/\Q a b/\R a b:=⟨a,b,A,ae,ag⟩
def e2_4 (h:∃a b,P a b/\Q a b/\R a b/\S a b) (f:∀a b,P a b->Q a b->R a b->S a b->ar):ar:=by
 obtain⟨a,b,A,ae,ag,ax⟩:=h
 exact f _ _ A ae ag ax
def i2_4 (a) (b) (A:P a b) (ae:Q a b) (ag:R a b) (ax:S a b):∃a b,P a b/\Q a b/\R a b/\S a b:=⟨a,b,A,ae,ag,ax⟩
def e2_5 (h:∃a b,P a b/\Q a b/\R a b/\S a b/\dE a b) (f:∀a b,P a b->Q a b->R a b->S a b->dE a b->ar):ar:=by
 obtain⟨a,b,A,ae,ag,ax,aS⟩:=h
 exact f _ _ A ae ag ax aS
def i2_5 (a) (b) (A:P a b) (ae:Q a b) (ag:R a b) (ax:S a b) (aS:dE a b):∃a b,P a b/\Q a b/\R a b/\S a b/\dE a b:=⟨a,b,A,ae,ag,ax,aS⟩
def e2_6 (h:∃a b,P a b/\Q a b/\R a b/\S a b/\dE a b/\W a b) (f:∀a b,P a b->Q a b->R a b->S a b->dE a b->W a b->ar):ar:=by
 obtain⟨a,b,A,ae,ag,ax,aS,bA⟩:=h
 exact f _ _ A ae ag ax aS bA
end
section
variable {A:Sort px} {B:Sort q1} {C:Sort tc} {P Q R S dE W X:A->B->C->Prop}
def e3_1 (h:∃a b c,P a b c) (f:∀a b c,P a b c->ar):ar:=by
 obtain⟨a,b,c,A⟩:=h
 exact f _ _ _ A
def i3_1 (a) (b) (c) (A:P a b c):∃a b c,P a b c:=⟨a,b,c,A⟩
def e3_2 (h:∃a b c,P a b c/\Q a b c) (f:∀a b c,P a b c->Q a b c->ar):ar:=by
 obtain⟨a,b,c,A,ae⟩:=h
 exact f _ _ _ A ae
def i3_2 (a) (b) (c) (A:P a b c) (ae:Q a b c):∃a b c,P a b c/\Q a b c:=⟨a,b,c,A,ae⟩
def e3_3 (h:∃a b c,P a b c/\Q a b c/\R a b c) (f:∀a b c,P a b c->Q a b c->R a b c->ar):ar:=by
 obtain⟨a,b,c,A,ae,ag⟩:=h
 exact f _ _ _ A ae ag
def i3_3 (a) (b) (c) (A:P a b c) (ae:Q a b c) (ag:R a b c):∃a b c,P a b c/\Q a b c/\R a b c:=⟨a,b,c,A,ae,ag⟩
def e3_4 (h:∃a b c,P a b c/\Q a b c/\R a b c/\S a b c) (f:∀a b c,P a b c->Q a b c->R a b c->S a b c->ar):ar:=by
 obtain⟨a,b,c,A,ae,ag,ax⟩:=h
 exact f _ _ _ A ae ag ax
def i3_4 (a) (b) (c) (A:P a b c) (ae:Q a b c) (ag:R a b c) (ax:S a b c):∃a b c,P a b c/\Q a b c/\R a b c/\S a b c:=⟨a,b,c,A,ae,ag,ax⟩
def e3_5 (h:∃a b c,P a b c/\Q a b c/\R a b c/\S a b c/\dE a b c) (f:∀a b c,P a b c->Q a b c->R a b c->S a b c->dE a b c->ar):ar:=by
 obtain⟨a,b,c,A,ae,ag,ax,aS⟩:=h
 exact f _ _ _ A ae ag ax aS
def i3_5 (a) (b) (c) (A:P a b c) (ae:Q a b c) (ag:R a b c) (ax:S a b c) (aS:dE a b c):∃a b c,P a b c/\Q a b c/\R a b c/\S a b c/\dE a b c:=⟨a,b,c,A,ae,ag,ax,aS⟩
end
section
variable {A:Sort px} {B:Sort q1} {C:Sort tc} {bp:Sort wd} {P Q R S dE W X:A->B->C->bp->Prop}
def e4_2 (h:∃a b c d,P a b c d/\Q a b c d) (f:∀a b c d,P a b c d->Q a b c d->ar):ar:=by
 obtain⟨a,b,c,d,A,ae⟩:=h
 exact f _ _ _ _ A ae
def e4_3 (h:∃a b c d,P a b c d/\Q a b c d/\R a b c d) (f:∀a b c d,P a b c d->Q a b c d->R a b c d->ar):ar:=by
 obtain⟨a,b,c,d,A,ae,ag⟩:=h
 exact f _ _ _ _ A ae ag
def e4_4 (h:∃a b c d,P a b c d/\Q a b c d/\R a b c d/\S a b c d) (f:∀a b c d,P a b c d->Q a b c d->R a b c d->S a b c d->ar):ar:=by
 obtain⟨a,b,c,d,A,ae,ag,ax⟩:=h
 exact f _ _ _ _ A ae ag ax
def i4_4 (a) (b) (c) (d) (A:P a b c d) (ae:Q a b c d) (ag:R a b c d) (ax:S a b c d):∃a b c d,P a b c d/\Q a b c d/\R a b c d/\S a b c d:=⟨a,b,c,d,A,ae,ag,ax⟩
end
section
variable {A:Sort px} {B:Sort q1} {C:Sort tc} {bp:Sort wd} {E:Sort u4} {P Q R S dE W X:A->B->C->bp->E->Prop}
def e5_2 (h:∃a b c d v,P a b c d v/\Q a b c d v) (f:∀a b c d v,P a b c d v->Q a b c d v->ar):ar:=by
 obtain⟨a,b,c,d,v,A,ae⟩:=h
 exact f _ _ _ _ _ A ae
def e5_3 (h:∃a b c d v,P a b c d v/\Q a b c d v/\R a b c d v) (f:∀a b c d v,P a b c d v->Q a b c d v->R a b c d v->ar):ar:=by
 obtain⟨a,b,c,d,v,A,ae,ag⟩:=h
 exact f _ _ _ _ _ A ae ag
end
section
variable {A:Sort px} {B:Sort q1} {C:Sort tc} {bp:Sort wd} {E:Sort u4} {F:Sort u5} {P Q R S dE W X:A->B->C->bp->E->F->Prop}
def e6_2 (h:∃a b c d v w,P a b c d v w/\Q a b c d v w) (f:∀a b c d v w,P a b c d v w->Q a b c d v w->ar):ar:=by
 obtain⟨a,b,c,d,v,w,A,ae⟩:=h
 exact f _ _ _ _ _ _ A ae
end
section
variable {A:Sort px} {B:Sort q1} {C:Sort tc} {bp:Sort wd} {E:Sort u4} {F:Sort u5} {H:Sort u6} {P Q R S dE W X:A->B->C->bp->E->F->H->Prop}
def e7_1 (h:∃a b c d v w x,P a b c d v w x) (f:∀a b c d v w x,P a b c d v w x->ar):ar:=by
 obtain⟨a,b,c,d,v,w,x,A⟩:=h
 exact f _ _ _ _ _ _ _ A
end
def an {a b:Bool} (h:(a&&b)=true) (f:a=true->b=true->ar):ar:=f (kZ.mp h).1 (kZ.mp h).2
variable {a b c d i j k m n u ak n3:Nat}
def nle (h:b2 a b=true):a<=b:=ce h
def nlt (h:b2 (a+1) b=true):a<b:=ce h
def ff (h:false=true):ar:=by cases h
def ns {bd:Type u} {x:bd} (h:none=some x):ar:=by cases h
def sn {bd:Type u} {x:bd} (h:some x=none):ar:=by cases h
def l1 (h:a+j<=c) (e:b2 i j=true):a+i<=c:=c5 (lL (ce e) a) h
def l2 (h:a+j<c) (e:b2 i j=true):a+i<c:=mO (lL (ce e) a) h
def l3 (h:a+j<=c):a<=c:=c5 (vJ a j) h
def l4 (h:a+j<c):a<c:=mO (vJ a j) h
def l5 (h:u<=m+k*d) (e:b2 i k=true):u+i<=m+k*(d+1):=by rw[Nat.mul_succ,<-sI];exact GN h (ce e)
def l6 (h:u<=m+k*d):u<=m+k*(d+1):=by rw[Nat.mul_succ,<-sI];exact c5 h (vJ _ k)
def l7 (e:a=b) (h:a<=n) (k:b2 n ak=true):b<=ak:=e▸c5 h (ce k)
def l8 (e:a=b) (h:a<n) (k:b2 n ak=true):b<=ak:=e▸c5 (vK h) (ce k)
def l9 (h:u<=m+d) (g:d<=n3):u+i<=m+(n3+i):=by rw[<-sI];exact qL (c5 h (lL g m)) i
def l10 (h:u<=m+k*d) (g:d<=n3) (e:b2 i k=true):u+i<=m+k*(n3+1):=by rw[Nat.mul_succ,<-sI];exact GN (c5 h (lL (vL k g) m)) (ce e)
def l11 (h:a<b+1) (n:¬a=b):a<b:=Nat.lt_of_le_of_ne (vM h) n
def l12 (h:a<i) (e:b2 (i+j) b=true):a+j<b:=cH (Nat.add_lt_add_right h j) (ce e)
def l13 (h:a<=i) (e:b2 (i+j) b=true):a+j<=b:=c5 (qL h j) (ce e)
def l14 (h:a<=i) (e:b2 (i+1) b=true):a<b:=mO h (ce e)
def l15 (h:a<b) (e:b=c) (k:b2 c d=true):a<d:=cH h (e▸ce k)
def l16 (h:a<=b) (e:b=c) (k:b2 c d=true):a<=d:=c5 h (e▸ce k)
def l17 (h:a+1<=j):a<=j-1:=zK h
def l18 (h:max a b+1<=j):a<=j-1:=c5 (qM a b) (zK h)
def l19 (h:max a b+1<=j):b<=j-1:=c5 (qN a b) (zK h)
def l20 (h:j<=n):j-k<=n:=c5 (Nat.sub_le j k) h
def l21 (h:i<n+1):i=n∨i<n:=(Nat.lt_or_eq_of_le (vM h)).symm
def l23 (h:a+1<=j) (g:b+1<=j):max a b+1<=j:=GO (Nat.max_lt.mpr ⟨h,g⟩)
def l24 (h:a<b) (e:b2 b c=true):a<c:=cH h (nle e)
def l33 (h:a<=b) (e:b2 b c=true):a<=c:=c5 h (nle e)
def l26 (h:a<b) (g:b<=c) (e:b2 c d=true):a<d:=cH h (c5 g (nle e))
def l27 (h:u<=m+d):u+i<=m+(d+i):=l9 h (eh d)
def l28 (h:a+j+k<c):a<c:=l4 (l4 h)
def l29 (h:a<b) (e:b2 b c=true):a+1<=c:=l24 h e
def l30 (h:a<=b):(a:Int)<=b:=Int.ofNat_le.mpr h
def l31 (h:a<b):(a:Int)<b:=Int.ofNat_lt.mpr h
def l32 (e:b=a) (h:a<=n) (k:b2 n ak=true):b<=ak:=l7 e.symm h k
def sj {bd:Type u} {a b:bd} (h:some a=some b) (f:a=b->ar):ar:=f (gR h)
@[elab_as_elim] theorem rwG {bd:Sort u} {a b:bd} {bu:bd->Prop} (h:a=b) (m:bu b):bu a:=h▸m
@[elab_as_elim] theorem rwL {bd:Sort u} {a b:bd} {bu:bd->Prop} (h:a=b) (m:bu a):bu b:=h▸m
def l34:(0:Int)<=(a:Int):=sV a
noncomputable abbrev aL {bd:Sort u} (_:bd):Bool:=false
noncomputable abbrev a1 {bd:Sort u} {ca:Sort v} (_:bd) (_:ca):Bool:=false
noncomputable abbrev hv {bd:Sort u} {ca:Sort v} {A:Sort w} (_:bd) (_:ca) (_:A):Bool:=false
noncomputable abbrev cQ {bd:Sort u} {ca:Sort v} {A:Sort w} {B:Sort x} (_:bd) (_:ca) (_:A) (_:B):Bool:=false
noncomputable abbrev bX {bd:Sort u} {ca:Type v} (_:bd):Option ca:=none
noncomputable abbrev de {bd:Sort u} {ca:Sort v} {A:Type w} (_:bd) (_:ca):Option A:=none
end Mine
end
namespace Mac
section
open Lean
def mp (f:Syntax->Syntax):List Syntax->List Syntax
 |[]=>[]
 |a::l=>f a::mp f l
def mi (f:Nat->Syntax):Nat->Nat->List Syntax
 |0,_=>[]
 |n+1,i=>f i::mi f n (i+1)
def sa (s:String):Syntax:=.atom .none s
def sn (k:String) (a:List Syntax):Syntax:=.node .none (`Lean.Parser++k.toName) a.toArray
def su (a:List Syntax):Syntax:=.node .none `null a.toArray
def sg (s:String):Syntax:=mkIdent s.toName
def ap (f:Syntax) (a:List Syntax):Syntax:=sn "Term.app" [f,su a]
def sp:List Syntax->List Syntax
 |[]=>[]
 |a::l=>match l with
  |[]=>[a]
  |_=>a::sa ";"::sp l
def sq (a:List Syntax):Syntax:=sn "Tactic.tacticSeq" [sn "Tactic.tacticSeq1Indented" [su (sp a)]]
def s1 (k w:String) (t:Syntax):Syntax:=sn ("Tactic."++k) [sa w,t]
def sS (a:List Syntax):Syntax:=sn "Tactic.paren" [sa "(",sq a,sa ")"]
def sh (x:Syntax):Syntax:=sn "Term.syntheticHole" [sa "?",x]
def rt (f:Syntax) (a:List Syntax):Syntax:=s1 "refine" "refine" (ap f a)
def rf (f:String) (a:List Syntax):Syntax:=rt (sg ("Mine."++f)) (a++[sh (sa "_")])
def ff1 (a:List Syntax):Syntax:=s1 "first" "first" (su (mp (λt=>.node .none `group #[sa "|",sq [t]]) (a++[s1 "fail" "fail" (su [])])))
def itr (x:Syntax):Syntax:=s1 "intro" "intro" (su [x])
def rcs (h p:Syntax):Syntax:=sn "Tactic.rcases" [sa "rcases",su [sn "Tactic.elimTarget" [su [],h]],su [sa "with",p]]
def clr (a:List Syntax):Syntax:=s1 "clear" "clear" (su a)
def tr (a:Syntax):Syntax:=s1 "tacticTry_" "try" (sq [a])
def clT (a:Syntax):List Syntax:=if a.isIdent then [tr (clr [a])]else []
def consd (e:Syntax) (gs:List Syntax):List Syntax:=
 let f:=e[0].getId.toString
 let a:=if e.isIdent then clT e else if f.endsWith "'"||f=="an"||f=="mk_eq"then clT (e[1].getArgs.back?.getD .missing)else []
 if gs.isEmpty then a else a++[clr gs]
def ips:List Syntax->Nat->List Syntax×List Syntax
 |[],_=>([],[])
 |p::l,i=>
  let q:=ips l (i+1)
  let h:=sg ("z"++toString i)
  let w:=itr h
  let a:=p[0][0][0]
  if p[1].getNumArgs==0&&p[0][0].getNumArgs==1&&(a[0].isIdent||a.getNumArgs==1)then
   ((if a[0].isIdent then(if a[0].getId==`rfl then sS [w,rcs h p]else itr a[0])else itr (sg "zu"))::q.1,q.2)
  else(w::q.1,rcs h p::q.2)
def obg (ps a cl x:List Syntax):Syntax:=let q:=ips ps 0;sS (a++(cl++(q.1++(x++q.2))))
def obe (k:Nat) (e:Syntax):List Syntax:=mi (λj=>rf ("e"++toString (k-1-j)++"_"++toString (j+1)) [e]) k 0
def oba (e:Syntax):Syntax:=rt e [sh (sa "_")]
def ob0 (ps:List Syntax) (e:Syntax) (cl:List Syntax):Syntax:=obg ps [ff1 (oba e::obe ps.length e)] cl []
def obt (ps es:List Syntax):Syntax:=
 let e:=es.headD .missing
 let cl:=consd e (es.drop 1)
 if ps.length>8 then
  ff1 [obg ps [oba e] cl [],obg (ps.take 7) [ff1 (obe 8 e)] cl [itr (sg "zz"),ob0 (ps.drop 7) (sg "zz") (consd (sg "zz") [])]]
 else ob0 ps e cl
def rcq (cl:List Syntax) (nm:Nat->Syntax):List Syntax->Nat->List Syntax
 |[],_=>[]
 |q::l,i=>
  let z:=sg "z"
  let t:=if q[0].isIdent&&q[0].getId !=`rfl then [itr q[0]]else [itr z,rcs z (sn "Tactic.rcasesPatLo" [sn "Tactic.rcasesPatMed" [su [q]],su []])]
  rcq cl nm l (i+1)++[sn "Tactic.case'" [sa "case'",su [sn "Tactic.caseArg" [.node .none `Lean.binderIdent #[nm i],su []]],sa "=>",sq (cl++t)]]
def rca (es alts:List Syntax):Syntax:=
 let e:=es.headD .missing
 let nm:=λi=>sg ("c"++toString (e.getPos?.getD 0).byteIdx++"_"++toString i)
 sS (rt (sg ("Mine.o"++toString alts.length)) (e::mi (λi=>sh (nm i)) alts.length 0)::rcq (consd e (es.drop 1)) nm alts 0)
def ind (t:Syntax) (as:List Syntax) (c:String):Syntax:=sn "Tactic.induction" [sa "induction",su [t],su [sa "using",sg (c++".casesOn")],su [],su as]
def bt (t:Syntax):Syntax:=sn "Term.byTactic" [sa "by",sq [t]]
def exA:List Char->List Syntax
 |[]=>[]
 |c::l=>(if c=='%' then bt (sn "Tactic.assumption" [sa "assumption"])else if c=='=' then sg "rfl"else bt (sn "Tactic.tacticRfl" [sa "rfl"]))::exA l
def exL:List String->List Syntax
 |f::a::l=>s1 "exact" "exact" (if a==""then sg f else ap (sg f) (exA a.toList))::exL l
 |_=>[]
def exS (s:String):List Syntax:=exL (s.splitOn " ")
def ii (k:String) (t:Syntax):MacroM Syntax:=do
 let xs:=t[1].getSepArgs.toList
 let n:=xs.length
 if !t.isOfKind `Lean.Parser.Term.anonymousCtor||n<3||n>8 then Macro.throwUnsupported
 return ff1 (mi (λj=>s1 k k (ap (sg ("Mine.i"++toString (n-1-j)++"_"++toString (j+1))) xs)) n 0)
def hs (ns l:List String):Bool:=match l with
 |[]=>false
 |a::l=>ns.contains a||hs ns l
def csQ (ns:List String):List String->String
 |a::b::l=>if hs ns (a.splitOn " ")then b else csQ ns l
 |_=>"Mine.O Mine.V PySem.Stmt Mine.T Mine.Fl Mine.GK"
def csI (t:Syntax) (as:List Syntax):List String->List Syntax
 |[]=>[]
 |c::l=>ind t as c::csI t as l
def csN:List Syntax->List String
 |[]=>[]
 |a::l=>a[1][1].getId.toString::csN l
def csA:List Syntax->List String
 |[]=>[]
 |a::l=>csN a[0].getArgs.toList++csA l
def cs (t a:Syntax):Syntax:=
 let e:=t[1]
 let aa:=a[2].getArgs.toList
 let b:=aa.headD .missing
 let c:=b[0][0]
 let x:=if csA aa==["cons"]&&c[1][0].getNumArgs==0&&c[2].getNumArgs==2 then
   [sS ([rf "All2.ci" [e]]++(clT e++[itr (sg "zy"),itr (sg "zs"),itr c[2][0],itr c[2][1],sn "Tactic.paren" [sa "(",b[1][1],sa ")"]]))]else []
 ff1 (x++csI t [a] ((csQ (csA aa) ("own str int gnd bool sym ty bi any ref/Mine.V PySem.Value/none some/Option/nil cons/List Mine.All2/zero succ/Nat/inl inr/Or/true false/Bool/inst dict tdict list tuple box cell lit tit dit dis dii dvs dvi enm rng rit sit trues dead abs rinst rlist/Mine.O/Name Call Attribute Constant Tuple List Dict Subscript Slice BinOp UnaryOp BoolOp Compare IfExp ListComp Lambda/PySem.Expr".splitOn "/")).splitOn " "))
def ex1 (f:String) (e:Syntax):Syntax:=s1 "exact" "exact" (ap (sg f) [e])
def sub (e:Syntax):Syntax:=s1 "subst" "subst" (su [e])
def cs0 (t e:Syntax):Syntax:=
 let z:=sg "z"
 ff1 (sub e::ex1 "Mine.ff" e::ex1 "Mine.ns" e::ex1 "Mine.sn" e::ex1 "False.elim" e::sS ([rf "sj" [e]]++(clT e++[itr z,sub z]))::csI t [] ["Mine.O","Mine.V","PySem.Expr","Mine.T","Option","List"])
def wr (k w:String) (t:Syntax):Syntax:=s1 k w (sq [t])
def rw1 (r:Syntax):Syntax:=
 let t:=r[1]
 let el:=sn "Term.ellipsis" [sa ".."]
 let t:=if t.isOfKind `Lean.Parser.Term.app then sn "Term.app" [t[0],su (t[1].getArgs.toList++[el])]else if t.isIdent then ap t [el]else t
 ff1 [wr "withReducibleAndInstances" "with_reducible_and_instances" (rf (if r[0].getNumArgs !=0 then "rwL"else "rwG") [t]),
  sn "Tactic.rewriteSeq" [sa "rewrite",sn "Tactic.optConfig" [su []],sn "Tactic.rwRuleSeq" [sa "[",su [r],sa "]"],su []]]
def isTup (a:Syntax):Bool:=a.isOfKind `Lean.Parser.Tactic.rcasesPat.tuple
def ob1 (p:Syntax) (es:List Syntax):MacroM Syntax:=do
 let as:=p[0].getSepArgs.toList
 let a:=as.headD .missing
 let ps:=a[1].getSepArgs.toList
 match as with
 |[_]=>if isTup a&&ps.length≥2 then return ff1 [obt ps es]else Macro.throwUnsupported
 |_=>if as.length>9 then Macro.throwUnsupported else return ff1 [rca es as]
def tg (a:List Syntax):List Syntax:=mp (λt=>t[1]) a
end
end Mac
open Mac Lean in
local macro_rules
| `(tactic| obtain $p := $es,*) => ob1 p es.getElems.raw.toList
| `(tactic| obtain $p : $t := $e) => do ob1 p [(← `((show $t from $e)))]
| `(tactic| rcases $es,* with $p) => if p.raw[1].getNumArgs != 0 then Macro.throwUnsupported else ob1 p.raw[0] (tg es.getElems.raw.toList)
| `(tactic| cases $t:elimTarget $[$a]?) =>
 if t.raw[0].getNumArgs != 0 then Macro.throwUnsupported
 else return match a with
 | some a => cs t a
 | none => cs0 t t.raw[1]
| `(tactic| lia) => do
 `(tactic| first | with_reducible $(⟨sq [ff1 (sn "Tactic.assumption" [sa "assumption"] :: exS "Mine.nle = Mine.nlt = Nat.le_of_lt % Mine.l24 %= Mine.l33 %= Mine.l26 %%= Nat.le_trans %% Nat.lt_of_lt_of_le %% Nat.lt_of_le_of_lt %% Mine.l1 %= Mine.l2 %= Mine.l3 % Mine.l4 % Mine.l11 %% Mine.l12 %= Mine.l13 %= Mine.l14 %= Mine.l5 %= Mine.l6 % Mine.l9 %% Mine.l27 % Mine.l10 %%= Mine.l28 % Mine.l15 %%= Mine.l16 %%= Mine.l17 % Mine.l18 % Mine.l19 % Mine.l20 % Mine.l21 % Mine.l23 %% Nat.succ_le_succ % Mine.l29 %= Mine.l34  Mine.l30 % Mine.l31 %")]⟩):tacticSeq | $(⟨ff1 (exS "Mine.l7 %%! Mine.l32 %%! Mine.l8 %%!")⟩):tactic | lia (splits := 9) | omega)
| `(tactic| exact $t) => ii "exact" t
| `(tactic| refine $t) => ii "refine" t
| `(tactic| rw [$rs,*]) => return sS (mp rw1 rs.getElems.raw.toList ++ [tr (wr "withReducible" "with_reducible" (sn "Tactic.tacticRfl" [sa "rfl"]))])
namespace Mac
open Lean
def nk (s : Syntax) : Syntax := s.rewriteBottomUp fun
 | .node _ k a => .node .none k a
 | .atom _ s => .atom .none s
 | .ident _ r v p => .ident .none r v p
 | s => s
def dd (k w : String) (i s v : Syntax) (z : List Syntax) : Syntax :=
 let e := su []
 sn "Command.declaration" [sn "Command.declModifiers" [e, e, e, e, su [sn "Command.noncomputable" [sa "noncomputable"]], e, e], sn ("Command." ++ k) ([sa w, nk i, s, v] ++ z)]
end Mac
open PySem PySem.W PySem.Calls PyProof.Rows
namespace Mine
open Mac Lean in
local macro_rules
| `(def $i:declId $s:optDeclSig $v:declVal) => return dd "definition" "def" i s v [su []]
| `(abbrev $i:declId $s:optDeclSig $v:declVal) => return dd "abbrev" "abbrev" i s v []
abbrev dQ:=PySem.Challenge.pw_nu0299_01
def hQ:List bI->Nat->bI
 |[],_=>.Pass default
 |s::_,0=>s
 |_::r,n+1=>hQ r n
def body:List bI:=dQ.main.body
def HF:bI->List bI
 |.ClassDef (body:=b) .. =>b
 |_=>[]
def F (i:Nat):bI:=hQ body i
def bu (i j:Nat):bI:=hQ (HF (F i)) j
abbrev S (x:String):aI:=ec x
abbrev ai (x:String) (t:Nat):am:=.str (ec x) t
abbrev ez (i t:Nat):am:=.int (bl i) t
abbrev r (a:Nat):am:=.ref a
abbrev ak:am:=.none
abbrev we (P:bR) (x:aI) (t:Nat) (v:am):cu:=⟨PyData.keyHash P x,.str x t,v⟩
abbrev e (P:bR) (x:String) (t:Nat) (v:am):cu:=we P (ec x) t v
abbrev tup (l:List am):bY:={cls:=.type "tuple",data:=.seq l.toArray}
abbrev ej (l:List am):bY:={cls:=.none,data:=.fields l.toArray}
def py:bI->sJ
 |.FunctionDef (args:=a) .. =>a
 |_=>{posonlyargs:=[],args:=[],vararg:=none,kwonlyargs:=[],kw_defaults:=[],kwarg:=none,defaults:=[]}
def AD:bI->List bI
 |.FunctionDef (body:=b) .. =>b
 |_=>[]
def wf:bI->bB
 |.FunctionDef (scope:=b) .. =>b
 |_=>default
def gh:bI->aI
 |.FunctionDef (name:=n) .. =>n
 |.ClassDef (name:=n) .. =>n
 |_=>default
def pz:bI->Nat
 |.FunctionDef (pos:=p) .. =>p.1
 |.ClassDef (pos:=p) .. =>p.1
 |_=>0
def AE (s:bI):List aI:=((wf s).names.filter λq=>q.2==.local).map (·.1)
def eV (i j:Nat):aI:=gh (F i)++S "."++gh (bu i j)
def pA (s:bI) (q:aI) (g:Nat) (d pm dB:am):bY:=⟨.type "function",none,.func {name:=gh s,qualname:=q,params:=py s,body:=.stmts (AD s),scope:=wf s,globals:=g,closure:=[],defaults:=d,kwdefaults:=.none,pyModule:=pm,code:=dB},#[]⟩
def AF (s:bI) (q:aI):bY:={pA s q 0 ak ak ak with cls:=ak}
def wg (t:Nat):List aI->List am
 |[]=>[]
 |x::l=>.str x t::wg (t+1) l
def gU (t:Nat) (l:List String):bY:=tup (wg t (l.map S))
def n4:List (Nat×Nat×Nat)->List am
 |[]=>[]
 |(a,b,c)::l=>ez a 0::ez b 0::r c::n4 l
def lZ:List (Nat×bY)->BT->BT
 |[],t=>t
 |p::l,t=>lZ l (t.ins p.1 p.2)
def HG (P:bR):BT:=lZ [(0,boot_o_0 P),(1,boot_o_1 P),(2,boot_o_2 P),(3,boot_o_3 P),(4,boot_o_4 P),(5,boot_o_5 P),(6,boot_o_6 P),(7,boot_o_7 P),(8,boot_o_8 P),(9,boot_o_9 P),(10,boot_o_10 P)] .nil
section
local macro_rules |`($n:num)=>`(nat_lit $n)
def td (a b:aI) (t l x bg:Nat) (k:am) (z:Bool) (cx dI A d5:am) (u:Nat):bY:=
 {cls:=.type "code",data:=.fields [.str a t,.str b (bK t 1),ai "/claim/cut.py" (bK t 2),ez l 0,ez x 0,ez 0 0,ez 0 0,ez bg 0,k,.bool z,ez 181 0,cx,ak,dI,A,d5,ez u 0,ez l 0,ai "/claim/cut.py" (bK u 1)].toArray}
def dC (s:bI) (q:aI) (m d:am) (t a:Nat):List (Nat×bY):=
 [(eu a 6,tup []),(eu a 5,ej []),(eu a 4,tup (wg (bK t 3) (AE s))),(eu a 3,tup []),(eu a 2,AF s q),(eu a 1,td (gh s) q t (pz s) (py s).args.length 3 (r (eu a 6)) true (r (eu a 5)) (r (eu a 4)) (r (eu a 3)) (r (eu a 2)) (bK (bK t 3) (AE s).length)),(a,pA s q 3 d m (r (eu a 1)))]
def km (s:bI) (q:aI) (m d:am) (t a:Nat):List (Nat×bY):=
 [(eu a 4,tup []),(eu a 3,ej []),(eu a 2,AF s q),(eu a 1,td (gh s) q t (pz s) (py s).args.length 3 (r (eu a 4)) true (r (eu a 3)) ak ak (r (eu a 2)) (bK t 3)),(a,pA s q 3 d m (r (eu a 1)))]
def eW (f:bI->aI->am->am->Nat->Nat->List (Nat×bY)) (m:am):List (Nat×Nat×Nat)->List (Nat×bY)
 |[]=>[]
 |(i,t,a)::l=>f (F i) (gh (F i)) m ak t a++eW f m l
def kn (f:bI->aI->am->am->Nat->Nat->List (Nat×bY)) (m:am) (i:Nat):List (Nat×Nat×Nat)->List (Nat×bY)
 |[]=>[]
 |(j,t,a)::l=>f (bu i j) (eV i j) m ak t a++kn f m i l
def fF (l:List cu) (n:Nat):bY:=⟨.type "dict",none,.dict l.toArray n,#[]⟩
def HH (P:bR) (i:Nat) (l:List (Nat×Nat×Nat)):List cu:=l.map λq=>we P (gh (bu i q.1)) q.2.1 (r q.2.2)
def n5 (l:List (Nat×Nat×Nat)):List (aI×Nat×am):=l.map λq=>(gh (F q.1),q.2.1,r q.2.2)
def dT (l:List am):bY:=⟨.type "builtin_function_or_method",none,.fields l.toArray,#[]⟩
def ko (l:List am):bY:=⟨.type "getset_descriptor",none,.fields l.toArray,#[]⟩
def AG (P:bR) (m:am) (i t:Nat) (q:List cu) (A:List (Nat×Nat×Nat)) (u c:Nat) (z:List cu):List cu:=
 e P "__module__" (bK t 5) m::(q++e P "__firstlineno__" (bK t 9) (ez (pz (F i)) (bK t 8))::(HH P i A++e P "__static_attributes__" u (r (eu c 2))::z))
def hw (P:bR) (m:am) (i b t:Nat) (eH:List am) (A:List (Nat×Nat×Nat)) (u c:Nat):List (Nat×bY):=
 let q:=AG P m i t [e P "__qualname__" (bK t 7) (.str (gh (F i)) (bK t 6))] A u c []
 [(b,tup eH),(bK b 1,dT [.builtin "type.__prepare__",.type "type"]),(bK b 2,fF q q.length),(bK b 3,tup []),(bK b 4,ej (n4 (A.map λq=>(pz (bu i q.1),4,eu q.2.2 1)))),(bK b 5,td (gh (F i)) (gh (F i)) t (pz (F i)) 0 0 (r (bK b 3)) false (r (bK b 4)) ak ak ak (bK t 3)),
  (bK b 6,⟨.type "frame",none,.plain,[some (r (bK b 5)),some (r 3),some (r (bK b 2)),none,some m,none,some (r 0)].toArray⟩)]
inductive AH where
 |z
 |d
 |g
def AI (i b t c:Nat) (k:AH) (A B:List am):Nat×bY:=
 (c,⟨.type "type",none,.cls ⟨gh (F i),A.take 1,r c::A,eu c 1,gh (F i),true,[],B,false,none,false⟩,[match k with|.z=>none|_=>some (r b),none,some (.str (gh (F i)) (eu t 2)),some (.str (gh (F i)) (bK t 6)),some (.builtin (match k with|.g=>"ValueError.__new__"|_=>"object.__new__")),some (.bool true)].toArray⟩)
def h9 (P:bR) (m:am) (i b t:Nat) (B:List (Nat×Nat×Nat)) (u c:Nat) (k:AH) (A C:List am) (sa:List String):List (Nat×bY):=
 let x:=λa=>[(a,(⟨.type "super",none,.fields [r c,r c,r c].toArray,#[]⟩:bY)),(bK a 1,dT [.builtin "object.__init_subclass__",r c])]
 let w:=λa u=>[(a,ko [ai "__weakref__" u,r c,.builtin "ExceptionGroup.__weakref__",ak])]
 let o:=λz n y=>(eu c 2,gU (eu u sa.length) sa)::(eu c 1,fF (AG P m i t [] B u c z) n)::AI i b t c k A C::y
 match k,A with
 |.z,_=>o [e P "__dict__" (bK u 2) (r (bK c 1)),e P "__weakref__" (bK u 4) (r (bK c 2)),e P "__doc__" (bK u 5) ak] 4 ((bK c 1,ko [ai "__dict__" (bK u 1),r c,.builtin "function.__dict__",.builtin "function.__dict__#set"])::(w (bK c 2) (bK u 3)++x (bK c 3)))
 |.g,.type _::_=>o [e P "__weakref__" (bK u 2) (r (bK c 1)),e P "__doc__" (bK u 3) ak] 3 (w (bK c 1) (bK u 1)++x (bK c 2))
 |_,_=>o [e P "__doc__" (bK u 1) ak] 2 (x (bK c 1))
abbrev HI:am:=ai "__main__" 164
abbrev HJ:am:=ai "gemrows.binding" 194
abbrev dx:am:=ai "gemrows.things" 221
abbrev kp:am:=ai "gemrows.lines" 887
abbrev wh:am:=ai "gemrows.coretools" 789
abbrev pB:am:=ai "gemrows.errors" 1371
abbrev te:am:=ai "gemrows.nodes" 1426
abbrev wi:am:=ai "gemrows.core" 1122
abbrev mY:am:=ai "gemrows.world" 1472
abbrev wj:am:=ai "law_nu0299_01" 1980
def q2:List (Nat×Nat×Nat):=[(0,20),(2,27),(3,34),(4,41),(9,50),(10,71),(11,91),(12,111),(13,149),(14,169),(15,190),(16,210),(17,230),(18,257),(19,287),(20,294),(21,301),(22,307),(23,314),(25,321),(26,328),(27,335),(28,342),(29,347),(30,354),(31,361),(32,368),(33,373),(34,380),(35,388),(39,395),(40,402),(42,409),(43,416),(44,423),(45,428),(46,435),(47,442),(48,449),(49,456),(50,463),(52,470),(53,477),(54,482),(55,487),(56,494),(59,503),(60,515),(61,522),(62,527),(63,534),(64,541),(65,548),(66,555),(67,562),(68,569),(69,576),(70,583),(71,590),(72,597),(73,604),(74,609),(75,616),(76,623),(78,630),(79,637),(80,644),(81,651),(82,658),(83,665),(84,672),(85,679),(86,686),(87,693),(88,700),(89,707),(90,714),(91,721),(92,728),(93,735),(94,742),(95,749),(96,756),(97,763),(98,770),(99,777),(100,784),(101,791),(102,798),(103,803),(104,810),(106,817),(107,838),(109,857),(115,902),(117,1161),(118,1168),(119,1175),(120,1182),(121,1189),(122,1196),(123,1201),(124,1206),(125,1211),(126,1216),(127,1221),(128,1226),(129,1231),(130,1238)].map λq=>(pz (F q.1),0,q.2)
def AJ:List (aI×Nat×am):=[(S "__doc__",166,ak),(S "__package__",167,ak),(S "__loader__",168,(.builtin "__main__.__loader__#opaque")),(S "__spec__",169,ak),(S "__annotations__",170,(r 6)),(S "__builtins__",171,(r 4)),(S "__file__",173,(ai "/claim/cut.py" 172)),(S "__cached__",174,ak)]++(n5 [(0,193,21),(2,202,28),(3,209,35),(4,220,42)]++([(S "SIMPLE_ESCAPES",256,(r 43)),(S "OPERATORS",284,(r 44)),(S "DEEPEST_KEY",286,(ez 12 285))]++(n5 [(9,321,61),(10,349,83),(11,376,103),(12,428,141),(13,459,161),(14,502,182),(15,530,202),(16,560,222),(17,607,249),(18,660,277),(19,667,288),(20,674,295),(21,683,302),(22,689,308),(40,697,403)]++([(S "is_word_things",698,(r 315))]++(n5 [(25,705,322),(26,712,329),(27,719,336),(28,729,343),(29,735,348),(30,742,355),(31,751,362),(32,761,369),(33,767,374),(34,778,381),(35,788,389)]++([(S "LETTERS",792,(ai "abcdefghijklmnopqrstuvwxyz" 791)),(S "DIGITS",794,(ai "0123456789" 793))]++(n5 [(39,802,396)]++([(S "is_word_coretools",812,(r 403))]++(n5 [(42,821,410),(43,829,417),(44,837,424),(45,843,429),(46,851,436),(47,861,443),(48,870,450),(49,879,457),(50,886,464),(52,897,471),(53,906,478),(54,912,483),(55,918,488),(56,926,495)]++([(S "PRIVATE_NAMES",931,(r 496)),(S "PRIVATE_KERNEL",945,(r 497))]++(n5 [(59,961,507),(60,969,516),(61,986,523),(62,992,528),(63,1002,535),(64,1013,542),(65,1022,549),(66,1029,556),(67,1037,563),(68,1046,570),(69,1055,577),(70,1062,584),(71,1072,591),(72,1081,598),(73,1090,605),(74,1096,610),(75,1110,617),(76,1121,624),(78,1132,631),(79,1141,638),(80,1150,645),(81,1159,652),(82,1168,659),(83,1177,666),(84,1186,673),(85,1195,680),(86,1207,687),(87,1216,694),(88,1225,701),(89,1234,708),(90,1243,715),(91,1252,722),(92,1261,729),(93,1271,736),(94,1281,743),(95,1291,750),(96,1300,757),(97,1309,764),(98,1318,771),(99,1328,778),(100,1337,785),(101,1346,792),(102,1355,799),(103,1361,804),(104,1370,811),(106,1400,829),(107,1425,849),(109,1471,879)]++([(S "MODULES",1477,(r 884)),(S "BUILTINS",1594,(r 885)),(S "MIXED",1616,(r 888)),(S "UNMADE",1623,(r 896))]++(n5 [(115,1979,1151),(117,1990,1162),(118,1999,1169),(119,2007,1176),(120,2015,1183),(121,2025,1190),(122,2034,1197),(123,2040,1202),(124,2046,1207),(125,2052,1212),(126,2058,1217),(127,2064,1222),(128,2070,1227),(129,2076,1232),(130,2088,1239)])))))))))))))
def n6 (P:bR):List cu:=AJ.map λq=>we P q.1 q.2.1 q.2.2
def loose:List aI:=((AJ.drop 8).map (·.1)).dropLast
def wk (P:bR) (n k:Nat):bY:=fF ((([(1478,"BasicObject",none),(1480,"Object",some "BasicObject"),(1483,"Module",some "Object"),(1486,"Class",some "Module"),(1489,"Kernel",none),(1491,"Comparable",none),(1493,"Enumerable",none),(1495,"NilClass",some "Object"),(1498,"TrueClass",some "Object"),(1501,"FalseClass",some "Object"),(1504,"Numeric",some "Object"),(1507,"Integer",some "Numeric"),(1510,"String",some "Object"),(1513,"Symbol",some "Object"),(1516,"Array",some "Object"),(1519,"Hash",some "Object"),(1522,"Range",some "Object"),(1525,"Proc",some "Object"),(1528,"Fiber",some "Object"),(1531,"Exception",some "Object"),(1534,"ScriptError",some "Exception"),(1537,"NotImplementedError",some "ScriptError"),(1540,"SystemStackError",some "Exception"),(1543,"StandardError",some "Exception"),(1546,"ArgumentError",some "StandardError"),(1549,"UncaughtThrowError",some "ArgumentError"),(1552,"FiberError",some "StandardError"),(1555,"IndexError",some "StandardError"),(1558,"KeyError",some "IndexError"),(1561,"StopIteration",some "IndexError"),(1564,"LocalJumpError",some "StandardError"),(1567,"NameError",some "StandardError"),(1570,"NoMethodError",some "NameError"),(1573,"NoMatchingPatternError",some "StandardError"),(1576,"NoMatchingPatternKeyError",some "NoMatchingPatternError"),(1578,"RangeError",some "StandardError"),(1580,"RuntimeError",some "StandardError"),(1582,"FrozenError",some "RuntimeError"),(1584,"TypeError",some "StandardError"),(1586,"ZeroDivisionError",some "StandardError")]:List (Nat×String×Option String)).drop n).take k|>.map λq=>e P q.2.1 q.1 (match q.2.2 with|none=>ak|some x=>ai x (bK q.1 1))) k
def pC (P:bR) (n:Nat) (x:am) (l:List cu):bY:=fF (e P "__name__" 165 x::l) n
def iF (P:bR):BT:=lZ [(11,tup []),(12,ej []),(13,td (S "<module>") (S "<module>") 182 1 0 0 (r 11) false (r 12) ak ak ak 185),(14,⟨.type "frame",none,.plain,[some (r 13),some (r 3),some (r 3),none,some (ai "__main__" 164),none,some (r 0)].toArray⟩)] (HG P)
def AK:List (Nat×Nat×Nat):=[(0,397,119),(1,408,126),(2,416,133),(3,422,138)]
def AL:List (Nat×Nat×Nat):=[(0,1648,911),(1,1655,918),(2,1663,925),(3,1670,932),(4,1677,939),(5,1686,946),(6,1695,953),(7,1701,958),(8,1709,965),(9,1724,973),(10,1732,980),(11,1740,987),(12,1749,994),(13,1757,1001),(14,1765,1008),(15,1773,1015),(16,1781,1022),(17,1792,1029),(18,1801,1036),(19,1813,1043),(20,1830,1050),(21,1840,1057),(22,1848,1064),(23,1856,1071),(24,1865,1078),(25,1874,1085),(26,1883,1092),(27,1893,1099),(28,1901,1106),(29,1910,1113),(30,1919,1120),(31,1928,1127),(32,1937,1134),(33,1946,1141),(34,1956,1148)]
def tf (P:bR):BT:=lZ ([(3,pC P 16 (ai "gemrows.things" 221) ((n6 P).take 15)),(12,ej (n4 (q2.take 4)))]++(eW dC HI [(0,187,21)]++(eW dC HJ [(2,196,28),(3,203,35),(4,210,42)]++([(43,fF [e P "\\" 223 (ai "\\\\" 224),e P "\"" 225 (ai "\\\"" 226),e P "\x0a" 227 (ai "\\n" 228),e P "\x09" 229 (ai "\\t" 230),e P "\x0d" 231 (ai "\\r" 232),e P "\x1b" 233 (ai "\\e" 234),e P "\x07" 235 (ai "\\a" 236),e P "\x08" 237 (ai "\\b" 238),e P "\x0b" 239 (ai "\\v" 240),e P "\x0c" 241 (ai "\\f" 242),e P "\x7f" 243 (ai "\\x7F" 244)] 11),(44,gU 257 ["+","-","*","/","%","**","==","!=","<",">","<=",">=","<=>","===","[]","[]=","<<",">>","!","~","+@","-@","&","|","^","=~","!~"])])))) (iF P)
def l0 (P:bR):BT:=lZ ([(3,pC P 45 (ai "gemrows.coretools" 789) ((n6 P).take 29++e P "is_word" 697 (r 315)::((n6 P).drop 30).take 14)),(12,ej (n4 (q2.take 30)))]++(hw P dx 9 45 289 [] [(0,307,58)] 314 61++(kn dC dx 9 [(0,299,58)]++(h9 P dx 9 45 289 [(0,307,58)] 314 61 .z [(.type "object")] [(r 83),(r 103),(r 141),(r 161),(r 182),(r 202),(r 222),(r 249)] ["fields","frozen","ident","number","own","owner"]++(hw P dx 10 66 324 [(r 61)] [(0,344,80)] 346 83++([(73,gU 334 [""])]++(dC (bu 10 0) (eV 10 0) dx (r 73) 335 80++(h9 P dx 10 66 324 [(0,344,80)] 346 83 .d [(r 61),(.type "object")] [] ["text"]++(hw P dx 11 86 352 [(r 61)] [(0,371,100)] 373 103++([(93,tup [ak])]++(dC (bu 11 0) (eV 11 0) dx (r 93) 362 100++(h9 P dx 11 86 352 [(0,371,100)] 373 103 .d [(r 61),(.type "object")] [] ["items"]++(hw P dx 12 106 379 [(r 61)] AK 425 141++(kn dC dx 12 [(0,389,119),(1,398,126),(2,409,133)]++(kn km dx 12 [(3,417,138)]++(h9 P dx 12 106 379 AK 425 141 .d [(r 61),(.type "object")] [] ["rows","spare"]++(hw P dx 13 144 431 [(r 61)] [(0,452,158)] 456 161++([(151,tup [ak,ak,(.bool false)])]++(dC (bu 13 0) (eV 13 0) dx (r 151) 441 158++(h9 P dx 13 144 431 [(0,452,158)] 456 161 .d [(r 61),(.type "object")] [] ["first","last","open"]++(hw P dx 14 164 462 [(r 61)] [(0,489,179)] 499 182++([(171,tup []),(172,tup [ak,ak,ak,ak,(r 171),ak,ak,(.bool false),ak])]++(dC (bu 14 0) (eV 14 0) dx (r 172) 472 179++(h9 P dx 14 164 462 [(0,489,179)] 499 182 .d [(r 61),(.type "object")] [] ["body","definer","env","home","is_lambda","nesting","params","self_value","site"]++(hw P dx 15 185 505 [(r 61)] [(0,524,199)] 527 202++([(192,tup [ak])]++(dC (bu 15 0) (eV 15 0) dx (r 192) 515 199++(h9 P dx 15 185 505 [(0,524,199)] 527 202 .d [(r 61),(.type "object")] [] ["cause","message"]++(hw P dx 16 205 533 [(r 61)] [(0,552,219)] 557 222++([(212,tup [ak])]++(dC (bu 16 0) (eV 16 0) dx (r 212) 543 219++(h9 P dx 16 205 533 [(0,552,219)] 557 222 .d [(r 61),(.type "object")] [] ["back","proc","rows","state"]++(hw P dx 17 225 563 [(r 61)] [(0,585,239),(1,592,246)] 604 249++([(232,tup [ak,(.bool false),ak,ak])]++(dC (bu 17 0) (eV 17 0) dx (r 232) 573 239++(kn dC dx 17 [(1,586,246)]++(h9 P dx 17 225 563 [(0,585,239),(1,592,246)] 604 249 .d [(r 61),(.type "object")] [] ["ahead","attached","constants","is_class","kept","methods","mixed","name","native","outer","parent"]++(hw P dx 18 252 610 [] [(0,633,266),(1,644,274)] 653 277++([(259,tup [ak,ak,(ai "public" 620)])]++(dC (bu 18 0) (eV 18 0) dx (r 259) 621 266++([(267,tup [ak])]++(dC (bu 18 1) (eV 18 1) dx (r 267) 634 274++(h9 P dx 18 252 610 [(0,633,266),(1,644,274)] 653 277 .z [(.type "object")] [] ["body","code","name","nesting","owner","params","sight","sort"]++(eW dC dx [(19,661,288),(20,668,295),(21,675,302)]++([(303,tup [(ez 12 285)])]++(km (F 22) (gh (F 22)) dx (r 303) 684 308++(eW dC dx [(23,690,315),(25,699,322),(26,706,329),(27,713,336),(28,720,343)]++(eW km dx [(29,730,348)]++(eW dC dx [(30,736,355),(31,743,362),(32,752,369)]++(eW km dx [(33,762,374)]++(eW dC dx [(34,768,381)]++([(382,tup [(ez 6 779)])]++(dC (F 35) (gh (F 35)) dx (r 382) 780 389))))))))))))))))))))))))))))))))))))))))))))))))))))) (tf P)
def pD (P:bR):BT:=lZ ([(3,pC P 77 (ai "gemrows.lines" 887) ((n6 P).take 76)),(12,ej (n4 (q2.take 60))),AI 18 252 610 277 .z [(.type "object")] [(r 507)]]++(eW dC wh [(39,795,396),(40,803,403),(42,813,410),(43,822,417),(44,830,424)]++(eW km wh [(45,838,429)]++(eW dC wh [(46,844,436),(47,852,443),(48,862,450),(49,871,457),(50,880,464)]++(eW dC kp [(52,889,471),(53,898,478)]++(eW km kp [(54,907,483),(55,913,488)]++(eW dC kp [(56,919,495)]++([(496,gU 927 ["initialize","initialize_copy","method_missing","respond_to_missing?"]),(497,gU 932 ["puts","print","p","raise","loop","catch","throw","proc","lambda","block_given?","Array","Integer","__write"])]++(hw P kp 59 498 948 [(r 277)] [] 958 507++(h9 P kp 59 498 948 [] 958 507 .d [(r 277),(.type "object")] [] []++(eW dC kp [(60,962,516),(61,970,523)]++(eW km kp [(62,987,528)]++(eW dC kp [(63,993,535),(64,1003,542),(65,1014,549),(66,1023,556),(67,1030,563),(68,1038,570),(69,1047,577),(70,1056,584),(71,1063,591),(72,1073,598)]))))))))))))) (l0 P)
def l_ (P:bR):BT:=lZ ([(3,pC P 112 (ai "gemrows.world" 1472) ((n6 P).take 111)),(12,ej (n4 (q2.take 94)))]++(eW dC kp [(73,1082,605)]++(eW km kp [(74,1091,610)]++(eW dC kp [(75,1097,617),(76,1111,624)]++(eW dC wi [(78,1124,631),(79,1133,638),(80,1142,645),(81,1151,652),(82,1160,659),(83,1169,666),(84,1178,673),(85,1187,680),(86,1196,687),(87,1208,694),(88,1217,701),(89,1226,708),(90,1235,715),(91,1244,722),(92,1253,729),(93,1262,736),(94,1272,743),(95,1282,750),(96,1292,757),(97,1301,764),(98,1310,771),(99,1319,778),(100,1329,785),(101,1338,792),(102,1347,799)]++(eW km wi [(103,1356,804)]++(eW dC wi [(104,1362,811)]++(hw P pB 106 812 1375 [(.type "ValueError")] [(0,1393,826)] 1395 829++([(819,gU 1385 [""])]++(dC (bu 106 0) (eV 106 0) pB (r 819) 1386 826++(h9 P pB 106 812 1375 [(0,1393,826)] 1395 829 .g [(.type "ValueError"),(.type "Exception"),(.type "BaseException"),(.type "object")] [(r 849)] ["reason"]++(hw P pB 107 833 1403 [(r 829)] [(0,1420,846)] 1422 849++(kn dC pB 107 [(0,1413,846)]++(h9 P pB 107 833 1403 [(0,1420,846)] 1422 849 .g [(r 829),(.type "ValueError"),(.type "Exception"),(.type "BaseException"),(.type "object")] [] ["thing"]++(hw P te 109 852 1430 [] [(0,1451,869),(1,1458,876)] 1464 879++([(859,tup []),(860,tup []),(861,tup []),(862,tup [(r 859),(r 860),ak,(r 861),ak])]++(dC (bu 109 0) (eV 109 0) te (r 862) 1440 869++(kn dC te 109 [(1,1452,876)]++(h9 P te 109 852 1430 [(0,1451,869),(1,1458,876)] 1464 879 .z [(.type "object")] [] ["block","optional","post","required","rest"]++([(884,gU 1474 ["Kernel","Comparable","Enumerable"])])))))))))))))))))))) (pD P)
def mZ (P:bR):BT:=lZ ([(3,pC P 115 (ai "gemrows.world" 1472) ((n6 P).take 114)),(885,wk P 0 40),(886,wk P 17 17),(887,wk P 34 6),(888,fF [e P "Object" 1595 (r 889),e P "Numeric" 1597 (r 890),e P "String" 1599 (r 891),e P "Symbol" 1601 (r 892),e P "Array" 1603 (r 893),e P "Hash" 1605 (r 894),e P "Range" 1607 (r 895)] 7),(889,gU 1596 ["Kernel"]),(890,gU 1598 ["Comparable"]),(891,gU 1600 ["Comparable"]),(892,gU 1602 ["Comparable"]),(893,gU 1604 ["Enumerable"]),(894,gU 1606 ["Enumerable"]),(895,gU 1608 ["Enumerable"]),(896,gU 1617 ["NilClass","TrueClass","FalseClass","Integer","Numeric","Symbol"])]) (l_ P)
def ma (P:bR):BT:=lZ ([(3,pC P 130 (ai "law_nu0299_01" 1980) (n6 P)),(12,ej (n4 (q2.take 109)))]++(hw P mY 115 897 1626 [] AL 1972 1151++([(904,tup [ak,ak,(ez 20000 1636)])]++(dC (bu 115 0) (eV 115 0) mY (r 904) 1637 911++(kn dC mY 115 [(1,1649,918),(2,1656,925),(3,1664,932),(4,1671,939),(5,1678,946),(6,1687,953)]++(kn km mY 115 [(7,1696,958)]++(kn dC mY 115 [(8,1702,965)]++([(966,tup [ak,ak,ak])]++(dC (bu 115 9) (eV 115 9) mY (r 966) 1710 973++(kn dC mY 115 [(10,1725,980),(11,1733,987),(12,1741,994),(13,1750,1001),(14,1758,1008),(15,1766,1015),(16,1774,1022),(17,1782,1029),(18,1793,1036),(19,1802,1043),(20,1814,1050),(21,1831,1057),(22,1841,1064),(23,1849,1071),(24,1857,1078),(25,1866,1085),(26,1875,1092),(27,1884,1099),(28,1894,1106),(29,1902,1113),(30,1911,1120),(31,1920,1127),(32,1929,1134),(33,1938,1141),(34,1947,1148)]++(h9 P mY 115 897 1626 AL 1972 1151 .z [(.type "object")] [] ["const_version","globals","is_ready","last_ident","last_number","made","main","most","natives","out","prelude","read","symbol_idents","taken","version"]++(eW dC wj [(117,1982,1162),(118,1991,1169),(119,2000,1176),(120,2008,1183),(121,2016,1190),(122,2026,1197)]++(eW km wj [(123,2035,1202),(124,2041,1207),(125,2047,1212),(126,2053,1217),(127,2059,1222),(128,2065,1227),(129,2071,1232)]++(eW dC wj [(130,2077,1239)])))))))))))))) (mZ P)
end
def env:cI:={scope:=dQ.main.scope,locals:=mainNs,globals:=mainNs,cells:=[],code:=.ref 13,frame:=some 14}
abbrev st (T:bR->BT) (n t:Nat) (w:cv) (os:d3):SharedT:=⟨T w.params,n,{},#[],{},t,os⟩
abbrev k9:List Frame:=[topFrame ⟨0,0,0,0⟩]
abbrev dB (b:List bI):Code:=.body b env
def s1:List bI:=(body).take 9
def c_:List bI:=(body).drop 9
def a5:List bI:=(c_).take 30
def fs:List bI:=(c_).drop 30
def eX:List bI:=(fs).take 34
def gC:List bI:=(fs).drop 34
def hR:List bI:=(gC).take 39
def iG:List bI:=(gC).drop 39
def jK:List bI:=(iG).take 3
def gV:List bI:=(iG).drop 3
def mb:List bI:=(gV).take 16
def kq:List bI:=(gV).drop 16
abbrev mc (s:List bI) (k:Nat) (T:bR->BT) (n t:Nat) (m:bO) (A:bR->BT) (B bZ:Nat) (C:bO) (os:d3) (w:cv):Prop:=
 PySem.W.Fast.tw10110043849684766642 PySem.W.Fast.tw14364793385576792824 dQ w 11 (some (.ref 6)) 1 k (st T n t w os) (piecesOf s env (dB body) m k9)=some (.next,st A B bZ w os,dB body,C)
def gs {s:List bI} {k:Nat} {T A:bR->BT} {n t B bZ:Nat} {m C:bO} {os:d3} {w:cv} (h:mc s k T n t m A B bZ C os w):segRun oW dQ w 11 (some (.ref 6)) 1 k (st T n t w os).abs (piecesOf s env (dB body) m k9)=some (.next,(st A B bZ w os).abs,dB body,C):=
 segRun_of (by rw[PySem.W.Fast.te10110043849684766642,zL];exact h)
def aK (w:cv) (os:d3):mc s1 360 iF 15 187 ⟨0,0,0,0⟩ tf 45 287 ⟨16,0,16,11⟩ os w:=byRow2 "special-get-raises" (P:=mc s1 360 iF 15 187 ⟨0,0,0,0⟩ tf 45 287 ⟨16,0,16,11⟩ os) (λw=>by kernel_rfl) (λw=>by kernel_rfl) w
def aW (w:cv) (os:d3):mc a5 3164 tf 45 287 ⟨16,0,16,11⟩ l0 390 795 ⟨242,0,242,6⟩ os w:=by kernel_rfl
def bH (w:cv) (os:d3):mc eX 1149 l0 390 795 ⟨242,0,242,6⟩ pD 599 1082 ⟨415,0,420,28⟩ os w:=by kernel_rfl
def cV (w:cv) (os:d3):mc hR 1748 pD 599 1082 ⟨415,0,420,28⟩ l_ 885 1478 ⟨573,0,573,7⟩ os w:=by kernel_rfl
def eI (w:cv) (os:d3):mc jK 904 l_ 885 1478 ⟨573,0,573,7⟩ mZ 897 1624 ⟨576,0,576,6⟩ os w:=byRow2 "special-get-raises" (P:=mc jK 904 l_ 885 1478 ⟨573,0,573,7⟩ mZ 897 1624 ⟨576,0,576,6⟩ os) (λw=>by kernel_rfl) (λw=>by kernel_rfl) w
def gD (w:cv) (os:d3):mc mb 1776 mZ 897 1624 ⟨576,0,576,6⟩ ma 1240 2089 ⟨978,0,985,15⟩ os w:=by kernel_rfl
def eY (l:List Nat):Nat:=l.foldl (λa x=>a*128+(x+1)) 0
def aG (s:aI):Nat:=eY s.cps.toList
def k_ (l:List Nat):Bool:=l.all λx=>dc x 127
def bf (s:aI):Bool:=k_ s.cps.toList
def la (l:List Nat) (x:Nat):eY (l++[x])=eY l*128+(x+1):=by
 unfold eY;rw[List.foldl_append];rfl
def Uc (l:List Nat) (x:Nat):k_ (l++[x])=true↔k_ l=true/\x<127:=by
 unfold k_
 rw[GP,ed]
 have:([x].all λy=>dc y 127)=true↔x<127:=by
  simp only[oX,List.all_nil,zM]
  exact⟨λh=>ce h,λh=>mP h⟩
 rw[this]
def wl {a x n:Nat} (h:x<n):(a*n+x)/n=a:=by
 rw[Nat.mul_comm,Nat.mul_add_div (mO (hL _) h),Nat.div_eq_of_lt h,Nat.add_zero]
def wm {a x n:Nat} (h:x<n):(a*n+x)%n=x:=by
 rw[Nat.mul_comm,Nat.mul_add_mod,Nat.mod_eq_of_lt h]
def th {a x:Nat} (h:x<127):(a*128+(x+1))/128=a:=wl (mQ h)
def wn {a x:Nat} (h:x<127):(a*128+(x+1))%128=x+1:=wm (mQ h)
def HK:∀(n:Nat) (l A:List Nat),l.length<=n->k_ l=true->k_ A=true->eY l=eY A->l=A:=by
 intro n
 induction n with
 |zero=>
  intro l A B _ C he
  clear a C
  have:l=[]:=zN.mp (zO.mp B)
  clear B
  subst this
  rcases oY A with rfl|⟨m,x,rfl⟩
  ·rfl
  ·rw[oZ]at he
   rw[la]at he
   exact(o_ _ he.symm).elim
 |succ n F=>
  intro l A B E C he
  rcases oY l with rfl|⟨m,x,rfl⟩
  clear C
  ·rcases oY A with rfl|⟨D,hS,rfl⟩
   ·rfl
   ·rw[oZ]at he
    rw[la]at he
    exact(o_ _ he.symm).elim
  ·rw[oZ]at B E he⊢
   rcases oY A with rfl|⟨D,hS,rfl⟩
   ·rw[la]at he
    exact(o_ _ he).elim
   ·rw[oZ]at C he⊢
    rw[la,la]at he
    have a:=(Uc m x).mp E
    have b:=(Uc D hS).mp C
    have ae:eY m=eY D:=(th a.2).symm.trans ((congrArg (·/128) he).trans (th b.2))
    have ag:x=hS:=qO ((wn a.2).symm.trans ((congrArg (·%128) he).trans (wn b.2)))
    rw[lM]at B
    have:=F m D (by simpa using B) a.1 b.1 ae
    rw[this,ag]
def gW {s aq:aI} (h:bf s=true) (av:bf aq=true) (e:aG s=aG aq):s=aq:=by
 have:=HK _ _ _ (eh _) h av e
 clear h av e
 cases s;cases aq
 exact congrArg aI.mk (Array.ext' this)
def d6 (a b:Nat):aU a b=decide (a=b):=by
 cases h:aU a b with
 |true=>exact(decide_eq_true (b3 h)).symm
 |false=>exact(decide_eq_false (Nat.ne_of_beq_eq_false h)).symm
inductive ck where
 |e|lb (k:ck)|c_ (k:ck)|fs (k:ck)|gC (k:ck)|iG (k:ck)|gV (k:ck)|kq (k:ck)|m0 (k:ck)
def jL:Nat->ck->ck
 |0,k=>.lb k|1,k=>.c_ k|2,k=>.fs k|3,k=>.gC k|4,k=>.iG k|5,k=>.gV k|6,k=>.kq k|_,k=>.m0 k
def jM:Nat->Nat->ck
 |0,_=>.e
 |l+1,i=>jL (i%8) (jM l (i/8))
def key (i:Nat):ck:=jM 4 i
def g8 (k:ck):ck:=ck.rec .e (λk Z=>.c_ k) (λk Z=>.fs k) (λk Z=>.gC k) (λk Z=>.iG k) (λk Z=>.gV k) (λk Z=>.kq k) (λk Z=>.m0 k) (λZ A=>.lb A) k
def ck.len:ck->Nat
 |.e=>0
 |.lb k|.c_ k|.fs k|.gC k|.iG k|.gV k|.kq k|.m0 k=>k.len+1
def HL (n:Nat) (k:ck):(jL n k).len=k.len+1:=by rcases n with _|_|_|_|_|_|_|n<;>rfl
def wo:∀l i,(jM l i).len=l
 |0,_=>rfl
 |l+1,i=>by unfold jM;rw[HL,wo l]
def ck.hd:ck->Nat
 |.e=>8|.lb _=>0|.c_ _=>1|.fs _=>2|.gC _=>3|.iG _=>4|.gV _=>5|.kq _=>6|.m0 _=>7
def ck.n7:ck->ck
 |.e=>.e|.lb k|.c_ k|.fs k|.gC k|.iG k|.gV k|.kq k|.m0 k=>k
def AM {P:Nat->Prop} (A:P 0) (ae:P 1) (ag:P 2) (ax:P 3) (aS:P 4) (bA:P 5) (cw:P 6) (cM:P 7) {n:Nat} (h:n<8):P n:=by
 rcases n with _|_|_|_|_|_|_|_|n
 all_goals first|assumption|exact absurd h (nK.mpr (GQ 8 n))
def AN {n:Nat} (k:ck) (h:n<8):(jL n k).hd=n/\(jL n k).n7=k:=
 AM (P:=λn=>(jL n k).hd=n/\(jL n k).n7=k) ⟨rfl,rfl⟩ ⟨rfl,rfl⟩ ⟨rfl,rfl⟩ ⟨rfl,rfl⟩ ⟨rfl,rfl⟩ ⟨rfl,rfl⟩ ⟨rfl,rfl⟩ ⟨rfl,rfl⟩ h
def HM {n m:Nat} {k A:ck} (B:n<8) (hm:m<8) (h:jL n k=jL m A):n=m/\k=A:=by
 have a:=AN k B
 rw[h]at a
 have b:=AN A hm
 exact⟨a.1.symm.trans b.1,a.2.symm.trans b.2⟩
def HN:∀l i j,i<8^l->j<8^l->jM l i=jM l j->i=j:=by
 intro l
 induction l with
 |zero=>
  intro i j af A _
  exact(Nat.lt_one_iff.mp af).trans (Nat.lt_one_iff.mp A).symm
 |succ l B=>
  intro i j af A h
  unfold jM at h
  obtain⟨ae,ag⟩:=HM (Nat.mod_lt _ (by decide)) (Nat.mod_lt _ (by decide)) h
  rw[vN]at af A
  have:=B (i/8) (j/8) ((Nat.div_lt_iff_lt_mul (vO 7)).mpr af) ((Nat.div_lt_iff_lt_mul (vO 7)).mpr A) ag
  rw[<-Nat.div_add_mod i 8,ae,this,Nat.div_add_mod]
def HO {i j:Nat} (af:i<4096) (A:j<4096) (h:key i=key j):i=j:=HN 4 i j af A h
def HP (n:Nat) (k:ck) (h:n<7):g8 (jL n k)=jL (n+1) k:=
 AM (P:=λn=>n<7->g8 (jL n k)=jL (n+1) k) (λZ=>rfl) (λZ=>rfl) (λZ=>rfl) (λZ=>rfl) (λZ=>rfl) (λZ=>rfl) (λZ=>rfl) (λh=>absurd h (nL 7)) (nM h) h
def HQ:∀l i,i+1<8^l->g8 (jM l i)=jM l (i+1):=by
 intro l
 induction l with
 |zero=>
  intro i h
  simp at h
 |succ l B=>
  intro i h
  unfold jM
  rw[vN]at h
  by_cases e:i%8<7
  ·rw[HP _ _ e]
   have e1:i+1=i/8*8+(i%8+1):=congrArg (·+1) ((Nat.div_add_mod' i 8).symm)
   have ae:(i+1)%8=i%8+1:=(congrArg (·%8) e1).trans (wm (mQ e))
   have ag:(i+1)/8=i/8:=(congrArg (·/8) e1).trans (wl (mQ e))
   rw[ae,ag]
  ·have A:i%8=7:=Nat.le_antisymm (vM (Nat.mod_lt i (vO 7))) (Nat.le_of_not_lt e)
   have e1:i+1=(i/8+1)*8+0:=(congrArg (·+1) ((Nat.div_add_mod' i 8).symm.trans (congrArg (i/8*8+·) A))).trans (Nat.succ_mul (i/8) 8).symm
   have ae:(i+1)%8=0:=(congrArg (·%8) e1).trans (wm (vO 7))
   have ag:(i+1)/8=i/8+1:=(congrArg (·/8) e1).trans (wl (vO 7))
   rw[A,ae,ag]
   show ck.lb (g8 (jM l (i/8)))=ck.lb (jM l (i/8+1))
   rw[B (i/8) (Nat.lt_of_mul_lt_mul_right (a:=8) (mO (gz e1.symm) h))]
def HR {i:Nat} (h:i+1<4096):g8 (key i)=key (i+1):=HQ 4 i h
inductive cF where
 |eJ
 |h_ (b:Bool)
 |num (n:Int)
 |sym (c:Nat)
 |gi (c:Nat)
 |ft
 |l1 (t:cF)
 |l2 (t u:cF)
 |rng (a b:Int) (o:Bool)
inductive V where
 |none
 |bool (b:Bool)
 |int (c:Int)
 |sym (c:Int)
 |str (c:Nat)
 |own (i:Nat) (k:ck)
 |gnd (a:Nat)
 |any (k:Nat) (t:cF)
structure Lt where
 i:Nat->Int
 q:Nat->Nat->List (Nat×bY)->Prop
 r:Nat->cF->am->List (Nat×bY)->Prop
structure aX where
 n:Lt
 y:Int
 ay:Nat
 a:Nat->a7
 b:Nat->a7
 e:Nat->Nat
 a6:List (a7×bY)
structure aX.bN (p aD:aX):Prop where
 n:aD.n=p.n
 y:aD.y=p.y
 ay:p.ay<=aD.ay
 a:∀i,i<p.ay->aD.a i=p.a i
 b:∀i,i<p.ay->aD.b i=p.b i
 e:∀i,i<p.ay->aD.e i=p.e i
 a6:∀q∈p.a6,q∈aD.a6
def aX.bN.refl (p:aX):p.bN p:=⟨rfl,rfl,eh _,λZ Z=>rfl,λZ Z=>rfl,λZ Z=>rfl,λZ h=>h⟩
def aX.bN.trans {p q r:aX} (h:p.bN q) (k:q.bN r):p.bN r:=
 ⟨k.n.trans h.n,k.y.trans h.y,c5 h.ay k.ay,λi af=>(k.a i (cH af h.ay)).trans (h.a i af),λi af=>(k.b i (cH af h.ay)).trans (h.b i af),λi af=>(k.e i (cH af h.ay)).trans (h.e i af),λq A=>k.a6 q (h.a6 q A)⟩
def aE (p:aX):V->am->Prop
 |.none,v=>v=.none
 |.bool b,v=>v=.bool b
 |.int c,v=>∃t,v=.int c t
 |.sym c,v=>∃i t,v=.int i t/\∀k:Nat,(c=k->i=p.n.i k)/\(c=ei (k+1)->i≠k)
 |.str c,v=>∃s t,v=.str s t/\bf s=true/\aG s=c
 |.own i k,v=>i<p.ay/\k=key i/\v=.ref (p.a i)
 |.gnd a,v=>v=.ref a
 |.any k t,v=>(∃l,(∀q∈l,q∈p.a6)/\p.n.r k t v l)/\qP v=true/\(b2 10 k=true->∃a,v=.ref a)
def aE.ext {p aD:aX} (e:p.bN aD):∀{x:V} {v:am},aE p x v->aE aD x v:=by
 intro x v h
 cases x with
 |sym _=>obtain⟨i,t,h,k⟩:=h;exact⟨i,t,h,by rw[e.n];exact k⟩
 |own i _=>obtain⟨h,q,k⟩:=h;exact⟨cH h e.ay,q,by rw[k,e.a i h]⟩
 |any _ _=>obtain⟨⟨l,h,q⟩,z⟩:=h;exact⟨⟨l,λq A=>e.a6 q (h q A),by rw[e.n];exact q⟩,z⟩
 |_=>exact h
inductive O where
 |inst (cls:Nat) (ao:List (Nat×V))
 |dict (az:Nat) (es:List (Nat×V))
 |tdict (az:Nat) (es:List ((V×List V)×V))
 |list (xs:List V)
 |tuple (xs:List V)
 |box (n:Nat)
 |cell (v:Option V)
 |lit (v:V) (n:Nat)
 |tit (v:V) (n:Nat)
 |dit (v:V) (n m az:Nat)
 |dis (v:V)
 |dii (v:V) (n m az:Nat)
 |dvs (v:V)
 |dvi (v:V) (n m az:Nat)
 |enm (v:V) (n:Nat)
 |rng (a b:Int)
 |rit (a left:Int)
 |sit
 |trues (n:Nat)
 |dead
 |abs (k:Nat)
 |rinst (cls:Nat) (ao:List (Nat×V))
 |rlist (xs:List V)
inductive T where
 |nil
 |leaf (o:O)
 |node (fu bx cf eA fP gj gk gl:T)
def T.get (t:T):ck->Option O:=T.rec (motive:=λZ=>ck->Option O) (λZ=>hM)
 (λo k=>ck.rec (some o) (λZ Z=>hM) (λZ Z=>hM) (λZ Z=>hM) (λZ Z=>hM) (λZ Z=>hM) (λZ Z=>hM) (λZ Z=>hM) (λZ Z=>hM) k)
 (λZ Z Z Z Z Z Z Z A ae ag ax aS bA cw cM k=>ck.rec hM (λk Z=>A k) (λk Z=>ae k) (λk Z=>ag k) (λk Z=>ax k) (λk Z=>aS k) (λk Z=>bA k) (λk Z=>cw k) (λk Z=>cM k) k) t
def T.put (o:O) (k:ck):T->T:=ck.rec (motive:=λZ=>T->T) (λZ=>.leaf o)
 (λZ A t=>T.rec (.node (A .nil) .nil .nil .nil .nil .nil .nil .nil) (λZ=>(.node (A .nil) .nil .nil .nil .nil .nil .nil .nil)) (λfu bx cf eA fP gj gk gl Z Z Z Z Z Z Z Z=>(.node (A fu) bx cf eA fP gj gk gl)) t)
 (λZ A t=>T.rec (.node .nil (A .nil) .nil .nil .nil .nil .nil .nil) (λZ=>(.node .nil (A .nil) .nil .nil .nil .nil .nil .nil)) (λfu bx cf eA fP gj gk gl Z Z Z Z Z Z Z Z=>(.node fu (A bx) cf eA fP gj gk gl)) t)
 (λZ A t=>T.rec (.node .nil .nil (A .nil) .nil .nil .nil .nil .nil) (λZ=>(.node .nil .nil (A .nil) .nil .nil .nil .nil .nil)) (λfu bx cf eA fP gj gk gl Z Z Z Z Z Z Z Z=>(.node fu bx (A cf) eA fP gj gk gl)) t)
 (λZ A t=>T.rec (.node .nil .nil .nil (A .nil) .nil .nil .nil .nil) (λZ=>(.node .nil .nil .nil (A .nil) .nil .nil .nil .nil)) (λfu bx cf eA fP gj gk gl Z Z Z Z Z Z Z Z=>(.node fu bx cf (A eA) fP gj gk gl)) t)
 (λZ A t=>T.rec (.node .nil .nil .nil .nil (A .nil) .nil .nil .nil) (λZ=>(.node .nil .nil .nil .nil (A .nil) .nil .nil .nil)) (λfu bx cf eA fP gj gk gl Z Z Z Z Z Z Z Z=>(.node fu bx cf eA (A fP) gj gk gl)) t)
 (λZ A t=>T.rec (.node .nil .nil .nil .nil .nil (A .nil) .nil .nil) (λZ=>(.node .nil .nil .nil .nil .nil (A .nil) .nil .nil)) (λfu bx cf eA fP gj gk gl Z Z Z Z Z Z Z Z=>(.node fu bx cf eA fP (A gj) gk gl)) t)
 (λZ A t=>T.rec (.node .nil .nil .nil .nil .nil .nil (A .nil) .nil) (λZ=>(.node .nil .nil .nil .nil .nil .nil (A .nil) .nil)) (λfu bx cf eA fP gj gk gl Z Z Z Z Z Z Z Z=>(.node fu bx cf eA fP gj (A gk) gl)) t)
 (λZ A t=>T.rec (.node .nil .nil .nil .nil .nil .nil .nil (A .nil)) (λZ=>(.node .nil .nil .nil .nil .nil .nil .nil (A .nil))) (λfu bx cf eA fP gj gk gl Z Z Z Z Z Z Z Z=>(.node fu bx cf eA fP gj gk (A gl))) t) k
def T.nm (t:T):T:=T.rec (.node .nil .nil .nil .nil .nil .nil .nil .nil) (λZ=>.node .nil .nil .nil .nil .nil .nil .nil .nil) (λfu bx cf eA fP gj gk gl Z Z Z Z Z Z Z Z=>.node fu bx cf eA fP gj gk gl) t
def T.m1 (o:O) (k:ck) (h:k.len≠0) (t:T):T.put o k t.nm=T.put o k t:=by
 cases k
 case e=>exact absurd rfl h
 all_goals cases t<;>rfl
def T.m2 (k:ck) (h:k.len≠0) (t:T):t.nm.get k=t.get k:=by
 cases k
 case e=>exact absurd rfl h
 all_goals cases t<;>rfl
def T.a_ (t:T):∃fu bx cf eA fP gj gk gl,t.nm=.node fu bx cf eA fP gj gk gl:=by
 cases t<;>exact⟨_,_,_,_,_,_,_,_,rfl⟩
set_option tactic.hygienic true in
def T.HS (o:O) (k:ck):∀t:T,(T.put o k t).get k=some o:=by
 induction k
 case e=>exactλZ=>rfl
 all_goals
  rename_i k A
  intro t
  cases t<;>exact A _
set_option tactic.hygienic true in
def T.HT (o:O) (k:ck):∀(A:ck) (t:T),k.len=A.len->k≠A->(T.put o k t).get A=t.get A:=by
 induction k
 case e=>
  intro A t h B
  cases A<;>first|exact absurd rfl B|cases h
 all_goals
  rename_i k D
  intro A t h B
  have C:A.len≠0:=λz=>absurd (h.trans z) (o_ k.len)
  obtain⟨fu,bx,cf,eA,fP,gj,gk,gl,e⟩:=T.a_ t
  rw[<-T.m1 o _ (λz=>C (h.symm.trans z)) t,<-T.m2 A C t,e]
  clear C
  cases A<;>first|rfl|(rename_i A;exact D A _ (qO h) λz=>B (congrArg _ z))
def T.cd (o:O) (t:T) {i j:Nat} (af:i<4096) (B:j<4096):(T.put o (key i) t).get (key j)=if j=i then some o else t.get (key j):=by
 have A:(key i).len=(key j).len:=(wo 4 i).trans (wo 4 j).symm
 by_cases e:j=i
 clear af A
 ·subst e;rw[if_pos rfl];exact T.HS o _ t
 ·rw[if_neg e];exact T.HT o _ _ t A λq=>e (HO af B q).symm
inductive All2 {bd ca:Type} (R:bd->ca->Prop):List bd->List ca->Prop
 |nil:All2 R [] []
 |cons {a b l AO}:R a b->All2 R l AO->All2 R (a::l) (b::AO)
def All2.imp {bd ca:Type} {R S:bd->ca->Prop} (k:∀a b,R a b->S a b):∀{l A},All2 R l A->All2 S l A:=by
 intro l A h
 induction h with
 |nil=>
  exact .nil
 |cons h t B=>
  exact .cons (k _ _ h) B
@[elab_as_elim] theorem All2.ci {bd ca:Type} {R:bd->ca->Prop} {x:bd} {l:List bd} {A:List ca} {bu:List ca->Prop} (h:All2 R (x::l) A) (B:∀y k,R x y->All2 R l k->bu (y::k)):bu A:=by
 cases h
 exact B _ _ ‹_› ‹_›
def All2.len {bd ca:Type} {R:bd->ca->Prop}:∀{l A},All2 R l A->l.length=A.length:=by
 intro l A h
 induction h with
 |nil=>rfl
 |cons _ _ B=>exact congrArg (·+1) B
def All2.append {bd ca:Type} {R:bd->ca->Prop}:∀{l A k B},All2 R l A->All2 R k B->All2 R (l++k) (A++B):=by
 intro l A k B h q
 induction h with
 |nil=>
  exact q
 |cons h t C=>
  exact .cons h C
inductive n8 (c:Nat) (v:am):Prop
 |mk s t (ae:v=.str s t) (ag:bf s=true) (ax:aG s=c):n8 c v
def HU (w:cv) (e:cu):Prop:=∀s t,e.key=.str s t->e.hash=mR w s
def jN (w:cv) (p:aX) (f:Nat×V) (e:cu):Prop:=(n8 f.1 e.key/\HU w e)/\aE p f.2 e.val
abbrev cm (w:cv) (p:aX):List (Nat×V)->List cu->Prop:=All2 (jN w p)
def jN.ext {w:cv} {p aD:aX} (x:p.bN aD) {f:Nat×V} {e:cu} (h:jN w p f e):jN w aD f e:=⟨h.1,h.2.ext x⟩
def mixHash (w:cv):aI⊕Int->Int
 |.inl s=>mR w s
 |.inr i=>hashInt i
def HV (w:cv) (a2:List (aI⊕Int)):Int:=reduceHash (ge.Tuple.tupleHashOf (a2.map (mixHash w)))
def kr:V->aI⊕Int->Prop
 |.str c,.inl s=>bf s=true/\aG s=c
 |.int c,.inr i=>i=c
 |_,_=>False
def ks (w:cv) (p:aX) (f:(V×List V)×V) (e:cu):Prop:=(∃i k a a2,f.1.1=.own i k/\aE p f.1.1 (.ref a)/\e.key=.ref a/\All2 kr f.1.2 a2/\e.hash=HV w a2)/\aE p f.2 e.val
def ks.ext {w:cv} {p aD:aX} (x:p.bN aD) {f:(V×List V)×V} {e:cu} (h:ks w p f e):ks w aD f e:=
 ⟨h.1.imp λZ z=>z.imp λZ z=>z.imp λZ z=>z.imp λZ z=>⟨z.1,z.2.1.ext x,z.2.2⟩,h.2.ext x⟩
def dJ (ai:List am) (n:Nat):bY:={cls:=.type "list",data:=.seq ai.toArray n}
def jd (ai:List am) (n:Nat):bY:={cls:=.type "tuple",data:=.seq ai.toArray n}
def ti (l:a7) (n:Nat):bY:={cls:=.type "list_iterator",data:=.fields #[.ref l,.int n 0]}
def HW (d:a7) (i n az:Nat) (k v:am):bY:={cls:=.type "dict_itemiterator",dict:=none,data:=.fields #[.none,.bool false,.ref d,.int i 0,.int n 0,.int az 0,k,v],slots:=#[]}
def HX (d:a7):bY:={cls:=.type "dict_items",data:=.fields #[.ref d]}
def HY (d:a7):bY:={cls:=.type "dict_values",data:=.fields #[.ref d]}
def q3 (it:a7) (i:Int) (A:am):bY:={cls:=.type "enumerate",dict:=none,data:=.fields #[.none,.bool false,.ref it,ee i,.none,A],slots:=#[]}
def HZ (a b:Int) (t u v:Tok):bY:={cls:=.type "range",data:=.fields #[.int a t,.int b u,.int 1 v]}
def AP (x left:Int):bY:={cls:=.type "range_iterator",data:=.fields #[ee x,ee left,ee 1]}
abbrev bc:=List (a7×bY)
def jO (K:dn) (C c:Nat):Prop:=∀name,bf name=true->aG name=c->gf K (.ref C) name=some none/\takerIn K C name=some none
structure m3 (K:dn) (C:Nat):Prop where
 get:plainGet K C ""=true
 dict:vP K C=true
 over:plainOver K C=true
 set:gf K (.ref C) "__setattr__"=some (some (.builtin "object.__setattr__"))
def n9 (p:aX):V->Nat
 |.own i _=>p.e i
 |_=>0
def m4 {p aD:aX} (x:p.bN aD) {v:V} {a:a7} (h:aE p v (.ref a)):n9 aD v=n9 p v:=by
 cases v with
 |own i k=>exact x.e i h.1
 |_=>rfl
inductive AQ (K:dn) (w:cv) (p:aX) (aj:bc) (i:Nat) (C:Nat) (ao:List (Nat×V)):Prop
 |mk (ae:(m3 K C/\∀f∈ao,jO K C f.1)) (ag:(p.a i,pa C (p.b i))∈aj) es n (ax:(p.b i,dd es n)∈aj) (aS:cm w p ao es):AQ K w p aj i C ao
inductive AR (w:cv) (p:aX) (aj:bc) (i:Nat) (az:Nat) (ao:List (Nat×V)):Prop
 |mk (ae:(ao.map (·.1)).Nodup) es (ag:(p.a i,dd es (p.e i+az))∈aj) (ax:cm w p ao es):AR w p aj i az ao
inductive AS (w:cv) (p:aX) (aj:bc) (i:Nat) (az:Nat) (ao:List ((V×List V)×V)):Prop
 |mk es (ae:(p.a i,dd es (p.e i+az))∈aj) (ag:All2 (ks w p) ao es):AS w p aj i az ao
inductive AT (p:aX) (aj:bc) (i:Nat) (xs:List V):Prop
 |mk ai n (ae:(p.a i,dJ ai n)∈aj) (ag:All2 (aE p) xs ai):AT p aj i xs
inductive AU (p:aX) (aj:bc) (i:Nat) (xs:List V):Prop
 |mk ai n (ae:(p.a i,jd ai n)∈aj) (ag:All2 (aE p) xs ai):AU p aj i xs
inductive AV (p:aX) (aj:bc) (i:Nat) (c:Nat):Prop
 |mk x y t u n (ae:(p.a i,dJ [.int x t,.int y u] n)∈aj) (ag:0<=y/\y<=p.y+c):AV p aj i c
inductive AW (p:aX) (aj:bc) (i:Nat) (v:Option V):Prop
 |mk o x (ae:(p.a i,o)∈aj) (ag:o.data=.cell x) (ax:(match v with|none=>x=none|some v=>∃val,x=some val/\aE p v val)):AW p aj i v
inductive AX (p:aX) (aj:bc) (i:Nat) (v:V) (n:Nat):Prop
 |mk a o (ae:aE p v (.ref a)) (ag:(p.a i,o)∈aj) (ax:o.cls=.type "list_iterator"/\o.data=.fields #[.ref a,.int n 0]):AX p aj i v n
inductive AY (p:aX) (aj:bc) (i:Nat) (v:V) (n:Nat):Prop
 |mk a o (ae:aE p v (.ref a)) (ag:(p.a i,o)∈aj) (ax:o.cls=.type "tuple_iterator"/\o.data=.fields #[.ref a,.int n 0]):AY p aj i v n
inductive AZ (p:aX) (aj:bc) (i:Nat) (v:V) (n m az:Nat):Prop
 |mk a o (ae:aE p v (.ref a)) (ag:(p.a i,o)∈aj) (ax:o.cls=.type "dict_keyiterator"/\o.data=.fields #[.ref a,.int n 0,.int m 0,.int (n9 p v+az:Nat) 0]):AZ p aj i v n m az
inductive A0 (p:aX) (aj:bc) (i:Nat) (v:V) (n m az:Nat):Prop
 |mk a o (ae:aE p v (.ref a)) (ag:(p.a i,o)∈aj) (ax:o.cls=.type "dict_valueiterator"/\o.data=.fields #[.ref a,.int n 0,.int m 0,.int (n9 p v+az:Nat) 0]):A0 p aj i v n m az
inductive A1 (p:aX) (aj:bc) (i:Nat) (v:V) (n m az:Nat):Prop
 |mk a x y (ae:aE p v (.ref a)) (ag:(p.a i,HW a n m (n9 p v+az) x y)∈aj):A1 p aj i v n m az
inductive A2 (p:aX) (aj:bc) (i:Nat) (v:V):Prop
 |mk a (ae:aE p v (.ref a)) (ag:(p.a i,HX a)∈aj):A2 p aj i v
inductive A3 (p:aX) (aj:bc) (i:Nat) (v:V):Prop
 |mk a (ae:aE p v (.ref a)) (ag:(p.a i,HY a)∈aj):A3 p aj i v
inductive A4 (p:aX) (aj:bc) (i:Nat) (v:V) (n:Nat):Prop
 |mk a H0 (ae:aE p v (.ref a)) (ag:(p.a i,q3 a n H0)∈aj):A4 p aj i v n
inductive A5 (p:aX) (aj:bc) (i:Nat) (a b:Int):Prop
 |mk t u v (ae:(p.a i,HZ a b t u v)∈aj):A5 p aj i a b
inductive A6 (p:aX) (aj:bc) (i:Nat):Prop
 |mk t o (ae:(p.a i,o)∈aj) (ag:o.cls=.type "str_ascii_iterator"/\o.data=.fields #[.str (ec "") t,.int (0:Nat) 0]):A6 p aj i
inductive A7 (p:aX) (aj:bc) (i:Nat) (z:Nat):Prop
 |mk ai n (ae:(p.a i,dJ ai n)∈aj) (ag:(∀v∈ai,v=.bool true)/\ai.length<=1000*(p.y.toNat+1)+z):A7 p aj i z
inductive A8 (p:aX) (i:Nat) (k:Nat):Prop
 |mk l (ae:(∀q∈l,q∈p.a6)) (ag:p.n.q k (p.a i) l):A8 p i k
inductive A9 (K:dn) (w:cv) (p:aX) (i:Nat) (C:Nat) (ao:List (Nat×V)):Prop
 |mk (ae:(m3 K C/\∀f∈ao,jO K C f.1)) (ag:(p.a i,pa C (p.b i))∈p.a6) es n (ax:(p.b i,dd es n)∈p.a6) (aS:cm w p ao es):A9 K w p i C ao
inductive A_ (p:aX) (i:Nat) (xs:List V):Prop
 |mk ai n (ae:(p.a i,dJ ai n)∈p.a6) (ag:All2 (aE p) xs ai):A_ p i xs
def ch (K:dn) (w:cv) (p:aX) (aj:bc) (i:Nat):O->Prop
 |.inst C ao=>AQ K w p aj i C ao
 |.dict az ao=>AR w p aj i az ao
 |.tdict az ao=>AS w p aj i az ao
 |.list xs=>AT p aj i xs
 |.tuple xs=>AU p aj i xs
 |.box c=>AV p aj i c
 |.cell v=>AW p aj i v
 |.lit v n=>AX p aj i v n
 |.tit v n=>AY p aj i v n
 |.dit v n m az=>AZ p aj i v n m az
 |.dvi v n m az=>A0 p aj i v n m az
 |.dii v n m az=>A1 p aj i v n m az
 |.dis v=>A2 p aj i v
 |.dvs v=>A3 p aj i v
 |.enm v n=>A4 p aj i v n
 |.rng a b=>A5 p aj i a b
 |.rit a l=>(p.a i,AP a l)∈aj
 |.sit=>A6 p aj i
 |.trues z=>A7 p aj i z
 |.dead=>True
 |.abs k=>A8 p i k
 |.rinst C ao=>A9 K w p i C ao
 |.rlist xs=>A_ p i xs
def ch.ext {K:dn} {w:cv} {p aD:aX} (x:p.bN aD) {aj a3:bc} {i:Nat} {o:O} (af:i<p.ay) (hs:∀q∈aj,q.1=p.a i∨q.1=p.b i->q∈a3) (h:ch K w p aj i o):ch K w aD a3 i o:=by
 have A:∀{bU:bY},(p.a i,bU)∈aj->(aD.a i,bU)∈a3:=λ{bU} q=>by rw[x.a i af];exact hs _ q (.inl rfl)
 cases o with
 |inst C ao=>
  obtain⟨B,ae,es,n,ag,ax⟩:=h
  refine⟨B,by rw[x.b i af];exact A ae,es,n,by rw[x.b i af];exact hs _ ag (.inr rfl),ax.imp λZ Z=>jN.ext x⟩
 |dict az ao=>
  obtain⟨a_,es,ag,ax⟩:=h
  exact⟨a_,es,by rw[x.e i af];exact A ag,ax.imp λZ Z=>jN.ext x⟩
 |tdict az ao=>
  obtain⟨es,ag,ax⟩:=h
  exact⟨es,by rw[x.e i af];exact A ag,ax.imp λZ Z=>ks.ext x⟩
 |list xs=>
  obtain⟨ai,n,ag,ax⟩:=h
  exact⟨ai,n,A ag,ax.imp λZ Z=>aE.ext x⟩
 |tuple xs=>
  obtain⟨ai,n,ag,ax⟩:=h
  exact⟨ai,n,A ag,ax.imp λZ Z=>aE.ext x⟩
 |box c=>
  obtain⟨a,b,t,u,n,ag,ax⟩:=h
  exact⟨a,b,t,u,n,A ag,by rw[x.y];exact ax⟩
 |cell v=>
  obtain⟨o,y,ae,ag,ax⟩:=h
  refine⟨o,y,A ae,ag,?_⟩
  cases v with
  |none=>exact ax
  |some v=>obtain⟨val,e,r⟩:=ax;exact⟨val,e,r.ext x⟩
 |lit v n=>obtain⟨a,o,r,ae,ag⟩:=h;exact⟨a,o,r.ext x,A ae,ag⟩
 |tit v n=>obtain⟨a,o,r,ae,ag⟩:=h;exact⟨a,o,r.ext x,A ae,ag⟩
 |dit v n m az=>obtain⟨a,o,r,ae,ag⟩:=h;exact⟨a,o,r.ext x,A ae,by rw[m4 x r];exact ag⟩
 |dvi v n m az=>obtain⟨a,o,r,ae,ag⟩:=h;exact⟨a,o,r.ext x,A ae,by rw[m4 x r];exact ag⟩
 |dii v n m az=>obtain⟨a,y,z,r,ae⟩:=h;exact⟨a,y,z,r.ext x,by rw[m4 x r];exact A ae⟩
 |dis v=>obtain⟨a,r,ae⟩:=h;exact⟨a,r.ext x,A ae⟩
 |dvs v=>obtain⟨a,r,ae⟩:=h;exact⟨a,r.ext x,A ae⟩
 |enm v n=>obtain⟨a,y,r,ae⟩:=h;exact⟨a,y,r.ext x,A ae⟩
 |rng a b=>obtain⟨t,u,v,ae⟩:=h;exact⟨t,u,v,A ae⟩
 |rit a l=>exact A h
 |sit=>obtain⟨t,o,ae,ag⟩:=h;exact⟨t,o,A ae,ag⟩
 |trues z=>obtain⟨ai,n,ae,ag⟩:=h;exact⟨ai,n,A ae,by rw[x.y];exact ag⟩
 |dead=>exact trivial
 |abs k=>obtain⟨l,ae,ag⟩:=h;exact⟨l,λq D=>x.a6 q (ae q D),by rw[x.n,x.a i af];exact ag⟩
 |rinst C ao=>
  obtain⟨B,ae,es,n,ag,ax⟩:=h
  exact⟨B,by rw[x.a i af,x.b i af];exact x.a6 _ ae,es,n,by rw[x.b i af];exact x.a6 _ ag,ax.imp λZ Z=>jN.ext x⟩
 |rlist xs=>
  obtain⟨ai,n,ag,ax⟩:=h
  exact⟨ai,n,by rw[x.a i af];exact x.a6 _ ag,ax.imp λZ Z=>aE.ext x⟩
def O.live:O->Bool
 |.dead=>false
 |.abs _=>false
 |.rinst _ _=>false
 |.rlist _=>false
 |_=>true
def ch.q4 {K:dn} {w:cv} {p aD:aX} {aj a3:bc} {i:Nat} {o:O} (A:o.live=false) (x:p.bN aD) (af:i<p.ay) (h:ch K w p aj i o):ch K w aD a3 i o:=by
 cases o with
 |dead=>trivial
 |abs k=>obtain⟨l,ae,ag⟩:=h;exact⟨l,λq B=>x.a6 q (ae q B),by rw[x.n,x.a i af];exact ag⟩
 |rinst C ao=>
  obtain⟨D,ae,es,n,ag,ax⟩:=h
  exact⟨D,by rw[x.a i af,x.b i af];exact x.a6 _ ae,es,n,by rw[x.b i af];exact x.a6 _ ag,ax.imp λZ Z=>jN.ext x⟩
 |rlist xs=>
  obtain⟨ai,n,ag,ax⟩:=h
  exact⟨ai,n,by rw[x.a i af];exact x.a6 _ ag,ax.imp λZ Z=>aE.ext x⟩
 |_=>cases A
inductive bG (t:T) (i:Nat):Prop
 |mk o (ae:t.get (key i)=some o) (ag:o.live=true):bG t i
structure aQ (K:dn) (w:cv) (p:aX) (t:T) (aj:bc):Prop where
 a_:(aj.map (·.1)).Nodup
 ent:∀i o,i<p.ay->t.get (key i)=some o->ch K w p aj i o
 aa:∀i j,i<p.ay->j<p.ay->bG t i->bG t j->p.a i=p.a j->i=j
 dp:∀i j,i<p.ay->j<p.ay->bG t i->bG t j->p.b i=p.b j->i=j
 cG:∀i j,i<p.ay->j<p.ay->bG t i->bG t j->i≠j->p.a i≠p.b j
 mem:∀i,i<p.ay->bG t i->(∃o,(p.a i,o)∈aj)/\∃o,(p.b i,o)∈aj
 small:p.ay<=4096
 a6:∀q∈p.a6,q∈aj
 eB:∀i,i<p.ay->bG t i->∀q∈p.a6,q.1≠p.a i/\q.1≠p.b i
def aQ.wp {K:dn} {w:cv} {p:aX} {t:T} {aj:bc} (H:aQ K w p t aj) {i C:Nat} {ao:List (Nat×V)} (af:i<p.ay) (h:t.get (key i)=some (.inst C ao)∨t.get (key i)=some (.rinst C ao)):ch K w p aj i (.inst C ao):=by
 rcases h with h|h
 ·exact H.ent i _ af h
 ·obtain⟨A,ae,es,n,ag,ax⟩:=H.ent i _ af h
  exact⟨A,H.a6 _ ae,es,n,H.a6 _ ag,ax⟩
def aQ.H1 {K:dn} {w:cv} {p:aX} {t:T} {aj:bc} (H:aQ K w p t aj) {i:Nat} {xs:List V} (af:i<p.ay) (h:t.get (key i)=some (.list xs)∨t.get (key i)=some (.rlist xs)):ch K w p aj i (.list xs):=by
 rcases h with h|h
 ·exact H.ent i _ af h
 ·obtain⟨ai,n,ag,ax⟩:=H.ent i _ af h
  exact⟨ai,n,H.a6 _ ag,ax⟩
def tj {ar:Prop} {aj:bc} {x:a7} {o:bY} (a_:(aj.map (·.1)).Nodup) (h:(x,o)∈aj) (B:∀pre post,aj=pre++(x,o)::post->(∀q∈pre,q.1≠x)->(∀q∈post,q.1≠x)->ar):ar:=by
 obtain⟨pre,post,rfl⟩:=List.append_of_mem h,h
 refine B pre post rfl (λq A e=>?_) (λq A e=>?_)
 ·rw[nN,pb]at a_
  exact a_.2.2 q.1 (kg A) x (by simp) e
 ·rw[nN,pb]at a_
  have:=a_.2.1
  rw[d4,g7]at this
  have hm:q.1∈post.map (·.1):=kg (f:=lN) A
  rw[e]at hm;exact this.1 hm
def bG.put {t:T} {p:aX} {i j:Nat} {v:O} (A:p.ay<=4096) (af:i<p.ay) (B:j<p.ay) (li:bG t i) (h:bG (T.put v (key i) t) j):bG t j:=by
 obtain⟨o,ae,ag⟩:=h
 rw[T.cd v t (cH af A) (cH B A)]at ae
 clear af
 by_cases e:j=i
 clear ae
 ·subst e;exact li
 ·rw[if_neg e]at ae;exact⟨o,ae,ag⟩
def aQ.turn {K:dn} {w:cv} {p:aX} {t:T} {pre post:bc} {x:a7} {o bC:bY} {i:Nat} {v:O} (H:aQ K w p t (pre++(x,o)::post)) (af:i<p.ay) (li:bG t i) (J:x=p.a i∨x=p.b i) (he:ch K w p (pre++(x,bC)::post) i v):
  aQ K w p (T.put v (key i) t) (pre++(x,bC)::post):=by
 have M:i<4096:=cH af H.small
 have ek:∀a,(∃q,(a,q)∈pre++(x,o)::post)->∃q,(a,q)∈pre++(x,bC)::post:=λa Q=>by
  obtain⟨q,B⟩:=Q
  rcases gA.mp B with h|h
  ·exact⟨q,gS _ h⟩
  clear B
  ·rcases bJ.mp h with h|h
   ·cases h;exact⟨bC,dD _ (.head _)⟩
   ·exact⟨q,dD _ (.tail _ h)⟩
 have L:∀q∈pre++(x,o)::post,q.1≠x->q∈pre++(x,bC)::post:=λq B R=>by
  rcases gA.mp B with h|h
  ·exact gS _ h
  clear B
  ·rcases bJ.mp h with rfl|h
   ·exact absurd rfl R
   ·exact dD _ (.tail _ h)
 have lv:∀j,j<p.ay->bG (T.put v (key i) t) j->bG t j:=λj A h=>bG.put H.small af A li h
 refine⟨by have:=H.a_;simpa using this,λj w C A=>?_,λa b D E F G=>H.aa a b D E (lv a D F) (lv b E G),λa b D E F G=>H.dp a b D E (lv a D F) (lv b E G),λa b D E F G=>H.cG a b D E (lv a D F) (lv b E G),
  λj A l=>⟨ek _ (H.mem j A (lv j A l)).1,ek _ (H.mem j A (lv j A l)).2⟩,H.small,λq B=>L q (H.a6 q B) (λe=>by
   clear he ek L
   have:=H.eB i af li q B
   clear H
   rcases J with rfl|rfl
   ·exact this.1 e
   ·exact this.2 e),λj A l=>H.eB j A (lv j A l)⟩
 clear ek L lv
 rw[T.cd v t M (cH C H.small)]at A
 clear M
 by_cases e:j=i
 clear af li J
 ·subst e;rw[if_pos rfl]at A;cases A;exact he
 clear he
 ·rw[if_neg e]at A
  cases N:w.live with
  |false=>exact ch.q4 N (.refl p) C (H.ent j w C A)
  |true=>
  have I:bG t j:=⟨w,A,N⟩
  refine ch.ext (aX.bN.refl p) C (λq B P=>?_) (H.ent j w C A)
  rcases gA.mp B with h|h
  ·exact gS _ h
  clear B
  ·rcases bJ.mp h with rfl|h
   clear h
   ·exfalso
    rcases J with rfl|rfl
    ·rcases P with q|q
     ·exact e (H.aa j i C af I li q.symm)
     ·exact H.cG i j af C li I (λz=>e z.symm) q
    ·rcases P with q|q
     ·exact H.cG j i C af I li e q.symm
     ·exact e (H.dp j i C af I li q.symm)
   ·exact dD _ (.tail _ h)
def aQ.kill {K:dn} {w:cv} {p:aX} {t:T} {pre post:bc} {x:a7} {o:bY} {i:Nat} (H:aQ K w p t (pre++(x,o)::post)) (af:i<p.ay) (li:bG t i) (F:x=p.a i):aQ K w p (T.put .dead (key i) t) (pre++post):=by
 have J:i<4096:=cH af H.small
 have lv:∀j,j<p.ay->bG (T.put .dead (key i) t) j->bG t j/\j≠i:=λj A h=>⟨bG.put H.small af A li h,λe=>by
  clear af li F
  subst e
  obtain⟨w,ae,ag⟩:=h
  rw[T.cd .dead t J J,if_pos rfl]at ae
  cases ae;cases ag⟩
 have O:∀q∈pre++(x,o)::post,q.1≠x->q∈pre++post:=λq B L=>by
  rcases gA.mp B with h|h
  ·exact gS _ h
  clear B
  ·rcases bJ.mp h with rfl|h
   ·exact absurd rfl L
   ·exact dD _ h
 have ek:∀a,a≠x->(∃q,(a,q)∈pre++(x,o)::post)->∃q,(a,q)∈pre++post:=λa L P=>by
  obtain⟨q,B⟩:=P
  rcases gA.mp B with h|h
  ·exact⟨q,gS _ h⟩
  clear B
  ·rcases bJ.mp h with h|h
   ·cases h;exact absurd rfl L
   ·exact⟨q,dD _ h⟩
 refine⟨?_,λj w E A=>?_,λa b C D G I=>H.aa a b C D (lv a C G).1 (lv b D I).1,λa b C D G I=>H.dp a b C D (lv a C G).1 (lv b D I).1,λa b C D G I=>H.cG a b C D (lv a C G).1 (lv b D I).1,
  λj A l=>⟨ek _ (λe=>(lv j A l).2 (H.aa j i A af (lv j A l).1 li (e.trans F))) (H.mem j A (lv j A l).1).1,ek _ (λe=>H.cG i j af A li (lv j A l).1 (λz=>(lv j A l).2 z.symm) (F.symm.trans e.symm)) (H.mem j A (lv j A l).1).2⟩,H.small,λq B=>O q (H.a6 q B) (λe=>(H.eB i af li q B).1 (e.trans F)),λj A l=>H.eB j A (lv j A l).1⟩
 ·have:=H.a_
  rw[nN,d4]at this
  rw[nN]
  exact this.sublist (List.Sublist.append (List.Sublist.refl _) (List.sublist_cons_self _ _))
 ·rw[T.cd .dead t J (cH E H.small)]at A
  by_cases e:j=i
  ·rw[if_pos e]at A;cases A;exact trivial
  ·rw[if_neg e]at A
   cases M:w.live with
   |false=>exact ch.q4 M (.refl p) E (H.ent j w E A)
   |true=>
   have N:bG t j:=⟨w,A,M⟩
   refine ch.ext (aX.bN.refl p) E (λq B Q=>?_) (H.ent j w E A)
   rcases gA.mp B with h|h
   ·exact gS _ h
   clear B
   ·rcases bJ.mp h with rfl|h
    ·exfalso
     rcases Q with q|q
     ·exact e (H.aa j i E af N li (q.symm.trans F))
     ·exact H.cG i j af E li N (λz=>e z.symm) (F.symm.trans q)
    ·exact dD _ h
def aX.da (p:aX) (x y:a7) (z:Nat):aX:=⟨p.n,p.y,p.ay+1,λi=>if i=p.ay then x else p.a i,λi=>if i=p.ay then y else p.b i,λi=>if i=p.ay then z else p.e i,p.a6⟩
abbrev aX.more (p:aX) (x y:a7):aX:=p.da x y 0
def aX.kt (p:aX) (x y:a7) (z:Nat):p.bN (p.da x y z):=
 ⟨rfl,rfl,nO _,λi af=>by show(if i=p.ay then x else p.a i)=p.a i;rw[if_neg (dS af)],λi af=>by show(if i=p.ay then y else p.b i)=p.b i;rw[if_neg (dS af)],λi af=>by show(if i=p.ay then z else p.e i)=p.e i;rw[if_neg (dS af)],λZ h=>h⟩
def aX.eZ (p:aX) (x y:a7):p.bN (p.more x y):=p.kt x y 0
def aQ.more {K:dn} {w:cv} {p:aX} {t:T} {aj new:bc} {x y:a7} {z:Nat} {v:O} (H:aQ K w p t aj) (hs:p.ay<4096) (a_:((new++aj).map (·.1)).Nodup) (hm:(∃o,(x,o)∈new++aj)/\∃o,(y,o)∈new++aj)
  (G:∀i,i<p.ay->bG t i->p.a i≠x/\p.b i≠x) (I:∀i,i<p.ay->bG t i->p.a i≠y/\p.b i≠y) (fn:∀q∈p.a6,q.1≠x/\q.1≠y) (he:ch K w (p.da x y z) (new++aj) p.ay v):aQ K w (p.da x y z) (T.put v (key p.ay) t) (new++aj):=by
 have D:(p.da x y z).a p.ay=x:=if_pos rfl
 have F:(p.da x y z).b p.ay=y:=if_pos rfl
 have E:=p.kt x y z
 have cs:∀i,i<(p.da x y z).ay->i=p.ay∨i<p.ay:=λi af=>by have:i<p.ay+1:=af;lia
 have lv:∀i,i<p.ay->bG (T.put v (key p.ay) t) i->bG t i:=λi af L=>by
  obtain⟨o,ae,ag⟩:=L
  rw[T.cd v t hs (mS af hs),if_neg (dS af)]at ae
  exact⟨o,ae,ag⟩
 refine⟨a_,λj w M A=>?_,λi j af A li B e=>?_,λi j af A li B e=>?_,λi j af A li B J e=>?_,λi af li=>?_,hs,λq C=>dD _ (H.a6 q C),λi af li q C=>?_⟩
 ·rcases cs j M with rfl|h
  ·rw[T.cd v t hs hs,if_pos rfl]at A;cases A;exact he
  ·rw[T.cd v t hs (mS h hs),if_neg (dS h)]at A
   exact ch.ext E h (λq C Z=>dD _ C) (H.ent j w h A)
 ·rcases cs i af with rfl|h<;>rcases cs j A with rfl|k
  ·rfl
  ·rw[D,E.a j k]at e;exact absurd e.symm (G j k (lv j k B)).1
  ·rw[D,E.a i h]at e;exact absurd e (G i h (lv i h li)).1
  ·rw[E.a i h,E.a j k]at e;exact H.aa i j h k (lv i h li) (lv j k B) e
 ·rcases cs i af with rfl|h<;>rcases cs j A with rfl|k
  ·rfl
  ·rw[F,E.b j k]at e;exact absurd e.symm (I j k (lv j k B)).2
  ·rw[F,E.b i h]at e;exact absurd e (I i h (lv i h li)).2
  ·rw[E.b i h,E.b j k]at e;exact H.dp i j h k (lv i h li) (lv j k B) e
 ·rcases cs i af with rfl|h<;>rcases cs j A with rfl|k
  ·exact J rfl
  ·rw[D,E.b j k]at e;exact(G j k (lv j k B)).2 e.symm
  ·rw[F,E.a i h]at e;exact(I i h (lv i h li)).1 e
  ·rw[E.a i h,E.b j k]at e;exact H.cG i j h k (lv i h li) (lv j k B) J e
 ·rcases cs i af with rfl|h
  ·rw[D,F];exact hm
  ·rw[E.a i h,E.b i h]
   obtain⟨⟨o,N⟩,bC,P⟩:=H.mem i h (lv i h li)
   exact⟨⟨o,dD _ N⟩,bC,dD _ P⟩
 ·rcases cs i af with rfl|h
  ·rw[D,F];exact fn q C
  ·rw[E.a i h,E.b i h];exact H.eB i h (lv i h li) q C
def lk (l:List (Nat×V)) (x:Nat):Option V:=bW hM (λf Z A=>pc (λa b=>bk A (some b) (aU a x)) f) l
def up (l:List (Nat×V)) (x:Nat) (v:V):List (Nat×V):=bW [(x,v)] (λf l A=>pc (λa b=>bk ((a,b)::A) ((a,v)::l) (aU a x)) f) l
def n_ (x:Nat):lk [] x=hM:=rfl
def gE (f:Nat×V) (l:List (Nat×V)) (x:Nat):lk (f::l) x=match aU f.1 x with
  |true=>some f.2
  |false=>lk l x:=by
 obtain⟨a,b⟩:=f
 show bk (motive:=λZ=>Option V) (lk l x) (some b) (aU a x)=_
 cases aU a x<;>rfl
def wq (x:Nat) (v:V):up [] x v=[(x,v)]:=rfl
def q5 (f:Nat×V) (l:List (Nat×V)) (x:Nat) (v:V):up (f::l) x v=match aU f.1 x with
  |true=>(f.1,v)::l
  |false=>f::up l x v:=by
 obtain⟨a,b⟩:=f
 show bk (motive:=λZ=>List (Nat×V)) ((a,b)::up l x v) ((a,v)::l) (aU a x)=_
 cases aU a x<;>rfl
variable {w:cv}
def n8.isStr {c:Nat} {k:am} {name:aI} (h:n8 c k) (A:bf name=true):k.isStr name=aU c (aG name):=by
 obtain⟨s,t,rfl,k8,rfl⟩:=h
 show(s==name)=_
 rw[d6]
 by_cases e:s=name
 clear A
 ·subst e;simp
 ·have:¬aG s=aG name:=λq=>e (gW k8 A q)
  simp[e,this]
def n8.refKey {c:Nat} {e:cu} (h:n8 c e.key):e.refKey=false:=by
 obtain⟨s,t,k,k8,rfl⟩:=h
 unfold cu.refKey
 rw[k]
def Ba {p:aX} {name:aI} (B:bf name=true):∀{ao:List (Nat×V)} {es:List cu},cm w p ao es->∀{v:V},lk ao (aG name)=some v->∃e,es.find? (·.key.isStr name)=some e/\aE p v e.val:=by
 intro ao es h
 induction h with
 |nil=>
  intro v q
  cases q
 |@cons f e l m h t C=>
  intro v q
  rw[gE]at q
  rw[vQ,h.1.1.isStr B]
  cases A:aU f.1 (aG name)with
  |true=>rw[A]at q;cases q;exact⟨e,rfl,h.2⟩
  |false=>rw[A]at q;exact C q
def Bb {p:aX} {name:aI} (B:bf name=true):∀{ao:List (Nat×V)} {es:List cu},cm w p ao es->lk ao (aG name)=hM->es.find? (·.key.isStr name)=none:=by
 intro ao es h
 induction h with
 |nil=>
  intro _
  exact rfl
 |@cons f e l m h t C=>
  intro q
  rw[gE]at q
  rw[vQ,h.1.1.isStr B]
  cases A:aU f.1 (aG name)with
  |true=>rw[A]at q;cases q
  |false=>rw[A]at q;exact C q
def H2 {p:aX}:∀{ao:List (Nat×V)} {es:List cu},cm w p ao es->es.any (·.refKey)=false:=by
 intro ao es h
 induction h with
 |nil=>
  exact rfl
 |cons h t A=>
  rw[GR,h.1.1.refKey,A];rfl
def Bc {ar:Prop} {p:aX} {name:aI} (A:bf name=true) {ao:List (Nat×V)} {es:List cu} (h:cm w p ao es) {v:V} (q:lk ao (aG name)=some v) (B:∀val,vR name es=some (some val)->aE p v val->ar):ar:=by
 obtain⟨e,he,C⟩:=Ba A h q
 exact B e.val (by unfold vR;rw[he]) C
def Bd {p:aX} {name:aI} (A:bf name=true) {ao:List (Nat×V)} {es:List cu} (h:cm w p ao es) (q:lk ao (aG name)=hM):vR name es=some hM:=by
 unfold vR;rw[Bb A h q]
 show(if es.any (·.refKey)then none else some none)=_
 rw[H2 h];rfl
def H3 {p:aX} {name:aI} (A:bf name=true) {ao:List (Nat×V)} {es:List cu} (h:cm w p ao es):(vR name es).isSome=true:=by
 cases q:lk ao (aG name)with
 |none=>rw[Bd A h q];rfl
 |some v=>obtain⟨_,e,_⟩:=Bc A h q;rw[e];rfl
def Be {p:aX} {name:aI} (A:bf name=true) {v:V} {val:am} (B:aE p v val) {m5:Int} (cj:m5=mR w name) (bo:Tok):∀{ao:List (Nat×V)} {es:List cu},cm w p ao es->cm w p (up ao (aG name) v) (putL name m5 (.str name bo) val es):=by
 intro ao es h
 induction h with
 |nil=>
  exact .cons ⟨⟨⟨name,bo,rfl,A,rfl⟩,(λs t e=>by cases e;exact cj)⟩,B⟩ .nil
 |@cons f e l m h t C=>
  rw[q5];unfold putL
  rw[h.1.1.isStr A]
  cases D:aU f.1 (aG name)with
  |true=>exact .cons ⟨h.1,B⟩ t
  |false=>exact .cons h C
def md {c:Nat} {v:V}:∀{ao:List (Nat×V)},lk ao c=some v->(c,v)∈ao
 |[],h=>nomatch h
 |f::l,h=>by
  rw[gE]at h
  rw[d6]at h
  by_cases e:f.1=c
  ·rw[decide_eq_true e]at h;cases h;subst e;exact .head _
  ·rw[decide_eq_false e]at h;exact .tail _ (md h)
def H4 {c:Nat} {v:V}:∀{ao:List (Nat×V)} {g:Nat×V},g∈up ao c v->(∃u,(g.1,u)∈ao)∨g.1=c:=by
 intro ao
 induction ao with
 |nil=>
  intro g h
  rw[wq]at h
  cases h with
  |head=>exact .inr rfl
  |tail _ h=>cases h
 |cons f l B=>
  intro g h
  rw[q5]at h
  cases A:aU f.1 c with
  |true=>
   rw[A]at h
   cases h with
   |head=>exact .inl ⟨f.2,.head _⟩
   |tail _ h=>exact .inl ⟨g.2,.tail _ h⟩
  |false=>
   rw[A]at h
   cases h with
   |head=>exact .inl ⟨f.2,.head _⟩
   |tail _ h=>exact(B h).imp (λ⟨u,q⟩=>⟨u,.tail _ q⟩) id
def Bf (x:Nat) (v:V):∀ao:List (Nat×V),(up ao x v).length<=ao.length+1
 |[]=>eh _
 |f::l=>by
  rw[q5]
  cases aU f.1 x with
  |true=>exact nO _
  |false=>exact iz (Bf x v l)
def Bg {d:a7} {o bC:bY}:∀{pre post:bc},(∀q∈pre,q.1≠d)->(∀q∈post,q.1≠d)->Upd d o bC (pre++(d,o)::post) (pre++(d,bC)::post)
 |[],_,_,ag=>.head ag
 |p::pre,_,ae,ag=>.tail (ae p (.head _)) (Bg (λq A=>ae q (.tail _ A)) ag)
def aE.handed {p:aX} {v:V} {val:am} (h:aE p v val):qP val=true:=by
 cases v with
 |int c=>obtain⟨t,rfl⟩:=h;rfl
 |sym c=>obtain⟨_,t,rfl,_⟩:=h;rfl
 |str c=>obtain⟨s,t,rfl,_⟩:=h;rfl
 |own i k=>obtain⟨_,_,rfl⟩:=h;rfl
 |none=>cases h;rfl
 |bool b=>cases h;rfl
 |gnd a=>cases h;rfl
 |any k t=>exact h.2.1
section
variable {prog:ew} {A:hN} {E:am->a9->Prop} {s:a9} {K:dn} {aC:bE} {L:a7} {m:aI->Option am} {p:aX} {t:T} {aj:bc} {i C:Nat} {aB:ck} {ao:List (Nat×V)} {name:aI} {v:V} {x:a7} {val:am}
def wr {G:Bool} {Q:am->a9->Prop} (F:Fr aC L s.heap m) (ak:News aC L s.heap aj) (H:aQ K w p t aj) (X:K.In aC) (af:aE p (.own i aB) (.ref x)) (k8:t.get (key i)=some (.inst C ao)∨t.get (key i)=some (.rinst C ao)) (B:bf name=true)
  (D:lk ao (aG name)=some v)
  (h:∀val,aE p v val->Q val {s with toks:=s.toks+1}):aO (aR prog w) A (sK (.ref x) name G) Q E s:=by
 obtain⟨af,-,e⟩:=af
 cases e
 obtain⟨⟨c,gF⟩,ae,es,n,ag,ax⟩:=H.wp af k8
 obtain⟨val,aK,aW⟩:=Bc B ax D
 exact get_own F X (zP ak ae ag) c.get c.dict (gF _ (md D) name B rfl).1 rfl aK aW.handed (h val aW)
def H5 {Q:Unit->a9->Prop} (F:Fr aC L s.heap m) (ak:News aC L s.heap aj) (H:aQ K w p t aj) (X:K.In aC) (af:aE p (.own i aB) (.ref x)) (k8:t.get (key i)=some (.inst C ao)) (B:bf name=true)
  (D:jO K C (aG name)) (N:ao.length<=900) (I:aE p v val)
  (h:∀av a3,Fr aC L av m->News aC L av a3->aQ K w p (T.put (.inst C (up ao (aG name) v)) (key i) t) a3->Q () {s with heap:=av,toks:=s.toks+2}):
  aO (aR prog w) A (setAttr (.ref x) name val) Q E s:=by
 obtain⟨af,-,e⟩:=af
 cases e
 obtain⟨⟨c,gF⟩,ae,es,n,ag,ax⟩:=H.ent i _ af k8
 obtain⟨pre,post,rfl,cr,cx⟩:=tj H.a_ ag
 have G:=Be (w:=w) B I (m5:=PyData.keyHash w.params name) rfl (s.toks+1) ax
 refine set_dict F X ak (zP ak ae ag) rfl c.set c.over (D name B rfl).2 c.dict (H3 B ax) rfl (Bg cr cx) ?_ λav J M=>h av _ J M ?_
 ·rw[<-G.len];have:=Bf (aG name) v ao;lia
 ·refine H.turn af ⟨_,k8,rfl⟩ (.inr rfl) ⟨⟨c,λf ah=>?_⟩,?_,_,_,dD _ (.head _),G⟩
  ·rcases H4 ah with⟨u,q⟩|q
   ·exact gF (f.1,u) q
   ·rw[q];exact D
  ·rcases gA.mp ae with q|q
   ·exact gS _ q
   ·rcases bJ.mp q with q|q
    ·have:=congrArg (λz:a7×bY=>z.2.cls) q;cases this
    ·exact dD _ (.tail _ q)
end
section
set_option backward.match.sparseCases true
structure aA where
 t:T
 ay:Nat
 bz:ck
abbrev Loc:=List (Nat×V)
inductive Fl where
 |next|brk|cont
 |ret (v:V)
abbrev aY:=V->aA->Bool
abbrev jP:=Bool->aA->Bool
abbrev q6:=List V->aA->Bool
abbrev dy:=Fl->aA->Loc->Bool
abbrev b5:=Nat->List V->aA->aY->(V->aA->Bool)->Bool
structure ef where
 cl:b5
 x:V->aA->Bool
abbrev aT:=aA->Loc->aY->ef->Bool
abbrev c6:=aA->Loc->jP->ef->Bool
abbrev bV:=aA->Loc->dy->ef->Bool
structure b4 where
 prog:ew
 w:cv
 K:dn
 os:d3
 base:bE
 pr:ew
 loose:List aI
 f1:aI->Option am
 ku:aI->Option am
 n:Lt
 y:Int
structure bL where
 sc:bB
 env:cI
 L:a7
 aC:bE
 ao:List cI
 A:hN
 d:Nat
 b:Nat
def q7 (c:b4) (f:bL):Prop:=∀(s:a9) (m:aI->Option am) (aj:bc) (R:kh->a9->Prop),Fr f.aC f.L s.heap m->News f.aC f.L s.heap aj->
 Fr f.aC f.L (fN s.heap (aj.map (·.1))) m/\fp f.A c.base f.ao (fN s.heap (aj.map (·.1)))/\f.aC.StaysIn (fN s.heap (aj.map (·.1)))/\
  ∀v aq,LeaveK f.aC f.L m (fN s.heap (aj.map (·.1))) R v aq->R (.ok (.ret v)) aq
def hx (sc:bB) (env:cI):Prop:=∀x,match sc.names.lookup x with
 |some .local=>env.kindOf x=some .local
 |some .cell=>env.kindOf x=some .cell
 |some .free=>env.kindOf x=some .cell∨env.kindOf x=some .free
 |some .globalImplicit=>env.kindOf x=some .globalImplicit
 |_=>True
structure aZ (c:b4) (f:bL):Prop where
 X:c.K.In f.aC
 T:pd c.pr c.loose c.f1 c.ku f.aC
 iH:q7 c f
 depth:f.A.depth<=500+f.d
 units:f.A.units<=2000+10*f.d
 eC:f.d<=300
 dp:f.b<=300
 cj:f.A.handled=none
 em:hx f.sc f.env
 kind:f.env.scope.kind=.function
 locals:f.env.locals=f.L
 globals:f.env.globals=iX
 builtins:f.env.builtins=vS
 iI:f.sc.names.lookup (ec "__debug__")=none
 iJ:f.sc.names.lookup (ec "__classdict__")=none
 lc:∃o,f.aC.get? iY=some o
 kv:c.y<=1000
 me:∀x,f.sc.names.lookup x=some .cell∨f.sc.names.lookup x=some .free->∃a,f.env.cells.lookup x=some a
def m6 {c:b4} {f:bL} (ah:aZ c f):f.A.units+1+45<hO:=
 mO (qL (qL (c5 ah.units (lL (vL 10 ah.eC) 2000)) 1) 45) (nlt rfl)
def db (f:bL) (p:aX) (loc:Loc) (m:aI->Option am):Prop:=∀x v,bf x=true->lk loc (aG x)=some v->
 (f.sc.names.lookup x=some .local/\∃val,m x=some val/\aE p v val)∨
 ((f.sc.names.lookup x=some .cell∨f.sc.names.lookup x=some .free)/\∃i k a,v=.own i k/\aE p v (.ref a)/\f.env.cells.lookup x=some a)
def db.ext {f:bL} {p aD:aX} (e:p.bN aD) {loc:Loc} {m:aI->Option am} (h:db f p loc m):db f aD loc m:=λx v A B=>by
 rcases h x v A B with⟨c,val,a,b⟩|⟨c,i,k,a,e1,r,q⟩
 ·exact .inl ⟨c,val,a,b.ext e⟩
 ·exact .inr ⟨c,i,k,a,e1,r.ext e,q⟩
def tk (x y:Nat) (v:V):∀l:Loc,lk (up l x v) y=if x=y then some v else lk l y:=by
 intro l
 induction l with
 |nil=>
  rw[wq,gE,n_,d6]
  by_cases e:x=y
  ·rw[decide_eq_true e,if_pos e]
  ·rw[decide_eq_false e,if_neg e]
 |cons f l A=>
  rw[q5,d6]
  by_cases e:f.1=x
  ·rw[decide_eq_true e]
   show lk ((f.1,v)::l) y=_
   rw[gE,gE,d6]
   by_cases q:x=y
   ·have:f.1=y:=e.trans q
    simp[q,this]
   ·have:¬f.1=y:=λz=>q (e▸z)
    simp[q,this]
  ·rw[decide_eq_false e]
   show lk (f::up l x v) y=_
   rw[gE,gE,d6,A]
   by_cases q:f.1=y
   ·have:¬x=y:=λz=>e (q.trans z.symm)
    simp[q,this]
   ·simp[q]
def db.set {f:bL} {p:aX} {loc:Loc} {m:aI->Option am} (h:db f p loc m) {x:aI} {v:V} {val:am} (C:bf x=true) (D:f.sc.names.lookup x=some .local) (E:aE p v val):
  db f p (up loc (aG x) v) (λy=>if y=x then some val else m y):=λy u B A=>by
 rw[tk]at A
 by_cases e:aG x=aG y
 ·rw[if_pos e]at A;cases A
  have:=gW C B e
  clear B e
  subst this
  exact .inl ⟨D,val,if_pos rfl,E⟩
 ·rw[if_neg e]at A
  rcases h y u B A with⟨c,w,a,b⟩|r
  ·exact .inl ⟨c,w,(if_neg (λq=>e (congrArg aG q.symm))).trans a,b⟩
  ·exact .inr r
structure dq (p:aX) (ab:aA):Prop where
 ay:p.ay=ab.ay
 bz:ab.bz=key ab.ay
inductive Bh (c:b4) (g:bE) (L:a7) (p:aX) (t:T) (Y:(aI->Option am)->Prop) (h:bE):Prop
 |mk m aj (ae:Fr g L h m) (ag:News g L h aj) (ax:aQ c.K c.w p t aj) (aS:Y m):Bh c g L p t Y h
structure ba (c:b4) (f:bL) (p:aX) (ab:aA) (loc:Loc) (s:a9):Prop where
 ex:Bh c f.aC f.L p ab.t (db f p loc) s.heap
 gens:s.gens=#[]
 os:s.os=c.os
 z:dq p ab
 n:p.n=c.n
 y:p.y=c.y
inductive cb (c:b4) (f:bL) (p:aX) (loc:Loc) (k:aY) (v:am) (aq:a9):Prop
 |mk aD aF x (ae:p.bN aD) (ag:aE aD x v) (ax:ba c f aD aF loc aq) (aS:k x aF=true):cb c f p loc k v aq
inductive mf (c:b4) (f:bL) (p:aX) (loc:Loc) (k:jP) (b:Bool) (aq:a9):Prop
 |mk aD aF (ae:p.bN aD) (ag:ba c f aD aF loc aq) (ax:k b aF=true):mf c f p loc k b aq
inductive ws (c:b4) (f:bL) (p:aX) (loc:Loc) (k:q6) (ai:List am) (aq:a9):Prop
 |mk aD aF xs (ae:p.bN aD) (ag:All2 (aE aD) xs ai) (ax:ba c f aD aF loc aq) (aS:k xs aF=true):ws c f p loc k ai aq
def Bi (p:aX):Fl->iZ->Prop
 |.next,f=>f=.next
 |.brk,f=>f=.brk
 |.cont,f=>f=.cont
 |.ret x,f=>∃v,f=.ret v/\aE p x v
inductive le (c:b4) (f:bL) (p:aX) (k:dy) (bg:iZ) (aq:a9):Prop
 |mk aD aF cO x (ae:p.bN aD) (ag:Bi aD x bg) (ax:ba c f aD aF cO aq) (aS:k x aF cO=true):le c f p k bg aq
section
variable {c:b4} {f:bL} {p bt:aX} {loc:Loc} {s:a9}
def cy {E:am->a9->Prop} {t:Sem am} {k:aY} {Q:am->a9->Prop} (h:aO (aR c.prog c.w) f.A t (cb c f p loc k) E s) (g:∀v aq aD aF x,p.bN aD->aE aD x v->ba c f aD aF loc aq->k x aF=true->Q v aq):aO (aR c.prog c.w) f.A t Q E s:=b_ h (λZ Z z=>z.casesOn λZ Z Z a b c d=>g _ _ _ _ _ a b c d) λZ Z h=>h
def lf {E:am->a9->Prop} {t:Sem (List am)} {k:q6} {Q:List am->a9->Prop} (h:aO (aR c.prog c.w) f.A t (ws c f p loc k) E s) (g:∀v aq aD aF x,p.bN aD->All2 (aE aD) x v->ba c f aD aF loc aq->k x aF=true->Q v aq):aO (aR c.prog c.w) f.A t Q E s:=b_ h (λZ Z z=>z.casesOn λZ Z Z a b c d=>g _ _ _ _ _ a b c d) λZ Z h=>h
def kw {E:am->a9->Prop} {t:Sem Bool} {k:jP} {Q:Bool->a9->Prop} (h:aO (aR c.prog c.w) f.A t (mf c f p loc k) E s) (g:∀v aq aD aF,p.bN aD->ba c f aD aF loc aq->k v aF=true->Q v aq):aO (aR c.prog c.w) f.A t Q E s:=b_ h (λZ Z z=>z.casesOn λZ Z a c d=>g _ _ _ _ a c d) λZ Z h=>h
def hT {E:am->a9->Prop} {t:Sem iZ} {k:dy} {Q:iZ->a9->Prop} (h:aO (aR c.prog c.w) f.A t (le c f p k) E s) (g:∀v aq aD aF B x,p.bN aD->Bi aD x v->ba c f aD aF B aq->k x aF B=true->Q v aq):aO (aR c.prog c.w) f.A t Q E s:=b_ h (λZ Z z=>z.casesOn λZ Z Z Z a b c d=>g _ _ _ _ _ _ a b c d) λZ Z h=>h
def cb.up {k:aY} {v:am} (e:p.bN bt) (h:cb c f bt loc k v s):cb c f p loc k v s:=let⟨aD,aF,x,a,b,d,z⟩:=h;⟨aD,aF,x,e.trans a,b,d,z⟩
def mf.up {k:jP} {v:Bool} (e:p.bN bt) (h:mf c f bt loc k v s):mf c f p loc k v s:=let⟨aD,aF,a,b,d⟩:=h;⟨aD,aF,e.trans a,b,d⟩
def le.up {k:dy} {v:iZ} (e:p.bN bt) (h:le c f bt k v s):le c f p k v s:=let⟨aD,aF,l,x,a,b,d,z⟩:=h;⟨aD,aF,l,x,e.trans a,b,d,z⟩
def ba.tok {ab:aA} {n:Nat} (S:ba c f p ab loc s):ba c f p ab loc {s with toks:=n}:=⟨S.ex,S.gens,S.os,S.z,S.n,S.y⟩
def ba.X {ab:aA} (S:ba c f p ab loc s) (ah:aZ c f):c.K.In s.heap:=by
 obtain⟨m,aj,F,ak,H,A⟩:=S.ex
 exact ah.X.keeps F.keep
end
abbrev b1:V->aA->Bool:=λZ Z=>false
structure XL (c:b4) where
 ok:bL->aX->(V->aA->Bool)->(am->a9->Prop)->Prop
 up:∀{f p aD x E},p.bN aD->ok f p x E->ok f aD x E
 under:∀{f p x E A d b},ok f p x E->A.frames=f.A.frames->ok {f with A:=A,d:=d,b:=b} p x E
 no:∀f p E,ok f p b1 E
 call:∀{f g:bL} {p:aX} {x:V->aA->Bool} {E:am->a9->Prop},aZ c f->aZ c g->ok f p x E->(∃m,Fr f.aC f.L g.aC m)->g.ao=g.env::f.ao->g.A=f.A.deeper g.env->g.env.frame=some g.L->
  ok g p x (λe H6=>aO (aR c.prog c.w) g.A (qQ g.env e) (λZ eX=>E e eX) (λbF eX=>E bF eX) H6)
def f2 (Q E:am->a9->Prop):kh->a9->Prop
 |.ok (.ret v),aq=>Q v aq
 |.ok _,_=>False
 |.error e,aq=>E e aq
def df (c:b4) (aw:XL c) (d:Nat) (cl:b5):Prop:=∀(f:bL) a xs ia ab loc k x p s E,aZ c f->f.d<=d->cl a xs ab k x=true->ba c f p ab loc s->aw.ok f p x E->All2 (aE p) xs ia->
 dH (aR c.prog c.w) f.A (.call (.ref a) ⟨ia,[]⟩) (f2 (cb c f p loc k) E) s
def Bj {bu:k0} {A:hN} {s:a9} {B:am} {pos:List am} {Q E:am->a9->Prop} (h:dH bu A (.call B ⟨pos,[]⟩) (f2 Q E) s):aO bu A (call B pos []) Q E s:=
 nP (hp h λr aq z=>by
  rcases r with e|(_|_|_|v)
  all_goals exact z)
def df.call {c:b4} {aw:XL c} {cl:b5} {f:bL} (h:df c aw f.b cl) {a xs ia ab loc k x p s E} (B:f.d+1<=f.b) (ah:aZ c f) (C:cl a xs ab k x=true) (S:ba c f p ab loc s) (D:aw.ok f p x E) (F:All2 (aE p) xs ia):
  aO (aR c.prog c.w) f.A (PySem.call (.ref a) ia []) (cb c f p loc k) E s:=Bj (h f a xs ia ab loc k x p s E ah (zQ B) C S D F)
section
variable (c:b4) (aw:XL c)
def a8 (aV:aT) (f:bL) (e:aM):Prop:=∀ab loc k au p s E,aV ab loc k au=true->ba c f p ab loc s->aw.ok f p au.x E->df c aw f.b au.cl->
 aO (aR c.prog c.w) f.A (dP e f.env) (cb c f p loc k) E s
def ST (aV:c6) (f:bL) (e:aM):Prop:=∀ab loc k au p s E,aV ab loc k au=true->ba c f p ab loc s->aw.ok f p au.x E->df c aw f.b au.cl->
 aO (aR c.prog c.w) f.A (isTrue e f.env (dP e f.env)) (mf c f p loc k) E s
def dK (aV:bV) (f:bL) (st:bI):Prop:=∀ab loc k au p s E,aV ab loc k au=true->ba c f p ab loc s->aw.ok f p au.x E->df c aw f.b au.cl->
 aO (aR c.prog c.w) f.A (exec st f.env) (le c f p k) E s
def gG (aV:bV) (f:bL) (l:List bI):Prop:=∀ab loc k au p s E,aV ab loc k au=true->ba c f p ab loc s->aw.ok f p au.x E->df c aw f.b au.cl->
 aO (aR c.prog c.w) f.A (jJ l f.env) (le c f p k) E s
end
structure c9 where
 addr:Nat
 name:aI
 qual:aI
 params:sJ
 body:List bI
 scope:bB
 d9:am
 names:List aI
 least:Nat
 dflt:List V
abbrev c9.env (f:c9) (L:a7):cI:=mT f.qual f.scope L f.addr f.d9
inductive Bk (K:dn) (f:c9):Prop
 |mk cR cB gX d_ Bl Bm pm an Bn Bo (ae:K.lookup f.addr=some ⟨cR,cB,.func (fnX f.name f.qual f.params f.body f.scope [] d_ Bl Bm pm an f.d9 Bn),gX⟩) (ag:(∀ia:List am,f.least<=ia.length->ia.length<=f.names.length->∀S,peek K S (sL (fnX f.name f.qual f.params f.body f.scope [] d_ Bl Bm pm an f.d9 Bn) ⟨ia,[]⟩)=some (f.names.zip (ia++Bo.drop (ia.length-f.least))))) (ax:∀p,All2 (aE p) f.dflt Bo):Bk K f
structure gH (K:dn) (f:c9):Prop where
 ex:Bk K f
 code:codeIn K f.d9 f.qual=true
 co:f.scope.isCoroutine=false
 gen:f.scope.isGenerator=false
 kind:f.scope.kind=.function
 q8:((fY 0 f.scope.names []).map (·.1)).Nodup
 loc:∀x∈f.names,f.scope.names.lookup x=some .local∨(f.scope.names.lookup x=some .cell/\x∈(fY 0 f.scope.names []).map (·.1))
 a_:f.names.Nodup
 iI:f.scope.names.lookup (ec "__debug__")=none
 iJ:f.scope.names.lookup (ec "__classdict__")=none
 ok:∀x∈f.names,bf x=true
 Bp:∀x,f.scope.names.lookup x≠some .free
def All2.drop {bd ca:Type} {R:bd->ca->Prop}:∀(n:Nat) {l A},All2 R l A->All2 R (l.drop n) (A.drop n):=by
 intro n
 induction n with
 |zero=>exactλh=>h
 |succ n B=>
  intro l A h
  cases h with
  |nil=>exact .nil
  |cons _ t=>exact B t
def hx.self (sc:bB) (env:cI) (h:env.scope=sc):hx sc env:=λx=>by
 have e:env.kindOf x=sc.names.lookup x:=by unfold cI.kindOf;rw[h]
 cases q:sc.names.lookup x with
 |none=>trivial
 |some k=>cases k<;>first|exact e.trans q|exact .inr (e.trans q)|trivial
def H7 {c:b4} {f:bL} {s:a9} {m:aI->Option am} {aj:bc} {R:kh->a9->Prop} {name qual:aI} {params:sJ} {body:List bI} {scope:bB} {d_ H I pm d9 J:am} {an:Option a7} {gF:bY} {a:a7} {args:Args} {D:List (aI×am)}
  (ar:q7 c f) (F:Fr f.aC f.L s.heap m) (ak:News f.aC f.L s.heap aj) (M:f.aC.NoLimit)
  (k8:s.heap.get? a=some gF) (hd:gF.data=.func (fnX name qual params body scope [] d_ H I pm an d9 J)) (N:s.heap.CodeRec d9 qual) (O:f.A.depth<zR)
  (P:BindsTo s (fnX name qual params body scope [] d_ H I pm an d9 J) args D)
  (Q:∀n,∀x∈D,scope.names.lookup x.1=some .local∨(scope.names.lookup x.1=some .cell/\((fY n scope.names []).lookup x.1).isSome=true))
  (S:((fY 0 scope.names []).map (·.1)).Nodup)
  (h:∀g B C bo cells,Fr f.aC f.L g m->g=fN s.heap (aj.map (·.1))->Fr g B C (bindL (mT qual scope B a d9).kindOf D λZ=>none)->News g B C (cells++aj)->
   CellsAre (bindC (mT qual scope B a d9).kindOf D λZ=>none) (fY (B+1) scope.names []) cells->fp f.A c.base f.ao g->f.aC.StaysIn g->(∀q∈aj,q.1<B)->(∀v aq,LeaveK f.aC f.L m g R v aq->R (.ok (.ret v)) aq)->
   aO (aR c.prog c.w) (f.A.deeper (mT qual scope B a d9)) (jJ body (mT qual scope B a d9))
    (λbg aq=>R (.ok (.ret (match bg with|.ret v=>v|_=>.none))) aq)
    (λe aq=>aO (aR c.prog c.w) (f.A.deeper (mT qual scope B a d9)) (qQ (mT qual scope B a d9) e) (λZ E=>R (.error e) E) (λbF E=>R (.error bF) E) aq)
    {s with heap:=C,toks:=bo})
  (T:scope.isCoroutine=false) (U:scope.isGenerator=false) (V:scope.kind=.function):dH (aR c.prog c.w) f.A (.call (.ref a) args) R s:=by
 obtain⟨W,X,st,lv⟩:=ar s m aj R F ak
 refine codeAny_call_function O k8 hd T U rfl N (P _ _ _ _ ?_)
 refine Ts V (Q _) λd he aq x=>?_
 subst he
 refine⟨(M.keeps F.keep).keeps x.toInCall.keep,codeAny_func ?_⟩
 obtain⟨C,bo,rfl,_⟩:=x.done
 have K:=x.toInCall.keep
 obtain⟨cells,G,Y⟩:=Cl.news (h₀:=s.heap) (eh _) λn c hm=>⟨x.cell n c (GS (GU scope.names 0 (s.heap.objs.size+1) [] [] rfl▸S) hm),x.above n c hm⟩
 refine h _ s.heap.objs.size C bo cells W rfl ⟨x.toInCall.ns,λb o e=>K b o (nQ _ e),gz (zS _ _)⟩ (λp c0=>?_) Y X st (λp c0=>dX (ak p c0).1) lv
 rcases gA.mp c0 with c0|c0
 ·refine⟨(G p c0).1,(G p c0).2.1,?_⟩
  cases q:(fN s.heap (aj.map (·.1))).get? p.1 with
  |none=>rfl
  |some o=>have:=nQ _ q;rw[(G p c0).2.2]at this;cases this
 ·exact⟨K _ _ (ak p c0).1,dS (dX (ak p c0).1),pe _ (kg c0)⟩
end
variable {c:b4} {aw:XL c} {f:bL} {p:aX} {s:a9} {E:am->a9->Prop} {ab:aA} {w:cv} {K:dn} {i:Nat} {n:Nat} {j:Nat} {m:aI->Option am} {v:V} {y:aI} {A:hN}
def mk (o:O) (ab:aA) (k:aY):Bool:=aA.rec (λt n bz=>bk false (k (.own n bz) ⟨T.put o bz t,bS n,g8 bz⟩) (dc n 4000)) ab
def mk_eq {ar:Prop} {o:O} {k:aY} (h:mk o ab k=true) (B:ab.ay<4000->k (.own ab.ay ab.bz) ⟨T.put o ab.bz ab.t,ab.ay+1,g8 ab.bz⟩=true->ar):ar:=by
 obtain⟨t,n,bz⟩:=ab
 replace h:bk (motive:=λZ=>Bool) false (k (.own n bz) ⟨T.put o bz t,bS n,g8 bz⟩) (dc n 4000)=true:=h
 cases A:dc n 4000 with
 |false=>rw[A]at h;cases h
 |true=>rw[A]at h;exact B (ce A) h
def dq.more (z:dq p ab) (h:ab.ay<4000) (x y:a7) {e:Nat} (t:T):dq (p.da x y e) ⟨t,ab.ay+1,g8 ab.bz⟩:=
 ⟨congrArg (·+1) z.ay,by show g8 ab.bz=key (ab.ay+1);rw[z.bz,HR (by lia)]⟩
def aQ.tl {aj:bc} {x y:a7} {e:Nat} {v:O} (H:aQ K w p ab.t aj) (z:dq p ab) (hs:ab.ay<4000) (hm:(∃o,(x,o)∈aj)/\∃o,(y,o)∈aj)
  (A:∀i,i<p.ay->bG ab.t i->p.a i≠x/\p.b i≠x) (B:∀i,i<p.ay->bG ab.t i->p.a i≠y/\p.b i≠y) (fn:∀q∈p.a6,q.1≠x/\q.1≠y) (he:ch K w (p.da x y e) aj p.ay v):
  aQ K w (p.da x y e) (T.put v ab.bz ab.t) aj:=by
 have:=aQ.more (new:=[]) (x:=x) (y:=y) (z:=e) (v:=v) H (by rw[z.ay];lia) H.a_ hm A B fn he
 rw[show ab.bz=key p.ay by rw[z.bz,z.ay]]
 exact this
def aQ.wide {t:T} {new aj:bc} (H:aQ K w p t aj) (a_:((new++aj).map (·.1)).Nodup):aQ K w p t (new++aj):=
 ⟨a_,λi o af k8=>ch.ext (aX.bN.refl p) af (λq A Z=>dD _ A) (H.ent i o af k8),H.aa,H.dp,H.cG,
  λi af l=>let⟨⟨o,a⟩,bC,b⟩:=H.mem i af l;⟨⟨o,dD _ a⟩,bC,dD _ b⟩,H.small,λq A=>dD _ (H.a6 q A),H.eB⟩
def aX.ib {y z:a7} {e:Nat} (h:dq p ab):aE (p.da y z e) (.own ab.ay ab.bz) (.ref y):=by
 refine⟨?_,h.bz,?_⟩
 ·show ab.ay<p.ay+1;rw[h.ay];exact i_ _
 ·show fq y=.ref (if ab.ay=p.ay then y else p.a ab.ay);rw[if_pos h.ay.symm]
def gI (ps:List (Nat×Bool)):List V->aA->Loc->(aA->Loc->Bool)->Bool:=bW (motive:=λZ=>List V->aA->Loc->(aA->Loc->Bool)->Bool)
 (λai ab loc k=>bW (k ab loc) hv ai)
 (λp Z A ai ab loc k=>bW false (λv ai Z=>pc (λx b=>bk (A ai ab ((x,v)::loc) k) (mk (.cell (some v)) ab (λw ab=>A ai ab ((x,w)::loc) k)) b) p) ai) ps
def hU (l:List Nat):aA->Loc->(aA->Loc->Bool)->Bool:=bW (motive:=λZ=>aA->Loc->(aA->Loc->Bool)->Bool) (λab loc k=>k ab loc) (λx Z A ab loc k=>mk (.cell none) ab (λw ab=>A ab ((x,w)::loc) k)) l
def Bq {kind:aI->Option iA} {x:aI} {v:am} (C:kind x=some .local):∀{b:List (aI×am)} {m:aI->Option am},(b.map (·.1)).Nodup->(x,v)∈b->bindL kind b m x=some v:=by
 intro b
 induction b with
 |nil=>
  intro m a_ h
  cases h
 |cons q r A=>
  intro m a_ h
  obtain⟨n,u⟩:=q
  rw[d4,g7]at a_
  rcases bJ.mp h with e|h
  clear h
  ·cases e
   have out:∀{r:List (aI×am)} {m:aI->Option am},x∉r.map (·.1)->m x=some v->bindL kind r m x=some v:=by
    intro r
    induction r with
    |nil=>intro m _ e;exact e
    |cons q r A=>
     intro m B e
     rw[d4,bJ,not_or]at B
     refine A B.2 ?_
     by_cases z:kind q.1=some .local
     ·rw[if_pos z];show(if x=q.1 then _ else m x)=_;rw[if_neg B.1];exact e
     ·rw[if_neg z];exact e
   show bindL kind r _ x=_
   exact out a_.1 (by rw[if_pos C];exact if_pos rfl)
  ·show bindL kind r _ x=_
   exact A a_.2 h
def Br {kind:aI->Option iA} {x:aI} {v:am} (B:kind x≠some .local):∀{b:List (aI×am)} {m:aI->Option am},(b.map (·.1)).Nodup->(x,v)∈b->bindC kind b m x=some v
 |(n,u)::r,m,a_,h=>by
  rw[d4,g7]at a_
  rcases bJ.mp h with e|h
  clear h
  ·cases e
   have out:∀{r:List (aI×am)} {m:aI->Option am},x∉r.map (·.1)->m x=some v->bindC kind r m x=some v:=by
    intro r
    induction r with
    |nil=>intro m _ e;exact e
    |cons q r C=>
     intro m A e
     rw[d4,bJ,not_or]at A
     refine C A.2 ?_
     by_cases z:kind q.1=some .local
     ·rw[if_pos z];exact e
     ·rw[if_neg z];show(if x=q.1 then _ else m x)=_;rw[if_neg A.1];exact e
   show bindC kind r _ x=_
   exact out a_.1 (by rw[if_neg B];exact if_pos rfl)
  ·show bindC kind r _ x=_
   exact Br B a_.2 h
def Bs {kind:aI->Option iA} {x:aI}:∀{b:List (aI×am)} {m:aI->Option am},x∉b.map (·.1)->bindC kind b m x=m x
 |[],_,_=>rfl
 |(n,u)::r,m,h=>by
  rw[d4,bJ,not_or]at h
  show bindC kind r _ x=_
  rw[Bs h.2]
  by_cases z:kind n=some .local
  ·rw[if_pos z]
  ·rw[if_neg z];exact if_neg h.1
def Bt:∀(names:List (aI×iA)) (n:Nat) (bT:List (aI×a7)),(bT.map (·.2)).Nodup->(∀q∈bT,q.2<n)->((fY n names bT).map (·.2)).Nodup/\∀q∈fY n names bT,q∈bT∨n<=q.2:=by
 intro names
 induction names with
 |nil=>
  intro n bT h _
  exact⟨h,λq A=>.inl A⟩
 |cons q r C=>
  intro n bT h B
  obtain⟨x,k⟩:=q
  unfold fY
  split
  ·obtain⟨a,b⟩:=C (n+1) ((x,n)::bT) (by
    rw[d4,g7]
    refine⟨λhm=>?_,h⟩
    obtain⟨q,A,e⟩:=ey.mp hm
    exact absurd e (dS (B q A))) (λq A=>by
    rcases bJ.mp A with rfl|A
    ·exact i_ _
    ·exact nM (B q A))
   refine⟨a,λq A=>?_⟩
   rcases b q A with A|A
   ·rcases bJ.mp A with rfl|A
    ·exact .inr (eh _)
    ·exact .inl A
   ·exact .inr (zQ A)
  ·exact C n bT h B
def Bu {A:aI->Option am}:∀{cs:List (aI×a7)} {cells:bc},CellsAre A cs cells->∀{x a},(x,a)∈cs->∃o,(a,o)∈cells/\o.data=.cell (A x):=by
 intro cs cells h
 induction h with
 |nil=>
  intro x a h
  cases h
 |cons hd r B=>
  intro x a h
  rcases bJ.mp h with e|h
  clear h
  ·cases e;exact⟨_,.head _,hd⟩
  ·obtain⟨o,ae,ag⟩:=B h;exact⟨o,.tail _ ae,ag⟩
def Bv {A:aI->Option am}:∀{cs:List (aI×a7)} {cells:bc},CellsAre A cs cells->cells.map (·.1)=cs.map (·.2):=by
 intro cs cells h
 induction h with
 |nil=>
  exact rfl
 |cons hd r B=>
  rw[d4,d4,B]
structure oa (c:b4) (g:bL) (aj:bc) (m:aI->Option am) (done:List aI) (p:aX) (ab:aA) (loc:Loc):Prop where
 z:dq p ab
 H:aQ c.K c.w p ab.t aj
 L:db g p loc m
 free:∀x a,g.env.cells.lookup x=some a->x∉done->∀i,i<p.ay->bG ab.t i->p.a i≠a/\p.b i≠a
 ff:∀x a,g.env.cells.lookup x=some a->∀q∈p.a6,q.1≠a
def db.H8 {loc:Loc} (h:db f p loc m) {x:aI} {val:am} (C:bf x=true) (D:f.sc.names.lookup x=some .local) (hm:m x=some val) (E:aE p v val):
  db f p ((aG x,v)::loc) m:=λy u B A=>by
 rw[gE,d6]at A
 by_cases e:aG x=aG y
 ·rw[decide_eq_true e]at A;cases A
  have:=gW C B e
  clear B e
  subst this
  exact .inl ⟨D,val,hm,E⟩
 ·rw[decide_eq_false e]at A;exact h y u B A
def db.tm {loc:Loc} (h:db f p loc m) {x:aI} {k:ck} {a:a7} (C:bf x=true) (D:f.sc.names.lookup x=some .cell∨f.sc.names.lookup x=some .free)
  (E:aE p (.own i k) (.ref a)) (F:f.env.cells.lookup x=some a):db f p ((aG x,.own i k)::loc) m:=λy u B A=>by
 rw[gE,d6]at A
 by_cases e:aG x=aG y
 ·rw[decide_eq_true e]at A;cases A
  have:=gW C B e
  clear B e
  subst this
  exact .inr ⟨D,i,k,a,rfl,E,F⟩
 ·rw[decide_eq_false e]at A;exact h y u B A
def oa.cell {g:bL} {aj:bc} {done:List aI} {loc:Loc} (B:oa c g aj m done p ab loc) {x:aI} {a:a7} {v:Option V} (J:bf x=true) (K:g.sc.names.lookup x=some .cell)
  (A:g.env.cells.lookup x=some a) (hd:x∉done) (M:∀y b,g.env.cells.lookup y=some b->y≠x->b≠a) (hs:ab.ay<4000)
  (k8:∃o val,(a,o)∈aj/\o.data=.cell val/\(match v with|none=>val=none|some v=>∃u,val=some u/\aE p v u)):
  oa c g aj m (x::done) (p.more a a) ⟨T.put (.cell v) ab.bz ab.t,ab.ay+1,g8 ab.bz⟩ ((aG x,.own ab.ay ab.bz)::loc):=by
 obtain⟨o,val,ae,ag,ax⟩:=k8
 have fr:=B.free x a A hd
 have E:=p.eZ a a
 have F:(p.more a a).a p.ay=a:=if_pos rfl
 refine⟨B.z.more hs a a _,aQ.tl B.H B.z hs ⟨⟨o,ae⟩,o,ae⟩ fr fr (λq G=>⟨B.ff x a A q G,B.ff x a A q G⟩) ⟨o,val,by rw[F];exact ae,ag,?_⟩,(B.L.ext E).tm J (.inl K) (aX.ib B.z) A,λy b I C i af li=>?_,B.ff⟩
 ·cases v with
  |none=>exact ax
  |some v=>obtain⟨u,e,r⟩:=ax;exact⟨u,e,r.ext E⟩
 ·rw[bJ,not_or]at C
  have N:p.ay<4096:=by rw[B.z.ay];lia
  have O:i<p.ay+1:=af
  clear af
  by_cases e:i=p.ay
  clear li O
  ·subst e
   have P:(p.more a a).b p.ay=a:=if_pos rfl
   rw[F,P]
   have:=M y b I C.1
   exact⟨λq=>this q.symm,λq=>this q.symm⟩
  ·have D:i<p.ay:=by lia
   rw[E.a i D,E.b i D]
   refine B.free y b I C.2 i D ?_
   obtain⟨bU,aK,aW⟩:=li
   rw[show(aA.mk (T.put (.cell v) ab.bz ab.t) (ab.ay+1) (g8 ab.bz)).t=T.put (.cell v) (key p.ay) ab.t by show T.put _ ab.bz _=_;rw[B.z.bz,B.z.ay],T.cd _ _ N (by lia),if_neg e]at aK
   exact⟨bU,aK,aW⟩
def H9 {g:bL} {aj:bc} {F:aI->Option am} {cs:List (aI×a7)} {cells:bc} (P:g.env.cells=cs) (Y:CellsAre F cs cells) (X:∀q∈cells,q∈aj)
  (d:∀x y a b,cs.lookup x=some a->cs.lookup y=some b->y≠x->b≠a) {k:aA->Loc->Bool}:
  ∀(ns:List aI) (xs:List V) (C:List am) (done:List aI) (p:aX) (ab:aA) (loc:Loc),gI (ns.map λx=>(aG x,decide (g.sc.names.lookup x=some .cell))) xs ab loc k=true->
   oa c g aj m done p ab loc->All2 (aE p) xs C->ns.Nodup->(∀x∈ns,x∉done)->(∀x∈ns,bf x=true/\(g.sc.names.lookup x=some .local∨(g.sc.names.lookup x=some .cell/\∃a,cs.lookup x=some a)))->
   (∀x v,(x,v)∈ns.zip C->(g.sc.names.lookup x=some .local->m x=some v)/\(g.sc.names.lookup x=some .cell->F x=some v))->
   ∃aD aF cO E,p.bN aD/\oa c g aj m E aD aF cO/\(∀x,x∈E->x∈done∨x∈ns)/\k aF cO=true/\xs.length=ns.length:=by
 intro ns
 induction ns with
 |nil=>
  intro xs
  cases xs with
  |nil=>intro _ done p ab loc h B _ _ _ _ _;exact⟨p,ab,loc,done,aX.bN.refl p,B,λx f=>.inl f,h,rfl⟩
  |cons _ _=>intro _ _ _ _ _ h;cases h
 |cons x ns Q=>
  intro xs
  cases xs with
  |nil=>intro _ _ _ _ _ h;cases h
  |cons v xs=>
  intro C done p ab loc h B i a_ G I hm
  cases i with
  |@cons _ val _ C R S=>
  rw[g7]at a_
  obtain⟨T,j⟩:=I x (.head _)
  have U:=hm x val (by rw[GV];exact .head _)
  have W:∀y u,(y,u)∈ns.zip C->(g.sc.names.lookup y=some .local->m y=some u)/\(g.sc.names.lookup y=some .cell->F y=some u):=λy u A=>hm y u (by rw[GV];exact .tail _ A)
  replace h:bk (motive:=λZ=>Bool) (gI (ns.map λx=>(aG x,decide (g.sc.names.lookup x=some .cell))) xs ab ((aG x,v)::loc) k)
   (mk (.cell (some v)) ab (λw ab=>gI (ns.map λx=>(aG x,decide (g.sc.names.lookup x=some .cell))) xs ab ((aG x,w)::loc) k)) (decide (g.sc.names.lookup x=some .cell))=true:=h
  rcases j with D|⟨D,a,J⟩
  ·rw[decide_eq_false (by rw[D];decide)]at h
   obtain⟨aD,aF,cO,E,e,K,M,N,O⟩:=Q xs C done p ab _ h ⟨B.z,B.H,B.L.H8 T D (U.1 D) R,B.free,B.ff⟩ S a_.2 (λy A=>G y (.tail _ A)) (λy A=>I y (.tail _ A)) W
   exact⟨aD,aF,cO,E,e,K,λy A=>(M y A).imp id λq=>.tail _ q,N,by simp[O]⟩
  ·rw[decide_eq_true D]at h
   obtain⟨hs,h⟩:=mk_eq h
   obtain⟨o,k8,l⟩:=Bu Y (GW.mp J|>λ⟨l1,l2,e,_⟩=>(by rw[e];simp:(x,a)∈cs))
   have n:=B.cell (v:=some v) T D (by rw[P];exact J) (G x (.head _)) (λy b A r=>d x y a b J (by rw[<-P];exact A) r) hs ⟨o,_,X _ k8,l,val,U.2 D,R⟩
   obtain⟨aD,aF,cO,E,e,K,M,N,O⟩:=Q xs C (x::done) _ _ _ h n (S.imp λZ Z=>aE.ext (p.eZ a a)) a_.2
    (λy A hm=>by
     rcases bJ.mp hm with e|hm
     ·exact a_.1 (e▸A)
     ·exact G y (.tail _ A) hm) (λy A=>I y (.tail _ A)) W
   refine⟨aD,aF,cO,E,(p.eZ a a).trans e,K,λy A=>?_,N,by simp[O]⟩
   rcases M y A with q|q
   ·rcases bJ.mp q with e|q
    ·exact .inr (e▸.head _)
    ·exact .inl q
   ·exact .inr (.tail _ q)
def H_ {g:bL} {aj:bc} {E:aI->Option am} {cs:List (aI×a7)} {cells:bc} (F:g.env.cells=cs) (Y:CellsAre E cs cells) (J:∀q∈cells,q∈aj)
  (M:∀x y a b,cs.lookup x=some a->cs.lookup y=some b->y≠x->b≠a) {k:aA->Loc->Bool}:
  ∀(ns:List aI) (done:List aI) (p:aX) (ab:aA) (loc:Loc),hU (ns.map aG) ab loc k=true->
   oa c g aj m done p ab loc->ns.Nodup->(∀x∈ns,x∉done)->(∀x∈ns,bf x=true/\g.sc.names.lookup x=some .cell/\(∃a,cs.lookup x=some a)/\E x=none)->
   ∃aD aF cO,p.bN aD/\dq aD aF/\aQ c.K c.w aD aF.t aj/\db g aD cO m/\k aF cO=true:=by
 intro ns
 induction ns with
 |nil=>
  intro done p ab loc h B _ _ _
  exact⟨p,ab,loc,aX.bN.refl p,B.z,B.H,B.L,h⟩
 |cons x ns N=>
  intro done p ab loc h B a_ G I
  rw[g7]at a_
  obtain⟨O,P,⟨a,C⟩,D⟩:=I x (.head _)
  replace h:mk (.cell none) ab (λw ab=>hU (ns.map aG) ab ((aG x,w)::loc) k)=true:=h
  obtain⟨hs,h⟩:=mk_eq h
  obtain⟨o,k8,Q⟩:=Bu Y (GW.mp C|>λ⟨l1,l2,e,_⟩=>(by rw[e];simp:(x,a)∈cs))
  have R:=B.cell (v:=none) O P (by rw[F];exact C) (G x (.head _)) (λy b A D=>M x y a b C (by rw[<-F];exact A) D) hs ⟨o,_,J _ k8,Q,D⟩
  obtain⟨aD,aF,cO,e,r⟩:=N (x::done) _ _ _ h R a_.2
   (λy A hm=>by
    rcases bJ.mp hm with e|hm
    ·exact a_.1 (e▸A)
    ·exact G y (.tail _ A) hm) (λy A=>I y (.tail _ A))
  exact⟨aD,aF,cO,(p.eZ a a).trans e,r⟩
section
set_option backward.match.sparseCases true
structure f3 where
 e_:List (Nat×Bool)
 cells:List Nat
 least:Nat
 dflt:List V
 body:bV
inductive wt (cl:List Nat) (aJ:c9):Prop
 |mk (cs:List aI) (ae:cl=cs.map aG) (ag:cs.Nodup) (ax:∀x∈cs,bf x=true/\aJ.scope.names.lookup x=some .cell/\x∈(fY 0 aJ.scope.names []).map (·.1)/\x∉aJ.names):wt cl aJ
structure kx (K:dn) (cC:f3) (aJ:c9):Prop where
 e_:cC.e_=aJ.names.map λx=>(aG x,decide (aJ.scope.names.lookup x=some .cell))
 cells:wt cC.cells aJ
 least:cC.least=aJ.least
 dflt:cC.dflt=aJ.dflt
 len:aJ.names.length=aJ.least+aJ.dflt.length
def je (d:List V) (least:Nat) (ai:List V):List V:=bW ai (λZ Z Z=>ai++d.drop (eu ai.length least)) d
def wu (d:List V) (least:Nat) (ai:List V):je d least ai=ai++d.drop (ai.length-least):=by
 cases d with
 |nil=>show ai=ai++([]:List V).drop _;rw[List.drop_nil,k1]
 |cons a l=>rfl
def c7 (fn:Nat->Option f3) (cl:b5):b5:=λa ai ab k x=>cq false (λf=>f3.rec (λe_ cells least dflt body=>
 gI e_ (je dflt least ai) ab [] (λab loc=>hU cells ab loc (λab loc=>body ab loc (λbg ab Z=>Fl.rec (k .none ab) false false (λv=>k v ab) bg) ⟨cl,x⟩))) f) (fn a)
structure jf (c:b4) (aw:XL c) (fn:Nat->Option f3):Prop where
 fn:∀a cC,fn a=some cC->∃aJ:c9,aJ.addr=a/\gH c.K aJ/\kx c.K cC aJ/\∀g:bL,aZ c g->g.sc=aJ.scope->g.env.frame=some g.L->g.d+9<=g.b->g.b<=260->gG c aw cC.body g aJ.body
def wv {sc:bB} {x:aI} (h:x∈(fY 0 sc.names []).map (·.1)) (a_:((fY 0 sc.names []).map (·.1)).Nodup):∃a,(fY n sc.names []).lookup x=some a:=by
 have e:=GU sc.names 0 n [] [] rfl
 rw[e]at h a_
 obtain⟨q,A,rfl⟩:=ey.mp h,h
 exact⟨q.2,GS a_ A⟩
def iK {bd:Type} {x:aI} {a:bd} {cs:List (aI×bd)} (h:cs.lookup x=some a):(x,a)∈cs:=by
 obtain⟨l1,l2,e,_⟩:=GW.mp h
 rw[e];simp
def tn {env:cI} {L:a7} {aC:bE} {b7:List cI} {eK:hN} (B:fp eK c.base b7 aC) (C:A.frames=some (env::b7)) (ah:env.frame=some L) (D:env.scope.kind=.function) {sc:bB} {d b:Nat}:
  q7 c ⟨sc,env,L,aC,env::b7,A,d,b⟩:=λs m aj R F ak=>groundX (R:=R) B F ak C ah D
def enter {aJ:c9} {e_:List (Nat×Bool)} {cl:List Nat} {d:Nat} (hd:d+10<=300) (ok:gH c.K aJ) (aH:e_=aJ.names.map λx=>(aG x,decide (aJ.scope.names.lookup x=some .cell)))
  (rc:wt cl aJ) (fa:aJ.names.length=aJ.least+aJ.dflt.length)
  (ah:aZ c f) (cD:f.d<=d) {xs:List V} {J:List am} {ab:aA} {p:aX} {s:a9} {m:aI->Option am} {aj:bc} {R:kh->a9->Prop} {KK:aA->Loc->Bool}
  (F:Fr f.aC f.L s.heap m) (ak:News f.aC f.L s.heap aj) (H:aQ c.K c.w p ab.t aj) (z:dq p ab) (av:All2 (aE p) xs J)
  (h:gI e_ (je aJ.dflt aJ.least xs) ab [] (λab loc=>hU cl ab loc KK)=true)
  (D:∀(B:bL) pE Bw N O W P bo,aZ c B->B.env=aJ.env B.L->B.sc=aJ.scope->B.env.frame=some B.L->B.ao=B.env::f.ao->B.A=f.A.deeper B.env->B.d=d+1->B.b=d+10->Fr f.aC f.L B.aC m->B.aC=fN s.heap (aj.map (·.1))->
   Fr B.aC B.L P pE->News B.aC B.L P (Bw++aj)->p.bN N->dq N O->aQ c.K c.w N O.t (Bw++aj)->db B N W pE->KK O W=true->fp f.A c.base f.ao B.aC->(∀v aq,LeaveK f.aC f.L m B.aC R v aq->R (.ok (.ret v)) aq)->
   aO (aR c.prog c.w) B.A (jJ aJ.body B.env) (λbg aq=>R (.ok (.ret (match bg with|.ret v=>v|_=>.none))) aq)
    (λe aq=>aO (aR c.prog c.w) B.A (qQ B.env e) (λZ u=>R (.error e) u) (λbF u=>R (.error bF) u) aq) {s with heap:=P,toks:=bo}):
  dH (aR c.prog c.w) f.A (.call (.ref aJ.addr) ⟨J,[]⟩) R s:=by
 obtain⟨aL,aM,aN,Q⟩:=rc
 subst aH aM
 rw[wu]at h
 obtain⟨cR,cB,gX,d_,aP,aS,pm,an,aT,aa,k8,I,aw⟩:=ok.ex
 have ai:c.K.In s.heap:=ah.X.keeps F.keep
 have al:xs.length=J.length:=av.len
 have bq:aJ.dflt.length=aa.length:=(aw p).len
 have j:All2 (aE p) (xs++aJ.dflt.drop (xs.length-aJ.least)) (J++aa.drop (J.length-aJ.least)):=by rw[al];exact av.append ((aw p).drop _)
 have ap:(xs++aJ.dflt.drop (xs.length-aJ.least)).length=aJ.names.length:=by
  have gen:∀(ns:List aI) (xs:List V) (ab:aA) (loc:Loc) (aB:aA->Loc->Bool),gI (ns.map λx=>(aG x,decide (aJ.scope.names.lookup x=some .cell))) xs ab loc aB=true->xs.length=ns.length:=by
   intro ns
   induction ns with
   |nil=>intro xs ab loc aB h;cases xs with
    |nil=>rfl
    |cons=>exact nomatch (h:false=true)
   |cons y ns S=>intro xs ab loc aB h;cases xs with
    |nil=>exact nomatch (h:false=true)
    |cons v xs=>
     replace h:bk (motive:=λZ=>Bool) (gI (ns.map λx=>(aG x,decide (aJ.scope.names.lookup x=some .cell))) xs ab ((aG y,v)::loc) aB)
      (mk (.cell (some v)) ab (λw ab=>gI (ns.map λx=>(aG x,decide (aJ.scope.names.lookup x=some .cell))) xs ab ((aG y,w)::loc) aB)) (decide (aJ.scope.names.lookup y=some .cell))=true:=h
     cases I:decide (aJ.scope.names.lookup y=some .cell)with
     |false=>rw[I]at h;simp[S _ _ _ _ h]
     |true=>rw[I]at h;exact mk_eq h λZ q=>by simp[S _ _ _ _ q]
  exact gen _ _ _ _ _ h
 have hle:aJ.least<=xs.length/\xs.length<=aJ.names.length:=by
  rw[lM,List.length_drop]at ap
  lia
 have I:=I J (al▸hle.1) (al▸hle.2)
 generalize br:xs++aJ.dflt.drop (xs.length-aJ.least)=Ia at h j ap
 generalize bs:J++aa.drop (J.length-aJ.least)=q9 at I j
 have bv:q9.length=aJ.names.length:=by rw[<-j.len];exact ap
 have aU:BindsTo s (fnX aJ.name aJ.qual aJ.params aJ.body aJ.scope [] d_ aP aS pm an aJ.d9 aT) ⟨J,[]⟩ (aJ.names.zip q9):=
  λbu Z Z Z q=>(Looks.of_peek (M:=bu) ai (I _)).here q
 have k:(aJ.names.zip q9).map (·.1)=aJ.names:=List.map_fst_zip (by lia)
 refine H7 (R:=R) ah.iH F ak ah.T.nolimit (ai _ _ k8) rfl (codeRec_of ai ok.code) (by have:=ah.depth;have:(zR:Nat)=1000:=rfl;lia) aU (λn y C=>?_) ok.q8 (λg E P bo cells aV aY a0 a1 Y ar st lt lv=>?_) ok.co ok.gen ok.kind
 ·have a2:y.1∈aJ.names:=by rw[<-k];exact kg (f:=lN) C
  rcases ok.loc _ a2 with q|⟨aK,aW⟩
  ·exact .inl q
  ·obtain⟨a,G⟩:=wv (n:=n) aW ok.q8
   exact .inr ⟨aK,by rw[G];rfl⟩
 let B:bL:=⟨aJ.scope,aJ.env E,E,g,aJ.env E::f.ao,f.A.deeper (aJ.env E),d+1,d+10⟩
 have a3:aZ c B:=by
  refine⟨ah.X.keeps st,ah.T.keeps st,tn ar (nR ar.stack) rfl ok.kind,?_,?_,?_,?_,ah.cj,hx.self _ _ rfl,ok.kind,rfl,rfl,rfl,ok.iI,ok.iJ,ah.lc.elim λo h=>⟨o,st _ _ h⟩,ah.kv,λx U=>?_⟩
  ·show f.A.depth+1<=500+(d+1);have:=ah.depth;lia
  ·show f.A.units+3<=2000+10*(d+1);have:=ah.units;lia
  ·show d+1<=300;lia
  ·show d+10<=300;lia
  ·rcases U with U|U
   ·exact Tt.mp (cellsFrom_some aJ.scope.names (E+1) [] (.inl U))
   ·exact absurd U (ok.Bp x)
 obtain⟨ax,ay⟩:=Bt aJ.scope.names (E+1) [] .nil (λq D=>nomatch D)
 have az:=Bv Y
 have a4:((cells++aj).map (·.1)).Nodup:=by
  rw[nN,pb]
  refine⟨az▸ax,H.a_,λa G b I e=>?_⟩
  rw[az]at G
  obtain⟨q,D,rfl⟩:=ey.mp G,G
  obtain⟨a5,a8,rfl⟩:=ey.mp I,I
  rcases ay q D with z|z
  ·cases z
  ·have:=lt a5 a8;exact absurd e (lO (cH this (zQ z)))
 have ba:=aQ.wide H a4
 have aD:∀x y a b,(fY (E+1) aJ.scope.names []).lookup x=some a->(fY (E+1) aJ.scope.names []).lookup y=some b->y≠x->b≠a:=by
  intro x y a b ae ag aF e
  subst e
  have as:=iK ae
  have r:=iK ag
  clear ag
  have key:∀{l:List (aI×a7)},(l.map (·.2)).Nodup->(x,b)∈l->(y,b)∈l->x=y:=by
   clear aF r
   intro l
   induction l with
   |nil=>intro _ h;cases h
   |cons q l S=>
    intro a_ ae ag
    rw[d4,g7]at a_
    rcases bJ.mp ae with e1|e1<;>rcases bJ.mp ag with e2|e2
    clear ag
    clear S
    ·rw[<-e1]at e2;cases e2;rfl
    clear ae
    ·subst e1;exact absurd (kg (f:=Prod.snd) e2) a_.1
    clear ae
    ·subst e2;exact absurd (kg (f:=Prod.snd) e1) a_.1
    ·exact S a_.2 e1 e2
  exact aF (key ax as r).symm
 have au:∀{x a},(fY (E+1) aJ.scope.names []).lookup x=some a->∀q∈aj,q.1≠a:=λ{x a} G q D=>by
  rcases ay _ (iK G)with z|z
  ·cases z
  ·have ae:=lt _ D
   dsimp only at z ae
   exact dS (cH ae (zQ z))
 have k9:oa c B (cells++aj) (bindL (mT aJ.qual aJ.scope E aJ.addr aJ.d9).kindOf (aJ.names.zip q9) λZ=>none) [] p ab []:=by
  refine⟨z,ba,(λx v Z h=>by rw[n_]at h;cases h),λx a G Z i af li=>?_,λx a G q D=>au G q (H.a6 q D)⟩
  obtain⟨⟨o,as⟩,bC,r⟩:=H.mem i af li
  exact⟨au G _ as,au G _ r⟩
 obtain⟨bt,bw,bb,bd,be,bf,bh,bi,bx⟩:=H9 (c:=c) (g:=B) (cs:=fY (E+1) aJ.scope.names []) rfl Y (λq D=>gS _ D) aD aJ.names Ia q9 [] p ab [] h k9 j ok.a_ (λx Z h=>nomatch h)
  (λy C=>⟨ok.ok y C,(ok.loc y C).imp id λ⟨aK,aW⟩=>⟨aK,wv aW ok.q8⟩⟩)
  (λy v C=>⟨λq=>Bq (by exact q) (by rw[k];exact ok.a_) C,λq=>Br (by show aJ.scope.names.lookup y≠_;rw[show aJ.scope.names.lookup y=_ from q];decide) (by rw[k];exact ok.a_) C⟩)
 obtain⟨N,O,W,bj,bl,bm,bn,bp⟩:=H_ (c:=c) (g:=B) (cs:=fY (E+1) aJ.scope.names []) rfl Y (λq D=>gS _ D) aD aL bd bt bw bb bi bf aN
  (λy C hm=>by
   rcases bh y hm with q|q
   ·cases q
   ·exact(Q y C).2.2.2 q)
  (λy C=>⟨(Q y C).1,(Q y C).2.1,wv (Q y C).2.2.1 ok.q8,by rw[Bs (by rw[k];exact(Q y C).2.2.2)]⟩)
 exact D B _ cells N O W P bo a3 rfl rfl rfl rfl rfl rfl rfl aV aY a0 a1 (be.trans bj) bl bm bn bp ar lv
def mg {fn:Nat->Option f3} (a0:jf c aw fn) {cl:b5} {d:Nat} (hd:d+10<=260) (e:df c aw (d+10) cl):df c aw d (c7 fn cl):=by
 intro f a xs aA ab loc k x p s E ah cD h S g i
 unfold c7 at h
 cases B:fn a with
 |none=>rw[B]at h;cases h
 |some cC=>
  rw[B]at h
  obtain⟨aJ,rfl,ok,j,K⟩:=a0.fn a cC B
  obtain⟨e_,cells,least,dflt,body⟩:=cC
  clear B
  obtain⟨M,N,O,P,l⟩:=j
  dsimp only at M N O P K
  subst O P
  obtain⟨m,aj,F,ak,H,o⟩:=S.ex
  refine enter (KK:=λab loc=>body ab loc (λbg ab Z=>Fl.rec (motive:=λZ=>Bool) (k .none ab) false false (λv=>k v ab) bg) ⟨cl,x⟩) (by lia) ok M N l ah cD F ak H S.z i h λD aB q Q R T r bo U aC t W u w aa G ae Z af ag e02 ai al am an Z lv=>?_
  have ao:ba c D Q R T {s with heap:=r,toks:=bo}:=⟨⟨_,q++aj,af,ag,al,am⟩,S.gens,S.os,ai,e02.n.trans S.n,e02.y.trans S.y⟩
  refine hT (K D U t W (by rw[aa,G];lia) (by rw[G];lia) R T _ ⟨cl,x⟩ Q _ _ an ao (aw.call ah U (aw.up e02 g) ⟨m,ae⟩ u w W) (by rw[G];exact e)) (λbg ap I J aD y aq X A C=>?_)
  obtain⟨ar,Y,as,au,av,_⟩:=A.ex
  have e03:=e02.trans aq
  refine lv _ _ ⟨D.L,ar,Y,as,au,λax ay=>?_⟩
  have b:ba c f I J loc ap:=⟨⟨m,Y,ax,ay,av,o.ext e03⟩,A.gens,A.os,A.z,A.n,A.y⟩
  cases y with
  |ret v=>obtain⟨val,rfl,az⟩:=X;exact⟨I,J,v,e03,az,b,C⟩
  |next=>cases X;exact⟨I,J,V.none,e03,rfl,b,C⟩
  |brk=>cases C
  |cont=>cases C
end
def cz (v:V) (k:Nat->ck->Bool):Bool:=V.rec false aL aL aL aL k aL a1 v
def cJ' {ar:Prop} {k:Nat->ck->Bool} (h:cz v k=true) (A:∀i aB,v=.own i aB->k i aB=true->ar):ar:=by
 cases v with
 |own i aB=>exact A i aB rfl h
 |_=>cases h
def bn (ab:aA) (k:ck):Option O:=aA.rec (λt Z Z=>T.get t k) ab
def bP (ab:aA) (k:ck):bn ab k=ab.t.get k:=rfl
def Bx (o:O) (k:Nat->List (Nat×V)->Bool):Bool:=O.rec k a1 a1 aL aL aL aL a1 a1 cQ aL cQ aL cQ a1 a1 a1 false aL false aL a1 aL o
def mh (ab:aA) (aB:ck) (k:Nat->List (Nat×V)->Bool):Bool:=cq false (λo=>Bx o k) (bn ab aB)
def q_' {ar:Prop} {aB:ck} {k:Nat->List (Nat×V)->Bool} (h:mh ab aB k=true) (B:∀C ao,ab.t.get aB=some (.inst C ao)->k C ao=true->ar):ar:=by
 unfold mh at h
 dsimp only[bP]at h
 cases A:ab.t.get aB with
 |none=>rw[A]at h;cases h
 |some o=>
  rw[A]at h
  cases o with
  |inst C ao=>exact B C ao A h
  |_=>cases h
def Ib (o:O) (k:Nat->List (Nat×V)->Bool):Bool:=O.rec k a1 a1 aL aL aL aL a1 a1 cQ aL cQ aL cQ a1 a1 a1 false aL false aL k aL o
def m7 (ab:aA) (aB:ck) (k:Nat->List (Nat×V)->Bool):Bool:=cq false (λo=>Ib o k) (bn ab aB)
def pF' {ar:Prop} {aB:ck} {k:Nat->List (Nat×V)->Bool} (h:m7 ab aB k=true) (B:∀C ao,(ab.t.get aB=some (.inst C ao)∨ab.t.get aB=some (.rinst C ao))->k C ao=true->ar):ar:=by
 unfold m7 at h
 dsimp only[bP]at h
 cases A:ab.t.get aB with
 |none=>rw[A]at h;cases h
 |some o=>
  rw[A]at h
  cases o with
  |inst C ao=>exact B C ao (.inl A) h
  |rinst C ao=>exact B C ao (.inr A) h
  |_=>cases h
def f4 (o:Option V) (k:V->Bool):Bool:=cq false k o
def f5' {ar:Prop} {o:Option V} {k:V->Bool} (h:f4 o k=true) (A:∀v,o=some v->k v=true->ar):ar:=by
 cases o with
 |none=>cases h
 |some v=>exact A v rfl h
def bh (o:Option Bool) (k:Bool->Bool):Bool:=cq false k o
def By' {ar:Prop} {o:Option Bool} {k:Bool->Bool} (h:bh o k=true) (A:∀v,o=some v->k v=true->ar):ar:=by
 cases o with
 |none=>cases h
 |some v=>exact A v rfl h
def hV (q a b:Bool):Bool:=bk b a q
section
def ds (v:V):aT:=λab Z k Z=>k v ab
def Ic {aK pos}:a8 c aw (ds .none) f (.Constant .none aK pos):=λab loc k au p s E h S A B=>Constant_none ⟨p,ab,V.none,aX.bN.refl p,rfl,S,h⟩
def Ie {b aK pos}:a8 c aw (ds (.bool b)) f (.Constant (.bool b) aK pos):=λab loc k au p s E h S A B=>Constant_bool ⟨p,ab,V.bool b,aX.bN.refl p,rfl,S,h⟩
def ww {i aK pos}:a8 c aw (ds (.int i)) f (.Constant (.int i) aK pos):=λab loc k au p s E h S A B=>zT ⟨p,ab,V.int i,aX.bN.refl p,⟨_,rfl⟩,S.tok,h⟩
def Ig {t aK pos} (k8:bf t=true):a8 c aw (ds (.str (aG t))) f (.Constant (.str t) aK pos):=λab loc k au p s E h S A B=>λZ Z Z=>⟨p,ab,V.str (aG t),aX.bN.refl p,⟨_,_,rfl,k8,rfl⟩,S.tok,h⟩
def mj (ah:aZ c f) {k:iA} (h:f.sc.names.lookup y=some k):(y==("__debug__":aI))=false:=
 beq_eq_false_iff_ne.mpr λe=>by
  have:=ah.iI
  rw[e]at h
  rw[show f.sc.names.lookup (ec "__debug__")=some k from h]at this
  cases this
def Ih (ah:aZ c f) {k:iA} (h:f.sc.names.lookup y=some k):(y==("__classdict__":aI))=false:=
 beq_eq_false_iff_ne.mpr λe=>by
  have:=ah.iJ
  rw[e]at h
  rw[show f.sc.names.lookup (ec "__classdict__")=some k from h]at this
  cases this
def dj (x:Nat):aT:=λab loc k Z=>f4 (lk loc x) λv=>k v ab
def hx.loc (ah:aZ c f) (h:f.sc.names.lookup y=some .local):f.env.kindOf y=some .local:=by
 have:=ah.em y;rw[h]at this;exact this
def to (ah:aZ c f) {pos} (k8:bf y=true) (A:f.sc.names.lookup y=some .local):a8 c aw (dj (aG y)) f (.Name y pos):=λab loc k au p s E h S G I=>by
 obtain⟨v,B,h⟩:=f5' h
 obtain⟨m,aj,F,ak,H,C⟩:=S.ex
 rcases C y v k8 B with⟨_,val,hm,D⟩|⟨q,_⟩
 ·exact vT (GX ah.kind (hx.loc ah A) (ah.locals▸F.ns) hm ⟨p,ab,v,aX.bN.refl p,D,S,h⟩) (mj ah A)
 ·rw[A]at q;rcases q with q|q<;>cases q
def wx (o:O) (k:V->Bool):Bool:=O.rec a1 a1 a1 aL aL aL (λv=>f4 v k) a1 a1 cQ aL cQ aL cQ a1 a1 a1 false aL false aL a1 aL o
def ra (x:Nat):aT:=λab loc k Z=>f4 (lk loc x) λw=>cz w λZ aB=>cq false (λo=>wx o λv=>k v ab) (bn ab aB)
def Bz' {ar:Prop} {aB:ck} {k:V->Bool} (h:cq (motive:=λZ=>Bool) false (λo=>wx o k) (bn ab aB)=true) (B:∀v,ab.t.get aB=some (.cell (some v))->k v=true->ar):ar:=by
 dsimp only[bP]at h
 cases A:ab.t.get aB with
 |none=>rw[A]at h;cases h
 |some o=>
  rw[A]at h
  cases o with
  |cell w=>obtain⟨v,rfl,h⟩:=f5' (o:=w) h;exact B v A h
  |_=>cases h
def BA (ah:aZ c f) {pos} (k8:bf y=true) (A:f.sc.names.lookup y=some .cell∨f.sc.names.lookup y=some .free):a8 c aw (ra (aG y)) f (.Name y pos):=λab loc k au p s E h S O P=>by
 obtain⟨w,C,h⟩:=f5' h
 obtain⟨G,aB,rfl,av⟩:=cJ' h
 obtain⟨v,I,J⟩:=Bz' av
 obtain⟨m,aj,F,ak,H,K⟩:=S.ex
 have L:∃k,f.sc.names.lookup y=some k:=A.elim (λq=>⟨_,q⟩) λq=>⟨_,q⟩
 obtain⟨hW,B⟩:=L
 rcases K y _ k8 C with⟨q,_⟩|⟨_,i,R,a,e,M,D⟩
 ·rw[q]at A;rcases A with q|q<;>cases q
 clear C
 ·injection e with e1 e2
  subst e1 e2
  obtain⟨af,rfl,e⟩:=M
  cases e
  obtain⟨o,x,ae,ag,val,rfl,ax⟩:=H.ent G _ af I
  have N:f.env.kindOf y=some .cell∨f.env.kindOf y=some .free:=by
   have:=ah.em y
   rcases A with q|q<;>rw[q]at this
   ·exact .inl this
   ·exact this
  have Q:cb c f p loc k val s:=⟨p,ab,v,aX.bN.refl p,ax,S,J⟩
  rcases N with q|q
  ·exact vT (wpAny_loadName_cell ah.kind q D ⟨o,ak.get ae,ag⟩ Q) (mj ah B)
  ·exact vT (wpAny_loadName_free ah.kind q D ⟨o,ak.get ae,ag⟩ Q (Ih ah B)) (mj ah B)
def d7 (c:b4) (y:aI) (val:am):Prop:=nsIn c.K iX y=some (some val)∨(nsIn c.K iX y=some none/\bootBuiltins y=some val/\y≠"__name__")
def ml {pos:bO} {val:am} {Q:am->a9->Prop} (ah:aZ c f) (B:f.sc.names.lookup y=some .globalImplicit) (g:d7 c y val) (F:Fr f.aC f.L s.heap m) (h:Q val s):
  aO (aR c.prog c.w) f.A (dP (.Name y pos) f.env) Q E s:=by
 have C:f.env.kindOf y=some .globalImplicit:=by have:=ah.em y;rw[B]at this;exact this
 rcases g with q|⟨aK,aW,bH⟩
 ·exact zU ah.kind C (loadGlobal_global (env:=f.env) (by rw[ah.globals];exact ah.T.g.keeps F.keep) (mg_of ah.X ah.T.g q) h) (mj ah B)
 ·exact zU ah.kind C (loadGlobal_builtin (env:=f.env) (by rw[ah.globals];exact ah.T.g.keeps F.keep) (mg_none_of ah.X ah.T.g aK) (by rw[ah.builtins];exact ah.T.b.keeps F.keep) ((ah.T.builtins y bH).trans aW) h) (mj ah B)
def tp (ah:aZ c f) {pos} {val:am} (A:f.sc.names.lookup y=some .globalImplicit) (g:d7 c y val) (B:∀p,aE p v val):a8 c aw (ds v) f (.Name y pos):=λab loc k au p s E h S C D=>by
 obtain⟨m,aj,F,ak,H,G⟩:=S.ex
 exact ml ah A g F ⟨p,ab,v,aX.bN.refl p,B p,S,h⟩
def rb (v:V) (y:Nat) (ab:aA) (k:aY):Bool:=cz v λZ aB=>m7 ab aB λZ ao=>f4 (lk ao y) λu=>k u ab
def BB {val:am} {ex:Bool} {loc:Loc} {k:aY} (k8:bf y=true) (h:rb v (aG y) ab k=true) (ah:aZ c f) (S:ba c f p ab loc s) (B:aE p v val):
  aO (aR c.prog c.w) f.A (sK val y ex) (cb c f p loc k) E s:=by
 obtain⟨i,aB,rfl,ae⟩:=cJ' h
 obtain⟨C,ao,D,ag⟩:=pF' ae
 obtain⟨u,G,ax⟩:=f5' ag
 obtain⟨m,aj,F,ak,H,J⟩:=S.ex
 obtain⟨af,rfl,rfl⟩:=B
 exact wr (aB:=key i) F ak H ah.X ⟨af,rfl,rfl⟩ D k8 G λw I=>⟨p,ab,u,aX.bN.refl p,I,S.tok,ax⟩
def ob:aM->Bool
 |.Call (.Name id _) [] [] _=>id !="super"
 |_=>true
def BC {bu:k0} {o:aM} {C:aI} {env:cI} {B:Sem am} {Q:am->a9->Prop} (c0:ob o=true) (h:aO bu A B Q E s):aO bu A (attributeBase o C env B) Q E s:=by
 cases o with
 |Call D args F pos=>
  cases D with
  |Name id p=>
   cases args with
   |cons _ _=>exact h
   |nil=>
    cases F with
    |cons _ _=>exact h
    |nil=>
     have pG:(id !="super")=true:=c0
     unfold attributeBase
     dsimp only
     rw[if_pos (by rw[show(id !=ec "super")=true from pG];rfl)]
     exact h
  |_=>exact h
 |_=>exact h
def Ii (dz wy pos env):dP (.Attribute dz wy pos) env=(do
  let o<-attributeBase dz wy env (dP dz env)
  sM pos.atName
  let r<-sN [o] (sK o wy true)
  letTemporaryGo dz o r
  pure r):=rfl
def tq {prog:ew} {env:cI} {dz:aM} {B:aI} {pos:bO} {Q:am->a9->Prop} (c0:ob dz=true)
  (h:aO (aR prog w) A (dP dz env) (λo C=>aO (aR prog w) A (sK o B true) Q E C) E s):
  aO (aR prog w) A (dP (.Attribute dz B pos) env) Q E s:=by
 rw[Ii]
 refine aP (BC c0 (b_ h (λo C D=>aP (lP (aP (gB (b_ D (λr G F=>?_) λZ Z x=>x))))) λZ Z x=>x))
 exact aP (wpAny_letTemporaryGo (br F))
def BD (e:aT) (y:Nat):aT:=λab loc k au=>e ab loc (λv aF=>rb v y aF k) au
def Ij (ah:aZ c f) {aV:aT} {e:aM} {pos} (he:a8 c aw aV f e) (A:ob e=true) (k8:bf y=true):a8 c aw (BD aV (aG y)) f (.Attribute e y pos):=λab loc k au p s E h S B C=>by
 refine tq A (cy (he ab loc _ au p s E h S B C) (λv I bt bw J D F G H=>?_))
 exact b_ (BB k8 H ah G F) (λZ Z q=>q.up D) λZ Z h=>h
def Int.jQ (i:Int):Bool:=iB (λn=>b2 1 n) (λZ=>true) i
def Int.Ud (i:Int):Int.jQ i=(i !=0):=by
 cases i with
 |ofNat n=>cases n<;>rfl
 |negSucc n=>rfl
def rd (v:V) (ab:aA) (k:jP):Bool:=V.rec (k false ab) (λb=>k b ab) (λi=>k (Int.jQ i) ab) aL aL a1 aL a1 v
def ts {val:am} {loc:Loc} {B:jP} (h:rd v ab B=true) (S:ba c f p ab loc s) (C:aE p v val):aO (aR c.prog c.w) f.A (truthy val) (mf c f p loc B) E s:=by
 cases v with
 |none=>cases C;exact truthy_none ⟨p,ab,aX.bN.refl p,S,h⟩
 |bool b=>cases C;exact zV ⟨p,ab,aX.bN.refl p,S,h⟩
 |int i=>obtain⟨t,rfl⟩:=C;exact truthy_int ⟨p,ab,aX.bN.refl p,S,by replace h:B (Int.jQ i) ab=true:=h;rw[Int.Ud]at h;exact h⟩
 |_=>cases h
def BE (t:c6) (b o:aT):aT:=λab loc k au=>t ab loc (λq aF=>hV q (b aF loc k au) (o aF loc k au)) au
def Ik {t b o:aM} {D:c6} {F co:aT} {pos} (J:ST c aw D f t) (K:a8 c aw F f b) (k8:a8 c aw co f o):a8 c aw (BE D F co) f (.IfExp t b o pos):=λab loc k au p s E h S B C=>by
 refine IfExp_ (kw (J ab loc _ au p s E h S B C) (λq G bt bw A H I=>?_))
 cases q with
 |true=>exact b_ (K bw loc k au bt G E I H (aw.up A B) C) (λZ Z q=>q.up A) λZ Z h=>h
 |false=>exact b_ (k8 bw loc k au bt G E I H (aw.up A B) C) (λZ Z q=>q.up A) λZ Z h=>h
def BF (t b o:c6):c6:=λab loc k au=>t ab loc (λq aF=>hV q (b aF loc k au) (o aF loc k au)) au
def Il {t b o:aM} {D F co:c6} {pos} (J:ST c aw D f t) (K:ST c aw F f b) (k8:ST c aw co f o):ST c aw (BF D F co) f (.IfExp t b o pos):=λab loc k au p s E h S B C=>by
 refine isTrue_IfExp (kw (J ab loc _ au p s E h S B C) (λq G bt bw A H I=>?_))
 cases q with
 |true=>exact b_ (K bw loc k au bt G E I H (aw.up A B) C) (λZ Z q=>q.up A) λZ Z h=>h
 |false=>exact b_ (k8 bw loc k au bt G E I H (aw.up A B) C) (λZ Z q=>q.up A) λZ Z h=>h
def BG (a b:aT):aT:=λab loc k au=>a ab loc (λv aF=>rd v aF (λq aF=>hV q (b aF loc k au) (k v aF))) au
def BH (a b:aT):aT:=λab loc k au=>a ab loc (λv aF=>rd v aF (λq aF=>hV q (k v aF) (b aF loc k au))) au
def wz {op pos e} {aV:aT} (h:a8 c aw aV f e):a8 c aw aV f (.BoolOp op [e] pos):=λab loc k au p s E cj S A B=>BoolOp_one (h ab loc k au p s E cj S A B)
def Im {pos e e2 ct} {C D:aT} (M:a8 c aw C f e) (N:a8 c aw D f (.BoolOp .And (e2::ct) pos)):a8 c aw (BG C D) f (.BoolOp .And (e::e2::ct) pos):=λab loc k au p s E h S F G=>by
 refine BoolOp_and (cy (M ab loc _ au p s E h S F G) (λR T bt bw a B H O P=>?_))
 refine kw (ts P O H) (λq Q I J A K L=>?_)
 cases q with
 |true=>exact b_ (N J loc k au I Q E L K (aw.up (B.trans A) F) G) (λZ Z q=>q.up (B.trans A)) λZ Z h=>h
 |false=>exact⟨I,J,a,B.trans A,H.ext A,K,L⟩
def Io {pos e e2 ct} {C D:aT} (M:a8 c aw C f e) (N:a8 c aw D f (.BoolOp .Or (e2::ct) pos)):a8 c aw (BH C D) f (.BoolOp .Or (e::e2::ct) pos):=λab loc k au p s E h S F G=>by
 refine BoolOp_or (cy (M ab loc _ au p s E h S F G) (λR T bt bw a B H O P=>?_))
 refine kw (ts P O H) (λq Q I J A K L=>?_)
 cases q with
 |false=>exact b_ (N J loc k au I Q E L K (aw.up (B.trans A) F) G) (λZ Z q=>q.up (B.trans A)) λZ Z h=>h
 |true=>exact⟨I,J,a,B.trans A,H.ext A,K,L⟩
def pH (a b:c6):c6:=λab loc k au=>a ab loc (λq aF=>hV q (b aF loc k au) (k false aF)) au
def BI (a b:c6):c6:=λab loc k au=>a ab loc (λq aF=>hV q (k true aF) (b aF loc k au)) au
def pI:c6:=λab Z k Z=>k true ab
def BJ:c6:=λab Z k Z=>k false ab
def Ip {pos}:ST c aw pI f (.BoolOp .And [] pos):=λab loc k au p s E h S A B=>isTrue_and_nil ⟨p,ab,aX.bN.refl p,S,h⟩
def Iq {pos}:ST c aw BJ f (.BoolOp .Or [] pos):=λab loc k au p s E h S A B=>isTrue_or_nil ⟨p,ab,aX.bN.refl p,S,h⟩
def Ir {pos e ct} {B C:c6} (K:ST c aw B f e) (L:ST c aw C f (.BoolOp .And ct pos)):ST c aw (pH B C) f (.BoolOp .And (e::ct) pos):=λab loc k au p s E h S D F=>by
 refine isTrue_and (kw (K ab loc _ au p s E h S D F) (λq M G H A I J=>?_))
 cases q with
 |true=>exact b_ (L H loc k au G M E J I (aw.up A D) F) (λZ Z q=>q.up A) λZ Z h=>h
 |false=>exact⟨G,H,A,I,J⟩
def It {pos e ct} {B C:c6} (K:ST c aw B f e) (L:ST c aw C f (.BoolOp .Or ct pos)):ST c aw (BI B C) f (.BoolOp .Or (e::ct) pos):=λab loc k au p s E h S D F=>by
 refine isTrue_or (kw (K ab loc _ au p s E h S D F) (λq M G H A I J=>?_))
 cases q with
 |false=>exact b_ (L H loc k au G M E J I (aw.up A D) F) (λZ Z q=>q.up A) λZ Z h=>h
 |true=>exact⟨G,H,A,I,J⟩
def BK (a:c6):c6:=λab loc k au=>a ab loc (λq aF=>k (hq q) aF) au
def Iu {e pos} {A:c6} (B:ST c aw A f e):ST c aw (BK A) f (.UnaryOp .Not e pos):=λab loc k au p s E h S C D=>
 isTrue_not (kw (B ab loc _ au p s E h S C D) (λq K F G H I J=>⟨F,G,H,I,J⟩))
def wA (e:aT):c6:=λab loc k au=>e ab loc (λv aF=>rd v aF k) au
def wB:aM->Bool
 |.Name .. =>true
 |.Attribute .. =>true
 |.Call .. =>true
 |.Constant .. =>true
 |.Subscript .. =>true
 |_=>false
def BL {e:aM} {env:cI} {A:Sem am} (h:wB e=true):isTrue e env A=(do let v<-A;sM e.pos;sN [v] (truthy v)):=by
 cases e<;>first|rfl|cases h
def Iv {e} {aV:aT} (he:a8 c aw aV f e) (c0:wB e=true):ST c aw (wA aV) f e:=λab loc k au p s E h S A B=>by
 refine isTrue_plain (cy (he ab loc _ au p s E h S A B) (λv H bt bw y C D F G=>?_)) (BL c0)
 exact b_ (ts G F D) (λZ Z q=>q.up C) λZ Z h=>h
def BM (a:aT):aT:=λab loc k au=>a ab loc (λv aF=>rd v aF (λq aF=>k (.bool (hq q)) aF)) au
def Iw {e pos} {aV:aT} (he:a8 c aw aV f e):a8 c aw (BM aV) f (.UnaryOp .Not e pos):=λab loc k au p s E h S A B=>by
 refine UnaryOp_ (cy (he ab loc _ au p s E h S A B) (λM N bt bw a C D F G=>?_))
 refine not_of (kw (ts G F D) (λq O H I J K L=>?_))
 exact⟨H,I,V.bool (!q),C.trans J,rfl,K,L⟩
def vInt (v:V) (k:Int->Bool):Bool:=V.rec false aL k aL aL a1 aL a1 v
def eD' {ar:Prop} {k:Int->Bool} (h:vInt v k=true) (A:∀i,v=.int i->k i=true->ar):ar:=by
 cases v with
 |int i=>exact A i rfl h
 |_=>cases h
def vStr (v:V) (k:Nat->Bool):Bool:=V.rec false aL aL aL k a1 aL a1 v
def jR' {ar:Prop} {k:Nat->Bool} (h:vStr v k=true) (A:∀i,v=.str i->k i=true->ar):ar:=by
 cases v with
 |str i=>exact A i rfl h
 |_=>cases h
def BN (a:aT):aT:=λab loc k au=>a ab loc (λv aF=>vInt v λi=>k (.int (-i)) aF) au
def Ix {e pos} {aV:aT} (he:a8 c aw aV f e):a8 c aw (BN aV) f (.UnaryOp .USub e pos):=λab loc k au p s E h S B C=>by
 refine UnaryOp_ (cy (he ab loc _ au p s E h S B C) (λH I bt bw a D F G A=>?_))
 obtain⟨i,rfl,A⟩:=eD' A
 obtain⟨t,rfl⟩:=F
 exact Tu ⟨bt,bw,V.int _,D,⟨_,rfl⟩,G.tok,A⟩
end
section
set_option exponentiation.threshold 100000
def pJ (f:Nat):Nat->Nat:=gg (motive:=λZ=>Nat->Nat) (λZ=>0) (λZ A a=>bk (bS (A (Nat.div a 128))) 0 (aU a 0)) f
def BO (f a:Nat):pJ (f+1) a=match aU a 0 with
  |true=>0
  |false=>pJ f (a/128)+1:=by
 show bk (motive:=λZ=>Nat) _ _ (aU a 0)=_
 cases aU a 0<;>rfl
def wC (a b:Nat):Nat:=bK (iC a (Nat.pow 128 (pJ 4096 b))) b
def Iy:∀(f:Nat) (l:List Nat),k_ l=true->l.length<=f->pJ f (eY l)=l.length:=by
 intro f
 induction f with
 |zero=>
  intro l _ h
  have:l=[]:=zN.mp (zO.mp h)
  subst this;rfl
 |succ f A=>
  intro l B h
  rcases oY l with rfl|⟨m,x,rfl⟩
  ·rw[BO];rfl
  ·rw[oZ]at B h⊢
   have a:=(Uc m x).mp B
   rw[lM]at h⊢
   have hm:m.length<=f:=by simpa using h
   have A:=A m a.1 hm
   rw[BO,la,d6,decide_eq_false (o_ _)]
   show pJ f ((eY m*128+(x+1))/128)+1=_
   have:(eY m*128+(x+1))/128=eY m:=th a.2
   rw[this,A];rfl
def Iz:∀(n:Nat) (m l:List Nat),l.length<=n->eY (m++l)=eY m*128^l.length+eY l:=by
 intro n
 induction n with
 |zero=>
  intro m l h
  have:l=[]:=zN.mp (zO.mp h)
  subst this
  simp[eY]
 |succ n A=>
  intro m l h
  rcases oY l with rfl|⟨r,x,rfl⟩
  ·simp[eY]
  ·rw[oZ]at h⊢
   rw[lM]at h⊢
   rw[<-List.append_assoc,la,la,A m r (by simpa using h)]
   show _=eY m*128^(r.length+1)+_
   rw[vN,Nat.add_mul,Nat.mul_assoc];exact sI _ _ _
def lg {x:aI} (B:bf x=true) (h:dc (vU (aG x)) 20000=true):x.cps.toList.length<=4000:=by
 have gen:∀(n:Nat) (l:List Nat),l.length=n->128^n<=eY l*128+1:=by
  intro n
  induction n with
  |zero=>intro l h;exact GQ _ _
  |succ n A=>
   intro l h
   rcases oY l with rfl|⟨r,x,rfl⟩
   ·cases h
   ·rw[oZ]at h⊢
    rw[lM]at h
    have:=A r (by simpa using h)
    rw[la,vN]
    exact c5 (Nat.mul_le_mul_right 128 this) (Nat.le_succ_of_le (Nat.mul_le_mul_right _ (lL (iz (hL x)) _)))
 have ae:=gen _ _ (rfl:x.cps.toList.length=_)
 have ag:vU (aG x)<20000:=ce h
 apply Nat.le_of_not_lt
 intro ax
 have aS:aG x<2^20001:=cH Nat.lt_log2_self (GY (by decide) (by lia))
 have bA:128^4001<=128^x.cps.toList.length:=GY (by decide) ax
 have cw:(128:Nat)^4001=2^(7*4001):=by
  rw[show(128:Nat)=2^7 from rfl,<-Nat.pow_mul]
 have cM:eY x.cps.toList=aG x:=rfl
 rw[cM]at ae
 have dg:(2:Nat)^20001*128+1<2^(7*4001):=by
  have:(2:Nat)^20001*128=2^20008:=by
   rw[show(128:Nat)=2^7 from rfl,<-Nat.pow_add]
  rw[this]
  have:(2:Nat)^20008<2^(7*4001):=Nat.pow_lt_pow_right (by decide) (by decide)
  have:(2:Nat)^20009<=2^(7*4001):=GY (by decide) (by decide)
  have e:(2:Nat)^20009=2^20008*2:=vN ..
  have:1<(2:Nat)^20008:=Nat.one_lt_two_pow (by decide)
  lia
 lia
def gm (a:Nat):Bool:=dc (vU a) 20000
def BP {ar:Prop} {x:aI} (B:bf x=true) (A:bf y=true) (C:gm (aG y)=true) (D:aG (x++y)=wC (aG x) (aG y)->bf (x++y)=true->ar):ar:=by
 have e:(x++y).cps.toList=x.cps.toList++y.cps.toList:=by
  show(x.cps++y.cps).toList=_
  simp
 have:=lg A C
 refine D ?_ ?_
 ·show eY (x++y).cps.toList=_
  rw[e,Iz _ _ _ (eh _)]
  show _=aG x*128^pJ 4096 (eY y.cps.toList)+aG y
  rw[Iy 4096 _ A (by lia)]
  rfl
 ·show k_ (x++y).cps.toList=true
  rw[e]
  unfold k_
  rw[GP,ed]
  exact⟨B,A⟩
end
section
def wD (i j:Int):Option Bool:=iB (λn=>iB (λm=>bk none (some true) (aU n m)) bX j) bX i
def BQ' {ar:Prop} {i j:Int} {q:Bool} (h:wD i j=some q) (A:q=true->∀(k:Nat),i=k->j=k->ar):ar:=by
 cases i with
 |negSucc n=>cases h
 |ofNat n=>
  cases j with
  |negSucc m=>cases h
  |ofNat m=>
   replace h:bk (motive:=λZ=>Option Bool) none (some true) (aU n m)=some q:=h
   rw[d6]at h
   by_cases e:n=m
   ·rw[decide_eq_true e]at h;cases h;exact A rfl n rfl (by rw[e];rfl)
   ·rw[decide_eq_false e]at h;cases h
def wE (i j:Int):Option Bool:=iB bX (λn=>gg none (λk Z=>iB (λm=>bk none (some false) (aU k m)) bX j) n) i
def BR' {ar:Prop} {i j:Int} {q:Bool} (h:wE i j=some q) (A:q=false->∀(k:Nat),i=ei (k+1)->j=k->ar):ar:=by
 cases i with
 |ofNat n=>cases h
 |negSucc n=>
  cases n with
  |zero=>cases h
  |succ n=>
   cases j with
   |negSucc m=>cases h
   |ofNat m=>
    replace h:bk (motive:=λZ=>Option Bool) none (some false) (aU n m)=some q:=h
    rw[d6]at h
    by_cases e:n=m
    ·rw[decide_eq_true e]at h;cases h;exact A rfl n rfl (by rw[e];rfl)
    ·rw[decide_eq_false e]at h;cases h
def pK (a b:V):Option Bool:=match a,b with
 |.none,.none=>some true
 |.none,.bool _=>some false
 |.none,.int _=>some false
 |.none,.str _=>some false
 |.bool _,.none=>some false
 |.bool i,.bool j=>some (i==j)
 |.bool i,.int j=>some ((if i then 1 else 0)==j)
 |.bool _,.str _=>some false
 |.int _,.none=>some false
 |.int i,.bool j=>some (i==(if j then 1 else 0))
 |.int i,.int j=>some (i==j)
 |.int _,.str _=>some false
 |.sym i,.sym j=>wD i j
 |.sym i,.int j=>wE i j
 |.str _,.none=>some false
 |.str _,.bool _=>some false
 |.str _,.int _=>some false
 |.str u,.str v=>some (aU u v)
 |_,_=>none
def wF {a b:V} {D E:am} {q:Bool} (h:pK a b=some q) (B:aE p a D) (C:aE p b E):pf A s D E q/\SeqAt.RcNeAt A s D E (!q):=by
 cases a<;>cases b<;>first|(exact nomatch (show(none:Option Bool)=some q from h))|skip
 ·cases h;cases B;cases C;exact⟨.none_none,.none_none⟩
 ·cases h;cases B;cases C;exact⟨.none_bool _,.none_bool _⟩
 ·cases h;cases B;obtain⟨u,rfl⟩:=C;exact⟨.none_int _ _,.none_int _ _⟩
 ·cases h;cases B;obtain⟨_,u,rfl,_⟩:=C;exact⟨.none_str _ _,.none_str _ _⟩
 ·cases h;cases B;cases C;exact⟨.bool_none _,.bool_none _⟩
 ·cases h;cases B;cases C;exact⟨.bool_bool _ _,.bool_bool _ _⟩
 ·cases h;cases B;obtain⟨u,rfl⟩:=C;exact⟨.bool_int _ _ _,.bool_int _ _ _⟩
 ·cases h;cases B;obtain⟨_,u,rfl,_⟩:=C;exact⟨.bool_str _ _ _,.bool_str _ _ _⟩
 ·cases h;obtain⟨t,rfl⟩:=B;cases C;exact⟨.int_none _ _,.int_none _ _⟩
 ·cases h;obtain⟨t,rfl⟩:=B;cases C;exact⟨.int_bool _ _ _,.int_bool _ _ _⟩
 ·cases h;obtain⟨t,rfl⟩:=B;obtain⟨u,rfl⟩:=C;exact⟨.int_int _ _ _ _,.int_int _ _ _ _⟩
 ·cases h;obtain⟨t,rfl⟩:=B;obtain⟨_,u,rfl,_⟩:=C;exact⟨.int_str _ _ _ _,.int_str _ _ _ _⟩
 ·obtain⟨rfl,k,ae,ag⟩:=BR' h
  obtain⟨i,t,rfl,fG⟩:=B;obtain⟨u,rfl⟩:=C
  have e:=(fG k).2 ae
  rw[<-ag]at e
  have e:=beq_eq_false_iff_ne.mpr e
  rw[<-e]
  exact⟨.int_int _ _ _ _,.int_int _ _ _ _⟩
 ·obtain⟨rfl,k,ae,ag⟩:=BQ' h
  obtain⟨i,t,rfl,fG⟩:=B;obtain⟨j,u,rfl,F⟩:=C
  have e:i=j:=((fG k).1 ae).trans ((F k).1 ag).symm
  clear F
  subst e
  have e:(i==i)=true:=beq_self_eq_true i
  rw[<-e]
  exact⟨.int_int _ _ _ _,.int_int _ _ _ _⟩
 ·cases h;obtain⟨_,u,rfl,_⟩:=B;cases C;exact⟨.str_none _ _,.str_none _ _⟩
 ·cases h;obtain⟨_,u,rfl,_⟩:=B;cases C;exact⟨.str_bool _ _ _,.str_bool _ _ _⟩
 ·cases h;obtain⟨_,u,rfl,_⟩:=B;obtain⟨u,rfl⟩:=C;exact⟨.str_int _ _ _ _,.str_int _ _ _ _⟩
 ·cases h;obtain⟨s1,t,rfl,o1,rfl⟩:=B;obtain⟨a5,u,rfl,o2,rfl⟩:=C
  have e:(s1==a5)=aU (aG s1) (aG a5):=by
   rw[d6]
   by_cases q:s1=a5
   clear o2
   ·subst q;simp
   ·have:¬aG s1=aG a5:=λz=>q (gW o1 o2 z)
    rw[decide_eq_false this];exact beq_eq_false_iff_ne.mpr q
  rw[<-e]
  exact⟨.str_str _ _ _ _,.str_str _ _ _ _⟩
def wG {a b:V} {D E:am} {q:Bool} (h:pK a b=some q) (B:aE p a D) (C:aE p b E):ja A s D E q:=by
 cases a<;>cases b<;>first|(exact nomatch (show(none:Option Bool)=some q from h))|skip
 ·cases h;cases B;cases C;exact .same _
 ·cases h;cases B;cases C;exact .none_bool _
 ·cases h;cases B;obtain⟨u,rfl⟩:=C;exact .none_int _ _
 ·cases h;cases B;obtain⟨_,u,rfl,_⟩:=C;exact .none_str _ _
 ·cases h;cases B;cases C;exact .bool_none _
 ·cases h;cases B;cases C;exact .bool_bool _ _
 ·cases h;cases B;obtain⟨u,rfl⟩:=C;exact .bool_int _ _ _
 ·cases h;cases B;obtain⟨_,u,rfl,_⟩:=C;exact .bool_str _ _ _
 ·cases h;obtain⟨t,rfl⟩:=B;cases C;exact .int_none _ _
 ·cases h;obtain⟨t,rfl⟩:=B;cases C;exact .int_bool _ _ _
 ·cases h;obtain⟨t,rfl⟩:=B;obtain⟨u,rfl⟩:=C;exact .int_int _ _ _ _
 ·cases h;obtain⟨t,rfl⟩:=B;obtain⟨_,u,rfl,_⟩:=C;exact .int_str _ _ _ _
 ·obtain⟨rfl,k,ae,ag⟩:=BR' h
  obtain⟨i,t,rfl,fG⟩:=B;obtain⟨u,rfl⟩:=C
  have e:=(fG k).2 ae
  rw[<-ag]at e
  have e:=beq_eq_false_iff_ne.mpr e
  rw[<-e]
  exact .int_int _ _ _ _
 ·obtain⟨rfl,k,ae,ag⟩:=BQ' h
  obtain⟨i,t,rfl,fG⟩:=B;obtain⟨j,u,rfl,F⟩:=C
  have e:i=j:=((fG k).1 ae).trans ((F k).1 ag).symm
  clear F
  subst e
  have e:(i==i)=true:=beq_self_eq_true i
  rw[<-e]
  exact .int_int _ _ _ _
 ·cases h;obtain⟨_,u,rfl,_⟩:=B;cases C;exact .str_none _ _
 ·cases h;obtain⟨_,u,rfl,_⟩:=B;cases C;exact .str_bool _ _ _
 ·cases h;obtain⟨_,u,rfl,_⟩:=B;obtain⟨u,rfl⟩:=C;exact .str_int _ _ _ _
 ·cases h;obtain⟨s1,t,rfl,o1,rfl⟩:=B;obtain⟨a5,u,rfl,o2,rfl⟩:=C
  have e:(s1==a5)=aU (aG s1) (aG a5):=by
   rw[d6]
   by_cases q:s1=a5
   clear o2
   ·subst q;simp
   ·have:¬aG s1=aG a5:=λz=>q (gW o1 o2 z)
    rw[decide_eq_false this];exact beq_eq_false_iff_ne.mpr q
  rw[<-e]
  exact .str_str _ _ _ _
def Int.dt (i j:Int):Bool:=iB (λn=>iB (λm=>aU n m) aL j) (λn=>iB aL (λm=>aU n m) j) i
def Int.lt' (i j:Int):Bool:=iB (λn=>iB (λm=>dc n m) aL j) (λn=>iB (λZ=>true) (λm=>dc m n) j) i
def Int.ky (i j:Int):Int.dt i j=(i==j):=by
 cases i with
 |ofNat n=>cases j with
  |ofNat m=>
   show aU n m=_
   rw[d6]
   by_cases e:n=m
   ·subst e;simp
   ·have:¬bl n=bl m:=λq=>e (GZ q)
    rw[decide_eq_false e];exact(beq_eq_false_iff_ne.mpr this).symm
  |negSucc m=>exact(beq_eq_false_iff_ne.mpr (by intro q;cases q)).symm
 |negSucc n=>cases j with
  |ofNat m=>exact(beq_eq_false_iff_ne.mpr (by intro q;cases q)).symm
  |negSucc m=>
   show aU n m=_
   rw[d6]
   by_cases e:n=m
   ·subst e;simp
   ·have:¬ei n=ei m:=λq=>e (Tv q)
    rw[decide_eq_false e];exact(beq_eq_false_iff_ne.mpr this).symm
def BS (a b:Nat):dc a b=decide (a<b):=by
 cases h:dc a b with
 |true=>exact(decide_eq_true (ce h)).symm
 |false=>exact(decide_eq_false λq=>by have:=mP (n:=a+1) (m:=b) q;rw[show dc a b=b2 (a+1) b from rfl]at h;rw[h]at this;cases this).symm
def Int.lt'_eq (i j:Int):Int.lt' i j=decide (i<j):=by
 cases i with
 |ofNat n=>cases j with
  |ofNat m=>
   show dc n m=_
   rw[BS]
   by_cases e:n<m
   ·rw[decide_eq_true e];exact(decide_eq_true (by show(n:Int)<m;lia)).symm
   ·rw[decide_eq_false e];exact(decide_eq_false (by show¬(n:Int)<m;lia)).symm
  |negSucc m=>exact(decide_eq_false (by show¬(n:Int)<ei m;lia)).symm
 |negSucc n=>cases j with
  |ofNat m=>exact(decide_eq_true (by show ei n<(m:Int);lia)).symm
  |negSucc m=>
   show dc m n=_
   rw[BS]
   by_cases e:m<n
   ·rw[decide_eq_true e];exact(decide_eq_true (by lia)).symm
   ·rw[decide_eq_false e];exact(decide_eq_false (by lia)).symm
def lh (b:Bool):Int:=bk (bl 0) (bl 1) b
def mm (a b:Bool):Bool:=bk (hq b) b a
abbrev pL (n:Option Bool) (b:Bool->Option Bool) (i s:Int->Option Bool) (t:Nat->Option Bool) (v:V):Option Bool:=V.rec n b i s t de bX de v
def eL:Option Bool:=some false
def fQ (a b:V):Option Bool:=pL (pL (some true) (λZ=>eL) (λZ=>eL) (λZ=>none) (λZ=>eL) b)
 (λp=>pL eL (λq=>some (mm p q)) (λj=>some (Int.dt (lh p) j)) (λZ=>none) (λZ=>eL) b)
 (λi=>pL eL (λq=>some (Int.dt i (lh q))) (λj=>some (Int.dt i j)) (λZ=>none) (λZ=>eL) b)
 (λi=>pL none (λZ=>none) (λj=>wE i j) (λj=>wD i j) (λZ=>none) b)
 (λs=>pL eL (λZ=>eL) (λZ=>eL) (λZ=>none) (λt=>some (aU s t)) b) a
set_option tactic.hygienic true in
def re (a b:V) {q:Bool} (h:fQ a b=some q):pK a b=some q:=by
 rw[<-h]
 clear h
 cases a<;>cases b<;>first|rfl|(show pK _ _=some (Int.dt _ _);rw[Int.ky]at⊢;rfl)|(show pK _ _=some (Int.dt (lh _) _);rw[Int.ky]at⊢;rename_i x y;cases x<;>rfl)|(show pK _ _=some (Int.dt _ (lh _));rw[Int.ky]at⊢;rename_i x y;cases y<;>rfl)|(rename_i x y;cases x<;>cases y<;>rfl)
end
def bD (aB:ck) (o:O) (ab:aA):aA:=aA.rec (λt n bz=>⟨T.put o aB t,n,bz⟩) ab
def jS (aB:ck) (o:O) (ab:aA):(bD aB o ab).t=T.put o aB ab.t:=by cases ab;rfl
def dq.bD (z:dq p ab) (aB:ck) (o:O):dq p (bD aB o ab):=by cases ab;exact⟨z.ay,z.bz⟩
section
variable {loc:Loc} {aj:bc}
def Fr.one {aC h av:bE} {L:a7} {aj:bc} {x:a7} {o:bY} (F:Fr aC L h m) (ak:News aC L h aj) (hm:(x,o)∈aj) (hs:sO x h av):Fr aC L av m:=by
 have q:=ak _ hm
 obtain⟨A,es,az,B,r⟩:=F.ns
 refine⟨⟨A,es,az,hs L A (h6 q.2.1) B,r⟩,λb bU e=>hs b bU (λz=>?_) (F.keep b bU e),F.above⟩
 rw[z,q.2.2]at e;cases e
def kz {av:bE} {bo:Nat} {o bC:bY} {v:O} (S:ba c f p ab loc s) (F:Fr f.aC f.L s.heap m) (ak:News f.aC f.L s.heap aj) (H:aQ c.K c.w p ab.t aj) (B:db f p loc m)
  (af:i<p.ay) (lv:bG ab.t i) (hm:(p.a i,o)∈aj) (hs:k2 (p.a i) s.heap av) (k8:av.get? (p.a i)=some bC)
  (he:∀a3,(p.a i,bC)∈a3->(∀q∈aj,q.1≠p.a i->q∈a3)->ch c.K c.w p a3 i v):ba c f p (bD (key i) v ab) loc {s with heap:=av,toks:=bo}:=by
 have C:=Fr.one F ak hm hs.extBut
 obtain⟨pre,post,rfl,ae,ag⟩:=tj H.a_ hm,hm
 have D:=News.setAt ak ae ag hs k8
 refine⟨⟨m,_,C,D,?_,B⟩,S.gens,S.os,S.z.bD _ _,S.n,S.y⟩
 rw[jS]
 refine aQ.turn H af lv (.inl rfl) (he _ (dD _ (.head _)) λq A E=>?_)
 rcases gA.mp A with A|A
 ·exact gS _ A
 ·rcases bJ.mp A with rfl|A
  ·exact absurd rfl E
  ·exact dD _ (.tail _ A)
def IA {av:bE} {bo:Nat} {o:bY} (S:ba c f p ab loc s) (F:Fr f.aC f.L s.heap m) (ak:News f.aC f.L s.heap aj) (H:aQ c.K c.w p ab.t aj) (B:db f p loc m)
  (af:i<p.ay) (lv:bG ab.t i) (hm:(p.a i,o)∈aj) (hs:sO (p.a i) s.heap av):ba c f p (bD (key i) .dead ab) loc {s with heap:=av,toks:=bo}:=by
 have C:=Fr.one F ak hm hs
 obtain⟨pre,post,rfl,ae,ag⟩:=tj H.a_ hm,hm
 refine⟨⟨m,pre++post,C,λq A=>?_,?_,B⟩,S.gens,S.os,S.z.bD _ _,S.n,S.y⟩
 ·rcases gA.mp A with A|A
  ·have:=ak q (gS _ A);exact⟨hs _ _ (ae q A) this.1,this.2⟩
  ·have:=ak q (dD _ (.tail _ A));exact⟨hs _ _ (ag q A) this.1,this.2⟩
 ·rw[jS];exact aQ.kill H af lv rfl
def aQ.one {y:a7} {bU:bY} {o:O} {e:Nat} (H:aQ K w p ab.t aj) (z:dq p ab) (hs:ab.ay<4000) (A:∀q∈aj,q.1<y) (he:ch K w (p.da y y e) ((y,bU)::aj) p.ay o):aQ K w (p.da y y e) (T.put o ab.bz ab.t) ((y,bU)::aj):=by
 have C:aQ K w p ab.t ([(y,bU)]++aj):=aQ.wide H (by
  show(y::aj.map (·.1)).Nodup
  refine g7.mpr ⟨λh=>?_,H.a_⟩
  obtain⟨q,B,bF⟩:=ey.mp h
  exact absurd bF (dS (A q B)))
 have ap:∀i,i<p.ay->bG ab.t i->p.a i≠y/\p.b i≠y:=λi af li=>by
  obtain⟨⟨o,D⟩,bC,E⟩:=H.mem i af li
  exact⟨dS (A _ D),dS (A _ E)⟩
 exact aQ.tl C z hs ⟨⟨bU,.head _⟩,bU,.head _⟩ ap ap (λq B=>⟨dS (A q (H.a6 q B)),dS (A q (H.a6 q B))⟩) he
def rg {av:bE} {bo:Nat} {y:a7} {bU:bY} {o:O} {e:Nat} (S:ba c f p ab loc s) (H:aQ c.K c.w p ab.t aj) (A:db f p loc m) (hs:ab.ay<4000) (B:Fr f.aC f.L av m) (C:News f.aC f.L av ((y,bU)::aj)) (D:∀q∈aj,q.1<y)
  (he:∀a3,(y,bU)∈a3->ch c.K c.w (p.da y y e) a3 p.ay o):ba c f (p.da y y e) ⟨T.put o ab.bz ab.t,ab.ay+1,g8 ab.bz⟩ loc {s with heap:=av,toks:=bo}:=
 ⟨⟨m,_,B,C,aQ.one H S.z hs D (he _ (.head _)),A.ext (p.kt y y e)⟩,S.gens,S.os,S.z.more hs y y _,S.n,S.y⟩
def fj {y z:a7} {e:Nat}:(p.da y z e).a p.ay=y:=if_pos rfl
def wH {y z:a7} {e:Nat}:(p.da y z e).e p.ay=e:=if_pos rfl
end
section
variable {prog:ew}
def jN.key {f:Nat×V} {e:cu} (h:jN w p f e):∃x t,e.key=.str x t/\bf x=true/\aG x=f.1/\e.hash=mR w x:=by
 obtain⟨⟨⟨x,t,e1,e2,e3⟩,ag⟩,_⟩:=h
 exact⟨x,t,e1,e2,e3,ag x t e1⟩
def cm.keysOf:∀{ao:List (Nat×V)} {es:List cu},cm w p ao es->KeysOf (strKind prog w) es.toArray:=λ{ao es} h e he=>by
 have he:e∈es:=by simpa using he
 have gen:∀{ao:List (Nat×V)} {es:List cu},cm w p ao es->e∈es->∃f,jN w p f e:=by
  intro ao es h
  induction h with
  |nil=>intro h;cases h
  |cons ae _ A=>
    intro he;rcases bJ.mp he with rfl|he
    ·exact⟨_,ae⟩
    ·exact A he
 obtain⟨f,ah⟩:=gen h he
 obtain⟨x,t,e1,_,_,e4⟩:=ah.key
 exact⟨x,by rw[e1];exact lQ prog w x t,e4⟩
def hy (p:aX) (f:Nat×V) (A:aI×am):Prop:=(bf A.1=true/\aG A.1=f.1)/\aE p f.2 A.2
def cm.pairs:∀{ao:List (Nat×V)} {es:List cu},cm w p ao es->∃A:List (aI×am),Pairs (strKind prog w) es A/\All2 (hy p) ao A:=by
 intro ao es h
 induction h with
 |nil=>
  exact⟨[],Pairs.nil,All2.nil⟩
 |@cons f e l m h t B=>
  obtain⟨A,ae,ag⟩:=B
  obtain⟨x,bo,e1,e2,e3,e4⟩:=h.key
  exact⟨(x,e.val)::A,Pairs.cons (by show(strKind prog w).is x e.key=true;rw[e1];exact lQ prog w x bo) rfl ae,All2.cons ⟨⟨e2,e3⟩,h.2⟩ ag⟩
def hy.nodup:∀{ao:List (Nat×V)} {A:List (aI×am)},All2 (hy p) ao A->(ao.map (·.1)).Nodup->(A.map (·.1)).Nodup:=by
 intro ao A h
 induction h with
 |nil=>
  intro _
  exact .nil
 |@cons f D l m h t B=>
  intro a_
  rw[d4,g7]at a_⊢
  refine⟨λhm=>a_.1 ?_,B a_.2⟩
  obtain⟨q,C,e⟩:=ey.mp hm
  have gen:∀{ao:List (Nat×V)} {A:List (aI×am)},All2 (hy p) ao A->q∈A->aG q.1∈ao.map (·.1):=by
   intro ao A h
   induction h with
   |nil=>intro h;cases h
   |cons ae _ B=>
     intro he;rcases bJ.mp he with rfl|he
     ·rw[d4,ae.1.2];exact .head _
     ·exact .tail _ (B he)
  have:=gen t C
  rw[e,h.1.2]at this;exact this
def hy.valueAt:∀{ao:List (Nat×V)} {A:List (aI×am)},All2 (hy p) ao A->∀{x:aI},bf x=true->(∀v,lk ao (aG x)=some v->∃val,G0 A x=some val/\aE p v val)/\(lk ao (aG x)=hM->G0 A x=none):=by
 intro ao A h
 induction h with
 |nil=>
  intro x _
  exact⟨λv h=>(by rw[n_]at h;cases h),λZ=>rfl⟩
 |@cons f C l m h t D=>
  intro x B
  obtain⟨ae,ag⟩:=D B
  rw[gE,d6]
  unfold G0 at ae ag⊢
  rw[vQ]
  by_cases e:C.1=x
  clear B ae ag
  ·subst e
   have:f.1=aG C.1:=h.1.2.symm
   rw[decide_eq_true this]
   rw[decide_eq_true rfl]
   exact⟨λv E=>by cases E;exact⟨_,rfl,h.2⟩,λq=>by cases q⟩
  ·have:¬f.1=aG x:=λq=>e (gW h.1.1 B (h.1.2.trans q))
   rw[decide_eq_false this]
   rw[decide_eq_false e]
   exact⟨ae,ag⟩
def pM (es:List cu) (az:Nat):(dd es az).ExactDict:=⟨rfl,rfl,rfl⟩
def cm.mapOf {h:bE} {a:a7} {ao:List (Nat×V)} {es:List cu} {az:Nat} (r:cm w p ao es) (k8:h.get? a=some (dd es az)):h.MapOf (strKind prog w) a (λk=>findBy mU es.toArray k):=
 ⟨_,_,az,k8,pM es az,rfl,r.keysOf,λZ=>rfl⟩
def cm.find {ao:List (Nat×V)} {es:List cu} (r:cm w p ao es) {x:aI} (A:bf x=true):(∀v,lk ao (aG x)=some v->∃val,findBy mU es.toArray x=some val/\aE p v val)/\(lk ao (aG x)=hM->findBy mU es.toArray x=none):=by
 have q:(λd:cu=>mU x d.key)=λd=>d.key.isStr x:=funext λd=>(isStr_of x d.key).symm
 unfold findBy
 rw[List.find?_toArray,q]
 refine⟨λv B=>?_,λC=>?_⟩
 ·obtain⟨e,he,D⟩:=Ba A r B
  rw[he];exact⟨_,rfl,D⟩
 ·rw[Bb A r C];rfl
def cm.dictAt {h:bE} {a:a7} {ao:List (Nat×V)} {es:List cu} {az:Nat} (r:cm w p ao es) (a_:(ao.map (·.1)).Nodup) (k8:h.get? a=some (dd es az)):∃A:List (aI×am),h.DictAt (strKind prog w) a A az/\All2 (hy p) ao A:=by
 obtain⟨A,ae,ag⟩:=r.pairs (prog:=prog)
 exact⟨A,⟨_,_,k8,pM es az,rfl,r.keysOf,ae,hy.nodup ag a_⟩,ag⟩
end
section
variable {prog:ew}
def BU {d:a7} {es:List cu} {az:Nat} {name:aI} {t:Tok} {v:am} {Q:Unit->a9->Prop} (k8:s.heap.get? d=some (dd es az)) (G:KeysOf (strKind prog w) es.toArray) (I:es.length<=1000)
  (D:∀av,av.get? d=some (dd (putL name (mR w name) (.str name t) v es) (putN name es az))->k2 d s.heap av->Q () {s with heap:=av,toks:=s.toks+1}):
  aO (aR prog w) A (pg d (.str name t) v) Q E s:=by
 have F:=lQ prog w name t
 unfold pg
 try with_reducible refine gB ?_
 refine aP ((strKind prog w).pyHash F ?_)
 unfold dictSetHashed
 try with_reducible refine gB ?_
 refine aP (wpAny_dictFind_of (s:={s with toks:=s.toks+1}) F k8 rfl G ?_)
 have H:(λe:cu=>(strKind prog w).is name e.key)=λe=>e.key.isStr name:=funext λe=>(isStr_of name e.key).symm
 rw[H]
 have B:=putL_find name (mR w name) (.str name t) v es
 have C:=any_of_findIdx name es
 rw[List.findIdx?_toArray]
 cases af:es.findIdx? (λx=>x.key.isStr name)with
 |some i=>
  rw[af]at B C
  refine aP (ph (aP (G1 (s:={s with toks:=s.toks+1}) k8 rfl (wpAny_point (D _ ?_ (k3 ..))))))
  rw[ki _ k8 (by rfl)]
  congr 1
  unfold putN;rw[<-C,<-B]
  show sP (λa=>a.modify i _) (dd es az)=dd _ _
  simp only[sP,G2,Option.isSome_some,if_true]
 |none=>
  rw[af]at B C
  refine aP (ph (G3 (s:={s with toks:=s.toks+1}) (hz:=by simp;have:hr=16777216:=rfl;lia) k8 rfl (D _ ?_ (k3 ..))))
  rw[ki _ k8 (by rfl)]
  congr 1
  unfold putN;rw[<-C,<-B]
  show _=dd _ _
  simp[G4,PySem.strKind]
def IB {d:a7} {es:List cu} {az:Nat} {name:aI} {t:Tok} {v:am} {Q:Unit->a9->Prop} (k8:s.heap.get? d=some (dd es az)) (B:KeysOf (strKind prog w) es.toArray) (C:es.length<=1000)
  (D:∀av,av.get? d=some (dd (putL name (mR w name) (.str name t) v es) (putN name es az))->k2 d s.heap av->Q () {s with heap:=av,toks:=s.toks+1}):
  aO (aR prog w) A (sQ (.ref d) (.str name t) v) Q E s:=by
 have bj:s.TypeIs (.ref d) "dict":=⟨_,k8,rfl⟩
 unfold sQ
 try with_reducible refine gB ?_
 refine aP (wpAny_sequenceKey bj (by decide) ?_)
 refine aP (sR (name:=ec "__setitem__") bj zW
  (mV zW bj entry_dict_setitem ?_ (args_dict_setitem _ _ _)))
 show aO _ _ (Tw "__setitem__" ⟨[.ref d,.str name t,v],[]⟩>>=_) _ _ s
 refine aP (sS bj ?_)
 show aO _ _ (pg d (.str name t) v>>=_) _ _ s
 exact aP (BU k8 B C λav ae ag=>br ⟨_,rfl,br (D av ae ag)⟩)
end
def fv (o:Option O) (A:List V->Bool):Bool:=cq false (λo=>O.rec a1 a1 a1 A aL aL aL a1 a1 cQ aL cQ aL cQ a1 a1 a1 false aL false aL a1 aL o) o
def gn' {ar:Prop} {o:Option O} {A:List V->Bool} (h:fv o A=true) (C:∀B,o=some (.list B)->A B=true->ar):ar:=by
 cases o with
 |none=>cases h
 |some o=>
  cases o with
  |list _=>exact C _ rfl h
  |_=>cases h
def ic (o:Option O) (A:List V->Bool):Bool:=cq false (λo=>O.rec a1 a1 a1 aL A aL aL a1 a1 cQ aL cQ aL cQ a1 a1 a1 false aL false aL a1 aL o) o
def m8' {ar:Prop} {o:Option O} {A:List V->Bool} (h:ic o A=true) (C:∀B,o=some (.tuple B)->A B=true->ar):ar:=by
 cases o with
 |none=>cases h
 |some o=>
  cases o with
  |tuple _=>exact C _ rfl h
  |_=>cases h
def jg (o:Option O) (A:Nat->List (Nat×V)->Bool):Bool:=cq false (λo=>O.rec a1 A a1 aL aL aL aL a1 a1 cQ aL cQ aL cQ a1 a1 a1 false aL false aL a1 aL o) o
def lj' {ar:Prop} {o:Option O} {A:Nat->List (Nat×V)->Bool} (h:jg o A=true) (D:∀B C,o=some (.dict B C)->A B C=true->ar):ar:=by
 cases o with
 |none=>cases h
 |some o=>
  cases o with
  |dict _ _=>exact D _ _ rfl h
  |_=>cases h
def wI (o:Option O) (A:List V->Option Bool) (B:List V->Option Bool):Option Bool:=cq none (λo=>O.rec de de de A B bX bX de de (λZ Z Z Z=>none) bX (λZ Z Z Z=>none) bX (λZ Z Z Z=>none) de de de none bX none bX de bX o) o
section
def tu (x y:Option Bool):Option Bool:=cq none (λu=>cq none (λv=>some (aN u v)) y) x
def BV {ar:Prop} {x y:Option Bool} {q:Bool} (h:tu x y=some q) (A:∀u v,x=some u->y=some v->q=(u&&v)->ar):ar:=by
 cases x with
 |none=>cases h
 |some u=>cases y with
  |none=>cases h
  |some v=>cases h;exact A u v rfl rfl rfl
def pN (g:V->V->Option Bool) (xs:List V):List V->Option Bool:=bW (motive:=λZ=>List V->Option Bool) (λA=>bW (some true) (λZ Z Z=>eL) A)
 (λa Z B A=>bW eL (λb m Z=>tu (g a b) (B m)) A) xs
def cK (g:V->V->Option Bool) (a b:V):Option Bool:=V.rec (fQ a b) (λZ=>fQ a b) (λZ=>fQ a b) (λZ=>fQ a b) (λZ=>fQ a b)
 (λi Z=>V.rec none bX bX bX bX (λj Z=>bk (g a b) (some true) (aU i j)) bX de b) bX de a
def wJ (g:V->V->Option Bool) (o1 o2:Option O):Option Bool:=wI o1 (λxs=>wI o2 (λA=>pN (cK g) xs A) (λZ=>none)) (λxs=>wI o2 (λZ=>none) (λA=>pN (cK g) xs A))
def g9 (ab:aA) (n:Nat):V->V->Option Bool:=gg (motive:=λZ=>V->V->Option Bool) fQ (λZ A a b=>V.rec (fQ a b) (λZ=>fQ a b) (λZ=>fQ a b) (λZ=>fQ a b) (λZ=>fQ a b)
 (λZ k=>V.rec none bX bX bX bX (λZ l=>wJ A (bn ab k) (bn ab l)) bX de b) bX de a) n
def BW {g:V->V->Option Bool} {o1 o2:Option O} {q:Bool} (h:wJ g o1 o2=some q):(∃xs A,o1=some (.list xs)/\o2=some (.list A)/\pN (cK g) xs A=some q)∨(∃xs A,o1=some (.tuple xs)/\o2=some (.tuple A)/\pN (cK g) xs A=some q):=by
 cases o1 with
 |none=>cases h
 |some o1=>
  cases o1 with
  |list xs=>
   cases o2 with
   |none=>cases h
   |some o2=>cases o2 with
    |list A=>exact .inl ⟨xs,A,rfl,rfl,h⟩
    |_=>cases h
  |tuple xs=>
   cases o2 with
   |none=>cases h
   |some o2=>cases o2 with
    |tuple A=>exact .inr ⟨xs,A,rfl,rfl,h⟩
    |_=>cases h
  |_=>cases h
def BX {a b:V} {q:Bool} (h:g9 ab (n+1) a b=some q):fQ a b=some q∨∃i k j l,a=.own i k/\b=.own j l/\wJ (g9 ab n) (ab.t.get k) (ab.t.get l)=some q:=by
 cases a with
 |own i k=>cases b with
  |own j l=>exact .inr ⟨i,k,j,l,rfl,rfl,by rw[<-bP,<-bP];exact h⟩
  |_=>cases h
 |gnd a=>cases h
 |_=>exact .inl h
def IC {g:V->V->Option Bool} {a b:V} {q:Bool} (h:cK g a b=some q):fQ a b=some q∨∃i k j l,a=.own i k/\b=.own j l/\((i=j/\q=true)∨(i≠j/\g a b=some q)):=by
 cases a with
 |own i k=>cases b with
  |own j l=>
   replace h:bk (motive:=λZ=>Option Bool) (g (.own i k) (.own j l)) (some true) (aU i j)=some q:=h
   rw[d6]at h
   by_cases e:i=j
   ·rw[decide_eq_true e]at h;cases h;exact .inr ⟨i,k,j,l,rfl,rfl,.inl ⟨e,rfl⟩⟩
   ·rw[decide_eq_false e]at h;exact .inr ⟨i,k,j,l,rfl,rfl,.inr ⟨e,h⟩⟩
  |_=>cases h
 |gnd a=>cases h
 |_=>exact .inl h
def BY {g:V->V->Option Bool} {R:am->am->Bool->Prop} (E:∀a b A B q,g a b=some q->aE p a A->aE p b B->R A B q):
  ∀{xs C:List V} {ai cS:List am} {q:Bool},pN g xs C=some q->All2 (aE p) xs ai->All2 (aE p) C cS->
   ∃e:Nat->Bool,(∀j (ae:j<ai.length) (ag:j<cS.length),R ai[j] cS[j] (e j))/\q=((sT (min ai.length cS.length)).all e&&ai.length==cS.length):=by
 intro xs C ai cS q h F D
 induction F generalizing C cS q with
 |nil=>cases D<;>exact⟨λZ=>true,λj ae=>absurd ae (iD _),by cases h;simp⟩
 |@cons a A l ai ae t1 G=>
  cases D with
  |nil=>exact⟨λZ=>true,λj Z ae=>absurd ae (iD _),by cases h;simp⟩
  |@cons b B m cS ag b8=>
  obtain⟨u,v,H,I,rfl⟩:=BV (x:=g a b) (y:=pN g l m) h,h
  obtain⟨e,he,J⟩:=G I b8
  refine⟨λj=>match j with|0=>u|j+1=>e j,λj K L=>?_,?_⟩
  ·cases j with
   |zero=>exact E _ _ _ _ _ H ae ag
   |succ j=>exact he j (pi K) (pi L)
  ·rw[J]
   have e1:min (A::ai).length (B::cS).length=min ai.length cS.length+1:=Nat.succ_min_succ _ _
   rw[e1,Tx,oX,List.all_map]
   have e2:((A::ai).length==(B::cS).length)=(ai.length==cS.length):=show decide _=decide _ from decide_eq_decide.mpr Tz
   rw[e2,Bool.and_assoc]
   rfl
def aQ.list {ar:Prop} {t:T} {aj:bc} {aC h:bE} {L:a7} {xs:List V} (ak:News aC L h aj) (H:aQ K w p t aj) (af:i<p.ay) (k8:t.get (key i)=some (.list xs)) (A:∀ai,h.IsList (p.a i) ai.toArray->All2 (aE p) xs ai->ar):ar:=by
 obtain⟨ai,n,ae,ag⟩:=H.ent i _ af k8
 exact A ai ⟨_,ak.get ae,rfl,n,rfl⟩ ag
def aQ.BZ {ar:Prop} {t:T} {aj:bc} {aC h:bE} {L:a7} {xs:List V} (ak:News aC L h aj) (H:aQ K w p t aj) (af:i<p.ay) (k8:t.get (key i)=some (.list xs)∨t.get (key i)=some (.rlist xs)) (A:∀ai,h.IsList (p.a i) ai.toArray->All2 (aE p) xs ai->ar):ar:=by
 obtain⟨ai,n,ae,ag⟩:=H.H1 af k8
 exact A ai ⟨_,ak.get ae,rfl,n,rfl⟩ ag
def aQ.tup {ar:Prop} {t:T} {aj:bc} {aC h:bE} {L:a7} {xs:List V} (ak:News aC L h aj) (H:aQ K w p t aj) (af:i<p.ay) (k8:t.get (key i)=some (.tuple xs)) (A:∀ai,h.IsTuple (p.a i) ai.toArray->All2 (aE p) xs ai->ar):ar:=by
 obtain⟨ai,n,ae,ag⟩:=H.ent i _ af k8
 exact A ai ⟨_,ak.get ae,rfl,n,rfl⟩ ag
def B0 {q:Bool} (h:g9 ab n (.own i (key i)) (.own j (key j))=some q):bG ab.t i/\bG ab.t j:=by
 cases n with
 |zero=>cases h
 |succ n=>
  rcases BX h with h|⟨B,k,C,l,e1,e2,h⟩
  ·cases h
  ·cases e1;cases e2
   rcases BW h with⟨xs,A,ae,ag,_⟩|⟨xs,A,ae,ag,_⟩
   ·exact⟨⟨_,ae,rfl⟩,_,ag,rfl⟩
   ·exact⟨⟨_,ae,rfl⟩,_,ag,rfl⟩
def wK {aj:bc} {aC:bE} {L:a7} (ak:News aC L s.heap aj) (H:aQ K w p ab.t aj)
  (F:∀a b B C q,g9 ab n a b=some q->aE p a B->aE p b C->pf A s B C q) (a b:V) (B C:am) (q:Bool) (h:cK (g9 ab n) a b=some q) (D:aE p a B) (E:aE p b C):ja A s B C q:=by
 rcases IC h with h|⟨i,k,j,l,rfl,rfl,h⟩
 ·exact wG (re _ _ h) D E
 ·have G:=D
  have I:=E
  obtain⟨af,rfl,rfl⟩:=G
  obtain⟨J,rfl,rfl⟩:=I
  rcases h with⟨rfl,rfl⟩|⟨M,h⟩
  ·exact .same _
  ·exact .of_refs (λz=>M (H.aa i j af J (B0 h).1 (B0 h).2 z)) (F _ _ _ _ _ h D E)
def wL {aj:bc} {aC:bE} {L:a7} (ak:News aC L s.heap aj) (H:aQ K w p ab.t aj):∀(n:Nat) (a b:V) (C D:am) (q:Bool) (A:hN),g9 ab n a b=some q->aE p a C->aE p b D->A.units+n<hO->
  pf A s C D q/\SeqAt.RcNeAt A s C D (!q):=by
 intro n
 induction n with
 |zero=>
  intro a b C D q A h E F _
  exact wF (re _ _ h) E F
 |succ n O=>
  intro a b C D q A h E F Q
  rcases BX h with h|⟨i,k,j,l,rfl,rfl,h⟩
  ·exact wF (re _ _ h) E F
  ·have el:=wK (A:=A.in1) ak H λa b C D q h E F=>(O a b C D q A.in1 h E F (by show A.units+1+n<hO;lia)).1
   obtain⟨af,rfl,rfl⟩:=E
   obtain⟨N,rfl,rfl⟩:=F
   rcases BW h with⟨xs,P,G,I,h⟩|⟨xs,P,G,I,h⟩
   ·obtain⟨ai,l1,J⟩:=aQ.list ak H af G
    obtain⟨cS,l2,M⟩:=aQ.list ak H N I
    obtain⟨e,he,B⟩:=BY el h J M
    by_cases z:ai.length=cS.length
    ·have B:q=(sT ai.toArray.size).all e:=by rw[B,<-z];simp
     rw[B]
     exact⟨.lists l1 l2 (by simpa using z) (by lia) (λj ae ag=>by simpa using he j (by simpa using ae) (by simpa using ag)),.lists l1 l2 (by simpa using z) (by lia) (λj ae ag=>by simpa using he j (by simpa using ae) (by simpa using ag))⟩
    ·have B:q=false:=by rw[B,beq_eq_false_iff_ne.mpr z];simp
     rw[B]
     exact⟨.lists_lengths l1 l2 (by simpa using z) (by lia),.lists_lengths l1 l2 (by simpa using z) (by lia)⟩
   ·obtain⟨ai,l1,J⟩:=aQ.tup ak H af G
    obtain⟨cS,l2,M⟩:=aQ.tup ak H N I
    obtain⟨e,he,B⟩:=BY el h J M
    have B:q=((sT (min ai.toArray.size cS.toArray.size)).all e&&ai.toArray.size==cS.toArray.size):=by rw[B];simp
    rw[B]
    exact⟨.tuples l1 l2 (by lia) (λj ae ag=>by simpa using he j (by simpa using ae) (by simpa using ag)),.tuples l1 l2 (by lia) (λj ae ag=>by simpa using he j (by simpa using ae) (by simpa using ag))⟩
end
def rh (f:Nat):Nat->List Nat->List Nat:=gg (motive:=λZ=>Nat->List Nat->List Nat) (λZ bT=>bT) (λZ A a bT=>bk (A (Nat.div a 128) (eu (Nat.mod a 128) 1::bT)) bT (aU a 0)) f
def B1 (f a:Nat) (bT:List Nat):rh (f+1) a bT=match aU a 0 with
  |true=>bT
  |false=>rh f (a/128) ((a%128-1)::bT):=by
 show bk (motive:=λZ=>List Nat) _ _ (aU a 0)=_
 cases aU a 0<;>rfl
def ID:∀(f:Nat) (l bT:List Nat),k_ l=true->l.length<=f->rh f (eY l) bT=l++bT:=by
 intro f
 induction f with
 |zero=>
  intro l bT _ h
  clear a
  have:l=[]:=zN.mp (zO.mp h)
  clear h
  subst this;rfl
 |succ f B=>
  intro l bT A h
  rcases oY l with rfl|⟨m,x,rfl⟩
  ·rw[B1];rfl
  ·rw[oZ]at A h⊢
   have a:=(Uc m x).mp A
   rw[lM]at h
   rw[B1,la,d6,decide_eq_false (o_ _)]
   show rh f ((eY m*128+(x+1))/128) _=_
   have e1:(eY m*128+(x+1))/128=eY m:=th a.2
   have e2:(eY m*128+(x+1))%128-1=x:=congrArg (·-1) (wn a.2)
   rw[e1,e2,B m _ a.1 (by simpa using h)]
   simp
def en (a:Nat):aI:=⟨(rh 4096 a []).toArray⟩
def ri {s:aI} (h:bf s=true) (ah:gm (aG s)=true):en (aG s)=s:=by
 have:=lg h ah
 unfold en aG
 rw[ID 4096 _ [] h (by lia),k1]
def tv (o:Option O) (A:List V->Option Bool) (B:List V->Option Bool) (C:Nat->List (Nat×V)->Option Bool) (D:Option Bool):Option Bool:=cq none (λo=>O.rec de C de A B bX bX de de (λZ Z Z Z=>none) bX (λZ Z Z Z=>none) bX (λZ Z Z Z=>none) de de de none (λZ=>D) none bX de bX o) o
section
variable {loc:Loc}
def tw (x y:Option Bool):Option Bool:=cq none (λu=>cq none (λv=>some (pj u v)) y) x
def IE {x y:Option Bool} {q:Bool} (h:tw x y=some q):∃u v,x=some u/\y=some v/\q=(u||v):=by
 cases x with
 |none=>cases h
 |some u=>cases y with
  |none=>cases h
  |some v=>cases h;exact⟨u,v,rfl,rfl,rfl⟩
def jT (g:V->Option Bool) (xs:List V):Option Bool:=bW eL (λa Z A=>tw (g a) A) xs
def wM {g:V->Option Bool} {R:am->Bool->Prop} (D:∀a B q,g a=some q->aE p a B->R B q):
  ∀{xs:List V} {ai:List am} {q:Bool},jT g xs=some q->All2 (aE p) xs ai->∃A:List (am×Bool),A.map (·.1)=ai/\(∀z∈A,R z.1 z.2)/\q=A.any (·.2):=by
 intro xs ai q h r
 induction r generalizing q with
 |nil=>
  exact⟨[],rfl,(λZ h=>by cases h),by cases h;rfl⟩
 |@cons a B l ai ae t1 E=>
  obtain⟨u,v,F,G,rfl⟩:=IE (x:=g a) (y:=jT g l) h,h
  obtain⟨A,e1,e2,e3⟩:=E G
  refine⟨(B,u)::A,by rw[d4,e1],λz C=>?_,by rw[GR,e3]⟩
  rcases bJ.mp C with rfl|C
  ·exact D _ _ _ F ae
  ·exact e2 z C
def wN {R:am->Bool->Prop} {ai:List am} {A:List (am×Bool)} (e1:A.map (·.1)=ai) (e2:∀z∈A,R z.1 z.2):∃e:am->Bool,(∀y,y∈ai.toArray->R y (e y))/\ai.toArray.any e=A.any (·.2):=by
 classical
 refine⟨λy=>decide ((y,true)∈A),λy B=>?_,?_⟩
 ·have B:y∈ai:=by simpa using B
  rw[<-e1]at B
  obtain⟨z,C,rfl⟩:=ey.mp B,B
  by_cases q:(z.1,true)∈A
  ·show R z.1 (decide ((z.1,true)∈A));rw[decide_eq_true q];exact e2 _ q
  ·show R z.1 (decide ((z.1,true)∈A));rw[decide_eq_false q]
   have:z.2=false:=by
    cases h:z.2 with
    |false=>rfl
    |true=>exfalso;apply q;rw[<-h];exact C
   rw[<-this];exact e2 _ C
 ·subst e1
  simp only[List.any_toArray]
  rw[Bool.eq_iff_iff]
  simp only[List.any_eq_true,ey]
  constructor
  ·rintro ⟨y,-,h⟩
   exact⟨_,of_decide_eq_true h,rfl⟩
  ·rintro ⟨z,C,h⟩
   refine⟨z.1,⟨z,C,rfl⟩,decide_eq_true ?_⟩
   rw[<-h];exact C
def rj (es:List (Nat×V)) (a:V):Option Bool:=V.rec none bX bX bX (λc=>some (cq false (λZ=>true) (lk es c))) de bX de a
def isFalse (a:V):Option Bool:=V.rec none (λb=>bk eL none b) bX bX bX de bX de a
def B2 (a:V) (d:Nat):Option Bool:=V.rec none bX bX bX (λc=>bk none (some (hq (G5 (en d) (en c) 0 (en d).length 1).isEmpty)) (aN (gm c) (gm d))) de bX de a
def wP (be:Nat->Option O) (ab:aA) (a b:V):Option Bool:=V.rec none bX bX bX (λd=>B2 a d)
 (λZ k=>tv (bn ab k) (λxs=>jT (λy=>cK (g9 ab 40) y a) xs) (λxs=>jT (λy=>cK (g9 ab 40) y a) xs) (λZ es=>rj es a) (isFalse a))
 (λg=>tv (be g) (λZ=>none) (λxs=>jT (λy=>fQ y a) xs) (λZ es=>rj es a) none) (λZ Z=>none) b
def IF (c:b4) (a:Nat):O->Prop
 |.tuple xs=>∃ai eC n bs,c.K.lookup a=some ⟨.type "tuple",eC,.seq (vV ai) n,bs⟩/\∀p,All2 (aE p) xs ai
 |.dict _ ao=>(∃es n,c.K.lookup a=some (dd es n)/\∀p,cm c.w p ao es)/\a≠iY
 |_=>False
def go (c:b4) (be:Nat->Option O):Prop:=∀a o,be a=some o->IF c a o
def B3 {ar:Prop} {es:List (Nat×V)} {a:V} {q:Bool} (h:rj es a=some q) (A:∀k,a=.str k->q=(lk es k).isSome->ar):ar:=by
 cases a with
 |str k=>
  refine A k rfl (?_)
  replace h:some (cq (motive:=λZ=>Bool) false (λZ=>true) (lk es k))=some q:=h
  injection h with h
  rw[<-h]at⊢;cases lk es k<;>rfl
 |_=>cases h
def IG {a:V} {q:Bool} (h:isFalse a=some q):a=.bool false/\q=false:=by
 cases a with
 |bool b=>cases b with
  |false=>cases h;exact⟨rfl,rfl⟩
  |true=>cases h
 |_=>cases h
def IH {a:V} {d:Nat} {q:Bool} (h:B2 a d=some q):∃k,a=.str k/\gm k=true/\gm d=true/\q=!(G5 (en d) (en k) 0 (en d).length 1).isEmpty:=by
 cases a with
 |str k=>
  replace h:bk (motive:=λZ=>Option Bool) none (some (hq (G5 (en d) (en k) 0 (en d).length 1).isEmpty)) (aN (gm k) (gm d))=some q:=h
  cases A:aN (gm k) (gm d)with
  |false=>rw[A]at h;cases h
  |true=>
   rw[A]at h;injection h with h
   obtain⟨ae,ag⟩:=an A
   exact⟨k,rfl,ae,ag,h.symm⟩
 |_=>cases h
def g_ {aj:bc} {o:bY} (ah:aZ c f) (ak:News f.aC f.L s.heap aj) (hm:(p.a i,o)∈aj):(p.a i==iY)=false:=beq_eq_false_iff_ne.mpr λe=>by
 obtain⟨bU,h⟩:=ah.lc
 have:=(ak _ hm).2.2
 dsimp only at this
 rw[e,h]at this;cases this
def B4 {be:Nat->Option O} (Y:go c be) {a b:V} {B I:am} {q:Bool} (h:wP be ab a b=some q) (ah:aZ c f) (S:ba c f p ab loc s) (D:aE p a B) (J:aE p b I):
  (∀{Q:am->a9->Prop},(∀bo,Q (.bool q) {s with toks:=bo})->aO (aR c.prog c.w) f.A (qR .In B I) Q E s)/\(∀{Q:am->a9->Prop},(∀bo,Q (.bool (!q)) {s with toks:=bo})->aO (aR c.prog c.w) f.A (qR .NotIn B I) Q E s):=by
 have l:f.A.units+1+45<hO:=m6 ah
 obtain⟨m,aj,F,ak,H,r⟩:=S.ex
 have R:∀y K q,cK (g9 ab 40) y a=some q->aE p y K->ja f.A.in1 s K B q:=λy K q ae ag=>wK ak H (λa b B I q h D J=>(wL ak H 40 a b B I q f.A.in1 h D J (by show f.A.units+1+40<hO;lia)).1) y a K B q ae ag D
 cases b with
 |str d=>
  clear R
  obtain⟨k,rfl,ae,ag,rfl⟩:=IH h
  clear h
  obtain⟨x,t,rfl,G,rfl⟩:=D
  obtain⟨y,u,rfl,i,rfl⟩:=J
  rw[ri G ae,ri i ag]
  exact⟨λh=>P.in_str (h s.toks),λh=>P.notIn_str (h s.toks)⟩
 |own j k=>
  obtain⟨M,rfl,rfl⟩:=J
  replace h:tv (bn ab (key j)) (λxs=>jT (λy=>cK (g9 ab 40) y a) xs) (λxs=>jT (λy=>cK (g9 ab 40) y a) xs) (λZ es=>rj es a) (isFalse a)=some q:=h
  dsimp only[bP]at h
  cases C:ab.t.get (key j)with
  |none=>rw[C]at h;cases h
  |some o=>
   rw[C]at h
   cases o with
   |list xs=>
    obtain⟨ai,l1,N⟩:=aQ.list ak H M C
    obtain⟨T,e1,e2,e3⟩:=wM R h N
    obtain⟨e,he,L⟩:=wN (R:=λy q=>ja f.A.in1 s y B q) e1 e2
    rw[e3,<-L]
    exact⟨λh=>SeqAt.in_listAt e l1 he (h s.toks),λh=>SeqAt.notIn_listAt e l1 he (h s.toks)⟩
   |tuple xs=>
    obtain⟨ai,l1,N⟩:=aQ.tup ak H M C
    obtain⟨T,e1,e2,e3⟩:=wM R h N
    obtain⟨e,he,L⟩:=wN (R:=λy q=>ja f.A.in1 s y B q) e1 e2
    rw[e3,<-L]
    exact⟨λh=>SeqAt.in_tupleAt e l1 he (h s.toks),λh=>SeqAt.notIn_tupleAt e l1 he (h s.toks)⟩
   |dict az ao=>
    clear R
    obtain⟨k,rfl,rfl⟩:=B3 h
    clear h
    obtain⟨x,t,rfl,G,rfl⟩:=D
    obtain⟨a_,es,ae,ag⟩:=H.ent j _ M C
    have hm:=ag.mapOf (prog:=c.prog) (ak.get ae)
    have e:(findBy mU es.toArray x).isSome=(lk ao (aG x)).isSome:=by
     cases q:lk ao (aG x)with
     |none=>rw[(ag.find G).2 q];rfl
     |some v=>obtain⟨_,aW,_⟩:=(ag.find G).1 v q;rw[aW];rfl
    rw[<-e]
    exact⟨λh=>wpAny_in_of (lQ c.prog c.w x t) (g_ ah ak ae) hm (h _),λh=>wpAny_notIn_of (lQ c.prog c.w x t) (g_ ah ak ae) hm (h _)⟩
   |trues z=>
    clear R
    obtain⟨rfl,rfl⟩:=IG h
    cases D
    obtain⟨ai,n,ae,ag,ax⟩:=H.ent j _ M C
    have l1:s.heap.IsList (p.a j) ai.toArray:=⟨_,ak.get ae,rfl,n,rfl⟩
    have he:∀y,y∈ai.toArray->ja f.A.in1 s y (.bool false) false:=λy U=>by
     have:=ag y (by simpa using U)
     clear U
     subst this;exact .bool_bool _ _
    have W:ai.toArray.any (λZ=>false)=false:=by simp
    exact⟨λh=>SeqAt.in_listAt (λZ=>false) l1 he (by rw[W];exact h s.toks),λh=>SeqAt.notIn_listAt (λZ=>false) l1 he (by rw[W];exact h s.toks)⟩
   |_=>cases h
 |gnd g=>
  clear R
  cases J
  replace h:tv (be g) (λZ=>none) (λxs=>jT (λy=>fQ y a) xs) (λZ es=>rj es a) none=some q:=h
  cases C:be g with
  |none=>rw[C]at h;cases h
  |some o=>
   rw[C]at h
   have ar:=Y g o C
   cases o with
   |tuple xs=>
    obtain⟨ai,eC,n,bs,ae,ag⟩:=ar
    have l1:s.heap.IsTuple g ai.toArray:=⟨_,(ah.X.keeps F.keep) _ _ ae,rfl,n,rfl⟩
    obtain⟨T,e1,e2,e3⟩:=wM (R:=λy q=>ja f.A.in1 s y B q) (λy K q ae ag=>wG (re _ _ ae) ag D) h (ag p)
    obtain⟨e,he,L⟩:=wN (R:=λy q=>ja f.A.in1 s y B q) e1 e2
    rw[e3,<-L]
    exact⟨λh=>SeqAt.in_tupleAt e l1 he (h s.toks),λh=>SeqAt.notIn_tupleAt e l1 he (h s.toks)⟩
   |dict az ao=>
    obtain⟨k,rfl,rfl⟩:=B3 h
    clear h
    obtain⟨x,t,rfl,G,rfl⟩:=D
    obtain⟨⟨es,n,ae,ag⟩,hs⟩:=ar
    have hm:=(ag p).mapOf (prog:=c.prog) ((ah.X.keeps F.keep) _ _ ae)
    have e:(findBy mU es.toArray x).isSome=(lk ao (aG x)).isSome:=by
     cases q:lk ao (aG x)with
     |none=>rw[((ag p).find G).2 q];rfl
     |some v=>obtain⟨_,aW,_⟩:=((ag p).find G).1 v q;rw[aW];rfl
    rw[<-e]
    exact⟨λh=>wpAny_in_of (lQ c.prog c.w x t) (beq_eq_false_iff_ne.mpr hs) hm (h _),λh=>wpAny_notIn_of (lQ c.prog c.w x t) (beq_eq_false_iff_ne.mpr hs) hm (h _)⟩
   |_=>cases h
 |_=>cases h
end
section
variable {loc:Loc}
def pO (o:Option Bool):Option Bool:=cq none (λq=>some (hq q)) o
def wQ {ar:Prop} {o:Option Bool} {q:Bool} (h:pO o=some q) (A:∀u,o=some u->q=!u->ar):ar:=by
 cases o with
 |none=>cases h
 |some u=>cases h;exact A u rfl rfl
def tx (x y:Option Bool):Option Bool:=cq y (λq=>some q) x
def II {x y:Option Bool} {q:Bool} (h:tx x y=some q):x=some q∨(x=none/\y=some q):=by
 cases x with
 |none=>exact .inr ⟨rfl,h⟩
 |some u=>exact .inl h
def rk (o:Option O) (k:List (Nat×V)->Option Bool):Option Bool:=cq none (λo=>O.rec de (λZ es=>k es) de bX bX bX bX de de (λZ Z Z Z=>none) bX (λZ Z Z Z=>none) bX (λZ Z Z Z=>none) de de de none bX none bX de bX o) o
def B5 {ar:Prop} {o:Option O} {k:List (Nat×V)->Option Bool} {q:Bool} (h:rk o k=some q) (A:∀az es,o=some (.dict az es)->k es=some q->ar):ar:=by
 cases o with
 |none=>cases h
 |some o=>cases o with
  |dict az es=>exact A az es rfl h
  |_=>cases h
def rl (g:V->V->Option Bool) (A:List (Nat×V)) (xs:List (Nat×V)):Option Bool:=bW (some true) (λx Z B=>cq eL (λv=>tu (g x.2 v) B) (lk A x.1)) xs
def tz (ab:aA) (a b:V):Option Bool:=V.rec none bX bX bX bX (λZ k=>V.rec none bX bX bX bX (λZ l=>
 rk (bn ab k) λxs=>rk (bn ab l) λA=>bk eL (rl (cK (g9 ab 40)) A xs) (aU xs.length A.length)) bX de b) bX de a
def IJ {a b:V} {q:Bool} (h:tz ab a b=some q):∃i k j l az xs B A,a=.own i k/\b=.own j l/\ab.t.get k=some (.dict az xs)/\ab.t.get l=some (.dict B A)/\((xs.length=A.length/\rl (cK (g9 ab 40)) A xs=some q)∨(xs.length≠A.length/\q=false)):=by
 cases a with
 |own i k=>cases b with
  |own j l=>
   replace h:(rk (bn ab k) λxs=>rk (bn ab l) λA=>bk (motive:=λZ=>Option Bool) eL (rl (cK (g9 ab 40)) A xs) (aU xs.length A.length))=some q:=h
   obtain⟨az,xs,ae,h⟩:=B5 h
   obtain⟨B,A,ag,h⟩:=B5 h
   rw[bP]at ae ag
   rw[d6]at h
   refine⟨i,k,j,l,az,xs,B,A,rfl,rfl,ae,ag,?_⟩
   by_cases e:xs.length=A.length
   ·rw[decide_eq_true e]at h;exact .inl ⟨e,h⟩
   ·rw[decide_eq_false e]at h;cases h;exact .inr ⟨e,rfl⟩
  |_=>cases h
 |_=>cases h
def IK {g:V->V->Option Bool} (I:∀a b E F q,g a b=some q->aE p a E->aE p b F->ja A s E F q) {B:List (Nat×V)} {G:List (aI×am)} (H:All2 (hy p) B G):
  ∀{xs:List (Nat×V)} {D:List (aI×am)},All2 (hy p) xs D->∀{q:Bool},rl g B xs=some q->KeqHits A s G D q:=by
 intro xs D ag
 induction ag with
 |nil=>intro q h;cases h;exact .nil
 |@cons x J l N ae t K=>
  intro q h
  obtain⟨k,v⟩:=J
  replace h:cq (motive:=λZ=>Option Bool) eL (λv=>tu (g x.2 v) (rl g B l)) (lk B x.1)=some q:=h
  have ex:x.1=aG k:=ae.1.2.symm
  rw[ex]at h
  cases C:lk B (aG k)with
  |none=>
   rw[C]at h;cases h
   exact .miss ((hy.valueAt H ae.1.1).2 C)
  |some u=>
   rw[C]at h
   obtain⟨a,b,L,M,rfl⟩:=BV h,h
   obtain⟨val,aK,aW⟩:=(hy.valueAt H ae.1.1).1 u C
   exact .hit aK (I _ _ _ _ _ L ae.2 aW) (K M)
def wR (a b:V):Option Bool:=V.rec (V.rec (some true) (λZ=>eL) (λZ=>eL) (λZ=>eL) (λZ=>eL) (λZ Z=>eL) (λZ=>eL) (λk Z=>bk none eL (b2 10 k)) a) bX bX bX bX de bX de b
def rm (g:Int->Int->Bool) (a b:V):Option Bool:=V.rec none bX (λi=>V.rec none bX (λj=>some (g i j)) bX bX de bX de b) bX bX de bX de a
def tA {ar:Prop} {g:Int->Int->Bool} {a b:V} {q:Bool} (h:rm g a b=some q) (A:∀i j,a=.int i->b=.int j->q=g i j->ar):ar:=by
 cases a with
 |int i=>cases b with
  |int j=>cases h;exact A i j rfl rfl rfl
  |_=>cases h
 |_=>cases h
def gp (be:Nat->Option O) (ab:aA) (op:k4) (a b:V):Option Bool:=k4.rec (tx (g9 ab 40 a b) (tz ab a b)) (pO (tx (g9 ab 40 a b) (tz ab a b)))
 (rm Int.lt' a b) (rm (λi j=>hq (Int.lt' j i)) a b) (rm (λi j=>Int.lt' j i) a b) (rm (λi j=>hq (Int.lt' i j)) a b) (wR a b) (pO (wR a b)) (wP be ab a b) (pO (wP be ab a b)) op
def B6 {a b:V} {C D:am} {q:Bool} (h:tx (g9 ab 40 a b) (tz ab a b)=some q) (ah:aZ c f) (S:ba c f p ab loc s) (J:aE p a C) (K:aE p b D):
  (∀{Q:am->a9->Prop},Q (.bool q) s->aO (aR c.prog c.w) f.A (qR .Eq C D) Q E s)/\(∀{Q:am->a9->Prop},Q (.bool (!q)) s->aO (aR c.prog c.w) f.A (qR .NotEq C D) Q E s):=by
 have u:f.A.units+1+45<hO:=m6 ah
 obtain⟨m,aj,F,ak,H,v⟩:=S.ex
 rcases II h with h|⟨_,h⟩
 ·have:=wL ak H 40 _ _ _ _ _ f.A h J K (by lia)
  exact⟨λh=>this.1 _ _ _ _ h,λh=>this.2 _ _ _ _ h⟩
 clear zu
 ·obtain⟨i,k,j,l,az,xs,x,y,rfl,rfl,ae,ag,ax⟩:=IJ h
  clear h
  clear h
  obtain⟨af,rfl,rfl⟩:=J
  obtain⟨Y,rfl,rfl⟩:=K
  obtain⟨d,aa,G,g⟩:=H.ent i _ af ae
  obtain⟨o,ai,I,t⟩:=H.ent j _ Y ag
  obtain⟨P,L,T⟩:=g.dictAt (prog:=c.prog) d (ak.get G)
  obtain⟨U,M,W⟩:=t.dictAt (prog:=c.prog) o (ak.get I)
  have R:=wK (A:=f.A.in1) (n:=40) ak H λa b C D q h J K=>(wL ak H 40 a b C D q f.A.in1 h J K (by show f.A.units+1+40<hO;lia)).1
  have N:=T.len
  have O:=W.len
  rcases ax with⟨e,ax⟩|⟨e,rfl⟩
  ·have X:=IK R W T ax
   have bF:(P.length==U.length)=true:=by rw[<-N,<-O,e];simp
   refine⟨λB=>keq_eq (g_ ah ak G) (g_ ah ak I) L.dictOf M.dictOf (by lia) (λZ=>X) (by rw[bF,G6];exact B),λB=>keq_ne (g_ ah ak G) (g_ ah ak I) L.dictOf M.dictOf (by lia) (λZ=>X) (by rw[bF,G6];exact B)⟩
  ·have bF:(P.length==U.length)=false:=by rw[<-N,<-O];exact beq_eq_false_iff_ne.mpr e
   refine⟨λB=>keq_eq (r:=true) (g_ ah ak G) (g_ ah ak I) L.dictOf M.dictOf (by lia) (λq=>absurd (by rw[N,O];exact q) e) (by rw[bF,zX];exact B),λB=>keq_ne (r:=true) (g_ ah ak G) (g_ ah ak I) L.dictOf M.dictOf (by lia) (λq=>absurd (by rw[N,O];exact q) e) (by rw[bF,zX];exact B)⟩
def B7 {a b:V} {C D:am} {q:Bool} (h:wR a b=some q) (B:aE p a C) (G:aE p b D):
  (∀{Q:am->a9->Prop},Q (.bool q) s->aO (aR c.prog c.w) f.A (qR .Is C D) Q E s)/\(∀{Q:am->a9->Prop},Q (.bool (!q)) s->aO (aR c.prog c.w) f.A (qR .IsNot C D) Q E s):=by
 cases b with
 |none=>
  cases G
  cases a with
  |none=>cases h;cases B;exact⟨λh=>wpAny_is_self rfl h,λh=>wpAny_isNot_self rfl h⟩
  |bool b=>cases h;cases B;exact⟨λh=>qS rfl (by intro h;cases h) h,λh=>qT rfl (by intro h;cases h) h⟩
  |int i=>cases h;obtain⟨t,rfl⟩:=B;exact⟨λh=>qS rfl (by intro h;cases h) h,λh=>qT rfl (by intro h;cases h) h⟩
  |sym i=>cases h;obtain⟨_,t,rfl,_⟩:=B;exact⟨λh=>qS rfl (by intro h;cases h) h,λh=>qT rfl (by intro h;cases h) h⟩
  |str i=>cases h;obtain⟨_,t,rfl,_⟩:=B;exact⟨λh=>qS rfl (by intro h;cases h) h,λh=>qT rfl (by intro h;cases h) h⟩
  |own i k=>cases h;obtain⟨_,_,rfl⟩:=B;exact⟨λh=>qS rfl (by intro h;cases h) h,λh=>qT rfl (by intro h;cases h) h⟩
  |gnd g=>cases h;cases B;exact⟨λh=>qS rfl (by intro h;cases h) h,λh=>qT rfl (by intro h;cases h) h⟩
  |any k t=>
   replace h:bk (motive:=λZ=>Option Bool) none eL (b2 10 k)=some q:=h
   cases F:b2 10 k with
   |false=>rw[F]at h;cases h
   |true=>
    rw[F]at h
    cases h
    obtain⟨_,rfl⟩:=B.2.2 F,B
    exact⟨λh=>qS rfl (by intro h;cases h) h,λh=>qT rfl (by intro h;cases h) h⟩
 |_=>cases h
def wS {be:Nat->Option O} (G:go c be) {op:k4} {a b:V} {H I:am} {q:Bool} (h:gp be ab op a b=some q) (ah:aZ c f) (S:ba c f p ab loc s) (C:aE p a H) (D:aE p b I) {Q:am->a9->Prop} (F:∀bo,Q (.bool q) {s with toks:=bo}):
  aO (aR c.prog c.w) f.A (qR op H I) Q E s:=by
 have B:=F s.toks
 cases op with
 |Eq=>exact(B6 h ah S C D).1 B
 |NotEq=>clear F;obtain⟨u,av,rfl⟩:=wQ h,h;exact(B6 av ah S C D).2 B
 |Is=>exact(B7 (c:=c) (f:=f) h C D).1 B
 |IsNot=>clear F;obtain⟨u,av,rfl⟩:=wQ h,h;exact(B7 (c:=c) (f:=f) av C D).2 B
 |In=>exact(B4 G h ah S C D).1 F
 |NotIn=>clear B;obtain⟨u,av,rfl⟩:=wQ h,h;exact(B4 G av ah S C D).2 F
 |Lt=>
  clear F
  obtain⟨i,j,rfl,rfl,rfl⟩:=tA h
  obtain⟨t,rfl⟩:=C;obtain⟨u,rfl⟩:=D
  exact TA (by rw[<-Int.lt'_eq];exact B)
 |LtE=>
  clear F
  obtain⟨i,j,rfl,rfl,rfl⟩:=tA h
  obtain⟨t,rfl⟩:=C;obtain⟨u,rfl⟩:=D
  refine PyProof.Rows.le_int ?_
  rw[Int.lt'_eq]at B
  have:(!decide (j<i))=decide (i<=j):=decide_not.symm.trans (decide_eq_decide.mpr sU)
  rw[<-this];exact B
 |Gt=>
  clear F
  obtain⟨i,j,rfl,rfl,rfl⟩:=tA h
  obtain⟨t,rfl⟩:=C;obtain⟨u,rfl⟩:=D
  exact TB (by rw[Int.lt'_eq]at B;exact B)
 |GtE=>
  clear F
  obtain⟨i,j,rfl,rfl,rfl⟩:=tA h
  obtain⟨t,rfl⟩:=C;obtain⟨u,rfl⟩:=D
  refine PyProof.Rows.ge_int ?_
  rw[Int.lt'_eq]at B
  have:(!decide (i<j))=decide (j<=i):=decide_not.symm.trans (decide_eq_decide.mpr sU)
  first|(rw[<-this]at⊢;exact B)|exact B
def oc:aM->Bool
 |.Set .. =>false
 |_=>true
def rn {op:k4} {e:aM} (h:oc e=true):behindInMarks op e=false:=by
 cases e<;>first|rfl|cases h
def jU (g:Nat->Option O) (op:k4) (a b:aT):c6:=λab loc k au=>a ab loc (λv ab=>b ab loc (λw ab=>bh (gp g ab op v w) λq=>k q ab) au) au
def wT (a:c6):aT:=λab loc k au=>a ab loc (λq aF=>k (.bool q) aF) au
def IL {be:Nat->Option O} (I:go c be) (ah:aZ c f) {l r:aM} {cl B:aT} {op pos} (J:a8 c aw cl f l) (K:a8 c aw B f r) (L:oc r=true):a8 c aw (wT (jU be op cl B)) f (.Compare l [op] [r] pos):=λab loc k au p s E h S C D=>by
 refine zY (cy (J ab loc _ au p s E h S C D) (λX M bt bw a F N P Q=>?_)) (rn L)
 refine cy (K bw loc _ au bt M E Q P (aw.up F C) D) (λY d R T b G U H A=>?_)
 obtain⟨q,W,A⟩:=By' A
 exact wS I W ah H (N.ext G) U λbo=>⟨R,T,V.bool q,F.trans G,rfl,H.tok,A⟩
def IM {be:Nat->Option O} (I:go c be) (ah:aZ c f) {l r:aM} {cl B:aT} {op pos} (J:a8 c aw cl f l) (K:a8 c aw B f r) (L:oc r=true):ST c aw (jU be op cl B) f (.Compare l [op] [r] pos):=λab loc k au p s E h S C D=>by
 refine wpAny_isTrue_Compare1 (cy (J ab loc _ au p s E h S C D) (λW M bt bw a F N P Q=>?_)) (rn L)
 refine cy (K bw loc _ au bt M E Q P (aw.up F C) D) (λX Y R T b G U H A=>?_)
 obtain⟨q,V,A⟩:=By' A
 exact wS I V ah H (N.ext G) U λbo=>zV ⟨R,T,F.trans G,H.tok,A⟩
end
section
variable {loc:Loc} {aj:bc}
def fH {av:bE} {bo:Nat} {y:a7} {bU:bY} {o:O} {k:aY} (S:ba c f p ab loc s) (H:aQ c.K c.w p ab.t aj) (A:db f p loc m) (h:mk o ab k=true) (B:Fr f.aC f.L av m) (C:News f.aC f.L av ((y,bU)::aj)) (D:∀q∈aj,q.1<y)
  (he:∀a3,(y,bU)∈a3->ch c.K c.w (p.more y y) a3 p.ay o):cb c f p loc k (.ref y) {s with heap:=av,toks:=bo}:=by
 obtain⟨hs,E⟩:=mk_eq h
 exact⟨p.more y y,_,.own ab.ay ab.bz,p.eZ y y,aX.ib S.z,rg S H A hs B C D he,E⟩
def fw {h:bE} {aC:bE} {L:a7} (ak:News aC L h aj):∀q∈aj,q.1<h.objs.size:=λq A=>dX (ak q A).1
def ll {y:a7} {xs:List V} {ai:List am} (r:All2 (aE p) xs ai):∀a3,(y,dJ ai n)∈a3->ch K w (p.more y y) a3 p.ay (.list xs):=λa3 hm=>⟨ai,n,by rw[fj];exact hm,r.imp λZ Z=>aE.ext (p.eZ y y)⟩
def B8 {y:a7} {xs:List V} {ai:List am} (r:All2 (aE p) xs ai):∀a3,(y,jd ai n)∈a3->ch K w (p.more y y) a3 p.ay (.tuple xs):=λa3 hm=>⟨ai,n,by rw[fj];exact hm,r.imp λZ Z=>aE.ext (p.eZ y y)⟩
def f6 (xs:List V):Bool:=b2 xs.length 2000
def jh {xs:List V} (h:f6 xs=true):xs.length<=2000:=ce h
def ji (i:Int):Bool:=dc i.natAbs 1000000000000
set_option tactic.hygienic true in
def B9 {i:Int} (h:ji i=true):TC i<=64:=by
 have h:i.natAbs<1000000000000:=ce h
 unfold TC
 split
 ·lia
 ·rename_i A
  have A:i≠0:=by simpa using A
  have:i.natAbs<2^40:=mS h (by decide)
  have:i.natAbs.log2<40:=(Nat.log2_lt (Int.natAbs_ne_zero.mpr A)).mpr this
  exact GO (cH this (nle rfl))
set_option tactic.hygienic true in
def IN {i j:Int} (h:ji j=true):TD i j=false:=by
 have h:j.natAbs<1000000000000:=ce h
 unfold TD
 have:¬((if j==0 then 0 else j.natAbs.log2/30+1)>300):=by
  split
  ·lia
  ·rename_i A
   have A:j≠0:=by simpa using A
   have:j.natAbs<2^40:=mS h (by decide)
   have:j.natAbs.log2<40:=(Nat.log2_lt (Int.natAbs_ne_zero.mpr A)).mpr this
   exact G7 (GO (mO (Nat.div_le_self _ _) (cH this (nle rfl))))
 simp only[decide_eq_false this,zX]
def jV (v:V) (fG:Int->Bool) (a2:Bool):Bool:=V.rec false aL fG (λZ=>a2) aL a1 aL a1 v
def mn' {fG:Int->Bool} {a2:Bool} (h:jV v fG a2=true):(∃i,v=.int i/\fG i=true)∨(∃i,v=.sym i/\a2=true):=by
 cases v with
 |int i=>exact .inl ⟨i,rfl,h⟩
 |sym i=>exact .inr ⟨i,rfl,h⟩
 |_=>cases h
def ie {i:Int} {t:Tok}:aE p (.sym (ei 0)) (.int i t):=⟨_,_,rfl,λk=>⟨λe=>(by cases e),λe=>(by cases e)⟩⟩
def B_ (a b:V) (ab:aA) (k:aY):Bool:=V.rec false aL (λi=>jV b (λj=>k (.int (bM i j)) ab) (k (.sym (ei 0)) ab)) (λZ=>jV b (λZ=>k (.sym (ei 0)) ab) (k (.sym (ei 0)) ab))
 (λu=>vStr b λv=>aN (gm u) (aN (gm v) (k (.str (wC u v)) ab)))
 (λZ i=>cz b λZ j=>fv (bn ab i) λxs=>fv (bn ab j) λA=>aN (f6 (xs++A)) (mk (.list (xs++A)) ab k)) (λZ=>false) (λZ Z=>false) a
def wU:Nat->List V->List V
 |0,_=>[]
 |n+1,l=>l++wU n l
def Ca (a b:V) (ab:aA) (k:aY):Bool:=V.rec false aL (λi=>vInt b λj=>aN (ji i) (k (.int (eG i j)) ab)) (λZ=>vInt b λj=>aN (ji j) (k (.sym (ei 0)) ab)) aL
 (λZ i=>vInt b λj=>fv (bn ab i) λxs=>aN (f6 xs) (aN (dc j.toNat 100) (aN (dc j.natAbs 100) (mk (.list (wU j.toNat xs)) ab k)))) (λZ=>false) (λZ Z=>false) a
def IP (a b:V) (ab:aA) (k:aY):Bool:=vInt a λi=>vInt b λj=>k (.int (Int.sub i j)) ab
def IQ (a b:V) (ab:aA) (k:aY):Bool:=vInt a λi=>vInt b λj=>aN (Int.jQ j) (aN (ji j) (k (.int (Int.fdiv i j)) ab))
def IR (a b:V) (ab:aA) (k:aY):Bool:=jV a (λi=>vInt b λj=>aN (Int.jQ j) (k (.int (Int.fmod i j)) ab)) (vInt b λj=>aN (Int.jQ j) (k (.sym (ei 0)) ab))
def IS (a b:V) (ab:aA) (k:aY):Bool:=vInt a λi=>vInt b λj=>aN (ji i) (iB (λn=>aN (b2 n 1000) (k (.int (i^n)) ab)) aL j)
def pP (op:Operator) (a b:V) (ab:aA) (k:aY):Bool:=Operator.rec (B_ a b ab k) (IP a b ab k) (Ca a b ab k) false false (IR a b ab k) (IS a b ab k) false false false false false (IQ a b ab k) op
def IT (n:Nat) {ai:List am} {xs:List V} (r:All2 (aE p) xs ai):All2 (aE p) (wU n xs) (zZ (lR n ai)):=by
 induction n with
 |zero=>exact .nil
 |succ n A=>rw[G8,List.flatten_cons];exact r.append A
def IU (n:Nat) (a:Array am):(List.foldl (λA B=>A++B) (#[]:Array am) (lR n a)).toList=zZ (lR n a.toList):=by
 have gen:∀(n:Nat) (b:Array am),(List.foldl (λA B=>A++B) b (lR n a)).toList=b.toList++zZ (lR n a.toList):=by
  intro n
  induction n with
  |zero=>intro b;simp
  |succ n C=>intro b;rw[G8,List.foldl_cons,C,G8,List.flatten_cons];simp
 rw[gen];simp
def IV {op:Operator} {a b:V} {O P:am} {k:aY} (ah:aZ c f) (h:pP op a b ab k=true) (S:ba c f p ab loc s) (C:aE p a O) (B:aE p b P):
  aO (aR c.prog c.w) f.A (binaryOp op O P) (cb c f p loc k) E s:=by
 cases op with
 |Add=>
  replace h:B_ a b ab k=true:=h
  cases a with
  |int i=>
   rcases mn' h with⟨j,rfl,h⟩|⟨j,rfl,h⟩
   ·obtain⟨t,rfl⟩:=C;obtain⟨u,rfl⟩:=B
    exact z9 ⟨p,ab,V.int _,aX.bN.refl p,⟨_,rfl⟩,S.tok,h⟩
   ·obtain⟨t,rfl⟩:=C;obtain⟨x,u,rfl,_⟩:=B
    exact z9 ⟨p,ab,V.sym (ei 0),aX.bN.refl p,ie,S.tok,h⟩
  |sym i=>
   obtain⟨x,t,rfl,_⟩:=C
   rcases mn' h with⟨j,rfl,h⟩|⟨j,rfl,h⟩
   ·obtain⟨u,rfl⟩:=B
    exact z9 ⟨p,ab,V.sym (ei 0),aX.bN.refl p,ie,S.tok,h⟩
   ·obtain⟨y,u,rfl,_⟩:=B
    exact z9 ⟨p,ab,V.sym (ei 0),aX.bN.refl p,ie,S.tok,h⟩
  |str u=>
   obtain⟨v,rfl,h⟩:=jR' h
   obtain⟨ae,h⟩:=an h
   obtain⟨ag,ax⟩:=an h
   obtain⟨s1,t,rfl,o1,rfl⟩:=C;obtain⟨a5,u,rfl,o2,rfl⟩:=B
   obtain⟨e1,e2⟩:=BP o1 o2 ag
   refine PySem.SB.add (λbZ aB=>⟨p,ab,V.str _,aX.bN.refl p,⟨_,_,rfl,e2,e1⟩,S.tok,ax⟩) ?_
   have D:=lg o1 ae
   have I:=lg o2 ag
   have cW:s1.length=s1.cps.toList.length:=by simp[nS]
   have d1:a5.length=a5.cps.toList.length:=by simp[nS]
   rw[cW,d1]
   exact c5 (GN D I) (nle rfl)
  |own i aB=>
   obtain⟨j,W,rfl,h⟩:=cJ' h
   obtain⟨xs,g1,h⟩:=gn' h
   obtain⟨X,g2,h⟩:=gn' h
   obtain⟨J,K⟩:=an h
   rw[bP]at g1 g2
   obtain⟨m,aj,F,ak,H,L⟩:=S.ex
   obtain⟨af,rfl,rfl⟩:=C
   obtain⟨R,rfl,rfl⟩:=B
   obtain⟨ai,l1,D⟩:=aQ.list ak H af g1
   obtain⟨cS,l2,I⟩:=aQ.list ak H R g2
   have M:=jh J
   have r:=D.append I
   refine add_lists F ak l1 l2 (λav N G=>fH S H L K N G (fw ak) (ll (n:=0) r)) ?_
   rw[<-lM,<-r.len];exact c5 M (nle rfl)
  |_=>cases h
 |Sub=>
  obtain⟨i,rfl,h⟩:=eD' (k:=λi=>vInt b λj=>k (.int (Int.sub i j)) ab) h
  obtain⟨j,rfl,h⟩:=eD' h
  obtain⟨t,rfl⟩:=C;obtain⟨u,rfl⟩:=B
  exact PyProof.Rows.sub_int ⟨p,ab,V.int _,aX.bN.refl p,⟨_,rfl⟩,S.tok,h⟩
 |Mult=>
  replace h:Ca a b ab k=true:=h
  cases a with
  |int i=>
   obtain⟨j,rfl,h⟩:=eD' h
   obtain⟨ae,ag⟩:=an h
   obtain⟨t,rfl⟩:=C;obtain⟨u,rfl⟩:=B
   exact TE ⟨p,ab,V.int _,aX.bN.refl p,⟨_,rfl⟩,S.tok,ag⟩ (IntMulOk.of_left (B9 ae))
  |sym i=>
   obtain⟨x,t,rfl,_⟩:=C
   obtain⟨j,rfl,h⟩:=eD' h
   obtain⟨ae,ag⟩:=an h
   obtain⟨u,rfl⟩:=B
   exact TE ⟨p,ab,V.sym (ei 0),aX.bN.refl p,ie,S.tok,ag⟩ (IntMulOk.of_right (B9 ae))
  |own i aB=>
   obtain⟨j,rfl,h⟩:=eD' h
   obtain⟨xs,g1,h⟩:=gn' h
   obtain⟨J,h⟩:=an h
   obtain⟨ae,h⟩:=an h
   obtain⟨ag,K⟩:=an h
   dsimp only[bP]at g1
   obtain⟨m,aj,F,ak,H,L⟩:=S.ex
   obtain⟨af,rfl,rfl⟩:=C
   obtain⟨u,rfl⟩:=B
   obtain⟨ai,n,Q,D⟩:=H.ent i _ af g1
   have M:=jh J
   have ae:j.toNat<100:=ce ae
   have ag:j.natAbs<100:=ce ag
   have hle:ai.length<=2000:=by rw[<-D.len];exact M
   refine mul_list (items:=ai.toArray) (k:=n) F ak (ak.get Q) (by lia) (by lia) ?_ λav N G=>?_
   ·rw[G9]
    exact c5 (Nat.mul_le_mul hle (vK ae)) (by decide)
   clear Q hle
   ·have e:({cls:=.type "list",data:=.seq (List.foldl (λT U=>T++U) #[] (lR (if ai.toArray.isEmpty=true then 0 else j.toNat) ai.toArray))}:bY)=dJ (zZ (lR j.toNat ai)) 0:=by
     clear D G
     unfold dJ
     congr 1
     congr 1
     have q:(if ai.toArray.isEmpty=true then 0 else j.toNat)=0∨(if ai.toArray.isEmpty=true then 0 else j.toNat)=j.toNat:=by split<;>simp
     clear q
     apply Array.ext'
     rw[IU]
     by_cases z:ai=[]
     ·subst z;simp
     ·have:ai.toArray.isEmpty=false:=by simpa using z
      rw[this];simp
    rw[e]at G
    exact fH S H L K N G (fw ak) (ll (n:=0) (IT _ D))
  |_=>cases h
 |FloorDiv=>
  obtain⟨i,rfl,h⟩:=eD' (k:=λi=>vInt b λj=>aN (Int.jQ j) (aN (ji j) (k (.int (Int.fdiv i j)) ab))) h
  obtain⟨j,rfl,h⟩:=eD' h
  obtain⟨ae,h⟩:=an h
  obtain⟨ag,ax⟩:=an h
  obtain⟨t,rfl⟩:=C;obtain⟨u,rfl⟩:=B
  rw[Int.Ud]at ae
  exact PyProof.Rows.floordiv_int (by simpa using ae) ⟨p,ab,V.int _,aX.bN.refl p,⟨_,rfl⟩,S.tok,ax⟩ (.inl (IN ag))
 |Mod=>
  rcases mn' (fG:=λi=>vInt b λj=>aN (Int.jQ j) (k (.int (Int.fmod i j)) ab)) (a2:=vInt b λj=>aN (Int.jQ j) (k (.sym (ei 0)) ab)) h with⟨i,rfl,h⟩|⟨i,rfl,h⟩
  ·obtain⟨j,rfl,h⟩:=eD' h
   obtain⟨ae,ax⟩:=an h
   obtain⟨t,rfl⟩:=C;obtain⟨u,rfl⟩:=B
   rw[Int.Ud]at ae
   exact TF (by simpa using ae) ⟨p,ab,V.int _,aX.bN.refl p,⟨_,rfl⟩,S.tok,ax⟩
  ·obtain⟨j,rfl,h⟩:=eD' h
   obtain⟨ae,ax⟩:=an h
   obtain⟨x,t,rfl,_⟩:=C;obtain⟨u,rfl⟩:=B
   rw[Int.Ud]at ae
   exact TF (by simpa using ae) ⟨p,ab,V.sym (ei 0),aX.bN.refl p,ie,S.tok,ax⟩
 |Pow=>
  obtain⟨i,rfl,h⟩:=eD' (k:=λi=>vInt b λj=>aN (ji i) (iB (motive:=λZ=>Bool) (λn=>aN (b2 n 1000) (k (.int (i^n)) ab)) (λZ=>false) j)) h
  obtain⟨j,rfl,h⟩:=eD' h
  obtain⟨ae,h⟩:=an h
  obtain⟨t,rfl⟩:=C;obtain⟨u,rfl⟩:=B
  cases j with
  |negSucc n=>cases h
  |ofNat n=>
   obtain⟨ag,ax⟩:=an h
   have ag:n<=1000:=ce ag
   have ae:i.natAbs<1000000000000:=ce ae
   exact PyProof.Rows.pow_int_small (by show(0:Int)<=(n:Int);lia) (by show(n:Int)<=1000000;lia) (by lia) ⟨p,ab,V.int _,aX.bN.refl p,⟨_,rfl⟩,S.tok,ax⟩
 |_=>cases h
def hz (op:Operator) (a b:aT):aT:=λab loc k au=>a ab loc (λv ab=>b ab loc (λw ab=>pP op v w ab k) au) au
def IW (ah:aZ c f) {l r:aM} {cl A:aT} {op pos} (G:a8 c aw cl f l) (H:a8 c aw A f r):a8 c aw (hz op cl A) f (.BinOp l op r pos):=λab loc k au p s E h S B C=>by
 refine wpAny_BinOp (cy (G ab loc _ au p s E h S B C) (λP I bt bw a D J K L=>?_))
 refine cy (H bw loc _ au bt I E L K (aw.up D B) C) (λQ R T U b F M N O=>?_)
 exact b_ (IV ah O N (J.ext F) M) (λZ Z q=>q.up (D.trans F)) λZ Z h=>h
end
section
variable {loc:Loc} {aj:bc}
def noStar:List aM->Bool
 |[]=>true
 |.Starred .. ::_=>false
 |_::r=>noStar r
def mo {ar:Prop} {e:aM} {r:List aM} (h:noStar (e::r)=true) (A:noStar r=true->(∀env,kj (e::r) env=(false,dP e env)::kj r env)->ar):ar:=by
 cases e<;>first|exact A h (λZ=>rfl)|cases h
def Cb:∀{r:List aM} (pos:bO) (env:cI),noStar r=true->(lS pos (kj r env)).any (·.1)=false:=by
 intro r
 induction r with
 |nil=>
  intro _ _ _
  exact rfl
 |cons e r A=>
  intro pos env h
  obtain⟨a,b⟩:=mo h
  rw[b env]
  show(false||(lS pos (kj r env)).any (·.1))=false
  rw[A pos env a];rfl
def kA (l:List aT):aA->Loc->q6->ef->Bool:=bW (motive:=λZ=>aA->Loc->q6->ef->Bool) (λab Z k Z=>k [] ab) (λe Z A ab loc k au=>e ab loc (λv ab=>A ab loc (λai ab=>k (v::ai) ab) au) au) l
inductive gJ (c:b4) (aw:XL c) (f:bL):List aT->List aM->Prop
 |nil:gJ c aw f [] []
 |cons {aV e Cc es}:a8 c aw aV f e->gJ c aw f Cc es->gJ c aw f (aV::Cc) (e::es)
def rQ (pos:bO):∀{B:List aT} {es:List aM},gJ c aw f B es->noStar es=true->∀ab loc k au p s E,kA B ab loc k au=true->ba c f p ab loc s->aw.ok f p au.x E->df c aw f.b au.cl->
  aO (aR c.prog c.w) f.A (spliced (lS pos (kj es f.env))) (ws c f p loc k) E s:=by
 intro B es cj
 induction cj with
 |nil=>
  intro _ ab loc k au p s E h S C D
  exact vW ⟨p,ab,[],aX.bN.refl p,.nil,S,h⟩
 |@cons aV e B es he V H=>
  intro ns ab loc k au p s E h S C D
  obtain⟨I,J⟩:=mo ns
  rw[J f.env]
  refine qU (cy (he ab loc _ au p s E h S C D) (λv K bt bw y F L M N=>?_))
  refine lf (H I bw loc _ au bt K E N M (aw.up F C) D) (λai W O P Q G R T U=>?_)
  exact⟨O,P,y::Q,F.trans G,.cons (L.ext G) R,T,U⟩
def IX {xs:List V} {ai:List am} {k:aY} (h:mk (.list xs) ab k=true) (I:xs.length<=2000) (S:ba c f p ab loc s) (B:All2 (aE p) xs ai):aO (aR c.prog c.w) f.A (newList ai) (cb c f p loc k) E s:=by
 obtain⟨m,aj,F,ak,H,C⟩:=S.ex
 exact newList_N F ak (λav D G=>fH S H C h D G (fw ak) (ll (n:=0) B)) (by rw[<-B.len];have:hr=16777216:=rfl;lia)
def IY {xs:List V} {ai:List am} {k:aY} (h:mk (.tuple xs) ab k=true) (I:xs.length<=2000) (S:ba c f p ab loc s) (B:All2 (aE p) xs ai):aO (aR c.prog c.w) f.A (newTuple ai) (cb c f p loc k) E s:=by
 obtain⟨m,aj,F,ak,H,C⟩:=S.ex
 exact newTuple_N F ak (λav D G=>fH S H C h D G (fw ak) (B8 (n:=0) B)) (by rw[<-B.len];have:hr=16777216:=rfl;lia)
def m9 (es:List aT):aT:=λab loc k au=>kA es ab loc (λai ab=>aN (f6 ai) (mk (.list ai) ab k)) au
def Cd (es:List aT):aT:=λab loc k au=>kA es ab loc (λai ab=>aN (f6 ai) (mk (.tuple ai) ab k)) au
def IZ {es:List aM} {A:List aT} {pos} (h:gJ c aw f A es) (ns:noStar es=true):a8 c aw (m9 A) f (.List es pos):=λab loc k au p s E cj S B C=>by
 refine List_ (lf (rQ pos h ns ab loc _ au p s E cj S B C) (λai K bt bw xs D F G H=>?_))
 obtain⟨I,J⟩:=an H
 exact b_ (IX J (jh I) G F) (λZ Z q=>q.up D) λZ Z h=>h
def I0 {es:List aM} {A:List aT} {q:Nat} {pos} (h:gJ c aw f A es) (ns:noStar es=true):a8 c aw (Cd A) f (.Tuple es q pos):=λab loc k au p s E cj S B C=>by
 refine Tuple_ (lf (rQ pos h ns ab loc _ au p s E cj S B C) (λai K bt bw xs D F G H=>?_))
 obtain⟨I,J⟩:=an H
 exact b_ (IY J (jh I) G F) (λZ Z q=>q.up D) λZ Z h=>h
def ro (az:Nat) (ao:List (Nat×V)) (x:Nat) (v:V):O:=.dict (cq (bS az) (λZ=>az) (lk ao x)) (up ao x v)
def I1 {x:Nat}:∀{ao:List (Nat×V)},(up ao x v).map (·.1)=if x∈ao.map (·.1)then ao.map (·.1)else ao.map (·.1)++[x]:=by
 intro ao
 induction ao with
 |nil=>
  rw[wq];simp
 |cons f l A=>
  rw[q5,d6]
  by_cases e:f.1=x
  ·rw[decide_eq_true e];simp[e]
  ·rw[decide_eq_false e]
   show(f::up l x v).map (·.1)=_
   rw[d4,A]
   have bF:¬x=f.1:=λq=>e q.symm
   by_cases q:x∈l.map (·.1)
   ·rw[if_pos q,d4,if_pos (bJ.mpr (.inr q))]
   ·rw[if_neg q,d4,if_neg (λz=>by rcases bJ.mp z with z|z;exact bF z;exact q z)];rfl
set_option tactic.hygienic true in
def I2 {x:Nat} {ao:List (Nat×V)} (h:(ao.map (·.1)).Nodup):((up ao x v).map (·.1)).Nodup:=by
 rw[I1]
 split
 ·exact h
 ·rename_i q
  rw[pb]
  refine⟨h,by simp,λa A b B e=>?_⟩
  rw[h7.mp B]at e
  exact q (e▸A)
def I3 {name:aI} (A:bf name=true):∀{ao:List (Nat×V)} {es:List cu},cm w p ao es->es.any (·.key.isStr name)=(lk ao (aG name)).isSome:=by
 intro ao es h
 induction h with
 |nil=>
  rw[n_];rfl
 |@cons f e l m h t B=>
  rw[GR,h.1.1.isStr A,gE,B]
  cases aU f.1 (aG name)<;>rfl
def Ce {az:Nat} {ao:List (Nat×V)} {es:List cu} {name:aI} {bo:Tok} {val:am} (a_:(ao.map (·.1)).Nodup) (r:cm w p ao es) (A:bf name=true) (B:aE p v val):
  ∀a3,(p.a i,dd (putL name (mR w name) (.str name bo) val es) (putN name es (p.e i+az)))∈a3->ch K w p a3 i (ro az ao (aG name) v):=λa3 hm=>by
 refine⟨I2 a_,_,?_,Be A B rfl bo r⟩
 have e:putN name es (p.e i+az)=p.e i+(cq (motive:=λZ=>Nat) (bS az) (λZ=>az) (lk ao (aG name)):Nat):=by
  unfold putN;rw[I3 A r]
  cases lk ao (aG name)<;>rfl
 rw[<-e];exact hm
def I4 {az:Nat} {ao:List (Nat×V)} {bo:Tok} {u:V} {B:am} (ah:aZ c f) (S:ba c f p ab loc s) (af:i<p.ay) (C:ab.t.get (key i)=some (.dict az ao)) (k8:bf y=true) (D:dc ao.length 1000=true) (G:aE p u B) {Q:Unit->a9->Prop}
  (h:∀aq,ba c f p (bD (key i) (ro az ao (aG y) u) ab) loc aq->Q () aq):aO (aR c.prog c.w) f.A (sQ (.ref (p.a i)) (.str y bo) B) Q E s:=by
 obtain⟨m,aj,F,ak,H,I⟩:=S.ex
 obtain⟨a_,es,ae,ag⟩:=H.ent i _ af C
 have D:ao.length<1000:=ce D
 refine IB (ak.get ae) ag.keysOf (by rw[<-ag.len];lia) λav e1 e2=>?_
 exact h _ (kz S F ak H I af ⟨_,C,rfl⟩ ae e2 e1 λa3 hm Z=>Ce a_ ag k8 G a3 hm)
def Cf:aT:=λab Z k Z=>mk (.dict 0 []) ab k
def Cg {pos:bO} {Q:am->a9->Prop} (F:Fr f.aC f.L s.heap m) (ak:News f.aC f.L s.heap aj) (H:aQ c.K c.w p ab.t aj) (S:ba c f p ab loc s) (A:db f p loc m) (hs:ab.ay<4000):
  ba c f (p.more s.heap.objs.size s.heap.objs.size) ⟨T.put (.dict 0 []) ab.bz ab.t,ab.ay+1,g8 ab.bz⟩ loc {s with heap:=s.heap.push {cls:=.type "dict",data:=.dict #[]}}:=
 rg S H A hs (F.push _) (aH F ak {cls:=.type "dict",data:=.dict #[]}) (fw ak) λa3 hm=>⟨.nil,[],by rw[fj,wH];exact hm,.nil⟩
def I5 {pos}:a8 c aw Cf f (.Dict [] [] pos):=λab loc k au p s E h S C D=>by
 obtain⟨hs,A⟩:=mk_eq h
 obtain⟨m,aj,F,ak,H,B⟩:=S.ex
 exact wpAny_Dict_empty ⟨_,_,.own ab.ay ab.bz,p.eZ _ _,aX.ib S.z,Cg (pos:=pos) (Q:=λZ Z=>True) F ak H S B hs,A⟩
def Ch (y:Nat) (e:aT):aT:=λab loc k au=>mk (.dict 0 []) ab (λd ab=>e ab loc (λv ab=>cz d λZ A=>jg (bn ab A) λaz ao=>aN (dc ao.length 1000) (k d (bD A (ro az ao y v) ab))) au)
def I6 {bu:k0} {env:cI} {aK pos} {Q:am->a9->Prop} (h:Q (.str y s.toks) {s with toks:=s.toks+1}):aO bu A (dP (.Constant (.str y) aK pos) env) Q E s:=λZ Z Z=>h
def I7 {bu:k0} {pos:bO} {v:am} {Q:am->a9->Prop} (h:Q v s):aO bu A (do sM pos;pure v) Q E s:=aP (lP (br h))
def I8 (ah:aZ c f) {e:aM} {aV:aT} {aK pos pos2} (he:a8 c aw aV f e) (k8:bf y=true):a8 c aw (Ch (aG y) aV) f (.Dict [some (.Constant (.str y) aK pos2)] [e] pos):=λab loc k au p s E h S L M=>by
 obtain⟨hs,h⟩:=mk_eq h
 obtain⟨m,aj,F,ak,H,N⟩:=S.ex
 have O:=Cg (pos:=pos) (Q:=λZ Z=>True) F ak H S N hs
 have e0:=p.eZ s.heap.objs.size s.heap.objs.size
 refine wpAny_Dict_any rfl rfl (by simp) (by simp) ?_
 show aO _ _ (evalPairs [(dP (.Constant (.str y) aK pos2) f.env,do let x<-dP e f.env;sM pos;pure x)]) _ _ _
 unfold evalPairs
 refine aP (I6 (aP (gB (aP (cy (he _ loc _ au _ _ E h O.tok (aw.up e0 L) M) (λv Y bt bw u A P D R=>I7 ?_))))))
 obtain⟨b,d,e,T⟩:=cJ' R
 cases e
 obtain⟨az,ao,B,U⟩:=lj' T
 obtain⟨G,I⟩:=an U
 rw[bP,S.z.bz]at B
 rw[S.z.bz]at I
 obtain⟨g,i,W,J,K,X⟩:=D.ex
 have af:ab.ay<bt.ay:=cH (by rw[<-S.z.ay];exact i_ _) A.ay
 have C:bt.a ab.ay=s.heap.objs.size:=by rw[A.a ab.ay (by rw[<-S.z.ay];exact i_ _),<-S.z.ay];exact fj
 obtain⟨a_,es,ae,ag⟩:=K.ent _ _ af B
 have G:ao.length<1000:=ce G
 unfold evalPairs
 refine aP (gB (br (br ?_)))
 show aO _ _ (storeAll s.heap.objs.size [(_,v)]) _ _ _
 unfold storeAll
 rw[List.forIn_cons]
 refine aP (aP (BU (by rw[<-C];exact J.get ae) ag.keysOf (by rw[<-ag.len];lia) λav aK aW=>br ?_))
 show aO _ _ (forIn [] _ _) _ _ _
 rw[G_]
 refine br ?_
 rw[<-C]at aK aW
 refine⟨bt,_,V.own ab.ay (key ab.ay),e0.trans A,?_,kz D W J K X af ⟨_,B,rfl⟩ ae aW aK λa3 hm Z=>Ce a_ ag k8 P a3 hm,I⟩
 rw[<-C];exact⟨af,rfl,rfl⟩
end
def I9:aI⊕Int->am->Bool
 |.inl x,v=>mU x v
 |.inr i,v=>am.isInt i v
def dR (prog:ew) (w:cv):KeyKind prog w (aI⊕Int) where
 is:=I9
 hash:=mixHash w
 inj:=λv a b D F=>by
  cases a with
  |inl x=>cases b with
   |inl y=>exact congrArg _ (am.isStrOf_inj v x y D F)
   |inr j=>obtain⟨t,rfl⟩:=k5 D,D;exact nomatch (nT (k:=j) (v:=.str x t) F)
  |inr i=>cases b with
   |inl y=>obtain⟨t,rfl⟩:=nT D,D;exact nomatch (k5 (x:=y) (v:=.int i t) F)
   |inr j=>exact congrArg _ (am.isInt_inj v i j D F)
 byValue:=λk v h=>by
  cases k with
  |inl x=>obtain⟨t,rfl⟩:=k5 h,h;rfl
  |inr i=>obtain⟨t,rfl⟩:=nT h,h;rfl
 pyHash:=λ{A E s k v Q} B h=>by
  cases k with
  |inl x=>obtain⟨t,rfl⟩:=k5 B,B;exact wpAny_pyHash_str h
  |inr i=>obtain⟨t,rfl⟩:=nT B,B;exact wpAny_pyHash_int h
 eqBool:=λ{A E s a b u v Q} C B h=>by
  cases a with
  |inl x=>cases b with
   |inl y=>
    obtain⟨t,rfl⟩:=k5 C,C;obtain⟨bZ,rfl⟩:=k5 B,B
    exact wpAny_eqBool_str (by
      have e:decide (Sum.inl (β:=Int) x=Sum.inl y)=decide (x=y):=by simp
      rw[<-e];exact h)
   |inr j=>
    obtain⟨t,rfl⟩:=k5 C,C;obtain⟨bZ,rfl⟩:=nT B,B
    exact ja.str_int x t j bZ prog w E Q (by simpa using h)
  |inr i=>cases b with
   |inl y=>
    obtain⟨t,rfl⟩:=nT C,C;obtain⟨bZ,rfl⟩:=k5 B,B
    exact ja.int_str i t y bZ prog w E Q (by simpa using h)
   |inr j=>
    obtain⟨t,rfl⟩:=nT C,C;obtain⟨bZ,rfl⟩:=nT B,B
    exact wpAny_eqBool_int (by
      have e:decide (Sum.inr (α:=aI) i=Sum.inr j)=(i==j):=by by_cases q:i=j<;>simp[q]
      rw[<-e];exact h)
 «strs»:=λk x t v h=>by
  cases k with
  |inl y=>obtain⟨u,e⟩:=k5 (x:=y) (v:=.str x t) h;clear h;cases e;exact(isStr_of x v).symm
  |inr i=>exact nomatch (nT (k:=i) (v:=.str x t) h)
section
variable {loc:Loc} {aj:bc}
def rp (a b:V):Bool:=V.rec false aL (λi=>vInt b λj=>Int.dt i j) aL (λi=>vStr b λj=>aU i j) a1 aL a1 a
def ig (xs:List V):List V->Bool:=bW (motive:=λZ=>List V->Bool) (λA=>bW true hv A) (λa Z B A=>bW false (λb m Z=>aN (rp a b) (B m)) A) xs
def Ci (a:V):Bool:=V.rec false aL (λZ=>true) aL (λZ=>true) a1 aL a1 a
def rq (xs:List V):Bool:=bW true (λa Z A=>aN (Ci a) A) xs
def I_ {a b:V} {x y:aI⊕Int} (B:kr a x) (A:kr b y):rp a b=decide (x=y):=by
 cases a with
 |str i=>
  cases x with
  |inr _=>cases B
  |inl s1=>cases b with
   |str j=>cases y with
    |inr _=>cases A
    |inl a5=>
     obtain⟨o1,rfl⟩:=B
     obtain⟨o2,rfl⟩:=A
     show aU _ _=_
     rw[d6]
     by_cases e:s1=a5
     clear o2
     ·subst e;simp
     ·have:¬aG s1=aG a5:=λq=>e (gW o1 o2 q)
      simp[e,this]
   |int j=>cases y with
    |inl _=>cases A
    |inr _=>simp[rp,vStr]
   |_=>cases y<;>cases A
 |int i=>
  cases x with
  |inl _=>cases B
  |inr cr=>cases b with
   |int j=>cases y with
    |inl _=>cases A
    |inr cx=>
     cases B;cases A
     show Int.dt _ _=_
     rw[Int.ky]
     by_cases e:cr=cx<;>simp[e]
   |str j=>cases y with
    |inr _=>cases A
    |inl _=>simp[rp,vInt]
   |_=>cases y<;>cases A
 |_=>cases x<;>cases B
def rr:∀{xs B:List V} {a2 A:List (aI⊕Int)},All2 kr xs a2->All2 kr B A->ig xs B=decide (a2=A):=by
 intro xs B a2 A h av
 induction h generalizing B A with
 |nil=>cases av<;>simp[ig]
 |@cons a x l a2 h t C=>
  cases av with
  |nil=>simp[ig]
  |@cons b y D A av bZ=>
  show aN (rp a b) (ig l D)=_
  rw[I_ h av,C bZ]
  by_cases e:x=y<;>by_cases bF:a2=A<;>simp[e,bF]
def Cj {prog:ew}:∀{xs:List V} {ai:List am},rq xs=true->All2 (aE p) xs ai->∃a2,ItemsAre (dR prog w) a2 ai/\All2 kr xs a2:=by
 intro xs ai h r
 induction r with
 |nil=>
  exact⟨[],ItemsAre.nil,All2.nil⟩
 |@cons a v l ai A t B=>
  obtain⟨ae,ag⟩:=an (show aN (Ci a) (rq l)=true from h)
  clear h
  obtain⟨a2,aK,aW⟩:=B ag
  cases a with
  |int i=>obtain⟨bo,rfl⟩:=A;exact⟨Sum.inr i::a2,ItemsAre.cons (by show am.isInt i (.int i bo)=true;simp[am.isInt]) aK,All2.cons rfl aW⟩
  |str i=>obtain⟨x,bo,rfl,o,e⟩:=A;exact⟨Sum.inl x::a2,ItemsAre.cons (lQ prog w x bo) aK,All2.cons ⟨o,e⟩ aW⟩
  |_=>cases ae
def jj (ab:aA) (v:V) (k:List V->Bool):Bool:=cz v λZ aB=>ic (bn ab aB) λxs=>aN (rq xs) (k xs)
def od' {ar:Prop} {k:List V->Bool} (h:jj ab v k=true) (A:∀i aB xs,v=.own i aB->ab.t.get aB=some (.tuple xs)->rq xs=true->k xs=true->ar):ar:=by
 obtain⟨i,aB,e,h⟩:=cJ' h
 obtain⟨xs,g,h⟩:=m8' h
 obtain⟨ae,ag⟩:=an h
 dsimp only[bP]at g
 exact A i aB xs e g ae ag
abbrev ih:=List ((V×List V)×V)
def m_ (es:ih) (a2:List V):Bool:=bW false (λe Z A=>pj (ig e.1.2 a2) A) es
def pQ (ab:aA) (es:ih):Bool:=bW true (λe l A=>aN (jj ab e.1.1 λxs=>ig e.1.2 xs) (aN (hq (m_ l e.1.2)) A)) es
def jW (es:ih) (a2:List V):Option V:=bW none (λe Z A=>bk A (some e.2) (ig e.1.2 a2)) es
def Ub (es:ih) (A:V) (a2:List V) (v:V):ih:=bW [((A,a2),v)] (λe l B=>bk (e::B) ((e.1,v)::l) (ig e.1.2 a2)) es
def kB (p:aX) (e:(V×List V)×V) (x:List (aI⊕Int)×a7×am):Prop:=(∃i k,e.1.1=.own i k)/\All2 kr e.1.2 x.1/\aE p e.1.1 (.ref x.2.1)/\aE p e.2 x.2.2
def kB.Ja {e:(V×List V)×V} {x:List (aI⊕Int)×a7×am} (h:kB p e x):ks c.w p e (h8 (eT (dR c.prog c.w)) x):=by
 obtain⟨⟨i,k,e1⟩,ae,ag,ax⟩:=h
 exact⟨⟨i,k,_,_,e1,ag,rfl,ae,rfl⟩,ax⟩
def wV (ak:News f.aC f.L s.heap aj) (H:aQ c.K c.w p ab.t aj):∀{es:ih} {A:List cu},pQ ab es=true->All2 (ks c.w p) es A->
  ∃xs:List (List (aI⊕Int)×a7×am),A=xs.map (h8 (eT (dR c.prog c.w)))/\(∀x∈xs,nU (dR c.prog c.w) s.heap x.1 x.2.1)/\(xs.map (·.1)).Nodup/\
   All2 (kB p) es xs:=by
 intro es A h r
 induction r with
 |nil=>
  exact⟨[],rfl,(λZ h=>nomatch h),List.nodup_nil,All2.nil⟩
 |@cons e d l A hd t B=>
  obtain⟨ae,I⟩:=an (show aN (jj ab e.1.1 λxs=>ig e.1.2 xs) (aN (hq (m_ l e.1.2)) (pQ ab l))=true from h)
  obtain⟨ag,ax⟩:=an I
  obtain⟨xs,aK,aW,bH,cV⟩:=B ax
  obtain⟨⟨i,k,a,a2,e1,E,e2,C,e3⟩,F⟩:=hd
  obtain⟨T,aB,U,G,g,sc,ae⟩:=od' ae
  rw[e1]at G E
  cases G
  obtain⟨af,rfl,J⟩:=E
  cases J
  obtain⟨ai,n,M,N⟩:=H.ent i _ af g
  obtain⟨O,i1,i2⟩:=Cj (w:=c.w) (prog:=c.prog) sc N
  have P:a2=O:=by have:=rr C i2;rw[ae]at this;simpa using this.symm
  clear i2
  subst P
  obtain⟨cj,aB,Q⟩:=d
  dsimp only at e2 e3 F
  subst e2 e3
  refine⟨(a2,p.a i,Q)::xs,by rw[aK];rfl,λx D=>?_,?_,All2.cons ⟨⟨_,_,e1⟩,C,by rw[e1];exact⟨af,rfl,rfl⟩,F⟩ cV⟩
  ·rcases bJ.mp D with rfl|D
   ·exact⟨_,ai.toArray,n,ak.get M,rfl,rfl,by simpa using i1⟩
   ·exact aW x D
  clear i1
  ·rw[d4,g7]
   refine⟨λhm=>?_,bH⟩
   have gen:∀{l:ih} {xs:List (List (aI⊕Int)×a7×am)},All2 (kB p) l xs->a2∈xs.map (·.1)->m_ l e.1.2=true:=by
    clear hm
    intro l xs R
    induction R with
    |nil=>intro h;cases h
    |@cons b x l xs S _ B=>
     intro hm
     show pj (ig b.1.2 e.1.2) (m_ l e.1.2)=true
     rw[d4]at hm
     rcases bJ.mp hm with rfl|hm
     ·rw[rr S.2.1 C];simp
     ·rw[B hm]at⊢;cases ig b.1.2 e.1.2<;>rfl
   rw[gen cV hm]at ag;cases ag
def tB {a2:List V} {k:List (aI⊕Int)} (A:All2 kr a2 k):∀{es:ih} {xs:List (List (aI⊕Int)×a7×am)},All2 (kB p) es xs->
  (∀v,jW es a2=some v->∃q,ht xs k=some q/\aE p v q.2)/\(jW es a2=none->ht xs k=none):=by
 intro es xs B
 induction B with
 |nil=>
  exact⟨λv h=>(nomatch h),λZ=>rfl⟩
 |@cons e x l xs h t C=>
  obtain⟨i1,i2⟩:=C
  have D:jW (e::l) a2=bk (motive:=λZ=>Option V) (jW l a2) (some e.2) (ig e.1.2 a2):=rfl
  rw[D,rr h.2.1 A]
  unfold ht at i1 i2⊢
  rw[vQ]
  by_cases q:x.1=k
  ·rw[decide_eq_true q]
   exact⟨λv E=>by cases E;exact⟨_,rfl,h.2.2.2⟩,λz=>by cases z⟩
  ·rw[decide_eq_false q]
   exact⟨i1,i2⟩
def Jb {A:V} {a2:List V} {k:List (aI⊕Int)} {val:am} {a:a7} (B:All2 kr a2 k) (k8:∃i aB,A=.own i aB) (D:aE p A (.ref a)) (C:aE p v val):∀{es:ih} {xs:List (List (aI⊕Int)×a7×am)},All2 (kB p) es xs->(xs.map (·.1)).Nodup->
  ((ht xs k).isSome=true->All2 (kB p) (Ub es A a2 v) (xs.map (putAt k val)))/\((ht xs k)=none->All2 (kB p) (Ub es A a2 v) (xs++[(k,a,val)])):=by
 intro es xs E a_
 induction E with
 |nil=>
  exact⟨λh=>(nomatch h),λZ=>.cons ⟨k8,B,D,C⟩ .nil⟩
 |@cons e x l xs h t F=>
  rw[d4,g7]at a_
  obtain⟨i1,i2⟩:=F a_.2
  have G:Ub (e::l) A a2 v=bk (motive:=λZ=>ih) (e::Ub l A a2 v) ((e.1,v)::l) (ig e.1.2 a2):=rfl
  rw[G,rr h.2.1 B]
  unfold ht at i1 i2⊢
  rw[vQ]
  by_cases q:x.1=k
  ·rw[decide_eq_true q]
   refine⟨λZ=>?_,λz=>by cases z⟩
   rw[d4,map_putAt_of_not_mem xs k val (by rw[<-q];exact a_.1)]
   refine .cons ?_ t
   unfold putAt
   rw[if_pos q]
   exact⟨h.1,h.2.1,h.2.2.1,C⟩
  ·rw[decide_eq_false q]
   refine⟨λz=>?_,λz=>.cons h (i2 z)⟩
   rw[d4]
   refine .cons ?_ (i1 z)
   unfold putAt
   rw[if_neg q]
   exact h
def tC:∀{es:ih} {xs:List (List (aI⊕Int)×a7×am)},All2 (kB p) es xs->All2 (ks c.w p) es (xs.map (h8 (eT (dR c.prog c.w)))):=by
 intro es xs h
 induction h with
 |nil=>
  exact .nil
 |cons h t A=>
  exact .cons h.Ja A
def Ck {prog:ew} {d a:a7} {xs:List (List (aI⊕Int)×a7×am)} {az:Nat} {k:List (aI⊕Int)} {v:am} {Q:Unit->a9->Prop} (I:A.units+1<hO)
  (k8:s.heap.get? d=some (dd (xs.map (h8 (eT (dR prog w)))) az)) (J:∀x∈xs,nU (dR prog w) s.heap x.1 x.2.1) (C:(xs.map (·.1)).Nodup) (G:nU (dR prog w) s.heap k a) (O:xs.length<=1000)
  (K:ht xs k=none->∀av,av.get? d=some (dd ((xs++[(k,a,v)]).map (h8 (eT (dR prog w)))) (az+1))->k2 d s.heap av->Q () {s with heap:=av,toks:=s.toks+(k.length+1)})
  (L:(ht xs k).isSome=true->∀av,av.get? d=some (dd ((xs.map (putAt k v)).map (h8 (eT (dR prog w)))) az)->k2 d s.heap av->Q () {s with heap:=av,toks:=s.toks+(k.length+1)}):
  aO (aR prog w) A (sQ (.ref d) (.ref a) v) Q E s:=by
 have bj:s.TypeIs (.ref d) "dict":=⟨_,k8,rfl⟩
 unfold sQ
 try with_reducible refine gB ?_
 refine aP (wpAny_sequenceKey bj (by decide) ?_)
 refine aP (sR (name:=ec "__setitem__") bj zW
  (mV zW bj entry_dict_setitem ?_ (args_dict_setitem _ _ _)))
 show aO _ _ (Tw "__setitem__" ⟨[.ref d,.ref a,v],[]⟩>>=_) _ _ s
 refine aP (sS bj ?_)
 show aO _ _ (pg d (.ref a) v>>=_) _ _ s
 refine aP ?_
 unfold pg
 try with_reducible refine gB ?_
 have H:(eT (dR prog w)).room A.in1:=I
 refine aP ((eT (dR prog w)).pyHash (k:=k) H G ?_)
 unfold dictSetHashed
 try with_reducible refine gB ?_
 refine aP (wpAny_dictFind_heap (s:={s with toks:=s.toks+(k.length+1)}) (xs:=xs) H G k8 rfl (by simp) J C (λM=>?_) λj q B=>?_)
 ·have D:ht xs k=none:=by
   unfold ht
   rw[Ha,Hb]
   intro x N F
   obtain⟨j,B⟩:=Hc N
   have F:=of_decide_eq_true F
   exact M j x.2 (by rw[B,<-F])
  refine aP (ph (G3 (s:={s with toks:=s.toks+(k.length+1)}) (hz:=by simp;have:hr=16777216:=rfl;lia) k8 rfl (br ⟨_,rfl,br (K D _ ?_ (k3 ..))⟩)))
  rw[ki _ k8 (by rfl)]
  congr 1
  simp[G4,dd,h8]
 ·have D:(ht xs k).isSome=true:=by rw[atKey_of_get C B];rfl
  refine aP (ph (aP (G1 (s:={s with toks:=s.toks+(k.length+1)}) k8 rfl (wpAny_point (br ⟨_,rfl,br (L D _ ?_ (k3 ..))⟩)))))
  rw[ki _ k8 (by rfl)]
  congr 1
  have e:=modify_map_putAt (h8 (eT (dR prog w))) (λe=>{e with val:=v}) k v (λa P=>rfl) C B
  show sP (λa=>a.modify j _) (dd _ az)=dd _ _
  simp only[sP,G2]
  rw[e]
end
def gY (o:Option O) (A:Nat->List (Nat×V)->Bool) (B:Nat->List ((V×List V)×V)->Bool) (C:List V->Bool) (D:List V->Bool):Bool:=cq false (λo=>O.rec a1 A B C D aL aL a1 a1 cQ aL cQ aL cQ a1 a1 a1 false aL false aL a1 aL o) o
def mq' {o:Option O} {C:Nat->List (Nat×V)->Bool} {D:Nat->List ((V×List V)×V)->Bool} {E:List V->Bool} {F:List V->Bool} (h:gY o C D E F=true):(∃A B,o=some (.dict A B)/\C A B=true)∨(∃A B,o=some (.tdict A B)/\D A B=true)∨(∃A,o=some (.list A)/\E A=true)∨(∃A,o=some (.tuple A)/\F A=true):=by
 cases o with
 |none=>cases h
 |some o=>
  cases o with
  |dict _ _=>exact .inl ⟨_,_,rfl,h⟩
  |tdict _ _=>exact .inr (.inl ⟨_,_,rfl,h⟩)
  |list _=>exact .inr (.inr (.inl ⟨_,rfl,h⟩))
  |tuple _=>exact .inr (.inr (.inr (⟨_,rfl,h⟩)))
  |_=>cases h
section
variable {loc:Loc} {aj:bc}
def lm {prog:ew} {dz B:aM} {o i:am} {T id:String} {D:List am} {Q:am->a9->Prop} (bj:s.TypeIs o T)
  (F:typeLookup (.type T) "__getitem__"=pure (some (.builtin id))) (h:aO (aR prog w) A (getItem o i) Q E s)
  (hs:z_ B false o i=operate D (getItem o i)):
  aO (aR prog w) A (Aa dz B o i) Q E s:=by
 unfold Aa
 refine aP ?_
 rw[getitemInPython_of_ne bj.not_modules]
 refine aP (Hd bj F ?_)
 have dF:aO (aR prog w) A (z_ B false o i) (λr C=>aO (aR prog w) A (letTemporaryGo dz o r>>=λZ=>pure r) Q E C) E s:=by
  rw[hs]
  exact wpAny_operating (b_ h (λr C G=>aP (wpAny_letTemporaryGo (br G))) λZ Z x=>x)
 first
  |exact br (aP dF)
  |exact aP (br (aP dF))
  |exact aP dF
def ru:aM->Bool
 |.Slice .. =>false
 |_=>true
def oe {A:aM} {o i:am} (h:ru A=true):z_ A false o i=operate [o,i] (getItem o i):=by
 cases A<;>first|rfl|cases h
def dk (xs:List V):Nat->Option V:=bW (motive:=λZ=>Nat->Option V) bX (λa Z A n=>gg (some a) (λm Z=>A m) n) xs
def pR {R:V->am->Prop}:∀{xs:List V} {ai:List am} {n:Nat} {v:V},All2 R xs ai->dk xs n=some v->∃val,ai[n]?=some val/\R v val:=by
 intro xs ai n v h
 induction h generalizing n with
 |nil=>intro h;cases(show none=some v from h)
 |@cons _ _ l _ h t A=>
  intro e
  cases n with
  |zero=>clear A;cases(show some _=some v from e);exact⟨_,rfl,h⟩
  |succ n=>
   obtain⟨val,aK,aW⟩:=A (n:=n) (show dk l n=some v from e)
   exact⟨val,by simpa using aK,aW⟩
def rv:∀{xs:List V} {n:Nat},dk xs n=none->xs.length<=n
 |[],_,_=>hL _
 |a::l,0,h=>nomatch (show some a=none from h)
 |a::l,n+1,h=>iz (rv (show dk l n=none from h))
def jX (v:V) (k:Nat->Bool):Bool:=vInt v λi=>iB (λn=>aN (dc n 100000) (k n)) aL i
def kC' {ar:Prop} {k:Nat->Bool} (h:jX v k=true) (A:∀(n:Nat),v=.int (bl n)->n<100000->k n=true->ar):ar:=by
 obtain⟨i,rfl,h⟩:=eD' h
 cases i with
 |ofNat n=>obtain⟨ae,ag⟩:=an h;exact A n rfl (ce ae) ag
 |negSucc n=>cases h
def tD (y:aI) (k:Nat->Bool):Bool:=aN (bf y) (k (aG y))
def Cm (a:Nat) (k:aY) (ab:aA):Bool:=aN (gm a) (cq false (λx=>tD ⟨#[x]⟩ λy=>k (.str y) ab) ((en a).cps[0]?))
def kD (be:Nat->Option O) (o i:V) (ab:aA) (k:aY):Bool:=V.rec false aL aL aL
 (λa=>jX i λn=>aN (aU n 0) (Cm a k ab))
 (λZ aB=>gY (bn ab aB) (λZ es=>vStr i λx=>f4 (lk es x) λv=>k v ab) (λZ es=>aN (aN (pQ ab es) (b2 es.length 1000)) (jj ab i λa2=>f4 (jW es a2) λv=>k v ab)) (λxs=>jX i λn=>f4 (dk xs n) λv=>k v ab) (λxs=>jX i λn=>f4 (dk xs n) λv=>k v ab))
 (λg=>gY (be g) (λZ es=>vStr i λx=>f4 (lk es x) λv=>k v ab) (λZ Z=>false) (λZ=>false) (λxs=>jX i λn=>f4 (dk xs n) λv=>k v ab)) (λZ Z=>false) o
def pS {ar:Prop} {prog:ew} {xs:List V} (ak:News f.aC f.L s.heap aj) (H:aQ c.K c.w p ab.t aj) (af:i<p.ay) (g:ab.t.get (key i)=some (.tuple xs)) (sc:rq xs=true) (A:∀a2,nU (dR prog c.w) s.heap a2 (p.a i)->All2 kr xs a2->ar):ar:=by
 obtain⟨ai,n,B,C⟩:=H.ent i _ af g
 obtain⟨D,i1,i2⟩:=Cj (w:=c.w) (prog:=prog) sc C
 exact A D ⟨_,ai.toArray,n,ak.get B,rfl,rfl,by simpa using i1⟩ i2
def Jc {be:Nat->Option O} (R:go c be) {dz U:aM} {o i:V} {W Y:am} {k:aY} (h:kD be o i ab k=true) (D:ru U=true) (ah:aZ c f) (S:ba c f p ab loc s) (k8:aE p o W) (af:aE p i Y):aO (aR c.prog c.w) f.A (Aa dz U W Y) (cb c f p loc k) E s:=by
 obtain⟨m,aj,F,ak,H,ar⟩:=S.ex
 cases o with
 |str a=>
  obtain⟨n,rfl,J,h⟩:=kC' (k:=λn=>aN (aU n 0) (Cm a k ab)) h
  clear J
  obtain⟨K,h⟩:=an h
  obtain⟨d,bA⟩:=an (show aN (gm a) _=true from h)
  clear h
  have:=b3 K
  clear K
  subst this
  obtain⟨t,rfl⟩:=af
  obtain⟨x,u,rfl,e,rfl⟩:=k8
  rw[ri e d]at bA
  cases L:x.cps[0]? with
  |none=>rw[L]at bA;cases bA
  |some M=>
   rw[L]at bA
   obtain⟨ae,ag⟩:=an (show aN (bf ⟨#[M]⟩) (k (.str (aG ⟨#[M]⟩)) ab)=true from bA)
   have l:0<x.length:=by
    have:=(vX.mp L).1
    exact this
   refine lm (T:="str") (Ab s x u) PySem.F.slot_str_getitem.lookup (P.getItem_str (i:=0) (c:=M) (by decide) ?_ ⟨p,ab,V.str (aG ⟨#[M]⟩),.refl p,⟨_,_,rfl,ae,rfl⟩,S.tok,ag⟩) (oe D)
   unfold seqIndex?
   rw[if_neg (show¬((0:Int)<0) by decide)]
   rw[if_pos (by simpa using l)]
   simpa using L
 |own j aB=>
  obtain⟨N,rfl,rfl⟩:=k8
  rcases mq' (show gY (bn ab (key j)) _ _ _ _=true from h)with⟨az,es,g,h⟩|⟨az,es,g,h⟩|⟨xs,g,h⟩|⟨xs,g,h⟩
  ·dsimp only[bP]at g
   obtain⟨x,rfl,h⟩:=jR' h
   obtain⟨v,B,C⟩:=f5' h
   clear h
   obtain⟨y,t,rfl,Q,rfl⟩:=af
   obtain⟨a_,b,ae,ag⟩:=H.ent j _ N g
   have hm:=ag.mapOf (prog:=c.prog) (ak.get ae)
   obtain⟨val,aK,aW⟩:=(ag.find Q).1 v B
   exact lm hm.typeIs He.lookup (wpAny_getItem_of (lQ c.prog c.w y t) hm aK ⟨p,ab,v,aX.bN.refl p,aW,S.tok,C⟩) (oe D)
  ·dsimp only[bP]at g
   obtain⟨K,h⟩:=an h
   obtain⟨r,as⟩:=an K
   obtain⟨au,aB,a2,rfl,bq,sc,h⟩:=od' h
   obtain⟨v,B,C⟩:=f5' h
   clear h
   obtain⟨aa,rfl,rfl⟩:=af
   obtain⟨b,ae,ag⟩:=H.ent j _ N g
   obtain⟨xs,e1,aW,bH,cV⟩:=wV ak H r ag
   obtain⟨av,i1,i2⟩:=pS (prog:=c.prog) ak H aa bq sc
   obtain⟨q,G,al⟩:=(tB i2 cV).1 v B
   have hm:s.heap.DictOfH (eT (dR c.prog c.w)) (p.a j) xs:=⟨_,_,_,ak.get ae,pM _ _,rfl,by rw[e1],aW,bH⟩
   have ao:(eT (dR c.prog c.w)).room f.A.in1:=by have:=m6 ah;show f.A.units+1<hO;lia
   exact lm hm.typeIs He.lookup (wpAny_getItem_heap (knd:=eT (dR c.prog c.w)) ao i1 hm G ⟨p,ab,v,aX.bN.refl p,al,S.tok,C⟩) (oe D)
  ·dsimp only[bP]at g
   obtain⟨n,rfl,J,h⟩:=kC' h
   obtain⟨v,B,C⟩:=f5' h
   obtain⟨t,rfl⟩:=af
   obtain⟨ai,l1,G⟩:=aQ.list ak H N g
   obtain⟨val,aK,aW⟩:=pR G B
   exact lm l1.typeIs slot_list_getitem.lookup (wpAny_getItem_list l1 (sV n) (by have:bl n=(n:Int):=rfl;lia) (by simpa using aK) ⟨p,ab,v,aX.bN.refl p,aW,S,C⟩) (oe D)
  ·dsimp only[bP]at g
   obtain⟨n,rfl,J,h⟩:=kC' h
   obtain⟨v,B,C⟩:=f5' h
   obtain⟨t,rfl⟩:=af
   obtain⟨ai,l1,G⟩:=aQ.tup ak H N g
   obtain⟨val,aK,aW⟩:=pR G B
   have ap:n<ai.length:=(vY.mp aK).1
   refine lm (T:="tuple") l1.typeIs slot_tuple_getitem.lookup (getItem_tuple (j:=n) l1 (by have:bl n=(n:Int):=rfl;lia) (by have:bl n=(n:Int):=rfl;lia) ?_ (by simpa using aK) ⟨p,ab,v,aX.bN.refl p,aW,S,C⟩) (oe D)
   unfold seqIndex?
   have:¬((bl n)<0):=by simp
   rw[if_neg this]
   rw[if_pos (by simp;lia)]
   rfl
 |gnd g=>
  cases k8
  rcases mq' (show gY (be g) _ _ _ _=true from h)with⟨az,es,I,h⟩|⟨az,es,I,h⟩|⟨xs,I,h⟩|⟨xs,I,h⟩
  ·obtain⟨x,rfl,h⟩:=jR' h
   obtain⟨v,B,C⟩:=f5' h
   clear h
   obtain⟨y,t,rfl,Q,rfl⟩:=af
   obtain⟨⟨b,n,ae,ag⟩,hs⟩:=R g _ I
   have hm:=(ag p).mapOf (prog:=c.prog) ((ah.X.keeps F.keep) _ _ ae)
   obtain⟨val,aK,aW⟩:=((ag p).find Q).1 v B
   exact lm hm.typeIs He.lookup (wpAny_getItem_of (lQ c.prog c.w y t) hm aK ⟨p,ab,v,aX.bN.refl p,aW,S.tok,C⟩) (oe D)
  ·cases h
  ·cases h
  ·obtain⟨n,rfl,J,h⟩:=kC' h
   obtain⟨v,B,C⟩:=f5' h
   obtain⟨t,rfl⟩:=af
   obtain⟨ai,eC,aq,bs,ae,ag⟩:=R g _ I
   have l1:s.heap.IsTuple g ai.toArray:=⟨_,(ah.X.keeps F.keep) _ _ ae,rfl,aq,rfl⟩
   obtain⟨val,aK,aW⟩:=pR (ag p) B
   have ap:n<ai.length:=(vY.mp aK).1
   refine lm (T:="tuple") l1.typeIs slot_tuple_getitem.lookup (getItem_tuple (j:=n) l1 (by have:bl n=(n:Int):=rfl;lia) (by have:bl n=(n:Int):=rfl;lia) ?_ (by simpa using aK) ⟨p,ab,v,aX.bN.refl p,aW,S,C⟩) (oe D)
   unfold seqIndex?
   have:¬((bl n)<0):=by simp
   rw[if_neg this]
   rw[if_pos (by simp;lia)]
   rfl
 |_=>cases h
def jk (g:Nat->Option O) (o i:aT):aT:=λab loc k au=>o ab loc (λv ab=>i ab loc (λw ab=>kD g v w ab k) au) au
def Jd {be:Nat->Option O} (F:go c be) (ah:aZ c f) {o i:aM} {co ci:aT} {pos} (k8:a8 c aw co f o) (af:a8 c aw ci f i) (G:ru i=true):a8 c aw (jk be co ci) f (.Subscript o i pos):=λab loc k au p s E h S A B=>by
 refine vZ (cy (k8 ab loc _ au p s E h S A B) (λP H bt bw a C I J K=>?_))
 refine cy (af bw loc _ au bt H E K J (aw.up C A) B) (λQ R T U b D L M N=>?_)
 exact b_ (Jc F N G ah M (I.ext D) L) (λZ Z q=>q.up (C.trans D)) λZ Z h=>h
end
section
variable {loc:Loc} {aj:bc}
def slice_list {dz:aM} {lo up st:Option aM} {q:bO} {l:a7} {B:Array am} {C D G:am} {a b d:Option Int} {Q:am->a9->Prop} (F:Fr f.aC f.L s.heap m) (ak:News f.aC f.L s.heap aj) (H:s.heap.IsList l B)
  (K:IsPart C a) (M:IsPart D b) (N:IsPart G d) (O:d≠some 0) (P:B.size<=3000)
  (hs:∃I,z_ (.Slice lo up st q) false (.ref l) (.ref s.heap.objs.size)=operate I (getItem (.ref l) (.ref s.heap.objs.size)))
  (h:∀av,Fr f.aC f.L av m->News f.aC f.L av ((s.heap.objs.size+1,dJ (slicePick B a b d).toList 0)::aj)->Q (.ref (s.heap.objs.size+1)) {s with heap:=av}):
  aO (aR c.prog c.w) f.A (Aa dz (.Slice lo up st q) (.ref l) (.ref s.heap.objs.size)) Q E {s with heap:=s.heap.push {cls:=.type "slice",data:=.fields #[C,D,G]}}:=by
 obtain⟨I,hs⟩:=hs
 refine lm (bE.IsList.typeIs (s:={s with heap:=s.heap.push {cls:=.type "slice",data:=.fields #[C,D,G]}}) (H.push _)) slot_list_getitem.lookup
  (wpAny_getItem_list_slice (H.push _) (bE.IsSliceOf.new ..) K M N O ?_ (by have:hr=16777216:=rfl;lia)) hs
 have J:=aH (F.push {cls:=.type "slice",data:=.fields #[C,D,G]}) (ak.grown λZ Z e=>fO _ e) {cls:=.type "list",data:=.seq (slicePick B a b d)}
 rw[lT]at J
 show Q (.ref (s.heap.push _).objs.size) _
 rw[lT]
 refine h _ ((F.push _).push _) ?_
 have e:({cls:=.type "list",data:=.seq (slicePick B a b d)}:bY)=dJ (slicePick B a b d).toList 0:=by unfold dJ;simp
 rw[<-e];exact J
def wW (ak:News f.aC f.L s.heap aj):∀q∈aj,q.1<s.heap.objs.size+1:=λq A=>nM (dX (ak q A).1)
def All2.take {bd ca:Type} {R:bd->ca->Prop}:∀(n:Nat) {l A},All2 R l A->All2 R (l.take n) (A.take n):=by
 intro n
 induction n with
 |zero=>exactλZ=>.nil
 |succ n B=>
  intro l A h
  cases h with
  |nil=>exact .nil
  |cons h t=>exact .cons h (B t)
def All2.rev {bd ca:Type} {R:bd->ca->Prop}:∀{l A},All2 R l A->All2 R l.reverse A.reverse:=by
 intro l A h
 induction h with
 |nil=>
  exact .nil
 |cons h t B=>
  rw[Ac,Ac];exact B.append (.cons h .nil)
def tE:List V->List V->List V
 |[],m=>m
 |v::l,m=>tE l (v::m)
def Cn:∀(l m:List V),tE l m=l.reverse++m
 |[],m=>rfl
 |v::l,m=>by rw[tE,Cn,Ac,List.append_assoc];rfl
def Je (o i:V) (ab:aA) (k:aY):Bool:=V.rec false aL aL aL
 (λa=>jX i λn=>aN (gm a) (tD (nV (en a) none (some (bl n))) λy=>k (.str y) ab))
 (λZ aB=>jX i λn=>fv (bn ab aB) λxs=>aN (f6 xs) (mk (.list (xs.take n)) ab k)) (λZ=>false) (λZ Z=>false) o
def Co (o i:aT):aT:=λab loc k au=>o ab loc (λv ab=>i ab loc (λw ab=>Je v w ab k) au) au
def Jf (ah:aZ c f) {o i:aM} {co ci:aT} {q pos} (k8:a8 c aw co f o) (af:a8 c aw ci f i):a8 c aw (Co co ci) f (.Subscript o (.Slice none (some i) none q) pos):=λab loc k au p s E h S K L=>by
 refine vZ (cy (k8 ab loc _ au p s E h S K L) (λaq e bt bw a M D l N=>?_))
 refine Ad (br ?_)
 show aO _ _ (evalPart (some i) f.env) _ _ _
 rw[Ae]
 refine cy (af bw loc _ au bt e E N l (aw.up M K) L) (λar v aa C b O P B I=>?_)
 clear N
 refine br ?_
 have D:=D.ext O
 have R:=M.trans O
 obtain⟨m,aj,F,ak,H,U⟩:=B.ex
 cases a with
 |str a=>
  obtain⟨n,rfl,al,J⟩:=kC' (k:=λn=>aN (gm a) (tD (nV (en a) none (some (bl n))) λy=>k (.str y) C)) I
  obtain⟨W,G⟩:=an J
  obtain⟨t,rfl⟩:=P
  obtain⟨x,u,rfl,X,rfl⟩:=D
  rw[ri X W]at G
  obtain⟨ae,ag⟩:=an (show aN (bf (nV x none (some (bl n)))) (k (.str (aG (nV x none (some (bl n))))) C)=true from G)
  have as:=lg X W
  have cW:x.length=x.cps.toList.length:=by simp[nS]
  obtain⟨T,id,aK,aW,bH⟩:=SBH.sliceItem_ns (prog:=c.prog) (w:=c.w) (s:=v) (x:=x) (t:=u) (j:=(n:Int)) (uj:=t) (A:=f.A) (E:=E) (Q:=cb c f p loc k) keptFrN ⟨F,ak⟩ (λav bZ ax r=>⟨aa,C,V.str (aG (nV x none (some (bl n)))),R,⟨_,_,rfl,ae,rfl⟩,⟨⟨m,aj,r.1,r.2,H,U⟩,B.gens,B.os,B.z,B.n,B.y⟩,ag⟩) (by have:hr=16777216:=rfl;lia)
  exact lm aW aK bH rfl
 |own j aB=>
  obtain⟨n,rfl,al,J⟩:=kC' (k:=λn=>fv (bn C aB) λxs=>aN (f6 xs) (mk (.list (xs.take n)) C k)) I
  obtain⟨xs,g,G⟩:=gn' J
  obtain⟨m5,am⟩:=an G
  dsimp only[bP]at g
  obtain⟨t,rfl⟩:=P
  obtain⟨ao,rfl,rfl⟩:=D
  obtain⟨ai,l1,Y⟩:=aQ.list ak H ao g
  have ay:=jh m5
  refine slice_list F ak l1 .none (.int _ _) .none (by simp) (by simp;rw[<-Y.len];lia) ⟨_,rfl⟩ λav ap d=>?_
  rw[show(bl n)=((n:Nat):Int)from rfl,slicePick_upto']at d
  exact(fH B H U am ap d (wW ak) (ll (n:=0) (by simpa using Y.take n))).up R
 |_=>cases I
def Cp (o:aT) (n:Nat):aT:=λab loc k au=>o ab loc (λv ab=>vStr v λa=>aN (gm a) (tD (nV (en a) (some (bl n)) none) λy=>k (.str y) ab)) au
def Jg (ah:aZ c f) {o:aM} {co:aT} {q aK aW pos} (k8:a8 c aw co f o):a8 c aw (Cp co n) f (.Subscript o (.Slice (some (.Constant (.int (bl n)) aK aW)) none none q) pos):=λab loc k au p s E h S J K=>by
 refine vZ (cy (k8 ab loc _ au p s E h S J K) (λR C bt bw a L M B N=>?_))
 refine Ad ?_
 rw[Ae]
 refine zT (br (br ?_))
 obtain⟨a,rfl,O⟩:=jR' N
 obtain⟨D,G⟩:=an O
 obtain⟨x,u,rfl,I,rfl⟩:=M
 rw[ri I D]at G
 obtain⟨ae,ag⟩:=an (show aN (bf (nV x (some (bl n)) none)) (k (.str (aG (nV x (some (bl n)) none))) bw)=true from G)
 have U:=lg I D
 have cW:x.length=x.cps.toList.length:=by simp[nS]
 obtain⟨m,aj,F,ak,H,P⟩:=B.ex
 obtain⟨T,id,aK,aW,bH⟩:=SBH.sliceItem_sn (prog:=c.prog) (w:=c.w) (s:={C with toks:=C.toks+1}) (x:=x) (t:=u) (i:=(n:Int)) (ui:=C.toks) (A:=f.A) (E:=E) (Q:=cb c f p loc k) keptFrN ⟨F,ak⟩ (λav bZ W r=>⟨bt,bw,V.str (aG (nV x (some (bl n)) none)),L,⟨_,_,rfl,ae,rfl⟩,⟨⟨m,aj,r.1,r.2,H,P⟩,B.gens,B.os,B.z,B.n,B.y⟩,ag⟩) (by have:hr=16777216:=rfl;lia)
 exact lm aW aK bH rfl
def Cq (o:aT):aT:=λab loc k au=>o ab loc (λv ab=>cz v λZ aB=>fv (bn ab aB) λxs=>aN (f6 xs) (mk (.list (tE xs [])) ab k)) au
def Jh (ah:aZ c f) {o:aM} {co:aT} {q aK aW bH pos} (k8:a8 c aw co f o):a8 c aw (Cq co) f (.Subscript o (.Slice none none (some (.UnaryOp .USub (.Constant (.int 1) aK aW) bH)) q) pos):=λab loc k au p s E h S G I=>by
 refine vZ (cy (k8 ab loc _ au p s E h S G I) (λT A bt bw a J K B L=>?_))
 refine Ad (br (br ?_))
 show aO _ _ (evalPart (some _) f.env) _ _ _
 rw[Ae]
 refine UnaryOp_ (zT (Tu ?_))
 obtain⟨j,aB,rfl,M⟩:=cJ' L
 obtain⟨xs,g,N⟩:=gn' M
 obtain⟨m5,O⟩:=an N
 dsimp only[bP]at g
 obtain⟨P,rfl,rfl⟩:=K
 obtain⟨m,aj,F,ak,H,Q⟩:=B.ex
 obtain⟨ai,l1,C⟩:=aQ.list ak H P g
 have U:=jh m5
 refine slice_list (s:={A with toks:=A.toks+1+1}) F ak l1 .none .none (.int _ _) (by decide) (by simp;rw[<-C.len];lia) ⟨_,rfl⟩ λav R D=>?_
 rw[krv_pick]at D
 exact(fH B H Q O R D (wW ak) (ll (n:=0) (by rw[Cn,k1];simpa using C.rev))).up J
def All2.set {bd ca:Type} {R:bd->ca->Prop} {a:bd} {b:ca} (B:R a b):∀(n:Nat) {l A},All2 R l A->All2 R (l.set n a) (A.set n b):=by
 intro n l A h
 induction h generalizing n with
 |nil=>exact .nil
 |cons h t C=>
  cases n with
  |zero=>exact .cons B t
  |succ n=>exact .cons h (C n)
def rx (v i u:V) (ab:aA) (k:aA->Bool):Bool:=cz v λZ aB=>gY (bn ab aB)
 (λaz es=>V.rec false aL aL aL (λx=>aN (dc es.length 1000) (k (bD aB (ro az es x u) ab)))
  (λZ Z=>bW (jj ab i λa2=>k (bD aB (.tdict (bS az) [((i,a2),u)]) ab)) hv es) aL a1 i)
 (λaz es=>aN (aN (pQ ab es) (b2 es.length 1000)) (jj ab i λa2=>k (bD aB (.tdict (cq (bS az) (λZ=>az) (jW es a2)) (Ub es i a2 u)) ab)))
 (λxs=>jX i λn=>aN (dc n xs.length) (k (bD aB (.list (xs.set n u)) ab))) (λZ=>false)
def Ji {i u:V} {U ez J:am} {aB:aA->Bool} (ah:aZ c f) (h:rx v i u ab aB=true) (S:ba c f p ab loc s) (Y:aE p v U) (af:aE p i ez) (K:aE p u J) {Q:Unit->a9->Prop}
  (I:∀aq aF,ba c f p aF loc aq->aB aF=true->Q () aq):aO (aR c.prog c.w) f.A (sQ U ez J) Q E s:=by
 obtain⟨j,jl,rfl,ae⟩:=cJ' h
 obtain⟨C,rfl,rfl⟩:=Y
 obtain⟨m,aj,F,ak,H,L⟩:=S.ex
 rcases mq' ae with⟨az,es,g,ag⟩|⟨az,es,g,ag⟩|⟨xs,g,ag⟩|⟨xs,g,ag⟩
 ·dsimp only[bP]at g
  cases i with
  |str x=>
   obtain⟨ax,aS⟩:=an (show aN (dc es.length 1000) (aB (bD (key j) (ro az es x u) ab))=true from ag)
   clear ag
   obtain⟨y,t,rfl,a,rfl⟩:=af
   exact I4 ah S C g a ax K λaq b=>I aq _ b aS
  |own W fG=>
   cases es with
   |cons=>cases ag
   |nil=>
    obtain⟨i2,cx,a2,e,bq,sc,ax⟩:=od' (show jj ab (.own W fG) (λa2=>aB (bD (key j) (.tdict (bS az) [((.own W fG,a2),u)]) ab))=true from ag)
    clear ag
    cases e
    have M:=af
    obtain⟨N,rfl,rfl⟩:=af
    obtain⟨a_,d,B,D⟩:=H.ent j _ C g
    cases D
    obtain⟨k,aK,aW⟩:=pS (prog:=c.prog) ak H N bq sc
    refine Ck (xs:=[]) (prog:=c.prog) (w:=c.w) (by have:=m6 ah;lia) (ak.get B) (λZ h=>nomatch h) .nil aK (by simp) (λZ av e1 e2=>?_) λz=>nomatch z
    exact I _ _ (kz (v:=.tdict _ _) S F ak H L C ⟨_,g,rfl⟩ B e2 e1 λa3 hm Z=>⟨_,hm,tC (.cons ⟨⟨_,_,rfl⟩,aW,M,K⟩ .nil)⟩) ax
  |_=>cases ag
 ·dsimp only[bP]at g
  obtain⟨l,ax⟩:=an ag
  obtain⟨o,O⟩:=an l
  have O:es.length<=1000:=ce O
  obtain⟨i2,cx,a2,rfl,bq,sc,aS⟩:=od' ax
  have M:=af
  obtain⟨N,rfl,rfl⟩:=af
  obtain⟨d,B,D⟩:=H.ent j _ C g
  obtain⟨xs,rfl,r,X,R⟩:=wV ak H o D,D
  obtain⟨k,aK,aW⟩:=pS (prog:=c.prog) ak H N bq sc
  have P:=Jb (val:=J) aW ⟨_,_,rfl⟩ M K R X
  have pA:=tB aW R
  refine Ck (xs:=xs) (prog:=c.prog) (w:=c.w) (by have:=m6 ah;lia) (ak.get B) r X aK (by rw[<-R.len];exact O) (λG av e1 e2=>?_) λG av e1 e2=>?_
  ·have aa:jW es a2=none:=by
    cases q:jW es a2 with
    |none=>rfl
    |some v=>obtain⟨_,z,_⟩:=pA.1 v q;rw[G]at z;cases z
   rw[aa]at aS
   exact I _ _ (kz (v:=.tdict _ _) S F ak H L C ⟨_,g,rfl⟩ B e2 e1 λa3 hm Z=>⟨_,hm,tC (P.2 G)⟩) aS
  ·cases q:jW es a2 with
   |none=>rw[pA.2 q]at G;cases G
   |some v=>
    rw[q]at aS
    exact I _ _ (kz (v:=.tdict _ _) S F ak H L C ⟨_,g,rfl⟩ B e2 e1 λa3 hm Z=>⟨_,hm,tC (P.1 G)⟩) aS
 ·dsimp only[bP]at g
  obtain⟨n,rfl,ao,ax⟩:=kC' ag
  obtain⟨aS,bA⟩:=an ax
  obtain⟨t,rfl⟩:=af
  obtain⟨ai,T,B,D⟩:=H.ent j _ C g
  have aS:n<xs.length:=ce aS
  have al:n<ai.length:=by rw[<-D.len];exact aS
  refine ki_setAt (items:=ai.toArray) (n:=T) (ak.get B) (sV n) (by have:bl n=(n:Int):=rfl;lia) (by simpa using al) ?_
  refine I _ _ (kz (v:=.list _) (bC:=dJ (ai.set n J) T) S F ak H L C ⟨_,g,rfl⟩ B (k3 ..) ?_ λa3 hm Z=>⟨_,T,hm,All2.set K n D⟩) bA
  rw[ki _ (ak.get B) (by rfl)]
  congr 1
  simp[bY.mapSeq,dJ]
 ·cases ag
end
section
variable {bu:k0} {env:cI}
def Keeps (bu:k0) (K:dn) (A:am):Prop:=∀h,K.In h->∃k,(k=Keeper.frame∨k=Keeper.machine∨k=Keeper.boundFrame)/\Looks bu h (keeperOf A) k
def ln {a:Nat} (h:fZ K (.ref a)=true):Keeps bu K (.ref a):=λc0 X=>keeps_K h c0 X
def og {n:String}:Keeps bu K (.builtin n):=λZ Z=>⟨.machine,.inr (.inl rfl),Looks.of_pure rfl⟩
def mr {n:String}:Keeps bu K (.type n):=λZ Z=>⟨.machine,.inr (.inl rfl),Looks.of_pure rfl⟩
def jY {C:am} {first:List am} {args:List aM} {pos:bO} {Q:am->a9->Prop} (D:Keeps bu K C) (hs:noStar args=true) (X:K.In s.heap)
  (h:aO bu A (spliced (lS pos (kj args env))) (λai B=>K.In B.heap/\aO bu A (call C (first++ai) []) Q E B) E s):
  aO bu A (callWith pos C first (lS pos (kj args env)) []) Q E s:=by
 cases args with
 |nil=>
  refine callWith_of (P:=K.In) rfl (λh X=>D h X) (evalArgs_nil3 ?_)
  have av:aO bu A (spliced []) (λai B=>K.In B.heap/\aO bu A (call C (first++ai) []) Q E B) E s:=h
  have:spliced []=(pure []:Sem (List am)):=rfl
  rw[this]at av
  exact⟨X,(λF p G=>(av F p G).2 F p G)⟩
 |cons e ct=>
  obtain⟨ae,ag⟩:=mo hs
  rw[ag env]at h⊢
  refine callWith_of (P:=K.In) ?_ (λh X=>D h X) (evalArgs_plain h)
  show((false||(lS pos (kj ct env)).any (·.1))||false)=false
  rw[Cb pos env ae];rfl
def oh:aM->Bool
 |.Attribute .. =>false
 |_=>true
def na {func:aM} {args:List aM} {pos:bO} (h:oh func=true):dP (.Call func args [] pos) env=(do callWith pos (<-dP func env) [] (lS pos (kj args env)) (backToKw pos (keywordEach [] env))):=by
 cases func<;>first|rfl|cases h
def Jj {args:List aM} {pos:bO} (hs:noStar args=true) (A:dc args.length 30=true):methodCallForm (args.length+([]:List Keyword).length) (lS pos (kj args env)) (backToKw pos (keywordEach [] env))=true:=by
 have a:(lS pos (kj args env)).all (λz=>!z.1)=true:=by
  have:=Cb pos env hs
  rw[List.any_eq_false]at this
  exact eU.mpr λz B=>by have:=this z B;simpa using this
 unfold methodCallForm
 rw[a]
 have A:args.length<30:=ce A
 have:decide (args.length+0+0<30)=true:=decide_eq_true (by lia)
 exact this
def ry {o:aM} {name:aI} {F pos:bO} {args:List aM} {Q:am->a9->Prop} (c0:ob o=true) (hs:noStar args=true) (H:dc args.length 30=true) (I:(F.endLine==pos.line)=true)
  (h:aO bu A (dP o env) (λC D=>∀J,aO bu A (getMethod C name J) (λB G=>aO bu A (callWith pos B.1 B.2 (lS pos (kj args env)) []) Q E G) E D) E s):
  aO bu A (dP (.Call (.Attribute o name F) args [] pos) env) Q E s:=by
 rw[PySem.arm_eval_Call]
 refine aP (BC c0 (b_ h (λC D K=>aP (lP ?_)) λZ Z x=>x))
 unfold methodCall
 rw[Jj hs H]
 refine aP (gB ?_)
 show aO bu A (getMethod C name _) _ E D
 refine b_ (K _) (λB G L=>?_) λZ Z x=>x
 obtain⟨f,first⟩:=B
 unfold methodCallPos
 rw[if_pos (by rw[I];exact Hf _)]
 exact aP (br L)
def hA (o:aM) (args:List aM) (ap pos:bO):Bool:=ob o&&noStar args&&dc args.length 30&&(ap.endLine==pos.line)
def rz' {ar:Prop} {o:aM} {args:List aM} {ap pos:bO} (h:hA o args ap pos=true) (A:ob o=true->noStar args=true->dc args.length 30=true->(ap.endLine==pos.line)=true->ar):ar:=by
 unfold hA at h
 simp only[ed]at h
 exact A h.1.1.1 h.1.1.2 h.1.2 h.2
end
section
def wX {func:aM} {B:am} {args:List aM} {C:List aT} {pos:bO} {loc:Loc} {iL:q6} {k:aY} {au:ef} (ah:aZ c f) (H:∀s Q E,Q B s->(∃ab loc,ba c f p ab loc s)->aO (aR c.prog c.w) f.A (dP func f.env) Q E s)
  (I:oh func=true) (J:Keeps (aR c.prog c.w) c.K B) (L:gJ c aw f C args) (ns:noStar args=true) (h:kA C ab loc iL au=true) (S:ba c f p ab loc s) (M:aw.ok f p au.x E) (N:df c aw f.b au.cl)
  (O:∀bt bw xs ai D,p.bN bt->iL xs bw=true->ba c f bt bw loc D->All2 (aE bt) xs ai->aO (aR c.prog c.w) f.A (call B ai []) (cb c f bt loc k) E D):
  aO (aR c.prog c.w) f.A (dP (.Call func args [] pos) f.env) (cb c f p loc k) E s:=by
 rw[na I]
 refine aP (H s _ _ ?_ ⟨ab,loc,S⟩)
 refine jY J ns (S.X ah) ?_
 refine lf (rQ pos L ns ab loc iL au p s E h S M N) (λai P R T U F V G W=>?_)
 exact⟨G.X ah,b_ (O R T U ai P F W G V) (λZ Z q=>q.up F) λZ Z h=>h⟩
def tF (ah:aZ c f) {pos:bO} {val:am} (B:f.sc.names.lookup y=some .globalImplicit) (g:d7 c y val):∀s (Q:am->a9->Prop) (E:am->a9->Prop),Q val s->(∃ab loc,ba c f p ab loc s)->aO (aR c.prog c.w) f.A (dP (.Name y pos) f.env) Q E s:=λs Q E h C=>by
 obtain⟨ab,loc,S⟩:=C
 obtain⟨m,aj,F,ak,H,D⟩:=S.ex
 exact ml ah B g F h
def jm (a:Nat) (args:List aT):aT:=λab loc k au=>kA args ab loc (λai ab=>au.cl a ai ab k au.x) au
def Jk (ah:aZ c f) (D:f.d+1<=f.b) {aK pos:bO} {a:Nat} {args:List aM} {A:List aT} (F:f.sc.names.lookup y=some .globalImplicit) (g:d7 c y (.ref a)) (G:fZ c.K (.ref a)=true) (H:gJ c aw f A args) (ns:noStar args=true):
  a8 c aw (jm a A) f (.Call (.Name y aK) args [] pos):=λab loc k au p s E h S B C=>
 wX ah (tF ah F g) rfl (ln G) H ns h S B C λbt bw xs ai N I J L M=>C.call D ah J L (aw.up I B) M
def rA (v:V) (k:Nat->Bool):Bool:=V.rec false aL aL aL aL a1 k a1 v
def wY' {ar:Prop} {k:Nat->Bool} (h:rA v k=true) (A:∀i,v=.gnd i->k i=true->ar):ar:=by
 cases v with
 |gnd i=>exact A i rfl h
 |_=>cases h
def dG (l:List Nat) (x:Nat):Bool:=bW false (λa Z A=>bk A true (aU a x)) l
def rB {x:Nat}:∀{l:List Nat},dG l x=true->x∈l
 |[],h=>nomatch (h:false=true)
 |a::l,h=>by
  replace h:bk (motive:=λZ=>Bool) (dG l x) true (aU a x)=true:=h
  rw[d6]at h
  by_cases e:a=x
  clear h
  ·subst e;exact .head _
  ·rw[decide_eq_false e]at h;exact .tail _ (rB h)
def wZ (fns:List Nat) (A:aT) (args:List aT):aT:=λab loc k au=>A ab loc (λv ab=>rA v λa=>bk false (kA args ab loc (λai ab=>au.cl a ai ab k au.x) au) (dG fns a)) au
def Jl (ah:aZ c f) (L:f.d+1<=f.b) {func:aM} {pos:bO} {fns:List Nat} {F:aT} {args:List aM} {G:List aT} (M:a8 c aw F f func) (N:oh func=true) (O:∀a∈fns,fZ c.K (.ref a)=true) (P:gJ c aw f G args) (ns:noStar args=true):
  a8 c aw (wZ fns F G) f (.Call func args [] pos):=λab loc k au p s E h S B C=>by
 rw[na N]
 refine aP (cy (M ab loc _ au p s E h S B C) (λW Q bt bw y D R H T=>?_))
 obtain⟨a,rfl,A⟩:=wY' T
 cases hm:dG fns a with
 |false=>rw[hm]at A;cases A
 |true=>
  rw[hm]at A
  cases R
  refine jY (ln (O a (rB hm))) ns (H.X ah) ?_
  refine lf (rQ pos P ns bw loc _ au bt Q E A H (aw.up D B) C) (λai Y e g i I U J V=>?_)
  exact⟨J.X ah,b_ (C.call L ah V J (aw.up (D.trans I) B) U) (λZ Z q=>q.up (D.trans I)) λZ Z h=>h⟩
def Cr (K:dn) (C:Nat) (y:aI) (a:Nat):Prop:=gf K (.ref C) y=some (some (.ref a))/\isFn K (.ref a)=true/\fZ K (.ref a)=true
def w0 (l:List (Nat×Nat)) (x:Nat) (k:Nat->Bool):Bool:=bW false (λf Z A=>pc (λa b=>bk A (k b) (aU a x)) f) l
def Cs' {x:Nat} {k:Nat->Bool}:∀{l:List (Nat×Nat)},w0 l x k=true->∃a,(x,a)∈l/\k a=true
 |[],h=>nomatch (h:false=true)
 |(y,b)::l,h=>by
  replace h:bk (motive:=λZ=>Bool) (w0 l x k) (k b) (aU y x)=true:=h
  rw[d6]at h
  by_cases e:y=x
  ·rw[decide_eq_true e]at h;subst e;exact⟨b,.head _,h⟩
  ·rw[decide_eq_false e]at h
   obtain⟨a,ae,ag⟩:=Cs' h
   exact⟨a,.tail _ ae,ag⟩
def rC (mt:List (Nat×Nat)) (o:aT) (args:List aT):aT:=λab loc k au=>o ab loc (λv ab=>cz v λZ aB=>mh ab aB λC Z=>w0 mt C λa=>kA args ab loc (λai ab=>au.cl a (v::ai) ab k au.x) au) au
def Jm (ah:aZ c f) (O:f.d+1<=f.b) {o:aM} {ap pos:bO} {args:List aM} {co:aT} {J:List aT} {mt:List (Nat×Nat)} (k8:a8 c aw co f o) (hs:hA o args ap pos=true) (L:bf y=true)
  (hm:∀q∈mt,Cr c.K q.1 y q.2) (P:gJ c aw f J args):a8 c aw (rC mt co J) f (.Call (.Attribute o y ap) args [] pos):=λab loc k au p s E h S A B=>by
 obtain⟨ae,ag,ax,aS⟩:=rz' hs
 refine ry ae ag ax aS (b_ (k8 ab loc _ au p s E h S A B) (λv Q R an=>?_) λZ Z h=>h)
 obtain⟨bt,bw,w,D,M,G,T⟩:=R
 obtain⟨i,aB,rfl,U⟩:=cJ' T
 obtain⟨C,ao,V,W⟩:=q_' U
 obtain⟨a,Y,e⟩:=Cs' W
 obtain⟨aK,aW,bH⟩:=hm _ Y
 obtain⟨m,aj,F,ak,H,aq⟩:=G.ex
 have g:=M
 obtain⟨af,rfl,rfl⟩:=g
 obtain⟨⟨j,gF⟩,l,es,n,r,t⟩:=H.ent i _ af V
 have x:lk ao (aG y)=hM:=by
  cases aa:lk ao (aG y)with
  |none=>rfl
  |some u=>
   have:=(gF _ (md aa) y L rfl).1
   rw[aK]at this;cases this
 refine method_inst F ah.X (zP ak l r) j.get aK aW (Bd L t x) ?_
 refine jY (ln bH) ag (G.X ah) ?_
 refine lf (rQ pos P ag bw loc _ au bt Q E e G (aw.up D A) B) (λai ar as av ay I al N am=>?_)
 exact⟨N.X ah,b_ (B.call O ah am N (aw.up (D.trans I) A) (.cons (M.ext I) al)) (λZ Z q=>q.up (D.trans I)) λZ Z h=>h⟩
def w1 (K:dn) (C:Nat) (y:aI) (a:Nat):Prop:=specialIn K (.ref C) "__getattribute__"=some (some (.builtin "type.__getattribute__"))/\(∃A,typeIn K (.ref C)=some A/\readsIn K C A=true/\findCls K (.ref C) A y=some (.val (.ref a)))/\fZ K (.ref a)=true
def Jn (ah:aZ c f) (J:f.d+1<=f.b) {x:aI} {C a:Nat} {aK ap pos:bO} {args:List aM} {A:List aT} (L:f.sc.names.lookup x=some .globalImplicit) (g:d7 c x (.ref C)) (hs:hA (.Name x aK) args ap pos=true) (hm:w1 c.K C y a) (M:gJ c aw f A args):
  a8 c aw (jm a A) f (.Call (.Attribute (.Name x aK) y ap) args [] pos):=λab loc k au p s E h S B D=>by
 obtain⟨ae,ag,ax,aS⟩:=rz' hs
 obtain⟨N,⟨U,O,hX,P⟩,Q⟩:=hm
 obtain⟨m,aj,F,ak,H,V⟩:=S.ex
 refine ry ae ag ax aS (ml ah L g F λW=>?_)
 refine method_of_cls F ah.X N (cls_val F ah.X O hX P rfl ?_)
 refine jY (ln Q) ag (S.X ah) ?_
 refine lf (rQ pos M ag ab loc _ au p _ E h S.tok B D) (λai Y e i j G R I T=>?_)
 exact⟨I.X ah,b_ (D.call J ah T I (aw.up G B) R) (λZ Z q=>q.up G) λZ Z h=>h⟩
structure tG (K:dn) (C gZ:Nat):Prop where
 makes:makesIn K C=true
 init:gf K (.ref C) "__init__"=some (some (.ref gZ))
 fn:isFn K (.ref gZ)=true
 cls:m3 K C
def oi (v:V) (k:Bool):Bool:=V.rec k aL aL aL aL a1 aL a1 v
def w2' {ar:Prop} {k:Bool} (h:oi v k=true) (A:v=.none->k=true->ar):ar:=by
 cases v with
 |none=>exact A rfl h
 |_=>cases h
def Ct (C a:Nat) (args:List aT):aT:=λab loc k au=>kA args ab loc (λai ab=>mk (.inst C []) ab (λo ab=>au.cl a (o::ai) ab (λr ab=>oi r (k o ab)) au.x)) au
def Jo (ah:aZ c f) (P:f.d+1<=f.b) {C a:Nat} {xs:List V} {ai:List am} {loc:Loc} {k:aY} {au:ef} (ok:tG c.K C a) (h:mk (.inst C []) ab (λo ab=>au.cl a (o::xs) ab (λr ab=>oi r (k o ab)) au.x)=true)
  (S:ba c f p ab loc s) (Q:aw.ok f p au.x E) (U:df c aw f.b au.cl) (W:All2 (aE p) xs ai):aO (aR c.prog c.w) f.A (call (.ref C) ai []) (cb c f p loc k) E s:=by
 obtain⟨hs,Y⟩:=mk_eq h
 obtain⟨m,aj,F,ak,H,j⟩:=S.ex
 refine call_cls F ah.X ak ok.makes ok.init ok.fn λx B av l u lt I=>?_
 let g:bL:={f with A:=f.A.under (.builtin "type.__call__" ⟨.ref C::ai,[]⟩),d:=f.d+1,b:=f.b}
 have N:g.A.frames=f.A.frames:=by
  show pushEnvs [] f.A.frames=_
  cases f.A.frames<;>rfl
 have aa:aZ c g:=by
  refine⟨ah.X,ah.T,λs m aj R F ak=>?_,?_,?_,?_,ah.dp,ah.cj,ah.em,ah.kind,ah.locals,ah.globals,ah.builtins,ah.iI,ah.iJ,ah.lc,ah.kv,ah.me⟩
  ·obtain⟨ae,J,ag,al⟩:=ah.iH s m aj R F ak
   exact⟨ae,⟨N.trans J.stack,J.stays,J.frames⟩,ag,al⟩
  ·show f.A.depth+1<=500+(f.d+1);have:=ah.depth;lia
  ·show f.A.units+1<=2000+10*(f.d+1);have:=ah.units;lia
  ·show f.d+1<=300;have:=ah.dp;lia
 have e0:=p.eZ x B
 have a_:(((x,pa C B)::(B,dd [] 0)::aj).map (·.1)).Nodup:=by
  refine g7.mpr ⟨λhm=>?_,g7.mpr ⟨λhm=>?_,H.a_⟩⟩
  ·rcases bJ.mp hm with e|hm
   ·exact absurd e (lO I)
   ·obtain⟨q,D,e⟩:=ey.mp hm
    have:=lt q D
    rw[e]at this;exact absurd (mS I this) (nL _)
  ·obtain⟨q,D,e⟩:=ey.mp hm
   exact absurd e (dS (lt q D))
 have ap:∀i,i<p.ay->bG ab.t i->(p.a i≠x/\p.b i≠x)/\p.a i≠B/\p.b i≠B:=λi af li=>by
  obtain⟨⟨o,an⟩,bC,ao⟩:=H.mem i af li
  have l1:p.a i<B:=lt _ an
  have l2:p.b i<B:=lt _ ao
  exact⟨⟨dS (mS l1 I),dS (mS l2 I)⟩,dS l1,dS l2⟩
 have ar:aQ c.K c.w p ab.t ((x,pa C B)::(B,dd [] 0)::aj):=aQ.wide (new:=[(x,pa C B),(B,dd [] 0)]) H a_
 have as:aQ c.K c.w (p.more x B) (T.put (.inst C []) ab.bz ab.t) ((x,pa C B)::(B,dd [] 0)::aj):=by
  refine aQ.tl ar S.z hs ⟨⟨_,.head _⟩,_,.tail _ (.head _)⟩ (λi af li=>(ap i af li).1) (λi af li=>(ap i af li).2) (λq D=>⟨dS (mS (lt _ (H.a6 q D)) I),dS (lt _ (H.a6 q D))⟩) ⟨⟨ok.cls,λf ah=>nomatch ah⟩,?_,[],0,?_,.nil⟩
  ·rw[show(p.more x B).a p.ay=x from if_pos rfl,show(p.more x B).b p.ay=B from if_pos rfl];exact .head _
  ·rw[show(p.more x B).b p.ay=B from if_pos rfl];exact .tail _ (.head _)
 have ax:ba c g (p.more x B) ⟨T.put (.inst C []) ab.bz ab.t,ab.ay+1,g8 ab.bz⟩ loc {s with heap:=av}:=⟨⟨m,_,l,u,as,(λy v L M=>(j.ext e0) y v L M)⟩,S.gens,S.os,S.z.more hs x B _,S.n,S.y⟩
 refine hp (U g a (.own ab.ay ab.bz::xs) (.ref x::ai) _ loc _ au.x (p.more x B) _ E aa P Y ax (aw.under (aw.up e0 Q) N) (.cons (aX.ib S.z) (W.imp λZ Z=>aE.ext e0))) λr aq z=>?_
 rcases r with e|(_|_|_|v)
 ·exact z
 ·exact z
 ·exact z
 ·exact z
 ·obtain⟨az,aA,y,O,aB,G,aC⟩:=z
  obtain⟨rfl,aD⟩:=w2' aC
  refine⟨aB,az,aA,.own ab.ay ab.bz,e0.trans O,(aX.ib S.z).ext O,?_,aD⟩
  obtain⟨aF,aG,aH,aI,aJ,aK⟩:=G.ex
  exact⟨⟨aF,aG,aH,aI,aJ,λy v L M=>aK y v L M⟩,G.gens,G.os,G.z,G.n,G.y⟩
def Jp (ah:aZ c f) (F:f.d+1<=f.b) {aK pos:bO} {C a:Nat} {args:List aM} {A:List aT} (G:f.sc.names.lookup y=some .globalImplicit) (g:d7 c y (.ref C)) (H:fZ c.K (.ref C)=true) (ok:tG c.K C a) (I:gJ c aw f A args) (ns:noStar args=true):
  a8 c aw (Ct C a A) f (.Call (.Name y aK) args [] pos):=λab loc k au p s E h S B D=>
 wX ah (tF ah G g) rfl (ln H) I ns h S B D λbt bw xs ai O J L M N=>Jo ah F ok L M (aw.up J B) D N
end
def tH:Slot "NoneType" "__hash__" "NoneType.__hash__":=
 .of (owner:="NoneType") (n:="__hash__") (by rw[typeLookup_type,builtinLookup_eq_fast];kernel_rfl) (by decide+kernel) (by decide+kernel) (by decide+kernel)
  (by first|exact .inl (by decide+kernel)|exact .inr (by decide+kernel)) (by rw[isSubtype_type]at⊢;kernel_rfl)
def Jq:entryFor table "NoneType.__hash__"=some ge.«NoneType.__hash__»:=entryFor_of_tree (by kernel_rfl)
def Jr (a:am):argsOk "NoneType.__hash__" ⟨[a],[]⟩:=by unfold argsOk;kernel_rfl
section
variable {prog:ew}
def Js {Q:Int->a9->Prop} (h:Q 0xFCA86420 {s with toks:=s.toks+1}):aO (aR prog w) A (pyHash .none) Q E s:=by
 unfold pyHash
 have B:[hu].any am.onHeap=false:=rfl
 refine aP ?_
 rw[cRoomFor,if_neg (by rw[B];exact nW)];refine br ?_
 have bj:s.TypeIs .none "NoneType":=rfl
 refine aP (Hd bj tH.lookup ?_)
 show aO _ _ (if(some (v3 "NoneType.__hash__")==some hu)=true then _ else _) Q E s
 rw[if_neg (by rw[beq_builtin_none];exact nW)]
 refine aP (Hd bj tH.lookup ?_)
 show aO _ _ (callSpecialIfBoundUnlessNone? .none "__hash__" _>>=_) Q E s
 refine aP (wpAny_callSpecialIfBoundUnlessNone?_slot bj tH
  (mV tH bj Jq
   (show aO _ _ (do ret (<-mkInt 0xFCA86420)) _ _ s from wpAny_ret_mkInt ?_) (Jr _)))
 show aO _ _ (if(decide (-(2:Int)^63<=0xFCA86420)&&decide ((0xFCA86420:Int)<2^63))=true then _ else _) Q E _
 rw[if_pos (by decide)]
 exact br h
def Jt {Q:Bool->a9->Prop} (h:Q true s):aO (aR prog w) A (eqBool .none .none) Q E s:=by
 unfold eqBool
 refine gB ?_
 rw[if_pos (by decide)]
 exact aP (ph (br h))
end
def Ju (prog:ew) (w:cv):KeyKind prog w Unit where
 is _ v:=match v with|.none=>true|_=>false
 hash _:=0xFCA86420
 inj _ _ _ _ _:=rfl
 byValue k v h:=by cases v<;>first|rfl|cases h
 pyHash {A E s k v Q} w3 h:=by
  cases v with
  |none=>exact Js h
  |_=>cases w3
 eqBool {A E s a b u v Q} Jv w3 h:=by
  cases u with
  |none=>cases v with
   |none=>exact Jt (by simpa using h)
   |_=>cases w3
  |_=>cases Jv
 «strs» k x t v h:=by cases h
section
variable {loc:Loc}
def ms (A:V->aA->Bool) (dF:V->List V->aA->aY->Bool) (o:aT) (args:List aT):aT:=λab loc k au=>o ab loc (λv ab=>bk false (kA args ab loc (λai ab=>dF v ai ab k) au) (A v ab)) au
def nb {T id:String} {o:aM} {ap pos:bO} {args:List aM} {co:aT} {G:List aT} {C:V->aA->Bool} {dF:V->List V->aA->aY->Bool} (ah:aZ c f) (k8:a8 c aw co f o) (hs:hA o args ap pos=true) (O:gJ c aw f G args)
  (P:Slot T y id) (Q:PlainAttrs T) (R:typeOf (.builtin id)=pure (.type "method_descriptor"))
  (bj:∀v val ab p s,C v ab=true->ba c f p ab loc s->aE p v val->s.TypeIs val T/\∀a,val=.ref a->∃bU,s.heap.get? a=some bU/\bU.dict=none)
  (U:∀v val xs ai p ab s k E,dF v xs ab k=true->ba c f p ab loc s->aE p v val->All2 (aE p) xs ai->aO (aR c.prog c.w) f.A (call (.builtin id) (val::ai) []) (cb c f p loc k) E s):
  ∀ab k au p s E,ms C dF co G ab loc k au=true->ba c f p ab loc s->aw.ok f p au.x E->df c aw f.b au.cl->
   aO (aR c.prog c.w) f.A (dP (.Call (.Attribute o y ap) args [] pos) f.env) (cb c f p loc k) E s:=λab k au p s E h S H I=>by
 obtain⟨ae,ag,ax,aS⟩:=rz' hs
 refine ry ae ag ax aS (cy (k8 ab loc _ au p s E h S H I) (λval J bt bw v K L D B j=>?_))
 cases F:C v bw with
 |false=>rw[F]at B;cases B
 |true=>
  rw[F]at B
  obtain⟨t1,b8⟩:=bj v val bw bt J F D L
  refine getMethod_builtin t1 Q P R b8 ?_
  refine jY og ag (D.X ah) ?_
  refine lf (rQ pos O ag bw loc _ au bt J E B D (aw.up K H) I) (λai W Y d e M g N i=>?_)
  exact⟨N.X ah,b_ (U v val e ai Y d W k E i N (L.ext M) g) (λZ Z q=>q.up (K.trans M)) λZ Z h=>h⟩
def lp (o:Option O) (d l:Bool):Bool:=cq false (λo=>O.rec a1 (λZ Z=>d) (λZ Z=>d) (λZ=>l) aL aL aL a1 a1 cQ aL cQ aL cQ a1 a1 a1 false (λZ=>l) false aL a1 aL o) o
def tI (v:V) (ab:aA):Bool:=cz v λZ aB=>lp (bn ab aB) false true
def tJ (be:Nat->Option O) (v:V) (ab:aA):Bool:=V.rec false aL aL aL aL (λZ aB=>lp (bn ab aB) true false) (λg=>lp (be g) true false) a1 v
def w4 (v:V) (_:aA):Bool:=vStr v λZ=>true
def w5 {val:am} (h:tI v ab=true) (S:ba c f p ab loc s) (B:aE p v val):s.TypeIs val "list"/\∀a,val=.ref a->∃bU,s.heap.get? a=some bU/\bU.dict=none:=by
 obtain⟨i,aB,rfl,ag⟩:=cJ' h
 obtain⟨af,rfl,rfl⟩:=B
 obtain⟨m,aj,F,ak,H,C⟩:=S.ex
 try clear h
 have h:=ag
 dsimp only[bP]at h
 cases A:ab.t.get (key i)with
 |none=>rw[A]at h;cases h
 |some o=>
  rw[A]at h
  have E:=H.ent i _ af A
  clear A
  cases o with
  |list xs=>obtain⟨ai,n,ae,_⟩:=E;exact⟨⟨_,ak.get ae,rfl⟩,λa e=>by cases e;exact⟨_,ak.get ae,rfl⟩⟩
  |trues z=>obtain⟨ai,n,ae,_⟩:=E;exact⟨⟨_,ak.get ae,rfl⟩,λa e=>by cases e;exact⟨_,ak.get ae,rfl⟩⟩
  |_=>cases h
def w6 {be:Nat->Option O} (C:go c be) (ah:aZ c f) {val:am} (h:tJ be v ab=true) (S:ba c f p ab loc s) (B:aE p v val):s.TypeIs val "dict"/\∀a,val=.ref a->∃bU,s.heap.get? a=some bU/\bU.dict=none:=by
 obtain⟨m,aj,F,ak,H,D⟩:=S.ex
 cases v with
 |own i aB=>
  replace h:lp (bn ab aB) true false=true:=h
  obtain⟨af,rfl,rfl⟩:=B
  dsimp only[bP]at h
  cases A:ab.t.get (key i)with
  |none=>rw[A]at h;cases h
  |some o=>
   rw[A]at h
   have E:=H.ent i _ af A
   clear A
   cases o with
   |dict az xs=>obtain⟨a_,es,ae,_⟩:=E;exact⟨⟨_,ak.get ae,rfl⟩,λa e=>by cases e;exact⟨_,ak.get ae,rfl⟩⟩
   |tdict az xs=>obtain⟨es,ae,_⟩:=E;exact⟨⟨_,ak.get ae,rfl⟩,λa e=>by cases e;exact⟨_,ak.get ae,rfl⟩⟩
   |_=>cases h
 |gnd g=>
  replace h:lp (be g) true false=true:=h
  cases B
  cases A:be g with
  |none=>rw[A]at h;cases h
  |some o=>
   rw[A]at h
   have ar:=C g o A
   clear A
   cases o with
   |dict az xs=>obtain⟨⟨es,n,ae,_⟩,_⟩:=ar;exact⟨⟨_,(ah.X.keeps F.keep) _ _ ae,rfl⟩,λa e=>by cases e;exact⟨_,(ah.X.keeps F.keep) _ _ ae,rfl⟩⟩
   |tdict az xs=>exact ar.elim
   |_=>cases h
 |_=>cases h
def Cu {val:am} (h:w4 v ab=true) (A:aE p v val):s.TypeIs val "str"/\∀a,val=.ref a->∃bU,s.heap.get? a=some bU/\bU.dict=none:=by
 obtain⟨i,rfl,h⟩:=jR' h
 obtain⟨x,t,rfl,_⟩:=A
 exact⟨Ab s x t,λa e=>nomatch e⟩
def kE (ai:List V) (k:V->Bool):Bool:=bW false (λa l Z=>bW (k a) hv l) ai
def mu' {ar:Prop} {ai:List V} {k:V->Bool} (h:kE ai k=true) (A:∀a,ai=[a]->k a=true->ar):ar:=by
 cases ai with
 |nil=>cases h
 |cons a l=>cases l with
  |nil=>exact A a rfl h
  |cons b m=>cases h
def Cv (ai:List V) (k:V->V->Bool):Bool:=bW false (λa l Z=>bW (k a .none) (λb m Z=>bW (k a b) hv m) l) ai
def Jw' {ai:List V} {k:V->V->Bool} (h:Cv ai k=true):(∃a,ai=[a]/\k a .none=true)∨∃a b,ai=[a,b]/\k a b=true:=by
 cases ai with
 |nil=>cases h
 |cons a l=>cases l with
  |nil=>exact .inl ⟨a,rfl,h⟩
  |cons b m=>cases m with
   |nil=>exact .inr ⟨a,b,rfl,h⟩
   |cons=>cases h
def tK (ai:List V) (k:Bool):Bool:=bW k hv ai
def w7' {ar:Prop} {ai:List V} {k:Bool} (h:tK ai k=true) (A:ai=[]->k=true->ar):ar:=by
 cases ai with
 |nil=>exact A rfl h
 |cons=>cases h
def All2.nil_inv {R:V->am->Prop} {ai:List am} (h:All2 R [] ai):ai=[]:=by cases h;rfl
def All2.nc' {R:V->am->Prop} {a:V} {ai:List am} (h:All2 R [a] ai):∃v,ai=[v]/\R a v:=by
 cases h with|cons h t=>cases t;exact⟨_,rfl,h⟩
def All2.tL' {R:V->am->Prop} {a b:V} {ai:List am} (h:All2 R [a,b] ai):∃v w,ai=[v,w]/\R a v/\R b w:=by
 cases h with|cons h t=>cases t with|cons av t=>cases t;exact⟨_,_,rfl,h,av⟩
def Cw (o:Option O) (A:List V->Bool) (B:Nat->Bool):Bool:=cq false (λo=>O.rec a1 a1 a1 A aL aL aL a1 a1 cQ aL cQ aL cQ a1 a1 a1 false B false aL a1 aL o) o
def Jx' {o:Option O} {A:List V->Bool} {B:Nat->Bool} (h:Cw o A B=true):(∃xs,o=some (.list xs)/\A xs=true)∨∃z,o=some (.trues z)/\B z=true:=by
 cases o with
 |none=>cases h
 |some o=>
  cases o with
  |list xs=>exact .inl ⟨_,rfl,h⟩
  |trues z=>exact .inr ⟨_,rfl,h⟩
  |_=>cases h
def Cx (v:V) (k:Bool):Bool:=V.rec false (λb=>bk false k b) aL aL aL a1 aL a1 v
def Jy' {k:Bool} (h:Cx v k=true):v=.bool true/\k=true:=by
 cases v with
 |bool b=>cases b with
  |true=>exact⟨rfl,h⟩
  |false=>cases h
 |_=>cases h
def jn (v:V) (ai:List V) (ab:aA) (k:aY):Bool:=cz v λZ aB=>kE ai λw=>Cw (bn ab aB) (λxs=>aN (f6 xs) (k .none (bD aB (.list (xs++[w])) ab))) (λz=>Cx w (aN (b2 z 1000) (k .none (bD aB (.trues (bS z)) ab))))
def w8 (ah:aZ c f) {val:am} {xs:List V} {ai:List am} {k:aY} (h:jn v xs ab k=true) (S:ba c f p ab loc s) (B:aE p v val) (J:All2 (aE p) xs ai):aO (aR c.prog c.w) f.A (call (.builtin "list.append") (val::ai) []) (cb c f p loc k) E s:=by
 obtain⟨i,aB,rfl,K⟩:=cJ' h
 obtain⟨w,rfl,L⟩:=mu' K
 obtain⟨G,rfl,M⟩:=J.nc'
 clear J
 obtain⟨af,rfl,rfl⟩:=B
 obtain⟨m,aj,F,ak,H,N⟩:=S.ex
 dsimp only[bP]at L
 try clear h
 try clear K
 rcases Jx' L with⟨O,g,h⟩|⟨z,g,h⟩
 ·obtain⟨ae,I⟩:=an h
  have m5:=jh ae
  obtain⟨cS,n,C,D⟩:=H.ent i _ af g
  refine append_at (ak.get C) (λav hs k8=>⟨p,_,V.none,aX.bN.refl p,rfl,kz (v:=.list (O++[w])) S F ak H N af ⟨_,g,rfl⟩ C hs k8 λa3 hm Z=>⟨cS++[G],n+1,?_,D.append (.cons M .nil)⟩,I⟩) (by have:=D.len;have:hr=16777216:=rfl;simp;lia)
  have e:dJ (cS++[G]) (n+1)={cls:=.type "list",data:=.seq (cS.toArray.push G) (n+1)}:=by unfold dJ;simp
  rw[e];exact hm
 ·obtain⟨rfl,av⟩:=Jy' h
  cases M
  obtain⟨ae,I⟩:=an av
  have P:z<=1000:=ce ae
  obtain⟨cS,n,C,D,Q⟩:=H.ent i _ af g
  have R:p.y.toNat<=1000:=by have:=ah.kv;rw[S.y];lia
  refine append_at (ak.get C) (λav hs k8=>⟨p,_,V.none,aX.bN.refl p,rfl,kz (v:=.trues (z+1)) S F ak H N af ⟨_,g,rfl⟩ C hs k8 λa3 hm Z=>⟨cS++[.bool true],n+1,?_,?_,?_⟩,I⟩) (by have:hr=16777216:=rfl;simp;lia)
  ·have e:dJ (cS++[.bool true]) (n+1)={cls:=.type "list",data:=.seq (cS.toArray.push (.bool true)) (n+1)}:=by unfold dJ;simp
   rw[e];exact hm
  ·intro v B
   rcases gA.mp B with B|B
   ·exact D v B
   ·exact h7.mp B
  ·rw[lM];show cS.length+1<=_;lia
abbrev tM (o e:aT):aT:=ms tI jn o [e]
def Jz (ah:aZ c f) {o e:aM} {ap pos:bO} {co aV:aT} (k8:a8 c aw co f o) (he:a8 c aw aV f e) (hs:hA o [e] ap pos=true):a8 c aw (tM co aV) f (.Call (.Attribute o "append" ap) [e] [] pos):=λab loc k au p s E h S B C=>
 nb ah k8 hs (.cons he .nil) PySem.F.slot_list_append Hg PySem.F.type_list_append (λv val ab p s h S A=>w5 h S A) (λv val xs ai p ab s k E h S A D=>w8 ah h S A D) ab k au p s E h S B C
def Cy (v:V) (ai:List V) (ab:aA) (k:aY):Bool:=cz v λZ aB=>kE ai λw=>cz w λZ B=>fv (bn ab aB) λxs=>fv (bn ab B) λA=>aN (f6 xs) (aN (f6 A) (k .none (bD aB (.list (xs++A)) ab)))
def JA (ah:aZ c f) {val:am} {xs:List V} {ai:List am} {k:aY} (h:Cy v xs ab k=true) (S:ba c f p ab loc s) (J:aE p v val) (D:All2 (aE p) xs ai):aO (aR c.prog c.w) f.A (call (.builtin "list.extend") (val::ai) []) (cb c f p loc k) E s:=by
 obtain⟨i,aB,rfl,K⟩:=cJ' h
 obtain⟨w,rfl,L⟩:=mu' K
 obtain⟨j,a,rfl,M⟩:=cJ' L
 obtain⟨d,rfl,N⟩:=D.nc'
 clear D
 obtain⟨af,rfl,rfl⟩:=J
 obtain⟨O,rfl,rfl⟩:=N
 obtain⟨m,aj,F,ak,H,P⟩:=S.ex
 obtain⟨Q,g,R⟩:=gn' M
 obtain⟨zs,g2,T⟩:=gn' R
 obtain⟨ae,U⟩:=an T
 obtain⟨ag,W⟩:=an U
 rw[bP]at g g2
 obtain⟨cS,n,C,G⟩:=H.ent i _ af g
 obtain⟨B,X,Y,I⟩:=H.ent j _ O g2
 have l1:=jh ae
 have l2:=jh ag
 have e1:=G.len
 have e2:=I.len
 have bs:hr=16777216:=rfl
 have q:=IsL.update (ak.get C) (λx=>x++B.toArray)
 have e:∀b,({cls:=.type "list",data:=.seq (cS.toArray++B.toArray) b}:bY)=dJ (cS++B) b:=λb=>by unfold dJ;simp
 refine call_meets TG ⟨_,ak.get C,rfl⟩ PySem.F.entry_list_extend (PySem.F.args_list_extend_2 _ _) (PySem.AutoSeq1.list_extend_list_list_0 _ cS.toArray n _ B.toArray X ?_ (by simp;lia) (by simp;lia)) ⟨ak.get C,ak.get Y,⟨p,_,V.none,aX.bN.refl p,rfl,kz (v:=.list (Q++zs)) S F ak H P af ⟨_,g,rfl⟩ C (k3 ..) q λa3 hm Z=>(by rw[e]at hm;exact⟨cS++B,_,hm,G.append I⟩),W⟩⟩
 ·unfold ge.List.listTooLong
  simp
  intro _
  lia
abbrev Cz (o e:aT):aT:=ms tI Cy o [e]
def JB (ah:aZ c f) {o e:aM} {ap pos:bO} {co aV:aT} (k8:a8 c aw co f o) (he:a8 c aw aV f e) (hs:hA o [e] ap pos=true):a8 c aw (Cz co aV) f (.Call (.Attribute o "extend" ap) [e] [] pos):=λab loc k au p s E h S B C=>
 nb ah k8 hs (.cons he .nil) TG Hg PySem.F.type_list_extend (λv val ab p s h S A=>w5 h S A) (λv val xs ai p ab s k E h S A D=>JA ah h S A D) ab k au p s E h S B C
end
section
variable {loc:Loc}
def nd (xs:List V) (i:Int):Nat->(Nat->Bool)->Bool:=bW (motive:=λZ=>Nat->(Nat->Bool)->Bool) a1 (λa Z A n k=>vInt a λj=>bk (A (bS n) k) (k n) (Int.dt j i)) xs
def oj (xs:List V):Bool:=bW true (λa Z A=>vInt a λZ=>A) xs
def JC {i:Int} {k:Nat->Bool}:∀{xs:List V} {ai:List am} {n:Nat},nd xs i n k=true->All2 (aE p) xs ai->∃j,∃h:j<ai.length,isInt i ai[j]=true/\(∀m (hm:m<ai.length),m<j->isInt i ai[m]=false)/\k (n+j)=true:=by
 intro xs ai n h r
 induction r generalizing n with
 |nil=>
  cases h
 |@cons a v l ai B t A=>
  obtain⟨z,rfl,av⟩:=eD' (k:=λj=>bk (motive:=λZ=>Bool) (nd l i (bS n) k) (k n) (Int.dt j i)) h
  obtain⟨u,rfl⟩:=B
  rw[Int.ky]at av
  by_cases e:z=i
  clear A
  ·rw[show(z==i)=true from beq_iff_eq.mpr e]at av
   refine⟨0,lU _,?_,λm Z hm=>absurd hm (iD _),av⟩
   clear av
   subst e;simp[isInt]
  ·rw[show(z==i)=false from beq_eq_false_iff_ne.mpr e]at av
   obtain⟨j,C,aK,aW,bH⟩:=A (n:=n+1) av
   refine⟨j+1,mQ C,aK,λm hm D=>?_,by rw[<-bH];congr 1;lia⟩
   cases m with
   |zero=>show isInt i (.int z u)=false;simp[isInt,e]
   |succ m=>exact aW m (pi hm) (pi D)
def JD:∀{xs:List V} {ai:List am},oj xs=true->All2 (aE p) xs ai->∀v∈ai,∃j u,v=.int j u:=by
 intro xs ai h r
 induction r with
 |nil=>
  intro v A
  cases A
 |@cons a w l ai B t C=>
  intro v A
  obtain⟨z,rfl,av⟩:=eD' (k:=λZ=>oj l) h
  obtain⟨u,rfl⟩:=B
  rcases bJ.mp A with rfl|A
  ·exact⟨_,_,rfl⟩
  ·exact C av v A
def CA (v:V) (ai:List V) (ab:aA) (k:aY):Bool:=cz v λZ aB=>kE ai λw=>vInt w λi=>fv (bn ab aB) λxs=>aN (aN (f6 xs) (oj xs)) (nd xs i 0 λn=>k (.int (bl n)) ab)
def JE {val:am} {xs:List V} {ai:List am} {k:aY} (h:CA v xs ab k=true) (S:ba c f p ab loc s) (I:aE p v val) (C:All2 (aE p) xs ai):aO (aR c.prog c.w) f.A (call (.builtin "list.index") (val::ai) []) (cb c f p loc k) E s:=by
 obtain⟨i,aB,rfl,J⟩:=cJ' h
 obtain⟨w,rfl,K⟩:=mu' J
 obtain⟨x,rfl,L⟩:=eD' K
 obtain⟨R,rfl,M⟩:=C.nc'
 clear C
 obtain⟨t,rfl⟩:=M
 obtain⟨af,rfl,rfl⟩:=I
 obtain⟨m,aj,F,ak,H,T⟩:=S.ex
 obtain⟨U,g,N⟩:=gn' L
 obtain⟨cW,O⟩:=an N
 obtain⟨d1,fk⟩:=an cW
 dsimp only[bP]at g
 obtain⟨cS,n,D,B⟩:=H.ent i _ af g
 obtain⟨j,P,aK,aW,bH⟩:=JC O B
 have l1:=jh d1
 have e1:=B.len
 refine call_meets TH ⟨_,ak.get D,rfl⟩ PySem.F.entry_list_index (PySem.F.args_list_index_2 _ _)
  (SeqAt.list_indexAt _ cS.toArray n none #[] (.int x t) (isInt x) j (by simpa using P) (by lia) (by simpa using aK) (λm hm Q=>by simpa using aW m (by simpa using hm) Q)) ⟨ak.get D,λy G=>?_,⟨p,ab,V.int (bl j),aX.bN.refl p,⟨_,rfl⟩,S.tok,by rw[Af]at bH;exact bH⟩⟩
 obtain⟨z,u,rfl⟩:=JD fk B y (by simpa using G),G
 exact .int_int _ _ _ _
abbrev tN (o e:aT):aT:=ms tI CA o [e]
def JF (ah:aZ c f) {o e:aM} {ap pos:bO} {co aV:aT} (k8:a8 c aw co f o) (he:a8 c aw aV f e) (hs:hA o [e] ap pos=true):a8 c aw (tN co aV) f (.Call (.Attribute o "index" ap) [e] [] pos):=λab loc k au p s E h S B C=>
 nb ah k8 hs (.cons he .nil) TH Hg PySem.F.type_list_index (λv val ab p s h S A=>w5 h S A) (λv val xs ai p ab s k E h S A D=>JE h S A D) ab k au p s E h S B C
def CB {K:Type} [DecidableEq K] {em:KeyKind c.prog c.w K} {k:K} {key eo:am} {ct:List am} {a:a7} {g:K->Option am} {Q:am->a9->Prop} (C:(ct=[]/\eo=.none)∨ct=[eo]) (B:em.is k key=true) (hd:(a==iY)=false) (bj:s.TypeIs (.ref a) "dict")
  (hm:s.heap.MapOf em a g) (h:Q ((g k).getD eo) {s with toks:=s.toks+1}):aO (aR c.prog c.w) f.A (call (.builtin "dict.get") (.ref a::key::ct) []) Q E s:=by
 rcases C with⟨rfl,rfl⟩|rfl
 ·exact sW v4 bj Ag (TI _ _) (meets_dict_get em a B hd) ⟨g,hm,h⟩
 ·exact sW v4 bj Ag (TJ _ _ _) (meets_dict_get_default em a B hd eo) ⟨g,hm,h⟩
def CC {K:Type} [DecidableEq K] {em:HeapKind c.prog c.w K} {k:K} {b:a7} {eo:am} {ct:List am} {a:a7} {xs:List (K×a7×am)} {Q:am->a9->Prop} (D:(ct=[]/\eo=.none)∨ct=[eo]) (B:em.room f.A.in1) (C:em.is s.heap k b) (hd:(a==iY)=false) (bj:s.TypeIs (.ref a) "dict")
  (hm:s.heap.DictOfH em a xs) (h:∀bo,Q (((ht xs k).map (·.2)).getD eo) {s with toks:=bo}):aO (aR c.prog c.w) f.A (call (.builtin "dict.get") (.ref a::.ref b::ct) []) Q E s:=by
 rcases D with⟨rfl,rfl⟩|rfl
 ·exact sW v4 bj Ag (TI _ _) (meetsH_dict_get em a b hd) ⟨B,k,xs,C,hm,h _⟩
 ·exact sW v4 bj Ag (TJ _ _ _) (meetsH_dict_get_default em a b hd eo) ⟨B,k,xs,C,hm,h _⟩
def ne {bd:Type} (l:List bd) (k:Bool):Bool:=bW k hv l
def tO' {ar:Prop} {bd:Type} {l:List bd} {k:Bool} (h:ne l k=true) (A:l=[]->k=true->ar):ar:=by
 cases l with
 |nil=>exact A rfl h
 |cons=>cases h
def rD (es:List (Nat×V)) (key d:V) (ab:aA) (k:aY):Bool:=V.rec (ne es (k d ab)) aL aL aL (λx=>cq (k d ab) (λv=>k v ab) (lk es x)) (λZ Z=>ne es (jj ab key λZ=>k d ab)) aL a1 key
def CD (be:Nat->Option O) (v:V) (ai:List V) (ab:aA) (k:aY):Bool:=Cv ai λkey d=>V.rec false aL aL aL aL
 (λZ aB=>gY (bn ab aB) (λZ es=>rD es key d ab k) (λZ es=>aN (aN (pQ ab es) (b2 es.length 1000)) (jj ab key λa2=>cq (k d ab) (λv=>k v ab) (jW es a2))) aL aL)
 (λg=>gY (be g) (λZ es=>rD es key d ab k) (λZ Z=>false) (λZ=>false) (λZ=>false)) (λZ Z=>false) v
def CE (ah:aZ c f) {es:List (Nat×V)} {J:List cu} {az:Nat} {a:a7} {key d:V} {K eo:am} {ct:List am} {k:aY} (h:rD es key d ab k=true) (S:ba c f p ab loc s) (C:(ct=[]/\eo=.none)∨ct=[eo]) (hd:(a==iY)=false) (k8:s.heap.get? a=some (dd J az))
  (r:cm c.w p es J) (D:aE p key K) (G:aE p d eo):aO (aR c.prog c.w) f.A (call (.builtin "dict.get") (.ref a::K::ct) []) (cb c f p loc k) E s:=by
 have bj:s.TypeIs (.ref a) "dict":=⟨_,k8,rfl⟩
 cases key with
 |none=>
  obtain⟨rfl,I⟩:=tO' (show ne es (k d ab)=true from h),h
  cases D
  cases r
  have hm:s.heap.MapOf (Ju c.prog c.w) a (λZ=>none):=⟨_,_,az,k8,pM _ _,rfl,(λe he=>by simp at he),λZ=>rfl⟩
  exact CB (k:=()) C rfl hd bj hm ⟨p,ab,d,aX.bN.refl p,G,S.tok,I⟩
 |str x=>
  replace h:cq (motive:=λZ=>Bool) (k d ab) (λv=>k v ab) (lk es x)=true:=h
  obtain⟨y,t,rfl,L,rfl⟩:=D
  have hm:=r.mapOf (prog:=c.prog) k8
  refine CB (k:=y) C (lQ c.prog c.w y t) hd bj hm ?_
  cases B:lk es (aG y)with
  |none=>rw[B]at h;rw[(r.find L).2 B];exact⟨p,ab,d,aX.bN.refl p,G,S.tok,h⟩
  |some v=>rw[B]at h;obtain⟨val,aK,aW⟩:=(r.find L).1 v B;rw[aK];exact⟨p,ab,v,aX.bN.refl p,aW,S.tok,h⟩
 |own i aB=>
  obtain⟨rfl,ae⟩:=tO' (show ne es (jj ab (.own i aB) λZ=>k d ab)=true from h)
  clear h
  obtain⟨P,Q,a2,e,g,sc,I⟩:=od' ae
  cases e
  cases r
  obtain⟨af,rfl,rfl⟩:=D
  obtain⟨m,aj,F,ak,H,R⟩:=S.ex
  obtain⟨M,i1,i2⟩:=pS (prog:=c.prog) ak H af g sc
  have hm:s.heap.DictOfH (eT (dR c.prog c.w)) a []:=⟨_,_,az,k8,pM _ _,rfl,rfl,(λx N=>nomatch N),.nil⟩
  have O:(eT (dR c.prog c.w)).room f.A.in1:=by have:=m6 ah;show f.A.units+1<hO;lia
  exact CC (em:=eT (dR c.prog c.w)) (k:=M) C O i1 hd bj hm λbo=>⟨p,ab,d,aX.bN.refl p,G,S.tok,I⟩
 |_=>cases h
def JG {be:Nat->Option O} (R:go c be) (ah:aZ c f) {val:am} {xs:List V} {ai:List am} {k:aY} (h:CD be v xs ab k=true) (S:ba c f p ab loc s) (P:aE p v val) (J:All2 (aE p) xs ai):aO (aR c.prog c.w) f.A (call (.builtin "dict.get") (val::ai) []) (cb c f p loc k) E s:=by
 obtain⟨m,aj,F,ak,H,l⟩:=S.ex
 have main:∀(key d:V) (C eo:am) (ct:List am),(ct=[]/\eo=.none)∨ct=[eo]->aE p key C->aE p d eo->V.rec (motive:=λZ=>Bool) false (λZ=>false) (λZ=>false) (λZ=>false) (λZ=>false)
   (λZ aB=>gY (bn ab aB) (λZ es=>rD es key d ab k) (λZ es=>aN (aN (pQ ab es) (b2 es.length 1000)) (jj ab key λa2=>cq (motive:=λZ=>Bool) (k d ab) (λv=>k v ab) (jW es a2))) (λZ=>false) (λZ=>false))
   (λg=>gY (be g) (λZ es=>rD es key d ab k) (λZ Z=>false) (λZ=>false) (λZ=>false)) (λZ Z=>false) v=true->
   aO (aR c.prog c.w) f.A (call (.builtin "dict.get") (val::C::ct) []) (cb c f p loc k) E s:=by
  clear h
  intro key d C eo ct M D G h
  cases v with
  |own i aB=>
   obtain⟨af,rfl,rfl⟩:=P
   rcases mq' (show gY (bn ab (Mine.key i)) _ _ _ _=true from h)with⟨az,es,g,ae⟩|⟨az,es,g,ae⟩|⟨N,g,ae⟩|⟨N,g,ae⟩
   ·dsimp only[bP]at g
    obtain⟨a_,Q,B,I⟩:=H.ent i _ af g
    exact CE ah ae S M (g_ ah ak B) (ak.get B) I D G
   clear h
   ·dsimp only[bP]at g
    obtain⟨T,ag⟩:=an ae
    obtain⟨U,o⟩:=an T
    obtain⟨r,t,a2,rfl,bq,sc,ax⟩:=od' ag
    obtain⟨W,rfl,rfl⟩:=D
    obtain⟨Q,B,I⟩:=H.ent i _ af g
    obtain⟨xs,e1,aW,bH,cV⟩:=wV ak H U I
    obtain⟨Y,i1,i2⟩:=pS (prog:=c.prog) ak H W bq sc
    have hm:s.heap.DictOfH (eT (dR c.prog c.w)) (p.a i) xs:=⟨_,_,_,ak.get B,pM _ _,rfl,by rw[e1],aW,bH⟩
    have b:(eT (dR c.prog c.w)).room f.A.in1:=by have:=m6 ah;show f.A.units+1<hO;lia
    refine CC (em:=eT (dR c.prog c.w)) (k:=Y) M b i1 (g_ ah ak B) ⟨_,ak.get B,rfl⟩ hm λbo=>?_
    cases K:jW es a2 with
    |none=>rw[K]at ax;rw[(tB i2 cV).2 K];exact⟨p,ab,d,aX.bN.refl p,G,S.tok,ax⟩
    |some v=>rw[K]at ax;obtain⟨q,e,j⟩:=(tB i2 cV).1 v K;rw[e];exact⟨p,ab,v,aX.bN.refl p,j,S.tok,ax⟩
   ·cases ae
   ·cases ae
  |gnd g=>
   cases P
   rcases mq' (show gY (be g) _ _ _ _=true from h)with⟨az,es,L,ae⟩|⟨az,es,L,ae⟩|⟨N,L,ae⟩|⟨N,L,ae⟩
   ·obtain⟨⟨Q,n,B,I⟩,hs⟩:=R g _ L
    exact CE ah ae S M (beq_eq_false_iff_ne.mpr hs) ((ah.X.keeps F.keep) _ _ B) (I p) D G
   ·cases ae
   ·cases ae
   ·cases ae
  |_=>cases h
 rcases Jw' h with⟨key,rfl,ae⟩|⟨key,d,rfl,ae⟩
 ·obtain⟨C,rfl,D⟩:=J.nc',J
  exact main key .none C .none [] (.inl ⟨rfl,rfl⟩) D rfl ae
 ·obtain⟨C,eo,rfl,D,G⟩:=J.tL',J
  exact main key d C eo [eo] (.inr rfl) D G ae
abbrev CF (be:Nat->Option O) (o:aT) (args:List aT):aT:=ms (tJ be) (CD be) o args
def JH {be:Nat->Option O} (B:go c be) (ah:aZ c f) {o:aM} {args:List aM} {ap pos:bO} {co:aT} {C:List aT} (k8:a8 c aw co f o) (he:gJ c aw f C args) (hs:hA o args ap pos=true):a8 c aw (CF be co C) f (.Call (.Attribute o "get" ap) args [] pos):=λab loc k au p s E h S D G=>
 nb ah k8 hs he v4 Hh PySem.F.type_dict_get (λv val ab p s h S A=>w6 B ah h S A) (λv val xs ai p ab s k E h S A H=>JG B ah h S A H) ab k au p s E h S D G
def JI {prog:ew} (d:a7) (hd:(d==iY)=false):
  MeetsIn prog w (ge.«dict.items» ⟨[.ref d],[]⟩) (λZ R s=>s.TypeIs (.ref d) "dict"/\R (.ok (.ret (.ref s.heap.objs.size))) {s with heap:=s.heap.push {cls:=.type "dict_items",data:=.fields #[.ref d]}}):=
 .of_wp λA R s B=>by
  obtain⟨hm,h⟩:=B
  unfold ge.«dict.items»
  refine aP ?_
  unfold TK
  refine aP (sS hm ?_)
  show aO _ _ (pure d) _ _ s
  refine br ?_
  show aO _ _ (sX d>>=_) _ _ s
  unfold sX
  rw[if_neg (by rw[hd];exact nW)]
  refine aP (br ?_)
  exact aP (nX (br ⟨_,rfl,h⟩))
def JJ {prog:ew} (d:a7) (hd:(d==iY)=false):
  MeetsIn prog w (ge.«dict.values» ⟨[.ref d],[]⟩) (λZ R s=>s.TypeIs (.ref d) "dict"/\R (.ok (.ret (.ref s.heap.objs.size))) {s with heap:=s.heap.push {cls:=.type "dict_values",data:=.fields #[.ref d]}}):=
 .of_wp λA R s B=>by
  obtain⟨hm,h⟩:=B
  unfold ge.«dict.values»
  refine aP ?_
  unfold TK
  refine aP (sS hm ?_)
  show aO _ _ (pure d) _ _ s
  refine br ?_
  show aO _ _ (sX d>>=_) _ _ s
  unfold sX
  rw[if_neg (by rw[hd];exact nW)]
  refine aP (br ?_)
  exact aP (nX (br ⟨_,rfl,h⟩))
def CG (v:V) (ai:List V) (ab:aA) (k:aY):Bool:=tK ai (cz v λZ aB=>bk false (mk (.dis v) ab k) (lp (bn ab aB) true false))
def CH (v:V) (ai:List V) (ab:aA) (k:aY):Bool:=tK ai (cz v λZ aB=>bk false (mk (.dvs v) ab k) (lp (bn ab aB) true false))
def CI {ar:Prop} {aj:bc} (ah:aZ c f) (ak:News f.aC f.L s.heap aj) (H:aQ c.K c.w p ab.t aj) (af:i<p.ay) (h:lp (bn ab (key i)) true false=true) (B:s.TypeIs (.ref (p.a i)) "dict"->(p.a i==iY)=false->ar):ar:=by
 dsimp only[bP]at h
 cases A:ab.t.get (key i)with
 |none=>rw[A]at h;cases h
 |some o=>
  rw[A]at h
  have E:=H.ent i _ af A
  clear A
  cases o with
  |dict az xs=>obtain⟨a_,es,ae,_⟩:=E;exact B ⟨_,ak.get ae,rfl⟩ (g_ ah ak ae)
  |tdict az xs=>obtain⟨es,ae,_⟩:=E;exact B ⟨_,ak.get ae,rfl⟩ (g_ ah ak ae)
  |_=>cases h
def JK (ah:aZ c f) {val:am} {xs:List V} {ai:List am} {k:aY} (h:CG v xs ab k=true) (S:ba c f p ab loc s) (D:aE p v val) (G:All2 (aE p) xs ai):aO (aR c.prog c.w) f.A (call (.builtin "dict.items") (val::ai) []) (cb c f p loc k) E s:=by
 obtain⟨rfl,I⟩:=w7' h
 cases G.nil_inv
 obtain⟨i,aB,rfl,B⟩:=cJ' I
 have J:=D
 obtain⟨af,rfl,rfl⟩:=D
 obtain⟨m,aj,F,ak,H,K⟩:=S.ex
 cases C:lp (bn ab (key i)) true false with
 |false=>rw[C]at B;cases B
 |true=>
  rw[C]at B
  obtain⟨bj,hs⟩:=CI ah ak H af C
  exact sW TL bj PySem.F.entry_dict_items (PySem.F.args_dict_items_1 _) (JI _ hs) ⟨bj,fH S H K B (F.push _) (aH F ak _) (fw ak) λa3 hm=>⟨_,J.ext (p.eZ _ _),by rw[fj];exact hm⟩⟩
def JL (ah:aZ c f) {val:am} {xs:List V} {ai:List am} {k:aY} (h:CH v xs ab k=true) (S:ba c f p ab loc s) (D:aE p v val) (G:All2 (aE p) xs ai):aO (aR c.prog c.w) f.A (call (.builtin "dict.values") (val::ai) []) (cb c f p loc k) E s:=by
 obtain⟨rfl,I⟩:=w7' h
 cases G.nil_inv
 obtain⟨i,aB,rfl,B⟩:=cJ' I
 have J:=D
 obtain⟨af,rfl,rfl⟩:=D
 obtain⟨m,aj,F,ak,H,K⟩:=S.ex
 cases C:lp (bn ab (key i)) true false with
 |false=>rw[C]at B;cases B
 |true=>
  rw[C]at B
  obtain⟨bj,hs⟩:=CI ah ak H af C
  exact sW TM bj PySem.F.entry_dict_values (PySem.F.args_dict_values_1 _) (JJ _ hs) ⟨bj,fH S H K B (F.push _) (aH F ak _) (fw ak) λa3 hm=>⟨_,J.ext (p.eZ _ _),by rw[fj];exact hm⟩⟩
abbrev CJ (o:aT):aT:=ms (tJ λZ=>none) CG o []
abbrev CK (o:aT):aT:=ms (tJ λZ=>none) CH o []
def JM (ah:aZ c f) {o:aM} {ap pos:bO} {co:aT} (k8:a8 c aw co f o) (hs:hA o [] ap pos=true):a8 c aw (CJ co) f (.Call (.Attribute o "items" ap) [] [] pos):=λab loc k au p s E h S B C=>
 nb ah k8 hs .nil TL Hh PySem.F.type_dict_items (λv val ab p s h S A=>w6 (λZ Z e=>by cases e) ah h S A) (λv val xs ai p ab s k E h S A D=>JK ah h S A D) ab k au p s E h S B C
def JN (ah:aZ c f) {o:aM} {ap pos:bO} {co:aT} (k8:a8 c aw co f o) (hs:hA o [] ap pos=true):a8 c aw (CK co) f (.Call (.Attribute o "values" ap) [] [] pos):=λab loc k au p s E h S B C=>
 nb ah k8 hs .nil TM Hh PySem.F.type_dict_values (λv val ab p s h S A=>w6 (λZ Z e=>by cases e) ah h S A) (λv val xs ai p ab s k E h S A D=>JL ah h S A D) ab k au p s E h S B C
def CL (v:V) (ai:List V) (ab:aA) (k:aY):Bool:=vStr v λa=>aN (gm a) (kE ai λw=>cz w λZ aB=>fv (bn ab aB) λxs=>kE xs λy=>vStr y λb=>aN (gm b) (k (.str b) ab))
def JO {val:am} {xs:List V} {ai:List am} {k:aY} (h:CL v xs ab k=true) (S:ba c f p ab loc s) (I:aE p v val) (C:All2 (aE p) xs ai):aO (aR c.prog c.w) f.A (call (.builtin "str.join") (val::ai) []) (cb c f p loc k) E s:=by
 obtain⟨a,rfl,J⟩:=jR' h
 obtain⟨eB,K⟩:=an J
 obtain⟨w,rfl,L⟩:=mu' K
 obtain⟨i,aB,rfl,M⟩:=cJ' L
 obtain⟨Y,g,N⟩:=gn' M
 obtain⟨y,rfl,O⟩:=mu' N
 obtain⟨b,rfl,P⟩:=jR' O
 obtain⟨Q,R⟩:=an P
 obtain⟨d,rfl,T⟩:=C.nc'
 clear C
 obtain⟨B,t,rfl,U,rfl⟩:=I
 obtain⟨af,rfl,rfl⟩:=T
 obtain⟨m,aj,F,ak,H,e⟩:=S.ex
 dsimp only[bP]at g
 obtain⟨cS,l1,D⟩:=aQ.list ak H af g
 clear g
 obtain⟨u,rfl,G⟩:=D.nc'
 clear D
 have W:=G
 obtain⟨z,bZ,rfl,X,rfl⟩:=G
 have aK:=lg U eB
 have aW:=lg X Q
 refine call_meets TN (Ab _ _ _) PySem.F.entry_str_join (PySem.F.args_str_join_2 _ _) (meets_str_join_list B t _ [(z,bZ)] ?_) ⟨l1,?_⟩
 ·have cW:B.length=B.cps.toList.length:=by simp[nS]
  have d1:z.length=z.cps.toList.length:=by simp[nS]
  refine short24 ?_
  show 0+z.length+B.length<=_
  lia
 ·exact⟨p,ab,V.str (aG z),aX.bN.refl p,W,S,R⟩
abbrev CM (o e:aT):aT:=ms w4 CL o [e]
def JP (ah:aZ c f) {o e:aM} {ap pos:bO} {co aV:aT} (k8:a8 c aw co f o) (he:a8 c aw aV f e) (hs:hA o [e] ap pos=true):a8 c aw (CM co aV) f (.Call (.Attribute o "join" ap) [e] [] pos):=λab loc k au p s E h S B C=>
 nb ah k8 hs (.cons he .nil) TN TO PySem.F.type_str_join (λv val ab p s h S A=>Cu h A) (λv val xs ai p ab s k E h S A D=>JO h S A D) ab k au p s E h S B C
def ol:aI:=ec "abcdefghijklmnopqrstuvwxyz"
def tP:aI:=ec "ABCDEFGHIJKLMNOPQRSTUVWXYZ"
def JQ:Nat:=4730602516500147218051049772940640686589979751706688891
def JR:aG ol=JQ:=by decide+kernel
def JS:bf tP=true:=by decide+kernel
def JT:bf ol=true:=by decide+kernel
def JU:Txt.upper ol=tP:=by decide+kernel
end
section
variable {loc:Loc}
def CN (v:V) (ai:List V) (ab:aA) (k:aY):Bool:=tK ai (vStr v λa=>bk false (k (.str 3186040081611692305689881115655289698375817486828727643) ab) (aU a 4730602516500147218051049772940640686589979751706688891))
def JV:aG tP=3186040081611692305689881115655289698375817486828727643:=by decide+kernel
def JW {val:am} {xs:List V} {ai:List am} {k:aY} (h:CN v xs ab k=true) (S:ba c f p ab loc s) (H:aE p v val) (I:All2 (aE p) xs ai):aO (aR c.prog c.w) f.A (call (.builtin "str.upper") (val::ai) []) (cb c f p loc k) E s:=by
 obtain⟨rfl,J⟩:=w7' h
 cases I.nil_inv
 obtain⟨a,rfl,B⟩:=jR' J
 cases C:aU a 4730602516500147218051049772940640686589979751706688891 with
 |false=>rw[C]at B;cases B
 |true=>
  rw[C]at B
  have e:=b3 C
  clear C
  subst e
  obtain⟨x,t,rfl,D,ex⟩:=H
  have:x=ol:=gW D JT (ex.trans JR.symm)
  clear D ex
  subst this
  have G:(⟨placed ol λZ c=>Unicode.upperOf c⟩:aI)=tP:=JU
  refine call_gives TP (Ab _ _ _) PySem.F.entry_str_upper (PySem.F.args_str_upper_1 _) (gives_str_upper ol t ?_) ?_
  ·have K:(placed ol λZ c=>Unicode.upperOf c).size=26:=(congrArg nS G).trans (by decide+kernel)
   rw[K];decide
  ·rw[G]
   exact⟨by decide+kernel,p,ab,.str _,.refl p,⟨_,_,rfl,JS,JV⟩,S.tok,B⟩
abbrev CO (o:aT):aT:=ms w4 CN o []
def JX (ah:aZ c f) {o:aM} {ap pos:bO} {co:aT} (k8:a8 c aw co f o) (hs:hA o [] ap pos=true):a8 c aw (CO co) f (.Call (.Attribute o "upper" ap) [] [] pos):=λab loc k au p s E h S B C=>
 nb ah k8 hs .nil TP TO PySem.F.type_str_upper (λv val ab p s h S A=>Cu h A) (λv val xs ai p ab s k E h S A D=>JW h S A D) ab k au p s E h S B C
def ii (dF:V->aA->aY->Bool) (e:aT):aT:=λab loc k au=>e ab loc (λv ab=>dF v ab k) au
def jo (ah:aZ c f) {B:am} {e:aM} {aV:aT} {aK pos:bO} {dF:V->aA->aY->Bool} (D:f.sc.names.lookup y=some .globalImplicit) (g:d7 c y B) (F:Keeps (aR c.prog c.w) c.K B) (he:a8 c aw aV f e) (ns:noStar [e]=true)
  (G:∀v val p ab loc s k E,dF v ab k=true->ba c f p ab loc s->aE p v val->aO (aR c.prog c.w) f.A (call B [val] []) (cb c f p loc k) E s):a8 c aw (ii dF aV) f (.Call (.Name y aK) [e] [] pos):=λab loc k au p s E h S H I=>
 wX (iL:=λai ab=>kE ai λv=>dF v ab k) ah (tF ah D g) rfl F (.cons he .nil) ns h S H I λbt bw xs ai J P L M C=>by
  obtain⟨v,rfl,N⟩:=mu' L
  obtain⟨val,rfl,O⟩:=C.nc',C
  exact G v val bt bw loc J k E N M O
def CP (v:V) (ab:aA) (k:aY):Bool:=cz v λZ aB=>fv (bn ab aB) λxs=>aN (f6 xs) (k (.int (bl xs.length)) ab)
def JY {val:am} {k:aY} (h:CP v ab k=true) (S:ba c f p ab loc s) (B:aE p v val):aO (aR c.prog c.w) f.A (call (.builtin "len") [val] []) (cb c f p loc k) E s:=by
 obtain⟨i,aB,rfl,C⟩:=cJ' h
 obtain⟨af,rfl,rfl⟩:=B
 obtain⟨m,aj,F,ak,H,J⟩:=S.ex
 obtain⟨xs,g,D⟩:=gn' C
 obtain⟨cW,G⟩:=an D
 dsimp only[bP]at g
 obtain⟨ai,l1,I⟩:=aQ.list ak H af g
 have:=jh cW
 have e:=I.len
 refine call_len_list l1 (by simp;lia) ⟨p,ab,V.int (bl xs.length),aX.bN.refl p,⟨s.toks+1,?_⟩,S.tok,G⟩
 show am.int ((ai.toArray.size:Nat):Int) _=_
 rw[G9,<-e];rfl
def nf (ao:List (Nat×V)):List V:=bW [] (λf Z A=>pc (λa Z=>V.str a::A) f) ao
def JZ:∀{ao:List (Nat×V)} {A:List (aI×am)} {ai:List am},All2 (hy p) ao A->ai.length=A.length->(∀(j:Nat) v,ai[j]?=some v->∃k x,A[j]?=some (k,x)/\mU k v=true)->All2 (aE p) (nf ao) ai:=by
 intro ao A ai r
 induction r generalizing ai with
 |nil=>
  intro B _
  clear a
  cases ai with
  |nil=>exact .nil
  |cons _ _=>cases B
 |@cons g D l m h t E=>
  obtain⟨a,u⟩:=g
  obtain⟨y,x⟩:=D
  intro B C
  cases ai with
  |nil=>cases B
  |cons v ai=>
  obtain⟨k,hS,aK,aW⟩:=C 0 v rfl
  cases aK
  obtain⟨bo,rfl⟩:=k5 aW,aW
  exact .cons ⟨y,bo,rfl,h.1.1,h.1.2⟩ (E (qO B) λj w e=>C (j+1) w e)
def CQ (v:V) (ab:aA) (k:aY):Bool:=cz v λZ aB=>gY (bn ab aB) (λZ es=>aN (dc es.length 1000) (mk (.list (nf es)) ab k)) (λZ Z=>false) (λxs=>aN (f6 xs) (mk (.list xs) ab k)) (λZ=>false)
def J0 (ah:aZ c f) {val:am} {k:aY} (h:CQ v ab k=true) (S:ba c f p ab loc s) (M:aE p v val):aO (aR c.prog c.w) f.A (call (.type "list") [val] []) (cb c f p loc k) E s:=by
 obtain⟨i,aB,rfl,N⟩:=cJ' h
 obtain⟨af,rfl,rfl⟩:=M
 obtain⟨m,aj,F,ak,H,J⟩:=S.ex
 have bs:hr=16777216:=rfl
 rcases mq' N with⟨az,es,g,B⟩|⟨az,es,g,B⟩|⟨xs,g,B⟩|⟨xs,g,B⟩
 ·dsimp only[bP]at g
  obtain⟨cW,D⟩:=an B
  have R:es.length<1000:=ce cW
  obtain⟨a_,T,K,C⟩:=H.ent i _ af g
  obtain⟨U,O,L⟩:=C.dictAt (prog:=c.prog) a_ (ak.get K)
  have e:=L.len
  refine kdl_N (kdl_dict (g_ ah ak K)) ah.cj F ak O (by lia) λbp b0 av bo ai G I l1 P Q=>?_
  exact fH S H J D G I l1 (ll (n:=b0) (JZ L P Q))
 ·cases B
 ·dsimp only[bP]at g
  obtain⟨cW,D⟩:=an B
  have:=jh cW
  obtain⟨ai,ft,C⟩:=aQ.list ak H af g
  have e:=C.len
  exact list_copyK F ak ft (λbp b0 av G I l1=>fH S H J D G I l1 (ll (n:=b0) C)) (by simp;lia)
 ·cases B
def CR (v:V) (ab:aA) (k:aY):Bool:=cz v λZ aB=>fv (bn ab aB) λxs=>aN (f6 xs) (mk (.tuple xs) ab k)
def J1 {val:am} {k:aY} (h:CR v ab k=true) (S:ba c f p ab loc s) (J:aE p v val):aO (aR c.prog c.w) f.A (call (.type "tuple") [val] []) (cb c f p loc k) E s:=by
 obtain⟨i,aB,rfl,K⟩:=cJ' h
 obtain⟨af,rfl,rfl⟩:=J
 obtain⟨m,aj,F,ak,H,M⟩:=S.ex
 obtain⟨xs,g,N⟩:=gn' K
 obtain⟨cW,O⟩:=an N
 dsimp only[bP]at g
 obtain⟨ai,l1,C⟩:=aQ.list ak H af g
 have:=jh cW
 have e:=C.len
 have bs:hr=16777216:=rfl
 refine call_tuple_list l1 (λav D=>?_) (by simp;lia)
 have G:Fr f.aC f.L av m:=F.keeps D
 have I:News f.aC f.L av aj:=λq B=>⟨D _ _ (ak q B).1,(ak q B).2⟩
 exact fH S H M O (G.push _) (I.push G _) (λq B=>dX (I q B).1) (B8 (n:=0) C)
def J2 {prog:ew}:∀{ao:List (Nat×V)} {A:List (aI×am)} {es:List cu},All2 (hy p) ao A->Pairs (strKind prog w) es A->KeysOf (strKind prog w) es.toArray->cm w p ao es:=by
 intro ao A es r
 induction r generalizing es with
 |nil=>intro q _;clear a;cases q;exact .nil
 |@cons g B l m h t F=>
  intro q C
  cases es with
  |nil=>cases q
  |cons e es=>
  cases q with
  |cons aK aW bH=>
  obtain⟨k,cr,cx⟩:=C e (by simp)
  have e1:mU B.1 e.key=true:=aK
  obtain⟨bo,D⟩:=k5 e1
  have e2:k=B.1:=am.isStrOf_inj _ _ _ cr e1
  clear cr
  subst e2
  refine .cons ⟨⟨⟨B.1,bo,D,h.1.1,h.1.2⟩,λs t q=>?_⟩,by rw[aW];exact h.2⟩ (F bH λbF E=>C bF (by simp at E⊢;exact .inr E))
  rw[D]at q;cases q;exact cx
def CS (v:V) (ab:aA) (k:aY):Bool:=cz v λZ aB=>jg (bn ab aB) λZ ao=>aN (dc ao.length 1000) (mk (.dict 0 ao) ab k)
def J3 (ah:aZ c f) {val:am} {k:aY} (h:CS v ab k=true) (S:ba c f p ab loc s) (M:aE p v val):aO (aR c.prog c.w) f.A (call (.type "dict") [val] []) (cb c f p loc k) E s:=by
 obtain⟨i,aB,rfl,N⟩:=cJ' h
 obtain⟨af,rfl,rfl⟩:=M
 obtain⟨m,aj,F,ak,H,O⟩:=S.ex
 obtain⟨az,ao,g,P⟩:=lj' N
 obtain⟨cW,hm⟩:=an P
 have Y:ao.length<1000:=ce cW
 dsimp only[bP]at g
 obtain⟨a_,a,C,Q⟩:=H.ent i _ af g
 obtain⟨b,R,D⟩:=Q.dictAt (prog:=c.prog) a_ (ak.get C)
 have e:=D.len
 have bs:hr=16777216:=rfl
 obtain⟨hs,T⟩:=mk_eq hm
 refine kt_call_dict (g_ ah ak C) R.dictOf (by lia) λav hd G=>?_
 obtain⟨⟨cR,cB,d,gX⟩,es,n,k8,⟨I,J,K⟩,L,U,c0,j⟩:=hd
 dsimp only at I J K L
 subst I J K L
 have B:=aH F ak {cls:=.type "dict",data:=.dict #[]}
 have V:=(F.push {cls:=.type "dict",data:=.dict #[]}).change G (B _ (.head _)).2.1 (B _ (.head _)).2.2
 have W:=B.setHead (λq X=>dS (fw ak q X)) G k8
 obtain⟨el⟩:=es
 refine⟨p.da s.heap.objs.size s.heap.objs.size n,_,.own ab.ay ab.bz,p.kt _ _ _,aX.ib S.z,rg (o:=.dict 0 ao) S H O hs V W (fw ak) (λa3 hm=>⟨a_,el,?_,(J2 D c0 U).imp λZ Z=>jN.ext (p.kt _ _ _)⟩),T⟩
 rw[fj,wH];exact hm
def J4:∀n:Nat,n<10->bf (ec (toString (bl n)))=true/\aG (ec (toString (bl n)))=n+49:=by decide+kernel
def CT (v:V) (ab:aA) (k:aY):Bool:=jX v λn=>aN (dc n 10) (k (.str (bK n 49)) ab)
def J5 {val:am} {k:aY} (h:CT v ab k=true) (S:ba c f p ab loc s) (B:aE p v val):aO (aR c.prog c.w) f.A (call (.type "str") [val] []) (cb c f p loc k) E s:=by
 obtain⟨n,rfl,F,C⟩:=kC' h
 obtain⟨cW,D⟩:=an C
 have lq:n<10:=ce cW
 obtain⟨t,rfl⟩:=B
 obtain⟨aK,aW⟩:=J4 n lq
 refine PySem.P.str_of_int ?_ ⟨p,ab,V.str (n+49),aX.bN.refl p,⟨_,_,rfl,aK,aW⟩,S.tok,D⟩
 show vU n<1920
 have:vU n<=n:=Nat.log2_le_self n
 lia
def vBool (v:V) (k:Bool->Bool):Bool:=V.rec false k aL aL aL a1 aL a1 v
def pT' {ar:Prop} {k:Bool->Bool} (h:vBool v k=true) (A:∀b,v=.bool b->k b=true->ar):ar:=by
 cases v with
 |bool b=>exact A b rfl h
 |_=>cases h
def w9 (v:V) (ab:aA) (k:aY):Bool:=vBool v λb=>k (.int (bk 0 1 b)) ab
def CU {val:am} {k:aY} (h:w9 v ab k=true) (S:ba c f p ab loc s) (C:aE p v val):aO (aR c.prog c.w) f.A (call (.type "int") [val] []) (cb c f p loc k) E s:=by
 obtain⟨b,rfl,B⟩:=pT' h
 cases C
 refine call_int_bool ⟨p,ab,V.int (bk (motive:=λZ=>Int) 0 1 b),aX.bN.refl p,⟨s.toks,?_⟩,S.tok,B⟩
 clear B
 cases b<;>rfl
def CV (v:V) (ab:aA) (k:aY):Bool:=jX v λn=>mk (.rng 0 (bl n)) ab k
def J6 {val:am} {k:aY} (h:CV v ab k=true) (S:ba c f p ab loc s) (B:aE p v val):aO (aR c.prog c.w) f.A (call (.type "range") [val] []) (cb c f p loc k) E s:=by
 obtain⟨n,rfl,G,C⟩:=kC' h
 obtain⟨t,rfl⟩:=B
 obtain⟨m,aj,F,ak,H,D⟩:=S.ex
 exact call_range_1 (fH S H D C (F.push _) (aH F ak _) (fw ak) λa3 hm=>⟨_,_,_,by rw[fj];exact hm⟩)
def J7 {prog:ew} {l:a7} {B:Array am} {Q:am->a9->Prop} (G:s.heap.IsList l B)
  (h:Q (.ref (s.heap.objs.size+1)) {s with heap:=(s.heap.push (ti l 0)).push (q3 s.heap.objs.size 0 .none)}):
  aO (aR prog w) A (call (.type "enumerate") [.ref l]) Q E s:=by
 obtain⟨⟨c,H,I,bs⟩,J,C,n,hd⟩:=G
 replace C:c=.type "list":=C
 replace hd:I=.seq B n:=hd
 subst C hd
 refine callType_new PySem.F.called_enumerate (by decide) (PySem.F.typeCall_enumerate_1 _) (PySem.F.newCall_enumerate_1 _) (λobj=>PySem.F.args_object_init_2 obj _) PySem.F.entry_enumerate_new
  (meets_enumerate_newL l B n H bs) ⟨J,?_⟩
 have D:(s.heap.push {cls:=.type "list_iterator",data:=.fields #[.ref l,.int 0 0]}).objs.size=s.heap.objs.size+1:=lT ..
 show _/\_
 rw[D]
 have he:IsEnum ((s.heap.push {cls:=.type "list_iterator",data:=.fields #[.ref l,.int 0 0]}).push
   {cls:=.type "enumerate",data:=.fields #[.none,.bool false,.ref s.heap.objs.size,ee 0,.none,.none]}) (s.heap.objs.size+1) s.heap.objs.size 0 .none:=by
  have:=k6 (s.heap.push {cls:=.type "list_iterator",data:=.fields #[.ref l,.int 0 0]})
   (o:={cls:=.type "enumerate",data:=.fields #[.none,.bool false,.ref s.heap.objs.size,ee 0,.none,.none]}) rfl
  rw[D]at this;exact this
 exact⟨⟨_,he,rfl⟩,h⟩
def CW (v:V) (ab:aA) (k:aY):Bool:=cz v λZ aB=>fv (bn ab aB) λxs=>aN (f6 xs) (mk (.lit v 0) ab λit ab=>mk (.enm it 0) ab k)
def J8 {val:am} {k:aY} (h:CW v ab k=true) (S:ba c f p ab loc s) (C:aE p v val):aO (aR c.prog c.w) f.A (call (.type "enumerate") [val] []) (cb c f p loc k) E s:=by
 obtain⟨i,aB,rfl,J⟩:=cJ' h
 have K:=C
 obtain⟨af,rfl,rfl⟩:=C
 obtain⟨m,aj,F,ak,H,L⟩:=S.ex
 obtain⟨xs,g,M⟩:=gn' J
 obtain⟨cW,hm⟩:=an M
 dsimp only[bP]at g
 obtain⟨ai,l1,P⟩:=aQ.list ak H af g
 refine J7 l1 ?_
 obtain⟨hs,ag⟩:=mk_eq hm
 have B:=aH F ak (ti (p.a i) 0)
 have e1:=p.eZ s.heap.objs.size s.heap.objs.size
 have dK:ba c f (p.more s.heap.objs.size s.heap.objs.size) ⟨T.put (.lit (.own i (key i)) 0) ab.bz ab.t,ab.ay+1,g8 ab.bz⟩ loc {s with heap:=s.heap.push (ti (p.a i) 0)}:=
  rg S H L hs (F.push _) B (fw ak) λa3 hm=>⟨_,_,K.ext e1,by rw[fj];exact hm,rfl,rfl⟩
 obtain⟨Q,R,D,B,cX,N⟩:=dK.ex
 have G:(s.heap.push (ti (p.a i) 0)).objs.size=s.heap.objs.size+1:=lT ..
 have I:=aH D B (q3 s.heap.objs.size 0 .none)
 rw[G]at I
 refine(fH dK cX N ag (D.push (q3 s.heap.objs.size 0 .none)) I (λq O=>by have:=fw B q O;rw[G]at this;exact this) λa3 hm=>⟨s.heap.objs.size,.none,(aX.ib S.z).ext (aX.eZ _ _ _),by rw[fj];exact hm⟩).up e1
def CX (v:V) (ab:aA) (k:aY):Bool:=cz v λZ aB=>fv (bn ab aB) λxs=>ne xs (k (.int 0) ab)
def J9 (ah:aZ c f) {val:am} {k:aY} (h:CX v ab k=true) (S:ba c f p ab loc s) (D:aE p v val):aO (aR c.prog c.w) f.A (call (.builtin "sum") [val] []) (cb c f p loc k) E s:=by
 obtain⟨i,aB,rfl,G⟩:=cJ' h
 obtain⟨af,rfl,rfl⟩:=D
 obtain⟨m,aj,F,ak,H,I⟩:=S.ex
 obtain⟨xs,g,J⟩:=gn' G
 obtain⟨rfl,K⟩:=tO' J
 dsimp only[bP]at g
 obtain⟨ai,l1,L⟩:=aQ.list ak H af g
 cases L.nil_inv
 refine sum_intListG (xs:=#[]) ah.cj (by simpa [intItems]using l1) λav bo bZ B=>⟨p,ab,V.int 0,aX.bN.refl p,⟨_,rfl⟩,⟨⟨m,aj,F.keeps B,λq C=>⟨B _ _ (ak q C).1,(ak q C).2⟩,H,I⟩,S.gens,S.os,S.z,S.n,S.y⟩,K⟩
structure J_ (K:dn) (bp:Nat):Prop where
 get:plainGet K bp "__class__"=true
 dict:vP K bp=true
 cls:gf K (.ref bp) "__class__"=some (some (.builtin "object.__class__"))
 spec:specialIn K (.builtin "object.__class__") "__get__"=some (some (.builtin "getset_descriptor.__get__"))
 takes:takesIn K (.builtin "object.__class__")=some true
 mro:mroIn K bp (.type "object")=some true
structure tQ (K:dn) (fx:am) (kF cW d1 fk:Bool) (l:List (Nat×Bool)):Prop where
 none:mW K (.type "NoneType") fx=some kF
 bool:mW K (.type "bool") fx=some cW
 int:mW K (.type "int") fx=some d1
 str:mW K (.type "str") fx=some fk
 inst:∀q∈l,J_ K q.1/\mW K (.ref q.1) fx=some q.2
def w_ (l:List (Nat×Bool)) (x:Nat) (k:Bool->Bool):Bool:=bW false (λf Z A=>pc (λa b=>bk A (k b) (aU a x)) f) l
def CY' {x:Nat} {k:Bool->Bool}:∀{l:List (Nat×Bool)},w_ l x k=true->∃a,(x,a)∈l/\k a=true
 |[],h=>nomatch (h:false=true)
 |(y,b)::l,h=>by
  replace h:bk (motive:=λZ=>Bool) (w_ l x k) (k b) (aU y x)=true:=h
  rw[d6]at h
  by_cases e:y=x
  ·rw[decide_eq_true e]at h;subst e;exact⟨b,.head _,h⟩
  ·rw[decide_eq_false e]at h
   obtain⟨a,ae,ag⟩:=CY' h
   exact⟨a,.tail _ ae,ag⟩
def xa (kF cW d1 fk:Bool) (l:List (Nat×Bool)) (v:V) (ab:aA) (k:aY):Bool:=V.rec (k (.bool kF) ab) (λZ=>k (.bool cW) ab) (λZ=>k (.bool d1) ab) (λZ=>k (.bool d1) ab) (λZ=>k (.bool fk) ab) (λZ aB=>m7 ab aB λC Z=>w_ l C λb=>k (.bool b) ab) aL a1 v
def Ka {fx:am} {kF cW d1 fk:Bool} {l:List (Nat×Bool)} (a0:tQ c.K fx kF cW d1 fk l) (ah:aZ c f) {val:am} {k:aY} (h:xa kF cW d1 fk l v ab k=true) (S:ba c f p ab loc s) (B:aE p v val):aO (aR c.prog c.w) f.A (call (.builtin "isinstance") [val,fx] []) (cb c f p loc k) E s:=by
 have X:=S.X ah
 have dF:∀b,k (.bool b) ab=true->∀bo,cb c f p loc k (.bool b) {s with toks:=bo}:=λb D bo=>⟨p,ab,V.bool b,aX.bN.refl p,rfl,S.tok,D⟩
 cases v with
 |none=>cases B;exact sY kitx_none X trivial a0.none (λq=>by cases q) (dF _ h)
 |bool b=>cases B;exact sY kitx_bool X trivial a0.bool (λq=>by cases q) (dF _ h)
 |int i=>obtain⟨t,rfl⟩:=B;exact sY kitx_int X trivial a0.int (λq=>by cases q) (dF _ h)
 |sym i=>obtain⟨_,t,rfl,_⟩:=B;exact sY kitx_int X trivial a0.int (λq=>by cases q) (dF _ h)
 |str i=>obtain⟨x,t,rfl,_⟩:=B;exact sY kitx_str X trivial a0.str (λq=>by cases q) (dF _ h)
 |own i aB=>
  obtain⟨af,rfl,rfl⟩:=B
  obtain⟨C,ao,g,ag⟩:=pF' (show m7 ab (key i) _=true from h)
  obtain⟨b,G,I⟩:=CY' ag
  obtain⟨ok,q⟩:=a0.inst _ G
  obtain⟨m,aj,F,ak,H,M⟩:=S.ex
  obtain⟨co,J,es,n,L,N⟩:=H.wp af g
  exact sY (kitx_own ok.get ok.dict ok.cls ok.spec ok.takes ok.mro) X (zP ak J L) q (λq=>by cases q) (dF _ I)
 |gnd g=>cases h
 |any _ _=>cases h
def Kb (ah:aZ c f) {e:aM} {aV:aT} {x:aI} {aK aW pos:bO} {fx:am} {kF cW d1 fk:Bool} {l:List (Nat×Bool)} (B:f.sc.names.lookup y=some .globalImplicit) (g:d7 c y (.builtin "isinstance")) (he:a8 c aw aV f e) (ns:noStar [e,.Name x aW]=true)
  (C:f.sc.names.lookup x=some .globalImplicit) (D:d7 c x fx) (a0:tQ c.K fx kF cW d1 fk l):a8 c aw (ii (xa kF cW d1 fk l) aV) f (.Call (.Name y aK) [e,.Name x aW] [] pos):=λab loc k au p s E h S G I=>by
 obtain⟨m,aj,F,ak,H,R⟩:=S.ex
 rw[na rfl]
 refine aP (ml ah B g F (jY og ns (S.X ah) ?_))
 obtain⟨J,L⟩:=mo ns
 obtain⟨T,M⟩:=mo J
 rw[L f.env]
 refine qU (cy (he ab loc _ au p s E h S G I) (λv U bt bw y N O A P=>?_))
 obtain⟨V,W,Q,Y,cX,a⟩:=A.ex
 rw[M f.env]
 refine qU (ml ah C D Q (vW ⟨A.X ah,?_⟩))
 exact b_ (Ka a0 ah P A O) (λZ Z q=>q.up N) λZ Z h=>h
end
section
variable {loc:Loc}
def Fr.om {aC h av:bE} {L:a7} (F:Fr aC L h m) (A:∀b o,h.get? b=some o->av.get? b=some o):Fr aC L av m:=F.keeps A
def News.om {aC h av:bE} {L:a7} {aj:bc} (ak:News aC L h aj) (B:∀b o,h.get? b=some o->av.get? b=some o):News aC L av aj:=λq A=>⟨B _ _ (ak q A).1,(ak q A).2⟩
def ba.om (S:ba c f p ab loc s) {av:bE} {bo:Nat} (A:∀b o,s.heap.get? b=some o->av.get? b=some o):ba c f p ab loc {s with heap:=av,toks:=bo}:=by
 obtain⟨m,aj,F,ak,H,B⟩:=S.ex
 exact⟨⟨m,aj,Fr.om F A,News.om ak A,H,B⟩,S.gens,S.os,S.z,S.n,S.y⟩
def xb {h av:bE} (he:sO h.objs.size h av):∀b o,h.get? b=some o->av.get? b=some o:=λb o e=>he b o (dS (dX e)) e
inductive jp (c:b4) (f:bL) (p:aX) (k:aA->Loc->Bool) (aq:a9):Prop
 |mk aD aF cO (ae:p.bN aD) (ag:ba c f aD aF cO aq) (ax:k aF cO=true):jp c f p k aq
def jp.up {bt:aX} {k:aA->Loc->Bool} (e:p.bN bt) (h:jp c f bt k s):jp c f p k s:=let⟨aD,aF,l,a,b,d⟩:=h;⟨aD,aF,l,e.trans a,b,d⟩
def pU (bg:List Nat) (v:V) (y:Nat) (u:V) (ab:aA) (k:aA->Bool):Bool:=cz v λZ aB=>mh ab aB λC ao=>aN (dG bg C) (aN (b2 ao.length 900) (k (bD aB (.inst C (up ao y u)) ab)))
def hX {bd:Type} {t:Sem bd} {aB:aA->Bool} {Q:bd->a9->Prop} (h:aO (aR c.prog c.w) f.A t (λZ aq=>∃aF,ba c f p aF loc aq/\aB aF=true) E s) (g:∀v aq aF,ba c f p aF loc aq->aB aF=true->Q v aq):aO (aR c.prog c.w) f.A t Q E s:=b_ h (λZ Z z=>e1_2 z λZ a b=>g _ _ _ a b) λZ Z h=>h
def rE {bd:Type} {t:Sem bd} {k:aA->Loc->Bool} {Q:bd->a9->Prop} (h:aO (aR c.prog c.w) f.A t (λZ aq=>jp c f p k aq) E s) (g:∀v aq aD aF B,p.bN aD->ba c f aD aF B aq->k aF B=true->Q v aq):aO (aR c.prog c.w) f.A t Q E s:=b_ h (λZ Z z=>z.casesOn λZ Z Z a b d=>g _ _ _ _ _ a b d) λZ Z h=>h
def tR {bg:List Nat} {u:V} {val B:am} {aB:aA->Bool} (D:∀C∈bg,jO c.K C (aG y)) (k8:bf y=true) (h:pU bg v (aG y) u ab aB=true) (ah:aZ c f) (S:ba c f p ab loc s) (G:aE p v val) (I:aE p u B):
  aO (aR c.prog c.w) f.A (setAttr val y B) (λZ aq=>∃aF,ba c f p aF loc aq/\aB aF=true) E s:=by
 obtain⟨i,jl,rfl,ae⟩:=cJ' h
 obtain⟨C,ao,J,ag⟩:=q_' ae
 obtain⟨ax,aS⟩:=an ag
 obtain⟨bA,cw⟩:=an aS
 obtain⟨m,aj,F,ak,H,L⟩:=S.ex
 obtain⟨af,rfl,rfl⟩:=G
 refine H5 (aB:=key i) F ak H ah.X ⟨af,rfl,rfl⟩ J k8 (D C (rB ax)) (ce bA) I λav a3 M N O=>⟨_,⟨⟨m,a3,M,N,?_,L⟩,S.gens,S.os,S.z.bD _ _,S.n,S.y⟩,cw⟩
 rw[jS];exact O
def pV {u:V} {B:am} (ah:aZ c f) (k8:bf y=true) (C:f.sc.names.lookup y=some .local) (S:ba c f p ab loc s) (G:aE p u B) {Q:Unit->a9->Prop} (I:∀aq,ba c f p ab (up loc (aG y) u) aq->Q () aq):
  aO (aR c.prog c.w) f.A (storeName f.env y B) Q E s:=by
 obtain⟨m,aj,F,ak,H,J⟩:=S.ex
 refine v5 (m:=m) (hx.loc ah C) (ah.locals▸F.ns) (λav D hs=>I _ ?_) (by rw[ah.kind];rfl)
 rw[ah.locals]at D hs
 exact⟨⟨_,aj,F.set D hs,ak.set hs,H,J.set k8 C G⟩,S.gens,S.os,S.z,S.n,S.y⟩
def xc (x:Nat) (v:V) (ab:aA) (loc:Loc) (k:aA->Bool):Bool:=f4 (lk loc x) λw=>cz w λZ aB=>cq false (λo=>O.rec a1 a1 a1 aL aL aL (λZ=>k (bD aB (.cell (some v)) ab)) a1 a1 cQ aL cQ aL cQ a1 a1 a1 false aL false aL a1 aL o) (bn ab aB)
def tS {u:V} {C:am} {aB:aA->Bool} (ah:aZ c f) (k8:bf y=true) (D:f.sc.names.lookup y=some .cell) (h:xc (aG y) u ab loc aB=true) (S:ba c f p ab loc s) (J:aE p u C) {Q:Unit->a9->Prop} (K:∀aq aF,ba c f p aF loc aq->aB aF=true->Q () aq):
  aO (aR c.prog c.w) f.A (storeName f.env y C) Q E s:=by
 obtain⟨w,G,ae⟩:=f5' h
 obtain⟨i,jl,rfl,ag⟩:=cJ' ae
 obtain⟨m,aj,F,ak,H,I⟩:=S.ex
 rcases I y _ k8 G with⟨q,_⟩|⟨_,T,U,a,e,L,M⟩
 ·rw[D]at q;cases q
 clear G
 ·cases e
  obtain⟨af,rfl,e⟩:=L
  cases e
  have N:f.env.kindOf y=some .cell:=by have:=ah.em y;rw[D]at this;exact this
  dsimp only[bP]at ag
  cases B:ab.t.get (key i)with
  |none=>rw[B]at ag;cases ag
  |some o=>
   rw[B]at ag
   cases o with
   |cell v=>
    obtain⟨o,x,ax,aS,bA⟩:=H.ent i _ af B
    refine wpAny_storeName_cell ah.kind N M ⟨o,ak.get ax,aS⟩ λav O hs=>?_
    obtain⟨bC,P,R⟩:=O
    exact K _ _ (kz (bo:=s.toks) (v:=.cell (some u)) S F ak H I af ⟨_,B,rfl⟩ ax hs P λa3 hm Z=>⟨bC,_,hm,R,C,rfl,J⟩) ag
   |_=>cases ag
inductive fb where
 |n (x:Nat)
 |c (x:Nat)
 |p (x y:Nat)
inductive fc (f:bL):fb->aM->Prop
 |n {y:aI} {pos:bO}:bf y=true->f.sc.names.lookup y=some .local->fc f (.n (aG y)) (.Name y pos)
 |c {y:aI} {pos:bO}:bf y=true->f.sc.names.lookup y=some .cell->fc f (.c (aG y)) (.Name y pos)
 |p {x y:aI} {hY lr q:bO} {k:Nat}:bf x=true->f.sc.names.lookup x=some .local->bf y=true->f.sc.names.lookup y=some .local->fc f (.p (aG x) (aG y)) (.Tuple [.Name x hY,.Name y lr] k q)
def CZ (o:Option O) (k:V->V->Bool):Bool:=ic o λxs=>bW false (λa l Z=>bW false (λb m Z=>bW (k a b) hv m) l) xs
def Kc' {o:Option O} {k:V->V->Bool} (h:CZ o k=true):∃a b,o=some (.tuple [a,b])/\k a b=true:=by
 obtain⟨xs,e,h⟩:=m8' h
 cases xs with
 |nil=>cases h
 |cons a xs=>
 cases xs with
 |nil=>cases h
 |cons b xs=>
 cases xs with
 |nil=>exact⟨a,b,e,h⟩
 |cons _ _=>cases h
def hZ (tg:fb) (v:V) (ab:aA) (loc:Loc) (k:aA->Loc->Bool):Bool:=fb.rec (λx=>k ab (up loc x v)) (λx=>xc x v ab loc λab=>k ab loc) (λx y=>cz v λZ aB=>CZ (bn ab aB) λa b=>k ab (up (up loc x a) y b)) tg
def rF {tg:fb} {t:aM} {val:am} {k:aA->Loc->Bool} (J:fc f tg t) (ah:aZ c f) (h:hZ tg v ab loc k=true) (S:ba c f p ab loc s) (D:aE p v val):aO (aR c.prog c.w) f.A (lV t f.env val) (λZ aq=>jp c f p k aq) E s:=by
 cases J with
 |n k8 B=>exact assign_Name (pV ah k8 B S D λaq C=>⟨p,ab,_,aX.bN.refl p,C,h⟩)
 |c k8 B=>exact assign_Name (tS (aB:=λab=>k ab loc) ah k8 B h S D λaq aF C G=>⟨p,aF,loc,aX.bN.refl p,C,G⟩)
 |p k8 B K L=>
  obtain⟨i,aB,rfl,ae⟩:=cJ' h
  obtain⟨a,b,g,G⟩:=Kc' ae
  dsimp only[bP]at g
  obtain⟨af,rfl,rfl⟩:=D
  obtain⟨m,aj,F,ak,H,P⟩:=S.ex
  obtain⟨ai,l1,I⟩:=aQ.tup ak H af g
  obtain⟨Q,R,rfl,M,N⟩:=I.tL',I
  refine wpAny_assign_Tuple ah.cj l1 rfl rfl λav he=>?_
  refine Ah (assign_Name (pV ah k8 B (S.om (bo:=s.toks) (xb he)) M λaq C=>?_))
  exact Ah (assign_Name (pV ah K L C N λT O=>Hi ⟨p,ab,_,aX.bN.refl p,O,G⟩))
end
def on:aM->Bool
 |.ListComp .. =>true
 |.SetComp .. =>true
 |.DictComp .. =>true
 |_=>false
def xd {dz:aM} {t:Option aM} {l:Nat} {env:cI} (h:on dz=false):sZ dz t l env=pure false:=by
 cases dz<;>first|rfl|cases h
def xe {dz o:aM} {a:aI} {q:bO} {l:Nat} {env:cI}:sZ dz (some (.Attribute o a q)) l env=pure false:=by
 cases dz<;>rfl
def Kd {dz o i:aM} {q:bO} {l:Nat} {env:cI}:sZ dz (some (.Subscript o i q)) l env=pure false:=by
 cases dz<;>rfl
def C0 {dz:aM} {es:List aM} {k:Nat} {q:bO} {l:Nat} {env:cI}:sZ dz (some (.Tuple es k q)) l env=pure false:=by
 cases dz<;>rfl
section
def kG:bV:=λab loc a2 Z=>a2 .next ab loc
def Ke {pos}:dK c aw kG f (.Pass pos):=λab loc k au p s E h S A B=>wpAny_Pass ⟨p,ab,loc,Fl.next,aX.bN.refl p,rfl,S,h⟩
def Kf:gG c aw kG f []:=λab loc k au p s E h S A B=>k7 ⟨p,ab,loc,Fl.next,aX.bN.refl p,rfl,S,h⟩
def jZ (a b:bV):bV:=λab loc a2 au=>a ab loc (λbg ab loc=>Fl.rec (b ab loc a2 au) (a2 .brk ab loc) (a2 .cont ab loc) (λv=>a2 (.ret v) ab loc) bg) au
def Kg {st:bI} {ct:List bI} {G H:bV} (K:dK c aw G f st) (L:gG c aw H f ct):gG c aw (jZ G H) f (st::ct):=λab loc a2 au p s E h S I J=>by
 refine iE (hT (K ab loc _ au p s E h S I J) (λbg M bt bw B y A C D F=>?_))
 cases y with
 |next=>cases C;exact b_ (L bw B a2 au bt M E F D (aw.up A I) J) (λZ Z q=>q.up A) λZ Z h=>h
 |brk=>cases C;exact⟨bt,bw,B,Fl.brk,A,rfl,D,F⟩
 |cont=>cases C;exact⟨bt,bw,B,Fl.cont,A,rfl,D,F⟩
 |ret v=>obtain⟨val,rfl,N⟩:=C;exact⟨bt,bw,B,Fl.ret v,A,⟨val,rfl,N⟩,D,F⟩
def xf {st:bI} {G:bV} (H:dK c aw G f st):gG c aw G f [st]:=λab loc a2 au p s E h S I J=>by
 refine iE (hT (H ab loc _ au p s E h S I J) (λbg L bt bw A y B C D F=>?_))
 cases y with
 |next=>cases C;exact k7 ⟨bt,bw,A,Fl.next,B,rfl,D,F⟩
 |brk=>cases C;exact⟨bt,bw,A,Fl.brk,B,rfl,D,F⟩
 |cont=>cases C;exact⟨bt,bw,A,Fl.cont,B,rfl,D,F⟩
 |ret v=>obtain⟨val,rfl,K⟩:=C;exact⟨bt,bw,A,Fl.ret v,B,⟨val,rfl,K⟩,D,F⟩
def ng (e:aT):bV:=λab loc a2 au=>e ab loc (λv ab=>a2 (.ret v) ab loc) au
def Kh {e:aM} {aV:aT} {pos} (he:a8 c aw aV f e):dK c aw (ng aV) f (.Return (some e) pos):=λab loc k au p s E h S A B=>
 qV (cy (he ab loc _ au p s E h S A B) (λv H bt bw y C D F G=>⟨bt,bw,loc,Fl.ret y,C,⟨v,rfl,D⟩,F,G⟩))
def Ki {pos}:dK c aw (ng (ds .none)) f (.Return none pos):=λab loc k au p s E h S A B=>wpAny_Return_none ⟨p,ab,loc,Fl.ret .none,aX.bN.refl p,⟨_,rfl,rfl⟩,S,h⟩
def nh (t:c6) (b o:bV):bV:=λab loc a2 au=>t ab loc (λq ab=>hV q (b ab loc a2 au) (o ab loc a2 au)) au
def Kj {t:aM} {b o:List bI} {D:c6} {F co:bV} {pos} (J:ST c aw D f t) (K:gG c aw F f b) (k8:gG c aw co f o):dK c aw (nh D F co) f (.If t b o pos):=λab loc k au p s E h S B C=>by
 refine wpAny_If (kw (J ab loc _ au p s E h S B C) (λq G bt bw A H I=>?_))
 cases q with
 |true=>exact b_ (K bw loc k au bt G E I H (aw.up A B) C) (λZ Z q=>q.up A) λZ Z h=>h
 |false=>exact b_ (k8 bw loc k au bt G E I H (aw.up A B) C) (λZ Z q=>q.up A) λZ Z h=>h
def tT (e:aT):bV:=λab loc a2 au=>e ab loc (λZ ab=>a2 .next ab loc) au
def Kk (ah:aZ c f) {e:aM} {aV:aT} {pos} (he:a8 c aw aV f e) (ae:on e=false):dK c aw (tT aV) f (.Expr e pos):=λab loc k au p s E h S A B=>by
 have af:interactive f.env=false:=by
  show(f.env.scope.kind==.module&&_)=false
  rw[ah.kind];rfl
 rw[exec_Expr f.env e pos af (xd ae)]
 refine aP (lP (aP (cy (he ab loc _ au p s E h S A B) (λv G bt bw y C H D F=>?_))))
 exact wpAny_dropValue ⟨bt,bw,loc,Fl.next,C,rfl,D,F⟩
def jp.next {k:dy} (h:jp c f p (λab loc=>k .next ab loc) s):le c f p k .next s:=let⟨aD,aF,l,e,S,A⟩:=h;⟨aD,aF,l,Fl.next,e,rfl,S,A⟩
def ni (tg:fb) (e:aT):bV:=λab loc a2 au=>e ab loc (λv ab=>hZ tg v ab loc (λab loc=>a2 .next ab loc)) au
def Kl (ah:aZ c f) {tg:fb} {e:aM} {aV:aT} {q pos} (H:fc f tg (.Name y q)) (he:a8 c aw aV f e) (ae:on e=false):dK c aw (ni tg aV) f (.Assign [.Name y q] e pos):=λab loc k au p s E h S I J=>by
 refine wpAny_Assign_Name (cy (he ab loc _ au p s E h S I J) (λv L bt bw u C D F G=>?_)) (xd ae)
 clear h
 cases H with
 |n k8 A=>exact pV ah k8 A F D λaq B=>⟨bt,bw,_,Fl.next,C,rfl,B,G⟩
 |c k8 A=>exact tS (aB:=λab=>k .next ab loc) ah k8 A G F D λaq aF B K=>⟨bt,aF,loc,Fl.next,C,rfl,B,K⟩
def C1 (bg:List Nat) (o:aT) (y:Nat) (e:aT):bV:=λab loc a2 au=>e ab loc (λu ab=>o ab loc (λv ab=>pU bg v y u ab (λab=>a2 .next ab loc)) au) au
def Km (ah:aZ c f) {bg:List Nat} {o e:aM} {co aV:aT} {q pos} (G:∀C∈bg,jO c.K C (aG y)) (k8:bf y=true) (ae:a8 c aw co f o) (he:a8 c aw aV f e):dK c aw (C1 bg co (aG y) aV) f (.Assign [.Attribute o y q] e pos):=λab loc k au p s E h S A B=>by
 refine Hj (cy (he ab loc _ au p s E h S A B) (λv H bt bw u D I J L=>?_)) xe
 refine cy (ae bw loc _ au bt H E L J (aw.up D A) B) (λU V M W w F N O P=>?_)
 exact hX (tR G k8 P ah O N (I.ext F)) (λZ X Q R T=>⟨M,Q,loc,Fl.next,D.trans F,rfl,R,T⟩)
def rG (o i e:aT):bV:=λab loc a2 au=>e ab loc (λu ab=>o ab loc (λv ab=>i ab loc (λw ab=>rx v w u ab (λab=>a2 .next ab loc)) au) au) au
def Kn (ah:aZ c f) {o i e:aM} {co ci aV:aT} {q pos} (ae:a8 c aw co f o) (ag:a8 c aw ci f i) (he:a8 c aw aV f e):dK c aw (rG co ci aV) f (.Assign [.Subscript o i q] e pos):=λab loc k au p s E h S A B=>by
 refine wpAny_Assign_Subscript (cy (he ab loc _ au p s E h S A B) (λv G bt bw u C H I J=>?_)) Kd
 refine cy (ae bw loc _ au bt G E J I (aw.up C A) B) (λX K L M w D N O P=>?_)
 refine cy (ag M loc _ au L K E P O (aw.up (C.trans D) A) B) (λY a Q b z F R T U=>?_)
 exact Ji ah U T (N.ext F) R (H.ext (D.trans F)) λaq aF V W=>⟨Q,aF,loc,Fl.next,(C.trans D).trans F,rfl,V,W⟩
def C2 (bg:List Nat) (o:aT) (y:Nat) (e:aT):bV:=λab loc a2 au=>o ab loc (λv ab=>rb v y ab (λa ab=>e ab loc (λb ab=>jV a (λi=>vInt b λj=>pU bg v y (.int (bM i j)) ab (λab=>a2 .next ab loc)) (vInt b λZ=>pU bg v y (.sym (ei 0)) ab (λab=>a2 .next ab loc))) au)) au
def Ko (ah:aZ c f) {bg:List Nat} {o e:aM} {co aV:aT} {q pos} (M:∀C∈bg,jO c.K C (aG y)) (k8:bf y=true) (ae:a8 c aw co f o) (he:a8 c aw aV f e):dK c aw (C2 bg co (aG y) aV) f (.AugAssign (.Attribute o y q) .Add e pos):=λab loc k au p s E h S N O=>by
 refine wpAny_AugAssign_AttributeAny (cy (ae ab loc _ au p s E h S N O) (λn r bt bw v D F V W=>?_))
 refine cy (BB k8 W ah V F) (λw X Y d a A P g Q=>?_)
 refine cy (he d loc _ au Y X E Q g (aw.up (D.trans A) N) O) (λx aa R af b B T U l=>?_)
 clear Q
 rcases mn' l with⟨i,rfl,G⟩|⟨i,rfl,G⟩
 ·obtain⟨j,rfl,H⟩:=eD' G
  obtain⟨t,rfl⟩:=P
  obtain⟨u,rfl⟩:=T
  exact wpAny_iadd_int (hX (tR M k8 H ah U.tok (F.ext (A.trans B)) ⟨_,rfl⟩) (λZ m I J L=>⟨R,I,loc,Fl.next,(D.trans A).trans B,rfl,J,L⟩))
 ·obtain⟨j,rfl,H⟩:=eD' G
  obtain⟨_,t,rfl,_⟩:=P
  obtain⟨u,rfl⟩:=T
  exact wpAny_iadd_int (hX (tR M k8 H ah U.tok (F.ext (A.trans B)) ie) (λZ m I J L=>⟨R,I,loc,Fl.next,(D.trans A).trans B,rfl,J,L⟩))
end
section
set_option backward.match.sparseCases true
inductive iM where
 |n (x:Nat)
 |c (x:Nat)
 |a (bg:List Nat) (o:aT) (y:Nat)
inductive tU (c:b4) (aw:XL c) (f:bL):iM->aM->Prop
 |n {y:aI} {pos:bO}:bf y=true->f.sc.names.lookup y=some .local->tU c aw f (.n (aG y)) (.Name y pos)
 |c {y:aI} {pos:bO}:bf y=true->f.sc.names.lookup y=some .cell->tU c aw f (.c (aG y)) (.Name y pos)
 |a {bg:List Nat} {o:aM} {co:aT} {y:aI} {pos:bO}:(∀C∈bg,jO c.K C (aG y))->bf y=true->a8 c aw co f o->tU c aw f (.a bg co (aG y)) (.Attribute o y pos)
inductive hB (c:b4) (aw:XL c) (f:bL):List iM->List aM->Prop
 |nil:hB c aw f [] []
 |cons {tg t C3 cn}:tU c aw f tg t->hB c aw f C3 cn->hB c aw f (tg::C3) (t::cn)
def oo (l:List iM):List V->aA->Loc->(aA->Loc->Bool)->ef->Bool:=bW (motive:=λZ=>List V->aA->Loc->(aA->Loc->Bool)->ef->Bool) (λai ab loc k Z=>bW (k ab loc) hv ai)
 (λtg Z A ai ab loc k au=>bW false (λv ai Z=>iM.rec (λx=>A ai ab (up loc x v) k au) (λx=>xc x v ab loc λab=>A ai ab loc k au) (λbg o y=>o ab loc (λw ab=>pU bg w y v ab λab=>A ai ab loc k au) au) tg) ai) l
section
variable {loc:Loc}
def Kp {o:aM} {pos:bO} {v:am} {Q:Unit->a9->Prop} (h:aO (aR c.prog c.w) f.A (dP o f.env) (λB C=>aO (aR c.prog c.w) f.A (setAttr B y v) Q E C) E s):aO (aR c.prog c.w) f.A (lV (.Attribute o y pos) f.env v) Q E s:=by
 show aO _ _ (do
  let B<-sN [v] (dP o f.env)
  sM pos.atName
  sN [v,B] (setAttr B y v)
  release [v,B] []) _ _ _
 refine aP (gB (b_ h (λB C D=>aP (lP (aP (gB (b_ D (λZ G F=>?_) λZ Z h=>h))))) λZ Z h=>h))
 exact wpAny_release F
def hB.each:∀{B:List iM} {cn:List aM},hB c aw f B cn->v6 cn f.env=cn.map λt=>(false,lV t f.env):=by
 intro B cn h
 induction h with
 |nil=>
  exact rfl
 |cons h t A=>
  cases h with
  |n _ _=>show(false,_)::v6 _ _=_;rw[A];rfl
  |c _ _=>show(false,_)::v6 _ _=_;rw[A];rfl
  |a _ _ _=>show(false,_)::v6 _ _=_;rw[A];rfl
def Kq (ah:aZ c f):∀{C:List iM} {cn:List aM},hB c aw f C cn->∀{xs:List V} {ai:List am} {ab:aA} {loc:Loc} {p:aX} {s:a9} {k:aA->Loc->Bool} {au:ef},oo C xs ab loc k au=true->ba c f p ab loc s->All2 (aE p) xs ai->aw.ok f p au.x E->df c aw f.b au.cl->
  aO (aR c.prog c.w) f.A (assignInOrder (cn.map λt=>lV t f.env) ai) (λZ aq=>jp c f p k aq) E s:=by
 intro C cn bj
 induction bj with
 |nil=>
  intro xs ai ab loc p s k au h S B D F
  cases xs with
  |nil=>cases B;exact Hi ⟨p,ab,loc,aX.bN.refl p,S,h⟩
  |cons _ _=>cases h
 |@cons _ _ C cn L U H=>
  intro xs ai ab loc p s k au h S B D F
  cases xs with
  |nil=>cases h
  |cons v xs=>
  cases B with
  |cons B I=>
  rw[d4]
  refine Ah ?_
  cases L with
  |n k8 J=>exact Ai (pV ah k8 J S B λaq K=>H (k:=k) (au:=au) (xs:=xs) h K I D F)
  |c k8 J=>exact Ai (tS (aB:=λab=>oo C xs ab loc k au) ah k8 J h S B λaq aF K M=>H M K I D F)
  |a N k8 he=>
   refine Kp (cy (he ab loc (λw ab=>pU _ w _ v ab λab=>oo C xs ab loc k au) au p s E h S D F) (λW X bt bw w G O P Q=>?_))
   refine hX (tR N k8 Q ah P O (B.ext G)) (λZ Y d R T=>?_)
   exact b_ (H T R (I.imp λZ Z=>aE.ext G) (aw.up G D) F) (λZ Z q=>q.up G) λZ Z h=>h
def Kr (ah:aZ c f):∀(l:List (aI×am)) {m:aI->Option am} {aj:bc} {s:a9} {Q:Unit->a9->Prop},(∀q∈l,f.sc.names.lookup q.1=some .local)->Fr f.aC f.L s.heap m->News f.aC f.L s.heap aj->
  (∀av bo,Fr f.aC f.L av (λy=>(l.reverse.lookup y).or (m y))->News f.aC f.L av aj->Q () {s with heap:=av,toks:=bo})->
  aO (aR c.prog c.w) f.A (assignInOrder (l.map λq=>bindName f.env q.1) (l.map (·.2))) Q E s:=by
 intro l
 induction l with
 |nil=>
  intro m aj s Q _ F ak h
  exact Hi (h s.heap s.toks (by simpa using F) ak)
 |cons q l G=>
  intro m aj s Q B F ak h
  rw[d4,d4]
  refine Ah (wpAny_bindName (v5 (m:=m) (hx.loc ah (B q (.head _))) (ah.locals▸F.ns) (λav C hs=>?_) (by rw[ah.kind];rfl)))
  rw[ah.locals]at C hs
  refine G (λq D=>B q (.tail _ D)) (F.set C hs) (ak.set hs) λH bo I J=>h H bo ?_ J
  have e:(λy=>((q::l).reverse.lookup y).or (m y))=λy=>(l.reverse.lookup y).or (if y=q.1 then some q.2 else m y):=by
   funext y
   rw[Ac,List.lookup_append]
   cases D:l.reverse.lookup y with
   |some v=>rfl
   |none=>
    obtain⟨a,b⟩:=q
    rw[Option.none_or,Option.none_or,hP,List.lookup_nil]
    dsimp only
    by_cases e:y=a
    ·rw[show(y==a)=true from beq_iff_eq.mpr e,if_pos e];rfl
    ·rw[show(y==a)=false from beq_eq_false_iff_ne.mpr e,if_neg e];rfl
  rw[e];exact I
def tV (loc:Loc):List Nat->List V->Loc
 |x::ns,v::ai=>tV (up loc x v) ns ai
 |_,_=>loc
def Ks {aj:bc}:∀(ns:List aI) (xs:List V) (ai:List am) {loc:Loc} {m:aI->Option am},ns.Nodup->(∀y∈ns,bf y=true/\f.sc.names.lookup y=some .local)->All2 (aE p) xs ai->ns.length=xs.length->db f p loc m->db f p (tV loc (ns.map aG) xs) (λy=>((ns.zip ai).lookup y).or (m y)):=by
 intro ns
 induction ns with
 |nil=>
  intro xs ai loc m _ _ A e h
  cases xs with
  |nil=>cases A;simpa [tV]using h
  |cons _ _=>cases e
 |cons n ns C=>
  intro xs ai loc m a_ B A e h
  cases xs with
  |nil=>cases e
  |cons x xs=>
  cases A with
  |@cons _ v _ ai A D=>
  rw[g7]at a_
  have:=C xs ai a_.2 (λy E=>B y (.tail _ E)) D (qO e) (h.set (B n (.head _)).1 (B n (.head _)).2 A)
  clear B e
  have q:(λy=>(((n::ns).zip (v::ai)).lookup y).or (m y))=λy=>((ns.zip ai).lookup y).or (if y=n then some v else m y):=by
   clear this
   funext y
   rw[GV,hP]
   by_cases e:y=n
   ·subst e
    have F:(ns.zip ai).lookup y=none:=by
     rw[List.lookup_eq_none_iff]
     intro z G
     have:=(List.of_mem_zip G).1
     exact bne_iff_ne.mpr λq=>a_.1 (q▸this)
    rw[F];simp
   ·have:(y==n)=false:=beq_eq_false_iff_ne.mpr e
    simp[e,this]
  rw[q];exact this
def tW:aM->Option aI
 |.Name id _=>some id
 |_=>none
set_option tactic.hygienic true in
def hB.names {l:Nat}:∀{D:List iM} {cn:List aM} {ns:List aI},hB c aw f D cn->cn.filterMap (λt=>match t with|.Name id pos=>if(f.env.kindOf id==some .local&&pos.line==l)=true then some id else none|_=>none)=ns->ns.length=cn.length->
  (∀id,f.env.kindOf id=some .local->f.sc.names.lookup id=some .cell->False)->D=ns.map (λy=>iM.n (aG y))/\(∀y∈ns,bf y=true/\f.sc.names.lookup y=some .local)/\ns=cn.filterMap tW:=by
 intro D cn ns bj
 induction bj generalizing ns with
 |nil=>
  intro A _ _
  subst A
  exact⟨rfl,(λy C=>nomatch C),rfl⟩
 |@cons tg t D cn G I H=>
  intro A B F
  have eM:=List.length_filterMap_le (λt=>match t with|.Name id pos=>if(f.env.kindOf id==some .local&&pos.line==l)=true then some id else none|_=>none) cn
  cases G with
  |n k8 C=>
   rename_i y pos
   rw[qW]at A
   dsimp only at A
   by_cases q:(f.env.kindOf y==some .local&&pos.line==l)=true
   ·rw[if_pos q]at A
    clear q
    subst A
    obtain⟨i1,i2,i3⟩:=H rfl (by simpa using B) F
    clear B
    refine⟨by rw[d4,<-i1],λz E=>?_,by rw[qW];exact congrArg _ i3⟩
    rcases bJ.mp E with rfl|E
    ·exact⟨k8,C⟩
    ·exact i2 z E
   ·rw[if_neg q]at A
    dsimp only at A
    rw[<-A,nY]at B
    exact(Hk _ (c5 (gz B.symm) eM)).elim
  |c k8 C=>
   rename_i y pos
   rw[qW]at A
   dsimp only at A
   have q:¬(f.env.kindOf y==some .local&&pos.line==l)=true:=λq=>by
    rw[ed]at q
    exact F y (beq_iff_eq.mp q.1) C
   rw[if_neg q]at A
   dsimp only at A
   rw[<-A,nY]at B
   exact(Hk _ (c5 (gz B.symm) eM)).elim
  |a J k8 he=>
   rw[qW]at A
   dsimp only at A
   rw[<-A,nY]at B
   exact(Hk _ (c5 (gz B.symm) eM)).elim
def rH (dz:aM):Bool:=match dz with
 |.Tuple ai _ _=>ai.all (foldedForSure 8)||!(ai.all (constantsAlone 8))
 |_=>true
def T9 {bd:Sort u} {c:Prop} [d:Decidable c] {a b:bd} {P:bd->Prop} (ae:c->P a) (ag:¬c->P b):P (if c then a else b):=by
 cases d with
 |isTrue h=>exact ae h
 |isFalse h=>exact ag h
def T8 (cn:List aM) (env:cI) (X:Sem (Option (List aI))):Prop:=X=pure none∨
  ∃names l,X=pure (some names)/\cn.filterMap (λt=>match t with|.Name id pos=>if(env.kindOf id==some .local&&pos.line==l)=true then some id else none|_=>none)=names/\names.length=cn.length
def Kt {cn:List aM} {k:Nat} {fI:bO} {dz:aM} (env:cI) (h:rH dz=true):T8 cn env (swappedStores [.Tuple cn k fI] dz env):=by
 cases dz with
 |Tuple ai cx aW=>
  refine T9 (P:=T8 cn env) (λZ=>.inl rfl) λZ=>T9 (P:=T8 cn env) (λZ=>.inl rfl) λZ=>T9 (P:=T8 cn env) (λZ=>.inl rfl) λax=>T9 (P:=T8 cn env) (λZ=>.inl rfl) λaS=>?_
  have h:(ai.all (foldedForSure 8)||!(ai.all (constantsAlone 8)))=true:=h
  rw[Bool.eq_false_iff.mpr aS,Bool.false_or]at h
  have bA:ai.all (constantsAlone 8)=false:=by simpa using h
  rw[bA]
  refine .inr ⟨_,(cn.head?.map (·.pos.line)).getD 0,rfl,?_,?_⟩
  ·congr 1
  ·simp only[s0,bne_iff_ne,ne_eq,not_or,Classical.not_not]at ax
   exact ax.1
 |_=>exact .inl rfl
def C4 {k:aA->Loc->Bool} {au:ef}:∀(ns:List aI) (xs:List V) (ab:aA) (loc:Loc),ns.length=xs.length->oo (ns.map λy=>iM.n (aG y)) xs ab loc k au=k ab (tV loc (ns.map aG) xs)
 |[],[],_,_,_=>rfl
 |[],_::_,_,_,e=>nomatch e
 |_::_,[],_,_,e=>nomatch e
 |n::ns,x::xs,ab,loc,e=>C4 ns xs ab (up loc (aG n) x) (qO e)
def hB.len:∀{A:List iM} {cn:List aM},hB c aw f A cn->A.length=cn.length:=by
 intro A cn h
 induction h with
 |nil=>rfl
 |cons _ _ B=>exact congrArg bS B
def xg (A:List iM) (e:aT):bV:=λab loc a2 au=>e ab loc (λv ab=>cz v λZ aB=>ic (bn ab aB) λxs=>bk false (oo A xs ab loc (λab loc=>a2 .next ab loc) au) (aU xs.length A.length)) au
def Ku (ah:aZ c f) {cn:List aM} {G:List iM} {dz:aM} {aV:aT} {k:Nat} {fI pos:bO} (I:hB c aw f G cn) (he:a8 c aw aV f dz) (Y:rH dz=true) (a:(cn.filterMap tW).Nodup):dK c aw (xg G aV) f (.Assign [.Tuple cn k fI] dz pos):=λab loc a2 au p s E h S R T=>by
 have post:∀(v:am) (A:a9),cb c f p loc (λv ab=>cz v λZ aB=>ic (bn ab aB) λxs=>bk (motive:=λZ=>Bool) false (oo G xs ab loc (λab loc=>a2 .next ab loc) au) (aU xs.length G.length)) v A->
   ∃bt bw xs ai t,p.bN bt/\v=.ref t/\ba c f bt bw loc A/\A.heap.IsTuple t (vV ai)/\All2 (aE bt) xs ai/\xs.length=G.length/\oo G xs bw loc (λab loc=>a2 .next ab loc) au=true:=by
  intro v A ⟨bt,bw,u,J,b,B,d⟩
  obtain⟨i,aB,rfl,e⟩:=cJ' d
  obtain⟨xs,g,C⟩:=m8' e
  obtain⟨af,rfl,rfl⟩:=b
  obtain⟨m,aj,F,ak,H,U⟩:=B.ex
  dsimp only[bP]at g
  obtain⟨ai,l1,D⟩:=aQ.tup ak H af g
  cases M:aU xs.length G.length with
  |false=>rw[M]at C;cases C
  |true=>rw[M]at C;exact⟨bt,bw,xs,ai,_,J,rfl,B,l1,D,b3 M,C⟩
 have V:=he ab loc _ au p s E h S R T
 rcases Kt (cn:=cn) (k:=k) (fI:=fI) (dz:=dz) f.env Y with N|⟨names,l,N,j,o⟩
 ·refine Assign_Tuple (b_ V (λv A K=>?_) λZ Z h=>h) (C0 (es:=cn) (k:=k) (q:=fI) (l:=pos.line) (env:=f.env)) N
  obtain⟨bt,bw,xs,ai,t,J,rfl,B,l1,D,O,C⟩:=post v A K,K
  have r:(v6 cn f.env).length=(vV ai).size:=by rw[I.each];simp;rw[<-I.len,<-O,D.len]
  refine wpAny_assign_Tuple ah.cj l1 r (by rw[I.each];simp) λav P=>?_
  rw[I.each,Hl]
  refine b_ (Kq ah I C (B.om (bo:=A.toks) (xb P)) D (aw.up J R) T) (λZ aq w=>?_) λZ Z h=>h
  exact(jp.next w).up J
 ·have x:∀id,f.env.kindOf id=some .local->f.sc.names.lookup id=some .cell->False:=λid ae ag=>by
   have:=ah.em id;rw[ag]at this
   rw[show f.env.kindOf id=some .cell from this]at ae;cases ae
  obtain⟨aK,aW,bH⟩:=hB.names (l:=l) I j o x
  have a_:names.Nodup:=by rw[bH];exact a
  refine Assign_Tuple_swapped (names:=names) (b_ V (λv A K=>?_) λZ Z h=>h) (C0 (es:=cn) (k:=k) (q:=fI) (l:=pos.line) (env:=f.env)) N
  obtain⟨bt,bw,xs,ai,t,J,rfl,B,l1,D,O,C⟩:=post v A K,K
  have L:names.length=xs.length:=by rw[O,aK,pk]
  have aa:names.length=(vV ai).size:=by rw[G9,<-D.len];exact L
  rw[aa]
  refine wpAny_unpackItems_tuple ah.cj l1 λav P=>?_
  have al:=B.om (bo:=A.toks) (xb P)
  obtain⟨m,aj,F,ak,H,U⟩:=al.ex
  have W:(names.zip ai).map (·.1)=names:=List.map_fst_zip (by rw[L,D.len];exact eh _)
  have an:(names.zip ai).map (·.2)=ai:=List.map_snd_zip (by rw[L,D.len];exact eh _)
  have st:=Kr (E:=E) (Q:=λZ=>le c f p a2 .next) (s:={A with heap:=av,toks:=A.toks}) ah (names.zip ai).reverse (m:=m) (aj:=aj) (λq ao=>(aW q.1 (by
   have:=kg (f:=lN) (List.mem_reverse.mp ao)
   rw[W]at this;exact this)).2) F ak (λar bo X ap=>?_)
  ·rw[Hm,Hm,an]at st
   rw[show(names.zip ai).map (λq=>bindName f.env q.1)=names.map (λn=>bindName f.env n)from(Hl (f:=lN) (g:=λn=>bindName f.env n) (l:=names.zip ai)).symm.trans (by rw[W])]at st
   rw[Hm]
   exact st
  ·rw[List.reverse_reverse]at X
   rw[aK,C4 names xs bw loc L]at C
   exact⟨bt,bw,_,Fl.next,J,rfl,⟨⟨_,aj,X,ap,H,Ks (aj:=aj) names xs ai a_ aW D L U⟩,B.gens,B.os,B.z,B.n,B.y⟩,C⟩
end
end
section
set_option backward.match.sparseCases true
section
variable {prog:ew} {d it v:a7} {es:List cu} {az:Nat}
def C5 {Q:am->a9->Prop} (hd:(d==iY)=false) (k8:s.heap.get? d=some (dd es az))
  (B:Q (.ref s.heap.objs.size) {s with heap:=s.heap.push {cls:=.type "dict_keyiterator",data:=.fields #[.ref d,.int 0 0,.int es.length 0,.int az 0]}}):aO (aR prog w) A (pyIter (.ref d)) Q E s:=by
 have bj:s.TypeIs (.ref d) "dict":=⟨_,k8,rfl⟩
 refine Hn bj TQ (mV TQ bj PySem.F.entry_dict_iter ?_ (PySem.F.args_dict_iter_1 _))
 unfold ge.«dict.__iter__»
 refine aP ?_
 unfold ge.Dict.dictSlotNone
 refine aP (sS bj ?_)
 show aO _ _ (pure (fq d)) _ _ s
 refine br ?_
 show aO _ _ (sX d>>=_) _ _ s
 unfold sX
 rw[if_neg (by rw[hd];exact nW)]
 refine aP (br (aP (s2 k8 rfl (aP (s3 k8 rfl ?_)))))
 refine aP (nX (br ⟨_,rfl,"dict_keyiterator",_,⟨_,k6 _ rfl,rfl⟩,v7.lookup,?_⟩))
 simpa [ee]using B
def C6 {Q:am->a9->Prop} (B:s.heap.IsValuesView v d) (k8:s.heap.get? d=some (dd es az))
  (C:Q (.ref s.heap.objs.size) {s with heap:=s.heap.push {cls:=.type "dict_valueiterator",data:=.fields #[.ref d,.int 0 0,.int es.length 0,.int az 0]}}):aO (aR prog w) A (pyIter (.ref v)) Q E s:=by
 obtain⟨I,D,J,G⟩:=id B
 refine Hn B.typeIs TR (mV TR B.typeIs PySem.F.entry_dict_values_iter ?_ (PySem.F.args_dict_values_iter_1 _))
 unfold ge.«dict_values.__iter__»
 refine aP (br (aP ?_))
 unfold ge.Dict_items.dictOf
 refine aP (s4 D G (x:=.ref d) rfl (br ?_))
 refine aP ?_
 unfold ge.Dict_items.newIterator
 refine aP (s2 k8 rfl (aP (s3 k8 rfl ?_)))
 have H:ge.Dict_items.ownsTuple "dict_valueiterator"=false:=by decide
 simp only[H,Bool.false_eq_true,if_false]
 refine nX (br ⟨_,rfl,"dict_valueiterator",_,⟨_,k6 _ rfl,rfl⟩,v8.lookup,?_⟩)
 simpa [ee]using C
def Kv {e:cu} {Q:Option am->a9->Prop} (B:s.heap.IsKeyIter it d i es.length az) (k8:s.heap.get? d=some (dd es az)) (D:es[i]?=some e)
  (G:∀av,av.IsKeyIter it d (i+1) es.length az->k2 it s.heap av->Q (some e.key) {s with heap:=av}):aO (aR prog w) A (jb (.ref it)) Q E s:=by
 obtain⟨J,C,H,hd⟩:=id B
 unfold jb
 refine aP (Aj (sR (name:=ec "__next__") B.typeIs v7
  (mV v7 B.typeIs TS ?_ (TT _))))
 refine aP (br (aP (aP ?_)))
 first|refine aP (Ak B.typeIs (br ?_))|refine aP (Al B.typeIs (br ?_))
 refine aP (Am C hd ?_)
 show aO _ _ (if(fq d==hu)=true then _ else _) _ _ s
 rw[if_neg (show¬((fq d==hu)=true)from nW)]
 refine aP (br (aP (s2 k8 rfl ?_)))
 rw[if_neg (λh=>pl ((bne_self_eq_false' (a:=_)).symm.trans h))]
 refine aP (br (aP (s3 k8 rfl ?_)))
 rw[if_neg (λh=>pl ((bne_self_eq_false' (a:=_)).symm.trans h))]
 refine br ?_
 obtain⟨K,rfl⟩:=vY.mp D
 have I:es.toArray[(i:Int).toNat]?=some es[i]:=(An ..).trans D
 dsimp only
 rw[if_neg (show¬((i:Int)<0)from sU.mpr (sV i)),I]
 refine aP ?_
 first|refine aP (Ak B.typeIs (br ?_))|refine aP (Al B.typeIs (br ?_))
 refine aP (wpAny_isOneOf_keyiter B.typeIs ?_)
 show aO _ _ (v9 (.ref it) 1 (ee ((i:Int)+1))>>=_) _ _ s
 refine aP (qX C hd (by simp) ?_)
 have F:(s.heap.update it (kk (·.setIfInBounds 1 (ee ((i:Int)+1))))).IsKeyIter it d (i+1) es.length az:=
  ⟨_,ki _ C (Ao (qY hd _)),(Ho ..).trans H,by rw[qY hd];simp[ee]⟩
 refine aP (gB ?_)
 refine aP (wpAny_isOneOf_keyiter (s:={s with heap:=s.heap.update it (kk (·.setIfInBounds 1 (ee ((i:Int)+1))))}) F.typeIs ?_)
 show aO _ _ (pure es[i].key) _ _ _
 exact br (br ⟨_,rfl,br (G _ F (k3 ..))⟩)
def Kw {e:cu} {Q:Option am->a9->Prop} (B:s.heap.IsValIter it d i es.length az) (k8:s.heap.get? d=some (dd es az)) (F:es[i]?=some e)
  (G:∀av,av.IsValIter it d (i+1) es.length az->k2 it s.heap av->Q (some e.val) {s with heap:=av}):aO (aR prog w) A (jb (.ref it)) Q E s:=by
 obtain⟨J,C,H,hd⟩:=id B
 unfold jb
 refine aP (Aj (sR (name:=ec "__next__") B.typeIs v8
  (mV v8 B.typeIs TU ?_ (TV _))))
 refine aP (br (aP (aP ?_)))
 first|refine aP (Ap B.typeIs (br ?_))|refine aP (Aq B.typeIs (br ?_))
 refine aP (Am C hd ?_)
 show aO _ _ (if(fq d==hu)=true then _ else _) _ _ s
 rw[if_neg (show¬((fq d==hu)=true)from nW)]
 refine aP (br (aP (s2 k8 rfl ?_)))
 rw[if_neg (λh=>pl ((bne_self_eq_false' (a:=_)).symm.trans h))]
 refine aP (br (aP (s3 k8 rfl ?_)))
 rw[if_neg (λh=>pl ((bne_self_eq_false' (a:=_)).symm.trans h))]
 refine br ?_
 obtain⟨K,rfl⟩:=vY.mp F
 have I:es.toArray[(i:Int).toNat]?=some es[i]:=(An ..).trans F
 dsimp only
 rw[if_neg (show¬((i:Int)<0)from sU.mpr (sV i)),I]
 refine aP ?_
 first|refine aP (Ap B.typeIs (br ?_))|refine aP (Aq B.typeIs (br ?_))
 refine aP (Hp B.typeIs ?_)
 show aO _ _ (v9 (.ref it) 1 (ee ((i:Int)+1))>>=_) _ _ s
 refine aP (qX C hd (by simp) ?_)
 have D:(s.heap.update it (kk (·.setIfInBounds 1 (ee ((i:Int)+1))))).IsValIter it d (i+1) es.length az:=
  ⟨_,ki _ C (Ao (qY hd _)),(Ho ..).trans H,by rw[qY hd];simp[ee]⟩
 refine aP (gB ?_)
 refine aP (Hp (s:={s with heap:=s.heap.update it (kk (·.setIfInBounds 1 (ee ((i:Int)+1))))}) D.typeIs ?_)
 refine aP (Hp (s:={s with heap:=s.heap.update it (kk (·.setIfInBounds 1 (ee ((i:Int)+1))))}) D.typeIs ?_)
 show aO _ _ (pure es[i].val) _ _ _
 exact br (br ⟨_,rfl,br (G _ D (k3 ..))⟩)
def Kx {Q:Option am->a9->Prop} (cj:A.handled=none) (B:s.heap.IsKeyIter it d i es.length az) (k8:s.heap.get? d=some (dd es az)) (D:es[i]?=none)
  (F:∀av,sO it s.heap av->Q none {s with heap:=av}):aO (aR prog w) A (jb (.ref it)) Q E s:=by
 obtain⟨H,C,I,hd⟩:=id B
 unfold jb
 refine aP (Aj (sR (name:=ec "__next__") B.typeIs v7
  (mV v7 B.typeIs TS ?_ (TT _))))
 refine aP (br (aP (aP ?_)))
 first|refine aP (Ak B.typeIs (br ?_))|refine aP (Al B.typeIs (br ?_))
 refine aP (Am C hd ?_)
 show aO _ _ (if(fq d==hu)=true then _ else _) _ _ s
 rw[if_neg (show¬((fq d==hu)=true)from nW)]
 refine aP (br (aP (s2 k8 rfl ?_)))
 rw[if_neg (λh=>pl ((bne_self_eq_false' (a:=_)).symm.trans h))]
 refine aP (br (aP (s3 k8 rfl ?_)))
 rw[if_neg (λh=>pl ((bne_self_eq_false' (a:=_)).symm.trans h))]
 refine br ?_
 have G:es.toArray[(i:Int).toNat]?=none:=(An ..).trans D
 dsimp only
 rw[if_neg (show¬((i:Int)<0)from sU.mpr (sV i)),G]
 refine aP ?_
 first|refine aP (Ak B.typeIs (br ?_))|refine aP (Al B.typeIs (br ?_))
 show aO _ _ (v9 (.ref it) 0 .none>>=_) _ _ s
 refine aP (qX C hd (by simp) ?_)
 show aO _ _ (newExc (.type "StopIteration") []>>=_) _ _ _
 refine aP ?_
 unfold newExc newTuple
 refine aP (nX ?_ (by size_fits))
 refine aP (m:=Ar _ _) (wpAny_of_eq (a:=hu) (by first|rfl|(simp only[Ar];rfl)) ?_)
 refine nX ?_ (by size_fits)
 unfold raiseNew
 refine aP (wpAny_handled ?_)
 rw[show A.in1.handled=none from cj]
 refine aP (br (wpAny_throw ?_))
 refine aP (wpAny_isInstance (T:="StopIteration") (b:=true) ⟨_,k6 _ rfl,rfl⟩ isSubtype_stop ?_)
 exact br (F _ (((k3 ..).extBut.push _).push _))
def Ky {Q:Option am->a9->Prop} (cj:A.handled=none) (B:s.heap.IsValIter it d i es.length az) (k8:s.heap.get? d=some (dd es az)) (D:es[i]?=none)
  (F:∀av,sO it s.heap av->Q none {s with heap:=av}):aO (aR prog w) A (jb (.ref it)) Q E s:=by
 obtain⟨H,C,I,hd⟩:=id B
 unfold jb
 refine aP (Aj (sR (name:=ec "__next__") B.typeIs v8
  (mV v8 B.typeIs TU ?_ (TV _))))
 refine aP (br (aP (aP ?_)))
 first|refine aP (Ap B.typeIs (br ?_))|refine aP (Aq B.typeIs (br ?_))
 refine aP (Am C hd ?_)
 show aO _ _ (if(fq d==hu)=true then _ else _) _ _ s
 rw[if_neg (show¬((fq d==hu)=true)from nW)]
 refine aP (br (aP (s2 k8 rfl ?_)))
 rw[if_neg (λh=>pl ((bne_self_eq_false' (a:=_)).symm.trans h))]
 refine aP (br (aP (s3 k8 rfl ?_)))
 rw[if_neg (λh=>pl ((bne_self_eq_false' (a:=_)).symm.trans h))]
 refine br ?_
 have G:es.toArray[(i:Int).toNat]?=none:=(An ..).trans D
 dsimp only
 rw[if_neg (show¬((i:Int)<0)from sU.mpr (sV i)),G]
 refine aP ?_
 first|refine aP (Ap B.typeIs (br ?_))|refine aP (Aq B.typeIs (br ?_))
 show aO _ _ (v9 (.ref it) 0 .none>>=_) _ _ s
 refine aP (qX C hd (by simp) ?_)
 show aO _ _ (newExc (.type "StopIteration") []>>=_) _ _ _
 refine aP ?_
 unfold newExc newTuple
 refine aP (nX ?_ (by size_fits))
 refine aP (m:=Ar _ _) (wpAny_of_eq (a:=hu) (by first|rfl|(simp only[Ar];rfl)) ?_)
 refine nX ?_ (by size_fits)
 unfold raiseNew
 refine aP (wpAny_handled ?_)
 rw[show A.in1.handled=none from cj]
 refine aP (br (wpAny_throw ?_))
 refine aP (wpAny_isInstance (T:="StopIteration") (b:=true) ⟨_,k6 _ rfl,rfl⟩ isSubtype_stop ?_)
 exact br (F _ (((k3 ..).extBut.push _).push _))
def Kz {t:aM} {o:bY} {n:String} {ai:Array am} {x:am} {Q:Unit->a9->Prop} (k8:s.heap.get? it=some o) (C:o.cls=.type n) (hd:o.data=.fields ai)
  (D:(["enumerate","zip","dict_itemiterator","dict_reverseitemiterator","odict_iterator","itertools.zip_longest","itertools.pairwise"].contains n)=false) (B:Q () s):aO (aR prog w) A (Hq t (.ref it) x) Q E s:=by
 have key:∀a,aO (aR prog w) A (do
   let o<-load it
   match o.cls,o.data with
   |.type n,.fields ai=>
    if ["enumerate","zip","dict_itemiterator","dict_reverseitemiterator","odict_iterator","itertools.zip_longest","itertools.pairwise"].contains n&&ai[0]?==some (ee a)then
     rule "for.unpacks-the-owned-tuple"
     updateField it 0 .none
   |_,_=>pure ()) Q E s:=λa=>by
  refine aP (wpAny_load k8 ?_)
  rw[C,hd]
  dsimp only
  rw[D,zX,if_neg (by simp)]
  exact br B
 cases t<;>first|exact br B|skip
 all_goals
  cases x<;>first|exact br B|exact key _
end
end
def xh (o:Option O) (B:Nat->List (Nat×V)->Bool) (C:Nat->List ((V×List V)×V)->Bool) (A:List V->Bool) (D:List V->Bool) (E:V->Bool) (F:V->Bool) (G:V->Nat->Bool) (H:Int->Int->Bool):Bool:=cq false (λo=>O.rec a1 B C A D aL aL a1 a1 cQ E cQ F cQ G H a1 false aL false aL a1 A o) o
def KA' {o:Option O} {C:Nat->List (Nat×V)->Bool} {D:Nat->List ((V×List V)×V)->Bool} {E:List V->Bool} {F:List V->Bool} {G:V->Bool} {H:V->Bool} {I:V->Nat->Bool} {J:Int->Int->Bool} (h:xh o C D E F G H I J=true):(∃A B,o=some (.dict A B)/\C A B=true)∨(∃A B,o=some (.tdict A B)/\D A B=true)∨(∃A,(o=some (.list A)∨o=some (.rlist A))/\E A=true)∨(∃A,o=some (.tuple A)/\F A=true)∨(∃A,o=some (.dis A)/\G A=true)∨(∃A,o=some (.dvs A)/\H A=true)∨(∃A B,o=some (.enm A B)/\I A B=true)∨(∃A B,o=some (.rng A B)/\J A B=true):=by
 cases o with
 |none=>cases h
 |some o=>
  cases o with
  |dict _ _=>exact .inl ⟨_,_,rfl,h⟩
  |tdict _ _=>exact .inr (.inl ⟨_,_,rfl,h⟩)
  |list _=>exact .inr (.inr (.inl ⟨_,.inl rfl,h⟩))
  |rlist _=>exact .inr (.inr (.inl ⟨_,.inr rfl,h⟩))
  |tuple _=>exact .inr (.inr (.inr (.inl ⟨_,rfl,h⟩)))
  |dis _=>exact .inr (.inr (.inr (.inr (.inl ⟨_,rfl,h⟩))))
  |dvs _=>exact .inr (.inr (.inr (.inr (.inr (.inl ⟨_,rfl,h⟩)))))
  |enm _ _=>exact .inr (.inr (.inr (.inr (.inr (.inr (.inl ⟨_,_,rfl,h⟩))))))
  |rng _ _=>exact .inr (.inr (.inr (.inr (.inr (.inr (.inr (⟨_,_,rfl,h⟩)))))))
  |_=>cases h
def C7 (o:Option O) (A:V->Nat->Bool) (B:V->Nat->Bool) (C:V->Nat->Nat->Nat->Bool) (D:V->Nat->Nat->Nat->Bool) (E:V->Nat->Nat->Nat->Bool) (F:V->Nat->Bool) (G:Int->Int->Bool) (H:Bool):Bool:=cq false (λo=>O.rec a1 a1 a1 aL aL aL aL A B C aL D aL E F a1 G H aL false aL a1 aL o) o
def C8' {o:Option O} {E:V->Nat->Bool} {F:V->Nat->Bool} {G:V->Nat->Nat->Nat->Bool} {H:V->Nat->Nat->Nat->Bool} {I:V->Nat->Nat->Nat->Bool} {J:V->Nat->Bool} {K:Int->Int->Bool} {L:Bool} (h:C7 o E F G H I J K L=true):(∃A B,o=some (.lit A B)/\E A B=true)∨(∃A B,o=some (.tit A B)/\F A B=true)∨(∃A B C D,o=some (.dit A B C D)/\G A B C D=true)∨(∃A B C D,o=some (.dii A B C D)/\H A B C D=true)∨(∃A B C D,o=some (.dvi A B C D)/\I A B C D=true)∨(∃A B,o=some (.enm A B)/\J A B=true)∨(∃A B,o=some (.rit A B)/\K A B=true)∨(o=some .sit/\L=true):=by
 cases o with
 |none=>cases h
 |some o=>
  cases o with
  |lit _ _=>exact .inl ⟨_,_,rfl,h⟩
  |tit _ _=>exact .inr (.inl ⟨_,_,rfl,h⟩)
  |dit _ _ _ _=>exact .inr (.inr (.inl ⟨_,_,_,_,rfl,h⟩))
  |dii _ _ _ _=>exact .inr (.inr (.inr (.inl ⟨_,_,_,_,rfl,h⟩)))
  |dvi _ _ _ _=>exact .inr (.inr (.inr (.inr (.inl ⟨_,_,_,_,rfl,h⟩))))
  |enm _ _=>exact .inr (.inr (.inr (.inr (.inr (.inl ⟨_,_,rfl,h⟩)))))
  |rit _ _=>exact .inr (.inr (.inr (.inr (.inr (.inr (.inl ⟨_,_,rfl,h⟩))))))
  |sit=>exact .inr (.inr (.inr (.inr (.inr (.inr (.inr (⟨rfl,h⟩)))))))
  |_=>cases h
def C9 (o:Option O) (A:V->Nat->Bool):Bool:=cq false (λo=>O.rec a1 a1 a1 aL aL aL aL A a1 cQ aL cQ aL cQ a1 a1 a1 false aL false aL a1 aL o) o
def KB' {o:Option O} {A:V->Nat->Bool} (h:C9 o A=true):(∃B C,o=some (.lit B C)/\A B C=true):=by
 cases o with
 |none=>cases h
 |some o=>
  cases o with
  |lit _ _=>exact⟨_,_,rfl,h⟩
  |_=>cases h
section
variable {loc:Loc}
def tX (i:Int) (k:Nat->Bool):Bool:=iB k aL i
def xi' {ar:Prop} {i:Int} {k:Nat->Bool} (h:tX i k=true) (A:∀(n:Nat),i=bl n->k n=true->ar):ar:=by
 cases i with
 |ofNat n=>exact A n rfl h
 |negSucc n=>cases h
def oq (n:Nat) (k:Bool):Bool:=bk false k (dc n 1000)
def rI' {ar:Prop} {k:Bool} (h:oq n k=true) (B:n<1000->k=true->ar):ar:=by
 unfold oq at h
 cases A:dc n 1000 with
 |false=>rw[A]at h;cases h
 |true=>rw[A]at h;exact B (ce A) h
def ij (be:Nat->Option O) (v:V) (ab:aA) (k:aY):Bool:=V.rec false aL aL aL
 (λa=>bk false (mk .sit ab k) (aU a 0))
 (λZ aB=>xh (bn ab aB) (λaz ao=>oq ao.length (mk (.dit v 0 ao.length az) ab k)) (λaz es=>oq es.length (mk (.dit v 0 es.length az) ab k)) (λZ=>mk (.lit v 0) ab k) (λZ=>mk (.tit v 0) ab k)
  (λd=>cz d λZ A=>jg (bn ab A) λaz ao=>oq ao.length (mk (.dii d 0 ao.length az) ab k))
  (λd=>cz d λZ A=>gY (bn ab A) (λaz ao=>oq ao.length (mk (.dvi d 0 ao.length az) ab k)) (λaz es=>oq es.length (mk (.dvi d 0 es.length az) ab k)) (λZ=>false) (λZ=>false))
  (λZ Z=>k v ab) (λa b=>tX a λa=>tX b λb=>aN (aU a 0) (aN (dc b 100000) (mk (.rit 0 (bl b)) ab k))))
 (λg=>ic (be g) λZ=>mk (.tit v 0) ab k) (λZ Z=>false) v
def KC {x:aI} (h:bf x=true) (e:aG x=0):x=ec "":=gW h (by decide+kernel) (e.trans (by decide+kernel:(0:Nat)=aG (ec "")))
def KD (n:Nat) (h:n<100000):TW 0 (n:Int) 1=true/\Hr 0 (n:Int) 1=n:=by
 have e:Hr 0 (n:Int) 1=n:=by rw[rangeSize_nat];lia
 refine⟨?_,e⟩
 unfold TW
 rw[e]
 unfold ge.Range.rangeFitsLong
 simp
 lia
def pW {be:Nat->Option O} (U:go c be) (ah:aZ c f) {val:am} {k:aY} (h:ij be v ab k=true) (S:ba c f p ab loc s) (M:aE p v val):aO (aR c.prog c.w) f.A (pyIter val) (cb c f p loc k) E s:=by
 obtain⟨m,aj,F,ak,H,G⟩:=S.ex
 cases v with
 |str a=>
  replace h:bk (motive:=λZ=>Bool) false (mk .sit ab k) (aU a 0)=true:=h
  cases K:aU a 0 with
  |false=>rw[K]at h;cases h
  |true=>
   rw[K]at h
   have:=b3 K
   clear K
   subst this
   obtain⟨x,t,rfl,T,ex⟩:=M
   have:=KC T ex
   clear T ex
   subst this
   exact wpAny_pyIter_ascii (by decide+kernel) (fH S H G h (F.push _) (aH F ak _) (fw ak) λa3 hm=>⟨_,_,by rw[fj];exact hm,rfl,rfl⟩)
 |own i aB=>
  have I:=M
  obtain⟨af,rfl,rfl⟩:=M
  have e1:=λy=>p.eZ y y
  rcases KA' (show xh (bn ab (key i)) _ _ _ _ _ _ _ _=true from h)with⟨az,ao,g,ae⟩|⟨az,es,g,ae⟩|⟨xs,g,ae⟩|⟨xs,g,ae⟩|⟨d,g,ae⟩|⟨d,g,ae⟩|⟨it,n,g,ae⟩|⟨a,b,g,ae⟩
  ·dsimp only[bP]at g
   obtain⟨N,C⟩:=rI' ae
   obtain⟨a_,P,B,D⟩:=H.ent i _ af g
   refine C5 (g_ ah ak B) (ak.get B) ?_
   refine fH S H G C (F.push _) (aH F ak _) (fw ak) λa3 hm=>⟨p.a i,_,I.ext (e1 _),by rw[fj];exact hm,rfl,?_⟩
   rw[m4 (e1 _) I,D.len];rfl
  ·dsimp only[bP]at g
   obtain⟨N,C⟩:=rI' ae
   obtain⟨P,B,D⟩:=H.ent i _ af g
   refine C5 (g_ ah ak B) (ak.get B) ?_
   refine fH S H G C (F.push _) (aH F ak _) (fw ak) λa3 hm=>⟨p.a i,_,I.ext (e1 _),by rw[fj];exact hm,rfl,?_⟩
   rw[m4 (e1 _) I,D.len];rfl
  ·dsimp only[bP]at g
   obtain⟨ai,l1,D⟩:=aQ.BZ ak H af g
   exact wpAny_pyIter_list l1 (fH S H G ae (F.push _) (aH F ak _) (fw ak) λa3 hm=>⟨p.a i,_,I.ext (e1 _),by rw[fj];exact hm,rfl,rfl⟩)
  ·dsimp only[bP]at g
   obtain⟨ai,l1,D⟩:=aQ.tup ak H af g
   exact wpAny_pyIter_tuple l1 (fH S H G ae (F.push _) (aH F ak _) (fw ak) λa3 hm=>⟨p.a i,_,I.ext (e1 _),by rw[fj];exact hm,rfl,rfl⟩)
  ·dsimp only[bP]at g
   obtain⟨j,V,rfl,ag⟩:=cJ' ae
   obtain⟨az,ao,g2,ax⟩:=lj' ag
   obtain⟨N,C⟩:=rI' ax
   obtain⟨a,L,Q⟩:=H.ent i _ af g
   clear g
   have J:=L
   obtain⟨R,rfl,e⟩:=L
   cases e
   dsimp only[bP]at g2
   obtain⟨a_,P,B,D⟩:=H.ent j _ R g2
   obtain⟨o,W,Y⟩:=D.dictAt (prog:=c.prog) a_ (ak.get B)
   refine wpAny_pyIter_items ⟨_,ak.get Q,rfl,rfl⟩ W (fH S H G C (F.push _) (aH F ak _) (fw ak) λa3 hm=>⟨p.a j,.none,.none,J.ext (e1 _),?_⟩)
   rw[fj,m4 (e1 _) J,Y.len];exact hm
  ·dsimp only[bP]at g
   obtain⟨j,V,rfl,ag⟩:=cJ' ae
   obtain⟨a,L,Q⟩:=H.ent i _ af g
   clear g
   have J:=L
   obtain⟨R,rfl,e⟩:=L
   cases e
   rcases mq' ag with⟨az,ao,g2,ax⟩|⟨az,es,g2,ax⟩|⟨xs,g2,ax⟩|⟨xs,g2,ax⟩
   ·obtain⟨N,C⟩:=rI' ax
    dsimp only[bP]at g2
    obtain⟨a_,P,B,D⟩:=H.ent j _ R g2
    refine C6 ⟨_,ak.get Q,rfl,rfl⟩ (ak.get B) (fH S H G C (F.push _) (aH F ak _) (fw ak) λa3 hm=>⟨p.a j,_,J.ext (e1 _),by rw[fj];exact hm,rfl,?_⟩)
    rw[m4 (e1 _) J,D.len];rfl
   ·obtain⟨N,C⟩:=rI' ax
    dsimp only[bP]at g2
    obtain⟨P,B,D⟩:=H.ent j _ R g2
    refine C6 ⟨_,ak.get Q,rfl,rfl⟩ (ak.get B) (fH S H G C (F.push _) (aH F ak _) (fw ak) λa3 hm=>⟨p.a j,_,J.ext (e1 _),by rw[fj];exact hm,rfl,?_⟩)
    rw[m4 (e1 _) J,D.len];rfl
   ·cases ax
   ·cases ax
  ·dsimp only[bP]at g
   obtain⟨a,q,D,B⟩:=H.ent i _ af g
   exact wpAny_pyIter_enum (ak.get B) ⟨p,ab,_,aX.bN.refl p,I,S,ae⟩
  ·dsimp only[bP]at g
   obtain⟨a,rfl,ag⟩:=xi' ae
   obtain⟨b,rfl,ax⟩:=xi' ag
   obtain⟨aS,bA⟩:=an ax
   obtain⟨cw,C⟩:=an bA
   have:=b3 aS
   clear aS
   subst this
   have K:b<100000:=ce cw
   obtain⟨t,u,w,B⟩:=H.ent i _ af g
   obtain⟨aK,aW⟩:=KD b K
   refine wpAny_pyIter_range (ak.get B) aK (fH S H G C (F.push _) (aH F ak _) (fw ak) λa3 hm=>?_)
   show((p.more _ _).a p.ay,AP 0 (bl b))∈a3
   rw[fj]
   have e:Hr (bl 0) (bl b) 1=bl b:=aW
   rw[e]at hm
   exact hm
 |gnd g=>
  cases M
  obtain⟨xs,l,C⟩:=m8' (show ic (be g) _=true from h)
  obtain⟨ai,eC,n,bs,ae,ag⟩:=U g _ l
  have l1:s.heap.IsTuple g ai.toArray:=⟨_,(ah.X.keeps F.keep) _ _ ae,rfl,n,rfl⟩
  exact wpAny_pyIter_tuple l1 (fH S H G C (F.push _) (aH F ak _) (fw ak) λa3 hm=>⟨g,_,rfl,by rw[fj];exact hm,rfl,rfl⟩)
 |_=>cases h
end
section
variable {loc:Loc}
def aQ.upd {ar:Prop} {t:T} {aj:bc} {o bC:bY} {v:O} (H:aQ K w p t aj) (af:i<p.ay) (lv:bG t i) (hm:(p.a i,o)∈aj)
  (he:∀a3,(p.a i,bC)∈a3->ch K w p a3 i v) (E:∀C ao,v≠.inst C ao) (B:∀a3,aQ K w p (T.put v (key i) t) a3->(p.a i,bC)∈a3->(∀q∈a3,q=(p.a i,bC)∨(q∈aj/\q.1≠p.a i))->(∀q∈aj,q.1≠p.a i->q∈a3)->ar):ar:=by
 obtain⟨pre,post,rfl,ae,ag⟩:=tj H.a_ hm,hm
 refine B (pre++(p.a i,bC)::post) (aQ.turn H af lv (.inl rfl) (he _ (dD _ (.head _)))) (dD _ (.head _)) (λq A=>?_) (λq A D=>?_)
 ·rcases gA.mp A with A|A
  ·exact .inr ⟨gS _ A,ae q A⟩
  ·rcases bJ.mp A with rfl|A
   ·exact .inl rfl
   ·exact .inr ⟨dD _ (.tail _ A),ag q A⟩
 ·rcases gA.mp A with A|A
  ·exact gS _ A
  ·rcases bJ.mp A with rfl|A
   ·exact absurd rfl D
   ·exact dD _ (.tail _ A)
def Fr.but {aC h av:bE} {L:a7} (F:Fr aC L h m) (A:∀b o,(b=L∨∃bC,aC.get? b=some bC)->h.get? b=some o->av.get? b=some o):Fr aC L av m:=by
 obtain⟨B,es,az,C,r⟩:=F.ns
 exact⟨⟨B,es,az,A L B (.inl rfl) C,r⟩,λb o e=>A b o (.inr ⟨o,e⟩) (F.keep b o e),F.above⟩
def KE {av:bE} {bo:Nat} {o bC tY:bY} {v u:O} {aj:bc} {k:aY} {y:a7} (S:ba c f p ab loc s) (F:Fr f.aC f.L s.heap m) (ak:News f.aC f.L s.heap aj) (H:aQ c.K c.w p ab.t aj) (J:db f p loc m)
  (af:i<p.ay) (lv:bG ab.t i) (hm:(p.a i,o)∈aj) (hs:∀b bU,b≠p.a i->s.heap.get? b=some bU->av.get? b=some bU) (k8:av.get? (p.a i)=some bC) (B:y=s.heap.objs.size) (M:av.get? y=some tY)
  (he:∀a3,(p.a i,bC)∈a3->ch c.K c.w p a3 i v) (N:∀C ao,v≠.inst C ao) (P:∀a3,(y,tY)∈a3->ch c.K c.w (p.more y y) a3 p.ay u) (h:mk u (bD (key i) v ab) k=true):
  cb c f p loc k (.ref y) {s with heap:=av,toks:=bo}:=by
 obtain⟨a3,A,Y,G,d⟩:=aQ.upd H af lv hm he N
 clear H lv
 have Q:(bD (key i) v ab).ay=ab.ay:=by clear S h A;cases ab;rfl
 clear Q
 have g:(bD (key i) v ab).bz=ab.bz:=by clear S h A;cases ab;rfl
 obtain⟨I,R⟩:=mk_eq h
 have D:=S.z.bD (key i) v
 have q:=ak _ hm
 have T:Fr f.aC f.L av m:=Fr.but F λb bU U e=>hs b bU (λz=>by
  clear e
  rcases U with rfl|⟨o2,e2⟩
  ·exact q.2.1 z.symm
  ·have:=q.2.2;rw[z]at e2;rw[this]at e2;cases e2) e
 have lt:∀q∈a3,q.1<y:=λq V=>by
  rw[B]
  rcases G q V with rfl|⟨b,_⟩
  ·exact dX (ak _ hm).1
  ·exact dX (ak q b).1
 have W:News f.aC f.L av ((y,tY)::a3):=λz E=>by
  rcases bJ.mp E with rfl|E
  ·refine⟨M,?_,?_⟩
   ·rw[B];exact lO F.ns.lt
   ·cases e:f.aC.get? y with
    |none=>rfl
    |some bU=>exact absurd (dX (F.keep _ _ e)) (by rw[B];exact nL _)
  ·rcases G z E with rfl|⟨b,X⟩
   ·exact⟨k8,q.2⟩
   ·exact⟨hs _ _ X (ak z b).1,(ak z b).2⟩
 rw[<-jS]at A
 refine⟨p.more y y,_,_,p.eZ y y,aX.ib D,⟨⟨m,_,T,W,aQ.one A D I lt (P _ (.head _)),J.ext (p.eZ y y)⟩,S.gens,S.os,D.more I y y _,S.n,S.y⟩,R⟩
def tZ (es:List ((V×List V)×V)):List V:=es.map λe=>e.1.1
def t2 (es:List ((V×List V)×V)):List V:=es.map λe=>e.2
def t3 (ao:List (Nat×V)):List V:=ao.map λe=>e.2
def step (o:Option V) (no:Bool) (cY:V->Bool):Bool:=cq no cY o
def pX (ao:List (Nat×V)):Nat->Option (Nat×V):=bW (motive:=λZ=>Nat->Option (Nat×V)) bX (λa Z A n=>gg (some a) (λm Z=>A m) n) ao
def jq (a b:Nat) (k:Bool):Bool:=bk false k (aU a b)
def kH' {ar:Prop} {a b:Nat} {k:Bool} (h:jq a b k=true) (B:a=b->k=true->ar):ar:=by
 unfold jq at h
 cases A:aU a b with
 |false=>rw[A]at h;cases h
 |true=>rw[A]at h;exact B (b3 A) h
def xj (b k:Bool):Bool:=bk false k b
def C_' {ar:Prop} {b k:Bool} (h:xj b k=true) (A:b=true->k=true->ar):ar:=by
 cases b with
 |false=>cases h
 |true=>exact A rfl h
def Db (o:Option O) (k:List V->Bool):Bool:=cq false (λo=>O.rec a1 a1 a1 k aL aL aL a1 a1 cQ aL cQ aL cQ a1 a1 a1 false aL false aL a1 k o) o
def KG' {o:Option O} {k:List V->Bool} (h:Db o k=true):∃xs,(o=some (.list xs)∨o=some (.rlist xs))/\k xs=true:=by
 cases o with
 |none=>cases h
 |some o=>cases o with
  |list xs=>exact⟨xs,.inl rfl,h⟩
  |rlist xs=>exact⟨xs,.inr rfl,h⟩
  |_=>cases h
def hC (be:Nat->Option O) (fI:Bool) (it:V) (ab:aA) (cY:V->aA->Bool) (no:aA->Bool):Bool:=cz it λZ aB=>C7 (bn ab aB)
 (λv n=>cz v λZ iL=>Db (bn ab iL) λxs=>step (dk xs n) (no (bD aB .dead ab)) λx=>cY x (bD aB (.lit v (bS n)) ab))
 (λv n=>V.rec false aL aL aL aL (λZ iL=>ic (bn ab iL) λxs=>step (dk xs n) (no (bD aB .dead ab)) λx=>cY x (bD aB (.tit v (bS n)) ab)) (λg=>ic (be g) λxs=>step (dk xs n) (no (bD aB .dead ab)) λx=>cY x (bD aB (.tit v (bS n)) ab)) a1 v)
 (λv n m az=>cz v λZ B=>gY (bn ab B) (λA ao=>jq az A (jq m ao.length (step (dk (nf ao) n) (no (bD aB .dead ab)) λx=>cY x (bD aB (.dit v (bS n) m az) ab))))
  (λA es=>jq az A (jq m es.length (step (dk (tZ es) n) (no (bD aB .dead ab)) λx=>cY x (bD aB (.dit v (bS n) m az) ab)))) (λZ=>false) (λZ=>false))
 (λv n m az=>xj fI (cz v λZ B=>jg (bn ab B) λA ao=>jq az A (jq m ao.length (cq (no (bD aB .dead ab)) (λe=>pc (λa u=>mk (.tuple [.str a,u]) (bD aB (.dii v (bS n) m az) ab) cY) e) (pX ao n)))))
 (λv n m az=>cz v λZ B=>gY (bn ab B) (λA ao=>jq az A (jq m ao.length (step (dk (t3 ao) n) (no (bD aB .dead ab)) λx=>cY x (bD aB (.dvi v (bS n) m az) ab))))
  (λA es=>jq az A (jq m es.length (step (dk (t2 es) n) (no (bD aB .dead ab)) λx=>cY x (bD aB (.dvi v (bS n) m az) ab)))) (λZ=>false) (λZ=>false))
 (λi2 n=>xj fI (cz i2 λZ fG=>C9 (bn ab fG) λl C=>jq n C (cz l λZ iL=>fv (bn ab iL) λxs=>step (dk xs n) (no (bD fG .dead ab)) λx=>mk (.tuple [.int (bl n),x]) (bD fG (.lit l (bS n)) (bD aB (.enm i2 (bS n)) ab)) cY)))
 (λa l=>tX l λl=>gg (no (bD aB .dead ab)) (λm Z=>cY (.int a) (bD aB (.rit (bM a 1) (bl m)) ab)) l)
 (no (bD aB .dead ab))
def pY {bd:Type} {t:Sem bd} {k:aY} {v:am} {Q:bd->a9->Prop} (h:aO (aR c.prog c.w) f.A t (λZ=>cb c f p loc k v) E s) (g:∀w aq aD aF x,p.bN aD->aE aD x v->ba c f aD aF loc aq->k x aF=true->Q w aq):aO (aR c.prog c.w) f.A t Q E s:=b_ h (λZ Z z=>z.casesOn λZ Z Z a b c d=>g _ _ _ _ _ a b c d) λZ Z h=>h
def pZ (c:b4) (f:bL) (p:aX) (loc:Loc) (t:aM) (C:am) (cY:V->aA->Bool) (no:aA->Bool) (f7:am->a9->Prop):Option am->a9->Prop
 |none,B=>mf c f p loc (λZ=>no) true B
 |some v,B=>aO (aR c.prog c.w) f.A (Hq t C v) (λZ=>cb c f p loc cY v) f7 B
def KH:∀{ao:List (Nat×V)} {es:List cu} {n:Nat} {x:V},cm c.w p ao es->dk (nf ao) n=some x->∃e,es[n]?=some e/\aE p x e.key:=by
 intro ao es n x h
 induction h generalizing n with
 |nil=>intro h;cases(show none=some _ from h)
 |@cons g e l es h t A=>
  intro q
  obtain⟨a,u⟩:=g
  cases n with
  |zero=>
   clear A
   cases(show some (V.str a)=some x from q)
   obtain⟨y,t,e1,e2,e3,_⟩:=h.key
   exact⟨e,rfl,⟨y,t,e1,e2,e3⟩⟩
  |succ n=>
   obtain⟨bF,i1,i2⟩:=A (n:=n) (show dk (nf l) n=some x from q)
   exact⟨bF,by simpa using i1,i2⟩
def KI:∀{ao:List (Nat×V)} {es:List cu} {n:Nat} {x:V},cm c.w p ao es->dk (t3 ao) n=some x->∃e,es[n]?=some e/\aE p x e.val:=by
 intro ao es n x h
 induction h generalizing n with
 |nil=>intro h;cases(show none=some _ from h)
 |@cons g e l es h t A=>
  intro q
  obtain⟨a,u⟩:=g
  cases n with
  |zero=>
   clear A
   cases(show some u=some x from q)
   exact⟨e,rfl,h.2⟩
  |succ n=>
   obtain⟨bF,i1,i2⟩:=A (n:=n) (show dk (t3 l) n=some x from q)
   exact⟨bF,by simpa using i1,i2⟩
def KJ:∀{ao:List ((V×List V)×V)} {es:List cu} {n:Nat} {x:V},All2 (ks c.w p) ao es->dk (tZ ao) n=some x->∃e,es[n]?=some e/\aE p x e.key:=by
 intro ao es n x h
 induction h generalizing n with
 |nil=>intro h;cases(show none=some _ from h)
 |@cons g e l es h t A=>
  intro q
  cases n with
  |zero=>
   clear A
   cases(show some g.1.1=some x from q)
   obtain⟨⟨i,k,a,a2,e1,e2,e3,_⟩,_⟩:=h
   exact⟨e,rfl,by rw[e3];exact e2⟩
  |succ n=>
   obtain⟨bF,i1,i2⟩:=A (n:=n) (show dk (tZ l) n=some x from q)
   exact⟨bF,by simpa using i1,i2⟩
def KL:∀{ao:List ((V×List V)×V)} {es:List cu} {n:Nat} {x:V},All2 (ks c.w p) ao es->dk (t2 ao) n=some x->∃e,es[n]?=some e/\aE p x e.val:=by
 intro ao es n x h
 induction h generalizing n with
 |nil=>intro h;cases(show none=some _ from h)
 |@cons g e l es h t A=>
  intro q
  cases n with
  |zero=>
   clear A
   cases(show some g.2=some x from q)
   exact⟨e,rfl,h.2⟩
  |succ n=>
   obtain⟨bF,i1,i2⟩:=A (n:=n) (show dk (t2 l) n=some x from q)
   exact⟨bF,by simpa using i1,i2⟩
def KM (ao:List (Nat×V)):(nf ao).length=ao.length:=by
 induction ao with
 |nil=>rfl
 |cons a l A=>show(V.str a.1::nf l).length=_;rw[nY,nY,A]
def Dc {xs:List V} {es:List cu} (h:dk xs n=none) (e:xs.length=es.length):es[n]?=none:=by
 have:=rv h
 rw[List.getElem?_eq_none_iff];lia
def KN:∀{ao:List (Nat×V)} {A:List (aI×am)} {n:Nat} {x:Nat×V},All2 (hy p) ao A->pX ao n=some x->∃y,A[n]?=some y/\hy p x y:=by
 intro ao es n x h
 induction h generalizing n with
 |nil=>intro h;cases(show none=some _ from h)
 |@cons a e l es h t B=>
  intro q
  cases n with
  |zero=>
   clear B
   cases(show some a=some x from q)
   exact⟨e,rfl,h⟩
  |succ n=>
   obtain⟨bF,i1,i2⟩:=B (n:=n) (show pX l n=some x from q)
   exact⟨bF,by simpa using i1,i2⟩
def KO:∀{ao:List (Nat×V)} {A:List (aI×am)} {n:Nat},All2 (hy p) ao A->pX ao n=none->A[n]?=none:=by
 intro ao A n h
 induction h generalizing n with
 |nil=>exactλZ=>rfl
 |@cons a y l A h t B=>
  intro q
  cases n with
  |zero=>cases(show some a=none from q)
  |succ n=>
   have:=B (n:=n) (show pX l n=none from q)
   simpa using this
end
section
variable {loc:Loc}
def rJ {av:bE} {bo:Nat} {t:aM} {o bC:bY} {v:O} {x:V} {A:am} {nm:String} {ai:Array am} {aj:bc} {cY:V->aA->Bool} {no:aA->Bool} {f7:am->a9->Prop} (S:ba c f p ab loc s) (F:Fr f.aC f.L s.heap m) (ak:News f.aC f.L s.heap aj) (H:aQ c.K c.w p ab.t aj) (B:db f p loc m)
  (af:i<p.ay) (lv:bG ab.t i) (hm:(p.a i,o)∈aj) (hs:k2 (p.a i) s.heap av) (k8:av.get? (p.a i)=some bC) (C:bC.cls=.type nm) (hd:bC.data=.fields ai)
  (D:(["enumerate","zip","dict_itemiterator","dict_reverseitemiterator","odict_iterator","itertools.zip_longest","itertools.pairwise"].contains nm)=false)
  (he:∀a3,(p.a i,bC)∈a3->ch c.K c.w p a3 i v) (E:aE p x A) (h:cY x (bD (key i) v ab)=true):pZ c f p loc t (.ref (p.a i)) cY no f7 (some A) {s with heap:=av,toks:=bo}:=by
 refine Kz (s:={s with heap:=av,toks:=bo}) k8 C hd D ⟨p,_,x,aX.bN.refl p,E,kz S F ak H B af lv hm hs k8 λa3 hm Z=>he a3 hm,h⟩
def nj {av:bE} {bo:Nat} {t:aM} {o:bY} {aj:bc} {cY:V->aA->Bool} {no:aA->Bool} {A:am} {f7:am->a9->Prop} (S:ba c f p ab loc s) (F:Fr f.aC f.L s.heap m) (ak:News f.aC f.L s.heap aj) (H:aQ c.K c.w p ab.t aj) (B:db f p loc m)
  (af:i<p.ay) (lv:bG ab.t i) (hm:(p.a i,o)∈aj) (hs:sO (p.a i) s.heap av) (h:no (bD (key i) .dead ab)=true):pZ c f p loc t A cY no f7 none {s with heap:=av,toks:=bo}:=
 ⟨p,_,aX.bN.refl p,IA S F ak H B af lv hm hs,h⟩
def rK {no:Bool} {cY:V->Bool}:step none no cY=no:=rfl
def rL {no:Bool} {cY:V->Bool} {x:V}:step (some x) no cY=cY x:=rfl
def p0 {be:Nat->Option O} (bi:go c be) (ah:aZ c f) {fI:Bool} {t:aM} {it:V} {aI:am} {cY:V->aA->Bool} {no:aA->Bool} {f7:am->a9->Prop} (ay:fI=true->∃es k q,t=.Tuple es k q)
  (h:hC be fI it ab cY no=true) (S:ba c f p ab loc s) (bj:aE p it aI):aO (aR c.prog c.w) f.A (jb aI) (pZ c f p loc t aI cY no f7) E s:=by
 obtain⟨m,aj,F,ak,H,K⟩:=S.ex
 obtain⟨i,aB,rfl,ae⟩:=cJ' h
 obtain⟨af,rfl,rfl⟩:=bj
 rcases C8' ae with⟨v,n,g,ag⟩|⟨v,n,g,ag⟩|⟨v,n,al,az,g,ag⟩|⟨v,n,al,az,g,ag⟩|⟨v,n,al,az,g,ag⟩|⟨i2,n,g,ag⟩|⟨a,l,g,ag⟩|⟨g,ag⟩
 ·
  dsimp only[bP]at g
  obtain⟨j,iL,rfl,ax⟩:=cJ' ag
  obtain⟨xs,g2,aS⟩:=KG' ax
  obtain⟨a,o,r,B,bx,c_⟩:=H.ent i _ af g
  have R:=r
  obtain⟨G,rfl,e⟩:=r
  cases e
  dsimp only[bP]at g2
  obtain⟨ai,l1,U⟩:=aQ.BZ ak H G g2
  cases C:dk xs n with
  |some x=>
   rw[C,rL]at aS
   obtain⟨val,aK,aW⟩:=pR U C
   refine wpAny_pyNext_list_item ⟨o,ak.get B,bx,c_⟩ l1 (by simpa using aK) λav Y hs=>?_
   obtain⟨bC,M,P,Q⟩:=Y
   exact rJ (v:=.lit (.own j (key j)) (n+1)) S F ak H K af ⟨_,g,rfl⟩ B hs M P Q (by decide) (λa3 hm=>⟨_,_,R,hm,P,Q⟩) aW aS
  |none=>
   rw[C,rK]at aS
   refine wpAny_pyNext_list_end ah.cj ⟨o,ak.get B,bx,c_⟩ l1 ?_ λav hs=>nj S F ak H K af ⟨_,g,rfl⟩ B hs aS
   have:=rv C
   simp;rw[<-U.len];exact this
 ·
  dsimp only[bP]at g
  obtain⟨a,o,r,B,bx,c_⟩:=H.ent i _ af g
  have dF:∀(xs:List V) (ai:List am),s.heap.IsTuple a (vV ai)->All2 (aE p) xs ai->step (dk xs n) (no (bD (key i) .dead ab)) (λx=>cY x (bD (key i) (.tit v (bS n)) ab))=true->aO (aR c.prog c.w) f.A (jb (.ref (p.a i))) (pZ c f p loc t (.ref (p.a i)) cY no f7) E s:=by
   intro xs ai l1 U aS
   cases C:dk xs n with
   |some x=>
    rw[C,rL]at aS
    obtain⟨val,aK,aW⟩:=pR U C
    refine wpAny_pyNext_tuple_item ⟨o,ak.get B,bx,c_⟩ l1 (by simpa using aK) λav Y hs=>?_
    obtain⟨bC,M,P,Q⟩:=Y
    exact rJ (v:=.tit v (n+1)) S F ak H K af ⟨_,g,rfl⟩ B hs M P Q (by decide) (λa3 hm=>⟨_,_,r,hm,P,Q⟩) aW aS
   |none=>
    rw[C,rK]at aS
    refine wpAny_pyNext_tuple_end ah.cj ⟨o,ak.get B,bx,c_⟩ l1 ?_ λav hs=>nj S F ak H K af ⟨_,g,rfl⟩ B hs aS
    have:=rv C
    simp;rw[<-U.len];exact this
  clear g c_
  cases v with
  |own j iL=>
   obtain⟨xs,g2,aS⟩:=m8' (show ic (bn ab iL) _=true from ag)
   clear ag
   obtain⟨G,rfl,e⟩:=r
   cases e
   dsimp only[bP]at g2
   obtain⟨ai,l1,U⟩:=aQ.tup ak H G g2
   exact dF xs ai l1 U aS
  |gnd bk=>
   obtain⟨xs,bm,aS⟩:=m8' (show ic (be bk) _=true from ag)
   clear ag
   cases r
   obtain⟨ai,eC,bp,bs,aK,aW⟩:=bi _ _ bm
   exact dF xs ai ⟨_,(ah.X.keeps F.keep) _ _ aK,rfl,bp,rfl⟩ (aW p) aS
  |_=>cases ag
 ·
  dsimp only[bP]at g
  obtain⟨j,aY,rfl,ax⟩:=cJ' ag
  obtain⟨a,o,r,B,bx,c_⟩:=H.ent i _ af g
  have R:=r
  obtain⟨G,rfl,e⟩:=r
  cases e
  have dF:∀(a2:List V) (D:List cu) (J:Nat),s.heap.get? (p.a j)=some (dd D (p.e j+J))->az=J->al=D.length->a2.length=D.length->(∀x,dk a2 n=some x->∃e,D[n]?=some e/\aE p x e.key)->
    step (dk a2 n) (no (bD (key i) .dead ab)) (λx=>cY x (bD (key i) (.dit (.own j (key j)) (bS n) al az) ab))=true->aO (aR c.prog c.w) f.A (jb (.ref (p.a i))) (pZ c f p loc t (.ref (p.a i)) cY no f7) E s:=by
   clear ax
   intro a2 D J k8 he ap aJ aL aS
   subst he ap
   cases C:dk a2 n with
   |some x=>
    rw[C,rL]at aS
    obtain⟨e,aK,aW⟩:=aL x C
    refine Kv ⟨o,ak.get B,bx,c_⟩ k8 aK λav Y hs=>?_
    obtain⟨bC,M,P,Q⟩:=Y
    exact rJ (v:=.dit (.own j (key j)) (n+1) D.length az) S F ak H K af ⟨_,g,rfl⟩ B hs M P Q (by decide) (λa3 hm=>⟨_,_,R,hm,P,Q⟩) aW aS
   |none=>
    rw[C,rK]at aS
    exact Kx ah.cj ⟨o,ak.get B,bx,c_⟩ k8 (Dc C aJ) λav hs=>nj S F ak H K af ⟨_,g,rfl⟩ B hs aS
  rcases mq' ax with⟨J,ao,g2,aS⟩|⟨J,es,g2,aS⟩|⟨xs,g2,aS⟩|⟨xs,g2,aS⟩
  ·obtain⟨aK,bA⟩:=kH' aS
   obtain⟨aW,cw⟩:=kH' bA
   dsimp only[bP]at g2
   obtain⟨a_,D,N,I⟩:=H.ent j _ G g2
   exact dF (nf ao) D J (ak.get N) aK (aW.trans I.len) ((KM ao).trans I.len) (λx C=>KH I C) cw
  ·obtain⟨aK,bA⟩:=kH' aS
   obtain⟨aW,cw⟩:=kH' bA
   dsimp only[bP]at g2
   obtain⟨D,N,I⟩:=H.ent j _ G g2
   exact dF (tZ es) D J (ak.get N) aK (aW.trans I.len) ((pk _).trans I.len) (λx C=>KJ I C) cw
  ·cases aS
  ·cases aS
 ·
  dsimp only[bP]at g
  obtain⟨aN,ax⟩:=C_' ag
  obtain⟨bq,br,bt,rfl⟩:=ay aN,ay
  obtain⟨j,aY,rfl,aS⟩:=cJ' ax
  obtain⟨J,ao,g2,bA⟩:=lj' aS
  obtain⟨aK,cw⟩:=kH' bA
  obtain⟨aW,cM⟩:=kH' cw
  subst aK aW
  obtain⟨a,ok,bu,r,B⟩:=H.ent i _ af g
  have R:=r
  obtain⟨G,rfl,e⟩:=r
  cases e
  dsimp only[bP]at g2
  obtain⟨a_,D,N,I⟩:=H.ent j _ G g2
  obtain⟨bv,a0,aD⟩:=I.dictAt (prog:=c.prog) a_ (ak.get N)
  have a1:IsItemIter s.heap (p.a i) (p.a j) n bv.length (p.e j+az) ok bu:=by rw[<-aD.len];exact ak.get B
  cases C:pX ao n with
  |none=>
   rw[C]at cM
   exact wpAny_pyNext_items_end ah.cj a1 a0 (KO aD C) λav hs=>nj S F ak H K af ⟨_,g,rfl⟩ B hs cM
  |some e=>
   rw[C]at cM
   obtain⟨a,u⟩:=e
   obtain⟨⟨y,w⟩,aP,aq⟩:=KN aD C
   replace cM:mk (.tuple [.str a,u]) (bD (key i) (.dii (.own j (key j)) (bS n) ao.length az) ab) cY=true:=cM
   refine wpAny_pyNext_items_item a1 a0 aP λbw av aF M aT bz aU=>?_
   refine wpAny_letOwnedTupleGo_items M λd aG an=>?_
   clear M
   obtain⟨a4,rfl⟩:=k5 (show mU y bw=true from aF),aF
   have ar:p.a i≠s.heap.objs.size:=dS (dX (ak _ B).1)
   have ap:=aD.len
   refine KE (s:=s) (av:=d) (tY:=jd [.str y a4,w] 0) (v:=.dii (.own j (key j)) (n+1) ao.length az) (u:=.tuple [.str a,u]) (bo:=s.toks) S F ak H K af ⟨_,g,rfl⟩ B (λb bU as e=>an.extBut _ _ as (aU b bU as e)) aG rfl (an.extBut _ _ (h6 ar) aT) (λa3 hm=>⟨_,_,_,R,by rw[ap];exact hm⟩) (λZ Z e=>nomatch e) (λa3 hm=>?_) cM
   exact⟨_,0,by rw[fj];exact hm,.cons ⟨y,a4,rfl,aq.1.1,aq.1.2⟩ (.cons (aq.2.ext (p.eZ _ _)) .nil)⟩
 ·
  dsimp only[bP]at g
  obtain⟨j,aY,rfl,ax⟩:=cJ' ag
  obtain⟨a,o,r,B,bx,c_⟩:=H.ent i _ af g
  have R:=r
  obtain⟨G,rfl,e⟩:=r
  cases e
  have dF:∀(a2:List V) (D:List cu) (J:Nat),s.heap.get? (p.a j)=some (dd D (p.e j+J))->az=J->al=D.length->a2.length=D.length->(∀x,dk a2 n=some x->∃e,D[n]?=some e/\aE p x e.val)->
    step (dk a2 n) (no (bD (key i) .dead ab)) (λx=>cY x (bD (key i) (.dvi (.own j (key j)) (bS n) al az) ab))=true->aO (aR c.prog c.w) f.A (jb (.ref (p.a i))) (pZ c f p loc t (.ref (p.a i)) cY no f7) E s:=by
   clear ax
   intro a2 D J k8 he ap aJ aL aS
   subst he ap
   cases C:dk a2 n with
   |some x=>
    rw[C,rL]at aS
    obtain⟨e,aK,aW⟩:=aL x C
    refine Kw ⟨o,ak.get B,bx,c_⟩ k8 aK λav Y hs=>?_
    obtain⟨bC,M,P,Q⟩:=Y
    exact rJ (v:=.dvi (.own j (key j)) (n+1) D.length az) S F ak H K af ⟨_,g,rfl⟩ B hs M P Q (by decide) (λa3 hm=>⟨_,_,R,hm,P,Q⟩) aW aS
   |none=>
    rw[C,rK]at aS
    exact Ky ah.cj ⟨o,ak.get B,bx,c_⟩ k8 (Dc C aJ) λav hs=>nj S F ak H K af ⟨_,g,rfl⟩ B hs aS
  rcases mq' ax with⟨J,ao,g2,aS⟩|⟨J,es,g2,aS⟩|⟨xs,g2,aS⟩|⟨xs,g2,aS⟩
  ·obtain⟨aK,bA⟩:=kH' aS
   obtain⟨aW,cw⟩:=kH' bA
   dsimp only[bP]at g2
   obtain⟨a_,D,N,I⟩:=H.ent j _ G g2
   exact dF (t3 ao) D J (ak.get N) aK (aW.trans I.len) ((pk _).trans I.len) (λx C=>KI I C) cw
  ·obtain⟨aK,bA⟩:=kH' aS
   obtain⟨aW,cw⟩:=kH' bA
   dsimp only[bP]at g2
   obtain⟨D,N,I⟩:=H.ent j _ G g2
   exact dF (t2 es) D J (ak.get N) aK (aW.trans I.len) ((pk _).trans I.len) (λx C=>KL I C) cw
  ·cases aS
  ·cases aS
 ·
  dsimp only[bP]at g
  obtain⟨aN,ax⟩:=C_' ag
  obtain⟨bq,br,bt,rfl⟩:=ay aN,ay
  obtain⟨j,fG,rfl,aS⟩:=cJ' ax
  obtain⟨l,bZ,g2,bA⟩:=KB' aS
  obtain⟨aK,cw⟩:=kH' bA
  subst aK
  obtain⟨W,iL,rfl,cM⟩:=cJ' cw
  obtain⟨xs,g3,dg⟩:=gn' cM
  obtain⟨a,b0,r,B⟩:=H.ent i _ af g
  have R:=r
  obtain⟨G,rfl,e⟩:=r
  cases e
  rw[bP]at g2 g3
  obtain⟨b1,o2,fa,N,cf,fs⟩:=H.ent j _ G g2
  have bB:=fa
  obtain⟨bE,rfl,e⟩:=fa
  cases e
  obtain⟨ai,l1,U⟩:=aQ.list ak H bE g3
  have a5:i≠j:=λe=>by clear G B R N dg;subst e;rw[g]at g2;cases g2
  have ar:p.a i≠p.a j:=λe=>a5 (H.aa i j af G ⟨_,g,rfl⟩ ⟨_,g2,rfl⟩ e)
  have a6:s.heap.IsListIter (p.a j) (p.a W) n:=⟨o2,ak.get N,cf,fs⟩
  cases C:dk xs n with
  |none=>
   rw[C,rK]at dg
   refine wpAny_pyNext_enum_end ah.cj (ak.get B) a6 l1 ?_ λav hs=>nj S F ak H K G ⟨_,g2,rfl⟩ N hs dg
   have:=rv C
   simp;rw[<-U.len];exact this
  |some x=>
   rw[C,rL]at dg
   obtain⟨val,aP,aq⟩:=pR U C
   refine wpAny_pyNext_enum_item (ak.get B) a6 l1 (by simpa using aP) ar λav M bF aT bz aU=>?_
   refine wpAny_letOwnedTupleGo_enum M λd aG an=>?_
   obtain⟨a7,bH,bI,bK⟩:=bF
   obtain⟨bL,cX,mi,cW,d1⟩:=aQ.upd (bC:=q3 (p.a j) (n+1:Nat) val) (v:=.enm (.own j (key j)) (n+1)) H af ⟨_,g,rfl⟩ B (λa3 hm=>⟨_,val,R,hm⟩) (λZ Z e=>nomatch e)
   have bN:(p.a j,o2)∈bL:=d1 _ N (h6 ar)
   have bO:i<4096:=cH af H.small
   have bQ:j<4096:=cH G H.small
   have bR:bG (T.put (.enm (.own j (key j)) (n+1)) (key i) ab.t) j:=⟨_,by rw[T.cd _ _ bO bQ,if_neg (h6 a5)];exact g2,rfl⟩
   obtain⟨a8,bb,b2,e1,e2⟩:=aQ.upd (bC:=a7) (v:=.lit (.own W (key W)) (n+1)) cX G bR bN (λa3 hm=>⟨_,_,bB,hm,bI,bK⟩) (λZ Z e=>nomatch e)
   have au:=ak _ B
   have aH:=ak _ N
   have bT:∀a,(∃o,s.heap.get? a=some o)->a≠s.heap.objs.size:=λa ⟨o,e⟩=>dS (dX e)
   have bc:∀b bU,b≠p.a i->b≠p.a j->s.heap.get? b=some bU->d.get? b=some bU:=λb bU cr cx e=>an.extBut _ _ cr (aU b bU cr cx e)
   have bV:d.get? s.heap.objs.size=some (jd [.int n s.toks,val] 0):=an.extBut _ _ (h6 (bT _ ⟨_,au.1⟩)) aT
   have bW:d.get? (p.a j)=some a7:=an.extBut _ _ (h6 ar) bH
   have bd:∀a,f.aC.get? a=none->∀o,f.aC.get? a≠some o:=λa e o e2=>by rw[e]at e2;cases e2
   have bX:Fr f.aC f.L d m:=Fr.but F λb bU as e=>by
    refine bc b bU (λz=>?_) (λz=>?_) e
    clear e
    ·rcases as with rfl|⟨o3,e3⟩
     ·exact au.2.1 z.symm
     ·rw[z]at e3;exact bd _ au.2.2 _ e3
    clear e
    ·rcases as with rfl|⟨o3,e3⟩
     ·exact aH.2.1 z.symm
     ·rw[z]at e3;exact bd _ aH.2.2 _ e3
   have bY:News f.aC f.L d ((s.heap.objs.size,jd [.int n s.toks,val] 0)::a8):=λz aw=>by
    rcases bJ.mp aw with rfl|aw
    ·refine⟨bV,lO F.ns.lt,?_⟩
     cases e:f.aC.get? s.heap.objs.size with
     |none=>rfl
     |some bU=>exact absurd (dX (F.keep _ _ e)) (nL _)
    ·rcases e1 z aw with rfl|⟨cr,cx⟩
     ·exact⟨bW,aH.2⟩
     clear aw
     clear aw
     ·rcases cW z cr with rfl|⟨dI,bf⟩
      ·refine⟨?_,au.2⟩
       have e:((n:Int)+1)=((n+1:Nat):Int):=by lia
       rw[e]at aG
       exact aG
      ·exact⟨bc _ _ bf cx (ak z dI).1,(ak z dI).2⟩
   have lt:∀q∈a8,q.1<s.heap.objs.size:=λq bg=>by
    rcases e1 q bg with rfl|⟨cr,cx⟩
    ·exact dX aH.1
    clear bg cx
    ·rcases cW q cr with rfl|⟨dI,bf⟩
     ·exact dX au.1
     ·exact dX (ak q dI).1
   obtain⟨bh,aF⟩:=mk_eq dg
   have aV:=(S.z.bD (key i) (.enm (.own j (key j)) (n+1))).bD (key j) (.lit (.own W (key W)) (n+1))
   have b8:(bD (key j) (.lit (.own W (key W)) (n+1)) (bD (key i) (.enm (.own j (key j)) (n+1)) ab)).t=T.put (.lit (.own W (key W)) (n+1)) (key j) (T.put (.enm (.own j (key j)) (n+1)) (key i) ab.t):=by rw[jS,jS]
   rw[<-b8]at bb
   refine⟨p.more s.heap.objs.size s.heap.objs.size,_,_,p.eZ _ _,aX.ib aV,⟨⟨m,_,bX,bY,aQ.one (o:=.tuple [.int (bl n),x]) (e:=0) bb aV bh lt ⟨_,0,by rw[fj];exact .head _,.cons ⟨s.toks,rfl⟩ (.cons (aq.ext (p.eZ _ _)) .nil)⟩,K.ext (p.eZ _ _)⟩,S.gens,S.os,aV.more bh _ _ _,S.n,S.y⟩,aF⟩
 ·
  dsimp only[bP]at g
  obtain⟨l,rfl,ax⟩:=xi' ag
  have B:=H.ent i _ af g
  cases l with
  |zero=>exact wpAny_pyNext_range_end ah.cj (ak.get B) (by simp) λav hs=>nj S F ak H K af ⟨_,g,rfl⟩ B hs ax
  |succ k=>
   refine wpAny_pyNext_range_item (ak.get B) (by simp<;>lia) λav M hs=>?_
   have e:bl (k+1)-1=bl k:=by simp
   rw[e]at M
   exact rJ (x:=.int a) (v:=.rit (bM a 1) (bl k)) (bo:=s.toks+1) S F ak H K af ⟨_,g,rfl⟩ B hs M rfl rfl (by decide) (λa3 hm=>hm) ⟨_,rfl⟩ ax
 ·
  dsimp only[bP]at g
  obtain⟨t0,o,B,bx,c_⟩:=H.ent i _ af g
  exact wpAny_pyNext_ascii_end ah.cj ⟨o,ak.get B,bx,c_⟩ (by decide+kernel) λav hs=>nj S F ak H K af ⟨_,g,rfl⟩ B hs ag
end
def g0:aM->Bool
 |.Set .. =>false
 |_=>true
def p1 {e:aM} {env:cI} (h:g0 e=true):∀x,foldedSetIterable e env x=pure x:=λx=>by
 cases e<;>first|rfl|cases h
section
def kI (be:Nat->Option O) (fI:Bool) (tg:fb) (body:bV) (it:V) (a2:dy) (cl:b5) (n:Nat):aA->Loc->Bool:=gg (motive:=λZ=>aA->Loc->Bool) a1 (λZ A ab loc=>
 hC be fI it ab (λv ab=>hZ tg v ab loc (λab loc=>body ab loc (λbg ab loc=>Fl.rec (A ab loc) (a2 .next ab loc) (A ab loc) (λv=>a2 (.ret v) ab loc) bg) ⟨cl,b1⟩)) (λab=>a2 .next ab loc)) n
def gK (tg:fb):Bool:=fb.rec aL aL (λZ Z=>true) tg
def Dd {tg:fb} {t:aM} (h:fc f tg t):gK tg=true->∃es k q,t=.Tuple es k q:=λq=>by
 cases h with
 |n _ _=>cases q
 |c _ _=>cases q
 |p _ _ _ _=>exact⟨_,_,_,rfl⟩
def p2 (be:Nat->Option O) (tg:fb) (it:aT) (body:bV):bV:=λab loc a2 au=>it ab loc (λv ab=>ij be v ab (λi ab=>kI be (gK tg) tg body i a2 au.cl 100 ab loc)) au
def xk {be:Nat->Option O} (P:go c be) (ah:aZ c f) {t it:aM} {b:List bI} {tg:fb} {ci:aT} {B:bV} {pos} (Q:fc f tg t) (af:a8 c aw ci f it) (W:gG c aw B f b) (hs:g0 it=true):
  dK c aw (p2 be tg ci B) f (.For t it b [] pos):=λab loc a2 au p s E h S X R=>by
 refine wpAny_For (cy (af ab loc _ au p s E h S X R) (λv aA bt bw y Y a d g=>?_)) (p1 hs)
 refine cy (pW P ah g d a) (λaB aC M i C j k l m=>?_)
 refine Hs (I:=λn aq=>jp c f M (λaF cO=>kI be (gK tg) tg B C a2 au.cl n aF cO) aq) (λn aq o=>?_) 100 ⟨M,i,loc,aX.bN.refl M,l,m⟩
 obtain⟨aD,q,N,D,u,T⟩:=o
 have e03:=(Y.trans j).trans D
 cases n with
 |zero=>cases T
 |succ n=>
  refine b_ (p0 (t:=t) (f7:=gT (aR c.prog c.w) f.A f.env λe aq=>cameBackBy (aR c.prog c.w) f.A f.env E e aq) P ah (Dd Q) (show hC be (gK tg) C q (λv ab=>hZ tg v ab N (λab loc=>B ab loc (λbg ab loc=>Fl.rec (motive:=λZ=>Bool) (kI be (gK tg) tg B C a2 au.cl n ab loc) (a2 .next ab loc) (kI be (gK tg) tg B C a2 au.cl n ab loc) (λv=>a2 (.ret v) ab loc) bg) ⟨au.cl,b1⟩)) (λab=>a2 .next ab N)=true from T) u (k.ext D)) (λr aE U=>?_) λZ Z h=>h
  cases r with
  |none=>
   obtain⟨aa,ae,ag,ai,aj⟩:=U
   exact k7 ⟨aa,ae,N,Fl.next,e03.trans ag,rfl,ai,aj⟩
  |some v=>
   refine pY U (λZ aG aH aI x ak al am an=>?_)
   refine rE (rF Q ah an am al) (λZ ao V ap ar as av ax=>?_)
   refine hT (W ap ar _ ⟨au.cl,b1⟩ V ao _ ax av (aw.no f V _) R) (λbg aJ F G H y ay J K L=>?_)
   have e37:=(ak.trans as).trans ay
   cases y with
   |next=>cases J;exact⟨n,i_ _,F,G,H,D.trans e37,K,L⟩
   |cont=>cases J;exact⟨n,i_ _,F,G,H,D.trans e37,K,L⟩
   |brk=>cases J;exact⟨F,G,H,Fl.next,e03.trans e37,rfl,K,L⟩
   |ret w=>obtain⟨val,rfl,az⟩:=J;exact⟨F,G,H,Fl.ret w,e03.trans e37,⟨val,rfl,az⟩,K,L⟩
def De (t:c6) (body:bV) (a2:dy) (cl:b5) (n:Nat):aA->Loc->Bool:=gg (motive:=λZ=>aA->Loc->Bool) a1 (λZ A ab loc=>
 t ab loc (λq ab=>hV q (body ab loc (λbg ab loc=>Fl.rec (A ab loc) (a2 .next ab loc) (A ab loc) (λv=>a2 (.ret v) ab loc) bg) ⟨cl,b1⟩) (a2 .next ab loc)) ⟨cl,b1⟩) n
def Df (t:c6) (body:bV):bV:=λab loc a2 au=>De t body a2 au.cl 30 ab loc
def KP (ah:aZ c f) {t:aM} {b:List bI} {C:c6} {M:bV} {pos} (X:ST c aw C f t) (Y:gG c aw M f b):dK c aw (Df C M) f (.While t b [] pos):=λab loc a2 au p s E h S j O=>by
 refine wpAny_While ?_
 have hm:f.A.mark none=f.A:=by unfold hN.mark;rfl
 refine codeAny_whileLoop (I:=λn aq=>jp c f p (λaF cO=>De C M a2 au.cl n aF cO) aq) (λn aq a=>?_) 30 ⟨p,ab,loc,aX.bN.refl p,S,h⟩
 obtain⟨P,Q,D,B,d,R⟩:=a
 cases n with
 |zero=>cases R
 |succ n=>
  refine kw (X Q D _ ⟨au.cl,b1⟩ P aq _ (show C Q D _ _=true from R) d (aw.no f P _) O) (λq e N T U V W=>?_)
  cases q with
  |true=>
   refine hT (Y T D _ ⟨au.cl,b1⟩ N e _ W V (aw.no f N _) O) (λbg k F G H y g J K L=>?_)
   have e37:=U.trans g
   cases y with
   |next=>cases J;exact⟨n,i_ _,F,G,H,B.trans e37,K,L⟩
   |cont=>cases J;exact⟨n,i_ _,F,G,H,B.trans e37,K,L⟩
   |brk=>cases J;exact⟨F,G,H,Fl.next,B.trans e37,rfl,K,L⟩
   |ret w=>obtain⟨val,rfl,i⟩:=J;exact⟨F,G,H,Fl.ret w,B.trans e37,⟨val,rfl,i⟩,K,L⟩
  |false=>exact k7 ⟨N,T,D,Fl.next,B.trans U,rfl,V,W⟩
end
section
variable {loc:Loc}
def Dg {be:Nat->Option O} {fI:Bool} {it:V} {D:am} {cY:V->aA->Bool} {no:aA->Bool} {Q:am->a9->Prop} (h:hC be fI it ab cY no=true) (S:ba c f p ab loc s) (I:aE p it D) (C:Q D s):
  aO (aR c.prog c.w) f.A (pyIter D) Q E s:=by
 obtain⟨m,aj,F,ak,H,J⟩:=S.ex
 obtain⟨i,aB,rfl,ae⟩:=cJ' h
 obtain⟨af,rfl,rfl⟩:=I
 rcases C8' ae with⟨v,n,g,ag⟩|⟨v,n,g,ag⟩|⟨v,n,G,az,g,ag⟩|⟨v,n,G,az,g,ag⟩|⟨v,n,G,az,g,ag⟩|⟨i2,n,g,ag⟩|⟨a,l,g,ag⟩|⟨g,ag⟩
 all_goals dsimp only[bP]at g
 ·obtain⟨a,o,r,B,bx,c_⟩:=H.ent i _ af g
  exact wpAny_pyIter_listiter ⟨o,ak.get B,bx,c_⟩ C
 ·obtain⟨a,o,r,B,bx,c_⟩:=H.ent i _ af g
  exact wpAny_pyIter_tupleiter ⟨o,ak.get B,bx,c_⟩ C
 ·obtain⟨a,o,r,B,bx,c_⟩:=H.ent i _ af g
  exact wpAny_pyIter_keyiter ⟨o,ak.get B,bx,c_⟩ C
 ·obtain⟨a,x,y,r,B⟩:=H.ent i _ af g
  have bj:s.TypeIs (.ref (p.a i)) "dict_itemiterator":=⟨_,ak.get B,rfl⟩
  refine Hn bj TX (mV TX bj kcp_entry ?_ (PySem.F.args_dict_itemiterator_iter_1 _))
  show aO _ _ (ret (.ref (p.a i))) _ _ s
  exact br ⟨_,rfl,"dict_itemiterator",_,bj,PySem.F.slot_dict_itemiterator_next.lookup,C⟩
 ·obtain⟨a,o,r,B,bx,c_⟩:=H.ent i _ af g
  exact wpAny_pyIter_valiter ⟨o,ak.get B,bx,c_⟩ C
 ·obtain⟨a,K,r,B⟩:=H.ent i _ af g
  exact wpAny_pyIter_enum (ak.get B) C
 ·exact wpAny_pyIter_rangeiter (ak.get (H.ent i _ af g)) C
 ·obtain⟨t0,o,B,bx,c_⟩:=H.ent i _ af g
  exact wpAny_pyIter_striter_ascii ⟨o,ak.get B,bx,c_⟩ C
def KQ {env:cI}:∀(names:List (aI×iA)) (bT:List (aI×a7)),(∀x,(x,f0)∈names->∃a,env.cells.lookup x=some a)->
  ∃cl,(forIn names bT λ(q:aI×iA) cs=>(do
   let(name,kind):=q
   if(kind==f0)=true then do
    let a<-cellOf env name
    pure (s5 ((name,a)::cs))
   else pure (s5 cs):Sem (ForInStep (List (aI×a7)))))=pure cl/\(∀x,(x,f0)∈names->cl.lookup x=env.cells.lookup x)/\∀x,(x,f0)∉names->cl.lookup x=bT.lookup x:=by
 intro names
 induction names with
 |nil=>
  intro bT _
  exact⟨bT,by rw[G_],(λx A=>nomatch A),λZ Z=>rfl⟩
 |cons q r C=>
  intro bT h
  obtain⟨n,k⟩:=q
  rw[List.forIn_cons]
  by_cases B:k=.free
  ·subst B
   obtain⟨a,D⟩:=h n (.head _)
   obtain⟨cl,e1,e2,e3⟩:=C ((n,a)::bT) λx A=>h x (.tail _ A)
   refine⟨cl,?_,λx A=>?_,λx A=>?_⟩
   ·have:cellOf env n=pure a:=by unfold cellOf;rw[D]
    dsimp only
    rw[this]
    exact e1
   ·by_cases q:(x,f0)∈r
    ·exact e2 x q
    ·rcases bJ.mp A with e|A
     clear A
     ·cases e
      rw[e3 _ q,hP,D]
      simp
     ·exact absurd A q
   ·have q:(x,f0)∉r:=λz=>A (.tail _ z)
    have E:¬x=n:=λz=>A (z▸.head _)
    rw[e3 x q,hP,beq_eq_false_iff_ne.mpr E]
  ·obtain⟨cl,e1,e2,e3⟩:=C bT λx A=>h x (.tail _ A)
   clear h
   refine⟨cl,?_,λx A=>?_,λx A=>?_⟩
   ·have:(k==f0)=false:=by simpa using B
    dsimp only
    rw[this]
    exact e1
   ·rcases bJ.mp A with e|A
    clear A
    ·cases e;exact absurd rfl B
    ·exact e2 x A
   ·exact e3 x λz=>A (.tail _ z)
def Dh {scope:bB} {env:cI} (h:∀x,(x,f0)∈scope.names->∃a,env.cells.lookup x=some a):∃cl,s6 scope env=pure cl/\(∀x,(x,f0)∈scope.names->cl.lookup x=env.cells.lookup x)/\∀x,(x,f0)∉scope.names->cl.lookup x=none:=by
 obtain⟨cl,e1,e2,e3⟩:=KQ scope.names [] h
 refine⟨cl,?_,e2,λx A=>by rw[e3 x A];rfl⟩
 unfold s6
 dsimp only
 show(forIn scope.names [] _>>=λcs=>pure cs)=_
 first
  |rw[e1];rfl
  |(have:=e1;simp only[]at this⊢;rw[this];rfl)
end
def Di {prog:ew} {cK B dL:PySem.Expr} {C:List PySem.Expr} {scope:bB} {pos:bO} {it bT:am} {env:cI} {R:kh->a9->Prop} (I:Nat->a9->Prop)
  (turn:∀n s,I n s->aO (aR prog w) A (jb it) (λr D=>match r with
   |none=>R (.ok .next) D
   |some v=>aO (aR prog w) A (Hq B it v) (λZ F=>aO (aR prog w) A (lV B env v) (λZ G=>
     aO (aR prog w) A (forIn C true λc r=>if r=true then do let ok<-isTrue c env (dP c env);pure (s5 ok)else pure (s5 r)) (λok E=>
      if ok=true then aO (aR prog w) A (dP cK env) (λx H=>
       aO (aR prog w) A (call (.builtin "list.append") [bT,x]) (λZ J=>∃m,m<n/\I m J) (gT (aR prog w) A env λe aq=>R (.error e) aq) H) (gT (aR prog w) A env λe aq=>R (.error e) aq) E
      else∃m,m<n/\I m E) (gT (aR prog w) A env λe aq=>R (.error e) aq) G)
     (gT (aR prog w) A env λe aq=>R (.error e) aq) F) (gT (aR prog w) A env λe aq=>R (.error e) aq) D) (gT (aR prog w) A env λe aq=>R (.error e) aq) s)
  (n:Nat) (h:I n s):dH (aR prog w) A (.compLoop (.ListComp cK [⟨B,dL,C,0⟩] scope pos) 0 it bT env) R s:=by
 refine codeAny_loop rfl I (λn s M=>?_) n h
 show aO _ A ((compTurn (.ListComp cK [⟨B,dL,C,0⟩] scope pos) 0 it bT env).onRaise (λx=>do noteFrame x env;theTreesLotGoes x)) _ _ s
 refine wpAny_noted ?_
 rw[compTurn_list]
 refine aP (lP (aP (b_ (turn n s M) (λr D K=>?_) λZ Z av=>av)))
 cases r with
 |none=>exact br K
 |some v=>
  refine aP (b_ K (λZ F N=>?_) λZ Z av=>av)
  refine aP (b_ N (λZ G O=>aP (b_ O (λok E L=>?_) λZ Z av=>av)) λZ Z av=>av)
  cases ok with
  |false=>exact br ⟨rfl,L⟩
  |true=>exact aP (aP (b_ L (λx H P=>aP (b_ P (λZ J kJ=>br (br ⟨rfl,kJ⟩)) λZ Z av=>av)) λZ Z av=>av))
def t4:∀(names:List (aI×iA)) (n:Nat) (bT:List (aI×a7)),fY n names bT=fY n (names.filter λq=>q.2==.cell) bT
 |[],_,_=>rfl
 |(x,k)::r,n,bT=>by
  by_cases h:(k==nZ)=true
  ·rw[As,if_pos (by exact h)]
   unfold fY
   rw[if_pos h,if_pos h,t4 r]
  ·rw[As,if_neg (by exact h)]
   show(if(k==.cell)=true then _ else _)=_
   rw[if_neg h];exact t4 r n bT
def t5:∀(names:List (aI×iA)) (h:bE),pn h names=pn h (names.filter λq=>q.2==.cell)
 |[],_=>rfl
 |(x,k)::r,g=>by
  by_cases h:(k==nZ)=true
  ·rw[As,if_pos (by exact h)]
   unfold pn
   rw[if_pos h,if_pos h,t5 r]
  ·rw[As,if_neg (by exact h)]
   show(if(k==.cell)=true then _ else _)=_
   rw[if_neg h];exact t5 r g
def KR {env:cI}:∀(names:List (aI×iA)) (x:aI),(names.map λ(n,k)=>if(k==f0&&env.scope.kind==.function&&env.kindOf n==some .cell)then(n,nZ)else(n,k)).lookup x=
  match names.lookup x with
  |some k=>some (if(k==f0&&env.scope.kind==.function&&env.kindOf x==some .cell)then .cell else k)
  |none=>none:=by
 intro names x
 induction names with
 |nil=>
  exact rfl
 |cons q r C=>
  obtain⟨n,k⟩:=q
  rw[d4]
  by_cases e:x=n
  ·subst e
   by_cases q:(k==f0&&env.scope.kind==.function&&env.kindOf x==some .cell)=true
   ·dsimp only
    rw[if_pos q,hP,hP,beq_self_eq_true]
    dsimp only
    rw[if_pos q]
   ·dsimp only
    rw[if_neg q,hP,hP,beq_self_eq_true]
    dsimp only
    rw[if_neg q]
  ·have A:(x==n)=false:=beq_eq_false_iff_ne.mpr e
   have:∀B,At x ((n,B)::(r.map λ(n,k)=>if(k==f0&&env.scope.kind==.function&&env.kindOf n==some .cell)then(n,nZ)else(n,k)))=At x (r.map λ(n,k)=>if(k==f0&&env.scope.kind==.function&&env.kindOf n==some .cell)then(n,nZ)else(n,k)):=λB=>by
    rw[hP,A]
   rw[show At x ((n,k)::r)=At x r by rw[hP,A],<-C]
   dsimp only
   split<;>exact this _
section
variable {loc:Loc}
def hx.relabel (a5:bB) (env A:cI) (h:A.scope=n0 a5 env):hx a5 A:=λx=>by
 have e:A.kindOf x=(n0 a5 env).names.lookup x:=by unfold cI.kindOf;rw[h]
 have q:=KR (env:=env) a5.names x
 rw[show(n0 a5 env).names.lookup x=_ from q]at e
 cases B:a5.names.lookup x with
 |none=>trivial
 |some k=>
  rw[B]at e
  clear B
  dsimp only at e
  cases k with
  |«local»=>exact e
  |cell=>exact e
  |free=>
   split at e
   ·exact .inl e
   ·exact .inr e
  |globalImplicit=>exact e
  |_=>trivial
def KS (ah:aZ c f) {ar:bE} {D:aI->Option am} {a5:bB} {K:cI} {C:a7} {d b:Nat} (E:Fr f.aC f.L ar D):q7 c ⟨a5,K,C,ar,f.ao,f.A,d,b⟩:=λs m aj R F ak=>by
 have M:Fr f.aC f.L s.heap D:=E.keeps F.keep
 obtain⟨W,_,_,N,_⟩:=E.ns
 have O:News f.aC f.L s.heap aj:=λq B=>by
  refine⟨(ak q B).1,λe=>?_,?_⟩
  ·have:=(ak q B).2.2;rw[e,N]at this;cases this
  ·cases e:f.aC.get? q.1 with
   |none=>rfl
   |some o=>have:=(ak q B).2.2;rw[E.keep _ _ e]at this;cases this
 obtain⟨X,P,Y,a⟩:=ah.iH s D aj R M O
 have nm:∀b o,ar.get? b=some o->b∉aj.map (·.1):=λb o e q=>by
  obtain⟨z,G,rfl⟩:=ey.mp q,q
  have:=(ak z G).2.2
  rw[this]at e;cases e
 have st:ar.StaysIn (fN s.heap (aj.map (·.1))):=λb o e=>n1 _ (F.keep b o e) (nm b o e)
 obtain⟨Q,es,az,S,T⟩:=F.ns
 have dU:C∉aj.map (·.1):=λq=>by
  obtain⟨z,G,e⟩:=ey.mp q
  exact(ak z G).2.1 e
 have I:=n1 (aj.map (·.1)) S dU
 have J:Fr ar C (fN s.heap (aj.map (·.1))) m:=⟨⟨Q,es,az,I,T⟩,st,F.above⟩
 refine⟨J,P,st,λv aq U=>?_⟩
 obtain⟨g,h,a3,V,H,k⟩:=U
 refine k (J.keeps V.keep) λq B=>⟨(H q B).1,λe=>?_,?_⟩
 ·have:=(H q B).2.2;rw[e,I]at this;cases this
 ·cases e:ar.get? q.1 with
  |none=>rfl
  |some o=>have:=(H q B).2.2;rw[st _ _ e]at this;cases this
def Dj {ar:bE} {D E:aI->Option am} {C:a7} {aj:bc} {h:bE} (A:Fr f.aC f.L ar D) (F:Fr ar C h E) (ak:News ar C h aj):Fr f.aC f.L h D/\News f.aC f.L h aj:=by
 obtain⟨H,_,_,G,_⟩:=A.ns
 refine⟨A.keeps F.keep,λq B=>⟨(ak q B).1,λe=>?_,?_⟩⟩
 ·have:=(ak q B).2.2;rw[e,G]at this;cases this
 ·cases e:f.aC.get? q.1 with
  |none=>rfl
  |some o=>have:=(ak q B).2.2;rw[A.keep _ _ e]at this;cases this
end
def Dk {bu:k0} {scope:bB} {env:cI} {cl:List (aI×a7)} {Q:cI->a9->Prop}
  (h:Q {scope:=scope,locals:=s.heap.objs.size,globals:=env.globals,cells:=fY (s.heap.objs.size+1) scope.names cl,qual:=env.qual,func:=none,code:=env.code,frame:=env.frame,builtins:=env.builtins}
   {s with heap:=pn (s.heap.push {cls:=.type "dict",data:=.dict #[]}) scope.names}):aO bu A (Au scope env.globals cl [] env.qual none .none (some env)) Q E s:=by
 unfold Au
 rw[if_pos (show(some env).isSome=true from rfl)]
 refine aP (wpAny_alloc ?_)
 refine aP (wpAny_layCells _ (λname kind cells=>by cases B:kind==nZ<;>simp[B]) _ _ _ _ ?_)
 rw[show({s with heap:=s.heap.push {cls:=.type "dict",data:=.dict #[]}}:a9).heap.objs.size=s.heap.objs.size+1 from lT ..]
 refine aP ?_
 rw[G_]
 exact br (br h)
inductive Dl (f:bL) (a5:bB) (cells:Option Nat) (free:List Nat):Prop
 |mk (ao:List aI) (ae:free=ao.map aG) (ag:(∀x∈ao,bf x=true/\a5.names.lookup x=some .free/\(f.sc.names.lookup x=some .cell∨f.sc.names.lookup x=some .free))) (ax:∀x,(x,f0)∈a5.names->x∈ao):Dl f a5 cells free
structure nk (f:bL) (a5:bB) (cells:Option Nat) (free:List Nat):Prop where
 kind:a5.kind=.function
 names:∀x∈a5.names,x.2=.local->a5.names.lookup x.1=some .local
 fr:Dl f a5 cells free
 cell:(cells=none/\(a5.names.filter λq=>q.2==.cell)=[])∨∃x,cells=some (aG x)/\bf x=true/\(a5.names.filter λq=>q.2==.cell)=[(x,.cell)]/\a5.names.lookup x=some .cell
 iI:a5.names.lookup (ec "__debug__")=none
 iJ:a5.names.lookup (ec "__classdict__")=none
def pickK (free:List Nat) (loc:Loc):Loc->(Loc->Bool)->Bool:=bW (motive:=λZ=>Loc->(Loc->Bool)->Bool) (λbT k=>k bT) (λx Z A bT k=>f4 (lk loc x) λw=>cz w λZ Z=>A ((x,w)::bT) k) free
def Dm (o:Option Nat) (ab:aA) (A:Loc) (k:aA->Loc->Bool):Bool:=cq (k ab A) (λx=>mk (.cell none) ab λw ab=>k ab ((x,w)::A)) o
def ls (be:Nat->Option O) (fI:Bool) (tg:fb) (cond:c6) (cK:aT) (it bT:V) (k:aY) (cl:b5) (n:Nat):aA->Loc->Bool:=gg (motive:=λZ=>aA->Loc->Bool) a1 (λZ A ab loc=>
 hC be fI it ab (λv ab=>hZ tg v ab loc (λab loc=>cond ab loc (λq ab=>hV q (cK ab loc (λw ab=>jn bT [w] ab (λZ ab=>A ab loc)) ⟨cl,b1⟩) (A ab loc)) ⟨cl,b1⟩)) (λab=>k bT ab)) n
def Dn (be:Nat->Option O) (cells:Option Nat) (free:List Nat) (tg:fb) (cond:c6) (cK:aT) (loc:Loc) (k:aY) (cl:b5) (i:V) (ab:aA):Bool:=mk (.list []) ab (λbT ab=>pickK free loc [] (λA=>Dm cells ab A (λab A=>ls be (gK tg) tg cond cK i bT k cl 100 ab A)))
def rM (be:Nat->Option O) (cells:Option Nat) (free:List Nat) (tg:fb) (it:aT) (cond:c6) (cK:aT):aT:=λab loc k au=>it ab loc (λv ab=>ij be v ab (λi ab=>Dn be cells free tg cond cK loc k au.cl i ab)) au
def t6 (c:b4) (aw:XL c) (g:bL) (b0:c6) (A:List aM):Prop:=(A=[]/\b0=pI)∨∃t,A=[t]/\ST c aw b0 g t
inductive t7 (c:b4) (p:aX) (ar:bE) (C:a7) (bT:am) (k:aY) (aq:a9):Prop
 |mk aD aF x xl aj (ae:p.bN aD) (ag:aE aD x bT) (ax:Fr ar C aq.heap xl) (aS:News ar C aq.heap aj) (bA:aQ c.K c.w aD aF.t aj) (cw:aq.gens=#[]) (cM:aq.os=c.os) (dg:dq aD aF) (ik:aD.n=c.n) (lq:aD.y=c.y) (ot:k x aF=true):t7 c p ar C bT k aq
section
variable {loc:Loc}
def xm (G:db f p loc m):∀(ao:List aI) (bT:Loc) {k:Loc->Bool},(∀x∈ao,bf x=true/\(f.sc.names.lookup x=some .cell∨f.sc.names.lookup x=some .free))->pickK (ao.map aG) loc bT k=true->
  ∃l:List (aI×V),k (l.map (λq=>(aG q.1,q.2))++bT)=true/\(∀q∈l,q.1∈ao/\∃i aB a,q.2=.own i aB/\aE p q.2 (.ref a)/\f.env.cells.lookup q.1=some a)/\∀x∈ao,∃a,f.env.cells.lookup x=some a:=by
 intro ao
 induction ao with
 |nil=>
  intro bT k _ h
  exact⟨[],h,(λq B=>nomatch B),λx A=>nomatch A⟩
 |cons x ao H=>
  intro bT k D h
  obtain⟨k8,A⟩:=D x (.head _)
  obtain⟨w,E,ae⟩:=f5' (show f4 (lk loc (aG x)) (λw=>cz w λZ Z=>pickK (ao.map aG) loc ((aG x,w)::bT) k)=true from h)
  clear h
  obtain⟨i,aB,rfl,ag⟩:=cJ' ae
  rcases G x _ k8 E with⟨q,_⟩|⟨_,L,M,a,e,I,F⟩
  ·rw[q]at A;rcases A with A|A<;>cases A
  clear k8 A E left
  ·obtain⟨l,aK,aW,bH⟩:=H ((aG x,.own i aB)::bT) (λy C=>D y (.tail _ C)) ag
   clear D ag
   refine⟨l++[(x,.own i aB)],by simpa using aK,λq B=>?_,λy C=>?_⟩
   ·rcases gA.mp B with B|B
    ·obtain⟨J,K⟩:=aW q B;exact⟨.tail _ J,K⟩
    ·rw[h7.mp B];exact⟨.head _,i,aB,a,rfl,I,F⟩
   clear aK
   ·rcases bJ.mp C with rfl|C
    ·exact⟨a,F⟩
    ·exact bH y C
def t8 {g:bL}:∀(l:List (aI×V)),(∀q∈l,bf q.1=true/\(g.sc.names.lookup q.1=some .cell∨g.sc.names.lookup q.1=some .free)/\∃i aB a,q.2=.own i aB/\aE p q.2 (.ref a)/\g.env.cells.lookup q.1=some a)->db g p (l.map λq=>(aG q.1,q.2)) m:=by
 intro l
 induction l with
 |nil=>
  intro _
  exactλx v Z h=>by rw[Ht,n_]at h;cases h
 |cons q l A=>
  intro h
  obtain⟨x,v⟩:=q
  obtain⟨ae,ag,i,aB,a,e,ax,aS⟩:=h (x,v) (.head _)
  dsimp only at e
  subst e
  exact(A λq B=>h q (.tail _ B)).tm ae ag ax aS
def Ue (ah:aZ c f) {a5:bB} {cells:Option Nat} {free:List Nat} (ok:nk f a5 cells free) {Hv:V->aA->Loc->Bool} (h:mk (.list []) ab (λbT ab=>pickK free loc [] λM=>Dm cells ab M (Hv bT))=true) (S:ba c f p ab loc s) {cl:List (aI×a7)}
  (k:∀x,(x,f0)∈a5.names->cl.lookup x=f.env.cells.lookup x) {dB:am->cI->Code} {R:bE->a7->am->kh->a9->Prop}
  (dF:∀(ar:bE) (m:aI->Option am) (av aS:bE) (a:a7) (D:aX) (r:aA) (M:Loc) (cls:List (aI×a7)) (an:bc),Fr f.aC f.L ar m->db f p loc m->fp f.A c.base f.ao ar->f.aC.StaysIn ar->p.bN (p.more a a)->aE (p.more a a) (.own ab.ay ab.bz) (.ref a)->(p.more a a).bN D->
   Fr ar av.objs.size aS (λZ=>none)->News ar av.objs.size aS an->aQ c.K c.w D r.t an->dq D r->D.n=c.n->D.y=c.y->(∀x,a5.names.lookup x=some .cell∨a5.names.lookup x=some .free->∃a,cls.lookup x=some a)->
   (∀g:bL,g.sc=a5->g.env.cells=cls->db g D M (λZ=>none))->Hv (.own ab.ay ab.bz) r M=true->
   dH (aR c.prog c.w) f.A (dB (.ref a) {scope:=n0 a5 f.env,locals:=av.objs.size,globals:=f.env.globals,cells:=cls,qual:=f.env.qual,func:=none,code:=f.env.code,frame:=f.env.frame,builtins:=f.env.builtins}) (R ar av.objs.size (.ref a)) {s with heap:=aS}):
  aO (aR c.prog c.w) f.A (newList []) (λbT ap=>aO (aR c.prog c.w) f.A (Au a5 f.env.globals cl [] f.env.qual none .none (some f.env)) (λu aV=>
   ∃ar aq,Fr f.aC f.L ar aq/\db f p loc aq/\fp f.A c.base f.ao ar/\u.locals=ap.heap.objs.size/\dH (aR c.prog c.w) f.A (dB bT {u with scope:=n0 a5 f.env}) (R ar u.locals bT) aV) E ap) E s:=by
 obtain⟨ao,aW,v,as⟩:=ok.fr
 subst aW
 obtain⟨au,ae⟩:=mk_eq h
 obtain⟨m,aj,F,ak,H,N⟩:=S.ex
 obtain⟨l,aa,aY,aw⟩:=xm N ao [] (λx ax=>⟨(v x ax).1,(v x ax).2.2⟩) ae
 clear ae
 refine newList_N F ak (λav a0 O=>?_) (by decide)
 have e1:=p.eZ s.heap.objs.size s.heap.objs.size
 have az:aE (p.more s.heap.objs.size s.heap.objs.size) (.own ab.ay ab.bz) (.ref s.heap.objs.size):=aX.ib S.z
 have aD:=aQ.one (o:=.list []) (e:=0) H S.z au (fw ak) (ll (w:=c.w) (K:=c.K) (p:=p) (n:=0) (xs:=[]) .nil _ (.head _))
 have P:=S.z.more au s.heap.objs.size s.heap.objs.size (e:=0) (T.put (.list []) ab.bz ab.t)
 refine Dk ?_
 have Q:=ah.iH {s with heap:=av} m _ (λZ Z=>True) a0 O
 have U:Fr f.aC f.L (fN av (((s.heap.objs.size,dJ [] 0)::aj).map (·.1))) m:=Q.1
 have af:f.aC.StaysIn (fN av (((s.heap.objs.size,dJ [] 0)::aj).map (·.1))):=Q.2.2.1
 have W:fp f.A c.base f.ao (fN av (((s.heap.objs.size,dJ [] 0)::aj).map (·.1))):=Q.2.1
 clear Q
 refine⟨_,m,U,N,W,rfl,?_⟩
 generalize ko:fN av (((s.heap.objs.size,dJ [] 0)::aj).map (·.1))=ar at U af W⊢
 have a1:∀b o,ar.get? b=some o->av.get? b=some o:=λb o e=>nQ _ (ko▸e)
 have il:∀q∈(s.heap.objs.size,dJ [] 0)::aj,ar.get? q.1=none:=λq B=>by rw[<-ko];exact pe _ (kg B)
 have aH:ar.objs.size=av.objs.size:=by rw[<-ko];exact zS _ _
 obtain⟨l1,l2⟩:(∀q∈l,bf q.1=true/\a5.names.lookup q.1=some .free/\∃i aB a,q.2=.own i aB/\aE p q.2 (.ref a)/\cl.lookup q.1=some a)/\True:=⟨λq B=>by
  obtain⟨a2,i,aB,a,G,I,J⟩:=aY q B
  obtain⟨o1,o2,o3⟩:=v _ a2
  exact⟨o1,o2,i,aB,a,G,I,(k _ (iK o2)).trans J⟩,trivial⟩
 have a8:av.objs.size=(av.push {cls:=.type "dict",data:=.dict #[]}).objs.size-1:=by rw[lT];lia
 have aJ:∀(aS:bE),(∀b o,(av.push {cls:=.type "dict",data:=.dict #[]}).get? b=some o->aS.get? b=some o)->Fr ar av.objs.size aS (λZ=>none):=λaS X=>
  ⟨(bE.Ns.new av (.type "dict")).keeps X,λb o e=>X b o (fO _ (a1 b o e)),gz aH⟩
 have aK:∀(aS:bE),(∀b o,(av.push {cls:=.type "dict",data:=.dict #[]}).get? b=some o->aS.get? b=some o)->News ar av.objs.size aS ((s.heap.objs.size,dJ [] 0)::aj):=λaS X q B=>
  ⟨X _ _ (fO _ (O q B).1),dS (dX (O q B).1),il q B⟩
 have aL:(p.more s.heap.objs.size s.heap.objs.size).n=c.n:=S.n
 have aM:(p.more s.heap.objs.size s.heap.objs.size).y=c.y:=S.y
 rw[t5,t4]
 rcases ok.cell with⟨rfl,aN⟩|⟨x,rfl,aP,ag,Y⟩
 ·rw[aN]
  refine dF _ _ _ _ _ _ _ _ cl _ U N W af e1 az (.refl _) (aJ _ λb o e=>e) (aK _ λb o e=>e) aD P aL aM (λy C=>?_) (λg d j=>?_) aa
  ·rcases C with C|C
   ·exfalso
    have:(y,nZ)∈a5.names.filter λq=>q.2==.cell:=lW.mpr ⟨iK C,rfl⟩
    rw[aN]at this;cases this
   ·have hm:=iK C
    obtain⟨a,ai⟩:=aw y (as y hm)
    exact⟨a,(k y hm).trans ai⟩
  rw[k1]
  exact t8 l λq B=>by
   obtain⟨o1,o2,i,aB,a,G,I,J⟩:=l1 q B
   exact⟨o1,.inr (by rw[d];exact o2),i,aB,a,G,I.ext e1,by rw[j];exact J⟩
 clear ok
 ·rw[ag]
  obtain⟨aT,bA⟩:=mk_eq (show mk (.cell none) (⟨T.put (.list []) ab.bz ab.t,ab.ay+1,g8 ab.bz⟩:aA) (λw aF=>Hv (.own ab.ay ab.bz) aF ((aG x,w)::(l.map (λq=>(aG q.1,q.2))++[])))=true from aa)
  clear aa
  have ek:∀b o,(av.push {cls:=.type "dict",data:=.dict #[]}).get? b=some o->(pn (av.push {cls:=.type "dict",data:=.dict #[]}) [(x,.cell)]).get? b=some o:=λb o e=>pushCells_keeps _ _ b o e
  have a3:(av.push {cls:=.type "dict",data:=.dict #[]}).objs.size=av.objs.size+1:=lT ..
  have aU:(pn (av.push {cls:=.type "dict",data:=.dict #[]}) [(x,.cell)]).get? (av.objs.size+1)=some {cls:=.type "cell",data:=.cell none}:=by
   show((av.push {cls:=.type "dict",data:=.dict #[]}).push {cls:=.type "cell",data:=.cell none}).get? (av.objs.size+1)=_
   rw[<-a3];exact k6 _ rfl
  have a4:∀q∈(s.heap.objs.size,dJ [] 0)::aj,q.1<av.objs.size+1:=λq B=>nM (dX (O q B).1)
  have e5:=(p.more s.heap.objs.size s.heap.objs.size).eZ (av.objs.size+1) (av.objs.size+1)
  have a6:=aQ.one (y:=av.objs.size+1) (bU:={cls:=.type "cell",data:=.cell none}) (o:=.cell none) (e:=0) aD P aT a4 ⟨_,none,by rw[fj];exact .head _,rfl,rfl⟩
  refine dF _ _ _ _ _ _ _ _ ((x,av.objs.size+1)::cl) ((av.objs.size+1,{cls:=.type "cell",data:=.cell none})::(s.heap.objs.size,dJ [] 0)::aj) U N W af e1 az e5 (aJ _ ek) (λq B=>?_) a6 (P.more aT _ _ _) aL aM (λy C=>?_) (λg d j=>?_) bA
  ·rcases bJ.mp B with rfl|B
   ·refine⟨aU,lO (i_ _),?_⟩
    cases e:ar.get? (av.objs.size+1)with
    |none=>rfl
    |some o=>exact absurd (Nat.lt_of_lt_of_eq (dX e) aH) (nK.mpr (nO _))
   ·exact aK _ ek q B
  clear aP bA ek aU
  ·rcases C with C|C
   clear Y
   ·have hm:(y,nZ)∈a5.names.filter λq=>q.2==.cell:=lW.mpr ⟨iK C,rfl⟩
    rw[ag]at hm
    clear ag
    have e:y=x:=congrArg lN (h7.mp hm)
    clear hm
    subst e
    exact⟨av.objs.size+1,by rw[hP];simp⟩
   ·have hm:=iK C
    obtain⟨a,ai⟩:=aw y (as y hm)
    have al:¬y=x:=λe=>by rw[e,Y]at C;cases C
    exact⟨a,by rw[hP,beq_eq_false_iff_ne.mpr al];exact(k y hm).trans ai⟩
  ·rw[k1]
   refine db.tm (t8 l λq B=>?_) aP (.inl (by rw[d];exact Y)) (aX.ib P) (by rw[j,hP];simp)
   obtain⟨o1,o2,i,aB,a,G,I,J⟩:=l1 q B
   have al:¬q.1=x:=λe=>by rw[e,Y]at o2;cases o2
   exact⟨o1,.inr (by rw[d];exact o2),i,aB,a,G,(I.ext e1).ext e5,by rw[j,hP,beq_eq_false_iff_ne.mpr al];exact J⟩
def Do {be:Nat->Option O} (aQ:go c be) (ah:aZ c f) {cK F dL:aM} {G:List aM} {a5:bB} {pos:bO} {cells:Option Nat} {free:List Nat} {tg:fb} {b0:c6} {aV:aT} {it:V} {H:am} {k:aY} {au:ef} (ok:nk f a5 cells free)
  (aa:∀g:bL,aZ c g->g.sc=a5->g.d=f.d+1->g.b=f.b->fc g tg F/\a8 c aw aV g cK/\t6 c aw g b0 G) (hd:f.d+1<=300)
  (h:Dn be cells free tg b0 aV loc k au.cl it ab=true) (S:ba c f p ab loc s) (aU:aE p it H) (ae:df c aw f.b au.cl) {cl:List (aI×a7)} (af:∀x,(x,f0)∈a5.names->cl.lookup x=f.env.cells.lookup x):
  aO (aR c.prog c.w) f.A (newList []) (λbT ag=>aO (aR c.prog c.w) f.A (Au a5 f.env.globals cl [] f.env.qual none .none (some f.env)) (λN a0=>
   ∃ar ai,Fr f.aC f.L ar ai/\db f p loc ai/\fp f.A c.base f.ao ar/\N.locals=ag.heap.objs.size/\
   dH (aR c.prog c.w) f.A (.compStart (.ListComp cK [⟨F,dL,G,0⟩] a5 pos) 0 H bT {N with scope:=n0 a5 f.env})
    (λr aq=>match r with|.ok _=>t7 c p ar N.locals bT k aq|.error _=>False) a0) E ag) E s:=by
 refine Ue (dB:=λbT env=>.compStart (.ListComp cK [⟨F,dL,G,0⟩] a5 pos) 0 H bT env) (R:=λar C bT r aq=>match r with|.ok _=>t7 c p ar C bT k aq|.error _=>False) (Hv:=λbT=>ls be (gK tg) tg b0 aV it bT k au.cl 100) ah ok h S af λar m av aS a J P Q cls a1 a2 a3 a4 U e1 aj e4 a6 a9 a_ bb bc bd bf bg W=>?_
 clear h af a3 a4
 let g:bL:=⟨a5,{scope:=n0 a5 f.env,locals:=av.objs.size,globals:=f.env.globals,cells:=cls,qual:=f.env.qual,func:=none,code:=f.env.code,frame:=f.env.frame,builtins:=f.env.builtins},av.objs.size,ar,f.ao,f.A,f.d+1,f.b⟩
 have M:aZ c g:=by
  refine⟨ah.X.keeps U,ah.T.keeps U,KS ah a2,?_,?_,hd,ah.dp,ah.cj,hx.relabel a5 f.env _ rfl,ok.kind,rfl,ah.globals,ah.builtins,ok.iI,ok.iJ,ah.lc.elim λo h=>⟨o,U _ _ h⟩,ah.kv,bf⟩
  ·show f.A.depth<=500+(f.d+1);have:=ah.depth;lia
  ·show f.A.units<=2000+10*(f.d+1);have:=ah.units;lia
 obtain⟨ak,he,bh⟩:=aa g M rfl rfl rfl
 clear aa
 have al:ba c g J P Q {s with heap:=aS}:=⟨⟨_,a1,a6,a9,a_,bg g rfl rfl⟩,S.gens,S.os,bb,bc,bd⟩
 have an:aE J it H:=aU.ext (e1.trans e4)
 have ap:hC be (gK tg) it P (λv aF=>hZ tg v aF Q (λaF loc=>b0 aF loc (λq aF=>hV q (aV aF loc (λw aF=>jn (.own ab.ay ab.bz) [w] aF (λZ aF=>ls be (gK tg) tg b0 aV it (.own ab.ay ab.bz) k au.cl 99 aF loc)) ⟨au.cl,b1⟩) (ls be (gK tg) tg b0 aV it (.own ab.ay ab.bz) k au.cl 99 aF loc)) ⟨au.cl,b1⟩)) (λaF=>k (.own ab.ay ab.bz) aF)=true:=W
 have as:dH (aR c.prog c.w) g.A (.compLoop (.ListComp cK [⟨F,dL,G,0⟩] a5 pos) 0 H (.ref a) g.env) (λr aq=>match r with|.ok _=>t7 c p ar av.objs.size (.ref a) k aq|.error _=>False) {s with heap:=aS}:=by
  clear ap
  refine Di (I:=λn aq=>jp c g J (λaF bi=>ls be (gK tg) tg b0 aV it (.own ab.ay ab.bz) k au.cl n aF bi) aq) (λn aq bk=>?_) 100 ⟨J,P,Q,aX.bN.refl J,al,W⟩
  obtain⟨bM,bl,bm,Y,bn,i⟩:=bk
  clear W
  cases n with
  |zero=>cases i
  |succ n=>
   have ax:hC be (gK tg) it bl (λv aF=>hZ tg v aF bm (λaF loc=>b0 aF loc (λq aF=>hV q (aV aF loc (λw aF=>jn (.own ab.ay ab.bz) [w] aF (λZ aF=>ls be (gK tg) tg b0 aV it (.own ab.ay ab.bz) k au.cl n aF loc)) ⟨au.cl,b1⟩) (ls be (gK tg) tg b0 aV it (.own ab.ay ab.bz) k au.cl n aF loc)) ⟨au.cl,b1⟩)) (λaF=>k (.own ab.ay ab.bz) aF)=true:=i
   clear i
   have e05:=e4.trans Y
   refine b_ (p0 (t:=F) (f7:=gT (aR c.prog c.w) g.A g.env λe aq=>False) (E:=gT (aR c.prog c.w) g.A g.env λe aq=>False) aQ M (Dd ak) ax bn (an.ext Y)) (λr bP j=>?_) λZ Z h=>h
   clear ax
   cases r with
   |none=>
    obtain⟨bo,bp,az,D,bq⟩:=j
    obtain⟨br,bs,aK,aW,bH,cV⟩:=D.ex
    exact⟨bo,bp,_,br,bs,(e1.trans e05).trans az,(aj.ext e05).ext az,aK,aW,bH,D.gens,D.os,D.z,D.n,D.y,bq⟩
   |some v=>
    refine pY j (λZ bQ bR bS x bt bu bv aA=>?_)
    clear j
    refine rE (rF (E:=gT (aR c.prog c.w) g.A g.env λe aq=>False) ak M aA bv bu) (λZ aB K aD B bw aG aH=>?_)
    clear aA
    have e58:=(Y.trans bt).trans bw
    have bx:aO (aR c.prog c.w) g.A (forIn G true λc r=>if r=true then do let ok<-isTrue c g.env (dP c g.env);pure (s5 ok)else pure (s5 r)) (mf c g K B (λq aF=>hV q (aV aF B (λw aF=>jn (.own ab.ay ab.bz) [w] aF (λZ aF=>ls be (gK tg) tg b0 aV it (.own ab.ay ab.bz) k au.cl n aF B)) ⟨au.cl,b1⟩) (ls be (gK tg) tg b0 aV it (.own ab.ay ab.bz) k au.cl n aF B))) (gT (aR c.prog c.w) g.A g.env λe aq=>False) aB:=by
     rcases bh with⟨rfl,rfl⟩|⟨t,rfl,bj⟩
     ·exact wpAny_tests_nil ⟨K,aD,aX.bN.refl K,aG,aH⟩
     ·exact wpAny_tests_one (bj aD B _ ⟨au.cl,b1⟩ K aB _ aH aG (aw.no g K _) ae)
    refine kw bx (λq bA l aJ u aL aN=>?_)
    cases q with
    |false=>exact⟨n,i_ _,l,aJ,B,e58.trans u,aL,aN⟩
    |true=>
     rw[if_pos rfl]
     refine cy (he aJ B _ ⟨au.cl,b1⟩ l bA (gT (aR c.prog c.w) g.A g.env λe aq=>False) aN aL (aw.no g l _) ae) (λbU bV bW bX hS aP bC bD bE=>?_)
     refine cy (w8 (f:=g) (E:=gT (aR c.prog c.w) g.A g.env λe aq=>False) M bE bD (aj.ext (e4.trans ((e58.trans u).trans aP))) (.cons bC .nil)) (λZ bY bF bG Z bI Z bJ bK=>?_)
     exact⟨n,i_ _,bF,bG,B,((e58.trans u).trans aP).trans bI,bJ,bK⟩
 exact codeAny_compStart_list as (Dg (f:=g) ap al an as)
end
section
variable {loc:Loc}
def Dp {ar h av:bE} {D:aI->Option am} {C:a7} {aj:bc} (B:Fr f.aC f.L ar D) (E:ar.objs.size<=C) (F:Fr f.aC f.L h m) (ak:News f.aC f.L h aj) (G:∀q∈aj,q.1≠C) (hs:k2 C h av):Fr f.aC f.L av m/\News f.aC f.L av aj:=by
 obtain⟨J,_,_,H,_⟩:=B.ns
 have il:∀b o,ar.get? b=some o->b≠C:=λb o e z=>absurd (dX e) (by rw[z];exact nK.mpr E)
 refine⟨Fr.but F λb o I e=>hs.extBut b o ?_ e,λq A=>⟨hs.extBut _ _ (G q A) (ak q A).1,(ak q A).2⟩⟩
 clear e
 rcases I with rfl|⟨bC,bF⟩
 ·exact il _ _ H
 ·exact il _ _ (B.keep _ _ bF)
def xn (ah:aZ c f) {a5:bB} {cells:Option Nat} {free:List Nat} (ok:nk f a5 cells free):∃cl,s6 a5 f.env=pure cl/\(∀x,(x,f0)∈a5.names->cl.lookup x=f.env.cells.lookup x)/\∀x,(x,f0)∉a5.names->cl.lookup x=none:=by
 obtain⟨ao,D,A,B⟩:=ok.fr
 exact Dh λx C=>ah.me x (A x (B x C)).2.2
def Dq {be:Nat->Option O} (B:go c be) (ah:aZ c f) {cK C dL:aM} {D:List aM} {a5:bB} {pos:bO} {cells:Option Nat} {free:List Nat} {tg:fb} {ci aV:aT} {b0:c6} (ok:nk f a5 cells free) (hs:g0 dL=true) (af:a8 c aw ci f dL)
  (J:∀g:bL,aZ c g->g.sc=a5->g.d=f.d+1->g.b=f.b->fc g tg C/\a8 c aw aV g cK/\t6 c aw g b0 D) (hd:f.d+1<=300):a8 c aw (rM be cells free tg ci b0 aV) f (.ListComp cK [⟨C,dL,D,0⟩] a5 pos):=λab loc k au p s E h S K F=>by
 rw[eval_ListComp]
 obtain⟨cl,L,M,_⟩:=xn ah ok
 refine Hu (use:=none) rfl (p1 hs) L ok.kind ok.names (cy (af ab loc _ au p s E h S K F) (λv ai bt bw y N P Q R=>?_))
 refine cy (pW B ah R Q P) (λaj ak al am an T U V W=>?_)
 refine b_ (Do (aw:=aw) (pos:=pos) (dL:=dL) B ah ok J hd W V U F M) (λbT ao X=>b_ X (λap as Y=>?_) λZ Z h=>h) λZ Z h=>h
 obtain⟨ar,a,G,e,_,ax,i⟩:=Y
 refine hp i λr aq H=>?_
 cases r with
 |error x=>exact H.elim
 |ok bg=>
  obtain⟨aD,aF,x,j,l,bF,m,A,I,n,g1,g2,g3,o,dY,aB⟩:=H
  refine⟨j,A.ns,λav t=>?_⟩
  obtain⟨u,w⟩:=Dj G A I
  obtain⟨aa,ae⟩:=Dp G A.above u w (λq ag=>(I q ag).2.1) t
  exact⟨aD,aF,x,(N.trans T).trans bF,m,⟨⟨a,l,aa,ae,n,e.ext bF⟩,g1,g2,g3,o,dY⟩,aB⟩
def KT {be:Nat->Option O} (M:go c be) (ah:aZ c f) {cK C dL:aM} {D:List aM} {a5:bB} {pos p3 fy:bO} {V:fb} {cells:Option Nat} {free:List Nat} {tg:fb} {ci aV:aT} {b0:c6} (ok:nk f a5 cells free) (hs:g0 dL=true) (af:a8 c aw ci f dL)
  (W:∀g:bL,aZ c g->g.sc=a5->g.d=f.d+1->g.b=f.b->fc g tg C/\a8 c aw aV g cK/\t6 c aw g b0 D) (hd:f.d+1<=300) (X:fc f V (.Name y fy)):
  dK c aw (ni V (rM be cells free tg ci b0 aV)) f (.Assign [.Name y fy] (.ListComp cK [⟨C,dL,D,0⟩] a5 pos) p3):=λab loc a2 au p s E h S Y N=>by
 obtain⟨b,a,t⟩:∃b:Bool,sZ (.ListComp cK [⟨C,dL,D,0⟩] a5 pos) (some (.Name y fy)) p3.line f.env=pure b/\(b=true->f.env.kindOf y=some .local):=by
  refine⟨_,rfl,λq=>?_⟩
  simp only[ed]at q
  exact beq_iff_eq.mp q.1.1.2
 cases b with
 |false=>
  refine wpAny_Assign_Name (cy (Dq (aw:=aw) M ah ok hs af W hd ab loc _ au p s E h S Y N) (λv w bt bw u F G H I=>?_)) a
  clear h
  cases X with
  |n k8 B=>exact pV ah k8 B H G λaq P=>⟨bt,bw,_,Fl.next,F,rfl,P,I⟩
  |c k8 B=>exact tS (aB:=λab=>a2 .next ab loc) ah k8 B I H G λaq aF P aa=>⟨bt,aF,loc,Fl.next,F,rfl,P,aa⟩
 |true=>
  have R:=t rfl
  cases X with
  |c k8 B=>
   have:=ah.em y;rw[B]at this
   rw[show f.env.kindOf y=some .cell from this]at R;cases R
  |n k8 B=>
   rw[exec_Assign_Name_used _ _ _ _ a]
   refine aP (lP (aP ?_))
   show aO _ f.A (do let _<-comprehension (.ListComp cK [⟨C,dL,D,0⟩] a5 pos) a5 f.env _ (newList []) false (dP dL f.env) (some (lV (.Name y fy) f.env))) _ _ s
   obtain⟨cl,ae,ag,_⟩:=xn ah ok
   refine aP (b_ (Hu (use:=some (lV (.Name y fy) f.env)) (Q:=λZ aq=>le c f p a2 .next aq) rfl (p1 hs) ae ok.kind ok.names
    (cy (af ab loc _ au p s E h S Y N) (λv w bt bw aK F G H I=>?_))) (λZ aq T=>br (br T)) λZ Z e=>e)
   refine cy (pW M ah I H G) (λaL aN aQ aR aS ai aj ak al=>?_)
   refine b_ (Do (aw:=aw) (pos:=pos) (dL:=dL) M ah ok W hd al ak aj N ag) (λbT aU i=>b_ i (λam aW an=>?_) λZ Z h=>h) λZ Z h=>h
   obtain⟨ar,ao,U,ap,_,aX,as⟩:=an
   refine hp as λr aq j=>?_
   cases r with
   |error x=>exact j.elim
   |ok bg=>
    obtain⟨aD,aF,x,av,ax,bF,ay,J,k,az,g1,g2,g3,aA,dY,aB⟩:=j
    obtain⟨l,aC⟩:=Dj U J k
    obtain⟨aY,_,_,aE,_⟩:=U.ns
    have aG:f.L≠am.locals:=λz=>absurd (dX aE) (by rw[z];exact nK.mpr J.above)
    show aO _ f.A (lV (.Name y fy) f.env bT) _ _ _
    refine Ai (v5 (m:=ao) R (ah.locals▸l.ns) (λa0 o K=>?_) (by rw[ah.kind];rfl))
    rw[ah.locals]at o K
    refine⟨av,J.ns.sameBut K (h6 aG),λi aH=>?_⟩
    obtain⟨aI,aJ⟩:=Dp U J.above (l.set o K) (aC.set K) (λq T=>(k q T).2.1) aH
    exact⟨aD,aF,_,Fl.next,(F.trans ai).trans bF,rfl,⟨⟨_,ax,aI,aJ,az,(ap.ext bF).set k8 B ay⟩,g1,g2,g3,aA,dY⟩,aB⟩
end
section
open PySem.F in
def t9:plainId "dict.update.loop"=true:=by decide+kernel
open PySem.F in
def Dr:entryFor table "dict.update.loop"=some ge.«dict.update.loop»:=by first|exact entryFor_of_fast (by kernel_rfl)|exact entryFor_of_tree (by kernel_rfl)
def KU {prog:ew} {d a:a7} {xs:List (List (aI⊕Int)×a7×am)} {az:Nat} {k:List (aI⊕Int)} {v:am} {Q:Unit->a9->Prop} (G:(eT (dR prog w)).room A)
  (k8:s.heap.get? d=some (dd (xs.map (h8 (eT (dR prog w)))) az)) (I:∀x∈xs,nU (dR prog w) s.heap x.1 x.2.1) (C:(xs.map (·.1)).Nodup) (H:nU (dR prog w) s.heap k a) (N:xs.length<=1000)
  (J:ht xs k=none->∀av,av.get? d=some (dd ((xs++[(k,a,v)]).map (h8 (eT (dR prog w)))) (az+1))->k2 d s.heap av->Q () {s with heap:=av,toks:=s.toks+(k.length+1)})
  (K:(ht xs k).isSome=true->∀av,av.get? d=some (dd ((xs.map (putAt k v)).map (h8 (eT (dR prog w)))) az)->k2 d s.heap av->Q () {s with heap:=av,toks:=s.toks+(k.length+1)}):
  aO (aR prog w) A (pg d (.ref a) v) Q E s:=by
 have bj:s.TypeIs (.ref d) "dict":=⟨_,k8,rfl⟩
 unfold pg
 try with_reducible refine gB ?_
 refine aP ((eT (dR prog w)).pyHash (k:=k) G H ?_)
 unfold dictSetHashed
 try with_reducible refine gB ?_
 refine aP (wpAny_dictFind_heap (s:={s with toks:=s.toks+(k.length+1)}) (xs:=xs) G H k8 rfl (by simp) I C (λL=>?_) λj q B=>?_)
 ·have D:ht xs k=none:=by
   unfold ht
   rw[Ha,Hb]
   intro x M F
   obtain⟨j,B⟩:=Hc M
   have F:=of_decide_eq_true F
   exact L j x.2 (by rw[B,<-F])
  refine aP (ph (G3 (s:={s with toks:=s.toks+(k.length+1)}) (hz:=by simp;have:hr=16777216:=rfl;lia) k8 rfl (J D _ ?_ (k3 ..))))
  rw[ki _ k8 (by rfl)]
  congr 1
  simp[G4,dd,h8]
 ·have D:(ht xs k).isSome=true:=by rw[atKey_of_get C B];rfl
  refine aP (ph (aP (G1 (s:={s with toks:=s.toks+(k.length+1)}) k8 rfl (wpAny_point (K D _ ?_ (k3 ..))))))
  rw[ki _ k8 (by rfl)]
  congr 1
  have e:=modify_map_putAt (h8 (eT (dR prog w))) (λe=>{e with val:=v}) k v (λa O=>rfl) C B
  show sP (λa=>a.modify j _) (dd _ az)=dd _ _
  simp only[sP,G2]
  rw[e]
end
inductive p4 (prog:ew) (w:cv) (h:bE) (v:am) (q:List (aI⊕Int)×a7×am):Prop
 |mk t (ae:v=.ref t) (ag:h.IsTuple t #[.ref q.2.1,q.2.2]) (ax:nU (dR prog w) h q.1 q.2.1):p4 prog w h v q
def KV {h av:bE} {t:a7} {xs:Array am} (x:h.IsTuple t xs) (af:∀b o,h.get? b=some o->av.get? b=some o):av.IsTuple t xs:=by
 obtain⟨o,k8,r⟩:=x;exact⟨o,af _ _ k8,r⟩
def Ds {K:Type} [DecidableEq K] {prog:ew} {em:KeyKind prog w K} {h av:bE} {k:List K} {a:a7} (x:nU em h k a) (af:∀b o,h.get? b=some o->av.get? b=some o):nU em av k a:=by
 obtain⟨o,i,n,k8,r⟩:=x;exact⟨o,i,n,af _ _ k8,r⟩
def Dt {h av:bE} {t:a7} {xs:Array am} (x:h.IsList t xs) (af:∀b o,h.get? b=some o->av.get? b=some o):av.IsList t xs:=by
 obtain⟨o,k8,r⟩:=x;exact⟨o,af _ _ k8,r⟩
def All2.at {bd ca:Type} {R:bd->ca->Prop}:∀{l A},All2 R l A->∀{i:Nat} (h:i<l.length) (av:i<A.length),R l[i] A[i]:=by
 intro l A h
 induction h with
 |nil=>exactλh Z=>absurd h (iD _)
 |cons h _ B=>
  intro i a b
  cases i with
  |zero=>exact h
  |succ i=>exact B (pi a) (pi b)
def All2.right {bd ca:Type} {R:bd->ca->Prop}:∀{l B},All2 R l B->∀b∈B,∃a,R a b:=by
 intro l B h
 induction h with
 |nil=>
  intro b A
  cases A
 |cons h t C=>
  intro b A
  rcases bJ.mp A with rfl|A
  ·exact⟨_,h⟩
  ·exact C b A
def p4.inc {prog:ew} {h av:bE} {v:am} {q} (x:p4 prog w h v q) (af:∀b o,h.get? b=some o->av.get? b=some o):p4 prog w av v q:=by
 obtain⟨t,e,a,b⟩:=x;exact⟨t,e,KV a af,Ds b af⟩
def KW {K:Type} [DecidableEq K] {xs:List (K×a7×am)} {k:K} (h:k∉xs.map (·.1)):ht xs k=none:=by
 unfold ht
 rw[Ha,Hb]
 intro x A B
 exact h (of_decide_eq_true B▸ey.mpr ⟨x,A,rfl⟩)
section
variable {prog:ew}
def KX {R:kh->a9->Prop} {aC:bE} {l d I:a7} {ai:List am} {al:List (List (aI⊕Int)×a7×am)} (cj:A.handled=none) (Y:(eT (dR prog w)).room A.in1)
  (P:aC.IsList l ai.toArray) (c0:All2 (p4 prog w aC) ai al) (Q:(al.map (·.1)).Nodup) (a:al.length<=1000) (hd:aC.get? d=none) (c:aC.get? I=none) (G:d≠I):
  ∀(k i:Nat) (s:a9) (u:Tok),al.length-i=k->i<=al.length->(∀b o,aC.get? b=some o->s.heap.get? b=some o)->s.heap.IsListIter I l i->s.heap.get? d=some (dd ((al.take i).map (h8 (eT (dR prog w)))) i)->
   (∀av f,(∀b o,b≠I->b≠d->s.heap.get? b=some o->av.get? b=some o)->av.get? d=some (dd (al.map (h8 (eT (dR prog w)))) al.length)->R (.ok (.ret .none)) {s with heap:=av,toks:=f})->
   dH (aR prog w) A (.builtin "dict.update.loop" ⟨[.ref d,.ref I,.int i u,.none],[]⟩) R s:=by
 have S:ai.length=al.length:=c0.len
 intro k
 induction k with
 |zero=>
  intro i s u C hle D H E J
  have af:i=al.length:=Nat.le_antisymm hle (Nat.le_of_sub_eq_zero C)
  clear C hle
  subst af
  refine codeAny_builtin Dr ?_
  rw[TY t9 _]
  show aO _ A.in1 (jb (.ref I)>>=_) _ _ s
  refine aP (wpAny_pyNext_list_end cj H (Dt P D) (by simp[S]) λav he=>?_)
  show aO _ A.in1 (ge.Dict.addKeywords d []>>=_) _ _ _
  refine aP (br ?_)
  exact br (J av _ (λb o F Z=>he b o F) (by rw[List.take_length]at E;exact he d _ G E))
 |succ k g=>
  intro i s u C hle D H E J
  have B:i<al.length:=Nat.lt_of_sub_eq_succ C
  have K:i<ai.length:=cH B (gz S.symm)
  obtain⟨t,L,h,aq⟩:=(c0.at K B).inc D
  clear h
  refine codeAny_builtin Dr ?_
  rw[TY t9 _]
  show aO _ A.in1 (jb (.ref I)>>=_) _ _ s
  refine aP (wpAny_pyNext_list_item H (Dt P D) (x:=.ref t) (by simp[K,L]) λav j hs=>?_)
  have M:∀b o,aC.get? b=some o->av.get? b=some o:=λb o e=>by
   rw[hs.2 b (λq=>by rw[q,c]at e;cases e)];exact D b o e
  have m:av.get? d=some _:=(hs.2 d G).trans E
  have n:=(c0.at K B).inc M
  obtain⟨bZ,T,N,p⟩:=n
  have:bZ=t:=by clear N;rw[L]at T;cases T;rfl
  clear L
  subst this
  show aO _ A.in1 (sN [.ref bZ] _>>=_) _ _ _
  refine aP (gB ?_)
  show aO _ A.in1 (tryCatch (TZ (.ref bZ)) _>>=_) _ _ _
  refine aP (wpAny_tryCatch ?_)
  unfold TZ
  have bj:({s with heap:=av}:a9).TypeIs (.ref bZ) "tuple":=N.typeIs
  refine aP (wpAny_typeOf bj ?_)
  rw[if_pos (by decide)]
  obtain⟨ar,r,as,au,y⟩:=N
  refine aP (wpAny_seqItems r y (br ?_))
  show aO _ A.in1 (sN [_,_] (pg d (.ref (al[i]).2.1) (al[i]).2.2)) _ _ _
  refine gB ?_
  have split:al=al.take i++al[i]::al.drop (i+1):=by rw[<-List.drop_eq_getElem_cons B,po]
  have aa:al[i].1∉(al.take i).map (·.1):=by
   have U:=Q
   rw[split,nN,pb]at U
   exactλhm=>U.2.2 _ hm _ (by rw[d4];exact .head _) rfl
  refine KU Y m (λx ab=>?_) (Q.sublist ((List.take_sublist i al).map _)) p (by simp;exact c5 (Nat.min_le_right _ _) a) (λZ ag V O=>?_) (λW=>?_)
  ·obtain⟨v,b8,_,_,ae⟩:=c0.right x (List.mem_of_mem_take ab)
   exact Ds ae M
  ·have ah:∀b o,aC.get? b=some o->ag.get? b=some o:=λb o e=>by
    rw[O.2 b (λq=>by rw[q,hd]at e;cases e)];exact M b o e
   have e1:al.take i++[(al[i].1,al[i].2.1,al[i].2.2)]=al.take (i+1):=by rw[List.take_succ_eq_append_getElem B]
   rw[e1]at V
   obtain⟨aj,ak,an⟩:=j
   refine br ⟨plainId_quiet t9 _,g (i+1) _ 0 (by rw[Nat.sub_succ,C];rfl) B ah ⟨aj,(O.2 I (h6 G)).trans ak,an⟩ V λax dI ao ap=>?_⟩
   exact J ax dI (λb o F X e=>ao b o F X (by rw[O.2 b X];exact(hs.2 b F).trans e)) ap
  ·rw[KW aa]at W;cases W
end
def KY:typeLookup (.type "list") "keys"=pure none:=by rw[typeLookup_type,builtinLookup_eq_fast];kernel_rfl
def KZ {prog:ew} {a:a7} {xs:Array am} {k:Nat} {bs:Array (Option am)} {Q:Option am->a9->Prop}
  (B:s.heap.get? a=some {cls:=.type "list",dict:=none,data:=.seq xs k,slots:=bs}) (G:A.handled=none)
  (h:∀av bo,(∀b o,s.heap.get? b=some o->av.get? b=some o)->Q none {s with heap:=av,toks:=bo}):aO (aR prog w) A (getAttr? (.ref a) "keys") Q E s:=by
 obtain⟨c0,g,d,bo,os⟩:=s
 have bj:∀C,(⟨c0,g,d,C,os⟩:a9).TypeIs (.ref a) "list":=λZ=>⟨_,B,rfl⟩
 have H:=sub_AttributeError
 have I:=F.slot_list_getattribute.lookup
 have J:=F.slot_list_getattribute.bind (.ref a)
 have K:=am_list_getattr_none
 unfold getAttr? getAttrBy? getAttrBy
 repeat (any_goals (first|assumption|exact bj _|((with_reducible show aO _ _ (call (v3 "list.__getattribute__") _ _) _ _ _);refine call_meets F.slot_list_getattribute (bj _) am_entry_list_getattribute (F.args_list_getattribute_2 _ _) (meets_getattribute_miss_list a xs k bs "keys" _ KY (by decide+kernel)) ⟨B,G,λav C e D=>?_⟩)|wp_step))
 obtain⟨bZ,L,he⟩:=D.there
 show aO _ _ (getattributeRaised _ _ _ _ _ _ _) _ _ _
 unfold getattributeRaised
 repeat (any_goals (first|assumption|wp_step))
 exact h _ _ D.keeps
def xo (ai:List V) (k:V->V->Bool):Bool:=bW false (λa l Z=>bW false (λb m Z=>ne m (k a b)) l) ai
def tL' {ai:List V} {k:V->V->Bool} (h:xo ai k=true):∃a b,ai=[a,b]/\k a b=true:=by
 cases ai with
 |nil=>cases h
 |cons a l=>cases l with
  |nil=>cases h
  |cons b m=>
   obtain⟨rfl,h⟩:=tO' (show ne m (k a b)=true from h),h
   exact⟨a,b,rfl,h⟩
def xp (ab:aA) (xs:List V):(ih->Bool)->Bool:=bW (motive:=λZ=>(ih->Bool)->Bool) (λk=>k []) (λx Z A k=>cz x λZ aB=>ic (bn ab aB) λB=>xo B λa b=>jj ab a λa2=>A λl=>aN (hq (m_ l a2)) (k (((a,a2),b)::l))) xs
section
variable {loc:Loc} {aj:bc}
def K0 {a2:List V} {k:List (aI⊕Int)} (A:All2 kr a2 k):∀{l:ih} {xs:List (List (aI⊕Int)×a7×am)},All2 (kB p) l xs->k∈xs.map (·.1)->m_ l a2=true:=by
 intro l xs B
 induction B with
 |nil=>intro h;cases h
 |@cons b x l xs C _ D=>
  intro hm
  show pj (ig b.1.2 a2) (m_ l a2)=true
  rw[d4]at hm
  rcases bJ.mp hm with rfl|hm
  ·rw[rr C.2.1 A];simp
  ·rw[D hm]at⊢;cases ig b.1.2 a2<;>rfl
def K1' (ak:News f.aC f.L s.heap aj) (H:aQ c.K c.w p ab.t aj):∀{xs:List V} {ai:List am} {k:ih->Bool},xp ab xs k=true->All2 (aE p) xs ai->
  ∃es al,k es=true/\All2 (kB p) es al/\All2 (p4 c.prog c.w s.heap) ai al/\(al.map (·.1)).Nodup:=by
 intro xs ai k h r
 induction r generalizing k with
 |nil=>
  exact⟨[],[],h,All2.nil,All2.nil,List.nodup_nil⟩
 |@cons x v xs ai E t F=>
  obtain⟨i,aB,rfl,ae⟩:=cJ' (show cz x (λZ aB=>ic (bn ab aB) λA=>xo A λa b=>jj ab a λa2=>xp ab xs λl=>aN (hq (m_ l a2)) (k (((a,a2),b)::l)))=true from h)
  clear h
  obtain⟨A,g,ag⟩:=m8' ae
  obtain⟨a,b,rfl,ax⟩:=tL' ag
  obtain⟨G,P,zs,rfl,ga,sc,aS⟩:=od' ax
  obtain⟨es,al,aK,aW,bH,cV⟩:=F aS
  clear aS
  obtain⟨af,rfl,rfl⟩:=E
  dsimp only[bP]at g
  obtain⟨cS,it,rt⟩:=aQ.tup ak H af g
  clear g
  cases rt with
  |cons B rt=>cases rt with
   |cons I rt=>
    cases rt
    have J:=B
    obtain⟨M,rfl,rfl⟩:=B
    obtain⟨a2,N,C⟩:=pS (prog:=c.prog) ak H M ga sc
    obtain⟨D,O⟩:=an aK
    refine⟨_,(a2,p.a G,_)::al,O,All2.cons ⟨⟨_,_,rfl⟩,C,J,I⟩ aW,All2.cons ⟨p.a i,rfl,it,N⟩ bH,?_⟩
    rw[d4,g7]
    refine⟨λhm=>?_,cV⟩
    rw[K0 C aW hm]at D;cases D
def Du (v:V) (ab:aA) (k:aY):Bool:=cz v λZ aB=>fv (bn ab aB) λxs=>xp ab xs λes=>aN (dc es.length 1000) (mk (.tdict 0 es) ab k)
def K2 (ah:aZ c f) {val:am} {k:aY} (h:Du v ab k=true) (S:ba c f p ab loc s) (O:aE p v val):aO (aR c.prog c.w) f.A (call (.type "dict") [val] []) (cb c f p loc k) E s:=by
 obtain⟨i,aB,rfl,P⟩:=cJ' h
 obtain⟨af,rfl,rfl⟩:=O
 obtain⟨m,aj,F,ak,H,Q⟩:=S.ex
 obtain⟨xs,g,R⟩:=gn' P
 dsimp only[bP]at g
 obtain⟨ai,n,U,V⟩:=H.ent i _ af g
 obtain⟨es,al,kF,aW,bH,cV⟩:=K1' ak H R V
 obtain⟨cW,hm⟩:=an kF
 have y:es.length<1000:=ce cW
 have W:al.length<=1000:=by rw[<-aW.len];lia
 obtain⟨hs,X⟩:=mk_eq hm
 have aa:=m6 ah
 have C:=ak.get U
 refine callType_codes (Q₁:=λobj I=>obj=.ref s.heap.objs.size/\I={s with heap:=s.heap.push {cls:=.type "dict",data:=.dict #[]}}) PySem.F.kt_called_dict (PySem.F.kt_typeCall_dict_1 _) PySem.F.entry_dict_init (kt_code_dict_new _ ⟨rfl,rfl⟩) ?_
 rintro obj I ⟨rfl,rfl⟩
 have J:=aH F ak {cls:=.type "dict",data:=.dict #[]}
 have G:=(J _ (.head _)).1
 have B:∀b o,s.heap.get? b=some o->(s.heap.push {cls:=.type "dict",data:=.dict #[]}).get? b=some o:=λb o e=>fO _ e
 have bj:({s with heap:=s.heap.push {cls:=.type "dict",data:=.dict #[]}}:a9).TypeIs (.ref s.heap.objs.size) "dict":=⟨_,G,rfl⟩
 refine⟨bj,PySem.F.args_dict_init_2 _ _,?_⟩
 unfold ge.«dict.__init__»
 refine aP ?_
 unfold ge.Dict.selfAndRest
 refine aP (sS bj ?_)
 show aO _ _ (pure (s.heap.objs.size,[fq (p.a i)])) _ _ _
 refine br ?_
 show aO _ _ (T0 "dict.__init__" s.heap.objs.size (.ref (p.a i)) [] .none) _ _ _
 unfold T0
 refine aP (wpAny_typeOf (T:="list") ⟨_,B _ _ C,rfl⟩ ?_)
 rw[if_pos (by decide)]
 refine aP (KZ (B _ _ C) ah.cj λae t1 cr=>?_)
 rw[if_pos (show(none:Option am).isNone=true from rfl)]
 refine aP (ph ?_)
 have Y:ae.IsList (p.a i) ai.toArray:=⟨_,cr _ _ (B _ _ C),rfl,n,rfl⟩
 refine aP (wpAny_pyIter_list (s:={s with heap:=ae,toks:=t1}) Y ?_)
 have d:s.heap.objs.size<ae.objs.size:=dX (cr _ _ G)
 refine br ⟨plainId_quiet t9 _,?_⟩
 have K:s.heap.get? ae.objs.size=none:=by
  cases e:s.heap.get? ae.objs.size with
  |none=>rfl
  |some o=>exact absurd (dX (cr _ _ (B _ _ e))) (nL _)
 have M:s.heap.get? s.heap.objs.size=none:=bE.get?_none_of_le (eh _)
 refine KX (aC:=s.heap) (l:=p.a i) (ai:=ai) (al:=al) (A:=f.A.in1) ah.cj (by show f.A.units+1+1<hO;lia) ⟨_,C,rfl,n,rfl⟩ bH cV W M K (dS d) al.length 0 _ 0 rfl (hL _)
  (λb o e=>fO _ (cr _ _ (B _ _ e))) ⟨_,k6 _ rfl,rfl,rfl⟩ (fO _ (cr _ _ G)) λav j r t=>⟨rfl,?_⟩
 have N:∀b o,s.heap.get? b=some o->av.get? b=some o:=λb o e=>r b o (λq=>by rw[q,K]at e;cases e) (λq=>by rw[q,M]at e;cases e) (fO _ (cr _ _ (B _ _ e)))
 have u:Fr f.aC f.L av m:=F.keeps N
 have x:News f.aC f.L av ((s.heap.objs.size,dd (al.map (h8 (eT (dR c.prog c.w)))) al.length)::aj):=λq D=>by
  rcases bJ.mp D with rfl|D
  ·exact⟨t,(J _ (.head _)).2⟩
  ·exact⟨N _ _ (ak q D).1,(ak q D).2⟩
 show cb c f p loc k (.ref s.heap.objs.size) {s with heap:=av,toks:=j}
 refine⟨p.da s.heap.objs.size s.heap.objs.size al.length,_,.own ab.ay ab.bz,p.kt _ _ _,aX.ib S.z,rg (o:=.tdict 0 es) S H Q hs u x (fw ak) (λa3 hm=>⟨al.map (h8 (eT (dR c.prog c.w))),?_,(tC aW).imp λZ Z=>ks.ext (p.kt _ _ _)⟩),X⟩
 rw[fj,wH];exact hm
def Dv (v:V) (ab:aA) (k:aY):Bool:=pj (CS v ab k) (Du v ab k)
def K3 (ah:aZ c f) {val:am} {k:aY} (h:Dv v ab k=true) (S:ba c f p ab loc s) (B:aE p v val):aO (aR c.prog c.w) f.A (call (.type "dict") [val] []) (cb c f p loc k) E s:=by
 rcases Bool.or_eq_true_iff.mp h with h|h
 ·exact J3 ah h S B
 ·exact K2 ah h S B
end
def Dw (v:V) (ab:aA) (k:aY):Bool:=jV v (λZ=>false) (k (.sym (ei 0)) ab)
def K4 {loc:Loc} {val:am} {k:aY} (h:Dw v ab k=true) (S:ba c f p ab loc s) (B:aE p v val):aO (aR c.prog c.w) f.A (call (.builtin "abs") [val] []) (cb c f p loc k) E s:=by
 rcases mn' h with⟨i,rfl,h⟩|⟨i,rfl,h⟩
 ·cases h
 ·obtain⟨x,t,rfl,_⟩:=B
  exact PyProof.Rows.call_abs_int λu bo=>⟨p,ab,V.sym (ei 0),aX.bN.refl p,ie,S.tok,h⟩
inductive GK where
 |nl (v:V)
 |gnd (a:Nat)
 |fn (a:Nat)
 |cls (a i:Nat)
 |bi (n:String)
 |ty (n:String)
structure fz where
 glob:Nat->Option GK
 ou:Nat->List (Nat×Nat)
 p5:Nat->Nat->Option Nat
 mv:Nat->List Nat
 t_:Nat->Option ((Bool×Bool×Bool×Bool)×List (Nat×Bool))
 fns:List Nat
 be:Nat->Option O
def Dx (c:b4) (x:aI):GK->Prop
 |.nl v=>∃val,d7 c x val/\∀p,aE p v val
 |.gnd a=>d7 c x (.ref a)
 |.fn a=>d7 c x (.ref a)/\fZ c.K (.ref a)=true
 |.cls a i=>d7 c x (.ref a)/\fZ c.K (.ref a)=true/\tG c.K a i
 |.bi n=>d7 c x (.builtin n)
 |.ty n=>d7 c x (.type n)
structure jr (c:b4) (a0:fz):Prop where
 glob:∀x g,bf x=true->a0.glob (aG x)=some g->Dx c x g
 ou:∀y,bf y=true->∀q∈a0.ou (aG y),Cr c.K q.1 y q.2
 p5:∀C y a,bf y=true->a0.p5 C (aG y)=some a->w1 c.K C y a
 mv:∀y,bf y=true->∀C∈a0.mv (aG y),jO c.K C (aG y)
 t_:∀x r,bf x=true->a0.t_ (aG x)=some r->∃fx,d7 c x fx/\tQ c.K fx r.1.1 r.1.2.1 r.1.2.2.1 r.1.2.2.2 r.2
 fns:∀a∈a0.fns,fZ c.K (.ref a)=true
 be:go c a0.be
structure b9 (bd:Type) where
 f:bd
structure cZ where
 bF:bB->aM->b9 aT
 bZ:bB->aM->b9 c6
 aq:bB->List bI->b9 bV
abbrev cZ.ev (r:cZ) (sc:bB) (e:aM):aT:=(r.bF sc e).f
abbrev cZ.f8 (r:cZ) (sc:bB) (e:aM):c6:=(r.bZ sc e).f
abbrev cZ.cL (r:cZ) (sc:bB) (l:List bI):bV:=(r.aq sc l).f
def cN:b9 aT:=⟨λZ Z Z Z=>false⟩
def xq:b9 c6:=⟨λZ Z Z Z=>false⟩
def g4:b9 bV:=⟨λZ Z Z Z=>false⟩
section
def c8 {e:aM}:a8 c aw cN.f f e:=λab loc k au p s E h=>nomatch (h:false=true)
def Dy {e:aM}:ST c aw xq.f f e:=λab loc k au p s E h=>nomatch (h:false=true)
def js {e:bI}:dK c aw g4.f f e:=λab loc k au p s E h=>nomatch (h:false=true)
def K5 {l:List bI}:gG c aw g4.f f l:=λab loc k au p s E h=>nomatch (h:false=true)
def g5 (b:Bool) (e:b9 aT):b9 aT:=match b with
 |true=>e
 |false=>cN
def lu (b:Bool) (e:b9 bV):b9 bV:=match b with
 |true=>e
 |false=>g4
def xr (b:Bool) (e:b9 c6):b9 c6:=match b with
 |true=>e
 |false=>xq
def hD {b:Bool} {aV:b9 aT} {e:aM} (h:b=true->a8 c aw aV.f f e):a8 c aw (g5 b aV).f f e:=by
 cases b with
 |true=>exact h rfl
 |false=>exact c8
def Dz {b:Bool} {aV:b9 c6} {e:aM} (h:b=true->ST c aw aV.f f e):ST c aw (xr b aV).f f e:=by
 cases b with
 |true=>exact h rfl
 |false=>exact Dy
def p6 {b:Bool} {aV:b9 bV} {e:bI} (h:b=true->dK c aw aV.f f e):dK c aw (lu b aV).f f e:=by
 cases b with
 |true=>exact h rfl
 |false=>exact js
end
section
variable {bd ca:Type} {P:bd->Prop} {d:bd}
def kK (b:Bool) (k d:bd):bd:=match b with
 |true=>k
 |false=>d
def lw {b:Bool} {k:bd} (h:b=true->P k) (hd:P d):P (kK b k d):=by
 cases b with
 |true=>exact h rfl
 |false=>exact hd
def kL (o:Option ca) (k:ca->bd) (d:bd):bd:=match o with
 |some b=>k b
 |none=>d
def lx {o:Option ca} {k:ca->bd} (h:∀b,o=some b->P (k b)) (hd:P d):P (kL o k d):=by
 cases o with
 |some b=>exact h b rfl
 |none=>exact hd
def mw (l:List ca) (k d:bd):bd:=match l with
 |[]=>k
 |_::_=>d
def rN {l:List ca} {k:bd} (h:l=[]->P k) (hd:P d):P (mw l k d):=by
 cases l with
 |nil=>exact h rfl
 |cons _ _=>exact hd
def ua (l:List ca) (k:ca->List ca->bd) (d:bd):bd:=match l with
 |[]=>d
 |a::l=>k a l
def xt {l:List ca} {k:ca->List ca->bd} (h:∀a m,l=a::m->P (k a m)) (hd:P d):P (ua l k d):=by
 cases l with
 |nil=>exact hd
 |cons a m=>exact h a m rfl
def j0 (l:List ca) (k:ca->bd) (d:bd):bd:=ua l (λa m=>mw m (k a) d) d
def ov {l:List ca} {k:ca->bd} (h:∀a,l=[a]->P (k a)) (hd:P d):P (j0 l k d):=
 xt (λa Z e=>rN (λbF=>h a (e.trans (congrArg _ bF))) hd) hd
def DA (l:List ca) (k:ca->ca->bd) (d:bd):bd:=ua l (λa m=>j0 m (k a) d) d
def K6 {l:List ca} {k:ca->ca->bd} (h:∀a b,l=[a,b]->P (k a b)) (hd:P d):P (DA l k d):=
 xt (λa Z e=>ov (λb bF=>h a b (e.trans (congrArg _ bF))) hd) hd
def ow (e:aM) (k:aI->bd) (d:bd):bd:=match e with
 |.Name x _=>k x
 |_=>d
def p7 {e:aM} {k:aI->bd} (h:∀x p,e=.Name x p->P (k x)) (hd:P d):P (ow e k d):=by
 cases e with
 |Name x p=>exact h x p rfl
 |_=>exact hd
def DB (e:aM) (k:List aM->bd) (d:bd):bd:=match e with
 |.Tuple es _ _=>k es
 |_=>d
def K7 {e:aM} {k:List aM->bd} (h:∀es p q,e=.Tuple es p q->P (k es)) (hd:P d):P (DB e k d):=by
 cases e with
 |Tuple es p q=>exact h es p q rfl
 |_=>exact hd
def ub (o:Option iA) (k d:bd):bd:=kL o (λq=>match q with
 |.globalImplicit=>k
 |_=>d) d
def xu {o:Option iA} {k:bd} (h:o=some .globalImplicit->P k) (hd:P d):P (ub o k d):=
 lx (λq e=>by
  cases q with
  |globalImplicit=>exact h e
  |_=>exact hd) hd
def rO {A:Type} [DecidableEq A] (y:A) (d:bd) (l:List (A×bd)):bd:=bW d (λq Z B=>kK (decide (y=q.1)) q.2 B) l
def uc {A:Type} [DecidableEq A] {y:A} (hd:P d) (l:List (A×bd)) (h:∀q∈l,y=q.1->P q.2):P (rO y d l):=by
 induction l with
 |nil=>exact hd
 |cons q l B=>exact lw (λe=>h q (.head _) (of_decide_eq_true e)) (B λz C=>h z (.tail _ C))
end
def DC:Const->b9 aT
 |.none=>⟨ds .none⟩
 |.bool b=>⟨ds (.bool b)⟩
 |.int i=>⟨ds (.int i)⟩
 |.str t=>g5 (bf t) ⟨ds (.str (aG t))⟩
 |_=>cN
def DD (a0:fz) (sc:bB) (x:aI):b9 aT:=kL (sc.names.lookup x) (λq=>match q with
 |.local=>g5 (bf x) ⟨dj (aG x)⟩
 |.cell=>g5 (bf x) ⟨ra (aG x)⟩
 |.free=>g5 (bf x) ⟨ra (aG x)⟩
 |.globalImplicit=>g5 (bf x) (kL (a0.glob (aG x)) (λg=>match g with
  |.nl v=>⟨ds v⟩
  |.gnd a=>⟨ds (.gnd a)⟩
  |.fn a=>⟨ds (.gnd a)⟩
  |.cls a _=>⟨ds (.gnd a)⟩
  |_=>cN) cN)
 |_=>cN) cN
def xv:List aT->aT
 |[]=>cN.f
 |[a]=>a
 |a::l=>BG a (xv l)
def xw:List aT->aT
 |[]=>cN.f
 |[a]=>a
 |a::l=>BH a (xw l)
def xx:List c6->c6
 |[]=>pI
 |a::l=>pH a (xx l)
def xy:List c6->c6
 |[]=>BJ
 |a::l=>BI a (xy l)
def K8 (r:cZ) (sc:bB) (o:aM) (l:aM):b9 aT:=match l with
 |.Constant k _ _=>(match k with
  |.int z=>(match z with
   |.ofNat n=>⟨Cp (r.ev sc o) n⟩
   |_=>cN)
  |_=>cN)
 |_=>cN
def K9 (r:cZ) (sc:bB) (o:aM) (l:aM):b9 aT:=match l with
 |.UnaryOp op a _=>(match op with
  |.USub=>(match a with
   |.Constant k _ _=>(match k with
    |.int i=>g5 (decide (i=1)) ⟨Cq (r.ev sc o)⟩
    |_=>cN)
   |_=>cN)
  |_=>cN)
 |_=>cN
def K_ (r:cZ) (sc:bB) (o:aM) (lo af st:Option aM):b9 aT:=match lo with
 |none=>(match af with
  |none=>(match st with
   |none=>cN
   |some u=>K9 r sc o u)
  |some i=>(match st with
   |none=>⟨Co (r.ev sc o) (r.ev sc i)⟩
   |some _=>cN))
 |some l=>(match af with
  |none=>(match st with
   |none=>K8 r sc o l
   |some _=>cN)
  |some _=>cN)
def DE (a0:fz) (r:cZ) (sc:bB) (o:aM) (i:aM):b9 aT:=match i with
 |.Slice lo af st _=>K_ r sc o lo af st
 |i=>g5 (ru i) ⟨jk a0.be (r.ev sc o) (r.ev sc i)⟩
section
variable {a0:fz} {r:cZ}
def La {t:Const} {aK pos}:a8 c aw (DC t).f f (.Constant t aK pos):=by
 cases t with
 |none=>exact Ic
 |bool b=>exact Ie
 |int i=>exact ww
 |str t=>exact hD λh=>Ig h
 |_=>exact c8
def Lb (tok:jr c a0) (ah:aZ c f) {x:aI} {pos}:a8 c aw (DD a0 f.sc x).f f (.Name x pos):=
 lx (P:=λaV=>a8 c aw (b9.f aV) f _) (λq h=>by
  cases q with
  |«local»=>exact hD λk8=>to ah k8 h
  |cell=>exact hD λk8=>BA ah k8 (.inl h)
  |free=>exact hD λk8=>BA ah k8 (.inr h)
  |globalImplicit=>
   exact hD λk8=>lx (P:=λaV=>a8 c aw (b9.f aV) f _) (λg A=>by
    have t:=tok.glob x _ k8 A
    clear A
    cases g with
    |nl v=>obtain⟨val,g1,g2⟩:=t;exact tp ah h g1 g2
    |gnd a=>exact tp ah h t λp=>rfl
    |fn a=>exact tp ah h t.1 λp=>rfl
    |cls a i=>exact tp ah h t.1 λp=>rfl
    |_=>exact c8) c8
  |_=>exact c8) c8
def Lc {pos}:∀{A:List aT} {es:List aM},gJ c aw f A es->a8 c aw (xv A) f (.BoolOp .And es pos):=by
 intro A es h
 induction h with
 |nil=>exact c8
 |cons h t B=>
  cases t with
  |nil=>exact wz h
  |cons _ _=>exact Im h B
def Ld {pos}:∀{A:List aT} {es:List aM},gJ c aw f A es->a8 c aw (xw A) f (.BoolOp .Or es pos):=by
 intro A es h
 induction h with
 |nil=>exact c8
 |cons h t B=>
  cases t with
  |nil=>exact wz h
  |cons _ _=>exact Io h B
def Le {pos}:∀{A:List c6} {es:List aM},(∀n (ae:n<A.length) (ag:n<es.length),ST c aw A[n] f es[n])->A.length=es.length->ST c aw (xx A) f (.BoolOp .And es pos):=by
 intro A
 induction A with
 |nil=>
  intro es _ e
  clear a
  cases es with
  |nil=>exact Ip
  |cons _ _=>cases e
 |cons a l B=>
  intro es h q
  cases es with
  |nil=>cases q
  |cons e es=>exact Ir (h 0 (lU _) (lU _)) (B (λn ae ag=>h (n+1) (mQ ae) (mQ ag)) (qO q))
def Lf {pos}:∀{A:List c6} {es:List aM},(∀n (ae:n<A.length) (ag:n<es.length),ST c aw A[n] f es[n])->A.length=es.length->ST c aw (xy A) f (.BoolOp .Or es pos):=by
 intro A
 induction A with
 |nil=>
  intro es _ e
  clear a
  cases es with
  |nil=>exact Iq
  |cons _ _=>cases e
 |cons a l B=>
  intro es h q
  cases es with
  |nil=>cases q
  |cons e es=>exact It (h 0 (lU _) (lU _)) (B (λn ae ag=>h (n+1) (mQ ae) (mQ ag)) (qO q))
def Lg (tok:jr c a0) (ah:aZ c f) (A:∀e,a8 c aw (r.ev f.sc e) f e) {o i:aM} {pos}:a8 c aw (DE a0 r f.sc o i).f f (.Subscript o i pos):=by
 have g:a8 c aw (g5 (ru i) ⟨jk a0.be (r.ev f.sc o) (r.ev f.sc i)⟩).f f (.Subscript o i pos):=hD λh=>Jd tok.be ah (A _) (A _) h
 cases i with
 |Slice lo af st q=>
  clear g
  cases lo with
  |none=>
   cases af with
   |none=>
    cases st with
    |none=>exact c8
    |some u=>
     cases u with
     |UnaryOp op a _=>
      cases op with
      |USub=>
       cases a with
       |Constant k _ _=>
        cases k with
        |int z=>
         refine hD λh=>?_
         have h:=of_decide_eq_true h
         subst h
         exact Jh ah (A _)
        |_=>exact c8
       |_=>exact c8
      |_=>exact c8
     |_=>exact c8
   |some i=>
    cases st with
    |none=>exact Jf ah (A _) (A _)
    |some _=>exact c8
  |some l=>
   cases af with
   |some _=>exact c8
   |none=>
    cases st with
    |some _=>exact c8
    |none=>
     cases l with
     |Constant k _ _=>
      cases k with
      |int z=>
       cases z with
       |ofNat n=>exact Jg ah (A _)
       |negSucc n=>exact c8
      |_=>exact c8
     |_=>exact c8
 |_=>exact g
def kM (A:∀e,a8 c aw (r.ev f.sc e) f e):∀l:List aM,gJ c aw f (l.map (r.ev f.sc)) l
 |[]=>.nil
 |e::l=>.cons (A e) (kM A l)
end
def DF (a0:fz) (sc:bB) (o:aM) (y:aI) (co:aT) (A:List aT):b9 aT:=ow o (λx=>ub (sc.names.lookup x) (g5 (bf x) (kL (a0.glob (aG x)) (λg=>match g with
 |.cls C _=>kL (a0.p5 C (aG y)) (λa=>⟨jm a A⟩) cN
 |_=>⟨rC (a0.ou (aG y)) co A⟩) ⟨rC (a0.ou (aG y)) co A⟩)) ⟨rC (a0.ou (aG y)) co A⟩) ⟨rC (a0.ou (aG y)) co A⟩
def DG (a0:fz) (r:cZ) (sc:bB) (o:aM) (y:aI) (ap:bO) (args:List aM) (pos:bO):b9 aT:=g5 (hA o args ap pos&&bf y) (rO y (DF a0 sc o y (r.ev sc o) (args.map (r.ev sc)))
 [("append",j0 args (λe=>⟨tM (r.ev sc o) (r.ev sc e)⟩) cN),("extend",j0 args (λe=>⟨Cz (r.ev sc o) (r.ev sc e)⟩) cN),("index",j0 args (λe=>⟨tN (r.ev sc o) (r.ev sc e)⟩) cN),
  ("get",⟨CF a0.be (r.ev sc o) (args.map (r.ev sc))⟩),("items",mw args ⟨CJ (r.ev sc o)⟩ cN),("values",mw args ⟨CK (r.ev sc o)⟩ cN),("join",j0 args (λe=>⟨CM (r.ev sc o) (r.ev sc e)⟩) cN),("upper",mw args ⟨CO (r.ev sc o)⟩ cN)])
def DH (a0:fz) (r:cZ) (sc:bB) (n:String) (args:List aM):b9 aT:=ua args (λe m=>mw m (rO n cN [("len",⟨ii CP (r.ev sc e)⟩),("sum",⟨ii CX (r.ev sc e)⟩),("abs",⟨ii Dw (r.ev sc e)⟩)])
 (j0 m (λo=>ow o (λx=>rO n cN [("isinstance",ub (sc.names.lookup x) (g5 (bf x) (kL (a0.t_ (aG x)) (λA=>⟨ii (xa A.1.1 A.1.2.1 A.1.2.2.1 A.1.2.2.2 A.2) (r.ev sc e)⟩) cN)) cN)]) cN) cN)) cN
def DI (r:cZ) (sc:bB) (n:String) (args:List aM):b9 aT:=j0 args (λe=>rO n cN [("list",⟨ii CQ (r.ev sc e)⟩),("tuple",⟨ii CR (r.ev sc e)⟩),("dict",⟨ii Dv (r.ev sc e)⟩),("str",⟨ii CT (r.ev sc e)⟩),("int",⟨ii w9 (r.ev sc e)⟩),("range",⟨ii CV (r.ev sc e)⟩),("enumerate",⟨ii CW (r.ev sc e)⟩)]) cN
def xz (a0:fz) (r:cZ) (sc:bB) (A:aM) (args:List aM):b9 aT:=g5 (noStar args&&oh A) (ow A (λx=>ub (sc.names.lookup x) (g5 (bf x) (kL (a0.glob (aG x)) (λg=>match g with
 |.fn a=>⟨jm a (args.map (r.ev sc))⟩
 |.cls a i=>⟨Ct a i (args.map (r.ev sc))⟩
 |.bi n=>DH a0 r sc n args
 |.ty n=>DI r sc n args
 |_=>cN) cN)) ⟨wZ a0.fns (r.ev sc A) (args.map (r.ev sc))⟩) ⟨wZ a0.fns (r.ev sc A) (args.map (r.ev sc))⟩)
section
variable {a0:fz} {r:cZ}
def Lh (tok:jr c a0) (ah:aZ c f) (D:f.d+1<=f.b) {o:aM} {ap pos:bO} {args:List aM} {co:aT} {E:List aT} (k8:a8 c aw co f o) (hs:hA o args ap pos=true) (B:bf y=true) (F:gJ c aw f E args):
  a8 c aw (DF a0 f.sc o y co E).f f (.Call (.Attribute o y ap) args [] pos):=by
 have A:=Jm ah D k8 hs B (tok.ou y B) F
 refine p7 (P:=λaV=>a8 c aw (b9.f aV) f _) (λx q e=>?_) A
 subst e
 exact xu (P:=λaV=>a8 c aw (b9.f aV) f _) (λG=>hD λH=>lx (P:=λaV=>a8 c aw (b9.f aV) f _) (λg I=>by
  cases g with
  |cls C i=>exact lx (P:=λaV=>a8 c aw (b9.f aV) f _) (λa J=>Jn ah D G (tok.glob x _ H I).1 hs (tok.p5 C y a B J) F) c8
  |_=>exact A) A) A
def Li (tok:jr c a0) (ah:aZ c f) (D:f.d+1<=f.b) (A:∀e,a8 c aw (r.ev f.sc e) f e) {o:aM} {ap pos:bO} {args:List aM}:a8 c aw (DG a0 r f.sc o y ap args pos).f f (.Call (.Attribute o y ap) args [] pos):=by
 refine hD λh=>?_
 obtain⟨hs,E⟩:=an h
 have one:∀{k:aM->b9 aT},(∀e,args=[e]->a8 c aw (k e).f f (.Call (.Attribute o y ap) args [] pos))->a8 c aw (j0 args k cN).f f (.Call (.Attribute o y ap) args [] pos):=λB=>ov (P:=λaV=>a8 c aw (b9.f aV) f _) B c8
 have zero:∀{k:b9 aT},(args=[]->a8 c aw k.f f (.Call (.Attribute o y ap) args [] pos))->a8 c aw (mw args k cN).f f (.Call (.Attribute o y ap) args [] pos):=λB=>rN (P:=λaV=>a8 c aw (b9.f aV) f _) B c8
 refine uc (P:=λaV=>a8 c aw (b9.f aV) f _) (Lh tok ah D (A o) hs E (kM A args)) _ λq C e=>?_
 simp only[bJ,Hw,or_false]at C
 try clear h
 rcases C with rfl|rfl|rfl|rfl|rfl|rfl|rfl|rfl<;>(dsimp only at e⊢;subst e)
 ·exact one λe he=>by subst he;exact Jz ah (A _) (A _) hs
 ·exact one λe he=>by subst he;exact JB ah (A _) (A _) hs
 ·exact one λe he=>by subst he;exact JF ah (A _) (A _) hs
 ·exact JH tok.be ah (A _) (kM A args) hs
 ·exact zero λhe=>by subst he;exact JM ah (A _) hs
 ·exact zero λhe=>by subst he;exact JN ah (A _) hs
 ·exact one λe he=>by subst he;exact JP ah (A _) (A _) hs
 ·exact zero λhe=>by subst he;exact JX ah (A _) hs
def Lj (tok:jr c a0) (ah:aZ c f) (B:∀e,a8 c aw (r.ev f.sc e) f e) {aK pos:bO} {n:String} {args:List aM} (C:f.sc.names.lookup y=some .globalImplicit) (g:d7 c y (.builtin n)) (ns:noStar args=true):
  a8 c aw (DH a0 r f.sc n args).f f (.Call (.Name y aK) args [] pos):=by
 refine xt (P:=λaV=>a8 c aw (b9.f aV) f _) (λe m he=>?_) c8
 subst he
 refine rN (P:=λaV=>a8 c aw (b9.f aV) f _) (λhe=>?_) (ov (P:=λaV=>a8 c aw (b9.f aV) f _) (λo he=>?_) c8)
 ·subst he
  refine uc (P:=λaV=>a8 c aw (b9.f aV) f _) c8 _ λq D e=>?_
  simp only[bJ,Hw,or_false]at D
  rcases D with rfl|rfl|rfl<;>(dsimp only at e⊢;subst e)
  ·exact jo ah C g og (B _) ns λv val p ab loc s k E h S A=>JY h S A
  ·exact jo ah C g og (B _) ns λv val p ab loc s k E h S A=>J9 ah h S A
  ·exact jo ah C g og (B _) ns λv val p ab loc s k E h S A=>K4 h S A
 ·subst he
  refine p7 (P:=λaV=>a8 c aw (b9.f aV) f _) (λx p he=>?_) c8
  subst he
  refine uc (P:=λaV=>a8 c aw (b9.f aV) f _) c8 _ λq D e=>?_
  obtain rfl:=h7.mp D
  dsimp only at e⊢
  subst e
  exact xu (P:=λaV=>a8 c aw (b9.f aV) f _) (λF=>hD λG=>lx (P:=λaV=>a8 c aw (b9.f aV) f _) (λJ af=>by
   obtain⟨fx,H,I⟩:=tok.t_ _ _ G af
   exact Kb ah C g (B _) ns F H I) c8) c8
def Lk (ah:aZ c f) (B:∀e,a8 c aw (r.ev f.sc e) f e) {aK pos:bO} {n:String} {args:List aM} (C:f.sc.names.lookup y=some .globalImplicit) (g:d7 c y (.type n)) (ns:noStar args=true):
  a8 c aw (DI r f.sc n args).f f (.Call (.Name y aK) args [] pos):=by
 refine ov (P:=λaV=>a8 c aw (b9.f aV) f _) (λe he=>?_) c8
 subst he
 refine uc (P:=λaV=>a8 c aw (b9.f aV) f _) c8 _ λq D e=>?_
 simp only[bJ,Hw,or_false]at D
 rcases D with rfl|rfl|rfl|rfl|rfl|rfl|rfl<;>(dsimp only at e⊢;subst e)
 ·exact jo ah C g mr (B _) ns λv val p ab loc s k E h S A=>J0 ah h S A
 ·exact jo ah C g mr (B _) ns λv val p ab loc s k E h S A=>J1 h S A
 ·exact jo ah C g mr (B _) ns λv val p ab loc s k E h S A=>K3 ah h S A
 ·exact jo ah C g mr (B _) ns λv val p ab loc s k E h S A=>J5 h S A
 ·exact jo ah C g mr (B _) ns λv val p ab loc s k E h S A=>CU h S A
 ·exact jo ah C g mr (B _) ns λv val p ab loc s k E h S A=>J6 h S A
 ·exact jo ah C g mr (B _) ns λv val p ab loc s k E h S A=>J8 h S A
def Ll (tok:jr c a0) (ah:aZ c f) (C:f.d+1<=f.b) (A:∀e,a8 c aw (r.ev f.sc e) f e) {D:aM} {args:List aM} {pos:bO}:a8 c aw (xz a0 r f.sc D args).f f (.Call D args [] pos):=by
 refine hD λh=>?_
 obtain⟨ns,F⟩:=an h
 have E:=Jl (pos:=pos) ah C (A D) F tok.fns (kM A args) ns
 refine p7 (P:=λaV=>a8 c aw (b9.f aV) f _) (λx aK e=>?_) E
 subst e
 exact xu (P:=λaV=>a8 c aw (b9.f aV) f _) (λB=>hD λG=>lx (P:=λaV=>a8 c aw (b9.f aV) f _) (λg H=>by
  have t:=tok.glob x _ G H
  cases g with
  |fn a=>exact Jk ah C B t.1 t.2 (kM A args) ns
  |cls a i=>exact Jp ah C B t.1 t.2.1 t.2.2 (kM A args) ns
  |bi n=>exact Lj tok ah A B t ns
  |ty n=>exact Lk ah A B t ns
  |_=>exact c8) c8) E
end
def ep (sc:bB) (x:aI) (k:iA):Bool:=sc.names.lookup x==some k
def im (sc:bB) (t:aM):Option fb:=ow t (λx=>kK (bf x&&ep sc x .local) (some (.n (aG x))) (kK (bf x&&ep sc x .cell) (some (.c (aG x))) none))
 (DB t (λes=>DA es (λa b=>ow a (λx=>ow b (λy=>kK ((bf x&&ep sc x .local)&&(bf y&&ep sc y .local)) (some (.p (aG x) (aG y))) none) none) none) none) none)
def fd {sc:bB} {x:aI} {k:iA} (h:ep sc x k=true):sc.names.lookup x=some k:=beq_iff_eq.mp h
def nn {t:aM} {tg:fb}:im f.sc t=some tg->fc f tg t:=by
 have no:(none:Option fb)=some tg->fc f tg t:=λh=>ns h
 refine p7 (P:=λr=>r=some tg->fc f tg t) (λx p e=>?_) (K7 (P:=λr=>r=some tg->fc f tg t) (λes p q e=>K6 (P:=λr=>r=some tg->fc f tg t) (λa b bF=>
  p7 (P:=λr=>r=some tg->fc f tg t) (λx hY A=>p7 (P:=λr=>r=some tg->fc f tg t) (λy lr B=>lw (P:=λr=>r=some tg->fc f tg t) (λq h=>?_) no) no) no) no) no)
 ·subst e
  refine lw (P:=λr=>r=some tg->fc f tg _) (λq h=>?_) (lw (P:=λr=>r=some tg->fc f tg _) (λq h=>?_) no)
  clear no
  all_goals
   cases gR h
   obtain⟨ae,ag⟩:=an q
  ·exact .n ae (fd ag)
  ·exact .c ae (fd ag)
 clear no
 ·subst A B bF e
  cases gR h
  obtain⟨aK,aW⟩:=an q
  obtain⟨ae,ag⟩:=an aK
  obtain⟨ax,aS⟩:=an aW
  exact .p ae (fd ag) ax (fd aS)
def freeOf (a5:bB):List aI:=(a5.names.filter λq=>q.2==.free).map (·.1)
def rP (sc a5:bB):Bool:=(a5.kind==.function)&&(a5.names.all λq=>!(q.2==.local)||ep a5 q.1 .local)&&((freeOf a5).all λx=>bf x&&ep a5 x .free&&(ep sc x .cell||ep sc x .free))&&
 (a5.names.lookup (ec "__debug__")).isNone&&(a5.names.lookup (ec "__classdict__")).isNone
def ud (a5:bB):Option (Option Nat):=mw (a5.names.filter λq=>q.2==.cell) (some none) (j0 (a5.names.filter λq=>q.2==.cell) (λq=>kK (bf q.1&&ep a5 q.1 .cell) (some (some (aG q.1))) none) none)
def xA {a5:bB} {cells:Option Nat} (h:rP f.sc a5=true) (ag:ud a5=some cells):nk f a5 cells ((freeOf a5).map aG):=by
 unfold rP at h
 simp only[ed]at h
 obtain⟨⟨⟨⟨B,C⟩,D⟩,E⟩,F⟩:=h
 refine⟨beq_iff_eq.mp B,λx A G=>?_,⟨freeOf a5,rfl,λx A=>?_,λx A=>?_⟩,?_,s7.mp E,s7.mp F⟩
 ·have:=eU.mp C x A
  rw[G]at this
  exact fd (by simpa using this)
 ·have:=eU.mp D x A
  simp only[ed,s0]at this
  exact⟨this.1.1,fd this.1.2,this.2.imp fd fd⟩
 ·exact kg (f:=lN) (lW.mpr ⟨A,rfl⟩)
 ·revert ag
  refine rN (P:=λr=>r=some cells->_) (λe ag=>?_) (ov (P:=λr=>r=some cells->_) (λq e=>lw (P:=λr=>r=some cells->_) (λH ag=>?_) λh=>ns h) λh=>ns h)
  ·cases gR ag;exact .inl ⟨rfl,e⟩
  ·cases gR ag
   obtain⟨aK,aW⟩:=an H
   have hm:q∈a5.names.filter λq=>q.2==.cell:=by rw[e];exact .head _
   have I:q=(q.1,.cell):=Prod.ext rfl (beq_iff_eq.mp (lW.mp hm).2)
   exact .inr ⟨q.1,rfl,aK,e.trans (congrArg (λz=>[z]) I),fd aW⟩
def xB {bd:Type} (fail:bd) (k:aT->bd) (a0:fz) (r rc:cZ) (sc:bB) (cK:aM) (gens:List Av) (a5:bB):bd:=j0 gens (λg=>match g with
 |⟨tg,it,A,n⟩=>kK (n==0) (kL (im a5 tg) (λt=>kL (ud a5) (λcells=>kK (rP sc a5&&g0 it)
   (mw A (k (rM a0.be cells ((freeOf a5).map aG) t (r.ev sc it) pI (rc.ev a5 cK))) (j0 A (λc=>k (rM a0.be cells ((freeOf a5).map aG) t (r.ev sc it) (rc.f8 a5 c) (rc.ev a5 cK))) fail)) fail) fail) fail) fail) fail
structure hE (c:b4) (aw:XL c) (r:cZ) (f:bL):Prop where
 ev:∀e,a8 c aw (r.ev f.sc e) f e
 f8:∀e,ST c aw (r.f8 f.sc e) f e
 cL:∀l,gG c aw (r.cL f.sc l) f l
section
variable {a0:fz} {r rc:cZ}
def DJ {bd:Type} {fail:bd} {k:aT->bd} {P:bd->Prop} (C:P fail) (ah:aZ c f) (H:hE c aw r f) (I:∀g,aZ c g->g.d=f.d+1->g.b=f.b->hE c aw rc g) {cK:aM} {gens:List Av} {a5:bB}
  (D:∀J it G cells free tg ci b0 aV,gens=[⟨J,it,G,0⟩]->nk f a5 cells free->g0 it=true->a8 c aw ci f it->(∀g:bL,aZ c g->g.sc=a5->g.d=f.d+1->g.b=f.b->fc g tg J/\a8 c aw aV g cK/\t6 c aw g b0 G)->P (k (rM a0.be cells free tg ci b0 aV))):
  P (xB fail k a0 r rc f.sc cK gens a5):=by
 refine ov (λg e=>?_) C
 obtain⟨tg,it,G,n⟩:=g
 ·refine lw (λM=>lx (λt K=>lx (λcells E=>lw (λN=>?_) C) C) C) C
  obtain rfl:=eq_of_beq M
  obtain⟨F,L⟩:=an N
  have ev:∀g:bL,aZ c g->g.sc=a5->g.d=f.d+1->g.b=f.b->fc g t tg/\a8 c aw (rc.ev a5 cK) g cK:=λg A hs hd B=>by
   clear D E F
   subst hs
   exact⟨nn K,(I g A hd B).ev cK⟩
  clear K
  refine rN (λbF=>?_) (ov (λq bF=>?_) C)
  ·subst bF
   exact D _ _ _ _ _ _ _ _ _ e (xA F E) L (H.ev _) λg A hs hd B=>⟨(ev g A hs hd B).1,(ev g A hs hd B).2,.inl ⟨rfl,rfl⟩⟩
  ·subst bF
   exact D _ _ _ _ _ _ _ _ _ e (xA F E) L (H.ev _) λg A hs hd B=>⟨(ev g A hs hd B).1,(ev g A hs hd B).2,.inr ⟨_,rfl,by clear D E F ev;subst hs;exact(I g A hd B).f8 q⟩⟩
end
def Lm (op:BoolOp) (l:List aT):b9 aT:=match op with
 |.And=>⟨xv l⟩
 |.Or=>⟨xw l⟩
def Ln (op:UnaryOp) (aV:aT):b9 aT:=match op with
 |.Not=>⟨BM aV⟩
 |.USub=>⟨BN aV⟩
 |_=>cN
def Lo (k:Option aM) (aV:aT):b9 aT:=match k with
 |none=>cN
 |some k=>match k with
  |.Constant t _ _=>(match t with
   |.str y=>g5 (bf y) ⟨Ch (aG y) aV⟩
   |_=>cN)
  |_=>cN
def Lp (r:cZ) (sc:bB) (a2:List (Option aM)) (ai:List aM):b9 aT:=match a2 with
 |[]=>(match ai with
  |[]=>⟨Cf⟩
  |_=>cN)
 |k::a2=>match a2 with
  |[]=>(match ai with
   |[]=>cN
   |e::ai=>match ai with
    |[]=>Lo k (r.ev sc e)
    |_=>cN)
  |_=>cN
def Lq (a0:fz) (r:cZ) (sc:bB) (a:aM) (A:List k4) (rs:List aM) (k:k4->aM->b9 aT):b9 aT:=match A with
 |[]=>cN
 |op::A=>match A with
  |[]=>(match rs with
   |[]=>cN
   |b::rs=>match rs with
    |[]=>k op b
    |_=>cN)
  |_=>cN
def Lr (a0:fz) (r:cZ) (sc:bB) (A:aM) (args:List aM) (pos:bO):b9 aT:=match A with
 |.Attribute o y ap=>DG a0 r sc o y ap args pos
 |A=>xz a0 r sc A args
def eO (b:Bool):Bool:=bk false true b
def Mr (b:Bool):eO b=b:=by cases b<;>rfl
def fi (c:aT):aT:=λab loc k au=>c ab loc (λv ab=>V.rec (eO (k .none ab)) (λb=>bk (eO (k (.bool false) ab)) (eO (k (.bool true) ab)) b) (λi=>k (.int i) ab) (λi=>k (.sym i) ab) (λi=>k (.str i) ab) (λi q=>k (.own i q) ab) (λi=>k (.gnd i) ab) (λi t=>k (.any i t) ab) v) au
def Mu (c:aT):fi c=c:=funext λab=>funext λloc=>funext λk=>funext λau=>congrArg (λk=>c ab loc k au) (funext λv=>funext λab=>by
 cases v with
 |none=>exact Mr _
 |bool b=>cases b<;>exact Mr _
 |_=>rfl)
def Ms:aM->Bool
 |.Call .. =>true
 |_=>false
def Mv:aM->Bool
 |.Constant .. =>true
 |_=>false
def Mw:aM->Bool
 |.List .. =>true
 |_=>false
def f1 (b:Bool) (x:b9 aT):b9 aT:=match b with
 |true=>⟨fi x.f⟩
 |false=>x
def DK (a0:fz) (r rc:cZ) (sc:bB) (e:aM):b9 aT:=match e with
 |.Constant t _ _=>DC t
 |.Name x _=>DD a0 sc x
 |.Attribute o y _=>g5 (ob o&&bf y) ⟨BD (r.ev sc o) (aG y)⟩
 |.IfExp t b o _=>⟨BE (r.f8 sc t) (r.ev sc b) (r.ev sc o)⟩
 |.BoolOp op l _=>Lm op (l.map (r.ev sc))
 |.UnaryOp op e _=>Ln op (r.ev sc e)
 |.BinOp a op b _=>⟨hz op (r.ev sc a) (r.ev sc b)⟩
 |.Compare a A rs _=>Lq a0 r sc a A rs λop b=>g5 (oc b) (f1 (Ms a&&Mv b) ⟨wT (jU a0.be op (r.ev sc a) (r.ev sc b))⟩)
 |.List l _=>g5 (noStar l) ⟨m9 (l.map (r.ev sc))⟩
 |.Tuple l _ _=>g5 (noStar l) ⟨Cd (l.map (r.ev sc))⟩
 |.Dict a2 ai _=>Lp r sc a2 ai
 |.Subscript o i _=>f1 (Mw o&&Ms i) (DE a0 r sc o i)
 |.ListComp cK gens a5 _=>xB cN b9.mk a0 r rc sc cK gens a5
 |.Call B args C pos=>(match C with
  |[]=>Lr a0 r sc B args pos
  |_=>cN)
 |_=>cN
def xC (fR:cZ->bB->aM->Option aT) (a0:fz) (r rc fa:cZ) (sc:bB) (e:aM):b9 aT:=match fR fa sc e with
 |some aV=>⟨aV⟩
 |none=>DK a0 r rc sc e
def ox (r:cZ) (sc:bB) (e:aM):b9 c6:=xr (wB e) ⟨wA (r.ev sc e)⟩
def stepT (a0:fz) (r:cZ) (sc:bB) (e:aM):b9 c6:=match e with
 |.UnaryOp op bF _=>(match op with
  |.Not=>⟨BK (r.f8 sc bF)⟩
  |_=>ox r sc e)
 |.BoolOp op l _=>(match op with
  |.And=>⟨xx (l.map (r.f8 sc))⟩
  |.Or=>⟨xy (l.map (r.f8 sc))⟩)
 |.IfExp t b o _=>⟨BF (r.f8 sc t) (r.f8 sc b) (r.f8 sc o)⟩
 |.Compare a A rs _=>(match A with
  |[]=>ox r sc e
  |op::A=>match A with
   |[]=>(match rs with
    |[]=>ox r sc e
    |b::rs=>match rs with
     |[]=>xr (oc b) ⟨jU a0.be op (r.ev sc a) (r.ev sc b)⟩
     |_=>ox r sc e)
   |_=>ox r sc e)
 |_=>ox r sc e
def ue (a0:fz) (r:cZ) (sc:bB) (cn:List aM):Option (List iM):=bW (some []) (λt Z A=>kL A (λl=>match t with
 |.Name x _=>kK (bf x&&ep sc x .local) (some (.n (aG x)::l)) (kK (bf x&&ep sc x .cell) (some (.c (aG x)::l)) none)
 |.Attribute o y _=>kK (bf y) (some (.a (a0.mv (aG y)) (r.ev sc o) (aG y)::l)) none
 |_=>none) none) cn
def DL (a0:fz) (r rc:cZ) (sc:bB) (tg:fb) (e:aM):b9 bV:=match e with
 |.ListComp cK gens a5 _=>xB g4 (λaV=>⟨ni tg aV⟩) a0 r rc sc cK gens a5
 |e=>lu (!on e) ⟨ni tg (r.ev sc e)⟩
def Ls (a0:fz) (r rc:cZ) (sc:bB) (t e:aM):b9 bV:=match t with
 |.Name y q=>(match im sc (.Name y q)with
  |some tg=>DL a0 r rc sc tg e
  |none=>g4)
 |.Attribute o y _=>lu (bf y) ⟨C1 (a0.mv (aG y)) (r.ev sc o) (aG y) (r.ev sc e)⟩
 |.Subscript o i _=>⟨rG (r.ev sc o) (r.ev sc i) (r.ev sc e)⟩
 |.Tuple cn _ _=>(match ue a0 r sc cn with
  |some A=>lu (rH e&&decide ((cn.filterMap tW).Nodup)) ⟨xg A (r.ev sc e)⟩
  |none=>g4)
 |_=>g4
def Lu (a0:fz) (r:cZ) (sc:bB) (t:aM) (op:Operator) (e:aM):b9 bV:=match t with
 |.Attribute o y _=>(match op with
  |.Add=>lu (bf y) ⟨C2 (a0.mv (aG y)) (r.ev sc o) (aG y) (r.ev sc e)⟩
  |_=>g4)
 |_=>g4
def DM (a0:fz) (r rc:cZ) (sc:bB) (st:bI):b9 bV:=match st with
 |.Return v _=>(match v with
  |some e=>⟨ng (r.ev sc e)⟩
  |none=>⟨ng (ds .none)⟩)
 |.Pass _=>⟨kG⟩
 |.If t b o _=>⟨nh (r.f8 sc t) (r.cL sc b) (r.cL sc o)⟩
 |.Expr e _=>lu (!on e) ⟨tT (r.ev sc e)⟩
 |.Assign cn e _=>(match cn with
  |[]=>g4
  |t::cn=>match cn with
   |[]=>Ls a0 r rc sc t e
   |_=>g4)
 |.AugAssign t op e _=>Lu a0 r sc t op e
 |.For t it b o _=>(match o with
  |[]=>(match im sc t with
   |some tg=>lu (g0 it) ⟨p2 a0.be tg (r.ev sc it) (r.cL sc b)⟩
   |none=>g4)
  |_=>g4)
 |.While t b o _=>(match o with
  |[]=>⟨Df (r.f8 sc t) (r.cL sc b)⟩
  |_=>g4)
 |_=>g4
def xD (fS:cZ->bB->bI->Option bV) (a0:fz) (r rc fa:cZ) (sc:bB) (st:bI):b9 bV:=match fS fa sc st with
 |some cs=>⟨cs⟩
 |none=>DM a0 r rc sc st
def DN (one:bI->b9 bV) (more:List bI->bV):List bI->b9 bV
 |[]=>⟨kG⟩
 |[s]=>one s
 |s::ct=>⟨jZ (one s).f (more ct)⟩
def xE:cZ:=⟨λZ Z=>cN,λZ Z=>xq,λZ Z=>g4⟩
def p8 (g:Nat->cZ) (i j:Nat):cZ:=match b2 i j with
 |true=>g (j-i)
 |false=>xE
def kN (fR:cZ->bB->aM->Option aT) (fS:cZ->bB->bI->Option bV) (a0:fz):Nat->Nat->cZ
 |0,_=>xE
 |n+1,j=>⟨xC fR a0 (kN fR fS a0 n j) (p8 (kN fR fS a0 n) 1 j) (p8 (kN fR fS a0 n) 2 j),stepT a0 (kN fR fS a0 n j),
   λsc=>DN (xD fS a0 (kN fR fS a0 n j) (p8 (kN fR fS a0 n) 1 j) (p8 (kN fR fS a0 n) 2 j) sc) ((kN fR fS a0 n j).cL sc)⟩
section
variable {a0:fz} {r rc fa:cZ}
def DO:hE c aw xE f:=⟨λZ=>c8,λZ=>Dy,λZ=>K5⟩
structure p9 (c:b4) (aw:XL c) (fR:cZ->bB->aM->Option aT) (fS:cZ->bB->bI->Option bV):Prop where
 ex:∀fa f e aV,aZ c f->f.d+1<=f.b->f.b<=260->(∀g,aZ c g->g.d=f.d+2->g.b=f.b->hE c aw fa g)->fR fa f.sc e=some aV->a8 c aw aV f e
 st:∀fa f e aV,aZ c f->f.d+1<=f.b->f.b<=260->(∀g,aZ c g->g.d=f.d+2->g.b=f.b->hE c aw fa g)->fS fa f.sc e=some aV->dK c aw aV f e
def Lv (tok:jr c a0) (C:hE c aw r f):∀{cn:List aM} {A:List iM},ue a0 r f.sc cn=some A->hB c aw f A cn:=by
 intro cn
 induction cn with
 |nil=>
  intro A h
  cases gR h;exact .nil
 |cons t cn B=>
  intro A
  refine lx (P:=λr=>r=some A->hB c aw f A (t::cn)) (λl D=>?_) λh=>ns h
  have B:=B D
  cases t with
  |Name x p=>
   refine lw (P:=λr=>r=some A->hB c aw f A _) (λq h=>?_) (lw (P:=λr=>r=some A->hB c aw f A _) (λq h=>?_) λh=>ns h)
   all_goals
    cases gR h
    obtain⟨ae,ag⟩:=an q
   ·exact .cons (.n ae (fd ag)) B
   ·exact .cons (.c ae (fd ag)) B
  |Attribute o y p=>
   refine lw (P:=λr=>r=some A->hB c aw f A _) (λq h=>?_) λh=>ns h
   cases gR h
   exact .cons (.a (tok.mv _ q) q (C.ev _)) B
  |_=>exactλh=>ns h
def Mt {b:Bool} {x:b9 aT} {e:aM} (h:a8 c aw x.f f e):a8 c aw (f1 b x).f f e:=by
 cases b with
 |false=>exact h
 |true=>
  show a8 c aw (fi x.f) f e
  rw[Mu]
  exact h
def Lw {fR:cZ->bB->aM->Option aT} {fS:cZ->bB->bI->Option bV} (D:p9 c aw fR fS) (tok:jr c a0) (ah:aZ c f) (B:f.d+1<=f.b) (E:f.b<=260) (A:hE c aw r f) (F:∀g,aZ c g->g.d=f.d+1->g.b=f.b->hE c aw rc g) (G:∀g,aZ c g->g.d=f.d+2->g.b=f.b->hE c aw fa g) (e:aM):
  a8 c aw (xC fR a0 r rc fa f.sc e).f f e:=by
 have H:a8 c aw (DK a0 r rc f.sc e).f f e:=by
  cases e with
  |Constant t _ _=>exact La
  |Name x _=>exact Lb tok ah
  |Attribute o y _=>exact hD λh=>Ij ah (A.ev _) (kZ.mp h).1 (kZ.mp h).2
  |IfExp t b o _=>exact Ik (A.f8 _) (A.ev _) (A.ev _)
  |BoolOp op l _=>
   cases op with
   |And=>exact Lc (kM A.ev _)
   |Or=>exact Ld (kM A.ev _)
  |UnaryOp op e _=>
   cases op with
   |Not=>exact Iw (A.ev _)
   |USub=>exact Ix (A.ev _)
   |_=>exact c8
  |BinOp a op b _=>exact IW ah (A.ev _) (A.ev _)
  |Compare a I rs _=>
   rcases I with _|⟨op,_|⟨_,_⟩⟩
   ·exact c8
   ·rcases rs with _|⟨b,_|⟨_,_⟩⟩
    ·exact c8
    ·exact hD λh=>Mt (IL tok.be ah (A.ev _) (A.ev _) h)
    ·exact c8
   ·exact c8
  |List l _=>exact hD λh=>IZ (kM A.ev _) h
  |Tuple l _ _=>exact hD λh=>I0 (kM A.ev _) h
  |Dict a2 ai _=>
   rcases a2 with _|⟨k,_|⟨_,_⟩⟩
   ·rcases ai with _|⟨_,_⟩
    ·exact I5
    ·exact c8
   ·rcases ai with _|⟨e,_|⟨_,_⟩⟩
    ·exact c8
    ·cases k with
     |none=>exact c8
     |some k=>
      cases k with
      |Constant t _ _=>
       cases t with
       |str y=>exact hD λh=>I8 ah (A.ev _) h
       |_=>exact c8
      |_=>exact c8
    ·exact c8
   ·exact c8
  |Subscript o i _=>exact Mt (Lg tok ah A.ev)
  |ListComp cK gens a5 _=>
   refine DJ (P:=λaV=>a8 c aw (b9.f aV) f _) c8 ah A F λN it O cells free tg ci b0 aV J ok hs af K=>?_
   subst J
   exact Dq tok.be ah ok hs af K (by have:=ah.dp;lia)
  |Call C args L pos=>
   cases L with
   |nil=>
    have M:a8 c aw (xz a0 r f.sc C args).f f (.Call C args [] pos):=Ll tok ah B A.ev
    cases C with
    |Attribute o y ap=>exact Li tok ah B A.ev
    |_=>exact M
   |cons _ _=>exact c8
  |_=>exact c8
 unfold xC
 cases h:fR fa f.sc e with
 |some aV=>exact D.ex fa f e aV ah B E G h
 |none=>exact H
def Lx (tok:jr c a0) (ah:aZ c f) (A:hE c aw r f) (e:aM):ST c aw (stepT a0 r f.sc e).f f e:=by
 have el:∀e,ST c aw (ox r f.sc e).f f e:=λe=>Dz λh=>Iv (A.ev _) h
 cases e with
 |UnaryOp op bF _=>
  cases op with
  |Not=>exact Iu (A.f8 _)
  |_=>exact el _
 |BoolOp op l _=>
  cases op with
  |And=>exact Le (λn ae ag=>by rw[List.getElem_map];exact A.f8 _) (pk _)
  |Or=>exact Lf (λn ae ag=>by rw[List.getElem_map];exact A.f8 _) (pk _)
 |IfExp t b o _=>exact Il (A.f8 _) (A.f8 _) (A.f8 _)
 |Compare a B rs _=>
  rcases B with _|⟨op,_|⟨_,_⟩⟩
  ·exact el _
  ·rcases rs with _|⟨b,_|⟨_,_⟩⟩
   ·exact el _
   ·exact Dz λh=>IM tok.be ah (A.ev _) (A.ev _) h
   ·exact el _
  ·exact el _
 |_=>exact el _
def Ly {fR:cZ->bB->aM->Option aT} {fS:cZ->bB->bI->Option bV} (E:p9 c aw fR fS) (tok:jr c a0) (ah:aZ c f) (F:f.d+1<=f.b) (G:f.b<=260) (A:hE c aw r f) (H:∀g,aZ c g->g.d=f.d+1->g.b=f.b->hE c aw rc g) (I:∀g,aZ c g->g.d=f.d+2->g.b=f.b->hE c aw fa g) (st:bI):
  dK c aw (xD fS a0 r rc fa f.sc st).f f st:=by
 have J:dK c aw (DM a0 r rc f.sc st).f f st:=by
  cases st with
  |Return v _=>
   cases v with
   |some e=>exact Kh (A.ev _)
   |none=>exact Ki
  |Pass _=>exact Ke
  |If t b o _=>exact Kj (A.f8 _) (A.cL _) (A.cL _)
  |Expr e _=>exact p6 λh=>Kk ah (A.ev _) (by simpa using h)
  |Assign cn e ps=>
   rcases cn with _|⟨t,_|⟨_,_⟩⟩
   ·exact js
   ·cases t with
    |Name y q=>
     show dK c aw (match im f.sc (.Name y q)with|some tg=>DL a0 r rc f.sc tg e|none=>g4).f f _
     cases B:im f.sc (.Name y q)with
     |none=>exact js
     |some tg=>
      have C:dK c aw (lu (!on e) ⟨ni tg (r.ev f.sc e)⟩).f f (.Assign [.Name y q] e ps):=p6 λh=>Kl ah (nn B) (A.ev _) (by simpa using h)
      cases e with
      |ListComp cK gens a5 _=>
       clear C
       refine DJ (P:=λcs=>dK c aw (b9.f cs) f _) js ah A H λM it N cells free O ci b0 aV K ok hs af L=>?_
       subst K
       exact KT tok.be ah ok hs af L (by have:=ah.dp;lia) (nn B)
      |_=>exact C
    |Attribute o y _=>exact p6 λh=>Km ah (tok.mv _ h) h (A.ev _) (A.ev _)
    |Subscript o i _=>exact Kn ah (A.ev _) (A.ev _) (A.ev _)
    |Tuple cn _ _=>
     show dK c aw (match ue a0 r f.sc cn with|some D=>lu (rH e&&decide ((cn.filterMap tW).Nodup)) ⟨xg D (r.ev f.sc e)⟩|none=>g4).f f _
     cases B:ue a0 r f.sc cn with
     |none=>exact js
     |some D=>exact p6 λh=>Ku ah (Lv tok A B) (A.ev _) (kZ.mp h).1 (of_decide_eq_true (kZ.mp h).2)
    |_=>exact js
   ·exact js
  |AugAssign t op e _=>
   cases t with
   |Attribute o y _=>
    cases op with
    |Add=>exact p6 λh=>Ko ah (tok.mv _ h) h (A.ev _) (A.ev _)
    |_=>exact js
   |_=>exact js
  |For t it b o _=>
   cases o with
   |nil=>
    show dK c aw (match im f.sc t with|some tg=>lu (g0 it) ⟨p2 a0.be tg (r.ev f.sc it) (r.cL f.sc b)⟩|none=>g4).f f _
    cases B:im f.sc t with
    |none=>exact js
    |some tg=>exact p6 λh=>xk tok.be ah (nn B) (A.ev _) (A.cL _) h
   |cons _ _=>exact js
  |While t b o _=>
   cases o with
   |nil=>exact KP ah (A.f8 _) (A.cL _)
   |cons _ _=>exact js
  |_=>exact js
 unfold xD
 cases h:fS fa f.sc st with
 |some cs=>exact E.st fa f st cs ah F G I h
 |none=>exact J
def Lz {one:bI->b9 bV} {more:List bI->bV} (ae:∀st,dK c aw (one st).f f st) (ag:∀l,gG c aw (more l) f l):∀l,gG c aw (DN one more l).f f l
 |[]=>Kf
 |[s]=>xf (ae s)
 |s::a5::ct=>Kg (ae s) (ag _)
set_option tactic.hygienic true in
def DP {fR:cZ->bB->aM->Option aT} {fS:cZ->bB->bI->Option bV} (C:p9 c aw fR fS) (tok:jr c a0):∀(n j:Nat) (f:bL),aZ c f->f.d+1+j<=f.b->f.b<=260->hE c aw (kN fR fS a0 n j) f:=by
 intro n
 induction n with
 |zero=>
  intro _ _ _ _ _
  exact DO
 |succ n D=>
  intro j f ah E A
  have B:=D j f ah E A
  have low:∀i (g:bL),aZ c g->g.d=f.d+i->g.b=f.b->hE c aw (p8 (kN fR fS a0 n) i j) g:=λi g H hd F=>by
   unfold p8
   split
   ·rename_i h
    have h:i<=j:=ce h
    exact D (j-i) g H (by rw[hd,F,Nat.add_right_comm f.d i 1,sI (f.d+1) i (j-i),Nat.add_sub_cancel' h];exact E) (by rw[F];exact A)
   ·exact DO
  have G:f.d+1<=f.b:=by lia
  exact⟨Lw C tok ah G A B (low 1) (low 2),Lx tok ah B,Lz (Ly C tok ah G A B (low 1) (low 2)) B.cL⟩
end
section
open PySem
def uf (j1 bm:List am):Prop:=∀X:String,bm.contains (.type X)=j1.contains (.type X)
section
variable {bu:k0} {h:bE} {g:Array qZ} {d:Drawn} {t:Nat} {os:d3}
variable {nm q:aI} {C ak:a7} {eH bm j1:List am} {p_:Bool} {sn:List aI} {sub:List am} {cG:Bool} {kO:Option Bool} {eC:Option a7} {hW cr cx dI d5:Option am} {B iN mx:String}
def LA {bd:Type} [BEq bd] [LawfulBEq bd] (a:bd):¬(a !=a)=true:=by simp
def LB (F:v_ B iN mx j1) (T:uf j1 bm) {ct:List am} {Q:Unit->a9->Prop} (D:h.get? C=some (s8 nm q C ak eH bm p_ sn sub cG kO eC hW cr cx dI d5 iN))
  (G:Q () ⟨h,g,d,t,os⟩):aO bu A (Hx iN ⟨.ref C::ct,[]⟩) Q E ⟨h,g,d,t,os⟩:=by
 have H:(fq C::bm).contains (.type B)=true:=by rw[pp,T,F.hasB,Hf]
 have I:=F.noStar
 unfold Hx
 rw[F.newKind,F.newSplit]
 dsimp only
 rw[F.newRow]
 repeat (first|with_reducible refine pq D ?_|(with_reducible refine Hy D ?_;rw[H]at⊢)|with_reducible refine wpAny_staticBase_exc D ?_|with_reducible refine wpAny_madeBy_exc D ?_|rw[if_neg (LA _)]at⊢|wp_step)
 exact G
end
section
variable {prog:ew} {R:kh->a9->Prop} {h:bE} {g:Array qZ} {d:Drawn} {t:Nat} {os:d3}
variable {nm q:aI} {C ak:a7} {eH bm j1:List am} {p_:Bool} {sn:List aI} {sub:List am} {cG:Bool} {kO:Option Bool} {eC:Option a7} {hW cr cx dI d5:Option am} {B iN mx:String}
def LC (F:v_ B iN mx j1) (T:uf j1 bm) {ct:List am} (D:h.get? C=some (s8 nm q C ak eH bm p_ sn sub cG kO eC hW cr cx dI d5 iN))
  (E:R (.ok (.ret (.ref (h.objs.size+1)))) ⟨(h.push {cls:=.type "tuple",data:=.seq ct.toArray}).push
   {cls:=.ref C,data:=.fields #[.ref h.objs.size,.none,.none,.none,.bool false,.none]},g,d,t,os⟩) (qa:ct.length<=hr:=by size_fits):
  dH (aR prog w) A (.builtin iN ⟨.ref C::ct,[]⟩) R ⟨h,g,d,t,os⟩:=by
 have J:=F.ends
 have G:(fq C::bm).contains (.type B)=true:=by rw[pp,T,F.hasB,Hf]
 have H:(fq C::bm).contains (.type "AttributeError")=false:=by rw[pp,T,F.noAttr];rfl
 have I:(fq C::bm).contains (.type "NameError")=false:=by rw[pp,T,F.noName];rfl
 refine codeAny_builtinAt F.entry ?_
 unfold ge.«BaseException.__new__»
 refine PySem.wpAt_bind ?_
 show PySem.wpAt _ _ _ (stack>>=_) _ _ _
 refine PySem.wpAt_bind (PySem.wpAt_stack λp K=>PySem.wpAt_of_wpAny ?_)
 wp_walk
 refine PySem.wpAt_of_wpAny ?_
 rw[F.owner]
 repeat (first|with_reducible refine wpAny_madeHere_exc F.canon D ?_|with_reducible refine pq D ?_|(with_reducible refine Hy D ?_;first|rw[G]at⊢|rw[H]at⊢|rw[I]at⊢)|wp_step)
 show R _ _
 rw[lT]
 exact E
end
open PySem.W PySem.Calls PyProof.Rows
section
variable {prog:ew} {h:bE} {g:Array qZ} {d:Drawn} {t:Nat} {os:d3}
variable {nm q:aI} {C ak gZ:a7} {eH bm j1:List am} {p_:Bool} {sn:List aI} {sub:List am} {cG:Bool} {kO:Option Bool} {eC:Option a7} {hW cr cx dI d5:Option am} {B iN mx:String}
def LD (F:v_ B iN mx j1) (T:uf j1 bm) {ct:List am} {Q:Fin->a9->Prop} (X:K.In h)
  (D:h.get? C=some (s8 nm q C ak eH bm p_ sn sub cG kO eC hW cr cx dI d5 iN)) (af:gf K (.ref C) "__init__"=some (some (.ref gZ))) (ah:typeIn K (.ref gZ)=some (.type "function"))
  (I:∀av e,(∀b o,h.get? b=some o->av.get? b=some o)->e=h.objs.size+1->av.get? e=some {cls:=.ref C,data:=.fields #[.ref h.objs.size,.none,.none,.none,.bool false,.none]}->av.get? h.objs.size=some {cls:=.type "tuple",data:=.seq ct.toArray}->
   av.objs.size=h.objs.size+2->
   aO (aR prog w) A (call (.ref gZ) (.ref e::ct) []) (λr aq=>r=.none/\Q (.done (.ret (.ref e))) aq) E ⟨av,g,d,t,os⟩) (qa:ct.length<=hr:=by size_fits):
  aO (aR prog w) A (ge.«type.__call__» ⟨.ref C::ct,[]⟩) Q E ⟨h,g,d,t,os⟩:=by
 repeat (first|with_reducible refine pq D ?_|with_reducible refine wpAny_madeBy_exc D ?_|wp_step)
 refine codeAny_call_builtin_code (Code.quiet_builtin _ F.quiet) (LB F T D ?_)
 refine LC F T D ?_ qa
 show aO _ _ _ _ _ _
 have G:∀b o,h.get? b=some o->((h.push {cls:=.type "tuple",data:=.seq ct.toArray}).push {cls:=.ref C,data:=.fields #[.ref h.objs.size,.none,.none,.none,.bool false,.none]}).get? b=some o:=λb o e=>fO _ (fO _ e)
 have J:=G _ _ D
 have H:((h.push {cls:=.type "tuple",data:=.seq ct.toArray}).push
   {cls:=.ref C,data:=.fields #[.ref h.objs.size,.none,.none,.none,.bool false,.none]}).get? (h.objs.size+1)=some
   {cls:=.ref C,data:=.fields #[.ref h.objs.size,.none,.none,.none,.bool false,.none]}:=by heap_get
 have L:(fq C::bm).contains (.ref C)=true:=by simp
 unfold isInstance
 repeat (first|with_reducible refine pq H ?_|(with_reducible refine Hy J ?_;rw[L]at⊢)|wp_step)
 show aO _ _ (typeLookup (.ref C) _) _ _ _
 refine(wa (X.keeps G) af).here ?_
 refine gB (aP ((bind_fn (X.keeps G) _ ah).here ?_))
 show aO _ _ (call (.ref gZ) (.ref (h.objs.size+1)::ct) []>>=λv=>pure (some v)) _ _ _
 refine aP (b_ (I _ _ G rfl H ?_ ?_) ?_ λZ Z z=>z)
 ·exact fO _ (k6 _ rfl)
 ·rw[lT,lT]
 ·rintro r aq ⟨rfl,z⟩
  refine br ?_
  exact br z
def LF (F:v_ B iN mx j1) (T:uf j1 bm) {ct:List am} {Q:am->a9->Prop} (X:K.In h)
  (D:h.get? C=some (s8 nm q C ak eH bm p_ sn sub cG kO eC hW cr cx dI d5 iN)) (af:gf K (.ref C) "__init__"=some (some (.ref gZ))) (ah:typeIn K (.ref gZ)=some (.type "function"))
  (G:∀av e,(∀b o,h.get? b=some o->av.get? b=some o)->e=h.objs.size+1->av.get? e=some {cls:=.ref C,data:=.fields #[.ref h.objs.size,.none,.none,.none,.bool false,.none]}->av.get? h.objs.size=some {cls:=.type "tuple",data:=.seq ct.toArray}->
   av.objs.size=h.objs.size+2->
   aO (aR prog w) (A.under (.builtin "type.__call__" ⟨.ref C::ct,[]⟩)) (call (.ref gZ) (.ref e::ct) []) (λr aq=>r=.none/\Q (.ref e) aq) E ⟨av,g,d,t,os⟩) (qa:ct.length<=hr:=by size_fits):
  aO (aR prog w) A (call (.ref C) ct) Q E ⟨h,g,d,t,os⟩:=by
 have N:=tc_lookup
 have O:=tc_bind (.ref C)
 have bj:(⟨h,g,d,t,os⟩:a9).TypeIs (.ref C) "type":=⟨_,D,rfl⟩
 refine nP (codeAny_of_tree ?_)
 show aO _ _ (callAny (.ref C) _) _ _ _
 repeat (any_goals (first|assumption|with_reducible refine pq D ?_|wp_step))
 refine⟨rfl,?_⟩
 refine codeAny_call_builtin_at (Code.quiet_builtin _ (by decide+kernel)) entry_typeCall (wpAny_check_type_call_sub D (LD (qa:=qa) F T X D af ah λav e H I J L M=>?_))
 exact b_ (G av e H I J L M) (λr aq z=>z) λZ Z z=>z
end
end
def LG (base h:bE) (e bp:a7) (C bg:am):Prop:=
 ∃dh ai,h.get? e=some dh/\(dh.cls=C/\dh.dict=some bp)/\dh.data=.fields ai/\((ai[1]?=some .none/\bg=.none)∨∃T A cn,ai[1]?=some (.ref T)/\base.get? T=none/\T≠e/\h.get? T=some A/\A.data=.fields cn/\cn[3]?=some bg)
structure j2 (base:bE) (l:List cI) (e bp:a7) (C bg:am) (h:bE):Prop where
 stays:base.StaysIn h
 new:base.get? e=none
 frames:h.FunFrames base l
 tr:LG base h e bp C bg
section
variable {bu:k0} {base:bE} {env:cI} {b7:List cI} {L e bp:a7} {C:am} {Q:Unit->a9->Prop}
def DQ {head:am} {R:Bool} {dh:bY} {ai:Array am} (S:A.frames=some (env::b7)) (ah:env.frame=some L) (I:s.heap.FunFrames base (env::b7)) (T:base.StaysIn s.heap) (J:base.get? e=none)
  (he:s.heap.get? e=some dh) (K:dh.cls=C/\dh.dict=some bp) (hd:dh.data=.fields ai) (M:1<ai.size)
  (h:∀av,j2 base (env::b7) e bp C (ee L) av->s.heap.UpToSlots av->Q () {s with heap:=av}):
  aO bu A (do let a<-frameOf env;let F<-entryPlaceOf L R;let b<-T1 head a .none (ee L) .none F;v9 (.ref e) 1 b) Q E s:=by
 have out:e∉(env::b7).filterMap (·.frame):=λhm=>by
  obtain⟨_,o,k8,G⟩:=I.mem hm
  rw[he]at k8;cases k8;exact G _ hd
 refine aP (wpAny_frameOf_fun S I ah λB q=>aP (wpAny_entryPlaceOf λF N=>?_))
 unfold T1 newFields
 refine aP (nX ?_ (N.sizeOk5 _ _ _ _ _))
 have e1:=(q.2.1 e out).trans he
 have cr:base.StaysIn B:=λb o z=>(q.2.1 b λhm=>by rw[(I.mem hm).1]at z;cases z).trans (T b o z)
 generalize O:({cls:=.type "traceback",dict:=none,data:=.fields ([head,.ref L,.none,ee L,.none]++(if F.isEmpty then lR 6 hu else F)).toArray}:bY)=bU
 have U:bU.data=.fields ([head,.ref L,.none,ee L,.none]++(if F.isEmpty then lR 6 hu else F)).toArray:=by rw[<-O]
 have V:bU.isFreed=false:=by rw[<-O];rfl
 have e2:=fO (h:=B) bU e1
 refine qX e2 hd M (h _ ?_ ?_)
 ·have P:B.objs.size≠e:=lO (dX e1)
  have gC:=qY hd (·.setIfInBounds 1 (fq B.objs.size))
  have e3:=ki (kk (·.setIfInBounds 1 (fq B.objs.size))) e2 (Ao gC)
  have pD:=(q0 (B.push bU) (kk (·.setIfInBounds 1 (fq B.objs.size))) (h6 P)).trans (k6 B V)
  refine⟨λb o z=>?_,J,I.of_keeps λb o D G=>?_,_,_,e3,⟨(Ho _ _).trans K.1,?_⟩,gC,.inr ⟨B.objs.size,bU,_,by simp[M],cr.fresh,P,pD,U,by first|(simp;done)|(rcases N with rfl|⟨_,_,_,_,_,_,_,rfl⟩<;>simp)⟩⟩
  ·rw[q0 _ _ (λH:e=b=>by rw[<-H,J]at z;cases z)]
   exact fO _ (cr b o z)
  ·obtain⟨bs,z⟩:=q.2.2 b o D
   exact⟨{o with slots:=bs},by
    rw[q0 _ _ (λH:e=b=>by clear z;rw[<-H,he]at D;cases D;exact G _ hd)]
    exact fO _ z,rfl⟩
  ·obtain⟨X,Y,W,c⟩:=dh
   clear he hd e1 e2 gC e3
   cases W<;>exact K.2
 ·intro b o D G
  obtain⟨bs,z⟩:=q.2.2 b o D
  refine⟨bs,?_⟩
  rw[q0 _ _ (λH:e=b=>by clear z;rw[<-H,he]at D;cases D;exact G _ hd)]
  exact fO _ z
def DR (H:A.frames=some (env::b7)) (ah:env.frame=some L) (R:j2 base (env::b7) e bp C .none s.heap)
  (h:∀av,j2 base (env::b7) e bp C (ee L) av->s.heap.UpToSlots av->Q () {s with heap:=av}):aO bu A (noteFrame (.ref e) env) Q E s:=by
 obtain⟨I,J,K,dh,ai,he,M,hd,q⟩:=R
 unfold noteFrame
 rw[ah]
 rcases q with⟨q,_⟩|⟨T,V,cn,q,O,P,bj,G,ax⟩
 ·refine aP (s4 he hd q ?_)
  rw[if_neg (by decide)]
  exact DQ H ah K I J he M hd (vX.mp q).1 h
 ·refine aP (s4 he hd q ?_)
  rw[if_pos (show(fq T !=hu)=true by simp)]
  refine aP (s4 bj G ax ?_)
  rw[if_neg (show¬((hu==ee L)=true) by simp[ee])]
  refine aP (qX bj G (vX.mp ax).1 ?_)
  have F:∀b,b≠T->(s.heap.update T (kk (·.setIfInBounds 3 hu))).get? b=s.heap.get? b:=λb B=>q0 _ _ (h6 B)
  have N:∀b o,s.heap.get? b=some o->(∀ai,o.data≠.fields ai)->b≠T:=λb o B D z=>by
   rw[z,bj]at B;cases B;exact D _ G
  refine DQ (s:={s with heap:=_}) H ah (K.of_keeps λb o B D=>⟨o,(F b (N b o B D)).trans B,rfl⟩) (λb o z=>(F b λS=>by rw[S,O]at z;cases z).trans (I b o z)) J
   ((F e (h6 P)).trans he) M hd (vX.mp q).1 λav U u=>h av U λb o B D=>u b o ((F b (N b o B D)).trans B) D
def xF {bg:am} {l:List cI} (o:Option a7) (R:j2 base l e bp C bg s.heap) (P:(bg≠.none)∨o=none) (h:∀av,j2 base l e bp C (o.elim .none λf=>ee f) av->s.heap.UpToSlots av->Q () {s with heap:=av}):
  aO bu A (setFlight (.ref e) o) Q E s:=by
 obtain⟨H,I,J,dh,ai,he,K,hd,q⟩:=R
 unfold setFlight
 rcases q with⟨q,aW⟩|⟨T,U,cn,q,L,M,bj,F,ax⟩
 ·refine aP (s4 he hd q ?_)
  rcases P with z|rfl
  ·exact absurd aW z
  ·rw[if_neg (by decide)]
   exact br (h _ ⟨H,I,J,dh,ai,he,K,hd,.inl ⟨q,rfl⟩⟩ (.refl _))
 ·refine aP (s4 he hd q ?_)
  rw[if_pos (show(fq T !=hu)=true by simp)]
  have N:=(vX.mp ax).1
  have G:∀b,b≠T->(s.heap.update T (kk (·.setIfInBounds 3 (o.elim hu λf=>ee f)))).get? b=s.heap.get? b:=λb B=>q0 _ _ (h6 B)
  have O:∀b o,s.heap.get? b=some o->(∀ai,o.data≠.fields ai)->b≠T:=λb o B D z=>by
   rw[z,bj]at B;cases B;exact D _ F
  refine qX bj F N (h _ ⟨λb bU z=>(G b λS=>by rw[S,L]at z;cases z).trans (H b bU z),I,J.of_keeps λb bU B D=>⟨bU,(G b (O b bU B D)).trans B,rfl⟩,
   dh,ai,(G e (h6 M)).trans he,K,hd,.inr ⟨T,_,_,q,L,M,ki _ bj (Ao (qY F _)),qY F _,by simp[N]⟩⟩
   λb bU B D=>⟨bU.slots,(G b (O b bU B D)).trans B⟩)
def j2.out {bg:am} {h:bE} (R:j2 base (env::b7) e bp C bg h):j2 base b7 e bp C bg h:=⟨R.stays,R.new,R.frames.2.2,R.tr⟩
def DS (B:A.frames=some (env::b7)) (ah:env.frame=some L) (R:j2 base (env::b7) e bp C .none s.heap)
  (h:∀av,j2 base b7 e bp C .none av->s.heap.UpToSlots av->Q () {s with heap:=av}):aO bu A (qQ env (.ref e)) Q E s:=by
 unfold qQ
 refine aP (DR B ah R λD F G=>?_)
 exact xF (s:={s with heap:=D}) none F (.inr rfl) λav H I=>h av H.out (G.trans I)
end
section
open PySem PySem.W PySem.Calls PyProof.Rows Builtin Builtin.ObjectAttr
abbrev oy:List am:=[.type "ValueError",.type "Exception",.type "BaseException",.type "object"]
inductive DT (K:dn) (C ar:Nat):Prop
 |mk dB (ae:clsIn K C=some dB) (ag:dB.mro=.ref C::.ref ar::oy) (ax:dB.hasDict=true):DT K C ar
structure my (K:dn) (C ar:Nat):Prop where
 cls:DT K C ar
 set:gf K (.ref C) "__setattr__"=some (some (.builtin "object.__setattr__"))
section
variable {prog:ew} {h:bE} {g:Array qZ} {d:Drawn} {t:Nat} {os:d3} {C ar e:Nat} {dh:bY} {name:aI} {v:am}
def LH (X:K.In h) (ok:my K C ar):Looks (aR prog w) h (mroOf (.ref C)) (.ref C::.ref ar::oy):=by
 obtain⟨dB,ae,ag,_⟩:=ok.cls
 rw[<-ag]
 exact(looks_clsIn X ae).andThen .now
def ug (X:K.In h) (ok:my K C ar) (n:String):Looks (aR prog w) h (isSubtype (.ref C) (.type n)) (oy.contains (.type n)):=by
 obtain⟨dB,ae,ag,_⟩:=ok.cls
 refine looks_mroIn X ?_
 unfold mroIn
 rw[ae,Option.bind_some,ag]
 show some ((fq C::fq ar::oy).contains (.type n))=_
 rw[pp,pp];rfl
def xG (h:bE) (e:Nat) (dh:bY) (m:aI->Option am) (name:aI) (v:am) (av:bE) (bp:Nat):Prop:=
 av.Ns1 bp (λy=>if y=name then some v else m y)/\av.get? e=some {dh with dict:=some bp}/\(∀b o,b≠e->b≠bp->h.get? b=some o->av.get? b=some o)/\(dh.dict=none/\bp=h.objs.size∨dh.dict=some bp)
def LI {bo:Tok} {ns:List aI} {Q:Fin->a9->Prop} (X:K.In h) (ok:my K C ar) (S:gf K (.ref C) name=some none) (he:h.get? e=some dh) (G:dh.cls=.ref C) (hd:∃ai,dh.data=.fields ai)
  (fF:(dh.dict=none/\m=λZ=>none)∨∃bp,dh.dict=some bp/\bp≠e/\h.Ns1 bp m) (T:Within m ns) (hs:ns.length<=1000)
  (N:∀av U bp,xG h e dh m name v av bp->Q (.done (.ret .none)) ⟨av,g,d,U,os⟩):
  aO (aR prog w) A (ge.«object.__setattr__» ⟨[.ref e,.str name bo,v],[]⟩) Q E ⟨h,g,d,t,os⟩:=by
 have iF:Looks (aR prog w) h (typeOf (.ref e)) (.ref C):=G▸(Looks.ld he).andThen .now
 obtain⟨dB,bx,_,eA⟩:=ok.cls
 rw[osa_eq,refuse_eq]
 refine aP (aP (iF.here (aP ((LH X ok).here ?_))))
 rw[refuseLoop_ref,refuseLoop_ref,PySem.F.store_ValueError.passes]
 refine br (aP (iF.here (aP ((wa X S).here (aP (br ?_))))))
 refine aP (br (aP (aP (wpAny_loadPart he ?_))))
 obtain⟨cR,j,k,gX⟩:=dh
 obtain⟨ai,rfl⟩:=hd
 dsimp only at G fF
 subst G
 refine aP ((looks_clsIn X bx).here ?_)
 rw[eA]
 rcases fF with⟨rfl,rfl⟩|⟨bp,rfl,V,W⟩
 ·have O:(h.push {cls:=.type "dict",data:=.dict #[]}).get? e=some ⟨.ref C,none,.fields ai,gX⟩:=fO _ he
  have P:e≠h.objs.size:=dS (dX he)
  refine aP (wpAny_alloc' (aP (wpAny_update' O (aP (br ?_)))))
  generalize H:(h.push {cls:=.type "dict",data:=.dict #[]}).update e (λo=>{o with dict:=some h.objs.size})=DU
  have g1:DU.get? h.objs.size=some {cls:=.type "dict",data:=.dict #[]}:=by rw[<-H];exact(bE.get?_update_ne _ _ _ _ P.symm).trans (bE.get?_push_at rfl rfl)
  have Y:DU.Ns h.objs.size (λZ=>none):=⟨_,#[],_,g1,rfl,λe he=>absurd he (by simp),λZ=>rfl⟩
  refine nd_pure ?_
  show aO _ _ (storeInDict h.objs.size (.str name bo) name v) _ _ _
  unfold storeInDict newKeyGuard
  refine aP (br (aP (wpAny_nsSet1 (bE.Ns1.of_empty Y) λav B D=>?_)))
  obtain⟨c,f,i,I,J,L⟩:=B.count (Hz name v Within.nil)
  refine aP (wpAny_lookBehind I (by rw[J];exact pastItsLine_dict (c5 L (by rw[nY,List.length_nil,sizeLine_eq];lia))) (br (N _ _ h.objs.size ⟨B,?_,λb o R M k8=>?_,.inl ⟨rfl,rfl⟩⟩)))
  ·rw[D.2 e P,<-H];exact ki _ O rfl
  ·rw[D.2 b M,<-H,bE.get?_update_ne _ _ _ _ R];exact fO _ k8
 ·refine br (a:=some bp) ?_
  show aO _ _ (storeInDict bp (.str name bo) name v) _ _ _
  unfold storeInDict newKeyGuard
  refine aP (br (aP (wpAny_nsSet1 W λav B D=>?_)))
  obtain⟨c,f,i,I,J,L⟩:=B.count (Hz name v T)
  refine aP (wpAny_lookBehind I (by rw[J];exact pastItsLine_dict (c5 L (by rw[nY,sizeLine_eq];lia))) (br (N _ _ bp ⟨B,?_,λb o R M k8=>?_,.inr rfl⟩)))
  ·rw[D.2 e V.symm];exact he
  ·rw[D.2 b M];exact k8
def DV {ns:List aI} {Q:Unit->a9->Prop} (X:K.In h) (ok:my K C ar) (H:gf K (.ref C) name=some none) (he:h.get? e=some dh) (G:dh.cls=.ref C) (hd:∃ai,dh.data=.fields ai)
  (fF:(dh.dict=none/\m=λZ=>none)∨∃bp,dh.dict=some bp/\bp≠e/\h.Ns1 bp m) (I:Within m ns) (hs:ns.length<=1000)
  (J:∀av D bp,xG h e dh m name v av bp->Q () ⟨av,g,d,D,os⟩):aO (aR prog w) A (setAttr (.ref e) name v) Q E ⟨h,g,d,t,os⟩:=by
 have iF:Looks (aR prog w) h (typeOf (.ref e)) (.ref C):=G▸(Looks.ld he).andThen .now
 have B:=PySem.F.store_object
 refine aP (wpAny_mkText (aP (aP (aP (iF.here ((wa X ok.set).here (gB ?_)))))))
 rw[B.slot.bind]
 refine aP (br (aP (nP ?_)))
 refine HA B.slot.plain B.entry (@check_slot (aR prog w) _ _ _ "object.__setattr__" "object" "__setattr__" (.ref e) [.str name _,v] [] _ B.kind B.split (iF.andThen (ug X ok "object")) (B.args (.ref e) (.str name _) v) ?_)
 exact LI X ok H he G hd fF I hs λav D bp q=>br (br (J av D bp q))
end
end
section
variable {prog:ew} {h:bE} {g:Array qZ} {d:Drawn} {t:Nat} {os:d3} {C ar e:Nat} {env:cI}
abbrev ha (C:Nat) (A:Option a7) (B:am):bY:={cls:=.ref C,dict:=A,data:=.fields #[B,.none,.none,.none,.bool false,.none]}
def LJ {B iN mx:String} {bm:List am} (F:v_ B iN mx bm) {ct:List am} {t0:a7} {fu:am} {eC:Option a7} {dB:ClassData} {bs:Array (Option am)} {R:kh->a9->Prop} (D:h.get? C=some ⟨fu,eC,.cls dB,bs⟩) (dT:Looks (aR prog w) h (isSubtype (.ref C) (.type B)) true) (he:h.get? e=some (ha C none (.ref t0)))
  (E:R (.ok (.ret .none)) ⟨(h.push {cls:=.type "tuple",data:=.seq ct.toArray}).update e (kk (·.setIfInBounds 0 (.ref h.objs.size))),g,d,t,os⟩) (qa:ct.length<=hr):
  dH (aR prog w) A (.call (.builtin mx) ⟨.ref e::ct,[]⟩) R ⟨h,g,d,t,os⟩:=by
 refine HA F.init.plain F.initEntry ?_
 have G:=F.noStar
 unfold Hx
 rw[F.initKind,F.initSplit]
 dsimp only
 rw[F.initRow]
 repeat (first|with_reducible refine pq he ?_|with_reducible refine pq D ?_|with_reducible refine dT.here ?_|wp_step)
 refine wpAny_onRaise ?_
 rw[show∀(a b:String) (n:Nat),Bind.check ⟨.positional,"*",B,.self,[⟨"args",.varPos,false⟩]⟩ a b n (List.map (λx=>x.fst) ({pos:=fq e::ct}:Args).kw)=pure ()from
  λa b n=>check_star_args _ _ _ _ _ _]
 refine br ?_
 wp_walk
 exact E
def LK {x:Sem am} {Q:iZ->a9->Prop} (cj:A.handled=none)
  (h:aO (aR prog w) A x (λv B=>∃e D F C,v=.ref e/\B.heap.get? e=some (ha C D F)/\Looks (aR prog w) B.heap (isSubtype (.ref C) (.type "BaseException")) true/\Looks (aR prog w) B.heap (typeOf (.ref C)) (.type "type")/\E (.ref e) B) E s):
  aO (aR prog w) A (raiseStmt env (some x) none) Q E s:=by
 unfold raiseStmt
 refine aP (b_ h (λv B G=>?_) λZ Z x=>x)
 obtain⟨e,D,F,C,rfl,he,H,bj,I⟩:=G
 obtain⟨c0,g,d,bo,os⟩:=B
 repeat (first|with_reducible refine pq he ?_|with_reducible refine H.here ?_|with_reducible refine bj.here ?_|wp_step)
 exact wpAny_raiseNew_none cj I
end
def np {Q:am->a9->Prop} {pos:bO} {v:am} (ah:aZ c f) (F:Fr f.aC f.L s.heap m) (B:f.sc.names.lookup y=some .local) (hm:m y=some v) (h:Q v s):
  aO (aR c.prog c.w) f.A (dP (.Name y pos) f.env) Q E s:=
 vT (GX ah.kind (hx.loc ah B) (ah.locals▸F.ns) hm h) (mj ah B)
def xH {bu:k0} {env:cI} {Q:am->a9->Prop} {t:aI} {aK:Nat} {pos:bO} (h:Q (.str t s.toks) {s with toks:=s.toks+1}):aO bu A (dP (.Constant (.str t) aK pos) env) Q E s:=λZ Z Z=>h
def DW {Q:iZ->a9->Prop} {e:aM} {pos:bO} {ct:List bI} (ah:aZ c f) (ae:on e=false) (h:aO (aR c.prog c.w) f.A (dP e f.env) (λZ aq=>aO (aR c.prog c.w) f.A (jJ ct f.env) Q E aq) E s):
  aO (aR c.prog c.w) f.A (jJ (.Expr e pos::ct) f.env) Q E s:=by
 have af:interactive f.env=false:=by
  show(f.env.scope.kind==.module&&_)=false
  rw[ah.kind];rfl
 refine iE ?_
 rw[exec_Expr f.env e pos af (xd ae)]
 exact aP (lP (aP (b_ h (λv C B=>wpAny_dropValue B) λZ Z h=>h)))
def DX {bu:k0} {env:cI} {Q:List am->a9->Prop} {a b:aM} {pos:bO} (ns:noStar [a,b]=true) (h:aO bu A (dP a env) (λv B=>aO bu A (dP b env) (λw=>Q [v,w]) E B) E s):
  aO bu A (spliced (lS pos (kj [a,b] env))) Q E s:=by
 obtain⟨C,e1⟩:=mo ns
 obtain⟨G,e2⟩:=mo C
 rw[e1 env]
 refine qU (b_ h (λv B D=>?_) λZ Z h=>h)
 rw[e2 env]
 exact qU (b_ D (λw H F=>vW F) λZ Z h=>h)
def DY {ar:Prop} {aC h av:bE} {L e bp:Nat} {G:aI->Option am} {dh:bY} {name:aI} {v:am} {aj:bc} (F:Fr aC L h m) (ak:News aC L h ((e,dh)::aj)) (H:∀q∈aj,q.1≠e) (S:xG h e dh G name v av bp)
  (fF:∀bp,dh.dict=some bp->aC.get? bp=none/\bp≠L/\∀q∈aj,q.1≠bp) (C:∀cB,av.get? bp=some cB->Fr aC L av m->News aC L av ((e,{dh with dict:=some bp})::(bp,cB)::aj)->(∀q∈aj,q.1≠bp)->ar):ar:=by
 obtain⟨D,ae,ag,ax⟩:=S
 have he:=ak _ (.head _)
 have B:aC.get? bp=none/\bp≠L/\∀q∈aj,q.1≠bp:=by
  clear C D ae ag
  rcases ax with⟨_,rfl⟩|ax
  ·refine⟨?_,lO F.ns.lt,λq A=>dS (dX (ak q (.tail _ A)).1)⟩
   cases q:aC.get? h.objs.size with
   |none=>rfl
   |some o=>exact absurd (dX (F.keep _ _ q)) (nL _)
  ·exact fF bp ax
 obtain⟨cB,es,az,k8,_⟩:=D
 obtain⟨E,I,J,K,r⟩:=F.ns
 refine C cB k8 ⟨⟨E,I,J,ag L E (h6 he.2.1) (h6 B.2.1) K,r⟩,λb o z=>ag b o (λy=>?_) (λy=>?_) (F.keep b o z),F.above⟩ (λq A=>?_) B.2.2
 ·rw[y]at z;rw[he.2.2]at z;cases z
 ·rw[y]at z;rw[B.1]at z;cases z
 ·rcases bJ.mp A with rfl|A
  ·exact⟨ae,he.2⟩
  ·rcases bJ.mp A with rfl|A
   ·exact⟨k8,B.2.1,B.1⟩
   ·have:=ak q (.tail _ A)
    exact⟨ag _ _ (H q A) (B.2.2 q A) this.1,this.2⟩
inductive xI (c:b4) (C ar:Nat) (fe fl:c9):Prop
 |mk (hF gq:aI) (ae:fe.names=[hF,gq]) (ag:hF≠gq) (ax:fe.scope.names.lookup hF=some .local) (aS:fe.scope.names.lookup gq=some .local) (il:aI) (aK aW bH cV eI gD j3 iO ly ap:bO) (k:Nat) (rR:aI) (bA:fe.body=[.Expr (.Call (.Attribute (.Name il aK) "__init__" ap) [.Name hF aW,.Constant (.str rR) k bH] [] cV) eI,.Assign [.Attribute (.Name hF gD) "thing" j3] (.Name gq iO) ly]) (cw:fe.scope.names.lookup il=some .globalImplicit) (cM:d7 c il (.ref ar)) (dg:hA (.Name il aK) [.Name hF aW,.Constant (.str rR) k bH] ap cV=true) (ik:bf rR=true):xI c C ar fe fl
inductive xJ (c:b4) (C ar:Nat) (fe fl:c9):Prop
 |mk (hF rs:aI) (ae:fl.names=[hF,rs]) (ag:hF≠rs) (ax:fl.scope.names.lookup hF=some .local) (aS:fl.scope.names.lookup rs=some .local) (rS:aI) (aK aW bH cV eI gD j3 iO ly ap:bO) (bA:fl.body=[.Expr (.Call (.Attribute (.Name rS aK) "__init__" ap) [.Name hF aW,.Name rs bH] [] cV) eI,.Assign [.Attribute (.Name hF gD) "reason" j3] (.Name rs iO) ly]) (cw:fl.scope.names.lookup rS=some .globalImplicit) (cM:d7 c rS (.type "ValueError")) (dg:hA (.Name rS aK) [.Name hF aW,.Name rs bH] ap cV=true):xJ c C ar fe fl
structure qb (c:b4) (C ar:Nat) (fe fl:c9):Prop where
 ex:my c.K C ar
 obj:∃nm q ak eH sn sub cG kO eC hW cr cx dI d5,c.K.lookup C=some (s8 nm q C ak eH (.ref ar::oy) true sn sub cG kO eC hW cr cx dI d5 "ValueError.__new__")
 init:gf c.K (.ref C) "__init__"=some (some (.ref fe.addr))
 LL:typeIn c.K (.ref fe.addr)=some (.type "function")
 DZ:gH c.K fe
 D0:gH c.K fl
 rT:fe.names.length=fe.least+fe.dflt.length
 rU:fl.names.length=fl.least+fl.dflt.length
 LM:xI c C ar fe fl
 il:xJ c C ar fe fl
 p5:w1 c.K ar "__init__" fl.addr
 LN:findCls c.K (.type "ValueError") (.type "type") "__init__"=some (.val (.builtin "ValueError.__init__"))
 tr:gf c.K (.ref C) "reason"=some none
 tt:gf c.K (.ref C) "thing"=some none
 LO:typeIn c.K (.ref C)=some (.type "type")
def D1 {sc:bB} {a b:aI} {x y:V} {aB:aA->Loc->Bool} {dflt:List V} {least:Nat} (A:2=least+dflt.length) (B:sc.names.lookup a=some .local) (C:sc.names.lookup b=some .local) (h:aB ab [(aG b,y),(aG a,x)]=true):
  gI ([a,b].map λz=>(aG z,decide (sc.names.lookup z=some .cell))) (je dflt least [x,y]) ab [] (λab loc=>hU [] ab loc aB)=true:=by
 rw[wu,show [x,y].length-least=dflt.length by exact Nat.sub_eq_of_eq_add' A,List.drop_length,k1]
 have c_:decide (sc.names.lookup a=some .cell)=false:=by rw[B];rfl
 have fs:decide (sc.names.lookup b=some .cell)=false:=by rw[C];rfl
 rw[d4,d4,Ht,c_,fs]
 exact h
def D2 {ar:Prop} {a b:aI} {x y:V} (A:db f p [(aG b,y),(aG a,x)] m) (C:a≠b) (B:bf a=true) (bU:bf b=true) (D:f.sc.names.lookup a=some .local) (E:f.sc.names.lookup b=some .local) (F:∀u v,m a=some u->aE p x u->m b=some v->aE p y v->ar):ar:=by
 have ae:=A a x B (by rw[gE,d6,decide_eq_false (λq=>C (gW bU B q).symm)];show lk [(aG a,x)] (aG a)=_;rw[gE,d6,decide_eq_true rfl])
 have ag:=A b y bU (by rw[gE,d6,decide_eq_true rfl])
 rcases ae with⟨_,u,ae,G⟩|⟨q,_⟩
 ·rcases ag with⟨_,v,ag,H⟩|⟨q,_⟩
  ·exact F u v ae G ag H
  ·rw[E]at q;rcases q with q|q<;>cases q
 ·rw[D]at q;rcases q with q|q<;>cases q
def D3 (l:Loc):aA->Loc->Bool:=λZ A=>@decide (A=l) (dv _)
def LP {aC h:bE} {L e C t0:Nat} {aj:bc} {tup:bY} (K:tup.isFreed=false) (F:Fr aC L h m) (ak:News aC L h ((e,ha C none (.ref t0))::aj)) (E:∀q∈aj,q.1≠e):
  Fr aC L ((h.push tup).update e (kk (·.setIfInBounds 0 (.ref h.objs.size)))) m/\News aC L ((h.push tup).update e (kk (·.setIfInBounds 0 (.ref h.objs.size)))) ((e,ha C none (.ref h.objs.size))::aj):=by
 have he:=ak _ (.head _)
 have B:∀b o,b≠e->h.get? b=some o->((h.push tup).update e (kk (·.setIfInBounds 0 (.ref h.objs.size)))).get? b=some o:=λb o G z=>by
  rw[q0 _ _ (h6 G)];exact fO _ z
 obtain⟨D,H,I,J,r⟩:=F.ns
 refine⟨⟨⟨D,H,I,B L D (h6 he.2.1) J,r⟩,λb o z=>B b o (λy=>by rw[y,he.2.2]at z;cases z) (F.keep b o z),F.above⟩,λq A=>?_⟩
 rcases bJ.mp A with rfl|A
 ·exact⟨ki _ (fO _ he.1) rfl,he.2⟩
 ·have:=ak q (.tail _ A)
  exact⟨B _ _ (E q A) this.1,this.2⟩
section
variable {C ar:Nat} {fe fl:c9}
def LQ:typeOf (.type "ValueError")=pure (.type "type"):=by kernel_rfl
def LR:qP (.builtin "ValueError.__init__")=true:=by kernel_rfl
def LS:Manifest.isStub "ValueError"=false:=by decide+kernel
def LU (B:qb c C ar fe fl) (ah:aZ c f) (cD:f.d+10<=300) {e t0:Nat} {di:am} {x:V} {aj:bc} {R:kh->a9->Prop} (l:aE p x di) (F:Fr f.aC f.L s.heap m)
  (ak:News f.aC f.L s.heap ((e,ha C none (.ref t0))::aj)) (H:aQ c.K c.w p ab.t ((e,ha C none (.ref t0))::aj)) (z:dq p ab)
  (n:∀aq bp cB o Q,Fr f.aC f.L aq.heap m->News f.aC f.L aq.heap ((e,ha C (some bp) o)::(bp,cB)::aj)->aq.heap.Ns1 bp Q->Within Q ["reason"]->aq.gens=s.gens->aq.os=s.os->bp≠e->(∀q∈aj,q.1≠bp)->R (.ok (.ret .none)) aq):
  dH (aR c.prog c.w) f.A (.call (.ref fl.addr) ⟨[.ref e,di],[]⟩) R s:=by
 obtain⟨hF,rs,M,r,l1,l2,rS,aK,aW,bH,cV,eI,gD,j3,iO,ly,ap,y,aa,af,ai⟩:=B.il
 have U:∀q∈aj,q.1≠e:=λq N z=>by
  have:=H.a_
  rw[d4,g7]at this
  exact this.1 (ey.mpr ⟨q,N,z⟩)
 have rU:=B.rU
 rw[M]at rU
 obtain⟨ae,ag,ax,aS⟩:=rz' ai
 refine enter (cl:=[]) (KK:=D3 [(aG rs,x),(aG hF,.gnd e)]) (xs:=[.gnd e,x]) (d:=f.d) cD B.D0 rfl ⟨[],rfl,.nil,λZ h=>nomatch h⟩ B.rU ah (eh _) F ak H z (.cons rfl (.cons l .nil)) (by rw[M];exact D1 rU l1 l2 (@decide_eq_true _ (dv _) rfl)) λO al aJ aL aM an W bo D aN E aO aP aT aU aV aX Z G ao e02 aY a0 as Y Z lv=>?_
 have au:an=_:=@of_decide_eq_true _ (dv _) Y
 clear Y
 subst au
 have os:=B.D0.ok
 rw[M]at os
 obtain⟨u,v,g,aw,i,a1⟩:=D2 as r (os _ (.head _)) (os _ (.tail _ (.head _))) (by rw[E];exact l1) (by rw[E];exact l2)
 cases aw
 have j:News O.aC O.L W ((e,ha C none (.ref t0))::aj):=λq N=>ao q (dD _ N)
 have I:c.K.In W:=D.X.keeps G.keep
 obtain⟨_,_,_,_,_,_,_,_,_,_,_,_,_,_,ay⟩:=B.obj
 rw[y]
 refine DW D rfl (ry ae ag ax aS (ml D (by rw[E];exact aa) af G λa2=>method_type (T:="ValueError") (v:=.builtin "ValueError.__init__") G D.X LQ LS B.LN LR ?_))
 refine jY og ag I (DX ag (np D G (by rw[E];exact l1) g (np D G (by rw[E];exact l2) i ⟨I,nP ?_⟩)))
 refine LJ (C:=C) T2 (I _ _ ay) (ug I B.ex "ValueError") (j _ (.head _)).1 ?_ (by show 1<=_;decide)
 obtain⟨J,k⟩:=LP (tup:={cls:=.type "tuple",data:=.seq [v].toArray}) rfl G j U
 have aA:=D.X.keeps J.keep
 refine iE (Hj (np D J (by rw[E];exact l2) i (np D J (by rw[E];exact l1) g ?_)) xe)
 refine DV aA B.ex B.tr (k _ (.head _)).1 rfl ⟨_,rfl⟩ (.inl ⟨rfl,rfl⟩) Within.nil (by simp) λav a3 bp S=>?_
 obtain⟨cB,k8,aB,P,aD⟩:=DY J k U S (λbp q=>nomatch q)
 have aF:bp≠e:=λq=>by
  have a:=(P _ (.head _)).1
  have b:=(P _ (.tail _ (.head _))).1
  obtain⟨⟨o1,es,az,bx,cf,_⟩,_⟩:=S
  rw[q]at bx
  rw[bx]at a
  clear bx
  cases a
  cases cf
 exact k7 (lv _ _ ⟨O.L,al,_,aB,P,λaH aI=>n _ bp cB _ _ aH aI S.1 (Hz _ _ Within.nil) rfl rfl aF aD⟩)
end
def aQ.perm {t:T} {aj a3:bc} (H:aQ K w p t aj) (h:aj.Perm a3):aQ K w p t a3:=
 ⟨(h.map _).nodup_iff.mp H.a_,λi o af k8=>ch.ext (aX.bN.refl p) af (λq A Z=>h.mem_iff.mp A) (H.ent i o af k8),H.aa,H.dp,H.cG,
  λi af l=>let⟨⟨o,a⟩,bC,b⟩:=H.mem i af l;⟨⟨o,h.mem_iff.mp a⟩,bC,h.mem_iff.mp b⟩,H.small,λq A=>h.mem_iff.mp (H.a6 q A),H.eB⟩
def qc (v:V):Bool:=V.rec true (λZ=>true) (λZ=>true) (λZ=>true) (λZ=>true) (λZ Z=>true) (λZ=>true) a1 v
def aE.back {A:aX} (e:p.bN A) {x:V} {u v:am} (B:qc x=true) (h:aE p x u) (ag:aE A x v):aE p x v:=by
 cases x with
 |own i k=>obtain⟨af,q,_⟩:=h;obtain⟨_,_,rfl⟩:=ag;exact⟨af,q,by rw[e.a i af]⟩
 |sym c=>obtain⟨i,t,ax,aS⟩:=ag;exact⟨i,t,ax,by rw[<-e.n];exact aS⟩
 |any k t=>cases B
 |_=>exact ag
section
variable {C ar:Nat} {fe fl:c9}
def LV (D:qb c C ar fe fl) (ah:aZ c f) (cD:f.d+20<=300) {e t0:Nat} {Y:am} {x:V} {aj:bc} {R:kh->a9->Prop} (y:qc x=true) (a:aE p x Y) (F:Fr f.aC f.L s.heap m)
  (ak:News f.aC f.L s.heap ((e,ha C none (.ref t0))::aj)) (H:aQ c.K c.w p ab.t ((e,ha C none (.ref t0))::aj)) (z:dq p ab)
  (aa:∀aq bp cB M O b,Fr f.aC f.L aq.heap m->News f.aC f.L aq.heap ((e,ha C (some bp) M)::(bp,cB)::aj)->aq.heap.Ns1 bp O->O "thing"=some b->aE p x b->aq.gens=s.gens->aq.os=s.os->bp≠e->(∀q∈aj,q.1≠bp)->R (.ok (.ret .none)) aq):
  dH (aR c.prog c.w) f.A (.call (.ref fe.addr) ⟨[.ref e,Y],[]⟩) R s:=by
 obtain⟨hF,gq,P,af,l1,l2,il,aK,aW,bH,cV,eI,gD,j3,iO,ly,ap,k,rR,ai,al,an,ao,as⟩:=D.LM
 have rT:=D.rT
 rw[P]at rT
 obtain⟨ae,ag,ax,aS⟩:=rz' ao
 obtain⟨s1,⟨a6,a5,eX,hR⟩,jK⟩:=D.p5
 refine enter (cl:=[]) (KK:=D3 [(aG gq,x),(aG hF,.gnd e)]) (xs:=[.gnd e,x]) (d:=f.d) (by lia) D.DZ rfl ⟨[],rfl,.nil,λZ h=>nomatch h⟩ D.rT ah (eh _) F ak H z (.cons rfl (.cons a .nil)) (by rw[P];exact D1 rT l1 l2 (@decide_eq_true _ (dv _) rfl)) λJ au Q aw ay az T bo B a7 G a8 ba bb aA bd be Z I aB e02 aD aF aH i Z lv=>?_
 have aI:az=_:=@of_decide_eq_true _ (dv _) i
 clear i
 subst aI
 have os:=D.DZ.ok
 rw[P]at os
 obtain⟨u,v,j,aJ,aL,aM⟩:=D2 aH af (os _ (.head _)) (os _ (.tail _ (.head _))) (by rw[G];exact l1) (by rw[G];exact l2)
 cases aJ
 have pm:(Q++(e,ha C none (.ref t0))::aj).Perm ((e,ha C none (.ref t0))::(Q++aj)):=List.perm_middle
 have aN:News J.aC J.L T ((e,ha C none (.ref t0))::(Q++aj)):=λq E=>aB q (pm.mem_iff.mpr E)
 have cX:=aF.perm pm
 have l:c.K.In T:=B.X.keeps I.keep
 rw[ai]
 refine DW B rfl (ry ae ag ax aS (ml B (by rw[G];exact al) an I λbf=>method_of_cls I B.X s1 (cls_val I B.X a5 eX hR rfl ?_)))
 refine jY (ln jK) ag l (DX ag (np B I (by rw[G];exact l1) j (xH ⟨l,nP ?_⟩)))
 refine LU (s:=⟨T,s.gens,s.drawn,_,s.os⟩) D B (by rw[aA];lia) (x:=.str (aG rR)) (p:=aw) (ab:=ay) ⟨_,_,rfl,as,rfl⟩ I aN cX aD λaq bp cB M O N U fF aO g1 g2 n aP=>?_
 have aT:=B.X.keeps N.keep
 have o:News J.aC J.L aq.heap ((e,ha C (some bp) M)::aj):=λq E=>by
  rcases bJ.mp E with rfl|E
  ·exact U _ (.head _)
  ·exact U _ (.tail _ (.tail _ (dD _ E)))
 have aU:∀q∈aj,q.1≠e:=λq E z=>by
  have:=H.a_
  rw[d4,g7]at this
  exact this.1 (ey.mpr ⟨q,E,z⟩)
 obtain⟨c0,g,bg,aV,bh⟩:=aq
 dsimp only at g1 g2
 refine iE (Hj (np B N (by rw[G];exact l2) aL (np B N (by rw[G];exact l1) j ?_)) xe)
 refine DV aT D.ex D.tt (o _ (.head _)).1 rfl ⟨_,rfl⟩ (.inr ⟨bp,rfl,n,fF⟩) aO (by simp) λav aV W S=>?_
 clear fF
 have aX:W=bp:=by
  rcases S.2.2.2 with⟨q,_⟩|q
  ·cases q
  ·exact(gR q).symm
 subst aX
 have r:=U (W,cB) (.tail _ (.head _))
 obtain⟨aY,k8,a0,a1,a2⟩:=DY N o aU S (λbp q=>by cases q;exact⟨r.2.2,r.2.1,λq E=>aP q (dD _ E)⟩)
 exact k7 (lv _ _ ⟨J.L,au,_,a0,a1,λa3 a4=>aa _ W aY M _ v a3 a4 S.1 (if_pos rfl) (aE.back e02 y a aM) g1 g2 n a2⟩)
end
abbrev fJ (l:List cI):List a7:=l.filterMap (·.frame)
inductive D4 (c:b4) (C:Nat) (fK:bE) (ao:List cI) (p:aX) (x:V->aA->Bool) (c0:bE) (e:Nat):Prop
 |mk aD aF v val B bp D5 aj (ae:p.bN aD) (ag:dq aD aF) (ax:x v aF=true) (aS:aE aD v val) (bA:aQ c.K c.w aD aF.t aj) (cw:(∀q∈aj,B.get? q.1=some q.2/\fK.get? q.1=none)) (cM:(∀b o,fK.get? b=some o->b∉fJ ao->B.get? b=some o)) (dg:j2 B ao e bp (.ref C) .none c0) (ik:B.Ns bp D5) (lq:D5 "thing"=some val):D4 c C fK ao p x c0 e
structure xK (c:b4) (C:Nat) (f:bL) (p:aX) (x:V->aA->Bool) (s:a9) (e:Nat):Prop where
 ex:D4 c C f.aC f.ao p x s.heap e
 up:f.aC.UpToSlots s.heap
 self:f.aC.get? f.L=none
 gens:s.gens=#[]
 os:s.os=c.os
def aZ.stack {ar:bE} (ah:aZ c f) (F:Fr f.aC f.L ar m):f.A.frames=some f.ao:=
 (ah.iH ⟨ar,#[],{},0,c.os⟩ m [] (λZ Z=>True) F News.nil).2.1.stack
def b6 (c:b4) (C:Nat):XL c where
 ok f p x E:=∀s e,xK c C f p x s e->E (.ref e) s
 up:=λ{f p aD x E} e h s a R=>h s a (by
  obtain⟨⟨N,aF,v,val,B,bp,D,aj,bF,O,P,Q,S,T,U,V,W,X⟩,Y,d,i,j⟩:=R
  exact⟨⟨N,aF,v,val,B,bp,D,aj,e.trans bF,O,P,Q,S,T,U,V,W,X⟩,Y,d,i,j⟩)
 under:=λh Z s a R=>h s a ⟨R.ex,R.up,R.self,R.gens,R.os⟩
 no:=λf p E s e R=>by
  obtain⟨⟨_,_,_,_,_,_,_,_,_,_,h,_⟩,_⟩:=R
  cases h
 call:=λ{f g p x E} ah af h k l n I s e R=>by
  obtain⟨m,F⟩:=k
  obtain⟨⟨aD,aF,v,val,B,bp,D,aj,bF,z,r,t,H,J,dT,K,fF,hm⟩,up,self,gs,os⟩:=R
  have u:g.A.frames=some (g.env::f.ao):=by rw[n];exact nR (ah.stack F)
  rw[l]at K dT
  have w:∀b o,f.aC.get? b=some o->b≠g.L:=λb o q y=>by
   have:=F.keep _ _ q
   rw[y,self]at this;cases this
  refine DS u I K λav aa ab=>h _ e ⟨⟨aD,aF,v,val,B,bp,D,aj,bF,z,r,t,H,λq M=>⟨(J q M).1,kts_none F.keep (J q M).2⟩,λb o q ae=>dT b o (F.keep _ _ q) λhm=>?_,aa,fF,hm⟩,
   ((T3 F.keep).trans up).trans ab,s9 F,gs,os⟩
  obtain⟨env,he,G⟩:=jc.mp hm
  rcases bJ.mp he with rfl|he
  ·rw[I]at G;exact w b o q (gR G).symm
  ·exact ae (jc.mpr ⟨env,he,G⟩)
def aZ.under {code:Code} (ah:aZ c f) (hd:f.d+1<=300) (B:(f.A.under code).depth=f.A.depth+1/\(f.A.under code).units=f.A.units+1/\(f.A.under code).handled=none/\(f.A.under code).frames=f.A.frames):aZ c {f with A:=f.A.under code,d:=f.d+1}:=by
 refine⟨ah.X,ah.T,λs m aj R F ak=>?_,?_,?_,hd,ah.dp,B.2.2.1,ah.em,ah.kind,ah.locals,ah.globals,ah.builtins,ah.iI,ah.iJ,ah.lc,ah.kv,ah.me⟩
 ·obtain⟨D,C,E,G⟩:=ah.iH s m aj R F ak
  exact⟨D,⟨B.2.2.2.trans C.stack,C.stays,C.frames⟩,E,G⟩
 ·exact c5 (gz B.1) (iz ah.depth)
 ·exact c5 (gz B.2.1) (l5 ah.units rfl)
def D6 (e:aT):bV:=λab loc Z au=>e ab loc (λv ab=>aN (qc v) (au.x v ab)) au
section
variable {C ar:Nat} {fe fl:c9}
def LW (I:qb c C ar fe fl) (ah:aZ c f) (cD:f.d+25<=300) {loc:Loc} {x:V->aA->Bool} {val:am} (S:ba c f p ab loc s) (R:qc v=true) (T:aE p v val) (U:x v ab=true) {Q:am->a9->Prop}
  (W:∀aq e Y M,aq.heap.get? e=some (ha C Y M)->c.K.In aq.heap->xK c C f p x aq e->Q (.ref e) aq):aO (aR c.prog c.w) f.A (call (.ref C) [val] []) Q E s:=by
 obtain⟨nm,q,as,eH,sn,sub,cG,kO,eC,hW,cr,cx,dI,d5,g⟩:=I.obj
 obtain⟨m,aj,F,ak,H,au⟩:=S.ex
 have X:=S.X ah
 have h:=aZ.under (code:=.builtin "type.__call__" ⟨.ref C::[val],[]⟩) ah (by lia) ⟨rfl,rfl,ah.cj,by show pushEnvs [] f.A.frames=_;cases f.A.frames<;>rfl⟩
 obtain⟨cj,gs,i,bo,os⟩:=s
 refine LF T2 (by intro n;show(fq ar::oy).contains _=_;rw[pp];rfl) (K:=c.K) X (X _ _ g) I.init I.LL (λav e cr he g1 g2 aw=>?_) (by show 1<=_;decide)
 subst he
 have j:Fr f.aC f.L av m:=F.keeps cr
 have lt:∀q∈aj,q.1<cj.objs.size:=λq B=>dX (ak q B).1
 have fresh:∀b,cj.objs.size<=b->f.aC.get? b=none/\b≠f.L:=λb N=>by
  refine⟨?_,λy=>absurd (y▸F.ns.lt) (nK.mpr N)⟩
  cases q:f.aC.get? b with
  |none=>rfl
  |some o=>exact absurd (dX (F.keep _ _ q)) (nK.mpr N)
 have k:News f.aC f.L av ((cj.objs.size+1,ha C none (.ref cj.objs.size))::aj):=λq B=>by
  rcases bJ.mp B with rfl|B
  ·exact⟨g1,(fresh _ (nO _)).2,(fresh _ (nO _)).1⟩
  ·exact⟨cr _ _ (ak q B).1,(ak q B).2⟩
 have cX:aQ c.K c.w p ab.t ((cj.objs.size+1,ha C none (.ref cj.objs.size))::aj):=aQ.wide (new:=[_]) H (by
  show(_::aj.map (·.1)).Nodup
  refine g7.mpr ⟨λhm=>?_,H.a_⟩
  obtain⟨q,B,e⟩:=ey.mp hm
  have:=lt q B
  rw[e]at this;exact absurd this (nK.mpr (nO _)))
 have l:∀q∈aj,q.1≠cj.objs.size+1:=λq B=>dS (nM (lt q B))
 refine nP (LV I h (by show f.d+1+20<=300;lia) (s:=⟨av,gs,i,bo,os⟩) R T j k cX S.z λaq bp cB M r u G D fF hm aa g3 ae af ax=>⟨rfl,?_⟩)
 have he:=D _ (.head _)
 have O:=D (bp,cB) (.tail _ (.head _))
 obtain⟨ag,J,ai,_⟩:=ah.iH aq m ((bp,cB)::aj) (λZ Z=>True) G (λq B=>D q (.tail _ B))
 clear zu
 clear ag ai
 have P:∀q∈(bp,cB)::aj,q.1∉fJ f.ao:=λq B hm=>by
  obtain⟨_,o,k8,_⟩:=J.frames.mem hm
  rw[pe _ (kg (f:=lN) B)]at k8;cases k8
 have dT:∀q∈(bp,cB)::aj,(fN aq.heap ((cj.objs.size+1)::fJ f.ao)).get? q.1=some q.2:=λq B=>n1 _ (D q (.tail _ B)).1 λhm=>by
  rcases bJ.mp hm with e|hm
  clear hm
  ·rcases bJ.mp B with rfl|B
   ·exact af e
   ·exact l q B e
  ·exact P q B hm
 clear P
 have bg:j2 (fN aq.heap ((cj.objs.size+1)::fJ f.ao)) f.ao (cj.objs.size+1) bp (.ref C) .none aq.heap:=by
  refine⟨λb o q=>nQ _ q,pe _ (.head _),funFrames_hide (J.frames.of_keeps λb o q Z=>⟨o,nQ _ q,rfl⟩) λenv al a an=>List.mem_cons_of_mem _ (jc.mpr ⟨env,al,an⟩),?_⟩
  exact⟨_,_,he.1,⟨rfl,rfl⟩,rfl,.inl ⟨rfl,rfl⟩⟩
 clear J
 refine W aq _ _ _ he.1 (ah.X.keeps G.keep) ⟨⟨p,ab,v,u,_,bp,r,aj,.refl p,S.z,U,aa,H,λq B=>⟨dT q (.tail _ B),(D q (.tail _ (.tail _ B))).2.2⟩,λb o q ap=>?_,bg,?_,hm⟩,T3 G.keep,s9 G,g3.trans S.gens,ae.trans S.os⟩
 ·refine n1 _ (G.keep _ _ q) λhm=>?_
  rcases bJ.mp hm with e|hm
  ·rw[e,he.2.2]at q;cases q
  ·exact ap hm
 clear D
 ·obtain⟨o1,es,az,bx,cf,eA,_,fP⟩:=fF
  rw[bx]at O
  cases O.1
  exact⟨_,es,az,dT _ (.head _),cf,eA,fP⟩
def LX (B:qb c C ar fe fl) (ah:aZ c f) (cD:f.d+25<=300) {dU:aI} {F gr pos:bO} {e:aM} {aV:aT} (J:f.sc.names.lookup dU=some .globalImplicit) (oz:d7 c dU (.ref C)) (L:fZ c.K (.ref C)=true) (he:a8 c (b6 c C) aV f e) (ns:noStar [e]=true):
  dK c (b6 c C) (D6 aV) f (.Raise (some (.Call (.Name dU F) [e] [] gr)) none pos):=λab loc a2 au p s E h S G M=>by
 rw[arm_exec_Raise]
 refine aP (lP ?_)
 show aO _ _ (raiseStmt f.env (some (do let v<-dP (.Call (.Name dU F) [e] [] gr) f.env;sM pos;pure v)) none) _ _ _
 refine LK ah.cj (aP ?_)
 rw[na rfl]
 refine aP (tF ah J oz s _ _ ?_ ⟨ab,loc,S⟩)
 refine jY (ln L) ns (S.X ah) ?_
 refine lf (rQ gr (gJ.cons he .nil) ns ab loc (λai ab=>kE ai λv=>aN (qc v) (au.x v ab)) au p s E h S G M) (λai U bt bw xs N D H A=>⟨H.X ah,?_⟩)
 cases D with
 |nil=>cases A
 |cons D t=>
  cases t with
  |cons _ _=>cases A
  |nil=>
   obtain⟨O,A⟩:=an (show aN (qc _) _=true from A)
   refine LW B ah cD H O D A λaq e P Q T I R=>aP (lP (br ?_))
   exact⟨e,P,Q,C,rfl,T,ug I B.ex "BaseException",looks_typeIn I B.LO,(b6 c C).up (E:=E) N G aq e R⟩
end
section
open PySem PySem.W PySem.Calls PyProof.Rows Builtin Builtin.ObjectAttr
section
variable {prog:ew} {h:bE} {g:Array qZ} {d:Drawn} {t:Nat} {os:d3} {C ar e:Nat} {dh cB:bY} {name:aI} {v:am}
def LY {bo:Tok} {Q:Fin->a9->Prop} (X:K.In h) (I:InstAt h e dh C (some cB)) (ah:findObj K C (some cB) name=some (.value v)) (B:Q (.done (.ret v)) ⟨h,g,d,t,os⟩):
  aO (aR prog w) A (ge.«object.__getattribute__» ⟨[.ref e,.str name bo],[]⟩) Q E ⟨h,g,d,t,os⟩:=by
 have D:=I.type (M:=aR prog w)
 have F:=looks_find (M:=aR prog w) X I ah
 unfold ge.«object.__getattribute__»
 refine aP (br (aP (br (aP (D.at (aP (F.at ?_)))))))
 exact br B
def LZ {bo:Tok} {R:kh->a9->Prop} (X:K.In h) (ok:my K C ar) (I:InstAt h e dh C (some cB)) (ah:findObj K C (some cB) name=some (.value v)) (B:R (.ok (.ret v)) ⟨h,g,d,t,os⟩):
  dH (aR prog w) A (.call (.builtin "BaseException.__getattribute__") ⟨[.ref e,.str name bo],[]⟩) R ⟨h,g,d,t,os⟩:=by
 have FB:=T4
 have D:builtinKind "BaseException.__getattribute__"=some .slot:=by decide+kernel
 have E:splitId "BaseException.__getattribute__"=some ("BaseException","__getattribute__"):=by decide+kernel
 exact HA FB.ga.plain PySem.F.entry_bexc_ga (@check_slot (aR prog w) _ _ _ "BaseException.__getattribute__" "BaseException" "__getattribute__" (.ref e) [.str name _] [] _ D E ((I.type).andThen (ug X ok "BaseException")) (PySem.F.args_bexc_ga (.ref e) (.str name _)) (LY X I ah B))
def L0 {B:Bool} {Q:am->a9->Prop} (X:K.In h) (ok:my K C ar) (I:InstAt h e dh C (some cB)) (D:gf K (.ref C) "__getattribute__"=some (some (.builtin "BaseException.__getattribute__"))) (F:gf K (.ref C) "__getattr__"=some none)
  (ah:findObj K C (some cB) name=some (.value v)) (G:qP v=true) (H:Q v ⟨h,g,d,t+1,os⟩):aO (aR prog w) A (sK (.ref e) name B) Q E ⟨h,g,d,t,os⟩:=by
 have J:=I.type (M:=aR prog w)
 have L:=wa (M:=aR prog w) X D
 have N:=wa (M:=aR prog w) X F
 have FB:=T4
 unfold sK getAttrBy
 refine aP (wpAny_mkText (gB (aP (J.at (aP (L.at ?_))))))
 dsimp only
 have O:(v3 "BaseException.__getattribute__"==v3 "object.__getattribute__")=false:=by decide+kernel
 rw[O,Aw]
 have P:=FB.ga.bind (.ref e)
 have R:(B&&onTheHeap (v3 "BaseException.__getattribute__"))=false:=by cases B<;>rfl
 unfold getAttrByItsOwn hookBefore
 repeat (any_goals (first|assumption|with_reducible refine N.here ?_|wp_step))
 refine LZ X ok I ah ?_
 show aO _ _ (handedOut v) _ _ _
 rw[handedOut_of G]
 exact br H
end
end
def uh {eK:hN} {base g ar B kJ:bE} {b7:List cI} {L:a7} (K:fp eK base b7 g) (F:Fr g L ar m) (A:∀b o,ar.get? b=some o->b≠L->b∉fJ b7->B.get? b=some o) (C:B.StaysIn kJ) (D:ar.UpToSlots kJ):
  ∃bq,pt (fJ b7) g bq/\Fr bq L kJ m/\fp eK base b7 bq:=
 kts_ground (name:="") (scope:=default) (a:=0) (cd:=.none) K F (λb o q nm=>A b o q (λe=>nm (jc.mpr ⟨_,.head _,by rw[e];rfl⟩)) λhm=>nm (by
  obtain⟨env,ae,ag⟩:=jc.mp hm
  exact jc.mpr ⟨env,.tail _ ae,ag⟩)) C D
def L1 {g:bE} {pos:bO} {val:am} {Q:am->a9->Prop} (ah:aZ c f) (X:c.K.In g) (T:pd c.pr c.loose c.f1 c.ku g) (B:f.sc.names.lookup y=some .globalImplicit) (m2:d7 c y val) (F:Fr g f.L s.heap m) (h:Q val s):
  aO (aR c.prog c.w) A (dP (.Name y pos) f.env) Q E s:=by
 have C:f.env.kindOf y=some .globalImplicit:=by have:=ah.em y;rw[B]at this;exact this
 rcases m2 with q|⟨aK,aW,bH⟩
 ·exact zU ah.kind C (loadGlobal_global (env:=f.env) (by rw[ah.globals];exact T.g.keeps F.keep) (mg_of X T.g q) h) (mj ah B)
 ·exact zU ah.kind C (loadGlobal_builtin (env:=f.env) (by rw[ah.globals];exact T.g.keeps F.keep) (mg_none_of X T.g aK) (by rw[ah.builtins];exact T.b.keeps F.keep) ((T.builtins y bH).trans aW) h) (mj ah B)
def L2 {h:bE} {bp:Nat} {cB:bY} {A:aI->Option am} {x:aI} {v:am} (B:h.Ns bp A) (k8:h.get? bp=some cB) (C:A x=some v):lookIn x cB=some (some v):=by
 obtain⟨o,es,az,ae,ag,ax,aS⟩:=B
 rw[k8]at ae
 cases ae
 have bA:=(aS x).trans C
 unfold lookIn
 rw[ag]
 dsimp only
 simp only[nsFind,findBy,Option.map_eq_some_iff]at bA
 obtain⟨D,cw,cM⟩:=bA
 rw[<-Array.find?_toList]at cw
 rw[cw,<-cM]
structure qd (c:b4) (C ar:Nat) (du:c9):Prop where
 ex:my c.K C ar
 obj:∃nm q ak eH sn sub cG kO eC hW cr cx dI d5,c.K.lookup C=some (s8 nm q C ak eH (.ref ar::oy) true sn sub cG kO eC hW cr cx dI d5 "ValueError.__new__")
 ga:gf c.K (.ref C) "__getattribute__"=some (some (.builtin "BaseException.__getattribute__"))
 m2:gf c.K (.ref C) "__getattr__"=some none
 gq:gf c.K (.ref C) "thing"=some none
 hd:vP c.K C=true
 ok:gH c.K du
 len:du.names.length=du.least+du.dflt.length
def uk (pre:Nat) (aB:Nat->aA->Bool) (v:V) (ab:aA):Bool:=rb v (aG "owner") ab λo ab=>rb o (aG "name") ab λn ab=>vStr n λb=>aN (gm pre) (aN (gm b) (aB (wC pre b) ab))
section
variable {C ar:Nat} {du:c9}
def L3 (hb:qd c C ar du) (X:c.K.In c.base) (aS:pd c.pr c.loose c.f1 c.ku c.base) {D F:bL} {b7:List cI} {aT:hN} {aa:aI->Option am} {pre:aI} {aB:Nat->aA->Bool} {e:Nat} {dU ex:aI} {aK aW bH cV eI gD j3 iO ly:bO} {aU:Nat}
  (G:aZ c D) (P:D.env.frame=some D.L) (ab:D.ao=D.env::b7) (ae:fp aT c.base b7 D.aC) (aV:D.A.frames=some D.ao) (aX:D.sc.names.lookup dU=some .globalImplicit) (oz:d7 c dU (.ref C)) (af:D.sc.names.lookup ex=some .local) (ul:bf pre=true)
  (ax:F.ao=F.env::D.ao) (ag:F.env.frame=some F.L) (aY:F.A=D.A.deeper F.env) (M:Fr D.aC D.L F.aC aa) (R:xK c C F p (uk (aG pre) aB) s e) {Q:iZ->a9->Prop} {E f7:am->a9->Prop}
  (a0:∀O di aD aF b a3,p.bN aD->aE aD (.str b) di->dq aD aF->aQ c.K c.w aD aF.t a3->aB b aF=true->O.gens=#[]->O.os=c.os->D.aC.UpToSlots O.heap->(∀a o,D.aC.get? a=some o->a∉fJ b7->O.heap.get? a=some o)->
   (∀q∈a3,O.heap.get? q.1=some q.2/\D.aC.get? q.1=none/\q.1≠D.L)->Q (.ret di) O):
  aO (aR c.prog c.w) F.A (qQ F.env (.ref e)) (λZ eX=>aO (aR c.prog c.w) D.A (noteFrame (.ref e) D.env) (λZ a1=>aO (aR c.prog c.w) D.A (setFlight (.ref e) none) (λZ a2=>
   aO (aR c.prog c.w) D.A (handleBy (.ref e) D.env [.ExceptHandler (some (.Name dU aK)) (some ex) [.Return (some (.BinOp (.Constant (.str pre) aU aW) .Add (.Attribute (.Attribute (.Attribute (.Name ex bH) "thing" cV) "owner" eI) "name" gD) j3)) iO] ly]) Q E a2) E a1) E eX) f7 s:=by
 obtain⟨⟨aD,aF,v,val,B,bp,bK,aj,bF,z,a4,Y,H,S,dT,ah,fF,hm⟩,up,self,gs,os⟩:=R
 rw[ax,ab]at ah dT
 have d:∀b o,F.aC.get? b=some o->b≠D.L->b∉fJ b7->B.get? b=some o:=λb o q a5 a6=>dT b o q λhm=>by
  obtain⟨env,he,T⟩:=jc.mp hm
  rcases bJ.mp he with rfl|he
  ·rw[ag]at T;rw[gR T]at self;rw[self]at q;cases q
  ·rcases bJ.mp he with rfl|he
   ·rw[P]at T;exact a5 (gR T).symm
   ·exact a6 (jc.mpr ⟨env,he,T⟩)
 have ak:D.A.frames=some (D.env::b7):=by rw[aV,ab]
 refine DS (by rw[aY];exact nR ak) ag ah λa7 a8 a_=>?_
 refine DR (s:={s with heap:=a7}) ak P a8 λba bb bc=>?_
 refine xF (s:={s with heap:=ba}) none bb (.inr rfl) λal f bd=>?_
 have ap:=up.trans (a_.trans (bc.trans bd))
 obtain⟨g3,pD,aq,g⟩:=uh ae M d f.stays ap
 obtain⟨_,_,_,_,_,_,_,_,_,_,_,_,_,_,be⟩:=hb.obj
 refine wpAny_handleBy_cons (codeAny_handlers_test (L1 (s:={s with heap:=al}) G (X.keeps g.stays) (aS.keeps g.stays) aX oz aq ?_)) (by intro q;cases q)
 obtain⟨dh,ai,he,⟨h,as⟩,j,_⟩:=f.tr
 refine wpAny_excMatches_sub_self ((X.keeps g.stays).keeps aq.keep _ _ be) he h (by rw[pp];rfl) ?_
 refine codeAny_handlers_suite_as ?_
 refine xF (s:={s with heap:=al}) none f (.inr rfl) λbg N bh=>?_
 have au:=ap.trans bh
 obtain⟨bi,l_,av,bj⟩:=uh ae M d N.stays au
 have l:=X.keeps bj.stays
 have r:=hx.loc G af
 refine v5 (m:=aa) r (G.locals▸av.ns) (λkJ aw U=>?_) (by rw[G.kind];rfl)
 rw[G.locals]at aw U
 have V:=av.set aw U
 obtain⟨dh,ai,he,⟨h,as⟩,j,_⟩:=N.tr
 have ay:B.get? D.L=none:=by
  obtain⟨_,⟨bk,_,aK,aW,_⟩,_⟩:=N.frames
  rw[P]at aK;rw[gR aK];exact aW
 have bl:e≠D.L:=λq=>by
  obtain⟨_,⟨bk,o,aK,_,aW,bH⟩,_⟩:=N.frames
  rw[P]at aK
  rw[<-gR aK,<-q,he]at aW
  cases aW;exact bH _ j
 have aH:∀a o,B.get? a=some o->kJ.get? a=some o:=λa o q=>by
  rw[U.2 a (λy=>by rw[y,ay]at q;cases q)];exact N.stays _ _ q
 have bm:kJ.get? e=some dh:=by rw[U.2 e bl];exact he
 obtain⟨i,k,rfl,bn⟩:=cJ' a4
 obtain⟨bM,bP,g1,bo⟩:=pF' bn
 obtain⟨o1,l1,bq⟩:=f5' bo
 obtain⟨i2,cx,rfl,br⟩:=cJ' bq
 obtain⟨bQ,bR,g2,bt⟩:=pF' br
 obtain⟨o2,l2,bu⟩:=f5' bt
 obtain⟨b,rfl,bv⟩:=jR' bu
 obtain⟨bw,bx⟩:=an bv
 obtain⟨aJ,bz⟩:=an bx
 obtain⟨cB,es,az,aL,_⟩:=id fF
 have W:News bi D.L kJ aj:=λq J=>⟨aH _ _ (S q J).1,(λy=>by have:=(S q J).1;rw[y,ay]at this;cases this),l_.none_ _ (kts_none M.keep (S q J).2)⟩
 have bA:val=.ref (aD.a i):=Y.2.2
 subst bA
 obtain⟨_,bB,_⟩:=id Y
 subst bB
 have I:InstAt kJ e dh C (some cB):=⟨bm,h,by unfold notCls;rw[j],by rw[as];exact aH _ _ aL⟩
 have bC:findObj c.K C (some cB) "thing"=some (.value (.ref (aD.a i))):=findObj_own (attr:=none) hb.hd hb.gq rfl (L2 fF aL hm)
 refine iE (qV (wpAny_BinOp (xH (tq rfl (tq rfl (tq rfl (vT (GX G.kind r (G.locals▸V.ns) (if_pos rfl) ?_) (mj G af))))))))
 refine L0 (l.keeps V.keep) hb.ex I hb.ga hb.m2 bC rfl ?_
 refine wr (aB:=key i) V W H l Y g1 (by decide+kernel) l1 λv2 aM=>?_
 clear l1
 obtain⟨bS,bD,rfl⟩:=id aM
 subst bD
 refine wr (aB:=key i2) V W H l aM g2 (by decide+kernel) l2 λbT aN=>?_
 clear l2
 obtain⟨eX,fg,rfl,o3,e3⟩:=id aN
 clear aN
 subst e3
 obtain⟨e1,e2⟩:=BP ul o3 aJ
 refine PySem.SB.add (λbZ bU=>?_) ?_
 ·refine wpAny_nameGoes r (G.locals▸V.ns) (by rw[G.kind];rfl) λbE bV bW aP=>?_
  rw[G.locals]at aP
  have u:∀a o,a≠D.L->bg.get? a=some o->bE.get? a=some o:=λa o n q=>by rw[aP.2 a n,U.2 a n];exact q
  have x:∀a o,D.aC.get? a=some o->a≠D.L:=λa o q y=>by have:=s9 M;rw[y,this]at q;cases q
  refine a0 _ _ aD aF _ aj bF ⟨_,_,rfl,e2,e1⟩ z H bz gs os (λa o q bG=>?_) (λa o q nm=>u a o (x a o q) (N.stays _ _ (d a o (M.keep _ _ q) (x a o q) nm))) λq J=>⟨?_,kts_none M.keep (S q J).2,(W q J).2.1⟩
  ·obtain⟨bs,bI⟩:=au a o (M.keep _ _ q) bG
   exact⟨bs,u a _ (x a o q) bI⟩
  ·exact u _ _ (W q J).2.1 (N.stays _ _ (S q J).1)
 ·have bX:=lg ul bw
  have P:=lg o3 aJ
  have cW:pre.length=pre.cps.toList.length:=by simp[nS]
  have d1:eX.length=eX.cps.toList.length:=by simp[nS]
  have:hr=16777216:=rfl
  lia
end
structure rV (c:b4) (C:Nat) (du:c9) (fT dU ex pre:aI):Prop where
 names:du.names=[fT]
 xL:du.scope.names.lookup fT=some .local
 L4:du.scope.names.lookup dU=some .globalImplicit
 oz:d7 c dU (.ref C)
 lex:du.scope.names.lookup ex=some .local
 ul:bf pre=true
 body:∃(io aK aW bH cV eI gD j3 iO ly D7 D8 D9:bO) (k:Nat),du.body=[.Try [.Return (some (.Call (.Name fT ly) [] [] D7)) D8] [.ExceptHandler (some (.Name dU aK)) (some ex) [.Return (some (.BinOp (.Constant (.str pre) k aW) .Add (.Attribute (.Attribute (.Attribute (.Name ex bH) "thing" cV) "owner" eI) "name" gD) j3)) iO] io] [] [] D9]
inductive D_ (c:b4) (f:bL) (b7:List cI) (s:a9) (m:aI->Option am) (aj:bc) (p:aX) (aB:Nat->aA->Bool) (di:am) (aq:a9) (bq:bE):Prop
 |mk aD aF b a3 (ae:p.bN aD) (ag:aE aD (.str b) di) (ax:dq aD aF) (aS:aQ c.K c.w aD aF.t a3) (bA:aB b aF=true) (cw:Fr bq f.L aq.heap m) (cM:News bq f.L aq.heap a3):D_ c f b7 s m aj p aB di aq bq
structure rW (c:b4) (f:bL) (b7:List cI) (s:a9) (m:aI->Option am) (aj:bc) (p:aX) (aB:Nat->aA->Bool) (di:am) (aq:a9) (bq:bE):Prop where
 cC:aZ c {f with aC:=bq}
 ex:D_ c f b7 s m aj p aB di aq bq
 gens:aq.gens=#[]
 os:aq.os=c.os
 ct:∀b o,s.heap.get? b=some o->b∉aj.map (·.1)->b∉fJ f.ao->aq.heap.get? b=some o
 turn:pt (fJ b7) f.aC bq
section
variable {C ar:Nat} {du:c9}
def L5 (hb:qd c C ar du) {fT dU ex pre:aI} (fU:rV c C du fT dU ex pre) (a5:c.K.In c.base) (a6:pd c.pr c.loose c.f1 c.ku c.base) {b7:List cI} {eK:hN} (ah:aZ c f) (cD:f.d+40<=300) (iP:fp eK c.base b7 f.aC)
  (xM:∀b∈fJ f.ao,b=f.L∨b∈fJ b7) (qe:∀bq,fp eK c.base b7 bq->aZ c {f with aC:=bq}) {s:a9} {m:aI->Option am} {aj:bc} {p:aX} {ab:aA} (F:Fr f.aC f.L s.heap m) (ak:News f.aC f.L s.heap aj) (H:aQ c.K c.w p ab.t aj) (z:dq p ab)
  (gs:s.gens=#[]) (os:s.os=c.os) (a_:p.n=c.n) (bb:p.y=c.y)
  {fn c1:a7} {S J:aI} {U:sJ} {c2:aM} {bv:bB} {gL:List (aI×a7)} {pm W:am} (bd:s.heap.get? fn=some (pu S J U c2 bv gL pm c1 W)) (be:s.heap.CodeRec (.ref c1) J)
  (bg:sL (kla_fn S J U c2 bv gL pm (.ref c1) W) ⟨[],[]⟩=pure []) (lk:bv.kind=.function) (bh:bv.isCoroutine=false) (bi:bv.isGenerator=false) (az:∀x∈bv.names,x.2≠.cell) (bj:bv.names.lookup (ec "__debug__")=none) (bk:bv.names.lookup (ec "__classdict__")=none)
  (bl:∀x,bv.names.lookup x=some .free->∃a,gL.lookup x=some a) {rX:Loc} (bm:∀D hX O,D.sc=bv->D.env.cells=gL->p.bN O->db D O rX hX)
  {aV:aT} {cl:b5} {aB:Nat->aA->Bool} (bn:∀D,aZ c D->D.sc=bv->D.d+9<=D.b->D.b<=f.d+30->a8 c (b6 c C) aV D c2) (bp:df c (b6 c C) (f.d+30) cl) (bs:aV ab rX (λZ Z=>false) ⟨cl,uk (aG pre) aB⟩=true):
  dH (aR c.prog c.w) f.A (.call (.ref du.addr) ⟨[.ref fn],[]⟩) (λr aq=>∃di bq,r=.ok (.ret di)/\rW c f b7 s m aj p aB di aq bq) s:=by
 obtain⟨io,aK,aW,bH,cV,eI,gD,j3,iO,ly,D7,D8,D9,k,bt⟩:=fU.body
 have len:=hb.len
 rw[fU.names]at len
 refine enter (cl:=[]) (KK:=λaF bu=>@decide (aF=ab/\bu=[(aG fT,.gnd fn)]) (dv _)) (xs:=[.gnd fn]) (d:=f.d) (by lia) hb.ok rfl ⟨[],rfl,.nil,λZ h=>nomatch h⟩ hb.len ah (eh _) F ak H z (.cons rfl .nil) (by
  rw[fU.names,wu,show [V.gnd fn].length-du.least=du.dflt.length by exact Nat.sub_eq_of_eq_add' len,List.drop_length,k1]
  rw[d4,Ht,show decide (du.scope.names.lookup fT=some .cell)=false by rw[fU.xL];rfl]
  exact@decide_eq_true _ (dv _) ⟨rfl,rfl⟩) λM aE g O al bw I bo G ca i bx aH bz cb cc an aJ j l e02 bA bC bD aL bE lv=>?_
 clear H z
 obtain⟨bF,bG⟩:al=ab/\bw=_:=@of_decide_eq_true _ (dv _) aL
 clear aL
 subst bF bG
 have bI:bf fT=true:=by have:=hb.ok.ok;rw[fU.names]at this;exact this _ (.head _)
 have bJ:aE fT=some (.ref fn):=by
  rcases bD fT (.gnd fn) bI (by rw[gE,d6,decide_eq_true rfl])with⟨_,u,ae,bK⟩|⟨q,_⟩
  ·cases bK;exact ae
  ·rw[i,fU.xL]at q;rcases q with q|q<;>cases q
 have aN:∀b o,s.heap.get? b=some o->I.get? b=some o:=λb o e=>by
  by_cases q:b∈aj.map (·.1)
  ·obtain⟨z,aS,rfl⟩:=ey.mp q,q
   rw[(ak z aS).1]at e;cases e
   exact(l z (dD _ aS)).1
  ·exact j.keep _ _ (by rw[aJ];exact n1 _ e q)
 have aU:I.get? fn=some (pu S J U c2 bv gL pm c1 W):=aN _ _ bd
 have bM:I.CodeRec (.ref c1) J:=by
  obtain⟨bO,cR,ai,t,e1,ae,ag,ax⟩:=be
  exact⟨bO,cR,ai,t,e1,aN _ _ ae,ag,ax⟩
 have bP:M.A.frames=some M.ao:=by rw[bz,aH];exact nR (ah.stack F)
 rw[bt]
 refine iE (wpAny_Try_except (iE (qV ?_)))
 rw[na rfl]
 refine aP (np G j (by rw[i];exact fU.xL) bJ ?_)
 refine callWith_of (P:=λh=>h.get? fn=some (pu S J U c2 bv gL pm c1 W)) rfl (λh cj=>⟨.frame,.inl rfl,λA Q E s k q=>aP (wpAny_load (k _ _ cj) (br q))⟩) (evalArgs_nil3 ⟨aU,nP ?_⟩)
 have bQ:M.A.depth<zR:=by have:=G.depth;have:(zR:Nat)=1000:=rfl;lia
 refine kla_callFunE bQ aU rfl bh bi rfl bM ?_
 show aO _ _ (sL (kla_fn S J U c2 bv gL pm (.ref c1) W) ⟨[],[]⟩) _ _ _
 rw[bg]
 obtain⟨aY,ap,aa,_⟩:=G.iH ⟨I,s.gens,s.drawn,bo,s.os⟩ aE (g++aj) (λZ Z=>True) j l
 refine br (wpAny_newFunctionEnv az (λZ h=>nomatch h) (λaf bR a0=>⟨(G.T.nolimit.keeps j.keep).fresh _ a0,?_⟩) lk)
 have a1:∀b o,I.get? b=some o->af.get? b=some o:=λb o e=>a0.extBut b o (dS (dX e)) (fO _ e)
 generalize as:fN I ((g++aj).map (·.1))=g3 at aY ap aa
 have bS:Fr g3 I.objs.size af _:=⟨bR,λb o e=>a1 b o (by rw[<-as]at e;exact nQ _ e),by rw[<-as];exact gz (zS _ _)⟩
 have bT:News g3 I.objs.size af (g++aj):=λq N=>⟨a1 _ _ (l q N).1,dS (dX (l q N).1),by rw[<-as];exact pe _ (kg N)⟩
 let au:cI:=envX J bv I.objs.size fn (.ref c1) gL
 let D:bL:=⟨bv,au,I.objs.size,g3,au::M.ao,M.A.deeper au,f.d+2,f.d+30⟩
 have bU:aZ c D:=by
  refine⟨G.X.keeps aa,G.T.keeps aa,tn ap (nR ap.stack) rfl lk,?_,?_,?_,?_,G.cj,hx.self _ _ rfl,lk,rfl,rfl,rfl,bj,bk,G.lc.elim λo h=>⟨o,aa _ _ h⟩,G.kv,λx Y=>?_⟩
  ·show M.A.depth+1<=500+(f.d+2);have:=G.depth;lia
  ·show M.A.units+3<=2000+10*(f.d+2);have:=G.units;lia
  ·show f.d+2<=300;lia
  ·show f.d+30<=300;lia
  ·rcases Y with Y|Y
   ·exact absurd rfl (az _ (iK Y))
   ·exact bl x Y
 have bV:ba c D O al rX ⟨af,s.gens,s.drawn,bo,s.os⟩:=⟨⟨_,g++aj,bS,bT,bC,bm D _ O rfl rfl e02⟩,gs,os,bA,e02.n.trans a_,e02.y.trans bb⟩
 refine kla_codeExpr ?_
 refine cy (bn D bU rfl (by show f.d+2+9<=f.d+30;lia) (eh _) al rX _ ⟨cl,uk (aG pre) aB⟩ O _ _ bs bV ?_ bp) (λv cd Z Z Z Z Z Z h=>nomatch (h:false=true))
 intro aq e R
 refine L3 hb a5 a6 G bx aH bE bP (by rw[i];exact fU.L4) fU.oz (by rw[i];exact fU.lex) fU.ul rfl rfl rfl aY R λbW di aD aF b a3 bX bY bZ b0 b1 b2 b3 b4 a2 av=>?_
 obtain⟨bq,a4,b8,b9⟩:=uh iP an (B:=bW.heap) (λb o q aw ay=>a2 b o q λhm=>(xM b hm).elim aw ay) (λZ Z e=>e) b4
 obtain⟨ce,_,_,b_,_⟩:=an.ns
 refine⟨di,bq,rfl,qe bq b9,⟨aD,aF,b,a3,e02.trans bX,bY,bZ,b0,b1,b8,λq N=>⟨(av q N).1,λy=>?_,a4.none_ _ (kts_none an.keep (av q N).2.1)⟩⟩,b2,b3,(λb o q aw ay=>a2 b o (by rw[aJ];exact n1 _ q aw) ay),a4⟩
 have:=(av q N).2.1
 rw[y,b_]at this;cases this
end
def j4 (m:Nat) (k:Nat->Bool):Bool:=gg true (λj A=>bk false A (k j)) m
def rY {m:Nat} {k:Nat->Bool} (h:j4 m k=true):∀j,j<m->k j=true:=by
 induction m with
 |zero=>intro j A;cases A
 |succ m C=>
  replace h:bk (motive:=λZ=>Bool) false (j4 m k) (k m)=true:=h
  intro j A
  cases B:k m with
  |false=>rw[B]at h;cases h
  |true=>
   rw[B]at h
   rcases Nat.lt_succ_iff_lt_or_eq.mp A with q|q
   ·exact C h j q
   ·rw[q];exact B
def j5 (P:V->aA->Prop):aY:=λv ab=>@decide (P v ab) (dv _)
def fA {P:V->aA->Prop} (h:P v ab):j5 P v ab=true:=@decide_eq_true _ (dv _) h
def mz {P:V->aA->Prop} (h:j5 P v ab=true):P v ab:=@of_decide_eq_true _ (dv _) h
def um (o:Option O) (k:Nat->Bool):Bool:=cq false (λo=>O.rec a1 a1 a1 aL aL aL aL a1 a1 cQ aL cQ aL cQ a1 a1 a1 false aL false k a1 aL o) o
def xN' {ar:Prop} {o:Option O} {k:Nat->Bool} (h:um o k=true) (A:∀n,o=some (.abs n)->k n=true->ar):ar:=by
 cases o with
 |none=>cases h
 |some o=>cases o with
  |abs n=>exact A n rfl h
  |_=>cases h
def gt:V:=.sym (ei 0)
def Ea (x:Nat):aT:=λab loc k au=>f4 (lk loc x) λv=>cz v λZ aB=>um (bn ab aB) λq=>aN (aU q 0) (j4 25 λj=>mk (.list (lR j gt)) ab k)
def Eb (v:V) (ab:aA) (k:aY):Bool:=cz v λZ aB=>um (bn ab aB) λq=>aN (aU q 0) (k gt ab)
def Ec (a b:aT):aT:=λab loc k au=>a ab loc (λv ab=>b ab loc (λw ab=>jV v (λZ=>false) (vInt w λZ=>aN (k (.bool true) ab) (k (.bool false) ab))) au) au
def Ed (v:V) (ab:aA) (k:aY):Bool:=vBool v λZ=>k gt ab
def Ee (x:Nat):aT:=λab loc k au=>f4 (lk loc x) λv=>jV v (λZ=>false) (k gt ab)
def rZ (nm:Nat) (sc:bB) (x:aI):Bool:=bf x&&aU (aG x) nm&&ep sc x .globalImplicit
def oA (e:aM):Option aI:=match e with
 |.Name x _=>some x
 |_=>none
def qf' {ar:Prop} {e:aM} {x:aI} (h:oA e=some x) (A:∀q,e=.Name x q->ar):ar:=by
 cases e with
 |Name y q=>cases h;exact A q rfl
 |_=>cases h
def Ef (l:Const):Option Int:=match l with
 |.int i=>some i
 |_=>none
def xO (e:aM):Option Int:=match e with
 |.Constant l _ _=>Ef l
 |_=>none
def Eg' {ar:Prop} {e:aM} {i:Int} (h:xO e=some i) (A:∀k q,e=.Constant (.int i) k q->ar):ar:=by
 cases e with
 |Constant l k q=>
  replace h:Ef l=some i:=h
  cases l with
  |int j=>cases h;exact A k q rfl
  |_=>cases h
 |_=>cases h
def kP {bd:Type} (l:List bd):Option bd:=match l with
 |[]=>none
 |a::r=>match r with
  |[]=>some a
  |_=>none
def xP' {bd:Type} {l:List bd} {a:bd} (h:kP l=some a):l=[a]:=by
 rcases l with _|⟨b,_|⟨_,_⟩⟩
 ·cases h
 ·cases h;rfl
 ·cases h
def hG {bd ca:Type} (o:Option bd) (k:bd->Option ca):Option ca:=cq none k o
def ip' {ar:Prop} {bd ca:Type} {o:Option bd} {k:bd->Option ca} {b:ca} (h:hG o k=some b) (A:∀a,o=some a->k a=some b->ar):ar:=by
 cases o with
 |none=>cases h
 |some a=>exact A a rfl h
def r0 {ca:Type} (t:Bool) (b:Option ca):Option ca:=bk none b t
def uo' {ar:Prop} {ca:Type} {t:Bool} {o:Option ca} {b:ca} (h:r0 t o=some b) (A:t=true->o=some b->ar):ar:=by
 cases t with
 |false=>cases h
 |true=>exact A rfl h
def Eh (e:aM):Option aM:=match e with
 |.Slice lo af st _=>(match lo with
  |none=>(match st with
   |none=>af
   |some _=>none)
  |some _=>none)
 |_=>none
def L6' {e h:aM} (q:Eh e=some h):∃p,e=.Slice none (some h) none p:=by
 cases e with
 |Slice lo af st p=>
  cases lo with
  |some _=>cases q
  |none=>
   cases st with
   |some _=>cases q
   |none=>
    replace q:af=some h:=q
    subst q
    exact⟨p,rfl⟩
 |_=>cases q
def uq (e:aM):Option (aM×aM):=match e with
 |.Call A args B _=>(match B with
  |[]=>(kP args).map λa=>(A,a)
  |_=>none)
 |_=>none
def xQ' {e A a:aM} (q:uq e=some (A,a)):∃p,e=.Call A [a] [] p:=by
 cases e with
 |Call g args B p=>
  cases B with
  |cons _ _=>cases q
  |nil=>
   replace q:(kP args).map (λa=>(g,a))=some (A,a):=q
   cases h:kP args with
   |none=>rw[h]at q;cases q
   |some b=>rw[h]at q;cases q;rw[xP' h];exact⟨p,rfl⟩
 |_=>cases q
def Ei (e:aM):Option (aM×k4×aM):=match e with
 |.Compare l A rs _=>(match kP A with
  |none=>none
  |some op=>(kP rs).map λr=>(l,op,r))
 |_=>none
def L7' {e l r:aM} {op:k4} (q:Ei e=some (l,op,r)):∃p,e=.Compare l [op] [r] p:=by
 cases e with
 |Compare A B rs p=>
  replace q:(match kP B with|none=>none|some op=>(kP rs).map λr=>(A,op,r))=some (l,op,r):=q
  cases h:kP B with
  |none=>rw[h]at q;cases q
  |some o=>
   rw[h]at q
   replace q:(kP rs).map (λr=>(A,o,r))=some (l,op,r):=q
   cases ag:kP rs with
   |none=>rw[ag]at q;cases q
   |some b=>rw[ag]at q;cases q;rw[xP' h,xP' ag];exact⟨p,rfl⟩
 |_=>cases q
def Ej (e:aM):Option (aM×aM):=match e with
 |.Subscript o i _=>some (o,i)
 |_=>none
def L8' {e o i:aM} (q:Ej e=some (o,i)):∃p,e=.Subscript o i p:=by
 cases e with
 |Subscript bC A p=>cases q;exact⟨p,rfl⟩
 |_=>cases q
def Ek (sc:bB) (e:aM):Option aT:=hG (Ej e) λz=>hG (oA z.1) λx=>hG (Eh z.2) λh=>hG (xO h) λi=>r0 (decide (i=24)&&bf x&&ep sc x .local) (some (Ea (aG x)))
def El (A B:Nat) (sc:bB) (it:aI) (l:aM) (i:Int):Option aT:=hG (uq l) λw=>hG (oA w.1) λC=>hG (oA w.2) λx=>r0 (rZ A sc it&&rZ B sc C&&(bf x&&ep sc x .local)) (some (ii w9 (Ec (ii Eb (dj (aG x))) (ds (.int i)))))
def Em (A:Nat) (sc:bB) (it:aI) (l:aM):Option aT:=hG (oA l) λx=>r0 (rZ A sc it&&(bf x&&ep sc x .local)) (some (Ee (aG x)))
def L9 (A B:Nat) (sc:bB) (it:aI) (l:aM) (op:k4) (i:Int):Option aT:=match op with
 |.Gt=>El A B sc it l i
 |.Lt=>Em A sc it l
 |_=>none
def En (A B:Nat) (sc:bB) (e:aM):Option aT:=hG (uq e) λz=>hG (oA z.1) λit=>hG (Ei z.2) λw=>hG (xO w.2.2) λi=>L9 A B sc it w.1 w.2.1 i
def qg (A B:Nat) (fa:cZ) (sc:bB) (e:aM):Option aT:=cq (En A B sc e) (λaV=>some aV) (Ek sc e)
def xR (st:bI):Option aM:=match st with
 |.Raise v c _=>(match c with
  |none=>v
  |some _=>none)
 |_=>none
def L_' {st:bI} {e:aM} (q:xR st=some e):∃p,st=.Raise (some e) none p:=by
 cases st with
 |Raise v c p=>
  cases c with
  |some _=>cases q
  |none=>
   replace q:v=some e:=q
   subst q
   exact⟨p,rfl⟩
 |_=>cases q
def ur (A:Nat) (fa:cZ) (sc:bB) (st:bI):Option bV:=hG (xR st) λv=>hG (uq v) λw=>hG (oA w.1) λdU=>r0 (bf dU&&aU (aG dU) A&&ep sc dU .globalImplicit&&noStar [w.2]) (some (D6 (fa.ev sc w.2)))
def r1 (c:b4):Prop:=∀a l,c.n.q 0 a l->∃ai:List am,c.base.IsList a ai.toArray/\ai.length<=63/\∀v∈ai,∃i t,v=.int i t
section
variable {loc:Loc}
def Eo {ar:Prop} (jt:r1 c) (ah:aZ c f) (S:ba c f p ab loc s) (af:i<p.ay) (g:bn ab (key i)=some (.abs 0)) (A:∀(ai:List am),s.heap.IsList (p.a i) ai.toArray->ai.length<=63->(∀v∈ai,∃i t,v=.int i t)->ar):ar:=by
 obtain⟨m,aj,F,ak,H,C⟩:=S.ex
 dsimp only[bP]at g
 obtain⟨l,ae,ag⟩:=H.ent i _ af g
 rw[S.n]at ag
 obtain⟨ai,⟨o,aK,aW⟩,aS,bA⟩:=jt _ _ ag
 have B:=(ah.iH s m aj (λZ Z=>True) F ak).2.1
 exact A ai ⟨o,nQ _ (B.stays _ _ aK),aW⟩ aS bA
def Ep:∀{ai:List am},(∀v∈ai,∃i t,v=am.int i t)->All2 (aE p) (lR ai.length gt) ai
 |[],_=>.nil
 |v::ai,h=>by
  obtain⟨i,t,rfl⟩:=h _ (.head _)
  exact .cons ie (Ep λv A=>h v (.tail _ A))
def Ma (jt:r1 c) (ah:aZ c f) {x:aI} {io aK aW pos} {hW:Nat} (k8:bf x=true) (K:f.sc.names.lookup x=some .local):a8 c aw (Ea (aG x)) f (.Subscript (.Name x io) (.Slice none (some (.Constant (.int 24) hW aK)) none aW) pos):=λab loc k au p s E h S L M=>by
 obtain⟨v,D,h⟩:=f5' h
 obtain⟨i,aB,rfl,h⟩:=cJ' h
 obtain⟨n,g,h⟩:=xN' h
 obtain⟨ae,G⟩:=an h
 obtain rfl:=b3 ae
 have N:=rY G
 clear G
 refine vZ (cy (to ah k8 K ab loc (j5 λA aF=>A=.own i aB/\aF=ab) au p s E (by show f4 (lk loc (aG x)) (λv=>j5 (λA aF=>A=.own i aB/\aF=ab) v ab)=true;rw[D];exact fA (P:=λA aF=>A=.own i aB/\aF=ab) ⟨rfl,rfl⟩) S L M) (λb B bt bw a O Q R I=>?_))
 clear S D
 obtain⟨rfl,rfl⟩:=mz I
 clear I
 refine Ad (br ?_)
 show aO _ _ (evalPart (some _) f.env) _ _ _
 rw[Ae]
 refine zT (br ?_)
 have C:=R.tok (n:=B.toks+1)
 obtain⟨T,rfl,rfl⟩:=Q
 obtain⟨ai,l1,l2,l3⟩:=Eo jt ah C T g
 obtain⟨m,aj,F,ak,H,U⟩:=C.ex
 refine slice_list (s:={B with toks:=B.toks+1}) F ak l1 .none (.int _ _) .none (by simp) (by simp;lia) ⟨_,rfl⟩ λav V J=>?_
 rw[show(24:Int)=((24:Nat):Int)from rfl,slicePick_upto']at J
 have W:=Ep (p:=bt) (ai:=ai.take 24) λv X=>l3 v (List.mem_of_mem_take X)
 have Y:(ai.take 24).length<25:=by rw[List.length_take];lia
 exact(fH C H U (N _ Y) V J (wW ak) (ll (n:=0) (by simpa using W))).up O
def Er (ah:aZ c f) {op:k4} (G:op=.Gt∨op=.Lt) {l r:aM} {cl A:aT} {pos} (H:a8 c aw cl f l) (I:a8 c aw A f r) (J:oc r=true):a8 c aw (Ec cl A) f (.Compare l [op] [r] pos):=λab loc k au p s E h S B C=>by
 refine zY (cy (H ab loc _ au p s E h S B C) (λW K bt bw a D L M F=>?_)) (rn J)
 refine cy (I bw loc _ au bt K E F M (aw.up D B) C) (λX N O P b Q R T U=>?_)
 clear F
 rcases mn' U with⟨i,rfl,h⟩|⟨i,rfl,h⟩
 ·cases h
 ·obtain⟨j,rfl,h⟩:=eD' h
  obtain⟨ae,ag⟩:=an h
  obtain⟨x,t,rfl,_⟩:=L
  obtain⟨u,rfl⟩:=R
  have any:∀q:Bool,cb c f p loc k (.bool q) N:=λq=>by
   refine⟨O,P,V.bool q,D.trans Q,rfl,T,?_⟩
   cases q with
   |true=>exact ae
   |false=>exact ag
  rcases G with rfl|rfl
  ·exact TB (any _)
  ·exact TA (any _)
def Mb (jt:r1 c) (ah:aZ c f) {val:am} {k:aY} (h:Eb v ab k=true) (S:ba c f p ab loc s) (B:aE p v val):aO (aR c.prog c.w) f.A (call (.builtin "len") [val] []) (cb c f p loc k) E s:=by
 obtain⟨i,aB,rfl,C⟩:=cJ' h
 obtain⟨af,rfl,rfl⟩:=B
 obtain⟨n,g,D⟩:=xN' C
 obtain⟨cW,F⟩:=an D
 obtain rfl:=b3 cW
 obtain⟨ai,l1,l2,l3⟩:=Eo jt ah S af g
 exact call_len_list l1 (by simp;lia) ⟨p,ab,gt,aX.bN.refl p,ie,S.tok,F⟩
def Mc {val:am} {k:aY} (h:Ed v ab k=true) (S:ba c f p ab loc s) (B:aE p v val):aO (aR c.prog c.w) f.A (call (.type "int") [val] []) (cb c f p loc k) E s:=by
 obtain⟨b,rfl,C⟩:=pT' h
 cases B
 exact call_int_bool ⟨p,ab,gt,aX.bN.refl p,ie,S.tok,C⟩
def Md (ah:aZ c f) {it x:aI} {io aK aW bH pos} {hW:Nat} {z:Int} (C:f.sc.names.lookup it=some .globalImplicit) (g:d7 c it (.type "int")) (k8:bf x=true) (D:f.sc.names.lookup x=some .local):
  a8 c aw (Ee (aG x)) f (.Call (.Name it io) [.Compare (.Name x aK) [.Lt] [.Constant (.int z) hW aW] bH] [] pos):=λab loc k au p s E h S F G=>by
 refine jo (dF:=Ed) ah C g mr (Er ah (.inr rfl) (to ah k8 D) ww rfl) rfl (λv val p ab loc s k E h S H=>Mc h S H) ab loc k au p s E ?_ S F G
 obtain⟨v,B,h⟩:=f5' h
 show f4 (lk loc (aG x)) (λv=>jV v (λZ=>false) (aN (k gt ab) (k gt ab)))=true
 rw[B]
 clear B
 rcases mn' h with⟨i,rfl,A⟩|⟨i,rfl,A⟩
 ·cases A
 ·show aN (k gt ab) (k gt ab)=true
  rw[A];rfl
end
section
local macro_rules |`($n:num)=>`(nat_lit $n)
def Es:List a7:=[3,2,61,60,83,82,103,102,141,140,161,160,182,181,202,201,222,221,249,248,277,276,507,506,829,828,849,848,879,878,1151,1150,21,28,35,42,58,80,100,119,126,133,138,158,179,199,219,239,246,266,274,288,295,302,308,315,322,329,336,343,348,355,362,369,374,381,389,396,403,410,417,424,429,436,443,450,457,464,471,478,483,488,495,516,523,528,535,542,549,556,563,570,577,584,591,598,605,610,617,624,631,638,645,652,659,666,673,680,687,694,701,708,715,722,729,736,743,750,757,764,771,778,785,792,799,804,811,826,846,869,876,911,918,925,932,939,946,953,958,965,973,980,987,994,1001,1008,1015,1022,1029,1036,1043,1050,1057,1064,1071,1078,1085,1092,1099,1106,1113,1120,1127,1134,1141,1148,1162,1169,1176,1183,1190,1197,1202,1207,1212,1217,1222,1227,1232,1239,20,27,34,41,57,79,99,118,125,132,137,157,178,198,218,238,245,265,273,287,294,301,307,314,321,328,335,342,347,354,361,368,373,380,388,395,402,409,416,423,428,435,442,449,456,463,470,477,482,487,494,515,522,527,534,541,548,555,562,569,576,583,590,597,604,609,616,623,630,637,644,651,658,665,672,679,686,693,700,707,714,721,728,735,742,749,756,763,770,777,784,791,798,803,810,825,845,868,875,910,917,924,931,938,945,952,957,964,972,979,986,993,1000,1007,1014,1021,1028,1035,1042,1049,1056,1063,1070,1077,1084,1091,1098,1105,1112,1119,1126,1133,1140,1147,1161,1168,1175,1182,1189,1196,1201,1206,1211,1216,1221,1226,1231,1238,43,44,171,496,497,859,860,861,884,885,888,889,890,891,892,893,894,895,896,73,93,151,172,192,212,232,259,267,303,382,819,862,904,966]
def KF (P:bR):dn:=Es.map λa=>(a,((ma P).get a).getD default)
end
def Me (P:bR):Es=(KF P).map (·.1):=by kernel_rfl
def Mx {l:List a7} {t:BT} (h:l.all (λa=>dc a n&&Option.isSome (Option.bind (t.get a) alive))=true):l.map (absHeap t n {}).get?=(l.map λa=>(a,(t.get a).getD default)).map (λp=>some p.2):=by
 rw[Hl]
 refine List.map_congr_left λa A=>?_
 obtain⟨ae,ag⟩:=an (eU.mp h a A)
 show _=some ((t.get a).getD default)
 cases g:t.get a with
 |none=>
  rw[g]at ag
  cases ag
 |some o=>
  rw[g]at ag
  rw[abs_get (Nat.blt_eq▸ae) g]
  obtain⟨c,d,B,bs⟩:=o
  cases B<;>first|rfl|cases ag
def k_in (P:bR):(KF P).In (absHeap (ma P) 1240 {}):=dn.in_of (Me P) (Mx (n:=1240) (by kernel_rfl))
def aZ.down (ah:aZ c f) {d:Nat} (ae:f.d<=d) (ag:d<=300):aZ c {f with d:=d}:=
 ⟨ah.X,ah.T,ah.iH,c5 ah.depth (lL ae 500),c5 ah.units (lL (vL 10 ae) 2000),ag,ah.dp,ah.cj,ah.em,ah.kind,ah.locals,ah.globals,ah.builtins,ah.iI,ah.iJ,ah.lc,ah.kv,ah.me⟩
def a8.down {aV:aT} {e:aM} {d:Nat} (h:a8 c aw aV {f with d:=d} e):a8 c aw aV f e:=λab loc k au p s E B S C D=>
 cy (f:={f with d:=d}) (h ab loc k au p s E B ⟨S.ex,S.gens,S.os,S.z,S.n,S.y⟩ (aw.under (A:=f.A) (d:=d) (b:=f.b) C rfl) D) (λv aq aD aF x e1 F dK cr=>⟨aD,aF,x,e1,F,⟨dK.ex,dK.gens,dK.os,dK.z,dK.n,dK.y⟩,cr⟩)
def xS' {ar:Prop} {nm:Nat} {sc:bB} {x:aI} (h:rZ nm sc x=true) (A:bf x=true->aG x=nm->sc.names.lookup x=some .globalImplicit->ar):ar:=by
 unfold rZ at h
 simp only[ed]at h
 exact A h.1.1 (b3 h.1.2) (fd h.2)
def Mf {C ar:Nat} {fe fl:c9} (L:qb c C ar fe fl) (M:fZ c.K (.ref C)=true) {A B:Nat} (oz:∀x,bf x=true->aG x=n->d7 c x (.ref C)) (kD:∀x,bf x=true->aG x=A->d7 c x (.type "int"))
  (N:∀x,bf x=true->aG x=B->d7 c x (.builtin "len")) (jt:r1 c):p9 c (b6 c C) (qg A B) (ur n):=by
 refine⟨λfa f e aV ah O P I h=>?_,λfa f st aV ah O P I h=>?_⟩
 ·cases hs:Ek f.sc e with
  |some bx=>
   have h:some bx=some aV:=by unfold qg at h;rw[hs]at h;exact h
   cases h
   clear h
   obtain⟨⟨o,bs⟩,ae,h⟩:=ip' hs
   obtain⟨x,ag,h⟩:=ip' h
   obtain⟨af,ax,h⟩:=ip' h
   obtain⟨i,aS,h⟩:=ip' h
   obtain⟨q,h⟩:=uo' h
   cases h
   obtain⟨hY,rfl⟩:=L8' ae
   obtain⟨lr,rfl⟩:=qf' ag
   obtain⟨J,rfl⟩:=L6' ax
   obtain⟨Q,R,rfl⟩:=Eg' aS
   simp only[ed,decide_eq_true_eq]at q
   obtain⟨⟨rfl,aW⟩,bH⟩:=q
   exact Ma jt ah aW (fd bH)
  |none=>
   have h:En A B f.sc e=some aV:=by unfold qg at h;rw[hs]at h;exact h
   clear hs
   obtain⟨⟨U,a⟩,ae,h⟩:=ip' h
   obtain⟨it,ag,h⟩:=ip' h
   obtain⟨⟨l,op,r⟩,ax,h⟩:=ip' h
   obtain⟨i,aS,h⟩:=ip' h
   clear h
   obtain⟨hY,rfl⟩:=xQ' ae
   obtain⟨lr,rfl⟩:=qf' ag
   obtain⟨J,rfl⟩:=L7' ax
   obtain⟨Q,R,rfl⟩:=Eg' aS
   cases op with
   |Gt=>
    obtain⟨⟨eM,V⟩,bA,h⟩:=ip' (show El A B f.sc it l i=some aV from h)
    obtain⟨W,cw,h⟩:=ip' h
    obtain⟨x,cM,h⟩:=ip' h
    obtain⟨q,h⟩:=uo' h
    cases h
    clear h
    obtain⟨X,rfl⟩:=xQ' bA
    obtain⟨Y,rfl⟩:=qf' cw
    obtain⟨T,rfl⟩:=qf' cM
    simp only[ed]at q
    obtain⟨⟨aK,aW⟩,bH,cV⟩:=q
    obtain⟨D,F,G⟩:=xS' aK
    obtain⟨cW,d1,fk⟩:=xS' aW
    exact jo ah G (kD _ D F) mr (Er ah (.inl rfl) (jo ah fk (N _ cW d1) og (to ah bH (fd cV)) rfl λv val p ab loc s k E h S H=>Mb jt ah h S H) ww rfl) rfl λv val p ab loc s k E h S H=>CU h S H
   |Lt=>
    obtain⟨x,cM,h⟩:=ip' (show Em A f.sc it l=some aV from h)
    obtain⟨q,h⟩:=uo' h
    cases h
    clear h
    obtain⟨T,rfl⟩:=qf' cM
    simp only[ed]at q
    obtain⟨aK,bH,cV⟩:=q
    obtain⟨D,F,G⟩:=xS' aK
    exact Md ah G (kD _ D F) bH (fd cV)
   |_=>cases h
 ·obtain⟨v,ae,h⟩:=ip' (show hG (xR st) _=some aV from h)
  obtain⟨⟨b,e⟩,ag,h⟩:=ip' h
  obtain⟨dU,ax,h⟩:=ip' h
  obtain⟨q,h⟩:=uo' h
  cases h
  clear h
  obtain⟨hY,rfl⟩:=L_' ae
  obtain⟨lr,rfl⟩:=xQ' ag
  obtain⟨J,rfl⟩:=qf' ax
  simp only[ed]at q
  obtain⟨⟨⟨aK,aW⟩,bH⟩,cV⟩:=q
  have he:=(I {f with d:=f.d+2} (ah.down (vJ _ _) (by lia)) rfl rfl).ev e
  exact LX L ah (by lia) (fd bH) (oz _ aK (b3 aW)) M he.down cV
abbrev iQ:=Nat->Option (List V->aA->aY->Bool)
def qh (c:b4) (aw:XL c) (d:Nat) (B:iQ):Prop:=∀(f:bL) a g xs ia ab loc k x p s E,B a=some g->aZ c f->f.d<=d->g xs ab k=true->ba c f p ab loc s->aw.ok f p x E->All2 (aE p) xs ia->
 dH (aR c.prog c.w) f.A (.call (.ref a) ⟨ia,[]⟩) (f2 (cb c f p loc k) E) s
def oB (A:iQ) (fn:Nat->Option f3) (cl:b5):b5:=λa ai ab k x=>cq (c7 fn cl a ai ab k x) (λg=>g ai ab k) (A a)
def hc (A:iQ) (fn:Nat->Option f3) (n:Nat):b5:=gg (motive:=λZ=>b5) (λZ Z Z Z Z=>false) (λZ B=>oB A fn B) n
def j6 {B:iQ} {fn:Nat->Option f3} (a0:jf c aw fn) (G:qh c aw 250 B):∀n d,d+10*n<=260->df c aw d (hc B fn n):=by
 intro n
 induction n with
 |zero=>
  intro d _
  exactλf a xs C ab loc k x p s E Z Z h=>ff h
 |succ n H=>
  intro d h
  exactλf a xs C ab loc k x p s E ah hd A S D F=>by
   replace A:cq (motive:=λZ=>Bool) (c7 fn (hc B fn n) a xs ab k x) (λg=>g xs ab k) (B a)=true:=A
   cases q:B a with
   |none=>rw[q]at A;exact mg a0 (by lia) (H (d+10) (by lia)) f a xs C ab loc k x p s E ah hd A S D F
   |some g=>rw[q]at A;exact G f a g xs C ab loc k x p s E q ah (by lia) A S D F
def aQ.congr {t bZ:T} {aj:bc} (H:aQ K w p t aj) (h:∀i,i<p.ay->bZ.get (key i)=t.get (key i)):aQ K w p bZ aj:=by
 have lv:∀i,i<p.ay->bG bZ i->bG t i:=λi af ⟨o,ae,ag⟩=>⟨o,(h i af).symm.trans ae,ag⟩
 exact⟨H.a_,λi o af e=>H.ent i o af ((h i af).symm.trans e),λi j af A li B=>H.aa i j af A (lv i af li) (lv j A B),λi j af A li B=>H.dp i j af A (lv i af li) (lv j A B),λi j af A li B=>H.cG i j af A (lv i af li) (lv j A B),
  λi af li=>H.mem i af (lv i af li),H.small,H.a6,λi af li=>H.eB i af (lv i af li)⟩
def aQ.named {t:T} {aj:bc} (H:aQ K w p t aj) {o:O} (af:i<p.ay) (li:bG t i) (he:ch K w p aj i o):aQ K w p (T.put o (key i) t) aj:=by
 have lv:∀j,j<p.ay->bG (T.put o (key i) t) j->bG t j:=λj A h=>bG.put H.small af A li h
 clear li
 refine⟨H.a_,λj w A e=>?_,λi j af A li B=>H.aa i j af A (lv i af li) (lv j A B),λi j af A li B=>H.dp i j af A (lv i af li) (lv j A B),λi j af A li B=>H.cG i j af A (lv i af li) (lv j A B),
  λi af li=>H.mem i af (lv i af li),H.small,H.a6,λi af li=>H.eB i af (lv i af li)⟩
 clear lv
 rw[T.cd o t (cH af H.small) (cH A H.small)]at e
 clear af
 by_cases q:j=i
 ·subst q;rw[if_pos rfl]at e;cases e;exact he
 ·rw[if_neg q]at e;exact H.ent j w A e
def mA (st:bI) (a:Nat) (n q:aI) (dB:am) (d:List V):c9:=
 ⟨a,n,q,py st,AD st,wf st,dB,(py st).args.map (·.arg),(py st).args.length-d.length,d⟩
def ju (v:Nat->am):Nat->List am
 |0=>[]
 |n+1=>v 0::ju (λi=>v (i+1)) n
def Et:∀l:List am,∃v,l=ju v l.length
 |[]=>⟨λZ=>.none,rfl⟩
 |a::l=>by
  obtain⟨v,h⟩:=Et l
  exact⟨λi=>match i with|0=>a|i+1=>v i,congrArg (a::·) h⟩
def us (K:dn) (aJ:c9) (d_ pm:am) (A:List am) (k:Nat):Prop:=∀(v:Nat->am) (S:Setting),
 peek K S (sL (fnX aJ.name aJ.qual aJ.params aJ.body aJ.scope [] d_ .none .none pm none aJ.d9 .none) ⟨ju v k,[]⟩)=some (aJ.names.zip (ju v k++A.drop (k-aJ.least)))
def ut (K:dn) (aJ:c9) (d_ pm:am) (A:List am):Nat->Nat->Prop
 |lo,0=>us K aJ d_ pm A lo
 |lo,n+1=>us K aJ d_ pm A lo/\ut K aJ d_ pm A (lo+1) n
def ut.at {aJ:c9} {d_ pm:am} {A:List am}:∀{n lo k:Nat},ut K aJ d_ pm A lo n->lo<=k->k<=lo+n->us K aJ d_ pm A k:=by
 intro n
 induction n with
 |zero=>
  intro lo k h ae ag
  have e:k=lo:=by lia
  clear ae ag
  subst e;exact h
 |succ n B=>
  intro lo k h ae ag
  by_cases e:k=lo
  clear ae ag
  ·subst e;exact h.1
  ·exact B h.2 (by lia) (by lia)
def uu (aJ:c9):List aI:=((fY 0 aJ.scope.names []).map (·.1)).filter λx=>!aJ.names.contains x
def oC (aJ:c9):Bool:=!aJ.scope.isCoroutine&&!aJ.scope.isGenerator&&aJ.scope.kind==.function&&decide (((fY 0 aJ.scope.names []).map (·.1)).Nodup)&&
 (aJ.names.all λx=>ep aJ.scope x .local||(ep aJ.scope x .cell&&((fY 0 aJ.scope.names []).map (·.1)).contains x))&&decide (aJ.names.Nodup)&&(aJ.scope.names.lookup (ec "__debug__")).isNone&&(aJ.scope.names.lookup (ec "__classdict__")).isNone&&
 (aJ.names.all bf)&&(aJ.scope.names.all λq=>!(q.2==.free))&&(uu aJ).all λx=>bf x&&ep aJ.scope x .cell
def Mg {l:List (aI×iA)} (h:(l.all λq=>!(q.2==.free))=true) (x:aI):l.lookup x≠some .free:=λe=>by
 have:=eU.mp h _ (iK e)
 cases(this:(!(f0==.free))=true)
inductive Mh (K:dn) (gp:bB->List bI->bV) (a:Nat) (cC:f3):Prop
 |mk (aJ:c9) (ae:aJ.addr=a) (ag:gH K aJ) (ax:kx K cC aJ) (aS:cC.body=gp aJ.scope aJ.body):Mh K gp a cC
def Eu {aJ:c9} {cR cB gX} (d_ pm:am) (A:List am) (lo n:Nat) (ae:K.lookup aJ.addr=some ⟨cR,cB,.func (fnX aJ.name aJ.qual aJ.params aJ.body aJ.scope [] d_ .none .none pm none aJ.d9 .none),gX⟩)
  (D:∀k,lo<=k->k<=lo+n->us K aJ d_ pm A k) (E:(aJ.least,aJ.names.length)=(lo,lo+n)) (hd:∀p,All2 (aE p) aJ.dflt A) (F:codeIn K aJ.d9 aJ.qual=true) (hs:oC aJ=true):gH K aJ:=by
 unfold oC at hs
 simp only[ed,wb,decide_eq_true_eq]at hs
 obtain⟨⟨⟨⟨⟨⟨⟨⟨⟨⟨s1,a5⟩,eX⟩,hR⟩,jK⟩,mb⟩,G⟩,H⟩,I⟩,J⟩,L⟩:=hs
 injection E with l1 l2
 refine⟨⟨cR,cB,gX,d_,.none,.none,pm,none,.none,A,ae,λC v1 v2 S=>?_,hd⟩,F,s1,a5,beq_iff_eq.mp eX,hR,λx B=>?_,mb,s7.mp G,s7.mp H,λx B=>eU.mp I x B,Mg J⟩
 ·obtain⟨v,e⟩:=Et C
  have:=D C.length (by lia) (by lia) v S
  rw[<-e]at this
  exact this
 ·have:=eU.mp jK x B
  simp only[s0,ed]at this
  exact this.imp fd λq=>⟨fd q.1,List.contains_iff_mem.mp q.2⟩
def nq {aJ:c9} {cR cB gX} (d_ pm:am) (A:List am) (lo n:Nat) (ae:K.lookup aJ.addr=some ⟨cR,cB,.func (fnX aJ.name aJ.qual aJ.params aJ.body aJ.scope [] d_ .none .none pm none aJ.d9 .none),gX⟩)
  (B:ut K aJ d_ pm A lo n) (C:(aJ.least,aJ.names.length)=(lo,lo+n)) (hd:∀p,All2 (aE p) aJ.dflt A) (D:codeIn K aJ.d9 aJ.qual=true) (hs:oC aJ=true):gH K aJ:=Eu d_ pm A lo n ae (λZ ae ag=>B.at ae ag) C hd D hs
def uv (gp:bB->List bI->bV) (aJ:c9):f3:=⟨aJ.names.map λx=>(aG x,decide (aJ.scope.names.lookup x=some .cell)),(uu aJ).map aG,aJ.least,aJ.dflt,gp aJ.scope aJ.body⟩
def Ev {gp:bB->List bI->bV} {aJ:c9} (hs:oC aJ=true) (B:aJ.names.length=aJ.least+aJ.dflt.length):kx K (uv gp aJ) aJ:=by
 unfold oC at hs
 simp only[ed,wb,decide_eq_true_eq]at hs
 obtain⟨⟨⟨⟨⟨⟨⟨⟨⟨⟨s1,a5⟩,eX⟩,hR⟩,jK⟩,mb⟩,D⟩,E⟩,F⟩,G⟩,C⟩:=hs
 refine⟨rfl,⟨uu aJ,rfl,hR.filter _,λx A=>?_⟩,rfl,rfl,B⟩
 have:=eU.mp C x A
 simp only[ed]at this
 unfold uu at A
 rw[lW]at A
 refine⟨this.1,fd this.2,A.1,λhm=>?_⟩
 have ag:=A.2
 rw[List.contains_iff_mem.mpr hm]at ag;cases ag
def uw {cC:f3} {aJ:c9} (h:cC=uv (λZ Z=>cC.body) aJ) (hs:oC aJ=true) (A:aJ.names.length=aJ.least+aJ.dflt.length):kx K cC aJ:=by
 rw[h];exact Ev hs A
def oD:am->V
 |.bool b=>.bool b
 |.int i _=>.int i
 |.str x _=>.str (aG x)
 |.ref a=>.gnd a
 |_=>.none
def qi:am->Bool
 |.none=>true
 |.bool _=>true
 |.int _ _=>true
 |.str x _=>bf x
 |.ref _=>true
 |_=>false
def Ew {v:am} (h:qi v=true):aE p (oD v) v:=by
 cases v with
 |none=>rfl
 |bool b=>rfl
 |int i t=>exact⟨t,rfl⟩
 |str x t=>exact⟨x,t,rfl,h,rfl⟩
 |ref a=>rfl
 |_=>cases h
def Ex:∀{l:List am},l.all qi=true->All2 (aE p) (l.map oD) l:=by
 intro l
 induction l with
 |nil=>intro _;exact .nil
 |cons a l A=>
  intro h
  obtain⟨ae,ag⟩:=an h
  exact .cons (Ew ae) (A ag)
def h0:bI->List aM
 |.Return (some e) _=>[e]
 |.Assign _ e _=>[e]
 |.For t it .. =>[t,it]
 |.If t .. =>[t]
 |_=>[]
def ux:bI->List bI
 |.For _ _ b .. =>b
 |.If _ b .. =>b
 |_=>[]
def kQ:aM->List aM
 |.BoolOp _ l _=>l
 |.Compare a _ l _=>a::l
 |.Call f l .. =>f::l
 |.UnaryOp _ e _=>[e]
 |.ListComp e .. =>[e]
 |.Lambda _ e .. =>[e]
 |_=>[]
def Ua:aM->bB×List Av
 |.ListComp _ g s _=>(s,g)
 |.Lambda _ _ s _=>(s,[])
 |_=>(default,[])
abbrev Ey:aM:=.Constant .none 0 default
def eN (l:List aM) (i:Nat):aM:=(l.drop i).headD Ey
structure nr where
 st:bI
 q:aI
 a:Nat
 pm:am
 d_:am
 eo:List am
def nr.aJ (r:nr):c9:=mA r.st r.a (gh r.st) r.q (.ref (r.a-1)) (r.eo.map oD)
def Ez (K:dn) (r:nr):=(K.lookup r.a,codeIn K r.aJ.d9 r.q,oC r.aJ,r.aJ.names.length,r.eo.all qi,λ(v:Nat->am) (S:Setting)=>(sT (r.eo.length+1)).map λj=>peek K S (sL (fnX r.aJ.name r.q r.aJ.params r.aJ.body r.aJ.scope [] r.d_ .none .none r.pm none r.aJ.d9 .none) ⟨ju v (r.aJ.least+j),[]⟩))
def EA (r:nr):=(some (⟨.type "function",none,.func (fnX r.aJ.name r.q r.aJ.params r.aJ.body r.aJ.scope [] r.d_ .none .none r.pm none r.aJ.d9 .none),#[]⟩:bY),true,true,r.aJ.least+r.eo.length,true,λ(v:Nat->am) (_:Setting)=>(sT (r.eo.length+1)).map λj=>some (r.aJ.names.zip (ju v (r.aJ.least+j)++r.eo.drop (r.aJ.least+j-r.aJ.least))))
def Mi {r:nr} (h:Ez K r=EA r):gH K r.aJ/\∀gp,kx K (uv gp r.aJ) r.aJ:=by
 injection h with ae h;injection h with ag h;injection h with ax h;injection h with aS h;injection h with bA cw
 refine⟨Eu r.d_ r.pm r.eo r.aJ.least r.eo.length ae (λk A cj v S=>?_) (congrArg (Prod.mk _) aS) (λp=>Ex bA) ag ax,λgp=>Ev ax (aS.trans (congrArg (r.aJ.least+·) (pk oD).symm))⟩
 have:=Ax.mp (congrFun (congrFun cw v) S) (k-r.aJ.least) (List.mem_range.mpr (Nat.lt_succ_of_le (Nat.sub_le_of_le_add (c5 cj (gz (Ay _ _))))))
 rw[Nat.add_sub_cancel' A]at this
 exact this
def jv {bd:Type} (l:List (Nat×bd)) (x:Nat):Option bd:=bW none (λf Z A=>pc (λa b=>bk A (some b) (aU a x)) f) l
def uy {bd:Type} {x:Nat} {v:bd}:∀{l:List (Nat×bd)},jv l x=some v->(x,v)∈l
 |[],h=>nomatch (h:none=some v)
 |(y,b)::l,h=>by
  replace h:bk (motive:=λZ=>Option bd) (jv l x) (some b) (aU y x)=some v:=h
  rw[d6]at h
  by_cases e:y=x
  ·rw[decide_eq_true e]at h;cases h;subst e;exact .head _
  ·rw[decide_eq_false e]at h;exact .tail _ (uy h)
section
local macro_rules |`($n:num)=>`(nat_lit $n)
def gu:List (Nat×GK):=[(61813544306882663,28),(487664792385639,35),(26549598970,42),(31650069225,288),(514052803016807,295),(244889446,302),(443680269285479,308),(470204683139557,403),(7488843438695692134,336),(1077540785139664730088,374),(245004408,389),(491580160488815,396),(555119708936647332032593152184170228,403),(957703328542718736230,410),(1031202039108982436709,417),(514395020736244,424),(7269310995713751792,429),(119100391353911783306982,443),(443683532453991,450),(1021693818791064550004,457),(130776808805600671413990,464),(7621729972976793576,471),(63582000295622630,478),(116673838385391676012533,483),(7981952172998440934,488),(483059213809767,495),(123767838756612456937978,523),(123767838756614845477748,528),(57913129628610933,535),(122586966813206520887802,542),(217757669,549),(2239359069408593900341999727,556),(2162587418726005710008546159,563),(1041727492879430825702,570),(3497931749350,577),(1031202039108982437231,591),(470033935217382,598),(3537421055973,605),(8138496038359774068,610),(62922260584347751,617),(509311419430885,624),(133147143379306751244134,631),(1040212057650833913973,638),(2181482797126561645953872755,645),(17042834352551259887155828,652),(1040212057650833931375,659),(133147143379306753408245,666),(2181482797126561473899378407,673),(17042834352551259350414950,680),(465193498327143,687),(133147143379306728176233,694),(279229798032199907726166079461,701),(279229798032199885736185180916,708),(74955178163561481537507281962786370292,715),(2181482797126561370253934054,722),(56791492154113135,729),(1040212057650833750897,736),(17042834352551259887384550,743),(2181482797126561337536264165,750),(1040212057650833994613,757),(4174343423998237937225923213049318,764),(949135806876788309237,771),(121489383280223807124847,778),(121489383280224331741798,785),(134475668096817582109410,792),(1050591157003470158586,799),(36098037286510776101166613379572,804),(122585806001605395004390,811),(54525982267734137,1162),(6979325730307487334,1169),(893353693475367614579,1176),(6979325730282387173,1183),(6979325730292806374,1190),(114349272765363256030053,1197),(502913420130409444474803951385588981,1202),(64372917776691937929952972226491462901,1207),(893353693479895268198,1212),(502913420131148522427431567387931893,1217),(502913420131303051243326845830706421,1222),(502913420130715236590977748244772085,1227),(3929011094784199070770439560770805,1232)].map (λq=>(q.1,GK.fn q.2))++([(209417178140328160254542242644,43),(5810517202271742420,44),(1579398638616324618589545300,496),(202163025742889551077466956621,497),(40984795995240563,829),(2878389171045,849),(345815110607700,884),(38098442348832724,885),(21094622021,888),(2976308568774,896)].map (λq=>(q.1,GK.gnd q.2))++([(23038965736,61,58),(179944693,83,80),(5608621652506753000,103,100),(791104482308563580904,141,119),(772664471644062529512,161,158),(5901900401937659880,182,179),(653987901694457591784,202,199),(662553704205251164136,222,219),(93126508812092952983528,249,239),(19025197562,277,266),(671788335099721644538,507,266),(2809688274804,879,869),(23859099365,1151,911)].map (λq=>(q.1,GK.cls q.2.1 q.2.2))++[(82111547813382589719386,GK.nl (.int (.ofNat 12))),(341077759470036,GK.nl (.str 4730602516500147218051049772940640686589979751706688891)),(2390838389460,GK.nl (.str 455577050489501392058)),(986096281710575219302,GK.bi "isinstance"),(1799023,GK.bi "len"),(1915758,GK.bi "sum"),(1618420,GK.bi "abs"),(230341237,GK.ty "list"),(31656277734,GK.ty "tuple"),(213561973,GK.ty "dict"),(1915635,GK.ty "str"),(1751029,GK.ty "int"),(31077430374,GK.ty "range"),(7412884813381155558,GK.ty "enumerate"),(209467501,GK.ty "bool")]))
def r2:List (Nat×List (Nat×Nat)):=[(3845838664563,932),(1031212805525757081589,939),(28667656181,946),(439489738405231,953),(16739431527068714911233391,958),(59017104478452847,965),(1031212150699474138854,973),(56777781049571431,980),(3880737323111,987),(509653951199335,1001),(247053557,1015),(483060587444327,1022),(66299584197441639,1029),(3738489600103,1036),(65174095265282151,1043),(238876772,1050),(31628900328,1057),(264701683248924025801319955060,1064),(27623487603,1078),(217625965,1085),(131993861006189953692517,1092),(8416619701498132197,1099)].map (λq=>(q.1,[(1151,q.2)]))++[(54469080146341984,[(61,58),(83,80),(103,100),(141,119),(161,158),(182,179),(202,199),(222,219),(249,239),(277,266),(507,266),(879,869),(1151,911)]),(1866613,[(141,126)]),(30540478964,[(141,138)]),(3673473956975,[(249,246)]),(29764744037,[(277,274),(507,274)])]
def hH:List (Nat×List Nat):=[26528559461,55687713484600165,7269301999082666740,60186194066586228,228178165,487321438532340,29752193893,3840484752358,30314165107,3909199968245].map (λc=>(c,[249]))++([209236588,238876772,31385500390].map (λc=>(c,[222]))++([26805547628,63551422819201389,238828149,65191794297336677,242858613].map (λc=>(c,[879]))++([209466106,491719241676776,3909199902580].map (λc=>(c,[182,277,507]))++([27051014758,487321192936550].map (λc=>(c,[202]))++([211563238,31362528501,245119477].map (λc=>(c,[277,507]))++([1951338396924375997093689455,461172322645748,60186198078436090,1012475016326128711669,129596802089920853767027,232305382,232306031,232536693,491582048301940,1850229,500958236619494,242856293,2262333226278223366131022580,31614251887,526903343233135].map (λc=>(c,[1151]))++([447735263916915,1685495,222050150,7703833146832777954,1077322848741422234470,245021414].map (λc=>(c,[182]))++([3567722918644,3570160038767,28667656181,3845838664563,1850479].map (λc=>(c,[61,83,103,141,161,182,202,222,249]))++([27873049205,230210165,236745583].map (λc=>(c,[161]))++([28701210484].map (λc=>(c,[103]))++([234403686].map (λc=>(c,[249,277,507]))++([30318261107].map (λc=>(c,[61,83,103,141,161,182,202,222,249,277,507]))++([243022964].map (λc=>(c,[141,222]))++([31377111526].map (λc=>(c,[141]))++([247053557].map (λc=>(c,[83])))))))))))))))))
def jw (c:Nat) (b i s:Bool) (l:List Nat):Nat×((Bool×Bool×Bool×Bool)×List (Nat×Bool)):=(c,(.false,b,i,s),[61,83,103,141,161,182,202,222,249,277,507,879,1151].map λa=>(a,l.any (aU a)))
def eE:List (Nat×((Bool×Bool×Bool×Bool)×List (Nat×Bool))):=[jw 209467501 .true .false .false [],jw 1751029 .true .true .false [],jw 1915635 .false .false .true [],jw 179944693 .false .false .false [83],jw 5608621652506753000 .false .false .false [103],jw 791104482308563580904 .false .false .false [141],jw 772664471644062529512 .false .false .false [161],jw 93126508812092952983528 .false .false .false [249],jw 653987901694457591784 .false .false .false [202],jw 5901900401937659880 .false .false .false [182],jw 662553704205251164136 .false .false .false [222],jw 23038965736 .false .false .false [61,83,103,141,161,182,202,222,249],jw 671788335099721644538 .false .false .false [507]]
def EB:List Nat:=[736,743,1202,1207,1217,1222,1227,1232]
def xT:List (Nat×List V):=[(496,[(.str 985736019779989978598),(.str 33869631739554128586315180816634),(.str 274337581122976790350520825832),(.str 9851515602793179764887866968419728094272)]),(497,[(.str 238926580),(.str 30576130037),(.str 113),(.str 31077349990),(.str 230439025),(.str 27050996329),(.str 31629047928),(.str 238876772),(.str 3771750478562),(.str 15090181789041174949509056),(.str 17959809402),(.str 329300995355507),(.str 425543455128294)]),(884,[(.str 2638963536749),(.str 635322173910836377318),(.str 653701350933434791654)]),(896,[(.str 44943002945763956),(.str 6190157230532770420),(.str 661982934073901365876),(.str 329300995355507),(.str 351529867212132),(.str 2919199471725)]),(889,[(.str 2638963536749)]),(890,[(.str 635322173910836377318)]),(891,[(.str 635322173910836377318)]),(892,[(.str 635322173910836377318)]),(893,[(.str 653701350933434791654)]),(894,[(.str 653701350933434791654)]),(895,[(.str 653701350933434791654)]),(171,[]),(859,[]),(860,[]),(861,[])]
def xU:List (Nat×List (Nat×V)):=[(885,[(80011947843862019027573,.none),(2775580258933,(.str 80011947843862019027573)),(2710338123494,(.str 2775580258933)),(18483821172,(.str 2710338123494)),(2638963536749,.none),(635322173910836377318,.none),(653701350933434791654,.none),(44943002945763956,(.str 2775580258933)),(6190157230532770420,(.str 2775580258933)),(661982934073901365876,(.str 2775580258933)),(351529867212132,(.str 2775580258933)),(329300995355507,(.str 351529867212132)),(2917867894760,(.str 2775580258933)),(2919199471725,(.str 2775580258933)),(17959809402,(.str 2775580258933)),(154712681,(.str 2775580258933)),(22487495782,(.str 2775580258933)),(171767908,(.str 2775580258933)),(19282850675,(.str 2775580258933)),(5112591866943682671,(.str 2775580258933)),(100100380140975830136947,(.str 5112591866943682671)),(6795624050123849723966361924353337915507,(.str 100100380140975830136947)),(3446397637463142682746044741908595,(.str 5112591866943682671)),(1642593570780547317654943859,(.str 5112591866943682671)),(1294127852040712124221945971,(.str 1642593570780547317654943859)),(57737236603590692234744175046722123891,(.str 1294127852040712124221945971)),(662553704201245751411,(.str 1642593570780547317654943859)),(690585234388064991347,(.str 1642593570780547317654943859)),(43237008125786227,(.str 690585234388064991347)),(1642610115575065759165626479,(.str 690585234388064991347)),(192824389400240778337849243763,(.str 1642593570780547317654943859)),(5748206333274683507,(.str 1642593570780547317654943859)),(1545100232888204120666470515,(.str 5748206333274683507)),(14251033941850253027713916083233055737852524659,(.str 1642593570780547317654943859)),(29886584333219141837576294541784369310069652155332723,(.str 14251033941850253027713916083233055737852524659)),(772664471640057116787,(.str 1642593570780547317654943859)),(12682947474941029444810867,(.str 1642593570780547317654943859)),(84890833000984729155699,(.str 12682947474941029444810867)),(6194075890523895923,(.str 1642593570780547317654943859)),(476673349289953464946830754470230131,(.str 1642593570780547317654943859))]),(888,[(2775580258933,(.gnd 889)),(351529867212132,(.gnd 890)),(2917867894760,(.gnd 891)),(2919199471725,(.gnd 892)),(17959809402,(.gnd 893)),(154712681,(.gnd 894)),(22487495782,(.gnd 895))])]
def Mj:List (Nat×O):=xT.map (λq=>(q.1,.tuple q.2))++xU.map (λq=>(q.1,.dict 0 q.2))
def cA:Nat->Option O:=jv Mj
def Mk (y:Nat):List (Nat×Nat):=cq [] (λl=>l) (jv r2 y)
def nt (y:Nat):List Nat:=cq [] (λl=>l) (jv hH y)
def xV (C y:Nat):Option Nat:=bk none (some 58) (aN (aU 61 C) (aU 54469080146341984 y))
end
def a0:fz:=⟨jv gu,Mk,xV,nt,jv eE,EB,cA⟩
abbrev cp:cZ:=kN (qg 1751029 1799023) (ur 2878389171045) a0 40 8
def Ml:bB->List bI->bV:=cp.cL
section
local macro_rules |`($n:num)=>`(nat_lit $n)
def qj (m:am) (l:List (Nat×Nat)):List nr:=l.map λq=>⟨F q.1,gh (F q.1),q.2,m,ak,[]⟩
def uz (m:am) (i:Nat) (l:List (Nat×Nat)):List nr:=l.map λq=>⟨bu i q.1,eV i q.1,q.2,m,ak,[]⟩
def xW:List nr:=(λm=>qj m [(2,28),(3,35),(4,42)]) (ai "gemrows.binding" 194)++
 ((λm=>qj m [(19,288),(20,295),(21,302),(27,336),(33,374)]++(uz m 9 [(0,58)]++(uz m 12 [(0,119),(1,126),(3,138)]++(uz m 17 [(1,246)]++([⟨F 35,gh (F 35),389,m,r 382,[(ez 6 779)]⟩,⟨bu 18 1,eV 18 1,274,m,r 267,[ak]⟩,⟨bu 10 0,eV 10 0,80,m,r 73,[(ai "" 334)]⟩,⟨bu 11 0,eV 11 0,100,m,r 93,[ak]⟩,⟨bu 16 0,eV 16 0,219,m,r 212,[ak]⟩,⟨bu 14 0,eV 14 0,179,m,r 172,[ak,ak,ak,ak,(r 171),ak,ak,(.bool false),ak]⟩,⟨bu 13 0,eV 13 0,158,m,r 151,[ak,ak,(.bool false)]⟩,⟨bu 15 0,eV 15 0,199,m,r 192,[ak]⟩,⟨bu 17 0,eV 17 0,239,m,r 232,[ak,(.bool false),ak,ak]⟩,⟨bu 18 0,eV 18 0,266,m,r 259,[ak,ak,(ai "public" 620)]⟩,⟨F 22,gh (F 22),308,m,r 303,[(ez 12 285)]⟩]))))) (ai "gemrows.things" 221)++
 ((λm=>qj m [(39,396),(40,403),(42,410),(43,417),(44,424),(45,429),(47,443),(48,450),(49,457),(50,464)]) (ai "gemrows.coretools" 789)++
 ((λm=>qj m [(52,471),(53,478),(54,483),(55,488),(56,495),(61,523),(62,528),(63,535),(64,542),(65,549),(66,556),(67,563),(68,570),(69,577),(71,591),(72,598),(73,605),(74,610),(75,617),(76,624)]) (ai "gemrows.lines" 887)++
 ((λm=>qj m [(78,631),(79,638),(80,645),(81,652),(82,659),(83,666),(84,673),(85,680),(86,687),(87,694),(88,701),(89,708),(90,715),(91,722),(92,729),(93,736),(94,743),(95,750),(96,757),(97,764),(98,771),(99,778),(100,785),(101,792),(102,799),(103,804),(104,811)]) (ai "gemrows.core" 1122)++
 ((λm=>[⟨bu 109 0,eV 109 0,869,m,r 862,[(r 859),(r 860),ak,(r 861),ak]⟩]) (ai "gemrows.nodes" 1426)++
 ((λm=>uz m 115 [(3,932),(4,939),(5,946),(6,953),(7,958),(8,965),(10,980),(11,987),(13,1001),(15,1015),(16,1022),(17,1029),(18,1036),(19,1043),(20,1050),(21,1057),(22,1064),(24,1078),(25,1085),(26,1092),(27,1099)]++([⟨bu 115 0,eV 115 0,911,m,r 904,[ak,ak,(ez 20000 1636)]⟩,⟨bu 115 9,eV 115 9,973,m,r 966,[ak,ak,ak]⟩])) (ai "gemrows.world" 1472)++
 ((λm=>qj m [(117,1162),(118,1169),(120,1183),(121,1190),(122,1197),(124,1207),(125,1212),(126,1217),(128,1227),(129,1232),(130,1239)]) (ai "law_nu0299_01" 1980))))))))
end
def cg:Nat->Option f3:=jv (xW.map λq=>(q.a,uv Ml q.aJ))
def Mm (P:bR):xW.map (Ez (KF P))=xW.map EA:=by kernel_rfl
def Mn (A:c.K=KF c.w.params) (uA:p9 c aw (qg 1751029 1799023) (ur 2878389171045)) (tok:jr c a0):jf c aw cg:=⟨λa cC h=>by
 obtain⟨r,B,e⟩:=ey.mp (uy h)
 injection e with e1 e2
 subst e1 e2
 obtain⟨ag,ax⟩:=Mi (Ax.mp (Mm c.w.params) r B)
 rw[<-A]at ag ax
 refine⟨r.aJ,rfl,ag,ax _,λg C hs E hd D=>?_⟩
 have:=(DP uA tok 40 8 g C (by lia) D).cL r.aJ.body
 rw[hs]at this
 exact this⟩
def j7 (K:dn) (y:aI) (v:am):Bool:=nsIn K iX y==some (some v)||(nsIn K iX y==some none&&bootBuiltins y==some v&&!(y=="__name__"))
def jx {v:am} (h:j7 c.K y v=true):d7 c y v:=by
 unfold j7 at h
 simp only[s0,ed,wb,beq_iff_eq]at h
 exact h.imp id λq=>⟨q.1.1,q.1.2,beq_eq_false_iff_ne.mp q.2⟩
def uB {bd:Type} (x:Option bd) (k:bd->Bool):Bool:=match x with|some v=>k v|none=>false
def oE (K:dn) (C i:Nat):Bool:=makesIn K C&&(gf K (.ref C) "__init__"==some (some (.ref i)))&&isFn K (.ref i)&&plainGet K C ""&&vP K C&&plainOver K C&&(gf K (.ref C) "__setattr__"==some (some (.builtin "object.__setattr__")))
def r3 {C:Nat} (h:oE K C i=true):tG K C i:=by
 unfold oE at h
 simp only[ed,beq_iff_eq]at h
 obtain⟨⟨⟨⟨⟨⟨ae,ag⟩,ax⟩,aS⟩,bA⟩,cw⟩,cM⟩:=h
 exact⟨ae,ag,ax,⟨aS,bA,cw,cM⟩⟩
def EC (x:V) (v:am):Bool:=match v with
 |.int d _=>vInt x λc=>decide (c=d)
 |.str s _=>bf s&&vStr x λc=>aU c (aG s)
 |_=>false
def Mo {x:V} {v:am} (h:EC x v=true) (p:aX):aE p x v:=by
 cases v with
 |int d t=>
  obtain⟨c,rfl,e⟩:=eD' h
  exact⟨t,by rw[of_decide_eq_true e]⟩
 |str s t=>
  obtain⟨ae,ag⟩:=an h
  obtain⟨c,rfl,e⟩:=jR' ag
  exact⟨s,t,rfl,ae,(b3 e).symm⟩
 |_=>cases h
def uC (K:dn) (y:aI):GK->Bool
 |.nl v=>uB (nsIn K iX y) λq=>uB q (EC v)
 |.gnd a=>j7 K y (.ref a)
 |.fn a=>j7 K y (.ref a)&&fZ K (.ref a)
 |.cls a i=>j7 K y (.ref a)&&fZ K (.ref a)&&oE K a i
 |.bi n=>j7 K y (.builtin n)
 |.ty n=>j7 K y (.type n)
def Mp {g:GK} (h:uC c.K y g=true):Dx c y g:=by
 cases g with
 |nl v=>
  unfold uC at h
  cases e:nsIn c.K iX y with
  |none=>rw[e]at h;cases h
  |some q=>
   rw[e]at h
   cases q with
   |none=>cases h
   |some u=>exact⟨u,.inl e,Mo h⟩
 |gnd a=>exact jx h
 |fn a=>exact⟨jx (kZ.mp h).1,(kZ.mp h).2⟩
 |cls a i=>
  obtain⟨ae,ag⟩:=an h
  exact⟨jx (kZ.mp ae).1,(kZ.mp ae).2,r3 ag⟩
 |bi n=>exact jx h
 |ty n=>exact jx h
def xX (K:dn) (y:aI) (q:Nat×Nat):Bool:=(gf K (.ref q.1) y==some (some (.ref q.2)))&&isFn K (.ref q.2)&&fZ K (.ref q.2)
def xY (K:dn) (y:aI) (C:Nat):Bool:=(gf K (.ref C) y==some none)&&(takerIn K C y==some none)
def ED (K:dn) (bp:Nat):Bool:=plainGet K bp "__class__"&&vP K bp&&(gf K (.ref bp) "__class__"==some (some (.builtin "object.__class__")))&&(specialIn K (.builtin "object.__class__") "__get__"==some (some (.builtin "getset_descriptor.__get__")))&&
 (takesIn K (.builtin "object.__class__")==some true)&&(mroIn K bp (.type "object")==some true)
def xZ (K:dn) (fx:am) (r:(Bool×Bool×Bool×Bool)×List (Nat×Bool)):Bool:=(mW K (.type "NoneType") fx==some r.1.1)&&(mW K (.type "bool") fx==some r.1.2.1)&&(mW K (.type "int") fx==some r.1.2.2.1)&&(mW K (.type "str") fx==some r.1.2.2.2)&&
 r.2.all λq=>ED K q.1&&(mW K (.ref q.1) fx==some q.2)
def Mq {fx:am} {r:(Bool×Bool×Bool×Bool)×List (Nat×Bool)} (h:xZ K fx r=true):tQ K fx r.1.1 r.1.2.1 r.1.2.2.1 r.1.2.2.2 r.2:=by
 unfold xZ at h
 simp only[ed,beq_iff_eq]at h
 obtain⟨⟨⟨⟨ae,ag⟩,ax⟩,aS⟩,bA⟩:=h
 refine⟨ae,ag,ax,aS,λq A=>?_⟩
 have:=eU.mp bA q A
 unfold ED at this
 simp only[ed,beq_iff_eq]at this
 obtain⟨⟨⟨⟨⟨⟨B,C⟩,D⟩,E⟩,F⟩,G⟩,H⟩:=this
 exact⟨⟨B,C,D,E,F,G⟩,H⟩
def EE (K:dn) (y:aI):Option am:=match nsIn K iX y with
 |some (some v)=>some v
 |_=>bootBuiltins y
def uD {bd:Type} {L:List (Nat×bd)} {B:aI->bd->Bool} (h:(L.all λq=>bf (en q.1)&&aU (aG (en q.1)) q.1&&B (en q.1) q.2)=true) {x:aI} {v:bd} (A:bf x=true) (C:jv L (aG x)=some v):B x v=true:=by
 have:=eU.mp h _ (uy C)
 simp only[ed]at this
 rw[gW this.1.1 A (b3 this.1.2)]at this
 exact this.2
abbrev lz (P:bR) (q:Nat×GK):Bool:=bf (en q.1)&&aU (aG (en q.1)) q.1&&uC (KF P) (en q.1) q.2
def MA (P:bR):gu.all (lz P)=true:=by kernel_rfl
abbrev MB (P:bR) (q:Nat×List (Nat×Nat)):Bool:=bf (en q.1)&&aU (aG (en q.1)) q.1&&q.2.all (xX (KF P) (en q.1))
def MC (P:bR):r2.all (MB P)=true:=by kernel_rfl
abbrev oF (P:bR) (q:Nat×List Nat):Bool:=bf (en q.1)&&aU (aG (en q.1)) q.1&&q.2.all (xY (KF P) (en q.1))
def MJ (P:bR):hH.all (oF P)=true:=by kernel_rfl
abbrev x0 (K:dn) (y:aI) (r:(Bool×Bool×Bool×Bool)×List (Nat×Bool)):Bool:=uB (EE K y) λv=>j7 K y v&&xZ K v r
abbrev iR (P:bR) (q:Nat×((Bool×Bool×Bool×Bool)×List (Nat×Bool))):Bool:=bf (en q.1)&&aU (aG (en q.1)) q.1&&x0 (KF P) (en q.1) q.2
def MX (P:bR):eE.all (iR P)=true:=by kernel_rfl
def x1 (K:dn) (a:Nat):List am:=match K.lookup a with
 |some ⟨_,_,.seq ai _,_⟩=>ai.toList
 |_=>[]
def uE (K:dn) (a:Nat):List cu:=match K.lookup a with
 |some ⟨_,_,.dict es _,_⟩=>es.toList
 |_=>[]
def nu (e:cu):aI:=match e.key with
 |.str s _=>s
 |_=>default
def EF (e:cu):Tok:=match e.key with
 |.str _ t=>t
 |_=>0
def MY:∀{l:List cu},(l.all λe=>bf (nu e)&&qi e.val)=true->cm w p (l.map λe=>(aG (nu e),oD e.val)) (l.map λe=>⟨mR w (nu e),.str (nu e) (EF e),e.val⟩):=by
 intro l
 induction l with
 |nil=>intro _;exact .nil
 |cons a l A=>
  intro h
  obtain⟨ae,ag⟩:=an h
  obtain⟨ax,aS⟩:=an ae
  exact .cons ⟨⟨⟨_,_,rfl,ax,rfl⟩,λs t q=>by injection q with aK aW;subst aK;rfl⟩,Ew aS⟩ (A ag)
def MZ (P:bR):xT.map (λq=>((KF P).lookup q.1,(x1 (KF P) q.1).all qi,(x1 (KF P) q.1).map oD))=xT.map (λq=>(some ⟨.type "tuple",none,.seq (x1 (KF P) q.1).toArray 0,#[]⟩,true,q.2)):=by kernel_rfl
def M0 (w:cv):xU.map (λq=>((KF w.params).lookup q.1,(uE (KF w.params) q.1).all (λe=>bf (nu e)&&qi e.val),(uE (KF w.params) q.1).map (λe=>(aG (nu e),oD e.val)),aU q.1 iY))=
  xU.map (λq=>(some (dd ((uE (KF w.params) q.1).map λe=>⟨mR w (nu e),.str (nu e) (EF e),e.val⟩) (uE (KF w.params) q.1).length),true,q.2,false)):=by kernel_rfl
def qk (E:c.K=KF c.w.params):go c cA:=λa o h=>by
 rcases gA.mp (uy h)with m|m
 ·obtain⟨q,A,e⟩:=ey.mp m
  injection e with e1 e2
  subst e1 e2
  have z:=Ax.mp (MZ c.w.params) q A
  rw[<-E]at z
  injection z with B z;injection z with C D
  exact⟨_,_,_,_,B,λp=>by rw[<-D];exact Ex C⟩
 ·obtain⟨q,A,e⟩:=ey.mp m
  injection e with e1 e2
  subst e1 e2
  have z:=Ax.mp (M0 c.w) q A
  rw[<-E]at z
  injection z with B z;injection z with C z;injection z with D F
  exact⟨⟨_,_,B,λp=>by rw[<-D];exact MY C⟩,λe=>by rw[e]at F;cases F⟩
def M1 (P:bR):specialIn (KF P) (.ref 61) "__getattribute__"=some (some (.builtin "type.__getattribute__"))/\(typeIn (KF P) (.ref 61)=some (.type "type")/\readsIn (KF P) 61 (.type "type")=true/\findCls (KF P) (.ref 61) (.type "type") (S "__init__")=some (.val (.ref 58)))/\fZ (KF P) (.ref 58)=true:=
 ⟨by kernel_rfl,⟨by kernel_rfl,by kernel_rfl,by kernel_rfl⟩,by kernel_rfl⟩
def M2 (P:bR):(EB.all λa=>fZ (KF P) (.ref a))=true:=by kernel_rfl
def M3' {C y a:Nat} (h:xV C y=some a):C=61/\y=54469080146341984/\a=58:=by
 unfold xV at h
 cases q:aN (aU 61 C) (aU 54469080146341984 y)with
 |false=>rw[q]at h;cases h
 |true=>
  rw[q]at h
  cases gR h
  obtain⟨aK,aW⟩:=an q
  exact⟨(b3 aK).symm,(b3 aW).symm,rfl⟩
def x2 (A:c.K=KF c.w.params):jr c a0:=by
 refine⟨λx g G h=>?_,λy D q E=>?_,λC y a D h=>?_,λy D C F=>?_,λx r G h=>?_,λa H=>?_,qk A⟩
 ·have:=uD (L:=gu) (B:=uC (KF c.w.params)) (MA c.w.params) G h
  rw[<-A]at this
  exact Mp this
 ·replace E:q∈cq (motive:=λZ=>List (Nat×Nat)) [] (λl=>l) (jv r2 (aG y)):=E
  cases e:jv r2 (aG y)with
  |none=>rw[e]at E;cases E
  |some l=>
   rw[e]at E
   have z:=uD (L:=r2) (v:=l) (B:=λy l=>l.all (xX (KF c.w.params) y)) (MC c.w.params) D e
   have:=eU.mp z q E
   rw[<-A]at this
   unfold xX at this
   simp only[ed,beq_iff_eq]at this
   exact⟨this.1.1,this.1.2,this.2⟩
 ·obtain⟨rfl,ag,rfl⟩:=M3' h
  have:=gW D (aq:=S "__init__") (by kernel_rfl) (ag.trans (by kernel_rfl))
  subst this
  have z:=M1 c.w.params
  rw[<-A]at z
  exact⟨z.1,⟨_,z.2.1⟩,z.2.2⟩
 ·replace F:C∈cq (motive:=λZ=>List Nat) [] (λl=>l) (jv hH (aG y)):=F
  cases e:jv hH (aG y)with
  |none=>rw[e]at F;cases F
  |some l=>
   rw[e]at F
   have z:=uD (L:=hH) (v:=l) (B:=λy l=>l.all (xY (KF c.w.params) y)) (MJ c.w.params) D e
   have:=eU.mp z C F
   rw[<-A]at this
   unfold xY at this
   simp only[ed,beq_iff_eq]at this
   intro name I he
   have:=gW I D he
   subst this
   assumption
 ·have:=uD (L:=eE) (B:=x0 (KF c.w.params)) (MX c.w.params) G h
  rw[<-A]at this
  unfold x0 uB at this
  cases g:EE c.K x with
  |none=>rw[g]at this;cases this
  |some v=>
   rw[g]at this
   exact⟨v,jx (kZ.mp this).1,Mq (kZ.mp this).2⟩
 ·have:=eU.mp (M2 c.w.params) a H
  rw[<-A]at this
  exact this
def i846:c9:=mA (bu 107 0) 846 (S "__init__") (S "Raised.__init__") (r 845) []
def M4 (P:bR):gH (KF P) i846:=nq (cR:=.type "function") (cB:=none) (gX:=#[]) ak (ai "gemrows.errors" 1371) [] 2 0 (by kernel_rfl) (λv S=>by kernel_rfl) (by kernel_rfl) (λp=>.nil) (by kernel_rfl) (by kernel_rfl)
def M5:i846.names.length=i846.least+i846.dflt.length:=by kernel_rfl
def i826:c9:=mA (bu 106 0) 826 (S "__init__") (S "GemError.__init__") (r 825) [(.str 0)]
def M6 (P:bR):gH (KF P) i826:=nq (cR:=.type "function") (cB:=none) (gX:=#[]) (r 819) (ai "gemrows.errors" 1371) [(ai "" 1385)] 1 1 (by kernel_rfl) (⟨λv S=>by kernel_rfl,λv S=>by kernel_rfl⟩) (by kernel_rfl) (λp=>.cons (⟨_,_,rfl,by kernel_rfl,by kernel_rfl⟩) (.nil)) (by kernel_rfl) (by kernel_rfl)
def M7:i826.names.length=i826.least+i826.dflt.length:=by kernel_rfl
def i1176:c9:=mA (F 119) 1176 (S "_law_error") (S "_law_error") (r 1175) []
def M8 (P:bR):gH (KF P) i1176:=nq (cR:=.type "function") (cB:=none) (gX:=#[]) ak (ai "law_nu0299_01" 1980) [] 1 0 (by kernel_rfl) (λv S=>by kernel_rfl) (by kernel_rfl) (λp=>.nil) (by kernel_rfl) (by kernel_rfl)
def M9:i1176.names.length=i1176.least+i1176.dflt.length:=by kernel_rfl
def M_ (A:c.K=KF c.w.params):xI c 849 829 i846 i826:=
 ⟨S "self",S "thing",by kernel_rfl,by decide,by kernel_rfl,by kernel_rfl,S "GemError",⟨558,8,558,16⟩,⟨558,26,558,30⟩,⟨558,32,558,46⟩,⟨558,8,558,47⟩,⟨558,8,558,47⟩,⟨559,8,559,12⟩,⟨559,8,559,18⟩,⟨559,21,559,26⟩,⟨559,8,559,26⟩,⟨558,8,558,25⟩,0,S "a Ruby error",by kernel_rfl,by kernel_rfl,jx (by rw[A];kernel_rfl),by kernel_rfl,by kernel_rfl⟩
def Na (A:c.K=KF c.w.params):xJ c 849 829 i846 i826:=
 ⟨S "self",S "reason",by kernel_rfl,by decide,by kernel_rfl,by kernel_rfl,S "ValueError",⟨553,8,553,18⟩,⟨553,28,553,32⟩,⟨553,34,553,40⟩,⟨553,8,553,41⟩,⟨553,8,553,41⟩,⟨554,8,554,12⟩,⟨554,8,554,19⟩,⟨554,22,554,28⟩,⟨554,8,554,28⟩,⟨553,8,553,27⟩,by kernel_rfl,by kernel_rfl,jx (by rw[A];kernel_rfl),by kernel_rfl⟩
def Nb (o:bY):ClassData:=match o.data with
 |.cls dB=>dB
 |_=>default
def EG (P:bR):my (KF P) 849 829:=⟨⟨Nb (((ma P).get 849).getD default),by kernel_rfl,by kernel_rfl,by kernel_rfl⟩,by kernel_rfl⟩
def Nc (A:c.K=KF c.w.params):qb c 849 829 i846 i826:=by
 refine⟨by rw[A];exact EG _,?_,by rw[A];kernel_rfl,by rw[A];kernel_rfl,by rw[A];exact M4 _,by rw[A];exact M6 _,M5,M7,M_ A,Na A,
  ⟨by rw[A];kernel_rfl,⟨.type "type",by rw[A];kernel_rfl,by rw[A];kernel_rfl,by rw[A];kernel_rfl⟩,by rw[A];kernel_rfl⟩,by rw[A];kernel_rfl,by rw[A];kernel_rfl,by rw[A];kernel_rfl,by rw[A];kernel_rfl⟩
 rw[A]
 exact⟨S "Raised",S "Raised",848,[.ref 829],[],[],false,none,none,some (r 833),none,some (ai "Raised" 1401),some (ai "Raised" 1409),some (.bool true),by kernel_rfl⟩
def uF:bV:=(jZ (rG (dj 1636473) (ds (.int 1)) (hz .Add (jk cA (dj 1636473) (ds (.int 1))) (ds (.int 1)))) (jZ (nh (jU cA .Eq (jk cA (dj 1636473) (ds (.int 0))) (ds (.int 0))) (ng (hz .Mod (hz .Mod (hz .Add (hz .Add (hz .Mult (hz .Mult (ds (.int 2)) (jk cA (dj 1636473) (ds (.int 1)))) (jk cA (dj 1636473) (ds (.int 1)))) (hz .Mult (ds (.int 5)) (jk cA (dj 1636473) (ds (.int 1))))) (ds (.int 6))) (ds (.int 71))) (dj 232306682))) kG) (jZ (ni (.n 27335996789) (hz .Mod (jk cA (dj 1636473) (ds (.int 0))) (dj 232306682))) (jZ (rG (dj 1636473) (ds (.int 0)) (hz .FloorDiv (jk cA (dj 1636473) (ds (.int 0))) (dj 232306682))) (ng (dj 27335996789))))))
def j8 (o:Option O) (k:Nat->Bool):Bool:=cq false (λo=>O.rec a1 a1 a1 aL aL k aL a1 a1 cQ aL cQ aL cQ a1 a1 a1 false aL false aL a1 aL o) o
def nv (ai:List V) (k:V->V->Bool):Bool:=bW false (λa l Z=>bW false (λb l Z=>bW (k a b) hv l) l) ai
def j9 (ai:List V) (ab:aA) (k:aY):Bool:=nv ai λo m=>cz o λZ aB=>j8 (bn ab aB) λn=>jX m λm=>aN (b2 1 m) (aN (b2 n 2000) ((λab=>j4 m λj=>k (.int (bl j)) ab) (bD aB (.box (bS n)) ab)))
def iq:iQ:=λa=>bk (motive:=λZ=>Option (List V->aA->aY->Bool)) none (some j9) (aU a 1169)
def h1 (v:V) (ab:aA):Bool:=V.rec false (λb=>aN b (j8 (bn ab (key 0)) λn=>b2 n 200)) aL aL aL a1 aL a1 v
def x3 {g:Nat->Option O} {aB:ck} {k:aY} {xs:List V} (h:bn ab aB=some (.list xs)) (A:dk xs n=some v) (B:dc n 100000=true):kD g (.own i aB) (.int (bl n)) ab k=k v ab:=by
 show gY (bn ab aB) _ _ _ _=_
 rw[h]
 show aN (dc n 100000) (f4 (dk xs n) λv=>k v ab)=_
 rw[B,A];rfl
def EH {aB:ck} {u:V} {k:aA->Bool} {xs:List V} (h:bn ab aB=some (.list xs)) (A:dc n 100000=true) (B:dc n xs.length=true):rx (.own i aB) (.int (bl n)) u ab k=k (bD aB (.list (xs.set n u)) ab):=by
 show gY (bn ab aB) _ _ _ _=_
 rw[h]
 show aN (dc n 100000) (aN (dc n xs.length) (k (bD aB (.list (xs.set n u)) ab)))=_
 rw[A,B];rfl
def x4 {o:O} (af:i<4096):bn (bD (key i) o ab) (key i)=some o:=by
 show T.get (T.put o (key i) ab.t) (key i)=_
 rw[T.cd o ab.t af af,if_pos rfl]
def Nd {k:V->Bool}:f4 (some v) k=k v:=rfl
def EI {v:Bool} {k:Bool->Bool}:bh (some v) k=k v:=rfl
def Nf {a b:Int} {k:aY}:pP .Add (.int a) (.int b) ab k=k (.int (bM a b)) ab:=rfl
def Ng {a b:Int} {k:aY}:pP .Mult (.int a) (.int b) ab k=aN (ji a) (k (.int (eG a b)) ab):=rfl
def Nh {a b:Int} {k:aY}:pP .Mod (.int a) (.int b) ab k=aN (Int.jQ b) (k (.int (Int.fmod a b)) ab):=rfl
def Ni {a b:Int} {k:aY}:pP .FloorDiv (.int a) (.int b) ab k=aN (Int.jQ b) (aN (ji b) (k (.int (Int.fdiv a b)) ab)):=rfl
def Nj {a b:Int} {g:Nat->Option O}:gp g ab .Eq (.int a) (.int b)=some (Int.dt a b):=rfl
def mB (x y:Int) (m:Nat):Int:=bk (x.fmod (bl m)) (((((((eG 2 (y.add 1)).mul (y.add 1)).add (eG 5 (y.add 1))).add 6).fmod 71)).fmod (bl m)) (Int.dt x 0)
def Nk {x y:Int} {m:Nat} {K:dy} {au:ef} {loc:Loc} (af:i<4096) (g:bn ab (key i)=some (.list [.int x,.int y])) (hm:1<=m) (J:m<100000) (D:0<=y) (L:y<=100000)
  (l1:lk loc 1636473=some (.own i (key i))) (l2:lk loc 232306682=some (.int (bl m)))
  (C:∀(j:Nat) (hS:Int) aF cO,j<m->bl j=mB x y m->(∃bw,aF=bD (key i) (.list [.int hS,.int (y+1)]) bw/\(bw=ab∨bw=bD (key i) (.list [.int x,.int (y+1)]) ab))->K (.ret (.int (bl j))) aF cO=true):uF ab loc K au=true:=by
 have ga:bn (bD (key i) (.list [.int x,.int (bM y 1)]) ab) (key i)=some (.list [.int x,.int (bM y 1)]):=x4 af
 have e0:∀k,kD cA (.own i (key i)) (.int 1) ab k=k (.int y) ab:=λk=>x3 (n:=1) g rfl rfl
 have e1:∀u k,rx (.own i (key i)) (.int 1) u ab k=k (bD (key i) (.list [.int x,u]) ab):=λu k=>EH (n:=1) g rfl rfl
 clear g
 have e2:∀k,kD cA (.own i (key i)) (.int 0) (bD (key i) (.list [.int x,.int (bM y 1)]) ab) k=k (.int x) (bD (key i) (.list [.int x,.int (bM y 1)]) ab):=λk=>x3 (n:=0) ga rfl rfl
 have e3:∀k,kD cA (.own i (key i)) (.int 1) (bD (key i) (.list [.int x,.int (bM y 1)]) ab) k=k (.int (bM y 1)) (bD (key i) (.list [.int x,.int (bM y 1)]) ab):=λk=>x3 (n:=1) ga rfl rfl
 have e4:∀u k,rx (.own i (key i)) (.int 0) u (bD (key i) (.list [.int x,.int (bM y 1)]) ab) k=k (bD (key i) (.list [u,.int (bM y 1)]) (bD (key i) (.list [.int x,.int (bM y 1)]) ab)):=λu k=>EH (n:=0) ga rfl rfl
 clear ga
 have l3:∀u:V,lk (up loc 27335996789 u) 1636473=some (.own i (key i)):=λu=>by rw[tk,if_neg (by decide)];exact l1
 have l4:∀u:V,lk (up loc 27335996789 u) 232306682=some (.int (bl m)):=λu=>by rw[tk,if_neg (by decide)];exact l2
 have l5:∀u:V,lk (up loc 27335996789 u) 27335996789=some u:=λu=>by rw[tk,if_pos rfl]
 have st:∀(u:V) (ab:aA) (k:aA->Loc->Bool),hZ (.n 27335996789) u ab loc k=k ab (up loc 27335996789 u):=λu ab k=>rfl
 simp only[uF,jZ,rG,nh,ng,kG,ni,hz,jk,dj,ds,jU,l1,l2,Nd,Nf,Ng,Nh,Ni,e0,e1,e2,e3,e4,Nj,EI,st,l3,l4,l5]
 clear e0 e2 e3 e4
 have G:Int.jQ (bl m)=true:=by
  show b2 1 m=true
  exact mP hm
 have low:∀n:Nat,n<1000000000000->ji (bl n)=true:=λn H=>by
  unfold ji
  exact mP H
 have E:∀z:Int,∃j:Nat,j<m/\z.fmod (bl m)=bl j:=λz=>by
  have ae:=Int.fmod_nonneg_of_pos z (b:=bl m) (by show(0:Int)<(m:Int);lia)
  have ag:=Int.fmod_lt_of_pos z (b:=bl m) (by show(0:Int)<(m:Int);lia)
  obtain⟨j,A⟩:=HB ae
  refine⟨j,?_,A⟩
  rw[A]at ag
  exact Int.ofNat_lt.mp ag
 have I:ji (eG 2 (y.add 1))=true:=by
  clear C
  obtain⟨n,rfl⟩:=HB D,D
  have e:eG 2 (bM (n:Int) 1)=bl (2*(n+1)):=by
   show(2:Int)*((n:Int)+1)=((2*(n+1):Nat):Int)
   lia
  rw[e]
  exact low _ (by lia)
 rw[G,low m (by lia),I]
 cases F:Int.dt x 0 with
 |true=>
  obtain⟨j,A,B⟩:=E ((((((eG 2 (y.add 1)).mul (y.add 1)).add (eG 5 (y.add 1))).add 6).fmod 71))
  rw[B]
  exact C j x _ loc A (by unfold mB;rw[F];exact B.symm) ⟨ab,rfl,.inl rfl⟩
 |false=>
  obtain⟨j,A,B⟩:=E x
  rw[B]
  exact C j (x.fdiv (bl m)) _ _ A (by unfold mB;rw[F];exact B.symm) ⟨_,rfl,.inr rfl⟩
def oG' {ar:Prop} {ai:List V} {k:V->V->Bool} (h:nv ai k=true) (A:∀a b,ai=[a,b]->k a b=true->ar):ar:=by
 rcases ai with _|⟨a,_|⟨b,_|⟨d,l⟩⟩⟩
 ·cases h
 ·cases h
 ·exact A a b rfl h
 ·cases h
def nw' {ar:Prop} {o:Option O} {k:Nat->Bool} (h:j8 o k=true) (A:∀n,o=some (.box n)->k n=true->ar):ar:=by
 cases o with
 |none=>cases h
 |some o=>cases o with
  |box n=>exact A n rfl h
  |_=>cases h
def Nl:f3:=⟨[(1636473,false),(232306682,false)],[],2,[],uF⟩
def Nm:cg 1169=some Nl:=by kernel_rfl
def r4:b5:=λZ Z Z Z Z=>false
def EJ {d:Nat}:df c aw d r4:=λf a xs A ab loc k x p s E Z Z h=>nomatch (h:false=true)
def Nn {i:ck} {b:Nat} {m:Int} {k:aY} {x:V->aA->Bool}:c7 cg r4 1169 [.own b i,.int m] ab k x=uF ab [(232306682,.int m),(1636473,.own b i)] (λbg ab Z=>Fl.rec (motive:=λZ=>Bool) (k .none ab) false false (λv=>k v ab) bg) ⟨r4,x⟩:=by
 unfold c7
 rw[Nm]
 rfl
inductive EK (i:Nat) (ab:aA) (y:Int) (jy:Int) (m:Nat) (v:V) (aF:aA):Prop
 |mk (j:Nat) (hS:Int) (bw:aA) (ae:v=.int (bl j)) (ag:j<m) (ax:bl j=mB jy y m) (aS:aF=bD (key i) (.list [.int hS,.int (y+1)]) bw) (bA:(bw=ab∨bw=bD (key i) (.list [.int jy,.int (y+1)]) ab)):EK i ab y jy m v aF
def x5 (a0:jf c aw cg) {loc:Loc} {x:V->aA->Bool} {J:aI->Option am} {aj:bc} {m:Nat} {I dM:Int} {t u:Tok} {Y:Nat} {Q:am} (ah:aZ c f) (hd:f.d<=250)
  (F:Fr f.aC f.L s.heap J) (ak:News f.aC f.L s.heap aj) (H:aQ c.K c.w p ab.t aj) (b:db f p loc J) (gs:s.gens=#[]) (os:s.os=c.os) (z:dq p ab) (g:p.n=c.n) (R:p.y=c.y) (af:i<p.ay) (li:bG ab.t i)
  (h:(p.a i,dJ [.int I t,.int dM u] Y)∈aj) (k:0<=dM) (l:dM<=p.y+n) (aO:n<=2000) (aa:1<=m) (ag:m<100000) (al:aE p (.int (bl m)) Q) (an:aw.ok f p x E):
  dH (aR c.prog c.w) f.A (.call (.ref 1169) ⟨[.ref (p.a i),Q],[]⟩) (f2 (λv aq=>∃(j:Nat) (aD:aX),p.bN aD/\j<m/\bl j=mB I dM m/\(∃t,v=.int (bl j) t)/\ba c f aD (bD (key i) (.box (bS n)) ab) loc aq) E) s:=by
 have B:i<4096:=cH af H.small
 have aP:dM<=3000:=by
  have ae:=ah.kv
  rw[R]at l
  lia
 let bw:aA:=bD (key i) (.list [.int I,.int dM]) ab
 have ao:ba c f p bw loc s:=⟨⟨J,aj,F,ak,by rw[jS];exact H.named af li ⟨_,_,h,.cons ⟨t,rfl⟩ (.cons ⟨u,rfl⟩ .nil)⟩,b⟩,gs,os,z.bD _ _,g,R⟩
 have run:c7 cg r4 1169 [.own i (key i),.int (bl m)] bw (j5 (EK i bw dM I m)) x=true:=by
  rw[Nn]
  exact Nk B (x4 B) aa ag k (by lia) rfl rfl λj hS aF cO M N ⟨O,e1,e2⟩=>fA ⟨j,hS,O,rfl,M,N,e1,e2⟩
 have:=mg a0 (d:=250) (by lia) (EJ (d:=260)) f 1169 _ _ bw loc _ x p s E ah hd run ao an (.cons ⟨af,rfl,rfl⟩ (.cons al .nil))
 refine hp this λr aq z=>?_
 rcases r with e|(_|_|_|v)
 ·exact z
 ·exact z
 ·exact z
 ·exact z
 ·obtain⟨aD,aF,w,bF,ap,C,S⟩:=z
  obtain⟨j,hS,O,rfl,M,N,rfl,U⟩:=mz S
  clear S
  refine⟨j,aD,bF,M,N,ap,?_⟩
  obtain⟨ar,W,as,au,G,av⟩:=C.ex
  have X:i<aD.ay:=cH af bF.ay
  have g2:=x4 (ab:=O) (o:=.list [.int hS,.int (dM+1)]) B
  obtain⟨ai,ax,az,aB⟩:=G.ent i _ X g2
  have aG:ch c.K c.w aD W i (.box (bS n)):=by
   cases aB with
   |cons aH t1=>
    obtain⟨aJ,rfl⟩:=aH
    cases t1 with
    |cons aK b8=>
     obtain⟨aL,rfl⟩:=aK
     cases b8
     exact⟨hS,dM+1,aJ,aL,ax,az,by lia,by rw[bF.y];lia⟩
  have P:=G.named X ⟨_,g2,rfl⟩ aG
  clear g2
  refine⟨⟨ar,W,as,au,?_,av⟩,C.gens,C.os,?_,C.n,C.y⟩
  clear C
  ·refine P.congr λaM aN=>?_
   clear P
   have D:=cH aN G.small
   clear G
   rw[jS,jS,T.cd _ _ B D,T.cd _ _ B D,T.cd _ _ B D]
   by_cases q:aM=i
   ·rw[if_pos q,if_pos q]
   ·rw[if_neg q,if_neg q,if_neg q]
    rcases U with rfl|rfl
    ·rw[show bw.t=T.put _ (key i) ab.t from jS _ _ _,T.cd _ _ B D,if_neg q]
    ·rw[jS,show bw.t=T.put _ (key i) ab.t from jS _ _ _,T.cd _ _ B D,if_neg q,T.cd _ _ B D,if_neg q]
  clear G P
  ·have z:=C.z
   clear C
   rcases U with rfl|rfl
   ·exact⟨z.ay,z.bz⟩
   ·exact⟨z.ay,z.bz⟩
def uG (a0:jf c aw cg) {xs:List V} {C:List am} {loc:Loc} {k:aY} {x:V->aA->Bool} (ah:aZ c f) (hd:f.d<=250) (h:j9 xs ab k=true) (S:ba c f p ab loc s) (G:aw.ok f p x E) (I:All2 (aE p) xs C):
  dH (aR c.prog c.w) f.A (.call (.ref 1169) ⟨C,[]⟩) (f2 (cb c f p loc k) E) s:=by
 obtain⟨o,X,rfl,h⟩:=oG' h
 obtain⟨i,aB,rfl,h⟩:=cJ' h
 obtain⟨n,D,h⟩:=nw' h
 obtain⟨m,rfl,J,h⟩:=kC' h
 obtain⟨K,h⟩:=an h
 obtain⟨L,h⟩:=an h
 replace h:=rY h
 obtain⟨Y,aj,F,ak,H,M⟩:=S.ex
 cases I with
 |cons N B=>
 cases B with
 |cons O B=>
 cases B
 obtain⟨af,rfl,rfl⟩:=N
 obtain⟨a,dM,t,u,b,P,Q,R⟩:=H.ent i _ af D
 refine hp (x5 a0 ah hd F ak H M S.gens S.os S.z S.n S.y af ⟨_,D,rfl⟩ P Q R (ce L) (ce K) J O G) λr aq z=>?_
 rcases r with e|(_|_|_|v)
 ·exact z
 ·exact z
 ·exact z
 ·exact z
 ·obtain⟨j,aD,bF,T,_,U,W⟩:=z
  exact⟨aD,_,V.int (bl j),bF,U,W,h j T⟩
def j_ (a0:jf c aw cg):qh c aw 250 iq:=λf a g xs D ab loc k x p s E A ah hd h S B C=>by
 replace A:bk (motive:=λZ=>Option (List V->aA->aY->Bool)) none (some j9) (aU a 1169)=some g:=A
 cases q:aU a 1169 with
 |false=>rw[q]at A;cases A
 |true=>
  rw[q]at A;cases A
  obtain rfl:=b3 q,q
  exact uG a0 ah hd h S B C
abbrev bb (i:Nat):V:=.own i (key i)
abbrev cT:O:=.dict 0 []
abbrev dm:O:=.list []
def No (l:List O):Nat->O:=bW (motive:=λZ=>Nat->O) (λZ=>.dead) (λo Z A i=>gg o (λj Z=>A j) i) l
def EL (l:List O) (n d:Nat):Nat->Nat->T:=gg (motive:=λZ=>Nat->Nat->T) (λi Z=>bk .nil (.leaf (No l i)) (dc i n))
 (λZ A i s=>bk .nil (.node (A i (iC 8 s)) (A (bK i s) (iC 8 s)) (A (bK i (iC 2 s)) (iC 8 s)) (A (bK i (iC 3 s)) (iC 8 s)) (A (bK i (iC 4 s)) (iC 8 s)) (A (bK i (iC 5 s)) (iC 8 s)) (A (bK i (iC 6 s)) (iC 8 s)) (A (bK i (iC 7 s)) (iC 8 s))) (dc i n)) d
def x6:List Nat:=[491582048301940,500958236619494,242856293,232536693,31614251887,129596802089920853767027,1012475016326128711669,2262333226278223366131022580,232305382,526903343233135,1951338396924375997093689455,461172322645748,1850229,60186198078436090,232306031]
def iS:List Nat:=[3845838664563,30318261107,3567722918644,1850479,3570160038767,28667656181,234403686,60186194066586228,3909199968245,30314165107,487321438532340,7269301999082666740,29752193893,26528559461,55687713484600165,3840484752358,228178165]
def x7:List Nat:=[3845838664563,30318261107,3567722918644,1850479,3570160038767,28667656181]
def EM:List Nat:=[3845838664563,30318261107,3567722918644,1850479,3570160038767,28667656181,247053557]
def EN:List Nat:=[3845838664563,30318261107,3567722918644,1850479,3570160038767,28667656181,28701210484]
def mC:T:=EL [.box 0,cT,.inst 1151 (x6.zip [(bb 1),(bb 3),.none,(.int (.ofNat 20000)),(.int (.ofNat 0)),(.int (.ofNat 6)),(.int (.ofNat 8)),(bb 4),(bb 5),(.int (.ofNat 0)),(.int (.ofNat 0)),(bb 6),(bb 7),(.bool .true),(bb 58)]),cT,cT,.dict 5 [(2775580258933,(bb 9)),(80011947843862019027573,(bb 16)),(18483821172,(bb 23)),(2710338123494,(bb 30)),(2638963536749,(bb 49))],cT,dm,.dead,.inst 249 (iS.zip [(.int (.ofNat 2)),(bb 23),(bb 10),.none,(.bool .false),.none,(.str 2775580258933),(.bool .true),(bb 16),.none,(bb 11),(bb 12),(bb 47),(bb 14),.none,(.str 2775580258933),.none]),cT,cT,cT,dm,dm,.dead,.inst 249 (iS.zip [(.int (.ofNat 3)),(bb 23),(bb 17),.none,(.bool .false),.none,(.str 80011947843862019027573),(.bool .true),.none,.none,(bb 18),(bb 19),(bb 44),(bb 21),.none,(.str 80011947843862019027573),.none]),cT,cT,cT,dm,dm,.dead,.inst 249 (iS.zip [(.int (.ofNat 4)),(bb 23),(bb 24),.none,(.bool .false),.none,(.str 18483821172),(.bool .true),(bb 30),.none,(bb 25),(bb 26),(bb 41),(bb 28),.none,(.str 18483821172),.none]),cT,cT,cT,dm,dm,.dead,.inst 249 (iS.zip [(.int (.ofNat 5)),(bb 23),(bb 31),.none,(.bool .false),.none,(.str 2710338123494),(.bool .true),(bb 9),.none,(bb 32),(bb 33),(bb 38),(bb 35),.none,(.str 2710338123494),.none]),cT,cT,cT,dm,dm,.tuple [],.dead,dm,.tuple [],.dead,dm,.tuple [],.dead,dm,.tuple [],.dead,.list [(bb 49)],.dead,.inst 249 (iS.zip [(.int (.ofNat 6)),(bb 30),(bb 50),.none,(.bool .false),.none,(.str 2638963536749),(.bool .false),.none,.none,(bb 51),(bb 52),(bb 57),(bb 54),.none,(.str 2638963536749),.none]),cT,cT,cT,dm,dm,.tuple [],.dead,dm,.inst 61 (x7.zip [(.int (.ofNat 1)),(bb 9),(bb 59),.none,(.bool .false),.none]),cT,.list [(.str 2775580258933),(.str 80011947843862019027573),(.str 18483821172),(.str 2710338123494),(.str 2638963536749)],.dead] 62 4 0 1
def ir:aA:=⟨mC,62,key 62⟩
def gv:V:=(bb 2)
inductive EO (c:b4) (f:bL) (p:aX) (m:aI->Option am) (k:aY) (v:am) (aq:a9):Prop
 |mk aD aF w a3 (ae:p.bN aD) (ag:aE aD w v) (ax:Fr f.aC f.L aq.heap m) (aS:News f.aC f.L aq.heap a3) (bA:aQ c.K c.w aD aF.t a3) (cw:dq aD aF) (cM:k w aF=true):EO c f p m k v aq
structure Kept (c:b4) (f:bL) (p:aX) (m:aI->Option am) (k:aY) (v:am) (aq:a9):Prop where
 ex:EO c f p m k v aq
 gens:aq.gens=#[]
 os:aq.os=c.os
def x8 {fn:Nat->Option f3} (a0:jf c aw fn) {cl:b5} {d:Nat} (hd:d+10<=260) (l:df c aw (d+10) cl) {a:Nat} {xs:List V} {M:List am} {k:aY} {x:V->aA->Bool}
  {m:aI->Option am} {aj:bc} (ah:aZ c f) (cD:f.d<=d) (h:c7 fn cl a xs ab k x=true) (F:Fr f.aC f.L s.heap m) (ak:News f.aC f.L s.heap aj) (H:aQ c.K c.w p ab.t aj) (z:dq p ab) (gs:s.gens=#[]) (os:s.os=c.os) (o:p.n=c.n) (q:p.y=c.y)
  (r:aw.ok f p x E) (u:All2 (aE p) xs M):dH (aR c.prog c.w) f.A (.call (.ref a) ⟨M,[]⟩) (f2 (Kept c f p m k) E) s:=by
 unfold c7 at h
 cases C:fn a with
 |none=>rw[C]at h;cases h
 |some cC=>
  rw[C]at h
  obtain⟨aJ,rfl,ok,aa,N⟩:=a0.fn a cC C
  obtain⟨e_,cells,least,dflt,body⟩:=cC
  clear C
  obtain⟨O,P,Q,R,ae⟩:=aa
  dsimp only at O P Q R N
  subst Q R
  refine enter (KK:=λab loc=>body ab loc (λbg ab Z=>Fl.rec (motive:=λZ=>Bool) (k .none ab) false false (λv=>k v ab) bg) ⟨cl,x⟩) (by lia) ok O P ae ah cD F ak H z u h λG aH af S T U ag bo W aK ai X al an ao I ap Z aq ar e02 as au av ax Z lv=>?_
  have ay:ba c G S T U {s with heap:=ag,toks:=bo}:=⟨⟨_,af++aj,aq,ar,au,av⟩,gs,os,as,e02.n.trans o,e02.y.trans q⟩
  refine hT (N G W ai X (by rw[ao,I];lia) (by rw[I];lia) T U _ ⟨cl,x⟩ S _ _ ax ay (aw.call ah W (aw.up e02 r) ⟨m,ap⟩ al an X) (by rw[I];exact l)) (λbg aL Y b aM y az e B D=>?_)
  obtain⟨aB,J,aD,aF,g,_⟩:=B.ex
  have e03:=e02.trans az
  refine lv _ _ ⟨G.L,aB,J,aD,aF,λi j=>?_⟩
  cases y with
  |ret v=>obtain⟨val,rfl,aG⟩:=e;exact⟨⟨Y,b,v,J,e03,aG,i,j,g,B.z,D⟩,B.gens,B.os⟩
  |next=>cases e;exact⟨⟨Y,b,V.none,J,e03,rfl,i,j,g,B.z,D⟩,B.gens,B.os⟩
  |brk=>cases D
  |cont=>cases D
def ka (cc:Nat->Nat):V->V
 |.own i _=>.own (cc i) (key (cc i))
 |v=>v
def lA (n:Nat):V->Prop
 |.own i k=>i<n/\k=key i
 |.sym _=>False
 |.any _ _=>False
 |_=>True
inductive Seen (cc:Nat->Nat) (n:Nat):O->O->Prop
 |dead {o}:Seen cc n .dead o
 |inst {C ao} (h:∀q∈ao,lA n q.2):Seen cc n (.inst C ao) (.inst C (ao.map λq=>(q.1,ka cc q.2)))
 |dict {e ao} (h:∀q∈ao,lA n q.2):Seen cc n (.dict e ao) (.dict e (ao.map λq=>(q.1,ka cc q.2)))
 |list {xs} (h:∀v∈xs,lA n v):Seen cc n (.list xs) (.list (xs.map (ka cc)))
 |tuple {xs} (h:∀v∈xs,lA n v):Seen cc n (.tuple xs) (.tuple (xs.map (ka cc)))
def nm (x y:Int) (l:Lt):Lt:=⟨λk=>if k=0 then x else y,l.q,l.r⟩
def nx (p:aX) (A:Lt) (y:Int) (cc:Nat->Nat) (n:Nat) (a6:bc):aX:=⟨A,y,n,λi=>p.a (cc i),λi=>p.b (cc i),λi=>p.e (cc i),a6⟩
def EP {A:Lt} {y:Int} {cc:Nat->Nat} {a6:bc} {val:am} (h:lA n v) (r:aE p (ka cc v) val):aE (nx p A y cc n a6) v val:=by
 cases v with
 |own i k=>exact⟨h.1,h.2,r.2.2⟩
 |sym c=>exact h.elim
 |any k t=>exact h.elim
 |_=>exact r
def EQ {B:Lt} {y:Int} {cc:Nat->Nat} {a6:bc}:∀{xs:List V} {A:List am},(∀v∈xs,lA n v)->All2 (aE p) (xs.map (ka cc)) A->All2 (aE (nx p B y cc n a6)) xs A:=by
 intro xs
 induction xs with
 |nil=>intro _ _ r;cases r;exact .nil
 |cons x xs C=>
  intro _ h r
  cases r with
  |cons r t=>exact .cons (EP (h _ (.head _)) r) (C (λv D=>h v (.tail _ D)) t)
def ER {A:Lt} {y:Int} {cc:Nat->Nat} {a6:bc}:∀{ao:List (Nat×V)} {es:List cu},(∀q∈ao,lA n q.2)->cm w p (ao.map λq=>(q.1,ka cc q.2)) es->cm w (nx p A y cc n a6) ao es:=by
 intro xs
 induction xs with
 |nil=>intro _ _ r;cases r;exact .nil
 |cons x xs B=>
  intro _ h r
  cases r with
  |cons r t=>exact .cons ⟨r.1,EP (h _ (.head _)) r.2⟩ (B (λv C=>h v (.tail _ C)) t)
def Np {C:Lt} {y:Int} {cc:Nat->Nat} {a6:bc} {aj:bc} {o bC:O} (s:Seen cc n o bC) (h:ch K w p aj (cc i) bC):ch K w (nx p C y cc n a6) aj i o:=by
 cases s with
 |dead=>trivial
 |inst A=>
  obtain⟨⟨ae,ag⟩,ax,es,B,aS,bA⟩:=h
  exact⟨⟨ae,λf ah=>ag (f.1,ka cc f.2) (kg (f:=λq:Nat×V=>(q.1,ka cc q.2)) ah)⟩,ax,es,B,aS,ER A bA⟩
 |dict A=>
  obtain⟨ae,es,aS,bA⟩:=h
  refine⟨?_,es,aS,ER A bA⟩
  rw[Hl]at ae
  exact ae
 |list A=>obtain⟨ai,B,ae,ag⟩:=h;exact⟨ai,B,ae,EQ A ag⟩
 |tuple A=>obtain⟨ai,B,ae,ag⟩:=h;exact⟨ai,B,ae,EQ A ag⟩
inductive x9 (p:aX) (cc:Nat->Nat) (n:Nat) (eP:T) (q:a7×bY):Prop
 |mk i (ae:i<n) (ag:bG eP i) (ax:(q.1=p.a (cc i)∨q.1=p.b (cc i))):x9 p cc n eP q
def restOf (p:aX) (cc:Nat->Nat) (n:Nat) (eP:T) (aj:bc):bc:=aj.filter λq=>@decide (¬x9 p cc n eP q) (dv _)
def uH {cc:Nat->Nat} {eP:T} {aj:bc} {q:a7×bY}:q∈restOf p cc n eP aj↔q∈aj/\¬x9 p cc n eP q:=by
 classical
 unfold restOf
 rw[lW]
 simp
structure r5 (t:T) (ay:Nat) (cc:Nat->Nat) (n:Nat) (eP:T):Prop where
 pos:0<n
 lt:∀i,i<n->cc i<ay
 inj:∀i j,i<n->j<n->cc i=cc j->i=j
 box:eP.get (key 0)=some (.list [.sym 0,.sym 1])
 ES:∃c,t.get (key (cc 0))=some (.box c)
 seen:∀i o,0<i->i<n->eP.get (key i)=some o->o=.dead∨∃bC,t.get (key (cc i))=some bC/\Seen cc n o bC/\bC.live=true
section
variable {t eP:T} {aj:bc} {cc:Nat->Nat}
def r5.live (e:r5 t p.ay cc n eP) (af:i<n) (l:bG eP i):bG t (cc i):=by
 obtain⟨o,ae,ag⟩:=l
 rcases pv i with rfl|A
 ·obtain⟨c,h⟩:=e.ES;exact⟨_,h,rfl⟩
 ·rcases e.seen i o A af ae with rfl|⟨bC,ax,_,aS⟩
  ·cases ag
  ·exact⟨bC,ax,aS⟩
def Nq (H:aQ K w p t aj) (e:r5 t p.ay cc n eP) (F:n<=4096):∃jy B c,t.get (key (cc 0))=some (.box c)/\0<=B/\B<=p.y+c/\aQ K w (nx p (nm jy B p.n) B cc n (restOf p cc n eP aj)) eP aj:=by
 obtain⟨c,E⟩:=e.ES
 obtain⟨x,B,fU,ty,G,hm,I,J⟩:=H.ent (cc 0) _ (e.lt 0 e.pos) E
 refine⟨x,B,c,E,I,J,H.a_,λi o af k8=>?_,λi j af A li C q=>e.inj i j af A (H.aa _ _ (e.lt i af) (e.lt j A) (e.live af li) (e.live A C) q),λi j af A li C q=>e.inj i j af A (H.dp _ _ (e.lt i af) (e.lt j A) (e.live af li) (e.live A C) q),
  λi j af A li C L=>H.cG _ _ (e.lt i af) (e.lt j A) (e.live af li) (e.live A C) λq=>L (e.inj i j af A q),λi af li=>H.mem _ (e.lt i af) (e.live af li),F,λq D=>(uH.mp D).1,λi af li q D=>?_⟩
 ·rcases pv i with rfl|M
  ·rw[e.box]at k8;cases k8
   refine⟨_,G,hm,All2.cons ⟨x,fU,rfl,λk=>⟨λe=>?_,λe=>nomatch (show bl 0=ei _ from e)⟩⟩ (.cons ⟨B,ty,rfl,λk=>⟨λe=>?_,λe=>nomatch (show bl 1=ei _ from e)⟩⟩ .nil)⟩
   ·obtain rfl:k=0:=by lia
    show x=if(0:Nat)=0 then x else B
    exact(if_pos rfl).symm
   ·obtain rfl:k=1:=by lia
    show B=if(1:Nat)=0 then x else B
    exact(if_neg (by decide)).symm
  ·rcases e.seen i o M af k8 with rfl|⟨bC,ax,aS,bA⟩
   ·trivial
   ·exact Np aS (H.ent _ _ (e.lt i af) ax)
 ·have ag:=(uH.mp D).2
  exact⟨λz=>ag ⟨i,af,li,.inl z⟩,λz=>ag ⟨i,af,li,.inr z⟩⟩
def Nr {W:Lt} {O:Int} {aD:aX} {bZ gM:T} {a3:bc} {b dp c:Nat} (H:aQ K w p t aj) (e:r5 t p.ay cc n eP) (x:(nx p W O cc n (restOf p cc n eP aj)).bN aD) (D:aQ K w aD bZ a3) (Q:bZ.get (key 0)=some (.box b)) (m:O<=p.y+c) (r:c+b<=dp)
  (X:gM.get (key (cc 0))=some (.box dp)) (hd:∀j,0<j->j<n->gM.get (key (cc j))=some .dead) (R:∀i,i<p.ay->(∀j,j<n->i≠cc j)->gM.get (key i)=t.get (key i)):aQ K w p gM a3:=by
 have S:0<aD.ay:=cH e.pos x.ay
 have U:aD.a 0=p.a (cc 0):=x.a 0 e.pos
 have Y:aD.b 0=p.b (cc 0):=x.b 0 e.pos
 have ft:bG bZ 0:=⟨_,Q,rfl⟩
 have d:bG t (cc 0):=e.live e.pos ⟨_,e.box,rfl⟩
 have lv:∀i,i<p.ay->bG gM i->bG t i:=λi af F=>by
  obtain⟨o,ae,ag⟩:=F
  by_cases q:∃j,j<n/\i=cc j
  clear af
  ·obtain⟨j,A,rfl⟩:=q
   rcases pv j with rfl|G
   ·exact d
   ·rw[hd j G A]at ae;cases ae;cases ag
  ·exact⟨o,(R i af λj A z=>q ⟨j,A,z⟩).symm.trans ae,ag⟩
 have P:∀i,i<p.ay->bG t i->(∀j,j<n->i≠cc j)->∀q∈aj,q.1=p.a i∨q.1=p.b i->q∈a3:=λi af li I q J f=>by
  refine D.a6 q (x.a6 q (uH.mpr ⟨J,λF=>?_⟩))
  obtain⟨j,A,B,z⟩:=F
  have L:=e.live A B
  have M:=e.lt j A
  rcases f with a|a<;>rcases z with z|z
  ·exact I j A (H.aa i _ af M li L (a.symm.trans z))
  ·exact H.cG i _ af M li L (I j A) (a.symm.trans z)
  ·exact H.cG _ i M af L li (λq=>I j A q.symm) (z.symm.trans a)
  ·exact I j A (H.dp i _ af M li L (a.symm.trans z))
 refine⟨D.a_,λi o af k8=>?_,λi j af A li B=>H.aa i j af A (lv i af li) (lv j A B),λi j af A li B=>H.dp i j af A (lv i af li) (lv j A B),λi j af A li B=>H.cG i j af A (lv i af li) (lv j A B),λi af li=>?_,H.small,λq J=>?_,λi af li=>H.eB i af (lv i af li)⟩
 ·by_cases q:∃j,j<n/\i=cc j
  clear af
  ·obtain⟨j,A,rfl⟩:=q
   rcases pv j with rfl|G
   ·rw[X]at k8;cases k8
    obtain⟨g,h,t1,k,l,C,g2,g3⟩:=D.ent 0 _ S Q
    rw[U]at C
    refine⟨g,h,t1,k,l,C,g2,?_⟩
    have:aD.y=O:=x.y
    rw[this]at g3
    lia
   ·rw[hd j G A]at k8;cases k8;trivial
  ·have q:∀j,j<n->i≠cc j:=λj A z=>q ⟨j,A,z⟩
   rw[R i af q]at k8
   have E:=H.ent i o af k8
   cases V:o.live with
   |false=>exact ch.q4 V (.refl p) af E
   |true=>exact ch.ext (aX.bN.refl p) af (P i af ⟨o,k8,V⟩ q) E
 ·by_cases q:∃j,j<n/\i=cc j
  clear af
  ·obtain⟨j,A,rfl⟩:=q
   rcases pv j with rfl|G
   ·obtain⟨⟨o1,C⟩,o2,N⟩:=D.mem 0 S ft
    rw[U]at C;rw[Y]at N
    exact⟨⟨o1,C⟩,o2,N⟩
   ·obtain⟨o,ae,ag⟩:=li
    rw[hd j G A]at ae;cases ae;cases ag
  ·have q:∀j,j<n->i≠cc j:=λj A z=>q ⟨j,A,z⟩
   have lt:=lv i af li
   obtain⟨⟨o1,C⟩,o2,N⟩:=H.mem i af lt
   exact⟨⟨o1,P i af lt q _ C (.inl rfl)⟩,o2,P i af lt q _ N (.inr rfl)⟩
 ·refine D.a6 q (x.a6 q (uH.mpr ⟨H.a6 q J,λF=>?_⟩))
  obtain⟨j,A,B,z⟩:=F
  have:=H.eB _ (e.lt j A) (e.live A B) q J
  rcases z with z|z
  ·exact this.1 z
  ·exact this.2 z
end
def jz:ck->ck->Bool
 |.e,.e=>true
 |.lb a,.lb b=>jz a b
 |.c_ a,.c_ b=>jz a b
 |.fs a,.fs b=>jz a b
 |.gC a,.gC b=>jz a b
 |.iG a,.iG b=>jz a b
 |.gV a,.gV b=>jz a b
 |.kq a,.kq b=>jz a b
 |.m0 a,.m0 b=>jz a b
 |_,_=>false
def ET:∀{a b:ck},jz a b=true->a=b:=by
 intro a
 induction a with
 |e=>intro b h;cases b<;>first|rfl|cases h
 |lb a A|c_ a A|fs a A|gC a A|iG a A|gV a A|kq a A|m0 a A=>intro b h;cases b<;>first|cases h;done|exact congrArg _ (A h)
def jA (A d:Nat) (i:Nat):Nat:=gg A (λm Z=>bK (bS m) d) i
def x_ (A d n:Nat) (a b:V):Bool:=V.rec (oi b true) (λp=>vBool b λq=>mm p q) (λi=>vInt b λj=>Int.dt i j) aL (λs=>vStr b λt=>aU s t)
 (λi k=>cz b λj l=>aN (dc i n) (aN (jz k (key i)) (aN (aU j (jA A d i)) (jz l (key j))))) (λg=>rA b λh=>aU g h) (λZ Z=>false) a
def uI (A d n:Nat):List V->List V->Bool
 |[],[]=>true
 |a::l,b::k=>x_ A d n a b&&uI A d n l k
 |_,_=>false
def r6 (A d n:Nat):List (Nat×V)->List (Nat×V)->Bool
 |[],[]=>true
 |(x,a)::l,(y,b)::k=>aU x y&&(x_ A d n a b&&r6 A d n l k)
 |_,_=>false
def Nt (A d n:Nat) (bC:Option O) (o:O):Bool:=match o with
 |.dead=>true
 |.inst C ao=>cq false (λo=>Bx o λbp gs=>aN (aU C bp) (r6 A d n ao gs)) bC
 |.dict e ao=>jg bC λbF gs=>aN (aU e bF) (r6 A d n ao gs)
 |.list xs=>fv bC λB=>uI A d n xs B
 |.tuple xs=>ic bC λB=>uI A d n xs B
 |_=>false
def EU (A d n:Nat) (o bC:Option O):Bool:=cq true (Nt A d n bC) o
def Nu {a b:Bool} (h:mm a b=true):a=b:=by cases a<;>cases b<;>first|rfl|cases h
def uJ {a b:Int} (h:Int.dt a b=true):a=b:=by
 cases a with
 |ofNat a=>cases b with
  |ofNat b=>exact congrArg _ (b3 h)
  |negSucc b=>cases h
 |negSucc a=>cases b with
  |ofNat b=>cases h
  |negSucc b=>exact congrArg _ (b3 h)
def EV {ar:Prop} {B d:Nat} {a b:V} (h:x_ B d n a b=true) (A:lA n a->b=ka (jA B d) a->ar):ar:=by
 cases a with
 |none=>obtain⟨rfl,_⟩:=w2' (show oi b true=true from h),h;exact A trivial rfl
 |bool p=>obtain⟨q,rfl,h⟩:=pT' (k:=λq=>mm p q) h;exact A trivial (by rw[Nu h];rfl)
 |int i=>obtain⟨q,rfl,h⟩:=eD' (k:=λj=>Int.dt i j) h;exact A trivial (by rw[uJ h];rfl)
 |str i=>obtain⟨q,rfl,h⟩:=jR' (k:=λj=>aU i j) h;exact A trivial (by rw[b3 h];rfl)
 |own i k=>
  obtain⟨j,l,rfl,h⟩:=cJ' (k:=λj l=>aN (dc i n) (aN (jz k (key i)) (aN (aU j (jA B d i)) (jz l (key j))))) h
  obtain⟨ae,h⟩:=an h
  obtain⟨ag,h⟩:=an h
  obtain⟨ax,aS⟩:=an h
  obtain rfl:=b3 ax,ax
  exact A ⟨ce ae,ET ag⟩ (by rw[ET aS];rfl)
 |gnd i=>obtain⟨q,rfl,h⟩:=wY' (k:=λj=>aU i j) h;exact A trivial (by rw[b3 h];rfl)
 |_=>cases h
def EW {B d:Nat}:∀{a b:List V},uI B d n a b=true->(∀v∈a,lA n v)/\b=a.map (ka (jA B d)):=by
 intro a
 induction a with
 |nil=>
  intro b h
  cases b with
  |nil=>exact⟨λZ h=>(nomatch h),rfl⟩
  |cons _ _=>cases h
 |cons a l C=>
  intro b h
  cases b with
  |nil=>cases h
  |cons b k=>
  obtain⟨ae,ag⟩:=an h
  obtain⟨D,rfl⟩:=EV ae
  clear ae
  obtain⟨E,rfl⟩:=C ag,ag
  exact⟨λv A=>by
   rcases bJ.mp A with rfl|A
   ·exact D
   ·exact E v A,rfl⟩
def EX {B d:Nat}:∀{a b:List (Nat×V)},r6 B d n a b=true->(∀q∈a,lA n q.2)/\b=a.map λq=>(q.1,ka (jA B d) q.2):=by
 intro a
 induction a with
 |nil=>
  intro b h
  cases b with
  |nil=>exact⟨λZ h=>(nomatch h),rfl⟩
  |cons _ _=>cases h
 |cons a l D=>
  intro b h
  cases b with
  |nil=>cases h
  |cons b k=>
  obtain⟨x,a⟩:=a
  obtain⟨y,b⟩:=b
  obtain⟨C,h⟩:=an h
  obtain⟨ae,ag⟩:=an h
  obtain rfl:=b3 C,C
  obtain⟨E,rfl⟩:=EV ae,ae
  obtain⟨F,rfl⟩:=D ag,ag
  exact⟨λv A=>by
   rcases bJ.mp A with rfl|A
   ·exact E
   ·exact F v A,rfl⟩
def Nv {B d:Nat} {o bC:Option O} (h:EU B d n o bC=true) {x:O} (D:o=some x):x=.dead∨∃y,bC=some y/\Seen (jA B d) n x y/\y.live=true:=by
 subst D
 cases x with
 |dead=>exact .inl rfl
 |inst C ao=>
  cases bC with
  |none=>cases h
  |some y=>
   cases y with
   |inst bp gs=>
    obtain⟨ae,ag⟩:=an (show aN (aU C bp) (r6 B d n ao gs)=true from h)
    clear h
    obtain rfl:=b3 ae,ae
    obtain⟨A,rfl⟩:=EX ag,ag
    exact .inr ⟨_,rfl,.inst A,rfl⟩
   |_=>cases h
 |dict e ao=>
  obtain⟨bF,gs,rfl,h⟩:=lj' (show jg bC _=true from h)
  obtain⟨ae,ag⟩:=an h
  clear h
  obtain rfl:=b3 ae,ae
  obtain⟨A,rfl⟩:=EX ag,ag
  exact .inr ⟨_,rfl,.dict A,rfl⟩
 |list xs=>
  obtain⟨E,rfl,h⟩:=gn' (show fv bC _=true from h)
  obtain⟨A,rfl⟩:=EW h,h
  exact .inr ⟨_,rfl,.list A,rfl⟩
 |tuple xs=>
  obtain⟨E,rfl,h⟩:=m8' (show ic bC _=true from h)
  obtain⟨A,rfl⟩:=EW h,h
  exact .inr ⟨_,rfl,.tuple A,rfl⟩
 |_=>cases h
def uK (d m:Nat) (t:T):T:=gg t (λj A=>T.put .dead (key (bK (bS j) d)) A) m
def Nw {d:Nat} {t:T} (af:i<4096):∀{m:Nat},m+d<4096->(uK d m t).get (key i)=if d<i/\i<=m+d then some .dead else t.get (key i):=by
 intro m
 induction m with
 |zero=>
  intro _
  have:¬(d<i/\i<=0+d):=λq=>nL d (cH q.1 (c5 q.2 (gz (Af d))))
  rw[if_neg this];rfl
 |succ m A=>
  intro h
  have A:=A (mO (qL (nO m) d) h)
  show(T.put .dead (key (m+1+d)) (uK d m t)).get (key i)=_
  rw[T.cd _ _ h af,A]
  by_cases e:i=m+1+d
  ·rw[if_pos e,if_pos ⟨cH (Nat.lt_add_of_pos_left (lU m)) (gz e.symm),gz e⟩]
  ·rw[if_neg e]
   by_cases q:d<i/\i<=m+d
   ·rw[if_pos q,if_pos ⟨q.1,c5 q.2 (qL (nO m) d)⟩]
   ·rw[if_neg q,if_neg λz=>q ⟨z.1,vM (cH (Nat.lt_of_le_of_ne z.2 e) (gz (Nat.succ_add m d)))⟩]
def uL (ab:aA) (A d:Nat):Bool:=dc A (bS d)&&(b2 (bK 61 d) 3000&&(dc (bK 61 d) ab.ay&&j4 61 λj=>EU A d 62 (T.get mC (key (bS j))) (bn ab (key (bK (bS j) d)))))
def ql (ab:aA) (A d c:Nat):aA:=aA.rec (λt n bz=>⟨T.put (.box (bK c 200)) (key A) (uK d 61 t),n,bz⟩) ab
def EY (v:V) (k:Bool):Bool:=V.rec false aL (λi=>iB (λn=>aN (b2 n 1) k) aL i) aL aL a1 aL a1 v
def r7 (ai:List V) (k:V->V->V->Bool):Bool:=bW false (λa l Z=>nv l λb d=>k a b d) ai
def ya (ai:List V) (ab:aA) (k:aY):Bool:=r7 ai λo w l=>cz o λB C=>cz w λA D=>EY l (j8 (bn ab C) λc=>aN (b2 c 700) (aN (b2 2 A) (aN (uL ab B (eu A 2)) (k (.bool true) (ql ab B (eu A 2) c)))))
abbrev b4.at (c:b4) (x y:Int):b4:={c with y:=y,n:=nm x y c.n}
def aZ.at (ah:aZ c f) {x y:Int} (A:y<=1000):aZ (c.at x y) f:=
 ⟨ah.X,ah.T,ah.iH,ah.depth,ah.units,ah.eC,ah.dp,ah.cj,ah.em,ah.kind,ah.locals,ah.globals,ah.builtins,ah.iI,ah.iJ,ah.lc,A,ah.me⟩
def ny:T:=T.put (.list [.sym 0,.sym 1]) (key 0) mC
def yb:aA:=⟨ny,62,key 62⟩
def uM (af:i<4096):ny.get (key i)=if i=0 then some (.list [.sym 0,.sym 1])else mC.get (key i):=T.cd _ _ (by lia) af
def oH (c:b4) (a:Nat):Prop:=∀(x y:Int) (v:V) (f:bL) (p:aX) (B:List am) (m:aI->Option am) (aj:bc) (s:a9) (E:am->a9->Prop),v=.int 0∨v=.int 1->0<=y->y<=1000->aZ (c.at x y) f->f.d<=10->Fr f.aC f.L s.heap m->News f.aC f.L s.heap aj->aQ c.K c.w p ny aj->dq p yb->
 s.gens=#[]->s.os=c.os->p.n=nm x y c.n->p.y=y->All2 (aE p) [.own 0 (key 0),gv,v] B->dH (aR c.prog c.w) f.A (.call (.ref a) ⟨B,[]⟩) (f2 (Kept (c.at x y) f p m h1) E) s
def Nx' (h:h1 v ab=true):v=.bool true/\∃n,bn ab (key 0)=some (.box n)/\n<=200:=by
 cases v with
 |bool b=>
  obtain⟨ae,ag⟩:=an h
  obtain⟨n,g,ax⟩:=nw' ag
  subst ae
  exact⟨rfl,n,g,ce ax⟩
 |_=>cases h
def uN' {ar:Prop} {ai:List V} {k:V->V->V->Bool} (h:r7 ai k=true) (A:∀a b d,ai=[a,b,d]->k a b d=true->ar):ar:=by
 cases ai with
 |nil=>cases h
 |cons a l=>
  obtain⟨b,d,rfl,h⟩:=oG' (k:=λb d=>k a b d) h
  exact A a b d rfl h
def Ny' {k:Bool} (h:EY v k=true):(v=.int 0∨v=.int 1)/\k=true:=by
 cases v with
 |int i=>cases i with
  |ofNat n=>
   obtain⟨ae,ag⟩:=an (show aN (b2 n 1) k=true from h)
   have ae:n<=1:=ce ae
   refine⟨?_,ag⟩
   rcases n with _|_|n
   ·exact .inl rfl
   ·exact .inr rfl
   ·lia
  |negSucc n=>cases h
 |_=>cases h
def Nz:gv=.own 2 (key 2):=by kernel_rfl
def NA:mC.get (key 0)=some (.box 0):=by kernel_rfl
def mD {A d:Nat} (h:0<i):jA A d i=i+d:=by
 cases i with
 |zero=>cases h
 |succ i=>rfl
def NB {ay A d c:Nat} (E:ay=ab.ay) (F:bn ab (key A)=some (.box c)) (h:uL ab A d=true) (G:A<ay):r5 ab.t ay (jA A d) 62 ny/\A<=d/\61+d<=3000:=by
 unfold uL at h
 obtain⟨ae,h⟩:=an h
 obtain⟨ag,h⟩:=an h
 obtain⟨ax,aS⟩:=an h
 have ae:A<d+1:=ce ae
 have ag:61+d<=3000:=ce ag
 have ax:61+d<ab.ay:=ce ax
 have aS:=rY aS
 subst E
 refine⟨⟨by lia,λi af=>?_,λi j af H e=>?_,by rw[uM (by lia),if_pos rfl],⟨c,F⟩,λi o B af k8=>?_⟩,by lia,ag⟩
 ·rcases pv i with rfl|B
  ·exact G
  ·rw[mD B];exact mO (qL (vM af) d) ax
 clear af H
 ·rcases pv i with rfl|C<;>rcases pv j with rfl|D
  ·rfl
  ·rw[mD D]at e;have e:A=j+d:=e;exact(G7 (c5 (lL D d) (gz ((Ay d j).trans e.symm))) ae).elim
  ·rw[mD C]at e;have e:i+d=A:=e;exact(G7 (c5 (lL C d) (gz ((Ay d i).trans e))) ae).elim
  ·rw[mD C,mD D]at e;exact Nat.add_right_cancel e
 ·obtain⟨j,rfl⟩:∃j,i=j+1:=⟨i-1,(HC B).symm⟩
  rw[uM (by lia),if_neg (by lia)]at k8
  have:=Nv (aS j (by lia)) k8
  rcases this with q|⟨y,aK,aW,bH⟩
  ·exact .inl q
  ·exact .inr ⟨y,aK,aW,bH⟩
def aQ.sub {t:T} {aj a3:bc} (H:aQ K w p t aj) (h:∀q∈aj,q∈a3) (a_:(a3.map (·.1)).Nodup):aQ K w p t a3:=
 ⟨a_,λi o af k8=>ch.ext (aX.bN.refl p) af (λq A Z=>h q A) (H.ent i o af k8),H.aa,H.dp,H.cG,λi af li=>by
  obtain⟨⟨a,b⟩,d,e⟩:=H.mem i af li
  exact⟨⟨a,h _ b⟩,d,h _ e⟩,H.small,λq A=>h q (H.a6 q A),H.eB⟩
def yc (ai:List V) (ab:aA) (k:aY):Bool:=kE ai λo=>cz o λZ aB=>um (bn ab aB) λq=>aN (aU q 0) (mk (.box 0) ab k)
def jB:aA:=⟨T.put (.abs 0) (key 0) .nil,1,key 1⟩
def NC (v:V) (ab:aA):Bool:=cz v λZ aB=>fv (bn ab aB) λxs=>nv xs λa b=>aN (jV a (λZ=>true) true) (vInt b λj=>Int.dt j 0)
def ND (x:V->aA->Bool):c7 cg r4 1162 [.own 0 (key 0)] jB NC x=true:=by kernel_rfl
def uO:(T.put (.abs 0) (key 0) .nil).get (key 0)=some (.abs 0):=by rw[T.cd _ _ (by lia) (by lia),if_pos rfl]
def NE (a0:jf c aw cg) (T:c.y=0) {xs:List V} {O:List am} {loc:Loc} {k:aY} (ah:aZ c f) (hd:f.d<=10) (h:yc xs ab k=true) (S:ba c f p ab loc s) (N:All2 (aE p) xs O):
  dH (aR c.prog c.w) f.A (.call (.ref 1162) ⟨O,[]⟩) (f2 (cb c f p loc k) E) s:=by
 obtain⟨o,rfl,h⟩:=mu' h
 obtain⟨i,aB,rfl,h⟩:=cJ' h
 obtain⟨q,P,h⟩:=xN' h
 obtain⟨B,U⟩:=an h
 obtain rfl:=b3 B
 obtain⟨hs,W⟩:=mk_eq U
 obtain⟨m,aj,F,ak,H,X⟩:=S.ex
 cases N with
 |cons v1 N=>
 cases N with
 |nil=>
 obtain⟨af,rfl,rfl⟩:=v1
 dsimp only[bP]at P
 obtain⟨l,Y,g⟩:=H.ent i _ af P
 let aa:aX:=nx p p.n p.y (λZ=>i) 1 aj
 have J:∀j,j<1->¬bG jB.t j:=λj I al=>by
  obtain⟨o,ae,ag⟩:=al
  obtain rfl:j=0:=by lia
  rw[show jB.t.get (key 0)=some (.abs 0)from uO]at ae
  cases ae;cases ag
 have ao:aQ c.K c.w aa jB.t aj:=by
  refine⟨H.a_,λj o I k8=>?_,λa b C L D=>absurd D (J a C),λa b C L D=>absurd D (J a C),λa b C L D=>absurd D (J a C),λa C D=>absurd D (J a C),by show 1<=4096;lia,λq B=>B,λa C D=>absurd D (J a C)⟩
  have I:j<1:=I
  obtain rfl:j=0:=by lia
  rw[show jB.t.get (key 0)=some (.abs 0)from uO]at k8
  cases k8
  exact⟨l,λq B=>H.a6 q (Y q B),g⟩
 refine hp (x8 (aw:=aw) (x:=b1) (E:=E) a0 (d:=250) (by lia) (EJ (d:=260)) ah (by lia) (ND b1) F ak ao ⟨rfl,rfl⟩ S.gens S.os S.n S.y (aw.no _ _ _) (.cons ⟨by show 0<1;lia,rfl,rfl⟩ .nil)) λr aq z=>?_
 rcases r with e|(_|_|_|v)
 ·exact z
 ·exact z
 ·exact z
 ·exact z
 ·obtain⟨⟨aD,aF,u,a3,bF,ar,as,au,M,aK,G⟩,gs,os⟩:=z
  obtain⟨j,aL,rfl,G⟩:=cJ' G
  obtain⟨aM,g2,G⟩:=gn' G
  obtain⟨a,b,rfl,G⟩:=oG' G
  obtain⟨av,ax⟩:=an G
  obtain⟨az,rfl,aA⟩:=eD' ax
  obtain rfl:az=0:=uJ aA
  obtain⟨I,rfl,rfl⟩:=ar
  dsimp only[bP]at g2
  obtain⟨ai,n,hm,Q⟩:=M.ent j _ I g2
  have fr:∀q∈aj,q.1≠aD.a j:=λq B=>(M.eB j I ⟨_,g2,rfl⟩ q (bF.a6 q B)).1
  clear g2
  have sub:∀q∈aj,q∈a3:=λq B=>M.a6 q (bF.a6 q B)
  have L:∃(x:Int) (t u:Tok),ai=[.int x t,.int 0 u]:=by
   clear hm
   cases Q with
   |cons R t1=>
    cases t1 with
    |cons aC b8=>
     cases b8
     obtain⟨u,rfl⟩:=aC
     rcases mn' av with⟨i,rfl,_⟩|⟨i,rfl,_⟩
     ·obtain⟨t,rfl⟩:=R;exact⟨_,t,u,rfl⟩
     ·obtain⟨x,t,rfl,_⟩:=R;exact⟨x,t,u,rfl⟩
  clear Q
  obtain⟨jy,t0,aG,rfl⟩:=L
  have ap:∀i,i<p.ay->bG ab.t i->p.a i≠aD.a j/\p.b i≠aD.a j:=λi af li=>by
   obtain⟨⟨o,aH⟩,bC,aI⟩:=H.mem i af li
   exact⟨fr _ aH,fr _ aI⟩
  have aN:p.y=0:=S.y.trans T
  have aJ:=aQ.tl (x:=aD.a j) (y:=aD.a j) (e:=0) (v:=.box 0) (H.sub sub M.a_) S.z hs ⟨⟨_,hm⟩,_,hm⟩ ap ap (λq B=>⟨fr q (H.a6 q B),fr q (H.a6 q B)⟩) ⟨jy,0,t0,aG,n,by rw[fj];exact hm,by lia,by show(0:Int)<=p.y+((0:Nat):Int);lia⟩
  exact⟨p.more (aD.a j) (aD.a j),_,.own ab.ay ab.bz,p.eZ _ _,aX.ib S.z,⟨⟨m,a3,as,au,aJ,X.ext (p.eZ _ _)⟩,gs,os,S.z.more hs _ _ _,S.n,S.y⟩,W⟩
def EZ (P:bR):(fZ (KF P) (.ref 849)&&(j7 (KF P) (S "Raised") (.ref 849)&&(j7 (KF P) (S "int") (.type "int")&&j7 (KF P) (S "len") (.builtin "len"))))=true:=by kernel_rfl
def NF:((bf (S "Raised"),aG (S "Raised")),(bf (S "int"),aG (S "int")),(bf (S "len"),aG (S "len")))=((true,2878389171045),(true,1751029),(true,1799023)):=by kernel_rfl
structure Std (c:b4):Prop where
 K:c.K=KF c.w.params
 jt:r1 c
def Std.at (h:Std c) (x y:Int):Std (c.at x y):=⟨h.K,h.jt⟩
def Std.uA (h:Std c):p9 c (b6 c 849) (qg 1751029 1799023) (ur 2878389171045):=by
 have ah:=EZ c.w.params
 rw[<-h.K]at ah
 simp only[ed]at ah
 obtain⟨A,B,C,D⟩:=ah
 have he:=NF
 injection he with e1 e
 injection e with e2 e3
 injection e1 with E F
 injection e2 with cW d1
 injection e3 with c_ fs
 refine Mf (Nc h.K) A (λx k8 q=>?_) (λx k8 q=>?_) (λx k8 q=>?_) h.jt
 ·obtain rfl:=gW E k8 (F.trans q.symm);exact jx B
 ·obtain rfl:=gW cW k8 (d1.trans q.symm);exact jx C
 ·obtain rfl:=gW c_ k8 (fs.trans q.symm);exact jx D
def Std.a0 (h:Std c):jf c (b6 c 849) cg:=Mn h.K h.uA (x2 h.K)
def Std.rc (h:Std c) {g:bL} (A:aZ c g) (ae:g.d+9<=g.b) (ag:g.b<=260):hE c (b6 c 849) cp g:=DP h.uA (x2 h.K) 40 8 g A (by lia) ag
def uP {aj:bc} {x y:Int} {l:Lt} (H:aQ K w p ny aj) (M:p.ay=62) (A:p.n=nm x y l) (C:0<=y) (D:p.y=y):aQ K w p mC aj:=by
 have af:0<p.ay:=by lia
 have g:ny.get (key 0)=some (.list [.sym 0,.sym 1]):=by rw[uM (by lia),if_pos rfl]
 obtain⟨ai,n,hm,E⟩:=H.ent 0 _ af g
 have F:ch K w p aj 0 (.box 0):=by
  cases E with
  |cons G t1=>
   obtain⟨I,t,rfl,_⟩:=G
   cases t1 with
   |cons J b8=>
    obtain⟨B,u,rfl,cx⟩:=J
    cases b8
    have e:B=y:=((cx 1).1 rfl).trans (by rw[A];show(if(1:Nat)=0 then x else y)=y;exact if_neg (by decide))
    clear A
    subst e
    exact⟨I,B,t,u,n,hm,C,by rw[D];lia⟩
 refine(H.named af ⟨_,g,rfl⟩ F).congr λi L=>?_
 rw[T.cd _ _ (by lia) (by lia)]
 by_cases q:i=0
 clear L
 ·subst q;rw[if_pos rfl,NA]
 ·rw[if_neg q,uM (by lia),if_neg q]
abbrev bL.k8 (f:bL) (h:bE):bL:={f with aC:=h}
inductive E0 (f1:aI->Option am) (base:bE):Prop
 |mk bm bU (ae:f1 "__builtins__"=some (.ref bm)) (ag:bm≠vS) (ax:bm≠iX) (aS:base.get? bm=some bU) (bA:bU.cls=.type "module") (cw:bU.dict=some vS) (cM:bU.data=.plain):E0 f1 base
structure gw (c:b4):Prop where
 X:c.K.In c.base
 T:pd c.pr c.loose c.f1 c.ku c.base
 sys:∃o,c.base.get? iY=some o
 bm:E0 c.f1 c.base
def aZ.ground {b7:List cI} {eK:hN} {bq:bE} (B:gw c) (ah:aZ c f) (D:f.ao=f.env::b7) (E:f.env.frame=some f.L) (F:f.A.frames=some f.ao) (C:fp eK c.base b7 bq):aZ c (f.k8 bq):=by
 obtain⟨sc,env,L,aC,ao,A,d,b⟩:=f
 dsimp only at D E F⊢
 subst D
 exact⟨B.X.keeps C.stays,B.T.keeps C.stays,tn C F E ah.kind,ah.depth,ah.units,ah.eC,ah.dp,ah.cj,ah.em,ah.kind,ah.locals,ah.globals,ah.builtins,ah.iI,ah.iJ,B.sys.elim λo h=>⟨o,C.stays _ _ h⟩,ah.kv,ah.me⟩
section
variable {aj:bc} {Q:am->a9->Prop} {params:sJ} {body:aM} {bv:bB} {pos:bO} {b0 P:a7} {ps:Array am} {gL:List (aI×a7)}
def E1 (B:gw c) (st:c.base.StaysIn f.aC) (F:Fr f.aC f.L s.heap m) (G:s.heap.get? P=some (dw ps)):s.heap.BuiltinsAt c.f1 P:=by
 obtain⟨bm,bU,cW,d1,fk,A,C,D,E⟩:=B.bm
 have e:=F.keep _ _ (st _ _ A)
 clear A
 exact⟨bm,bU,cW,d1,fk,(λq=>by clear D E;rw[q,G]at e;cases e;cases C),e,C,D,E⟩
def NG (B:gw c) (ah:aZ c f) (st:c.base.StaysIn f.aC) (F:Fr f.aC f.L s.heap m) (ak:News f.aC f.L s.heap aj) (S:f.env.code=.ref b0) (C:lX s.heap b0 P) (G:s.heap.get? P=some (dw ps)) (J:f.aC.get? P=none) (U:∀q∈aj,q.1≠P)
  (V:TriplesOk ps.toList) (W:codeAmong pos ps.toList=none) (X:s6 bv f.env=pure gL) (r8:defaultsOf params f.env=([],[]))
  (h:∀fn c1 cR ai t H av bo,cR.data=.fields ai->ai[1]?=some (.str (f.env.qual++"<lambda>") t)->Fr f.aC f.L av m->News f.aC f.L av ((P,dw (ps++#[ee pos.line,ee pos.col,.ref c1]))::(c1,cR)::aj)->(∀b o,s.heap.get? b=some o->b<c1)->c1<fn->
   av.get? fn=some (pu "<lambda>" (f.env.qual++"<lambda>") params body bv gL ((c.f1 "__name__").getD .none) c1 H)->
   (∀b o,b≠P->s.heap.get? b=some o->av.get? b=some o)->Q (.ref fn) {s with heap:=av,toks:=bo}):
  aO (aR c.prog c.w) f.A (dP (.Lambda params body bv pos) f.env) Q E s:=by
 have K:=ah.T.g.keeps F.keep
 have Y:iX≠P:=λq=>by
  obtain⟨o,es,az,e,hd,_⟩:=K
  rw[q,G]at e;cases e;cases hd
 have M:P≠f.L:=λq=>by
  obtain⟨o,es,az,e,hd,_⟩:=F.ns
  rw[<-q,G]at e;cases e;cases hd
 refine kla_eval r8 (kla_makeFunction (mg:=c.f1) X ah.globals K S C G V W Y (E1 B st F G) λc1 H av bo N O a d i=>?_)
 obtain⟨p,cR,ai,t,e2,j,hd,k⟩:=d
 cases e2
 have I:∀b o,b≠P->s.heap.get? b=some o->(av.push (pu "<lambda>" (f.env.qual++"<lambda>") params body bv gL ((c.f1 "__name__").getD .none) c1 H)).get? b=some o:=λb o n e=>fO _ (N b o n e)
 have lt:∀b o,s.heap.get? b=some o->b<c1:=λb o e=>cH (dX e) O
 have R:f.L<c1:=cH F.ns.lt O
 have fresh:∀b,f.L<b->f.aC.get? b=none:=λb l=>bE.get?_none_of_le (c5 F.above (vK l))
 refine h av.objs.size c1 cR ai t H _ bo hd k ⟨(F.ns.extBut N M.symm).push _,λb o e=>I b o (λq=>by rw[q,J]at e;cases e) (F.keep b o e),F.above⟩ (λq D=>?_) lt a (k6 _ rfl) I
 rcases bJ.mp D with rfl|D
 ·exact⟨fO _ i,M,J⟩
 ·rcases bJ.mp D with rfl|D
  ·exact⟨fO _ j,lO R,fresh _ R⟩
  ·have n:=ak q D
   exact⟨I _ _ (U q D) n.1,n.2⟩
def NH {c1:a7} (B:gw c) (ah:aZ c f) (st:c.base.StaysIn f.aC) (F:Fr f.aC f.L s.heap m) (ak:News f.aC f.L s.heap aj) (J:f.env.code=.ref b0) (C:lX s.heap b0 P) (H:s.heap.get? P=some (dw ps))
  (K:TriplesOk ps.toList) (M:codeAmong pos ps.toList=some (.ref c1)) (N:s6 bv f.env=pure gL) (r8:defaultsOf params f.env=([],[]))
  (h:∀fn D av bo,Fr f.aC f.L av m->News f.aC f.L av aj->(∀b o,s.heap.get? b=some o->b<fn)->
   av.get? fn=some (pu "<lambda>" (f.env.qual++"<lambda>") params body bv gL ((c.f1 "__name__").getD .none) c1 D)->
   (∀b o,s.heap.get? b=some o->av.get? b=some o)->Q (.ref fn) {s with heap:=av,toks:=bo}):
  aO (aR c.prog c.w) f.A (dP (.Lambda params body bv pos) f.env) Q E s:=by
 have O:=ah.T.g.keeps F.keep
 refine kla_eval r8 (kla_makeFunctionHit (mg:=c.f1) N ah.globals O J C H K M (E1 B st F H) λD av bo R S=>?_)
 have G:∀b o,s.heap.get? b=some o->(av.push (pu "<lambda>" (f.env.qual++"<lambda>") params body bv gL ((c.f1 "__name__").getD .none) c1 D)).get? b=some o:=λb o e=>fO _ (R b o e)
 exact h av.objs.size D _ bo ⟨F.ns.keeps G,λb o e=>G b o (F.keep b o e),F.above⟩ (λq I=>⟨G _ _ (ak q I).1,(ak q I).2⟩) (λb o e=>cH (dX e) S) (k6 _ rfl) G
end
abbrev aX.plus (p:aX) (new:bc):aX:={p with a6:=new++p.a6}
def aX.mE (p:aX) (new:bc):p.bN (p.plus new):=⟨rfl,rfl,eh _,λZ Z=>rfl,λZ Z=>rfl,λZ Z=>rfl,λZ h=>dD _ h⟩
def aQ.plus {t:T} {aj new:bc} (H:aQ K w p t aj) (B:∀q∈new,∀r∈aj,q.1≠r.1) (a_:(new.map (·.1)).Nodup):aQ K w (p.plus new) t (new++aj):=by
 refine⟨?_,λi o af k8=>ch.ext (p.mE new) af (λq A Z=>dD _ A) (H.ent i o af k8),H.aa,H.dp,H.cG,λi af li=>?_,H.small,λq A=>?_,λi af li q A=>?_⟩
 ·rw[nN,pb]
  refine⟨a_,H.a_,λa C b D e=>?_⟩
  obtain⟨q,A,rfl⟩:=ey.mp C,C
  obtain⟨r,E,rfl⟩:=ey.mp D,D
  exact B q A r E e
 ·obtain⟨⟨o,ae⟩,bC,ag⟩:=H.mem i af li
  exact⟨⟨o,dD _ ae⟩,bC,dD _ ag⟩
 ·rcases gA.mp A with A|A
  ·exact gS _ A
  ·exact dD _ (H.a6 q A)
 ·rcases gA.mp A with A|A
  ·obtain⟨⟨o,ae⟩,bC,ag⟩:=H.mem i af li
   exact⟨B q A _ ae,B q A _ ag⟩
  ·exact H.eB i af li q A
def dq.plus (z:dq p ab) (new:bc):dq (p.plus new) ab:=⟨z.ay,z.bz⟩
def yd {aC h:bE} {L P:a7} (F:Fr aC L h m):Fr (aC.hide P) L h m:=⟨F.ns,λb o e=>F.keep b o (Az e),c5 (gz (HD _ _)) F.above⟩
def NI {h:bE} {P b:a7} (e:h.get? b=none):(h.hide P).get? b=none:=by
 cases q:(h.hide P).get? b with
 |none=>rfl
 |some o=>rw[Az q]at e;cases e
def ye {aC h:bE} {L P:a7} {aj:bc} (ak:News aC L h aj):News (aC.hide P) L h aj:=λq A=>⟨(ak q A).1,(ak q A).2.1,NI (ak q A).2.2⟩
inductive lB (p:aX) (P:a7) (pos:bO) (qual:aI):Prop
 |mk (ps:Array am) (c1:a7) (cR:bY) (ai:Array am) (t:Tok) (ae:(P,dw ps)∈p.a6) (ag:TriplesOk ps.toList) (ax:codeAmong pos ps.toList=some (.ref c1)) (aS:(c1,cR)∈p.a6) (bA:cR.data=.fields ai/\ai[1]?=some (.str qual t)):lB p P pos qual
def lB.ext {aD:aX} {P:a7} {pos:bO} {qual:aI} (e:p.bN aD) (h:lB p P pos qual):lB aD P pos qual:=by
 obtain⟨ps,c1,cR,ai,t,ae,ag,ax,aS,bA⟩:=h
 exact⟨ps,c1,cR,ai,t,e.a6 _ ae,ag,ax,e.a6 _ aS,bA⟩
def kR (sc bv:bB):Bool:=bv.kind==.function&&!bv.isCoroutine&&!bv.isGenerator&&(bv.names.all λx=>!(x.2==.cell))&&(bv.names.lookup (ec "__debug__")).isNone&&(bv.names.lookup (ec "__classdict__")).isNone&&
 (freeOf bv).all λx=>bf x&&ep bv x .free&&(ep sc x .cell||ep sc x .free)
def yf {bv:bB} {x:aI}:x∈freeOf bv↔(x,f0)∈bv.names:=by
 unfold freeOf
 rw[ey]
 constructor
 ·rintro ⟨⟨y,k⟩,ae,rfl⟩
  rw[lW]at ae
  have ag:k=.free:=beq_iff_eq.mp ae.2
  subst ag
  exact ae.1
 ·exactλh=>⟨_,lW.mpr ⟨h,rfl⟩,rfl⟩
def lC (ao:List Nat) (aV:aT) (cl:b5) (pre:Nat) (aB:Nat->aA->Bool) (ab:aA) (loc:Loc):Bool:=pickK ao loc [] λA=>aV ab A (λZ Z=>false) ⟨cl,uk pre aB⟩
section
variable {C ar:Nat} {du:c9} {b7:List cI} {eK:hN} {aj:bc} {loc:Loc} {fT dU ex pre eM:aI} {aK gr dr:bO} {c2:aM} {bv:bB} {b0 P:a7}
 {aV:aT} {cl:b5} {aB:Nat->aA->Bool} {E Q:am->a9->Prop}
abbrev noArgs:sJ:={posonlyargs:=[],args:=[],vararg:=none,kwonlyargs:=[],kw_defaults:=[],kwarg:=none,defaults:=[]}
structure qm (c:b4) (C ar:Nat) (du:c9) (fT dU ex pre eM:aI) (f:bL) (b7:List cI) (eK:hN) (bv:bB) (c2:aM) (aV:aT) (cl:b5):Prop where
 B:gw c
 hb:qd c C ar du
 fU:rV c C du fT dU ex pre
 qn:fZ c.K (.ref du.addr)=true
 ah:aZ c f
 cD:f.d+40<=300
 iP:fp eK c.base b7 f.aC
 xM:∀b∈fJ f.ao,b=f.L∨b∈fJ b7
 qe:∀bq,fp eK c.base b7 bq->aZ c (f.k8 bq)
 hle:f.sc.names.lookup eM=some .globalImplicit
 qo:d7 c eM (.ref du.addr)
 lam:kR f.sc bv=true
 nz:∀qp,aZ c qp->qp.sc=bv->qp.d+9<=qp.b->qp.b<=f.d+30->a8 c (b6 c C) aV qp c2
 cl:df c (b6 c C) (f.d+30) cl
def E2 (a:qm c C ar du fT dU ex pre eM f b7 eK bv c2 aV cl) (F:Fr f.aC f.L s.heap m) (ak:News f.aC f.L s.heap aj) (H:aQ c.K c.w p ab.t aj) (z:dq p ab) (gs:s.gens=#[]) (os:s.os=c.os) (P:p.n=c.n) (R:p.y=c.y) (S:db f p loc m)
  {U J:aI} {gL:List (aI×a7)} (M:∀x,(x,f0)∈bv.names->gL.lookup x=f.env.cells.lookup x) {fn c1:a7} {pm V:am} (W:s.heap.get? fn=some (pu U J noArgs c2 bv gL pm c1 V)) (Y:s.heap.CodeRec (.ref c1) J)
  (b:lC ((freeOf bv).map aG) aV cl (aG pre) aB ab loc=true)
  (d:∀di bq aq,rW c f b7 s m aj p aB di aq bq->Q di aq):aO (aR c.prog c.w) f.A (call (.ref du.addr) [.ref fn] []) Q E s:=by
 have G:=a.lam
 unfold kR at G
 simp only[ed,wb,beq_iff_eq]at G
 obtain⟨⟨⟨⟨⟨⟨l1,l2⟩,l3⟩,l4⟩,l5⟩,l6⟩,l7⟩:=G
 have I:∀x∈freeOf bv,bf x=true/\bv.names.lookup x=some .free/\(f.sc.names.lookup x=some .cell∨f.sc.names.lookup x=some .free):=λx D=>by
  have:=eU.mp l7 x D
  simp only[ed,s0]at this
  exact⟨this.1.1,fd this.1.2,this.2.imp fd fd⟩
 obtain⟨l,N,g,j⟩:=xm S (freeOf bv) [] (λx D=>⟨(I x D).1,(I x D).2.2⟩) b
 rw[k1]at N
 refine nP (hp (L5 (b7:=b7) a.hb a.fU a.B.X a.B.T a.ah a.cD a.iP a.xM a.qe F ak H z gs os P R W Y (by rfl) l1 l2 l3 (λx D=>?_) (s7.mp l5) (s7.mp l6) (λx D=>?_)
  (rX:=l.map λq=>(aG q.1,q.2)) (λae hX af e1 e2 e3=>t8 l λq k=>?_) a.nz a.cl N) λr aq ⟨di,bq,e,h⟩=>?_)
 ·have:=eU.mp l4 x D
  intro q
  rw[q]at this;cases this
 ·have hm:=iK D
  rw[M x hm]
  exact j x (yf.mpr hm)
 ·obtain⟨O,i,o,ad,u,v,aa⟩:=g q k
  obtain⟨o1,o2,o3⟩:=I _ O
  exact⟨o1,.inr (by rw[e1];exact o2),i,o,ad,u,v.ext e3,by rw[e2,M _ (yf.mp O)];exact aa⟩
 ·subst e
  exact d di bq aq h
def E3 {ar:Prop} (ah:aZ c f) (A:kR f.sc bv=true) (B:∀cl,s6 bv f.env=pure cl->(∀x,(x,f0)∈bv.names->cl.lookup x=f.env.cells.lookup x)->ar):ar:=by
 unfold kR at A
 simp only[ed,wb,beq_iff_eq]at A
 obtain⟨_,l7⟩:=A
 obtain⟨cl,e1,e2,_⟩:=Dh (scope:=bv) (env:=f.env) λx C=>ah.me x (by
  have:=eU.mp l7 x (yf.mpr C)
  simp only[ed,s0]at this
  exact this.2.imp fd fd)
 exact B cl e1 e2
def E4 (a:qm c C ar du fT dU ex pre eM f b7 eK bv c2 aV cl) (F:Fr f.aC f.L s.heap m) (ak:News f.aC f.L s.heap aj) (H:aQ c.K c.w p ab.t aj) (z:dq p ab) (gs:s.gens=#[]) (os:s.os=c.os) (S:p.n=c.n) (T:p.y=c.y) (U:db f p loc m)
  (V:f.env.code=.ref b0) (c3:lX s.heap b0 P) (G:s.heap.get? P=some (dw #[])) (W:f.aC.get? P=none) (I:∀q∈aj,q.1≠P)
  (ns:noStar [.Lambda noArgs c2 bv dr]=true) (Y:lC ((freeOf bv).map aG) aV cl (aG pre) aB ab loc=true)
  (d:∀di bq aq J bt g,p.bN bt->lB bt P dr (f.env.qual++"<lambda>")->(∀b o,b≠P->s.heap.get? b=some o->J.heap.get? b=some o)->rW c f b7 J m g bt aB di aq bq->Q di aq):
  aO (aR c.prog c.w) f.A (dP (.Call (.Name eM aK) [.Lambda noArgs c2 bv dr] [] gr) f.env) Q E s:=by
 obtain⟨x,e1⟩:=mo ns
 have st:=a.iP.stays
 obtain⟨gL,i,j⟩:=E3 a.ah a.lam
 rw[na rfl]
 refine aP (ml a.ah a.hle a.qo F ?_)
 refine jY (ln a.qn) ns (a.ah.X.keeps F.keep) ?_
 rw[e1 f.env]
 refine qU ?_
 show aO _ _ (dP (.Lambda noArgs c2 bv dr) f.env) _ _ _
 refine NG (params:=noArgs) (body:=c2) (bv:=bv) (pos:=dr) a.B a.ah st F ak V c3 G W I trivial rfl i rfl λfn c1 cR ai t aa av bo hd M N O lt ae k8 k=>vW ?_
 have l:∀q∈aj,q.1<c1:=λq D=>lt _ _ (ak q D).1
 have u:P<c1:=lt _ _ G
 have v:aQ c.K c.w (p.plus [(P,dw (#[]++#[ee dr.line,ee dr.col,.ref c1])),(c1,cR)]) ab.t ([(P,dw (#[]++#[ee dr.line,ee dr.col,.ref c1])),(c1,cR)]++aj):=aQ.plus H (λq D r R=>by
   rcases bJ.mp D with rfl|D
   ·exact(I r R).symm
   ·rw[h7.mp D]
    exact lO (l r R)) (by
   show [P,c1].Nodup
   simp[dS u])
 refine⟨a.ah.X.keeps N.keep,E2 (s:={s with heap:=av,toks:=bo}) a N O v (z.plus _) gs os S T (U.ext (p.mE _)) j k8 ⟨_,cR,ai,t,rfl,(O (c1,cR) (.tail _ (.head _))).1,hd,M⟩ Y λdi bq aq h=>d di bq aq _ _ _ (p.mE _) ?_ (λb o n e=>k b o n e) h⟩
 refine⟨_,c1,cR,ai,t,.head _,TriplesOk_snoc dr.line dr.col (.ref c1) [] trivial,?_,.tail _ (.head _),hd,M⟩
 exact codeAmong_snoc (pos:=dr) (c:=.ref c1) [] trivial rfl
def NJ (a:qm c C ar du fT dU ex pre eM f b7 eK bv c2 aV cl) (F:Fr f.aC f.L s.heap m) (ak:News f.aC f.L s.heap aj) (H:aQ c.K c.w p ab.t aj) (z:dq p ab) (gs:s.gens=#[]) (os:s.os=c.os) (J:p.n=c.n) (M:p.y=c.y) (N:db f p loc m)
  (O:f.env.code=.ref b0) (c3:lX s.heap b0 P) (gq:lB p P dr (f.env.qual++"<lambda>"))
  (ns:noStar [.Lambda noArgs c2 bv dr]=true) (R:lC ((freeOf bv).map aG) aV cl (aG pre) aB ab loc=true)
  (S:∀di bq aq D,(∀b o,s.heap.get? b=some o->D.heap.get? b=some o)->rW c f b7 D m aj p aB di aq bq->Q di aq):
  aO (aR c.prog c.w) f.A (dP (.Call (.Name eM aK) [.Lambda noArgs c2 bv dr] [] gr) f.env) Q E s:=by
 obtain⟨d,e1⟩:=mo ns
 have st:=a.iP.stays
 obtain⟨gL,T,U⟩:=E3 a.ah a.lam
 obtain⟨ps,c1,cR,ai,t,t1,b8,fg,fL,V,W⟩:=gq
 rw[na rfl]
 refine aP (ml a.ah a.hle a.qo F ?_)
 refine jY (ln a.qn) ns (a.ah.X.keeps F.keep) ?_
 rw[e1 f.env]
 refine qU ?_
 show aO _ _ (dP (.Lambda noArgs c2 bv dr) f.env) _ _ _
 refine NH (params:=noArgs) (body:=c2) (bv:=bv) (pos:=dr) a.B a.ah st F ak O c3 (ak _ (H.a6 _ t1)).1 b8 fg T rfl λfn g av bo G I lt k8 Y=>vW ?_
 exact⟨a.ah.X.keeps G.keep,E2 (s:={s with heap:=av,toks:=bo}) a G I H z gs os J M N U k8 ⟨_,cR,ai,t,rfl,(I (c1,cR) (H.a6 _ fL)).1,V,W⟩ R λdi bq aq h=>S di bq aq _ (λb o e=>Y b o e) h⟩
end
def E5 (A:c.K=KF c.w.params):qd c 849 829 i1176:=by
 refine⟨by rw[A];exact EG _,?_,by rw[A];kernel_rfl,by rw[A];kernel_rfl,by rw[A];kernel_rfl,by rw[A];kernel_rfl,by rw[A];exact M8 _,M9⟩
 rw[A]
 exact⟨S "Raised",S "Raised",848,[.ref 829],[],[],false,none,none,some (r 833),none,some (ai "Raised" 1401),some (ai "Raised" 1409),some (.bool true),by kernel_rfl⟩
def E6 (A:c.K=KF c.w.params):rV c 849 i1176 (S "act") (S "Raised") (S "e") (S "error "):=by
 have ah:=EZ c.w.params
 rw[<-A]at ah
 simp only[ed]at ah
 refine⟨by kernel_rfl,by kernel_rfl,by kernel_rfl,jx ah.2.1,by kernel_rfl,by kernel_rfl,⟨820,4,821,44⟩,⟨820,11,820,17⟩,⟨821,15,821,23⟩,⟨821,26,821,27⟩,⟨821,26,821,33⟩,⟨821,26,821,39⟩,⟨821,26,821,44⟩,⟨821,15,821,44⟩,⟨821,8,821,44⟩,⟨819,15,819,18⟩,⟨819,15,819,20⟩,⟨819,8,819,20⟩,⟨818,4,821,44⟩,0,by kernel_rfl⟩
def E7 (A:c.K=KF c.w.params):d7 c (S "_law_error") (.ref 1176)/\fZ c.K (.ref 1176)=true:=by
 have h:(j7 (KF c.w.params) (S "_law_error") (.ref 1176)&&fZ (KF c.w.params) (.ref 1176))=true:=by kernel_rfl
 rw[<-A]at h
 obtain⟨ae,ag⟩:=an h
 exact⟨jx ae,ag⟩
def E8 (d:Data) (k:Array am->Bool):Bool:=match d with
 |.fields ai=>k ai
 |_=>false
def NK' {d:Data} {k:Array am->Bool} (h:E8 d k=true):∃ai,d=.fields ai/\k ai=true:=by
 cases d<;>first|exact⟨_,rfl,h⟩|cases h
def E9:am->Bool
 |.str _ _=>true
 |_=>false
def yg:am->Bool
 |.int _ _=>true
 |_=>false
def E_:am->Bool
 |.bool _=>true
 |_=>false
def NL' {v:am} (h:E9 v=true):∃a b,v=.str a b:=by
 cases v<;>first|exact⟨_,_,rfl⟩|cases h
def Fa' {v:am} (h:yg v=true):∃a b,v=.int a b:=by
 cases v<;>first|exact⟨_,_,rfl⟩|cases h
def NM' {v:am} (h:E_ v=true):∃a,v=.bool a:=by
 cases v<;>first|exact⟨_,rfl⟩|cases h
def qq (K:dn) (c P:Nat):Bool:=match K.lookup c with
 |some o=>(o.cls==.type "code")&&E8 o.data λai=>(ai[11]?==some (.ref P))&&((ai.getD 11 .none==.ref P)&&(E9 (ai.getD 18 .none)&&(yg (ai.getD 7 .none)&&(E_ (ai.getD 9 .none)&&(yg (ai.getD 10 .none)&&!(aU c P))))))
 |none=>false
def uQ {h:bE} {c P:Nat} (X:K.In h) (e:qq K c P=true):lX h c P:=by
 unfold qq at e
 cases A:K.lookup c with
 |none=>rw[A]at e;cases e
 |some o=>
  rw[A]at e
  obtain⟨B,e⟩:=an e
  obtain⟨ai,hd,e⟩:=NK' e
  obtain⟨ae,e⟩:=an e
  obtain⟨ag,e⟩:=an e
  obtain⟨ax,e⟩:=an e
  obtain⟨aS,e⟩:=an e
  obtain⟨bA,e⟩:=an e
  obtain⟨cw,e⟩:=an e
  obtain⟨a,b,dg⟩:=NL' ax
  obtain⟨C,D,ik⟩:=Fa' aS
  obtain⟨E,lq⟩:=NM' bA
  obtain⟨F,fk,ot⟩:=Fa' cw
  exact⟨_,ai,_,_,_,_,_,_,_,X _ _ A,beq_iff_eq.mp B,hd,beq_iff_eq.mp ae,beq_iff_eq.mp ag,dg,ik,lq,ot,λq=>by rw[q,s_]at e;cases e⟩
def Fb (P:bR):qq (KF P) 1201 1199=true:=by kernel_rfl
def Fc (P:bR):qq (KF P) 1221 1219=true:=by kernel_rfl
def pG (ej:Option a7) (h:bE):bE:=match ej with
 |none=>h
 |some P=>h.hide P
inductive Fd (c:b4) (f:bL) (ej:Option a7) (p:aX) (m:aI->Option am) (k:aY) (v:am) (aq:a9):Prop
 |mk aD aF w a3 (ae:p.bN aD) (ag:aE aD w v) (ax:Fr (pG ej f.aC) f.L aq.heap m) (aS:News (pG ej f.aC) f.L aq.heap a3) (bA:aQ c.K c.w aD aF.t a3) (cw:dq aD aF) (cM:k w aF=true) (dg:∀P,ej=some P->∃ps,(P,dw ps)∈aD.a6):Fd c f ej p m k v aq
structure Fe (c:b4) (f:bL) (ej:Option a7) (p:aX) (m:aI->Option am) (k:aY) (v:am) (aq:a9):Prop where
 ex:Fd c f ej p m k v aq
 gens:aq.gens=#[]
 os:aq.os=c.os
def Kept.toG {k:aY} {v:am} {aq:a9} (h:Kept c f p m k v aq):Fe c f none p m k v aq:=by
 obtain⟨⟨aD,aF,w,a3,ae,ag,ax,aS,bA,cw,cM⟩,g,o⟩:=h
 exact⟨⟨aD,aF,w,a3,ae,ag,ax,aS,bA,cw,cM,λP e=>nomatch e⟩,g,o⟩
def kb (c:b4) (a:Nat) (ej:Option a7):Prop:=∀(x y:Int) (v:V) (f:bL) (p:aX) (B:List am) (m:aI->Option am) (aj:bc) (s:a9) (E:am->a9->Prop),v=.int 0∨v=.int 1->0<=y->y<=700->aZ (c.at x y) f->f.d<=10->f.ao=[f.env]->f.env.frame=some f.L->
 c.base.StaysIn f.aC->(∀P,ej=some P->f.aC.get? P=some (dw #[])/\c.base.get? P=none)->Fr f.aC f.L s.heap m->News f.aC f.L s.heap aj->aQ c.K c.w p ny aj->dq p yb->
 s.gens=#[]->s.os=c.os->p.n=nm x y c.n->p.y=y->All2 (aE p) [.own 0 (key 0),gv,v] B->dH (aR c.prog c.w) f.A (.call (.ref a) ⟨B,[]⟩) (f2 (Fe (c.at x y) f ej p m h1) E) s
def oH.toG {a:Nat} (h:oH c a):kb c a none:=λx y v f p A m aj s E ae ag ax aS bA Z Z Z Z cw cM dg ik lq ot uR B C=>
 hp (h x y v f p A m aj s E ae ag (Int.le_trans ax (by decide)) aS bA cw cM dg ik lq ot uR B C) λr aq z=>by
  rcases r with e|(_|_|_|v)
  all_goals first|exact z|exact z.toG
def Ff {ar:Prop} {base aC g bq h:bE} {L C P:a7} {H:aI->Option am} {aj:bc} {eK:hN} {env:cI} (A:Fr aC L g m) (K:fp eK base [env] (g.hide P)) (D:env.frame=some L) (T:pt (fJ [env]) (g.hide P) bq) (F:Fr bq C h H) (ak:News bq C h aj) (I:Fr (aC.hide P) L h m->News (aC.hide P) L h aj->ar):ar:=by
 have J:∀b,b∈fJ [env]->b=L:=λb M=>by
  obtain⟨e,he,ae⟩:=jc.mp M
  rw[h7.mp he,D]at ae
  exact(gR ae).symm
 have E:L∈fJ [env]:=jc.mpr ⟨env,.head _,D⟩
 obtain⟨G,es,az,ae,ag,ax⟩:=A.ns
 have N:L≠P:=λq=>by
  obtain⟨_,o,k8,_⟩:=K.frames.mem E
  rw[q,ta]at k8;cases k8
 have O:(g.hide P).get? L=some G:=(lY _ N).trans ae
 obtain⟨bs,hs⟩:=T.frame L G O E
 have ek:∀b o,(aC.hide P).get? b=some o->bq.get? b=some o:=λb o e=>by
  have bF:=Az e
  have Q:b≠P:=λq=>by rw[q,ta]at e;cases e
  refine T.other b o ((lY _ Q).trans (A.keep _ _ bF)) λhm=>?_
  rw[J b hm,s9 A]at bF;cases bF
 refine I ⟨⟨_,es,az,F.keep _ _ hs,ag,ax⟩,λb o e=>F.keep _ _ (ek b o e),c5 (gz (HD _ _)) A.above⟩ (λq B=>⟨(ak q B).1,λe=>?_,?_⟩)
 ·have:=(ak q B).2.2;rw[e,hs]at this;cases this
 ·cases e:(aC.hide P).get? q.1 with
  |none=>rfl
  |some o=>have:=(ak q B).2.2;rw[ek _ _ e]at this;cases this
def aQ.Fg {t:T} {aj new:bc} (H:aQ K w p t aj) (B:∀q∈new,q∈aj) (C:∀i,i<p.ay->bG t i->∀q∈new,q.1≠p.a i/\q.1≠p.b i):aQ K w (p.plus new) t aj:=
 ⟨H.a_,λi o af k8=>ch.ext (p.mE new) af (λq A Z=>A) (H.ent i o af k8),H.aa,H.dp,H.cG,H.mem,H.small,λq A=>(gA.mp A).elim (B q) (H.a6 q),λi af li q A=>(gA.mp A).elim (C i af li q) (H.eB i af li q)⟩
def f9 (a:Nat):Option a7:=if a=1202 then some 1199 else if a=1222 then some 1219 else none
inductive Fh (c:b4) (f:bL) (ej:Option a7) (p:aX) (aF:aA) (loc:Loc) (v:am) (aq:a9):Prop
 |mk aD (ae:p.bN aD) (ag:v=.bool true) (ax:ba c (f.k8 (pG ej f.aC)) aD aF loc aq) (aS:∀P,ej=some P->∃ps,(P,dw ps)∈aD.a6):Fh c f ej p aF loc v aq
def NN {a:Nat} {ej:Option a7} (ok:kb c a ej) {xs:List V} {Y:List am} {loc:Loc} {k:aY} (aA:c.y=0) (ah:aZ c f) (hd:f.d<=10) (aB:f.ao=[f.env]) (aG:f.env.frame=some f.L) (aH:c.base.StaysIn f.aC)
  (b:∀P,ej=some P->f.aC.get? P=some (dw #[])/\c.base.get? P=none) (h:ya xs ab k=true) (S:ba c f p ab loc s) (D:All2 (aE p) xs Y):
  dH (aR c.prog c.w) f.A (.call (.ref a) ⟨Y,[]⟩) (f2 (λv aq=>∃aF,k (.bool true) aF=true/\Fh c f ej p aF loc v aq) E) s:=by
 obtain⟨o,aX,lv,rfl,h⟩:=uN' h
 obtain⟨B,a0,rfl,h⟩:=cJ' h
 obtain⟨W,a1,rfl,h⟩:=cJ' h
 obtain⟨g,h⟩:=Ny' h
 obtain⟨C,M,h⟩:=nw' h
 obtain⟨l,h⟩:=an h
 obtain⟨x,h⟩:=an h
 obtain⟨O,G⟩:=an h
 have l:C<=700:=ce l
 have x:2<=W:=ce x
 obtain⟨d,rfl⟩:∃d,W=d+2:=⟨W-2,(HC (by assumption)).symm⟩
 replace O:uL ab B d=true:=O
 replace G:k (.bool true) (ql ab B d C)=true:=G
 obtain⟨m,aj,F,ak,H,aa⟩:=S.ex
 cases D with
 |cons v1 D=>
 cases D with
 |cons v2 D=>
 cases D with
 |cons Q D=>
 cases D with
 |nil=>
 obtain⟨af,rfl,rfl⟩:=v1
 obtain⟨a2,rfl,rfl⟩:=v2
 obtain⟨N,aI,a4⟩:=NB S.z.ay M O af
 clear O
 obtain⟨jy,I,b0,R,aJ,ai,al⟩:=Nq H N (by lia)
 rw[show jA B d 0=B from rfl]at R
 have aL:C=b0:=by
  clear ai
  have:ab.t.get (key B)=some (.box C):=by rw[<-bP];exact M
  rw[this]at R;cases R;rfl
 clear R
 subst aL
 have a5:p.y=0:=S.y.trans aA
 have aM:aZ (c.at jy I) f:=ah.at (by lia)
 have ap:∀u,aE p lv u->All2 (aE (nx p (nm jy I p.n) I (jA B d) 62 (restOf p (jA B d) 62 ny aj))) [.own 0 (key 0),gv,lv] [.ref (p.a B),.ref (p.a (d+2)),u]:=λu Q=>by
  refine .cons ⟨by show 0<62;lia,rfl,rfl⟩ (.cons ?_ (.cons ?_ .nil))
  ·rw[Nz]
   refine⟨by show 2<62;lia,rfl,?_⟩
   show _=fq (p.a (jA B d 2))
   rw[mD (by lia),Ay 2 d]
  ·rcases g with rfl|rfl
   ·exact Q
   ·exact Q
 refine hp (ok jy I lv f _ _ m aj s E g aJ (by lia) aM hd aB aG aH b F ak al ⟨rfl,rfl⟩ S.gens S.os (by show nm jy I p.n=nm jy I c.n;rw[S.n]) rfl (ap _ Q)) λr aq z=>?_
 clear ok al ap
 rcases r with e|(_|_|_|v)
 ·exact z
 ·exact z
 ·exact z
 ·exact z
 ·obtain⟨⟨aD,aF,u,a3,bF,aN,ar,as,au,a8,aO,aP⟩,gs,os⟩:=z
  obtain⟨rfl,n,m2,a9⟩:=Nx' aO
  dsimp only[bP]at m2
  cases aN
  have av:B<4096:=cH af H.small
  have tg:(ql ab B d C).t=T.put (.box (C+200)) (key B) (uK d 61 ab.t):=by clear S G H M N;cases ab;rfl
  have get:∀i,i<p.ay->(ql ab B d C).t.get (key i)=if i=B then some (.box (C+200))else if d<i/\i<=61+d then some .dead else ab.t.get (key i):=λi J=>by
   have i4:=cH J H.small
   rw[tg,T.cd _ _ av i4,Nw i4 (by lia)]
  clear av tg
  have U:aQ c.K c.w p (ql ab B d C).t a3:=by
   refine Nr (dp:=C+200) H N bF au m2 ai (by lia) ?_ (λj aw aS=>?_) λi J ax=>?_
   ·rw[show jA B d 0=B from rfl,get B af,if_pos rfl]
   ·rw[mD aw,get _ (by have:=N.lt j aS;rw[mD aw]at this;exact this),if_neg (by lia),if_pos (by lia)]
   ·rw[get i J,if_neg (show i≠B from ax 0 (by lia)),if_neg]
    intro q
    have:=ax (i-d) (Nat.lt_succ_of_le (Nat.sub_le_of_le_add q.2))
    rw[mD (Nat.sub_pos_of_lt q.1)]at this
    exact this (HC (vK q.1)).symm
  clear af N aI bF
  have zz:dq p (ql ab B d C):=by
   clear G H M get U
   have:=S.z
   clear S
   cases ab
   exact⟨this.ay,this.bz⟩
  cases ej with
  |none=>exact⟨_,G,p,.refl p,rfl,⟨⟨m,a3,ar,as,U,aa⟩,gs,os,zz,S.n,S.y⟩,λP e=>nomatch e⟩
  |some P=>
   obtain⟨ps,aT⟩:=aP P rfl
   refine⟨_,G,p.plus [(P,dw ps)],p.mE _,rfl,⟨⟨m,a3,ar,as,aQ.Fg U (λq X=>by rw[h7.mp X];exact au.a6 _ aT) λi J li q X=>?_,aa.ext (p.mE _)⟩,gs,os,zz.plus _,S.n,S.y⟩,λa_ e=>by cases e;exact⟨ps,.head _⟩⟩
   clear G U zz
   rw[h7.mp X]
   have lo:bG ab.t i:=by
    obtain⟨o,ae,ag⟩:=li
    rw[get i J]at ae
    clear get
    by_cases aK:i=B
    clear ae
    ·subst aK;exact⟨_,(bP ..).symm.trans M,rfl⟩
    ·rw[if_neg aK]at ae
     by_cases aW:d<i/\i<=61+d
     ·rw[if_pos aW]at ae;cases ae;cases ag
     ·rw[if_neg aW]at ae;exact⟨o,ae,ag⟩
   obtain⟨⟨o1,aU⟩,o2,aV⟩:=H.mem i J lo
   have az:=(b P rfl).1
   exact⟨(λe=>by have:=(ak _ aU).2.2;rw[<-e,az]at this;cases this),(λe=>by have:=(ak _ aV).2.2;rw[<-e,az]at this;cases this)⟩
structure Fi (c:b4) (f:bL) (done:List Nat) (aC:bE) (p:aX) (ab:aA) (loc:Loc) (s:a9):Prop where
 st:c.base.StaysIn aC
 S:ba c (f.k8 aC) p ab loc s
 un:∀a P,f9 a=some P->dG done a=false->aC.get? P=some (dw #[])
 yh:∀a P,f9 a=some P->aC.get? P=some (dw #[])∨∃ps,(P,dw ps)∈p.a6
def yi:iQ:=λa=>bk (motive:=λZ=>Option (List V->aA->aY->Bool)) (bk (motive:=λZ=>Option (List V->aA->aY->Bool)) none (some yc) (aU a 1162)) (some j9) (aU a 1169)
def Fj:b5:=oB yi cg (hc iq cg 24)
def Fk (h:Std c) (D:c.y=0):df c (b6 c 849) 10 Fj:=λf a xs F ab loc k x p s E ah hd A S C B=>by
 have a0:=h.a0
 replace A:cq (motive:=λZ=>Bool) (c7 cg (hc iq cg 24) a xs ab k x) (λg=>g xs ab k) (yi a)=true:=A
 cases q:yi a with
 |none=>rw[q]at A;exact mg a0 (by lia) (j6 a0 (j_ a0) 24 20 (by lia)) f a xs F ab loc k x p s E ah hd A S C B
 |some g=>
  rw[q]at A
  replace q:bk (motive:=λZ=>Option (List V->aA->aY->Bool)) (bk (motive:=λZ=>Option (List V->aA->aY->Bool)) none (some yc) (aU a 1162)) (some j9) (aU a 1169)=some g:=q
  cases aK:aU a 1169 with
  |true=>
   rw[aK]at q;cases q
   obtain rfl:=b3 aK,aK
   exact uG h.a0 ah (by lia) A S C B
  |false=>
   rw[aK]at q
   clear aK
   cases aW:aU a 1162 with
   |true=>
    rw[aW]at q;cases q
    obtain rfl:=b3 aW,aW
    exact NE h.a0 D ah hd A S B
   |false=>rw[aW]at q;cases q
abbrev h2:ef:=⟨Fj,b1⟩
def mF:List Nat:=[1202,1207,1217,1222,1227,1232]
def qr (tg:fb) (A:aT) (B:List aT) (it:V) (n:Nat):List Nat->aA->Loc->Bool:=gg (motive:=λZ=>List Nat->aA->Loc->Bool) hv (λZ C done ab loc=>
 hC cA false it ab (λv ab=>hZ tg v ab loc (λab loc=>A ab loc (λv ab=>rA v λa=>aN (hq (dG done a)) (aN (dG mF a) (kA B ab loc (λai ab=>ya ai ab (λZ ab=>C (a::done) ab loc)) h2))) h2)) (λab=>true)) n
def r9 {a P:Nat} (h:f9 a=some P):a=1202/\P=1199∨a=1222/\P=1219:=by
 unfold f9 at h
 by_cases e:a=1202
 ·rw[if_pos e]at h;cases h;exact .inl ⟨e,rfl⟩
 ·rw[if_neg e]at h
  by_cases e2:a=1222
  ·rw[if_pos e2]at h;cases h;exact .inr ⟨e2,rfl⟩
  ·rw[if_neg e2]at h;cases h
def NO (P:bR):(mF.all λa=>fZ (KF P) (.ref a))=true:=by kernel_rfl
def NP {done:List Nat} {a b:Nat} (h:dG (a::done) b=false):a≠b/\dG done b=false:=by
 replace h:bk (motive:=λZ=>Bool) (dG done b) true (aU a b)=false:=h
 rw[d6]at h
 by_cases e:a=b
 ·rw[decide_eq_true e]at h;cases h
 ·rw[decide_eq_false e]at h;exact⟨e,h⟩
def NQ (h:Std c) (dT:gw c) (ae:c.y=0) (aJ:∀a∈mF,kb c a (f9 a)) (ag:∀a P,f9 a=some P->c.base.get? P=none) (O:aZ c f) (hd:f.d=1) (aL:f.b=10) (ah:f.ao=[f.env]) (aj:f.env.frame=some f.L) (aQ:f.A.frames=some f.ao) (aS:c.base.StaysIn f.aC)
  {t it N e1:aM} {args:List aM} {tg:fb} {ci G:aT} {H:List aT} {aK aW bH cV eI:bO} (aU:im f.sc t=some tg) (bK:gK tg=false) (af:cp.ev f.sc it=ci) (aV:cp.ev f.sc N=G) (aY:args.map (cp.ev f.sc)=H) (hs:g0 it=true) (a0:oh N=true) (ns:noStar args=true)
  {ab:aA} {loc:Loc} {p:aX} {s:a9} {E:am->a9->Prop} {Q:iZ->a9->Prop} (S:ba c f p ab loc s) (ak:∀a P,f9 a=some P->f.aC.get? P=some (dw #[])) (a1:ci ab loc (λv ab=>ij cA v ab (λi ab=>qr tg G H i 4 [] ab loc)) h2=true)
  (a2:∀done B aD aF cO aq,Fi c f done B aD aF cO aq->Q .next aq):
  aO (aR c.prog c.w) f.A (exec (.For t it [.If (.UnaryOp .Not (.Call N args [] aK) aW) [.Return (some e1) bH] [] cV] [] eI) f.env) Q E s:=by
 have al:=qk h.K
 have a3:=Fk h ae
 have R:∀g:bL,g.b=f.b->df c (b6 c 849) g.b h2.cl:=λg e=>by rw[e,aL];exact a3
 have qe:∀B,c.base.StaysIn B->aZ c (f.k8 B):=λB st=>aZ.ground (eK:=pw) (b7:=[]) dT O ah aj aQ ⟨rfl,st,trivial⟩
 have rc:∀B,c.base.StaysIn B->hE c (b6 c 849) cp (f.k8 B):=λB st=>h.rc (qe B st) (by show f.d+9<=f.b;lia) (by show f.b<=260;lia)
 have T:∀(g:bL) p E,(b6 c 849).ok g p b1 E:=λg p E=>(b6 c 849).no g p E
 have ap:=(h.rc O (by lia) (by lia)).ev it
 rw[af]at ap
 refine wpAny_For (cy (ap ab loc _ h2 p s E a1 S (T _ _ _) (R f rfl)) (λv bM bt bw y bP a4 a5 a7=>?_)) (p1 hs)
 refine cy (pW al O a7 a5 a4) (λbQ bR U a8 V bS a_ bb bc=>?_)
 refine Hs (I:=λn aq=>∃done B aD aF cO,U.bN aD/\Fi c f done B aD aF cO aq/\qr tg G H V n done aF cO=true) (λn aq W=>?_) 4 ⟨[],f.aC,U,a8,loc,.refl U,⟨aS,bb,λa P e Z=>ak a P e,λa P e=>.inl (ak a P e)⟩,bc⟩
 obtain⟨done,B,bT,bd,ar,as,C,au⟩:=W
 cases n with
 |zero=>cases au
 |succ n=>
  have cC:=qe B C.st
  have be:fc (f.k8 B) tg t:=nn (f:=(f.k8 B)) aU
  refine b_ (p0 (f:=(f.k8 B)) (t:=t) (f7:=gT (aR c.prog c.w) f.A f.env λe aq=>cameBackBy (aR c.prog c.w) f.A f.env E e aq) al cC (fI:=false) (λe=>nomatch e)
   (show hC cA false V bd (λv ab=>hZ tg v ab ar (λab loc=>G ab loc (λv ab=>rA v λa=>aN (hq (dG done a)) (aN (dG mF a) (kA H ab loc (λai ab=>ya ai ab (λZ ab=>qr tg G H V n (a::done) ab loc)) h2))) h2)) (λab=>true)=true from au) C.S (a_.ext as)) (λr bU av=>?_) λZ Z h=>h
  cases r with
  |none=>
   obtain⟨bf,bg,bh,bi,bV⟩:=av
   exact k7 (a2 done B bf bg ar _ ⟨C.st,bi,C.un,λa P e=>(C.yh a P e).imp id λ⟨ps,c0⟩=>⟨ps,bh.a6 _ c0⟩⟩)
  |some v=>
   refine pY (f:=(f.k8 B)) av (λZ bW bX bY x bj bk bl bm=>?_)
   refine rE (f:=(f.k8 B)) (rF (f:=(f.k8 B)) be cC bm bl bk) (λZ bn bo bp Y bq br bs=>?_)
   have aw:=(rc B C.st).ev N
   rw[show cp.ev (f.k8 B).sc N=G from aV]at aw
   refine iE (wpAny_If (isTrue_not (isTrue_plain ?_ (BL rfl))))
   rw[na a0]
   refine aP (cy (f:=(f.k8 B)) (aw bp Y _ h2 bo bn _ bs br (T _ _ _) (R _ rfl)) (λbZ bu bv bx b0 bz bA ax D=>?_))
   obtain⟨a,rfl,D⟩:=wY' D
   obtain⟨J,D⟩:=an D
   obtain⟨ay,D⟩:=an D
   have J:dG done a=false:=by cases q:dG done a with
    |false=>rfl
    |true=>rw[q]at J;cases J
   have j:=rB ay
   clear ay
   cases bA
   have az:fZ c.K (.ref a)=true:=by rw[h.K];exact eU.mp (NO c.w.params) a j
   refine jY (ln az) ns (ax.X cC) ?_
   clear az
   have bB:gJ c (b6 c 849) (f.k8 B) H args:=by rw[<-aY];exact kM (f:=(f.k8 B)) (rc B C.st).ev args
   refine lf (f:=(f.k8 B)) (rQ aK bB ns bx Y _ h2 bv bu _ D ax (T _ _ _) (R _ rfl)) (λai b2 b3 b4 b5 bC bD aB aE=>?_)
   clear D
   refine⟨aB.X cC,?_⟩
   have aG:∀P,f9 a=some P->B.get? P=some (dw #[])/\c.base.get? P=none:=λP e=>⟨C.un a P e J,ag a P e⟩
   clear J
   clear J
   refine b_ (Bj (NN (f:=(f.k8 B)) (aJ a j) ae cC (by show f.d<=10;lia) ah aj C.st aG aE aB bD)) (λdi b8 W=>?_) λZ Z h=>h
   obtain⟨bE,k,bF,bG,bI,l,m⟩:=W
   clear j aE aG
   subst bI
   refine zV (k7 (k7 ?_))
   have e39:=(((bj.trans bq).trans bz).trans bC).trans bG
   refine⟨n,i_ _,a::done,pG (f9 a) B,bF,bE,Y,as.trans e39,⟨?_,l,λb P M hm=>?_,λb P M=>?_⟩,k⟩
   ·cases q:f9 a with
    |none=>exact C.st
    |some P=>exactλb o e=>(lY _ λz=>by rw[z,ag a P q]at e;cases e).trans (C.st b o e)
   clear k l m
   ·obtain⟨bJ,aH⟩:=NP hm
    clear hm
    have F:=C.un b P M aH
    clear aH
    cases q:f9 a with
    |none=>exact F
    |some u=>
     have aa:P≠u:=by
      clear F
      rcases r9 q with⟨rfl,rfl⟩|⟨rfl,rfl⟩<;>rcases r9 M with⟨rfl,rfl⟩|⟨rfl,rfl⟩<;>first|exact absurd rfl bJ|decide
     exact(lY _ aa).trans F
   clear k l
   ·by_cases aI:a=b
    ·subst aI
     exact .inr (m P M)
    clear m
    ·rcases C.yh b P M with F|⟨ps,c0⟩
     ·cases q:f9 a with
      |none=>exact .inl F
      |some u=>
       have aa:P≠u:=by
        clear F
        rcases r9 q with⟨rfl,rfl⟩|⟨rfl,rfl⟩<;>rcases r9 M with⟨rfl,rfl⟩|⟨rfl,rfl⟩<;>first|exact absurd rfl aI|decide
       exact .inl ((lY _ aa).trans F)
     ·exact .inr ⟨ps,e39.a6 _ c0⟩
inductive Fm (c:b4) (f:bL) (b7:List cI) (P:a7) (p:aX) (k:aY) (v:am) (aq:a9):Prop
 |mk bq pE aD aF x a3 (ae:p.bN aD) (ag:aE aD x v) (ax:k x aF=true) (aS:Fr bq f.L aq.heap pE) (bA:News bq f.L aq.heap a3) (cw:aQ c.K c.w aD aF.t a3) (cM:dq aD aF) (dg:pt (fJ b7) (f.aC.hide P) bq) ps (ik:(P,dw ps)∈aD.a6):Fm c f b7 P p k v aq
structure NR (c:b4) (f:bL) (b7:List cI) (P:a7) (p:aX) (k:aY) (v:am) (aq:a9):Prop where
 ex:Fm c f b7 P p k v aq
 gens:aq.gens=#[]
 os:aq.os=c.os
def lB.a6 {P:a7} {pos:bO} {q:aI} (h:lB p P pos q):∃ps,(P,dw ps)∈p.a6:=let⟨ps,_,_,_,_,h,_,_,_,_⟩:=h;⟨ps,h⟩
section
variable {C ar:Nat} {du:c9} {b7:List cI} {eK:hN} {loc:Loc} {fT dU ex pre eM kS:aI} {aK aW bH cV eI gr dr:bO} {cx:Nat} {c2 e2:aM} {bv:bB} {b0 P:a7}
 {aV cf:aT} {cl:b5} {k:aY} {au:ef} {E:am->a9->Prop} {Q:iZ->a9->Prop}
def NS {be:Nat->Option O} (M:go c be) (a:qm c C ar du fT dU ex pre eM (f.k8 (f.aC.hide P)) b7 eK bv c2 aV cl) (S:ba c f p ab loc s) (N:f.env.code=.ref b0) (c3:lX f.aC b0 P) (G:f.aC.get? P=some (dw #[]))
  (ns:noStar [.Lambda noArgs c2 bv dr]=true) (R:bf kS=true) (ag:∀bq,aZ c (f.k8 bq)->a8 c (b6 c C) cf (f.k8 bq) e2) (T:au.x=b1) (U:df c (b6 c C) f.b au.cl)
  (V:lC ((freeOf bv).map aG) aV cl (aG pre) (λb aF=>aN (aU b (aG kS)) (cf aF loc k au)) ab loc=true) (W:∀v aq,NR c f b7 P p k v aq->Q (.ret v) aq):
  aO (aR c.prog c.w) f.A (jJ [.Return (some (.BoolOp .And [.Compare (.Call (.Name eM aK) [.Lambda noArgs c2 bv dr] [] gr) [.Eq] [.Constant (.str kS) cx aW] bH,e2] cV)) eI] f.env) Q E s:=by
 obtain⟨m,aj,F,ak,H,I⟩:=S.ex
 have X:=F.keep _ _ G
 have Y:∀q∈aj,q.1≠P:=λq d e=>by have:=(ak q d).2.2;rw[e,G]at this;cases this
 refine iE (qV (BoolOp_and (zY (E4 (f:=(f.k8 (f.aC.hide P))) (ab:=ab) (loc:=loc) a (yd F) (ye ak) H S.z S.gens S.os S.n S.y I N (c3.keeps F.keep) X (ta _ _) Y ns V λdi bq aq ap bt as e1 gq Z he=>?_) (rn rfl))))
 obtain⟨aD,aF,b,a3,e2,g,h,i,aB,j,l⟩:=he.ex
 obtain⟨J,o⟩:=an aB
 have r:b=aG kS:=b3 J
 clear J
 subst r
 have B:=e1.trans e2
 have K:ba c (f.k8 bq) aD aF loc aq:=⟨⟨m,a3,j,l,i,I.ext B⟩,he.gens,he.os,h,B.n.trans S.n,B.y.trans S.y⟩
 have cC:aZ c (f.k8 bq):=he.cC
 refine xH ?_
 refine wS (f:=(f.k8 bq)) (q:=true) M (show gp be aF .Eq (.str (aG kS)) (.str (aG kS))=some true from congrArg some (s_ _)) cC (K.tok (n:=aq.toks+1)) g ⟨kS,aq.toks,rfl,R,rfl⟩ λbo=>?_
 refine zV ?_
 refine cy (f:=(f.k8 bq)) (wz (ag bq cC) aF loc k au aD _ E o ((K.tok (n:=aq.toks+1)).tok (n:=bo)) (by rw[T];exact(b6 c C).no _ _ _) U) (λv t u aa x L ae D af=>?_)
 obtain⟨hX,ah,ai,al,am,_⟩:=D.ex
 obtain⟨ps,ao⟩:=gq.a6
 exact W v t ⟨⟨bq,hX,u,aa,x,ah,B.trans L,ae,af,ai,al,am,D.z,he.turn,ps,(e2.trans L).a6 _ ao⟩,D.gens,D.os⟩
end
def Fn {env:cI} (l2:List bI):∀l1:List bI,jJ (l1++l2) env=(do match<-jJ l1 env with|.next=>jJ l2 env|f=>pure f)
 |[]=>by
  show jJ l2 env=((pure iZ.next:Sem iZ)>>=_)
  rw[pure_bind]
 |st::l1=>by
  rw[List.cons_append,execs_cons,execs_cons,bind_assoc]
  refine bind_congr λf=>?_
  cases f with
  |next=>exact Fn l2 l1
  |brk=>dsimp only;rw[pure_bind]
  |cont=>dsimp only;rw[pure_bind]
  |ret v=>dsimp only;rw[pure_bind]
def nA {bu:k0} {env:cI} {Q:iZ->a9->Prop} {l1 l2:List bI} (h:aO bu A (jJ l1 env) (λbg aq=>match bg with|.next=>aO bu A (jJ l2 env) Q E aq|bg=>Q bg aq) E s):aO bu A (jJ (l1++l2) env) Q E s:=by
 rw[Fn]
 refine aP (b_ h (λbg aq av=>?_) λZ Z h=>h)
 cases bg<;>first|exact av|exact br av
abbrev Fo (w:cv) (os:d3):a9:=⟨kl w.params,wc [],boot_drawn,boot_toks,os⟩
def pre (w:cv) (os:d3):topGo oW dQ w 11 (some (.ref 6)) 12 (Fo w os) (topStub dQ)=some ((st iF 15 187 w os).abs,⟨denote oW (dB body),dB body,⟨0,0,0,0⟩,k9⟩):=by
 rw[PySem.W.Fast.te15667345088766844465,zL,PySem.W.Fast.te11892475500146522536]
 kernel_rfl
def NT (w:cv) (os:d3):segRun oW dQ w 11 (some (.ref 6)) 1 1 (st iF 15 187 w os).abs (blockOf body env (dB body) ⟨0,0,0,0⟩ k9)=some (.next,(st iF 15 187 w os).abs,dB body,⟨0,0,0,0⟩):=by
 rw[PySem.W.Fast.te14374325043358763698,zL]
 kernel_rfl
def dF (w:cv) (os:d3):topRun oW dQ w 11 (some (.ref 6)) 2 (st ma 1240 2089 w os).abs ⟨doneF .next,dB body,⟨978,0,985,15⟩,k9⟩=some (st ma 1240 2089 w os).abs:=by
 rw[PySem.W.Fast.te14082659384304107361,zL]
 kernel_rfl
def NU:kq=[]:=by kernel_rfl
def NV:body=s1++(a5++(eX++(hR++(jK++(mb++[]))))):=by
 rw[<-NU]
 unfold mb kq;rw[po]
 unfold jK gV;rw[po]
 unfold hR iG;rw[po]
 unfold eX gC;rw[po]
 unfold a5 fs;rw[po]
 unfold s1 c_;rw[po]
def run (w:cv) (os:d3):topRun oW dQ w 11 (some (.ref 6)) (12+(1+(360+(3164+(1149+(1748+(904+(1776+2)))))))) (Fo w os) (topStub dQ)=some (st ma 1240 2089 w os).abs:=by
 refine go_top (pre w os) (piece_block (NT w os) ?_)
 rw[show HE body env (dB body) ⟨0,0,0,0⟩ k9=HE (s1++(a5++(eX++(hR++(jK++(mb++[])))))) env (dB body) ⟨0,0,0,0⟩ k9 from congrArg (λl=>HE l env (dB body) ⟨0,0,0,0⟩ k9) NV]
 exact tb (gs (aK w os)) (tb (gs (aW w os)) (tb (gs (bH w os)) (tb (gs (cV w os)) (tb (gs (eI w os)) (tb (gs (gD w os)) (piece_nil (dF w os)))))))
def size (w:cv):((kl w.params).isNs iX&&(wc ([]:List qZ)).size==0,(kl w.params).objs.size,(kl w.params).nsMap iX "__annotations__")=(true,11,some (.ref 6)):=by kernel_rfl
def NW (w:cv):(fencedOpening oW dQ w 20000).map (λs=>(s.heap,s.gens,s.drawn,s.toks))=some (kl w.params,wc [],boot_drawn,boot_toks):=
 boot_open (by kernel_rfl) (by kernel_rfl) (λs=>by kernel_rfl) w
def q:ew:={dQ with main:={dQ.main with body:=[F 130]}}
def cX (P:bR):bE:=absHeap (ma P) 1240 {}
abbrev fB (w:cv) (os:d3):a9:=⟨cX w.params,#[],{},2089,os⟩
def NX (w:cv):staticsOk (n2 dQ.main.body) (kl w.params) (cX w.params)=true:=by kernel_rfl
def NY (w:cv):namesBound dQ (cX w.params)=true:=by kernel_rfl
def NZ (w:cv):laidKept (kl w.params) (cX w.params)=true:=by kernel_rfl
def N0 (w:cv) (os:d3):seen ((recsOf q).map (·.name)) (ownsOf q) [] (fB w os)=expectedOf q:=by
 rw[PySem.W.Fast.te5160383126252970620];kernel_rfl
def N1 (w:cv):(cX w.params).bltView=bltViewBooted:=by kernel_rfl
def k_keys (w:cv) (os:d3):((cX w.params).keysOk (mX q loose) ((recsOf q).map (·.name)) ((litsOf q).map (·.1)) ((clssOf q (mX q loose)).map (·.name))&&(cX w.params).accountedOkI (n2 dQ.main.body)&&(cX w.params).isNs iX&&(cX w.params).isNs vS&&tablesOk q (cX w.params)&&true&&(if true then(fB w os).gens.size==0 else !leftWithCleanup (fB w os).gens))=true:=by kernel_rfl
def N2 (w:cv) (os:d3):tabsOk q (fB w os)=true:=by kernel_rfl
def N3 (w:cv) (os:d3):pinSeenD q (drecsOf q) (fB w os)=pinGoodD (drecsOf q):=by kernel_rfl
def N4 (w:cv) (os:d3):plainSeenE q (mX q loose) (fB w os)=plainGoodE q (mX q loose):=by kernel_rfl
def N5 (w:cv) (os:d3):plainSeenD q loose (fB w os)=plainGoodD q loose:=by kernel_rfl
def N6 (w:cv) (os:d3):wideSeen q (fB w os)=wideGood q:=by kernel_rfl
def k_cls (w:cv) (os:d3):clsSeenW q loose (fB w os)=clsGoodW q loose:=by kernel_rfl
def N7 (w:cv) (os:d3):(st ma 1240 2089 w os).abs=(⟨cX w.params,#[],{},2089,os⟩:a9):=by kernel_rfl
def N8 (w:cv) (os:d3):topRun oW dQ w 11 (some (.ref 6)) (12+(1+(360+(3164+(1149+(1748+(904+(1776+2)))))))) ⟨kl w.params,wc [],boot_drawn,boot_toks,os⟩ (topStub dQ)=some ⟨cX w.params,#[],{},2089,os⟩:=(run w os).trans (congrArg some (N7 w os))
def uS (w:cv) (os:d3):(staticsOk (n2 dQ.main.body) (kl w.params) (cX w.params)&&namesBound dQ (cX w.params)&&gensDone (fB w os)&&laidKept (kl w.params) (cX w.params))=true:=by
 rw[NX,NY,NZ];rfl
def N9 {A B C bp E F ar H I:Type} {a D:A} {b G:B} {c c1:C} {d n3:bp} {e bF:E} {f J:F} {g bq:ar} {h av:H} {i K:I} (ae:a=D) (ag:b=G) (ax:c=c1) (aS:d=n3) (bA:e=bF) (cw:f=J) (cM:g=bq) (dg:h=av) (ik:i=K):
  (a,b,c,d,e,f,g,h,i)=(D,G,c1,n3,bF,J,bq,av,K):=by rw[ae,ag,ax,aS,bA,cw,cM,dg,ik]
def N_ (w:cv) (os:d3):openSeen q loose (n2 dQ.main.body) (λZ=>true) true (fB w os)=
  (seen ((recsOf q).map (·.name)) (ownsOf q) [] (fB w os),(cX w.params).bltView,((cX w.params).keysOk (mX q loose) ((recsOf q).map (·.name)) ((litsOf q).map (·.1)) ((clssOf q (mX q loose)).map (·.name))&&(cX w.params).accountedOkI (n2 dQ.main.body)&&(cX w.params).isNs iX&&(cX w.params).isNs vS&&tablesOk q (cX w.params)&&true&&(if true then(fB w os).gens.size==0 else !leftWithCleanup (fB w os).gens)),tabsOk q (fB w os),pinSeenD q (drecsOf q) (fB w os),plainSeenE q (mX q loose) (fB w os),plainSeenD q loose (fB w os),wideSeen q (fB w os),clsSeenW q loose (fB w os)):=by kernel_rfl
def Oa:openGood q loose=(expectedOf q,bltViewBooted,true,true,pinGoodD (drecsOf q),plainGoodE q (mX q loose),plainGoodD q loose,wideGood q,clsGoodW q loose):=by kernel_rfl
def uT (w:cv) (os:d3):openSeen q loose (n2 dQ.main.body) (λZ=>true) true (fB w os)=openGood q loose:=
 (N_ w os).trans ((N9 (N0 w os) (N1 w) (k_keys w os) (N2 w os) (N3 w os) (N4 w os) (N5 w os) (N6 w os) (k_cls w os)).trans Oa.symm)
def Ob (w:cv):(λos=>((staticsOk (n2 dQ.main.body) (kl w.params) (cX w.params)&&namesBound dQ (cX w.params)&&gensDone (fB w os)&&laidKept (kl w.params) (cX w.params)),
  openSeen q loose (n2 dQ.main.body) (λZ=>true) true (fB w os),((fB w os).heap,(fB w os).toks)))=λZ=>(true,openGood q loose,(cX w.params,2089)):=
 funext λos=>Prod.ext (uS w os) (Prod.ext (uT w os) rfl)
set_option maxHeartbeats 2000000 in
def left:LeftO dQ q loose (λZ=>true) (λs=>(s.heap,s.toks)) (λw=>(cX w.params,2089)) 20000:=
 @LeftO.of_pieces dQ q loose (λZ=>true) _ (λs=>(s.heap,s.toks)) (λw=>(cX w.params,2089)) 20000 true kl cX (wc []) #[] boot_drawn {} boot_toks 2089 11 (some (.ref 6)) (12+(1+(360+(3164+(1149+(1748+(904+(1776+2)))))))) NW size N8 (by kernel_rfl) Ob
@[reducible] def L:=PySem.Challenge.rw_nu0299_01
def Oc:namesResolve dQ=true:=by rw[PySem.W.Fast.te8377067652309620493];kernel_rfl
def Od:dQ.boundNames.all (λn=>!worldNames.contains n)=true:=by kernel_rfl
def Oe:noRoadLSs {strict:=!(n2 dQ.main.body).all cThrough.contains,foot:=none,bare:=(["vars","dir","locals"]:List aI).filter (readsOut dQ dQ.main.body)} dQ.main.body=true:=by rw[T5];kernel_rfl
def Of:namesMeet dQ dQ.main.body (λZ n=>attrL n)=true:=by
 rw[AA]
 unfold attrL
 rw[PySem.W.Fast.sDec_eq]
 kernel_rfl
def Og:looksOpen dQ=true:=by
 unfold looksOpen
 rw[Oc,Od,Oe,Of];kernel_rfl
def Oh:looksOpen L.row.prog=true:=Og
def Oi:L.row.partSaid=true:=by
 unfold OpenRow.partSaid
 rw[Oh];kernel_rfl
def Oj:L.row.wellSaid=true:=by
 unfold OpenRow.wellSaid
 rw[Oi];kernel_rfl
def Ok:noClassBlock L.prog L.footing=true:=by rw[PySem.W.Fast.te8179353310426384613];kernel_rfl
def Ol:noRoadLSs {strict:=true,foot:=some L.bound',writes:=L.writes,may:=L.may} L.footing=true:=by rw[T5];kernel_rfl
def Om:L.namesIt=true:=by rw[PySem.W.Fast.te16286561074155671207];kernel_rfl
def Oo:namesMeet L.prog L.footing (λsc n=>(!(["type","isinstance","issubclass","getattr","hasattr"]:List aI).contains n||sc.names.lookup n==some .globalImplicit)&&
  (L.may !=some n||sc.kind==.module||sc.names.lookup n==some .globalImplicit))=true:=by rw[AA];kernel_rfl
def Op:namesMeet L.prog L.above (λZ n=>!L.own.contains n)=true:=by rw[AA,PySem.W.Fast.sDec_eq];kernel_rfl
def Oq:namesMeet L.prog L.footing (λsc n=>sc.kind==.module||sc.names.lookup n !=some .globalExplicit)=true:=by rw[AA];kernel_rfl
def Ot:L.footing.all footLine=true:=by rw[PySem.W.Fast.te10501279942588096481];kernel_rfl
def Ou:L.bound'.all (λn=>!builtinNamed n||L.about==[n]||!L.reads n)=true:=by rw[PySem.W.Fast.named_eq];kernel_rfl
def cS:L.wellSaid=true:=by
 unfold OpenLaw.wellSaid
 rw[Oj,Ok,Ol,Om,Oo,Op,Oq,Ot,Ou];kernel_rfl
def Ov:bI->DefRec
 |.FunctionDef (name:=n) (args:=a) (body:=b) (scope:=sc) (pos:=p) .. =>⟨n,a,b,sc,p⟩
 |_=>⟨S "",{posonlyargs:=[],args:=[],vararg:=none,kwonlyargs:=[],kw_defaults:=[],kwarg:=none,defaults:=[]},[],default,default⟩
def d:DefRec:=Ov (F 130)
def r8:defOf q L.row.name=some (d,[]):=by kernel_rfl
def Ow:L.row.prog.theDef L.row.name=some (d.params,d.body,d.scope):=by kernel_rfl
def Ox:kwWritten? d.params.kwonlyargs d.params.kw_defaults=some []:=by kernel_rfl
def Oy:(chainsOk q&&opensWell L.row.prog&&(frees L.row.toRowW&&L.row.within.isEmpty))=true:=by kernel_rfl
def Oz:L.row.prog.tablesWhole=true:=by kernel_rfl
def OA:L.row.prog.bare:=⟨rfl,rfl,rfl,rfl,rfl,Oz⟩
def OB:L.row.toRowW.promised:=by w_witness2
def OC:L.row.records=[]:=rfl
def head (call:WalkX q loose (λZ Z=>True) (λs=>(s.heap,s.toks)) (λw=>(cX w.params,2089)) L.row.toRowW d [] (λf ai=>PySem.call f ai)):L.Holds:=
 holds_law cS λA=>holds_openX (r:=L.row) (q:=q) (loose:=loose) (Xt:=λZ=>true) (XP:=λZ Z=>True) (Yf:=λs=>(s.heap,s.toks)) (Ya:=λw=>(cX w.params,2089)) (d:=d) (kwd:=[]) (N:=20000)
  left (λZ Z=>trivial) (λZ Z Z Z Z=>trivial) r8 Ow Ox (λs Z=>recFacts_nil OC) rfl A Oy OA OB call
def OD (h:Std c) (dT:gw c) (N:c.y=0) (ax:∀a∈mF,kb c a (f9 a)) {sa:Nat} (p:∀a P,f9 a=some P->c.base.get? P=none/\s.heap.get? P=some (dw #[])) (u:c.base.StaysIn s.heap) (O:c.K.In s.heap) (bj:pd c.pr c.loose c.f1 c.ku s.heap)
  (ay:∃o,s.heap.get? iY=some o) (G:c.n.q 0 sa []) (gs:s.gens=#[]) (az:s.os=c.os)
  {aJ:c9} {x:aI} {Q:List bI} {t it V e1 e2:aM} {args:List aM} {tg:fb} {W:bV} {ci aa:aT} {ah:List aT} {ek:dy} {aK aW bH cV eI gD:bO} (ok:gH c.K aJ) (X:aJ.names=[x]) (aA:aJ.least=1) (aB:aJ.dflt=[]) (aE:aG x=4012816120053) (d:aJ.scope.names.lookup x=some .local)
  (aH:aJ.body=Q++[.For t it [.If (.UnaryOp .Not (.Call V args [] aK) aW) [.Return (some e1) bH] [] cV] [] eI,.Return (some e2) gD]) (hY:cp.cL aJ.scope Q=W) (aL:im aJ.scope t=some tg) (aN:gK tg=false) (af:cp.ev aJ.scope it=ci) (aP:cp.ev aJ.scope V=aa) (aS:args.map (cp.ev aJ.scope)=ah)
  (hs:g0 it=true) (aU:oh V=true) (ns:noStar args=true) (aV:cp.ev aJ.scope e2=ds (.bool true))
  (aY:∀bg ab loc,ek bg ab loc=true->bg=.next/\ci ab loc (λv ab=>ij cA v ab (λi ab=>qr tg aa ah i 4 [] ab loc)) h2=true) (a0:W jB [(4012816120053,.own 0 (key 0))] ek h2=true):
  dH (aR c.prog c.w) pw (.call (.ref aJ.addr) ⟨[.ref sa],[]⟩) (λr aq=>r=.ok (.ret (.bool true))/\(∀b o,c.base.get? b=some o->aq.heap.get? b=some o)/\aq.gens=#[]/\aq.os=c.os/\∀a P,f9 a=some P->∃ps,aq.heap.get? P=some (dw ps)) s:=by
 obtain⟨cR,cB,gX,d_,ai,aj,pm,an,ak,a1,k8,R,a2⟩:=ok.ex
 have a3:a1=[]:=by
  have:=(a2 ⟨c.n,0,0,λZ=>0,λZ=>0,λZ=>0,[]⟩).len
  rw[aB]at this
  exact List.eq_nil_of_length_eq_zero this.symm
 have c0:∀S,peek c.K S (sL (fnX aJ.name aJ.qual aJ.params aJ.body aJ.scope [] d_ ai aj pm an aJ.d9 ak) ⟨[.ref sa],[]⟩)=some [(x,.ref sa)]:=λS=>by
  have:=R [.ref sa] (by rw[aA];exact eh _) (by rw[X];exact eh _) S
  rw[X,a3]at this
  exact this
 have a4:BindsTo s (fnX aJ.name aJ.qual aJ.params aJ.body aJ.scope [] d_ ai aj pm an aJ.d9 ak) ⟨[.ref sa],[]⟩ [(x,.ref sa)]:=λbu Z Z Z q=>(Looks.of_peek (M:=bu) O (c0 _)).here q
 refine codeAny_call_function (by decide) (O _ _ k8) rfl ok.co ok.gen rfl (codeRec_of O ok.code) (a4 _ _ _ _ ?_)
 refine Ts ok.kind (λy C=>?_) λbp he aq H=>?_
 ·rcases bJ.mp C with rfl|C
  ·exact .inl d
  ·cases C
 subst he
 refine⟨bj.nolimit.keeps H.toInCall.keep,codeAny_func ?_⟩
 obtain⟨al,bo,rfl,_⟩:=H.done
 have a5:=H.toInCall.keep
 obtain⟨cells,a7,Y⟩:=Cl.news (h₀:=s.heap) (eh _) λn c hm=>⟨H.cell n c (GS (GU aJ.scope.names 0 (s.heap.objs.size+1) [] [] rfl▸ok.q8) hm),H.above n c hm⟩
 let F:=s.heap.objs.size
 let B:bL:=⟨aJ.scope,aJ.env F,F,s.heap,[aJ.env F],pw.deeper (aJ.env F),1,10⟩
 have g:fp pw c.base [] s.heap:=⟨rfl,u,trivial⟩
 have k:aZ c B:=by
  refine⟨O,bj,tn g (nR g.stack) rfl ok.kind,?_,?_,?_,?_,rfl,hx.self _ _ rfl,ok.kind,rfl,rfl,rfl,ok.iI,ok.iJ,ay,by rw[N];lia,λy C=>?_⟩
  ·show pw.depth+1<=500+1;decide
  ·show pw.units+3<=2000+10*1;decide
  ·show 1<=300;lia
  ·show 10<=300;lia
  ·rcases C with C|C
   ·exact Tt.mp (cellsFrom_some aJ.scope.names (F+1) [] (.inl C))
   ·exact absurd C (ok.Bp y)
 have a8:Fr B.aC B.L al (bindL (mT aJ.qual aJ.scope F aJ.addr aJ.d9).kindOf [(x,.ref sa)] λZ=>none):=⟨H.toInCall.ns,λb o e=>a5 b o e,eh _⟩
 obtain⟨a9,bq⟩:=Bt aJ.scope.names (F+1) [] .nil (λq G=>nomatch G)
 have a_:=Bv Y
 let T:aX:=⟨c.n,0,1,λZ=>sa,λZ=>sa,λZ=>0,[]⟩
 have I:∀j,j<1->¬bG jB.t j:=λj U bb=>by
  obtain⟨o,ae,ag⟩:=bb
  obtain rfl:j=0:=by lia
  rw[show jB.t.get (key 0)=some (.abs 0)from uO]at ae
  cases ae;cases ag
 have bc:aQ c.K c.w T jB.t cells:=by
  refine⟨a_▸a9,λj o U k8=>?_,λa b D R E=>absurd E (I a D),λa b D R E=>absurd E (I a D),λa b D R E=>absurd E (I a D),λa D E=>absurd E (I a D),by show 1<=4096;lia,λq G=>(nomatch G),λa D E=>absurd E (I a D)⟩
  have U:j<1:=U
  clear U
  obtain rfl:j=0:=by lia
  rw[show jB.t.get (key 0)=some (.abs 0)from uO]at k8
  cases k8
  exact⟨[],λq G=>(nomatch G),G⟩
 have bd:db B T [(4012816120053,.own 0 (key 0))] (bindL (mT aJ.qual aJ.scope F aJ.addr aJ.d9).kindOf [(x,.ref sa)] λZ=>none):=λy v am J=>by
  rw[gE,d6]at J
  by_cases e:(4012816120053:Nat)=aG y
  ·rw[decide_eq_true e]at J
   cases J
   obtain rfl:=gW (ok.ok x (by rw[X];exact .head _)) am (aE.trans e),am,e
   exact .inl ⟨d,.ref sa,Bq (by exact d) (by simp) (.head _),by show 0<1;lia,rfl,rfl⟩
  ·rw[decide_eq_false e]at J;cases J
 have be:ba c B T jB [(4012816120053,.own 0 (key 0))] {s with heap:=al,toks:=bo}:=⟨⟨_,cells,a8,a7,bc,bd⟩,gs,az,⟨rfl,rfl⟩,rfl,N.symm⟩
 have ap:=Fk h N
 have rc:=h.rc k (by show 1+9<=10;lia) (by show 10<=260;lia)
 have pre:=rc.cL Q
 rw[show cp.cL B.sc Q=W from hY]at pre
 rw[aH]
 have ar:B.A.frames=some B.ao:=nR g.stack
 refine nA (b_ (pre jB _ ek h2 T _ (λe aq=>aO (aR c.prog c.w) B.A (qQ B.env e) (λZ l=>(λr aq=>r=.ok (.ret (.bool true))/\(∀b o,c.base.get? b=some o->aq.heap.get? b=some o)/\aq.gens=#[]/\aq.os=c.os/\∀a P,f9 a=some P->∃ps,aq.heap.get? P=some (dw ps)) (.error e:kh) l) (λbF l=>(λr aq=>r=.ok (.ret (.bool true))/\(∀b o,c.base.get? b=some o->aq.heap.get? b=some o)/\aq.gens=#[]/\aq.os=c.os/\∀a P,f9 a=some P->∃ps,aq.heap.get? P=some (dw ps)) (.error bF:kh) l) aq) a0 be ((b6 c 849).no _ _ _) ap) (λbg br ⟨bs,bt,bv,y,bw,bf,bh,as⟩=>?_) λZ Z h=>h)
 obtain⟨rfl,bi⟩:=aY _ _ _ as,as
 cases bf
 refine iE (NQ (f:=B) h dT N ax (λa P e=>(p a P e).1) k rfl rfl rfl rfl ar u aL aN af aP aS hs aU ns bh (λa P e=>(p a P e).2) bi λdone au aD aF cO aq L=>?_)
 have cC:aZ c (B.k8 au):=aZ.ground (f:=B) (eK:=pw) (b7:=[]) dT k rfl rfl ar ⟨rfl,L.st,trivial⟩
 have nz:=(h.rc cC (by show 1+9<=10;lia) (by show 10<=260;lia)).ev e2
 rw[show cp.ev (B.k8 au).sc e2=ds (.bool true)from aV]at nz
 refine iE (qV (cy (nz aF cO (j5 λv Z=>v=.bool true) h2 aD aq _ (fA (P:=λv Z=>v=.bool true) rfl) L.S ((b6 c 849).no _ _ _) ap) (λv bx bz bA w bk bl m av=>?_)))
 have:=mz av
 clear av
 subst this
 cases bl
 obtain⟨bB,bC,aw,bm,bn,_⟩:=m.ex
 refine⟨rfl,λb o e=>aw.keep _ _ (L.st _ _ e),m.gens,m.os,λa P e=>?_⟩
 rcases L.yh a P e with q|⟨ps,q⟩
 ·exact⟨#[],aw.keep _ _ q⟩
 ·exact⟨ps,(bm _ (bn.a6 _ (bk.a6 _ q))).1⟩
def OE (P:bR):(nsIn (KF P) iX d.name,(cX P).get? iY)=(some (some (.ref 1239)),some (boot_o_1 P)):=by kernel_rfl
def OF {R:WRecords} {cl:aI->Option a7} {h:bE} {ai:List am} {xs:List WData} {as:List a7} (r:ReadsAllW R cl h ai xs as) (cj:WShape.hasItems R xs .int=true):(∀v∈ai,∃i t,v=.int i t)/\ai.length=xs.length:=by
 refine⟨λv A=>?_,r.length⟩
 obtain⟨i,af⟩:=Hc A
 clear A
 have B:i<xs.length:=r.length▸(vY.mp af).1
 obtain⟨C,D,e1,e2,_⟩:=r.at i xs[i] (List.getElem?_eq_getElem B)
 rw[af]at e1
 cases e1
 obtain⟨n,e⟩:=hasW_int (hasItemsW_at cj _ (List.getElem_mem B))
 rw[e]at e2
 obtain⟨t,e3,_⟩:=readsW_int_inv e2
 exact⟨n,t,e3⟩
def OG:L.row.toRowW.pre=WTm.and (.not (.lt (.lit (.int 63)) (.len (.arg 0)))) (.lit (.bool true)):=by kernel_rfl
def yj:L.row.toRowW.records=[]:=by kernel_rfl
def OH:L.row.toRowW.args=[.list .int]:=by kernel_rfl
def OI {xs:List WData} (h:(WTm.and (.not (.lt (.lit (.int 63)) (.len (.arg 0)))) (.lit (.bool true))).holds [] {args:=[.list xs]}=true):xs.length<=63:=by
 simp[WTm.holds,WTm.value]at h
 have e:less? (WData.int 63) (WData.int (xs.length:Int))=some (decide ((63:Int)<(xs.length:Int))):=rfl
 rw[e]at h
 by_cases q:(63:Int)<(xs.length:Int)
 ·rw[decide_eq_true q]at h
  exact absurd h (by simp)
 ·lia
def Fp:L.row.toRowW.raises=[]:=by kernel_rfl
def post_eq:L.row.toRowW.post=.eq .res (.lit (.bool true)):=by kernel_rfl
def OJ:WShape.has L.row.toRowW.records (.bool true) L.row.toRowW.returns=true:=by kernel_rfl
def OK {R:WRecords} {args after:List WData}:(WTm.eq .res (.lit (.bool true))).value R {args:=args,res:=some (.bool true),after:=after}=some (.bool true):=by
 simp[WTm.value];kernel_rfl
def i1239:c9:=mA (F 130) 1239 (S "law") (S "law") (r 1238) []
def OL (P:bR):gH (KF P) i1239:=nq (cR:=.type "function") (cB:=none) (gX:=#[]) ak (ai "law_nu0299_01" 1980) [] 1 0 (by kernel_rfl) (λv S=>by kernel_rfl) (by kernel_rfl) (λp=>.nil) (by kernel_rfl) (by kernel_rfl)
def uU:bI:=hQ i1239.body 3
def Fq:List aM:=kQ (eN (kQ (eN (h0 (hQ (ux uU) 0)) 0)) 0)
def hI:aM×aM×aM×List aM×aM×aM:=(eN (h0 uU) 0,eN (h0 uU) 1,eN Fq 0,Fq.drop 1,eN (h0 (hQ (ux (hQ (ux uU) 0)) 0)) 0,eN (h0 (hQ i1239.body 4)) 0)
def Fs:bV:=cp.cL i1239.scope (i1239.body.take 3)
def yk:aT:=cp.ev i1239.scope hI.2.1
def yl:aT:=cp.ev i1239.scope hI.2.2.1
def ym:List aT:=hI.2.2.2.1.map (cp.ev i1239.scope)
def OM:i1239.body=i1239.body.take 3++[.For hI.1 hI.2.1 [.If (.UnaryOp .Not (.Call hI.2.2.1 hI.2.2.2.1 [] ⟨983,15,983,60⟩) ⟨983,11,983,60⟩) [.Return (some hI.2.2.2.2.1) ⟨984,12,984,24⟩] [] ⟨983,8,984,24⟩] [] ⟨982,4,984,24⟩,.Return (some hI.2.2.2.2.2) ⟨985,4,985,15⟩]:=by kernel_rfl
def ON:cp.cL i1239.scope (i1239.body.take 3)=Fs:=rfl
def OO:cp.ev i1239.scope hI.2.1=yk:=rfl
def OP:cp.ev i1239.scope hI.2.2.1=yl:=rfl
def OQ:hI.2.2.2.1.map (cp.ev i1239.scope)=ym:=rfl
def OR:cp.ev i1239.scope hI.2.2.2.2.2=ds (.bool true):=by kernel_rfl
def OS:(i1239.names,i1239.least,i1239.dflt,aG (S "script"),im i1239.scope hI.1,g0 hI.2.1,oh hI.2.2.1,noStar hI.2.2.2.1)=([S "script"],1,[],4012816120053,some (.n 108),true,true,true):=by kernel_rfl
def OT:i1239.scope.names.lookup (S "script")=some .local:=by kernel_rfl
def yn (bg:Fl) (ab:aA) (loc:Loc):Bool:=Fl.rec (yk ab loc (λv ab=>ij cA v ab (λi ab=>qr (.n 108) yl ym i 4 [] ab loc)) h2) false false aL bg
def OU {loc:Loc}:yn .next ab loc=yk ab loc (λv ab=>ij cA v ab (λi ab=>qr (.n 108) yl ym i 4 [] ab loc)) h2:=by kernel_rfl
def OV:Fs jB [(4012816120053,.own 0 (key 0))] yn h2=true:=by kernel_rfl
def OW (h:Std c) (dT:gw c) (A:c.y=0) (B:∀a∈mF,kb c a (f9 a)) {sa:Nat} (C:∀a P,f9 a=some P->c.base.get? P=none/\s.heap.get? P=some (dw #[])) (D:c.base.StaysIn s.heap) (E:c.K.In s.heap) (bj:pd c.pr c.loose c.f1 c.ku s.heap)
  (F:∃o,s.heap.get? iY=some o) (G:c.n.q 0 sa []) (gs:s.gens=#[]) (H:s.os=c.os):
  dH (aR c.prog c.w) pw (.call (.ref 1239) ⟨[.ref sa],[]⟩) (λr aq=>r=.ok (.ret (.bool true))/\(∀b o,c.base.get? b=some o->aq.heap.get? b=some o)/\aq.gens=#[]/\aq.os=c.os/\∀a P,f9 a=some P->∃ps,aq.heap.get? P=some (dw ps)) s:=by
 have ok:=OL c.w.params
 rw[<-h.K]at ok
 have e:=OS
 injection e with e1 e
 injection e with e2 e
 injection e with e3 e
 injection e with e4 e
 injection e with e5 e
 injection e with e6 e
 injection e with e7 e8
 refine OD (aJ:=i1239) h dT A B C D E bj F G gs H ok e1 e2 e3 e4 OT OM ON e5 rfl OO OP OQ e6 e7 e8 OR (ek:=yn) (λbg ab loc k=>?_) OV
 cases bg with
 |next=>exact⟨rfl,OU.symm.trans k⟩
 |_=>cases k
def OX (P:bR):((cX P).get? 1199,(cX P).get? 1219)=(some (dw #[]),some (dw #[])):=by kernel_rfl
def OY (P:bR):noTabs (KF P)=true:=by kernel_rfl
abbrev Ft:List (a7×a7):=[(1201,1199),(1221,1219)]
set_option tactic.hygienic true in
def OZ (f:∀c:b4,Std c->gw c->∀a∈mF,kb c a (f9 a)):L.Holds:=head λw D B f1 ku ar h a o pm dB am d_ an ae ag ax aS bA gs args ao as A pre i O j low=>by
 clear ae i j low
 have E:D.heap=cX w.params:=congrArg lN h
 have k:(KF w.params).In D.heap:=by rw[E];exact k_in w.params
 have X:(KF w.params).In B.heap:=k.keeps A.keeps
 have T:pd q (mX q loose) f1 ku B.heap:=topRead_of ar.T
 have Q:=OE w.params
 have R:=congrArg lN Q
 have I:=congrArg Prod.snd Q
 dsimp only at R I
 have J:=mg_of X T.g R
 have m:(1239:Nat)=a:=fq.inj (gR (J.symm.trans bA))
 clear bA
 subst m
 obtain⟨hY,lr⟩:=pre_splitW pre
 clear pre
 rw[OH]at hY
 rw[yj]at hY
 obtain⟨eC,ap,rfl,aK,aW⟩:=hasAllW_cons hY
 clear hY
 obtain rfl:=hasAllW_nil aW,aW
 obtain⟨xs,rfl,bH⟩:=hasW_list aK,aK
 rw[OG,yj]at lr
 have p:=OI lr
 rw[yj]at O
 obtain⟨v1,au,av,aw,rfl,_,t,t1⟩:=readsAllW_cons_inv O
 obtain⟨rfl,_⟩:=readsAllW_nil_inv t1
 obtain⟨sa,ai,eH,rfl,⟨bU,g1,g2,u,g3⟩,aa,_⟩:=readsW_list_inv t
 clear zu
 obtain⟨i1,i2⟩:=OF aa bH
 have S:=OX w.params
 have F:=congrArg lN S
 have G:=congrArg Prod.snd S
 dsimp only at F G
 rw[<-E]at F G
 have bj:TabsAt Ft B.heap:=λz M=>by
  rcases bJ.mp M with rfl|M
  ·exact⟨uQ X (Fb _),A.keeps _ _ F⟩
  ·rw[h7.mp M];exact⟨uQ X (Fc _),A.keeps _ _ G⟩
 let c:b4:={prog:=L.row.toRowW.prog,w:=w,K:=KF w.params,os:=B.os,base:=ghostOf B.heap Ft,pr:=q,loose:=mX q loose,f1:=f1,ku:=ku,n:=⟨λZ=>0,λZ N Z=>N=sa,λZ Z Z Z=>False⟩,y:=0}
 have ab:c.base.StaysIn B.heap:=λb o e=>nQ _ e
 have U:Std c:=⟨rfl,λN l e=>by
  clear A
  have e:N=sa:=e
  subst e
  exact⟨ai.toList,ghost_list bj ⟨bU,g1,g2,u,by rw[g3]⟩,by rw[i2];exact p,i1⟩⟩
 have dT:gw c:=by
  refine⟨ghost_K bj X (OY _),⟨ghost_ns bj T.g,ghost_ns bj T.b,?_,T.builtins,T.free⟩,⟨_,ghost_get bj (A.keeps _ _ (by rw[E];exact I)) λq=>?_⟩,?_⟩
  ·obtain⟨af,ah,aj⟩:=T.nolimit
   exact⟨af,ghost_ns bj ah,aj⟩
  ·injection q with q;cases q
  ·obtain⟨bm,bU,cW,d1,fk,H,V,W⟩:=ar.T.bmain
   refine⟨bm,bU,cW,d1,λq=>?_,ghost_get bj fk λq=>?_,H,V,W⟩
   clear H V
   ·obtain⟨ay,es,az,ak,Y,_⟩:=T.g
    rw[q,ak]at fk;cases fk;rw[W]at Y;cases Y
   ·rw[q]at H;cases H
 refine nP (hp (kn_post (cw:=L.row.claim) (cl:=classAt D.heap) (mean:=ExcName.means D.heap) (args:=[WData.list xs]) bj (λa x=>raisesW_false (λal C=>by rw[Fp]at C;cases C) x) (hp (OW (c:=c) U dT rfl (f c U dT) (s:=B) (sa:=sa) (λa P e=>?_) ab X T ⟨_,A.keeps _ _ (by rw[E];exact I)⟩ rfl gs rfl) λr aq ⟨e1,e2,e3,e4,e5⟩=>?_)) λr aq z=>?_)
 ·rcases r9 e,e with⟨_,rfl⟩|⟨_,rfl⟩
  ·exact⟨pe _ (.head _),A.keeps _ _ F⟩
  ·exact⟨pe _ (.tail _ (.head _)),A.keeps _ _ G⟩
 ·subst e1
  refine⟨⟨.inl ⟨.bool true,.bool true,[],rfl,raisesW_false (λal C=>by rw[Fp]at C;cases C),.bool true,postW_of (X:=true) OJ (by rw[post_eq];exact OK) rfl,λZ=>⟨.nil,λa J=>(nomatch J)⟩⟩,e2,e4,e3⟩,e5 1202 1199 rfl,e5 1222 1219 rfl,trivial⟩
 ·rcases r with e|(_|_|_|v)
  ·exact z
  ·rcases z.1 with⟨v,d,as,q,_⟩|⟨e,bU,cls,q,_⟩<;>cases q
  ·rcases z.1 with⟨v,d,as,q,_⟩|⟨e,bU,cls,q,_⟩<;>cases q
  ·rcases z.1 with⟨v,d,as,q,_⟩|⟨e,bU,cls,q,_⟩<;>cases q
  ·exact z
def i1202:c9:=mA (F 123) 1202 (S "_law_copies_right") (S "_law_copies_right") (r 1201) []
def O0 (P:bR):gH (KF P) i1202:=nq (cR:=.type "function") (cB:=none) (gX:=#[]) ak (ai "law_nu0299_01" 1980) [] 3 0 (by kernel_rfl) (λv S=>by kernel_rfl) (by kernel_rfl) (λp=>.nil) (by kernel_rfl) (by kernel_rfl)
def yo:bV:=cp.cL i1202.scope (i1202.body.take 15)
def r_:f3:=⟨[(1636473,false),(32449033957,true),(29466883174,false)],[27872785267,56791492153881205],3,[],yo⟩
def O1 (P:bR):kx (KF P) r_ i1202:=uw (by kernel_rfl) (by kernel_rfl) (by kernel_rfl)
def Fu:List aM:=kQ (eN (h0 (hQ (i1202.body.drop 15) 0)) 0)
def Fv:aM:=eN (kQ (eN (kQ (eN Fu 0)) 0)) 1
def jC:bB×aM×aM:=((Ua Fv).1,eN (kQ Fv) 0,eN Fu 1)
def yp:aT:=cp.ev jC.1 jC.2.1
def yq:aT:=cp.ev i1202.scope jC.2.2
def O2:i1202.body=i1202.body.take 15++[.Return (some (.BoolOp .And [.Compare (.Call (.Name (S "_law_error") ⟨880,11,880,21⟩) [.Lambda noArgs jC.2.1 jC.1 ⟨880,22,880,56⟩] [] ⟨880,11,880,57⟩) [.Eq] [.Constant (.str (S "error TypeError")) 0 ⟨880,61,880,78⟩] ⟨880,11,880,78⟩,jC.2.2] ⟨880,11,880,112⟩)) ⟨880,4,880,112⟩]:=by kernel_rfl
def O3:cp.cL i1202.scope (i1202.body.take 15)=yo:=rfl
def e1202:cp.ev jC.1 jC.2.1=yp:=rfl
def O4:cp.ev i1202.scope jC.2.2=yq:=rfl
def O5:(kR i1202.scope jC.1,noStar [.Lambda noArgs jC.2.1 jC.1 ⟨880,22,880,56⟩],bf (S "error TypeError"),ep i1202.scope (S "_law_error") .globalImplicit)=(true,true,true,true):=by kernel_rfl
def O6:((freeOf jC.1).map aG,aG (S "error "),aG (S "error TypeError"),i1202.d9)=([56791492153881205,27872785267,32449033957],3535806413217,32612057999403654459491666950259,r 1201):=by kernel_rfl
abbrev eF:b5:=hc iq cg 24
abbrev qs:b5:=hc iq cg 20
def yr (bg:Fl) (ab:aA) (loc:Loc):Bool:=Fl.rec (lC [56791492153881205,27872785267,32449033957] yp qs 3535806413217 (λb aF=>aN (aU b 32612057999403654459491666950259) (yq aF loc h1 ⟨eF,b1⟩)) ab loc) false false aL bg
def O7 {loc:Loc}:yr .next ab loc=lC [56791492153881205,27872785267,32449033957] yp qs 3535806413217 (λb aF=>aN (aU b 32612057999403654459491666950259) (yq aF loc h1 ⟨eF,b1⟩)) ab loc:=by kernel_rfl
def O8:gI r_.e_ (je r_.dflt r_.least [.own 0 (key 0),gv,gt]) ir [] (λab loc=>hU r_.cells ab loc λab loc=>yo ab loc yr ⟨eF,b1⟩)=true:=by kernel_rfl
def sb {eK:hN} {base h:bE} {b7:List cI} {P:a7} {ps:Array am} (K:fp eK base b7 h) (A:base.get? P=none) (B:h.get? P=some (dw ps)):fp eK base b7 (h.hide P):=
 ⟨K.stack,λb o e=>(lY _ λq=>by rw[q,A]at e;cases e).trans (K.stays b o e),K.frames.of_keeps λb o e C=>⟨o,(lY _ λq=>by rw[q,B]at e;cases e;exact C _ rfl).trans e,rfl⟩⟩
def O9 {b w:V} {A:List am} (B:v=.int 0∨v=.int 1) (h:All2 (aE p) [b,w,v] A):All2 (aE p) [b,w,gt] A:=by
 cases h with
 |cons C t1=>
  cases t1 with
  |cons D b8=>
   cases b8 with
   |cons E fg=>
    cases fg
    refine .cons C (.cons D (.cons ?_ .nil))
    rcases B with rfl|rfl<;>(obtain⟨t,rfl⟩:=E;exact ie)
def gw.at (h:gw c) (x y:Int):gw (c.at x y):=⟨h.X,h.T,h.sys,h.bm⟩
def O_ (h:Std c) (B:gw c) {C:bL} {P:a7} {ps:Array am} {bv:bB} {c2:aM} {aV:aT} (G:aZ c C) (E:C.ao=C.env::f.ao) (F:C.env.frame=some C.L) (H:C.A.frames=some C.ao) (hd:C.d<=20) (J:C.d+30+10*n<=260)
  (K:fp f.A c.base f.ao C.aC) (D:c.base.get? P=none) (M:C.aC.get? P=some (dw ps)) (hle:ep C.sc (S "_law_error") .globalImplicit=true) (lam:kR C.sc bv=true) (he:cp.ev bv c2=aV):
  qm c 849 829 i1176 (S "act") (S "Raised") (S "e") (S "error ") (S "_law_error") (C.k8 (C.aC.hide P)) f.ao f.A bv c2 aV (hc iq cg n):=by
 have iP:=sb K D M
 have g:=E7 h.K
 refine⟨B,E5 h.K,E6 h.K,g.2,aZ.ground (f:=C) B G E F H iP,by show C.d+40<=300;lia,iP,λb D=>?_,λbq N=>aZ.ground (f:=C) (bq:=bq) B G E F H N,fd hle,g.1,lam,λO ax hs Q I=>?_,j6 h.a0 (j_ h.a0) n (C.d+30) J⟩
 ·have D:b∈C.ao.filterMap (·.frame):=D
  rw[E]at D
  obtain⟨e,he,ae⟩:=jc.mp D
  rcases bJ.mp he with rfl|he
  ·exact .inl (gR (ae.symm.trans F))
  ·exact .inr (jc.mpr ⟨e,he,ae⟩)
 ·have I:O.b<=C.d+30:=I
  have:=(h.rc ax Q (by lia)).ev c2
  rw[hs,he]at this
  exact this
def Pa (h:Std c) (dT:gw c) {cC:f3} {aJ:c9} {P b0:a7} {J:List bI} {D:bV} {aV cf:aT} {c2 e2:aM} {bv:bB} {kS:aI} {aK dr gr aW bH cV eI:bO} {e:Nat} {ek:dy} (ok:gH c.K aJ) (g:kx c.K cC aJ)
  (i:aJ.body=J++[.Return (some (.BoolOp .And [.Compare (.Call (.Name (S "_law_error") aK) [.Lambda noArgs c2 bv dr] [] gr) [.Eq] [.Constant (.str kS) e aW] bH,e2] cV)) eI])
  (hY:cp.cL aJ.scope J=D) (e1:cp.ev bv c2=aV) (j:cp.ev aJ.scope e2=cf) (s1:kR aJ.scope bv=true) (a5:noStar [.Lambda noArgs c2 bv dr]=true) (eX:bf kS=true) (hR:ep aJ.scope (S "_law_error") .globalImplicit=true) (fL:aJ.d9=.ref b0) (l:qq c.K b0 P=true)
  (o:∀bg ab loc,ek bg ab loc=true->bg=.next/\lC ((freeOf bv).map aG) aV qs (aG (S "error ")) (λb aF=>aN (aU b (aG kS)) (cf aF loc h1 ⟨eF,b1⟩)) ab loc=true)
  (run:gI cC.e_ (je cC.dflt cC.least [.own 0 (key 0),gv,gt]) ir [] (λab loc=>hU cC.cells ab loc λab loc=>D ab loc ek ⟨eF,b1⟩)=true):kb c aJ.addr (some P):=by
 intro x y v f p bl m aj s E q r bm ah hd t u bn aa F ak H z gs os O Q ae
 have av:=h.at x y
 have af:=dT.at x y
 obtain⟨ag,R⟩:=aa P rfl
 obtain⟨ai,al,am,an,ap⟩:=g
 have ar:gI cC.e_ (je aJ.dflt aJ.least [.own 0 (key 0),gv,gt]) ir [] (λab loc=>hU cC.cells ab loc λab loc=>D ab loc ek ⟨eF,b1⟩)=true:=by
  rw[<-am,<-an];exact run
 refine enter (c:=c.at x y) (aJ:=aJ) (e_:=cC.e_) (cl:=cC.cells) (KK:=λab loc=>D ab loc ek ⟨eF,b1⟩) (d:=10) (by lia) ok ai al ap ah hd F ak (uP H z.ay O r Q) (ab:=ir) ⟨z.ay,z.bz⟩ (O9 q ae) ar λB bp as T U V aw bo L ax G az W aA I C Y br aB aE e02 aH aL aO aP M lv=>?_
 have aQ:ba (c.at x y) B T U V {s with heap:=aw,toks:=bo}:=⟨⟨_,as++aj,aB,aE,aL,aO⟩,gs,os,aH,e02.n.trans O,e02.y.trans Q⟩
 have pre:=(av.rc L (by rw[I,C];lia) (by rw[C];lia)).cL J
 rw[G,hY]at pre
 rw[i]
 have aR:B.A.frames=some B.ao:=by rw[aA,W];exact nR (ah.stack F)
 have N:B.aC.get? P=some (dw #[]):=Y.keep _ _ ag
 refine nA (hT (pre U V ek ⟨eF,b1⟩ T _ _ aP aQ ((b6 (c.at x y) 849).no _ _ _) (j6 av.a0 (j_ av.a0) 24 B.b (by rw[C];lia))) (λbg bs bt bu bw dM aS aX aY a=>?_))
 obtain⟨rfl,aZ⟩:=o _ _ _ a,a
 cases aX
 have a1:=O_ (n:=20) av af L W az aR (by rw[I];lia) (by rw[I];lia) M R N (by rw[G];exact hR) (by rw[G];exact s1) e1
 have a2:B.env.code=.ref b0:=by rw[ax];exact fL
 have a4:lX B.aC b0 P:=uQ L.X l
 have a6:=j6 av.a0 (j_ av.a0) 24 B.b (by rw[C];lia)
 refine NS (k:=h1) (au:=⟨eF,b1⟩) (qk av.K) a1 aY a2 a4 N a5 eX (λbq cC=>?_) rfl a6 aZ λv aq a8=>?_
 ·have:=(av.rc cC (by show B.d+9<=B.b;rw[I,C];lia) (by show B.b<=260;rw[C];lia)).ev e2
  rw[show cp.ev (B.k8 bq).sc e2=cf by show cp.ev B.sc _=_;rw[G];exact j]at this
  exact this
 ·obtain⟨⟨bq,hX,aD,aF,w,a3,e4,di,a9,a_,bb,bc,bd,l_,ps,be⟩,bh,bi⟩:=a8
  rw[t]at M l_
  obtain⟨bj,bk⟩:=Ff Y (sb M R N) u l_ a_ bb
  exact⟨⟨aD,aF,w,a3,(e02.trans aS).trans e4,di,bj,bk,bc,bd,a9,λP c0=>by cases c0;exact⟨ps,be⟩⟩,bh,bi⟩
def Pb (h:Std c) (dT:gw c):kb c 1202 (some 1199):=by
 have ok:=O0 c.w.params
 rw[<-h.K]at ok
 have C:=O1 c.w.params
 rw[<-h.K]at C
 have dB:=Fb c.w.params
 rw[<-h.K]at dB
 have A:=O5
 injection A with s1 A
 injection A with a5 A
 injection A with eX hR
 have B:=O6
 injection B with t1 B
 injection B with b8 B
 injection B with fg fL
 refine Pa (aJ:=i1202) h dT ok C O2 O3 e1202 O4 s1 a5 eX hR fL dB (ek:=yr) (λbg ab loc k=>?_) O8
 cases bg with
 |next=>rw[t1,b8,fg];exact⟨rfl,O7.symm.trans k⟩
 |_=>cases k
def cE (n:Nat):V->Bool
 |.own i _=>dc i n
 |_=>true
def er (n:Nat):O->Bool
 |.inst _ ao=>ao.all λq=>cE n q.2
 |.dict _ ao=>ao.all λq=>cE n q.2
 |.tdict _ _=>false
 |.list xs=>xs.all (cE n)
 |.tuple xs=>xs.all (cE n)
 |.cell (some v)=>cE n v
 |.lit v _=>cE n v
 |.tit v _=>cE n v
 |.dit v _ _ _=>cE n v
 |.dvi v _ _ _=>cE n v
 |.dii v _ _ _=>cE n v
 |.dis v=>cE n v
 |.dvs v=>cE n v
 |.enm v _=>cE n v
 |.rinst _ ao=>ao.all λq=>cE n q.2
 |.rlist xs=>xs.all (cE n)
 |_=>true
abbrev aX.cut (p:aX) (n:Nat):aX:={p with ay:=n}
def aE.cut {x:V} {v:am} (h:cE n x=true) (r:aE p x v):aE (p.cut n) x v:=by
 cases x with
 |own i k=>exact⟨ce h,r.2⟩
 |_=>exact r
def ys:∀{xs:List V} {ai:List am},xs.all (cE n)=true->All2 (aE p) xs ai->All2 (aE (p.cut n)) xs ai:=by
 intro ao es h r
 induction r with
 |nil=>
  exact .nil
 |@cons x e xs es r t A=>
  rw[oX,ed]at h
  exact .cons (r.cut h.1) (A h.2)
def yt:∀{ao:List (Nat×V)} {es:List cu},(ao.all λq=>cE n q.2)=true->cm w p ao es->cm w (p.cut n) ao es:=by
 intro ao es h r
 induction r with
 |nil=>
  exact .nil
 |@cons x e xs es r t A=>
  rw[oX,ed]at h
  exact .cons ⟨r.1,r.2.cut h.1⟩ (A h.2)
def yu:n9 (p.cut n) v=n9 p v:=by cases v<;>rfl
def ch.cut {aj:bc} {o:O} (A:er n o=true) (h:ch K w p aj i o):ch K w (p.cut n) aj i o:=by
 cases o with
 |inst C ao=>obtain⟨B,ae,es,m,ag,ax⟩:=h;exact⟨B,ae,es,m,ag,yt A ax⟩
 |dict az ao=>obtain⟨B,es,ag,ax⟩:=h;exact⟨B,es,ag,yt A ax⟩
 |tdict az ao=>cases A
 |list xs=>obtain⟨ai,m,ag,ax⟩:=h;exact⟨ai,m,ag,ys A ax⟩
 |tuple xs=>obtain⟨ai,m,ag,ax⟩:=h;exact⟨ai,m,ag,ys A ax⟩
 |cell v=>
  obtain⟨o,y,ae,ag,ax⟩:=h
  refine⟨o,y,ae,ag,?_⟩
  cases v with
  |none=>exact ax
  |some v=>obtain⟨val,e,r⟩:=ax;exact⟨val,e,r.cut A⟩
 |lit v m=>obtain⟨a,o,r,ae,ag⟩:=h;exact⟨a,o,r.cut A,ae,ag⟩
 |tit v m=>obtain⟨a,o,r,ae,ag⟩:=h;exact⟨a,o,r.cut A,ae,ag⟩
 |dit v m q az=>obtain⟨a,o,r,ae,ag⟩:=h;exact⟨a,o,r.cut A,ae,by rw[yu];exact ag⟩
 |dvi v m q az=>obtain⟨a,o,r,ae,ag⟩:=h;exact⟨a,o,r.cut A,ae,by rw[yu];exact ag⟩
 |dii v m q az=>obtain⟨a,x,y,r,ae⟩:=h;exact⟨a,x,y,r.cut A,by rw[yu];exact ae⟩
 |dis v=>obtain⟨a,r,ae⟩:=h;exact⟨a,r.cut A,ae⟩
 |dvs v=>obtain⟨a,r,ae⟩:=h;exact⟨a,r.cut A,ae⟩
 |enm v m=>obtain⟨a,D,r,ae⟩:=h;exact⟨a,D,r.cut A,ae⟩
 |box _=>obtain⟨x,y,t,u,m,ae,ag⟩:=h;exact⟨x,y,t,u,m,ae,ag⟩
 |rng _ _=>obtain⟨t,u,v,ae⟩:=h;exact⟨t,u,v,ae⟩
 |rit _ _=>exact h
 |sit=>obtain⟨t,o,ae,ag⟩:=h;exact⟨t,o,ae,ag⟩
 |trues _=>obtain⟨ai,m,ae,ag⟩:=h;exact⟨ai,m,ae,ag⟩
 |dead=>exact h
 |abs _=>obtain⟨l,ae,ag⟩:=h;exact⟨l,ae,ag⟩
 |rinst C ao=>obtain⟨B,ae,es,m,ag,ax⟩:=h;exact⟨B,ae,es,m,ag,yt A ax⟩
 |rlist xs=>obtain⟨ai,m,ag,ax⟩:=h;exact⟨ai,m,ag,ys A ax⟩
inductive hf:Option O->O->Prop
 |same {o}:hf (some o) o
 |dead {x}:hf x .dead
 |box {a b} (h:a<=b):hf (some (.box a)) (.box b)
 |trues {z}:hf (some (.list [])) (.trues z)
def hf.live {x:Option O} {o:O} (h:hf x o) (A:o.live=true):∃y,x=some y/\y.live=true:=by
 cases h with
 |same=>exact⟨_,rfl,A⟩
 |dead=>cases A
 |box _=>exact⟨_,rfl,rfl⟩
 |trues=>exact⟨_,rfl,rfl⟩
def hf.lv {t:T} {o:O} (h:hf (t.get (key i)) o) (A:o.live=true):bG t i:=e1_2 (h.live A) .mk
def aQ.cut {t bZ:T} {aj:bc} (H:aQ K w p t aj) (A:n<=p.ay) (h:∀i,i<n->∀o,bZ.get (key i)=some o->hf (t.get (key i)) o/\er n o=true):aQ K w (p.cut n) bZ aj:=by
 have lv:∀i,i<n->bG bZ i->bG t i:=λi af ⟨o,ae,ag⟩=>(h i af o ae).1.lv ag
 refine⟨H.a_,λi o af k8=>?_,λi j af B li C=>H.aa i j (cH af A) (cH B A) (lv i af li) (lv j B C),λi j af B li C=>H.dp i j (cH af A) (cH B A) (lv i af li) (lv j B C),
  λi j af B li C=>H.cG i j (cH af A) (cH B A) (lv i af li) (lv j B C),λi af li=>H.mem i (cH af A) (lv i af li),c5 A H.small,H.a6,λi af li=>H.eB i (cH af A) (lv i af li)⟩
 have af:i<n:=af
 obtain⟨D,E⟩:=h i af o k8
 clear k8
 refine ch.cut E ?_
 clear E
 have ent:∀y,t.get (key i)=some y->ch K w p aj i y:=λy e=>H.ent i y (cH af A) e
 generalize t.get (key i)=q at D ent
 cases D with
 |same=>exact ent _ rfl
 |dead=>trivial
 |box G=>
  obtain⟨x,y,fU,ty,m,ae,ag,ax⟩:=ent _ rfl
  exact⟨x,y,fU,ty,m,ae,ag,by lia⟩
 |trues=>
  obtain⟨ai,m,ae,ag⟩:=ent _ rfl
  cases ag
  exact⟨[],m,ae,(λv F=>nomatch F),hL _⟩
def db.cut {loc cO:Loc} (h:db f p loc m) (A:∀x v,lk cO x=some v->lk loc x=some v/\cE n v=true):db f (p.cut n) cO m:=λx v B C=>by
 obtain⟨ae,ag⟩:=A _ _ C
 rcases h x v B ae with⟨c,val,a,b⟩|⟨c,i,k,a,e1,r,q⟩
 ·exact .inl ⟨c,val,a,b.cut ag⟩
 ·exact .inr ⟨c,i,k,a,e1,r.cut ag,q⟩
def ba.cut {loc cO:Loc} {bZ:T} (S:ba c f p ab loc s) (A:n<=ab.ay) (h:∀i,i<n->∀o,bZ.get (key i)=some o->hf (ab.t.get (key i)) o/\er n o=true) (B:∀x v,lk cO x=some v->lk loc x=some v/\cE n v=true):
  ba c f (p.cut n) ⟨bZ,n,key n⟩ cO s:=by
 obtain⟨m,aj,F,ak,H,C⟩:=S.ex
 exact⟨⟨m,aj,F,ak,H.cut (by rw[S.z.ay];exact A) h,C.cut B⟩,S.gens,S.os,⟨rfl,rfl⟩,S.n,S.y⟩
def aX.bN.cut {aD:aX} (e:p.bN aD):p.bN (aD.cut p.ay):=⟨e.n,e.y,eh _,e.a,e.b,e.e,e.a6⟩
def wO {ar:Prop} {k:Nat} {o bC:O} {t:T} (A:b2 (k+1) 4096=true) (af:i<4096) (h:(T.put bC (key k) t).get (key i)=some o) (ae:i=k->bC=o->ar) (ag:i≠k->t.get (key i)=some o->ar):ar:=by
 rw[T.cd bC t (ce A) af]at h
 by_cases e:i=k
 ·rw[if_pos e]at h;exact ae e (gR h)
 ·rw[if_neg e]at h;exact ag e h
def fV:T:=EL [.box 0,cT,.inst 1151 (x6.zip [(bb 1),(bb 3),.none,(.int (.ofNat 20000)),(.int (.ofNat 0)),(.int (.ofNat 12)),(.int (.ofNat 8)),(bb 4),(bb 5),(.int (.ofNat 0)),(.int (.ofNat 0)),(bb 6),(bb 7),(.bool .true),(bb 58)]),cT,cT,.dict 9 [(2775580258933,(bb 9)),(80011947843862019027573,(bb 16)),(18483821172,(bb 23)),(2710338123494,(bb 30)),(2638963536749,(bb 49)),(2917867894760,(bb 64)),(635322173910836377318,(bb 74)),(17959809402,(bb 87)),(653701350933434791654,(bb 97))],cT,dm,.dead,.inst 249 (iS.zip [(.int (.ofNat 2)),(bb 23),(bb 10),.none,(.bool .false),.none,(.str 2775580258933),(.bool .true),(bb 16),.none,(bb 11),(bb 12),(bb 47),(bb 14),.none,(.str 2775580258933),.none]),cT,cT,cT,dm,dm,.dead,.inst 249 (iS.zip [(.int (.ofNat 3)),(bb 23),(bb 17),.none,(.bool .false),.none,(.str 80011947843862019027573),(.bool .true),.none,.none,(bb 18),(bb 19),(bb 44),(bb 21),.none,(.str 80011947843862019027573),.none]),cT,cT,cT,dm,dm,.dead,.inst 249 (iS.zip [(.int (.ofNat 4)),(bb 23),(bb 24),.none,(.bool .false),.none,(.str 18483821172),(.bool .true),(bb 30),.none,(bb 25),(bb 26),(bb 41),(bb 28),.none,(.str 18483821172),.none]),cT,cT,cT,dm,dm,.dead,.inst 249 (iS.zip [(.int (.ofNat 5)),(bb 23),(bb 31),.none,(.bool .false),.none,(.str 2710338123494),(.bool .true),(bb 9),.none,(bb 32),(bb 33),(bb 38),(bb 35),.none,(.str 2710338123494),.none]),cT,cT,cT,dm,dm,.tuple [],.dead,dm,.tuple [],.dead,dm,.tuple [],.dead,dm,.tuple [],.dead,.list [(bb 49)],.dead,.inst 249 (iS.zip [(.int (.ofNat 6)),(bb 30),(bb 50),.none,(.bool .false),.none,(.str 2638963536749),(.bool .false),.none,.none,(bb 51),(bb 52),(bb 57),(bb 54),.none,(.str 2638963536749),.none]),cT,cT,cT,dm,dm,.tuple [],.dead,dm,.inst 61 (x7.zip [(.int (.ofNat 1)),(bb 9),(bb 59),.none,(.bool .false),.none]),cT,.list [(.str 2775580258933),(.str 80011947843862019027573),(.str 18483821172),(.str 2710338123494),(.str 2638963536749)],.dead,.cell (some (bb 2)),.cell (some (bb 2)),.inst 249 (iS.zip [(.int (.ofNat 8)),(bb 23),(bb 65),.none,(.bool .false),.none,(.str 2917867894760),(.bool .true),(bb 9),.none,(bb 66),(bb 67),(bb 72),(bb 69),.none,(.str 2917867894760),.none]),cT,cT,cT,dm,dm,.tuple [],.dead,.list [(bb 74)],.cell (some (bb 2)),.inst 249 (iS.zip [(.int (.ofNat 9)),(bb 30),(bb 75),.none,(.bool .false),.none,(.str 635322173910836377318),(.bool .false),.none,.none,(bb 76),(bb 77),(bb 82),(bb 79),.none,(.str 635322173910836377318),.none]),cT,cT,cT,dm,dm,.tuple [],.dead,dm,.inst 83 (EM.zip [(.int (.ofNat 7)),(bb 64),(bb 84),.none,(.bool .false),.none,(.str 98)]),cT,dm,.cell (some (bb 2)),.inst 249 (iS.zip [(.int (.ofNat 11)),(bb 23),(bb 88),.none,(.bool .false),.none,(.str 17959809402),(.bool .true),(bb 9),.none,(bb 89),(bb 90),(bb 95),(bb 92),.none,(.str 17959809402),.none]),cT,cT,cT,dm,dm,.tuple [],.dead,.list [(bb 97)],.cell (some (bb 2)),.inst 249 (iS.zip [(.int (.ofNat 12)),(bb 30),(bb 98),.none,(.bool .false),.none,(.str 653701350933434791654),(.bool .false),.none,.none,(bb 99),(bb 100),(bb 105),(bb 102),.none,(.str 653701350933434791654),.none]),cT,cT,cT,dm,dm,.tuple [],.dead,dm,dm,.inst 103 (EN.zip [(.int (.ofNat 10)),(bb 87),(bb 108),.none,(.bool .false),.none,(bb 106)]),cT,.list [(bb 83),(bb 107),(.str 98),(.str 99),(bb 58)],dm,dm,.tuple [(bb 110),(bb 111)]] 113 4 0 1
def uV (li:Int):List (Nat×V):=x6.zip [(bb 1),(bb 3),.none,(.int (.ofNat 20000)),(.int (.ofNat 0)),(.int (.ofNat 12)),(.int li),(bb 4),(bb 5),(.int (.ofNat 0)),(.int (.ofNat 0)),(bb 6),(bb 7),(.bool .true),(bb 58)]
def uW (v:V):List (Nat×V):=EM.zip [(.int (.ofNat 7)),(bb 64),(bb 84),.none,(.bool .false),v,(.str 98)]
def uX (v:V):List (Nat×V):=EN.zip [(.int (.ofNat 10)),(bb 87),(bb 108),.none,(.bool .false),v,(bb 106)]
def uY (v:V):List (Nat×V):=x7.zip [(.int (.ofNat 1)),(bb 9),(bb 59),.none,(.bool .false),v]
structure gx where
 a4:Nat
 li:Int
 az:Nat
 es:List (Nat×V)
 v0:V
 v1:V
 v2:V
 bs:List V
 z:Nat
 it:O
def qt (P:gx):T:=T.put P.it (key 114) (T.put .dead (key 113) (T.put (.trues P.z) (key 111) (T.put (.list P.bs) (key 110) (T.put (.inst 61 (uY P.v2)) (key 58) (T.put (.inst 103 (uX P.v1)) (key 107) (T.put (.inst 83 (uW P.v0)) (key 83) (T.put (.dict P.az P.es) (key 4) (T.put (.inst 1151 (uV P.li)) (key 2) (T.put (.box P.a4) (key 0) fV)))))))))
abbrev dA (P:gx):aA:=⟨qt P,115,key 115⟩
def fM (A:Int):Loc:=[(29466883174,.int A),(32449033957,.own 62 (key 62)),(1636473,.own 0 (key 0)),(4048499242100,.own 109 (key 109)),(244953967,.own 110 (key 110)),(28401252837,.own 111 (key 111))]
abbrev f_:ef:=⟨eF,b1⟩
def i1222:c9:=mA (F 127) 1222 (S "_law_idents_right") (S "_law_idents_right") (r 1221) []
def yv:bI:=hQ i1222.body 2
def gZ:aM×aM×List bI:=(eN (h0 yv) 0,eN (h0 yv) 1,ux yv)
def yw:aM:=eN (h0 (hQ i1222.body 7)) 0
def Fw:aM:=eN (kQ (eN (kQ yw) 0)) 1
def gy:(bB×aM)×(aM×bB):=(((Ua Fw).1,eN (kQ Fw) 0),(((Ua yw).2.map (·.iter)).headD Ey,(Ua yw).1))
def yx:aM:=eN (h0 (hQ i1222.body 8)) 0
def uZ:bV:=cp.cL i1222.scope (i1222.body.take 2)
def u0:aT:=cp.ev i1222.scope gZ.2.1
def yy:bV:=(ni (.n 12661) (jm 1169 [(dj 1636473),(ds (.int 5))]))
def u1:bV:=(nh (jU cA .NotIn (dj 12661) (dj 244953967)) (tT (tM (dj 244953967) (dj 12661))) kG)
def kT:bV:=(tT (tM (dj 28401252837) (wT (jU cA .Eq (jm 645 [(ra 32449033957),(jk cA (dj 4048499242100) (dj 12661)),(m9 [])]) (hz .Add (ds (.int 16)) (hz .Mult (ds (.int 8)) (tN (dj 244953967) (dj 12661))))))))
def yz:bV:=(jZ yy (jZ u1 kT))
def Fx:bV:=cp.cL i1222.scope ((i1222.body.drop 3).take 4)
def yA:aT:=cp.ev gy.1.1 gy.1.2
def yB:aT:=cp.ev i1222.scope gy.2.1
def yC:aT:=cp.ev i1222.scope yx
def yD:List (Nat×Bool):=[(1636473,false),(32449033957,true),(29466883174,false)]
def Pc (K:dy):gI yD [.own 0 (key 0),gv,.int 0] ir [] (λab loc=>hU [] ab loc λab loc=>uZ ab loc K f_)=K .next ⟨fV,113,key 113⟩ (fM 0):=by kernel_rfl
def Pd (K:dy):gI yD [.own 0 (key 0),gv,.int 1] ir [] (λab loc=>hU [] ab loc λab loc=>uZ ab loc K f_)=K .next ⟨fV,113,key 113⟩ (fM 1):=by kernel_rfl
def Pe (K:aY):u0 ⟨fV,113,key 113⟩ (fM 0) (λv ab=>ij cA v ab K) f_=K (.own 114 (key 114)) ⟨T.put (.rit 0 4) (key 114) (T.put (.rng 0 4) (key 113) fV),115,key 115⟩:=by kernel_rfl
def Pf (K:aY):u0 ⟨fV,113,key 113⟩ (fM 1) (λv ab=>ij cA v ab K) f_=K (.own 114 (key 114)) ⟨T.put (.rit 0 10) (key 114) (T.put (.rng 0 10) (key 113) fV),115,key 115⟩:=by kernel_rfl
def yE (j:Nat):V:=match j with|0=>.own 83 (key 83)|1=>.own 107 (key 107)|2=>.str 98|3=>.str 99|_=>.own 58 (key 58)
def cU (P:gx):aA:=⟨T.put (.list []) (key 115) (qt P),116,key 116⟩
def nB (au:ef) (loc:Loc) (K:dy) (r:V) (ab:aA):Bool:=(hz .Add (ds (.int 16)) (hz .Mult (ds (.int 8)) (tN (dj 244953967) (dj 12661)))) ab loc (λw A=>bh (gp cA A .Eq r w) λq=>jn (.own 111 (key 111)) [.bool q] A (λZ B=>K .next B loc)) au
def fW (A a:Int) (j:Nat):Loc:=fM A++[(247314927,.int a),(12661,.int (bl j))]
def Pg (cl:b5) (x:V->aA->Bool) (P:gx) (A a:Int) (K:dy):kT (dA P) (fW A a 0) K ⟨cl,x⟩=cl 645 [.own 2 (key 2),.own 83 (key 83),.own 115 (key 115)] (cU P) (λr ab=>nB ⟨cl,x⟩ (fW A a 0) K r ab) x:=by kernel_rfl
def Ph (cl:b5) (x:V->aA->Bool) (P:gx) (A a:Int) (K:dy):kT (dA P) (fW A a 1) K ⟨cl,x⟩=cl 645 [.own 2 (key 2),.own 107 (key 107),.own 115 (key 115)] (cU P) (λr ab=>nB ⟨cl,x⟩ (fW A a 1) K r ab) x:=by kernel_rfl
def Pj (cl:b5) (x:V->aA->Bool) (P:gx) (A a:Int) (K:dy):kT (dA P) (fW A a 2) K ⟨cl,x⟩=cl 645 [.own 2 (key 2),.str 98,.own 115 (key 115)] (cU P) (λr ab=>nB ⟨cl,x⟩ (fW A a 2) K r ab) x:=by kernel_rfl
def Pk (cl:b5) (x:V->aA->Bool) (P:gx) (A a:Int) (K:dy):kT (dA P) (fW A a 3) K ⟨cl,x⟩=cl 645 [.own 2 (key 2),.str 99,.own 115 (key 115)] (cU P) (λr ab=>nB ⟨cl,x⟩ (fW A a 3) K r ab) x:=by kernel_rfl
def Pl (cl:b5) (x:V->aA->Bool) (P:gx) (A a:Int) (K:dy):kT (dA P) (fW A a 4) K ⟨cl,x⟩=cl 645 [.own 2 (key 2),.own 58 (key 58),.own 115 (key 115)] (cU P) (λr ab=>nB ⟨cl,x⟩ (fW A a 4) K r ab) x:=by kernel_rfl
def Pm (a4:Nat) (li:Int) (az:Nat) (es:List (Nat×V)) (v1 v2:V) (bs:List V) (z:Nat) (it:O) (K:aY) (x:V->aA->Bool):eF 645 [.own 2 (key 2),.own 83 (key 83),.own 115 (key 115)] (cU ⟨a4,li,az,es,.none,v1,v2,bs,z,it⟩) K x=K (.int (bM li 8)) (cU ⟨a4,(bM li 8),az,es,.int (bM li 8),v1,v2,bs,z,it⟩):=by kernel_rfl
def Pn (a4:Nat) (li:Int) (az:Nat) (es:List (Nat×V)) (v1 v2:V) (bs:List V) (z:Nat) (it:O) (b0:Int) (K:aY) (x:V->aA->Bool):eF 645 [.own 2 (key 2),.own 83 (key 83),.own 115 (key 115)] (cU ⟨a4,li,az,es,.int b0,v1,v2,bs,z,it⟩) K x=K (.int b0) (cU ⟨a4,li,az,es,.int b0,v1,v2,bs,z,it⟩):=by kernel_rfl
def Po (a4:Nat) (li:Int) (az:Nat) (es:List (Nat×V)) (v0 v2:V) (bs:List V) (z:Nat) (it:O) (K:aY) (x:V->aA->Bool):eF 645 [.own 2 (key 2),.own 107 (key 107),.own 115 (key 115)] (cU ⟨a4,li,az,es,v0,.none,v2,bs,z,it⟩) K x=K (.int (bM li 8)) (cU ⟨a4,(bM li 8),az,es,v0,.int (bM li 8),v2,bs,z,it⟩):=by kernel_rfl
def Pp (a4:Nat) (li:Int) (az:Nat) (es:List (Nat×V)) (v0 v2:V) (bs:List V) (z:Nat) (it:O) (b0:Int) (K:aY) (x:V->aA->Bool):eF 645 [.own 2 (key 2),.own 107 (key 107),.own 115 (key 115)] (cU ⟨a4,li,az,es,v0,.int b0,v2,bs,z,it⟩) K x=K (.int b0) (cU ⟨a4,li,az,es,v0,.int b0,v2,bs,z,it⟩):=by kernel_rfl
def Pq (a4:Nat) (li:Int) (az:Nat) (es:List (Nat×V)) (v0 v1:V) (bs:List V) (z:Nat) (it:O) (K:aY) (x:V->aA->Bool):eF 645 [.own 2 (key 2),.own 58 (key 58),.own 115 (key 115)] (cU ⟨a4,li,az,es,v0,v1,.none,bs,z,it⟩) K x=K (.int (bM li 8)) (cU ⟨a4,(bM li 8),az,es,v0,v1,.int (bM li 8),bs,z,it⟩):=by kernel_rfl
def Pr (a4:Nat) (li:Int) (az:Nat) (es:List (Nat×V)) (v0 v1:V) (bs:List V) (z:Nat) (it:O) (b0:Int) (K:aY) (x:V->aA->Bool):eF 645 [.own 2 (key 2),.own 58 (key 58),.own 115 (key 115)] (cU ⟨a4,li,az,es,v0,v1,.int b0,bs,z,it⟩) K x=K (.int b0) (cU ⟨a4,li,az,es,v0,v1,.int b0,bs,z,it⟩):=by kernel_rfl
def Ps (a4:Nat) (li:Int) (az:Nat) (v0 v1 v2:V) (bs:List V) (z:Nat) (it:O) (eQ eR:Int) (K:aY) (x:V->aA->Bool):eF 645 [.own 2 (key 2),.str 98,.own 115 (key 115)] (cU ⟨a4,li,az,[],v0,v1,v2,bs,z,it⟩) K x=K (.int (bM li 8)) (cU ⟨a4,(bM li 8),bS az,[(98,.int (bM li 8))],v0,v1,v2,bs,z,it⟩):=by kernel_rfl
def Pt (a4:Nat) (li:Int) (az:Nat) (v0 v1 v2:V) (bs:List V) (z:Nat) (it:O) (eQ eR:Int) (K:aY) (x:V->aA->Bool):eF 645 [.own 2 (key 2),.str 98,.own 115 (key 115)] (cU ⟨a4,li,az,[(99,.int eR)],v0,v1,v2,bs,z,it⟩) K x=K (.int (bM li 8)) (cU ⟨a4,(bM li 8),bS az,[(99,.int eR),(98,.int (bM li 8))],v0,v1,v2,bs,z,it⟩):=by kernel_rfl
def Pu (a4:Nat) (li:Int) (az:Nat) (v0 v1 v2:V) (bs:List V) (z:Nat) (it:O) (eQ eR:Int) (K:aY) (x:V->aA->Bool):eF 645 [.own 2 (key 2),.str 98,.own 115 (key 115)] (cU ⟨a4,li,az,[(98,.int eQ)],v0,v1,v2,bs,z,it⟩) K x=K (.int eQ) (cU ⟨a4,li,az,[(98,.int eQ)],v0,v1,v2,bs,z,it⟩):=by kernel_rfl
def Pw (a4:Nat) (li:Int) (az:Nat) (v0 v1 v2:V) (bs:List V) (z:Nat) (it:O) (eQ eR:Int) (K:aY) (x:V->aA->Bool):eF 645 [.own 2 (key 2),.str 98,.own 115 (key 115)] (cU ⟨a4,li,az,[(98,.int eQ),(99,.int eR)],v0,v1,v2,bs,z,it⟩) K x=K (.int eQ) (cU ⟨a4,li,az,[(98,.int eQ),(99,.int eR)],v0,v1,v2,bs,z,it⟩):=by kernel_rfl
def Px (a4:Nat) (li:Int) (az:Nat) (v0 v1 v2:V) (bs:List V) (z:Nat) (it:O) (eQ eR:Int) (K:aY) (x:V->aA->Bool):eF 645 [.own 2 (key 2),.str 98,.own 115 (key 115)] (cU ⟨a4,li,az,[(99,.int eR),(98,.int eQ)],v0,v1,v2,bs,z,it⟩) K x=K (.int eQ) (cU ⟨a4,li,az,[(99,.int eR),(98,.int eQ)],v0,v1,v2,bs,z,it⟩):=by kernel_rfl
def Py (a4:Nat) (li:Int) (az:Nat) (v0 v1 v2:V) (bs:List V) (z:Nat) (it:O) (eQ eR:Int) (K:aY) (x:V->aA->Bool):eF 645 [.own 2 (key 2),.str 99,.own 115 (key 115)] (cU ⟨a4,li,az,[],v0,v1,v2,bs,z,it⟩) K x=K (.int (bM li 8)) (cU ⟨a4,(bM li 8),bS az,[(99,.int (bM li 8))],v0,v1,v2,bs,z,it⟩):=by kernel_rfl
def Pz (a4:Nat) (li:Int) (az:Nat) (v0 v1 v2:V) (bs:List V) (z:Nat) (it:O) (eQ eR:Int) (K:aY) (x:V->aA->Bool):eF 645 [.own 2 (key 2),.str 99,.own 115 (key 115)] (cU ⟨a4,li,az,[(98,.int eQ)],v0,v1,v2,bs,z,it⟩) K x=K (.int (bM li 8)) (cU ⟨a4,(bM li 8),bS az,[(98,.int eQ),(99,.int (bM li 8))],v0,v1,v2,bs,z,it⟩):=by kernel_rfl
def PA (a4:Nat) (li:Int) (az:Nat) (v0 v1 v2:V) (bs:List V) (z:Nat) (it:O) (eQ eR:Int) (K:aY) (x:V->aA->Bool):eF 645 [.own 2 (key 2),.str 99,.own 115 (key 115)] (cU ⟨a4,li,az,[(99,.int eR)],v0,v1,v2,bs,z,it⟩) K x=K (.int eR) (cU ⟨a4,li,az,[(99,.int eR)],v0,v1,v2,bs,z,it⟩):=by kernel_rfl
def PB (a4:Nat) (li:Int) (az:Nat) (v0 v1 v2:V) (bs:List V) (z:Nat) (it:O) (eQ eR:Int) (K:aY) (x:V->aA->Bool):eF 645 [.own 2 (key 2),.str 99,.own 115 (key 115)] (cU ⟨a4,li,az,[(99,.int eR),(98,.int eQ)],v0,v1,v2,bs,z,it⟩) K x=K (.int eR) (cU ⟨a4,li,az,[(99,.int eR),(98,.int eQ)],v0,v1,v2,bs,z,it⟩):=by kernel_rfl
def PC (a4:Nat) (li:Int) (az:Nat) (v0 v1 v2:V) (bs:List V) (z:Nat) (it:O) (eQ eR:Int) (K:aY) (x:V->aA->Bool):eF 645 [.own 2 (key 2),.str 99,.own 115 (key 115)] (cU ⟨a4,li,az,[(98,.int eQ),(99,.int eR)],v0,v1,v2,bs,z,it⟩) K x=K (.int eR) (cU ⟨a4,li,az,[(98,.int eQ),(99,.int eR)],v0,v1,v2,bs,z,it⟩):=by kernel_rfl
def PD (cl:b5) (x:V->aA->Bool) (P:gx) (A a:Int) (K:dy):yy (dA P) (up (fM A) 247314927 (.int a)) K ⟨cl,x⟩=cl 1169 [.own 0 (key 0),.int (bl 5)] (dA P) (λv ab=>K .next ab (fM A++[(247314927,.int a),(12661,v)])) x:=by kernel_rfl
def PE (ai:List V) (ab:aA) (k:aY) (x:V->aA->Bool):eF 1169 ai ab k x=j9 ai ab k:=by kernel_rfl
def eqT (P:gx) (k:aY):j9 [.own 0 (key 0),.int (bl 5)] (dA P) k=aN (b2 P.a4 2000) (j4 5 λj=>k (.int (bl j)) (bD (key 0) (.box (bS P.a4)) (dA P))):=by kernel_rfl
def PF (a4:Nat) (li:Int) (az:Nat) (es:List (Nat×V)) (v0 v1 v2:V) (bs:List V) (z:Nat) (it:O):bD (key 0) (.box (bS a4)) (dA ⟨a4,li,az,es,v0,v1,v2,bs,z,it⟩)=dA ⟨bS a4,li,az,es,v0,v1,v2,bs,z,it⟩:=by kernel_rfl
def PG (cl:b5) (x:V->aA->Bool) (P:gx) (A a:Int) (j:Nat) (K:dy):u1 (dA P) (fW A a j) K ⟨cl,x⟩=bh (pO (jT (λy=>cK (g9 (dA P) 40) y (.int (bl j))) P.bs)) (λq=>hV q (aN (f6 P.bs) (K .next (bD (key 110) (.list (P.bs++[.int (bl j)])) (dA P)) (fW A a j))) (K .next (dA P) (fW A a j))):=by kernel_rfl
def PH (a4:Nat) (li:Int) (az:Nat) (es:List (Nat×V)) (v0 v1 v2:V) (bs A:List V) (z:Nat) (it:O):bD (key 110) (.list A) (dA ⟨a4,li,az,es,v0,v1,v2,bs,z,it⟩)=dA ⟨a4,li,az,es,v0,v1,v2,A,z,it⟩:=by kernel_rfl
def PI (cl:b5) (x:V->aA->Bool) (P:gx) (A a:Int) (j:Nat) (K:dy) (r:V):nB ⟨cl,x⟩ (fW A a j) K r (cU P)=aN (aN (f6 P.bs) (oj P.bs)) (nd P.bs (bl j) 0 λn=>bh (gp cA (cU P) .Eq r (.int (bM 16 (eG 8 (bl n))))) λq=>jn (.own 111 (key 111)) [.bool q] (cU P) (λZ B=>K .next B (fW A a j))):=by kernel_rfl
def PJ (P:gx) (k:aY):jn (.own 111 (key 111)) [.bool true] (cU P) k=aN (b2 P.z 1000) (k .none (bD (key 111) (.trues (bS P.z)) (cU P))):=by kernel_rfl
def PK (a4:Nat) (li:Int) (az:Nat) (es:List (Nat×V)) (v0 v1 v2:V) (bs:List V) (z:Nat) (it:O):bD (key 111) (.trues (bS z)) (cU ⟨a4,li,az,es,v0,v1,v2,bs,z,it⟩)=cU ⟨a4,li,az,es,v0,v1,v2,bs,bS z,it⟩:=by kernel_rfl
def PL (a4:Nat) (li:Int) (az:Nat) (es:List (Nat×V)) (v0 v1 v2:V) (bs:List V) (z:Nat) (a:Int) (m:Nat) (cY:V->aA->Bool) (no:aA->Bool):hC cA false (.own 114 (key 114)) (dA ⟨a4,li,az,es,v0,v1,v2,bs,z,.rit a (bl (bS m))⟩) cY no=cY (.int a) (dA ⟨a4,li,az,es,v0,v1,v2,bs,z,.rit (bM a 1) (bl m)⟩):=by kernel_rfl
def PM (a4:Nat) (li:Int) (az:Nat) (es:List (Nat×V)) (v0 v1 v2:V) (bs:List V) (z:Nat) (a:Int) (cY:V->aA->Bool) (no:aA->Bool):hC cA false (.own 114 (key 114)) (dA ⟨a4,li,az,es,v0,v1,v2,bs,z,.rit a (bl 0)⟩) cY no=no (dA ⟨a4,li,az,es,v0,v1,v2,bs,z,.dead⟩):=by kernel_rfl
def getL (P:gx) (af:i<4096):bn (dA P) (key i)=if i=114 then some P.it else if i=113 then some .dead else if i=111 then some (.trues P.z)else if i=110 then some (.list P.bs)else if i=58 then some (.inst 61 (uY P.v2))else
  if i=107 then some (.inst 103 (uX P.v1))else if i=83 then some (.inst 83 (uW P.v0))else if i=4 then some (.dict P.az P.es)else if i=2 then some (.inst 1151 (uV P.li))else if i=0 then some (.box P.a4)else fV.get (key i):=by
 show(qt P).get (key i)=_
 unfold qt
 rw[T.cd _ _ (by decide) af,T.cd _ _ (by decide) af,T.cd _ _ (by decide) af,T.cd _ _ (by decide) af,T.cd _ _ (by decide) af,T.cd _ _ (by decide) af,T.cd _ _ (by decide) af,T.cd _ _ (by decide) af,T.cd _ _ (by decide) af,T.cd _ _ (by decide) af]
structure yF (P:gx):Prop where
 v0:cE 115 P.v0=true
 v1:cE 115 P.v1=true
 v2:cE 115 P.v2=true
 es:(P.es.all λq=>cE 115 q.2)=true
 bs:P.bs.all (cE 115)=true
 it:er 115 P.it=true
def Fy (t:T) (i:Nat):Bool:=cq true (λo=>er 115 o) (T.get t (key i))
def PN:j4 113 (Fy fV)=true:=by kernel_rfl
def PO (li:Int):((uV li).all λq=>cE 115 q.2)=true:=by kernel_rfl
def PP (h:cE 115 v=true):((uW v).all λq=>cE 115 q.2)=true:=by
 cases v with
 |own i k=>show(_&&(_&&(_&&(_&&(_&&(cE 115 _&&_))))))=true;rw[h];rfl
 |_=>rfl
def PQ (h:cE 115 v=true):((uX v).all λq=>cE 115 q.2)=true:=by
 cases v with
 |own i k=>show(_&&(_&&(_&&(_&&(_&&(cE 115 _&&_))))))=true;rw[h];rfl
 |_=>rfl
def PR (h:cE 115 v=true):((uY v).all λq=>cE 115 q.2)=true:=by
 cases v with
 |own i k=>show(_&&(_&&(_&&(_&&(_&&(cE 115 _&&_))))))=true;rw[h];rfl
 |_=>rfl
def T_ {ar:Prop} {P:gx} {o:O} (af:i<4096) (h:bn (dA P) (key i)=some o) (cr:i=114->P.it=o->ar) (cx:i=113->.dead=o->ar) (dI:i=111->.trues P.z=o->ar) (A:i=110->.list P.bs=o->ar) (d5:i=58->.inst 61 (uY P.v2)=o->ar) (B:i=107->.inst 103 (uX P.v1)=o->ar)
  (C:i=83->.inst 83 (uW P.v0)=o->ar) (jl:i=4->.dict P.az P.es=o->ar) (D:i=2->.inst 1151 (uV P.li)=o->ar) (E:i=0->.box P.a4=o->ar) (k:i≠114->i≠113->fV.get (key i)=some o->ar):ar:=by
 have h:(qt P).get (key i)=some o:=h
 unfold qt at h
 exact wO rfl af h cr λF h=>wO rfl af h cx λG h=>wO rfl af h dI λZ h=>wO rfl af h A λZ h=>wO rfl af h d5 λZ h=>wO rfl af h B λZ h=>wO rfl af h C λZ h=>wO rfl af h jl λZ h=>wO rfl af h D λZ h=>wO rfl af h E λZ h=>k F G h
def PS {P:gx} (g:yF P) (af:i<115) {o:O} (h:bn (dA P) (key i)=some o):er 115 o=true:=
 T_ (by lia) h (λZ e=>e▸g.it) (λZ e=>e▸rfl) (λZ e=>e▸rfl) (λZ e=>e▸g.bs) (λZ e=>e▸PR g.v2) (λZ e=>e▸PQ g.v1) (λZ e=>e▸PP g.v0) (λZ e=>e▸g.es) (λZ e=>e▸PO _) (λZ e=>e▸rfl) λA B h=>by
  have:=rY PN i (Nat.lt_of_le_of_ne (vM (Nat.lt_of_le_of_ne (vM af) A)) B)
  unfold Fy at this
  rw[h]at this
  exact this
def ba.canon {loc cO:Loc} {P:gx} (S:ba c f p ab loc s) (g:yF P) (A:115<=ab.ay) (h:∀i,i<115->∀o,bn (dA P) (key i)=some o->hf (bn ab (key i)) o) (B:∀x v,lk cO x=some v->lk loc x=some v/\cE 115 v=true):
  ba c f (p.cut 115) (dA P) cO s:=
 S.cut A (λi af o k8=>⟨by rw[<-bP];exact h i af o k8,PS g af k8⟩) B
def PT {P:gx} (h:∀i,i<115->bn (dA P) (key i)=bn ab (key i)):∀i,i<115->∀o,bn (dA P) (key i)=some o->hf (bn ab (key i)) o:=λi af o k8=>by
 rw[<-h i af,k8];exact .same
def iu:List Nat->Nat->Nat
 |[],_=>0
 |a::l,j=>if a=j then 0 else iu l j+1
def u2:∀{l:List Nat},i∈l->iu (l++[j]) i=iu l i
 |a::l,h=>by
  show(if a=i then 0 else iu (l++[j]) i+1)=if a=i then 0 else iu l i+1
  by_cases e:a=i
  ·rw[if_pos e,if_pos e]
  ·rw[if_neg e,if_neg e,u2 ((bJ.mp h).resolve_left λq=>e q.symm)]
def Fz:∀{l:List Nat},j∉l->iu (l++[j]) j=l.length
 |[],_=>by show(if j=j then 0 else _)=0;rw[if_pos rfl]
 |a::l,h=>by
  rw[bJ,not_or]at h
  show(if a=j then 0 else iu (l++[j]) j+1)=l.length+1
  rw[if_neg (λq=>h.1 q.symm),Fz h.2]
abbrev gb (ns:List Nat) (j:Nat):Int:=bl (16+8*iu ns j)
def hg (ns:List Nat) (j:Nat):V:=if j∈ns then .int (gb ns j)else .none
abbrev dN (ns:List Nat):List V:=ns.map λj=>.int (bl j)
def hh (A B:Nat×V) (j:Nat):Option (Nat×V):=if j=2 then some A else if j=3 then some B else none
def eg (ns:List Nat):List (Nat×V):=ns.filterMap (hh (98,.int (gb ns 2)) (99,.int (gb ns 3)))
def u3 {A B:Nat×V}:∀{ns:List Nat},ns.Nodup->(2∉ns/\3∉ns/\ns.filterMap (hh A B)=[])∨(2∈ns/\3∉ns/\ns.filterMap (hh A B)=[A])∨(2∉ns/\3∈ns/\ns.filterMap (hh A B)=[B])∨(2∈ns/\3∈ns/\(ns.filterMap (hh A B)=[A,B]∨ns.filterMap (hh A B)=[B,A])):=by
 intro ns
 induction ns with
 |nil=>
  intro _
  exact .inl ⟨by simp,by simp,rfl⟩
 |cons a l C=>
  intro a_
  rw[g7]at a_
  have C:=C a_.2
  rw[qW]
  by_cases e2:a=2
  ·subst e2
   have:hh A B 2=some A:=rfl
   rw[this]
   rcases C with⟨ae,ag,ax⟩|⟨ae,_⟩|⟨ae,ag,ax⟩|⟨ae,_⟩
   ·exact .inr (.inl ⟨.head _,by simpa using ag,by rw[ax]⟩)
   ·exact absurd ae a_.1
   ·exact .inr (.inr (.inr ⟨.head _,.tail _ ag,.inl (by rw[ax])⟩))
   ·exact absurd ae a_.1
  ·by_cases e3:a=3
   clear e2
   ·subst e3
    have:hh A B 3=some B:=rfl
    rw[this]
    rcases C with⟨ae,ag,ax⟩|⟨ae,ag,ax⟩|⟨ae,ag,ax⟩|⟨ae,ag,ax⟩
    ·exact .inr (.inr (.inl ⟨by simpa using ae,.head _,by rw[ax]⟩))
    ·exact .inr (.inr (.inr ⟨.tail _ ae,.head _,.inr (by rw[ax])⟩))
    ·exact absurd ag a_.1
    ·exact absurd ag a_.1
   ·have:hh A B a=none:=by unfold hh;rw[if_neg e2,if_neg e3]
    rw[this]
    have D:(2∈a::l)↔2∈l:=by rw[bJ];exact⟨λh=>h.resolve_left λq=>e2 q.symm,.inr⟩
    have hX:(3∈a::l)↔3∈l:=by rw[bJ];exact⟨λh=>h.resolve_left λq=>e3 q.symm,.inr⟩
    rw[D,hX]
    exact C
abbrev oI (ns:List Nat):Int:=bl (8+8*ns.length)
def et (ns:List Nat) (a4 az:Nat) (bs:List V) (z:Nat) (it:O):gx:=⟨a4,oI ns,az,eg ns,hg ns 0,hg ns 1,hg ns 4,bs,z,it⟩
def dZ (ns:List Nat) (j:Nat):List Nat:=if j∈ns then ns else ns++[j]
def PU (ns:List Nat) (j:Nat):bM (oI ns) 8=oI (ns++[j]):=by
 show bl (8+8*ns.length+8)=bl (8+8*(ns++[j]).length)
 rw[lM]
 rfl
def u7 {ns:List Nat} (h:j∉ns):bM (oI ns) 8=gb (ns++[j]) j:=by
 show bl (8+8*ns.length+8)=bl (16+8*iu (ns++[j]) j)
 rw[Fz h]
 congr 1
 lia
def kc {ns:List Nat} (h:i≠j):hg (ns++[j]) i=hg ns i:=by
 unfold hg
 by_cases e:i∈ns
 ·rw[if_pos e,if_pos (gS _ e)]
  show V.int (bl (16+8*iu (ns++[j]) i))=_
  rw[u2 e]
 ·rw[if_neg e,if_neg]
  intro q
  rcases gA.mp q with q|q
  ·exact e q
  ·exact h (h7.mp q)
def PV {ns:List Nat} (h:j∉ns):hg ns j=.none/\hg (ns++[j]) j=.int (bM (oI ns) 8):=by
 unfold hg
 rw[if_neg h,if_pos (dD _ (.head _)),u7 h]
 exact⟨rfl,rfl⟩
def PW {ns:List Nat}:eg (ns++[j])=ns.filterMap (hh (98,.int (gb (ns++[j]) 2)) (99,.int (gb (ns++[j]) 3)))++[j].filterMap (hh (98,.int (gb (ns++[j]) 2)) (99,.int (gb (ns++[j]) 3))):=by
 unfold eg
 rw[List.filterMap_append]
def FA {A C B D:Nat×V}:∀{ns:List Nat},(2∈ns->A=C)->(3∈ns->B=D)->ns.filterMap (hh A B)=ns.filterMap (hh C D)
 |[],_,_=>rfl
 |a::l,ag,ax=>by
  rw[qW,qW,FA (λh=>ag (.tail _ h)) (λh=>ax (.tail _ h))]
  by_cases e2:a=2
  clear ax
  ·subst e2;rw[ag (.head _)];rfl
  clear ag
  ·by_cases e3:a=3
   clear e2
   ·subst e3;rw[ax (.head _)];rfl
   ·have:∀X Y,hh X Y a=none:=λX Y=>by unfold hh;rw[if_neg e2,if_neg e3]
    rw[this,this]
def sd {ns:List Nat}:eg (ns++[j])=eg ns++[j].filterMap (hh (98,.int (gb (ns++[j]) 2)) (99,.int (gb (ns++[j]) 3))):=by
 rw[PW]
 congr 1
 unfold eg
 refine FA (λh=>?_) λh=>?_
 ·show(98,V.int (bl (16+8*iu (ns++[j]) 2)))=_
  rw[u2 h]
 ·show(99,V.int (bl (16+8*iu (ns++[j]) 3)))=_
  rw[u2 h]
def PX {ns:List Nat} (a_:ns.Nodup) (F:j<5) (a4 az:Nat) (bs:List V) (z:Nat) (it:O) (K:aY) (x:V->aA->Bool):
  ∃E,eF 645 [.own 2 (key 2),yE j,.own 115 (key 115)] (cU (et ns a4 az bs z it)) K x=K (.int (gb (dZ ns j) j)) (cU (et (dZ ns j) a4 E bs z it)):=by
 by_cases hm:j∈ns
 ·have C:dZ ns j=ns:=if_pos hm
  rw[C]
  refine⟨az,?_⟩
  have D:hg ns j=.int (gb ns j):=if_pos hm
  unfold et
  rcases j with _|_|_|_|_|j
  ·rw[D];exact Pn ..
  ·rw[show hg ns 1=_ from D];exact Pp ..
  ·have:=u3 (A:=(98,.int (gb ns 2))) (B:=(99,.int (gb ns 3))) a_
   rcases this with⟨h,_⟩|⟨_,_,h⟩|⟨h,_⟩|⟨_,_,h|h⟩
   ·exact absurd hm h
   ·rw[show eg ns=_ from h];exact Pu (eR:=0) ..
   ·exact absurd hm h
   ·rw[show eg ns=_ from h];exact Pw ..
   ·rw[show eg ns=_ from h];exact Px ..
  ·have:=u3 (A:=(98,.int (gb ns 2))) (B:=(99,.int (gb ns 3))) a_
   rcases this with⟨_,h,_⟩|⟨_,h,_⟩|⟨_,_,h⟩|⟨_,_,h|h⟩
   ·exact absurd hm h
   ·exact absurd hm h
   ·rw[show eg ns=_ from h];exact PA (eQ:=0) ..
   ·rw[show eg ns=_ from h];exact PC ..
   ·rw[show eg ns=_ from h];exact PB ..
  ·rw[show hg ns 4=_ from D];exact Pr ..
  ·lia
 ·have C:dZ ns j=ns++[j]:=if_neg hm
  rw[C,<-u7 hm]
  obtain⟨i1,i2⟩:=PV hm
  unfold et
  rw[<-PU ns j]
  rcases j with _|_|_|_|_|j
  ·refine⟨az,?_⟩
   rw[i1,i2,kc (by decide),kc (by decide),show eg (ns++[0])=eg ns by rw[sd];exact k1 _]
   exact Pm ..
  ·refine⟨az,?_⟩
   rw[show hg ns 1=_ from i1,show hg (ns++[1]) 1=_ from i2,kc (by decide),kc (by decide),show eg (ns++[1])=eg ns by rw[sd];exact k1 _]
   exact Po ..
  ·refine⟨bS az,?_⟩
   rw[kc (by decide),kc (by decide),kc (by decide),show eg (ns++[2])=eg ns++[(98,.int (bM (oI ns) 8))] by rw[sd,u7 hm];rfl]
   have:=u3 (A:=(98,.int (gb ns 2))) (B:=(99,.int (gb ns 3))) a_
   rcases this with⟨_,_,h⟩|⟨h,_⟩|⟨_,_,h⟩|⟨h,_⟩
   ·rw[show eg ns=_ from h];exact Ps (eQ:=0) (eR:=0) ..
   ·exact absurd h hm
   ·rw[show eg ns=_ from h];exact Pt (eQ:=0) ..
   ·exact absurd h hm
  ·refine⟨bS az,?_⟩
   rw[kc (by decide),kc (by decide),kc (by decide),show eg (ns++[3])=eg ns++[(99,.int (bM (oI ns) 8))] by rw[sd,u7 hm];rfl]
   have:=u3 (A:=(98,.int (gb ns 2))) (B:=(99,.int (gb ns 3))) a_
   rcases this with⟨_,_,h⟩|⟨_,_,h⟩|⟨_,h,_⟩|⟨_,h,_⟩
   ·rw[show eg ns=_ from h];exact Py (eQ:=0) (eR:=0) ..
   ·rw[show eg ns=_ from h];exact Pz (eR:=0) ..
   ·exact absurd h hm
   ·exact absurd h hm
  ·refine⟨az,?_⟩
   rw[show hg ns 4=_ from i1,show hg (ns++[4]) 4=_ from i2,kc (by decide),kc (by decide),show eg (ns++[4])=eg ns by rw[sd];exact k1 _]
   exact Pq ..
  ·lia
def PY {g:V->V->Option Bool}:∀{ns:List Nat},jT (λy=>cK g y (.int (bl j))) (dN ns)=some (decide (j∈ns)):=by
 intro ns
 induction ns with
 |nil=>
  show eL=_;simp[eL]
 |cons a l A=>
  show tw (cK g (.int (bl a)) (.int (bl j))) (jT (λy=>cK g y (.int (bl j))) (dN l))=_
  rw[A]
  clear A
  show tw (some (aU a j)) _=_
  show some (pj (aU a j) (decide (j∈l)))=_
  rw[d6]
  by_cases e:a=j
  ·subst e;simp
  ·have:¬j=a:=λq=>e q.symm
   simp[e,this]
def all_ints:∀{ns:List Nat},oj (dN ns)=true
 |[]=>rfl
 |a::l=>by show oj (dN l)=true;exact all_ints
def PZ {k:Nat->Bool}:∀{ns:List Nat} {n:Nat},j∈ns->nd (dN ns) (bl j) n k=k (n+iu ns j):=by
 intro ns
 induction ns with
 |nil=>
  intro n h
  cases h
 |cons a l A=>
  intro n h
  show bk (motive:=λZ=>Bool) (nd (dN l) (bl j) (bS n) k) (k n) (aU a j)=k (n+if a=j then 0 else iu l j+1)
  rw[d6]
  by_cases e:a=j
  ·rw[decide_eq_true e,if_pos e];rfl
  ·rw[decide_eq_false e,if_neg e]
   show nd (dN l) (bl j) (bS n) k=_
   rw[A ((bJ.mp h).resolve_left λq=>e q.symm)]
   congr 1
   lia
def P0 {m:Nat} {k:Nat->Bool} (h:∀j,j<m->k j=true):j4 m k=true:=by
 induction m with
 |zero=>rfl
 |succ m A=>
  show bk (motive:=λZ=>Bool) false (j4 m k) (k m)=true
  rw[h m (i_ m)]
  exact A λj B=>h j (nM B)
def P1 (cl:b5) (x:V->aA->Bool) (P:gx) (A a:Int) (K:dy) (B:j<5):kT (dA P) (fW A a j) K ⟨cl,x⟩=cl 645 [.own 2 (key 2),yE j,.own 115 (key 115)] (cU P) (λr ab=>nB ⟨cl,x⟩ (fW A a j) K r ab) x:=by
 rcases j with _|_|_|_|_|j
 ·exact Pg ..
 ·exact Ph ..
 ·exact Pj ..
 ·exact Pk ..
 ·exact Pl ..
 ·lia
def P2 (ns:List Nat) (j:Nat):j∈dZ ns j:=by
 unfold dZ
 by_cases e:j∈ns
 ·rw[if_pos e];exact e
 ·rw[if_neg e];exact dD _ (.head _)
def FC {ns:List Nat} (h:ns.length<=2000):f6 (dN ns)=true:=by
 unfold f6
 rw[pk]
 exact mP h
def P4 {cl:b5} {x:V->aA->Bool} (D:∀ai ab k,cl 1169 ai ab k x=j9 ai ab k) (E:∀{ns:List Nat} (a_:ns.Nodup) {j:Nat} (C:j<5) (a4 az:Nat) (bs:List V) (z:Nat) (it:O) (K:aY),∃A,cl 645 [.own 2 (key 2),yE j,.own 115 (key 115)] (cU (et ns a4 az bs z it)) K x=K (.int (gb (dZ ns j) j)) (cU (et (dZ ns j) a4 A bs z it)))
  {ns:List Nat} (a_:ns.Nodup) (H:ns.length<=100) {a4 az z:Nat} {it:O} (I:a4<=100) (J:z<=100) (B a:Int) {K:dy} (F:∀j,j<5->∀A,K .next (cU (et (dZ ns j) (bS a4) A (dN (dZ ns j)) (bS z) it)) (fW B a j)=true):
  yz (dA (et ns a4 az (dN ns) z it)) (up (fM B) 247314927 (.int a)) K ⟨cl,x⟩=true:=by
 show yy (dA (et ns a4 az (dN ns) z it)) (up (fM B) 247314927 (.int a)) (λbg ab loc=>Fl.rec (motive:=λZ=>Bool) ((jZ u1 kT) ab loc K ⟨cl,x⟩) (K .brk ab loc) (K .cont ab loc) (λv=>K (.ret v) ab loc) bg) ⟨cl,x⟩=true
 rw[PD,D,eqT,show b2 (et ns a4 az (dN ns) z it).a4 2000=true from mP (by show a4<=2000;lia),G6]
 refine P0 λj C=>?_
 unfold et
 rw[PF]
 show u1 _ (fW B a j) (λbg ab loc=>Fl.rec (motive:=λZ=>Bool) (kT ab loc K ⟨cl,x⟩) (K .brk ab loc) (K .cont ab loc) (λv=>K (.ret v) ab loc) bg) ⟨cl,x⟩=true
 rw[PG]
 have G:∀kU A,kT (dA (et ns kU A (dN (dZ ns j)) z it)) (fW B a j) (λbg ab loc=>K bg ab loc) ⟨cl,x⟩=true∨kU≠bS a4:=λkU A=>by
  by_cases e:kU=bS a4
  ·subst e
   left
   rw[P1 _ _ _ _ _ _ C]
   obtain⟨e2,ag⟩:=E a_ C (bS a4) A (dN (dZ ns j)) z it (λr ab=>nB ⟨cl,x⟩ (fW B a j) (λbg ab loc=>K bg ab loc) r ab)
   rw[ag,PI]
   have L:(dZ ns j).length<=101:=by
    unfold dZ
    by_cases e:j∈ns
    ·rw[if_pos e];lia
    ·rw[if_neg e,lM];show ns.length+1<=101;lia
   rw[show f6 (et (dZ ns j) (bS a4) e2 (dN (dZ ns j)) z it).bs=true from FC (by lia),show oj (et (dZ ns j) (bS a4) e2 (dN (dZ ns j)) z it).bs=true from all_ints]
   show nd (dN (dZ ns j)) (bl j) 0 _=true
   rw[PZ (P2 ns j),Af]
   rw[show gp cA (cU (et (dZ ns j) (bS a4) e2 (dN (dZ ns j)) z it)) .Eq (.int (gb (dZ ns j) j)) (.int (bM 16 (eG 8 (bl (iu (dZ ns j) j)))))=some true from congrArg some (s_ _)]
   rw[EI,PJ,show b2 (et (dZ ns j) (bS a4) e2 (dN (dZ ns j)) z it).z 1000=true from mP (by show z<=1000;lia)]
   unfold et
   rw[PK]
   exact F j C e2
  ·exact .inr e
 have:=(G (bS a4) az).resolve_right λq=>q rfl
 show bh (pO (jT (λy=>cK _ y (.int (bl j))) (dN ns))) _=true
 rw[PY]
 by_cases hm:j∈ns
 ·rw[decide_eq_true hm]
  rw[show dZ ns j=ns from if_pos hm]at this
  exact this
 ·rw[decide_eq_false hm]
  show aN (f6 (dN ns)) _=true
  rw[FC (by lia)]
  show kT (bD (key 110) _ _) _ _ _=true
  rw[PH]
  rw[show dZ ns j=ns++[j]from if_neg hm]at this
  rw[show dN ns++[.int (bl j)]=dN (ns++[j]) by show dN ns++dN [j]=dN (ns++[j]);exact nN.symm]
  exact this
def P5 {ao:List cI} {bq:bE} (B:fp A c.base ao bq) {sc:bB} {env:cI} {L:a7} {d b:Nat}:q7 c ⟨sc,env,L,bq,ao,A,d,b⟩:=λs m aj R F ak=>by
 have nm:∀b o,bq.get? b=some o->b∉aj.map (·.1):=λb o e q=>by
  obtain⟨z,C,rfl⟩:=ey.mp q,q
  have:=(ak z C).2.2
  rw[this]at e;cases e
 have st:bq.StaysIn (fN s.heap (aj.map (·.1))):=λb o e=>n1 _ (F.keep b o e) (nm b o e)
 obtain⟨I,es,az,J,K⟩:=F.ns
 have dU:L∉aj.map (·.1):=λq=>by
  obtain⟨z,C,e⟩:=ey.mp q
  exact(ak z C).2.1 e
 have G:=n1 (aj.map (·.1)) J dU
 have H:Fr bq L (fN s.heap (aj.map (·.1))) m:=⟨⟨I,es,az,G,K⟩,st,F.above⟩
 refine⟨H,⟨B.stack,λb o e=>st _ _ (B.stays b o e),B.frames.of_keeps λb o e Z=>⟨o,st b o e,rfl⟩⟩,st,λv aq M=>?_⟩
 obtain⟨O,P,a3,N,D,k⟩:=M
 refine k (H.keeps N.keep) λq E=>⟨(D q E).1,λe=>?_,?_⟩
 ·have:=(D q E).2.2;rw[e,G]at this;cases this
 ·cases e:bq.get? q.1 with
  |none=>rfl
  |some o=>have:=(D q E).2.2;rw[st _ _ e]at this;cases this
def nC (be:Nat->Option O) (ao:List Nat) (B:Nat) (aV:aT) (cl:b5) (pre:Nat) (it bT:V) (k:aY) (n:Nat):aA->Loc->Bool:=gg (motive:=λZ=>aA->Loc->Bool) a1 (λZ C ab A=>
 hC be false it ab (λv ab=>hZ (.c B) v ab A (λab A=>lC ao aV cl pre (λb aF=>jn bT [.str b] aF (λZ D=>C D A)) ab A)) (λab=>k bT ab)) n
def se (be:Nat->Option O) (ao:List Nat) (B:Nat) (free:List Nat) (aV:aT) (cl:b5) (pre:Nat) (loc:Loc) (k:aY) (it:V) (ab:aA):Bool:=mk (.list []) ab (λbT ab=>pickK free loc [] (λA=>Dm (some B) ab A (λab A=>nC be ao B aV cl pre it bT k 4 ab A)))
def yG (ao:List cI) (ar:bE) (P:a7) (p:aX) (pos:bO) (qual:aI) (g:bE):Prop:=(g=ar/\ar.get? P=some (dw #[]))∨(pt (fJ ao) (ar.hide P) g/\lB p P pos qual)
inductive FD (c:b4) (f:bL) (P:a7) (pos:bO) (qual:aI) (p:aX) (ar:bE) (C:a7) (bT:am) (k:aY) (aq:a9):Prop
 |mk g aD aF x xl aj (ae:yG f.ao ar P aD pos qual g) (ag:p.bN aD) (ax:aE aD x bT) (aS:Fr g C aq.heap xl) (bA:News g C aq.heap aj) (cw:aQ c.K c.w aD aF.t aj) (cM:aq.gens=#[]) (dg:aq.os=c.os) (ik:dq aD aF) (lq:aD.n=c.n) (ot:aD.y=c.y) (uR:k x aF=true):FD c f P pos qual p ar C bT k aq
structure qu (c:b4) (f:bL) (P:a7) (pos:bO) (qual:aI) (p:aX) (ar:bE) (C:a7) (bT:am) (k:aY) (aq:a9):Prop where
 ex:FD c f P pos qual p ar C bT k aq
section
variable {C u8:Nat} {du:c9} {loc:Loc} {fT dU ex pre eM:aI} {aK gr dr pos:bO} {c2 dL:aM} {bv a5:bB} {b0 P:a7} {x:aI} {jD:bO}
 {aV:aT} {cl:b5} {E:am->a9->Prop} {cls:List (aI×a7)} {it:V} {sf:am} {k:aY} {free:List Nat}
def P6 {be:Nat->Option O} (bn:go c be) (B:gw c) (ah:aZ c f) (ok:nk f a5 (some (aG x)) free) (hd:f.d+60<=300) (bo:f.aC.get? P=some (dw #[])) (bp:c.base.get? P=none)
  (hb:qd c C u8 du) (fU:rV c C du fT dU ex pre) (qn:fZ c.K (.ref du.addr)=true) (hle:a5.names.lookup eM=some .globalImplicit) (qo:d7 c eM (.ref du.addr)) (lam:kR a5 bv=true) (ns:noStar [.Lambda noArgs c2 bv dr]=true)
  (aH:bf x=true) (nz:∀F,aZ c F->F.sc=bv->F.d+9<=F.b->F.b<=f.d+31->a8 c (b6 c C) aV F c2) (br:df c (b6 c C) (f.d+31) cl) (aI:f.env.code=.ref b0) (c3:lX f.aC b0 P)
  (h:se be ((freeOf bv).map aG) (aG x) free aV cl (aG pre) loc k it ab=true) (S:ba c f p ab loc s) (bu:aE p it sf) (aJ:∀x,(x,f0)∈a5.names->cls.lookup x=f.env.cells.lookup x):
  aO (aR c.prog c.w) f.A (newList []) (λbT aL=>aO (aR c.prog c.w) f.A (Au a5 f.env.globals cls [] f.env.qual none .none (some f.env)) (λaf bw=>
   ∃ar aM,Fr f.aC f.L ar aM/\db f p loc aM/\fp f.A c.base f.ao ar/\af.locals=aL.heap.objs.size/\
   dH (aR c.prog c.w) f.A (.compStart (.ListComp (.Call (.Name eM aK) [.Lambda noArgs c2 bv dr] [] gr) [⟨.Name x jD,dL,[],0⟩] a5 pos) 0 sf bT {af with scope:=n0 a5 f.env})
    (λr aq=>match r with|.ok _=>qu c f P dr (f.env.qual++"<lambda>") p ar af.locals bT k aq|.error _=>False) bw) E aL) E s:=by
 obtain⟨U,aN⟩:bf x=true/\a5.names.lookup x=some .cell:=by
  rcases ok.cell with⟨q,_⟩|⟨hS,ex,U,ct,bA⟩
  ·cases q
  ·obtain rfl:x=hS:=gW aH U (gR ex),ex
   exact⟨U,bA⟩
 clear aH
 refine Ue (dB:=λbT env=>.compStart (.ListComp (.Call (.Name eM aK) [.Lambda noArgs c2 bv dr] [] gr) [⟨.Name x jD,dL,[],0⟩] a5 pos) 0 sf bT env) (R:=λar C bT r aq=>match r with|.ok _=>qu c f P dr (f.env.qual++"<lambda>") p ar C bT k aq|.error _=>False)
  (Hv:=λbT=>nC be ((freeOf bv).map aG) (aG x) aV cl (aG pre) it bT k 4) ah ok h S aJ λar m av aS a M ag G cs bB cu cv aP aj e1 aQ e4 aT aU bC bD bE bF bG bH aW=>?_
 have u:ar.get? P=some (dw #[]):=aj _ _ bo
 have aY:lX ar b0 P:=c3.keeps aj
 clear aj h aJ
 let g:bL:=⟨a5,{scope:=n0 a5 f.env,locals:=av.objs.size,globals:=f.env.globals,cells:=cs,qual:=f.env.qual,func:=none,code:=f.env.code,frame:=f.env.frame,builtins:=f.env.builtins},av.objs.size,ar,f.ao,f.A,f.d+1,f.b⟩
 have aa:∀bq,fp f.A c.base f.ao bq->aZ c (g.k8 bq):=λbq H=>by
  refine⟨B.X.keeps H.stays,B.T.keeps H.stays,P5 H,?_,?_,?_,ah.dp,ah.cj,hx.relabel a5 f.env _ rfl,ok.kind,rfl,ah.globals,ah.builtins,ok.iI,ok.iJ,B.sys.elim λo h=>⟨o,H.stays _ _ h⟩,ah.kv,bG⟩
  ·show f.A.depth<=500+(f.d+1);have:=ah.depth;lia
  ·show f.A.units<=2000+10*(f.d+1);have:=ah.units;lia
  ·show f.d+1<=300;lia
 have cw:fc g (.c (aG x)) (.Name x jD):=.c U aN
 have a0:∀bq,fp f.A c.base f.ao bq->qm c C u8 du fT dU ex pre eM (g.k8 bq) f.ao f.A bv c2 aV cl:=λbq H=>
  ⟨B,hb,fU,qn,aa bq H,by show f.d+1+40<=300;lia,H,λb bI=>.inr bI,aa,hle,qo,lam,λF ak al am an=>nz F ak al am (by have an:F.b<=f.d+1+30:=an;lia),br⟩
 have a1:aE M it sf:=bu.ext (e1.trans e4)
 have a2:ba c g M ag G {s with heap:=aS}:=⟨⟨_,bB,aT,aU,bC,bH g rfl rfl⟩,S.gens,S.os,bD,bE,bF⟩
 clear aT aU
 have a4:dH (aR c.prog c.w) g.A (.compLoop (.ListComp (.Call (.Name eM aK) [.Lambda noArgs c2 bv dr] [] gr) [⟨.Name x jD,dL,[],0⟩] a5 pos) 0 sf (.ref a) g.env) (λr aq=>match r with|.ok _=>qu c f P dr (f.env.qual++"<lambda>") p ar av.objs.size (.ref a) k aq|.error _=>False) {s with heap:=aS}:=by
  refine Di (I:=λn aq=>∃bq aD aF V,yG f.ao ar P aD dr (f.env.qual++"<lambda>") bq/\fp f.A c.base f.ao bq/\M.bN aD/\ba c (g.k8 bq) aD aF V aq/\nC be ((freeOf bv).map aG) (aG x) aV cl (aG pre) it (.own ab.ay ab.bz) k n aF V=true) (λn aq bJ=>?_) 4 ⟨ar,M,ag,G,.inl ⟨rfl,u⟩,aP,.refl M,a2,aW⟩
  obtain⟨bq,cx,bK,bM,a6,J,ap,bO,a7⟩:=bJ
  cases n with
  |zero=>cases a7
  |succ n=>
   have a9:=aa bq J
   have bP:hC be false it bK (λv aF=>hZ (.c (aG x)) v aF bM (λaF G=>lC ((freeOf bv).map aG) aV cl (aG pre) (λb W=>jn (.own ab.ay ab.bz) [.str b] W (λZ Y=>nC be ((freeOf bv).map aG) (aG x) aV cl (aG pre) it (.own ab.ay ab.bz) k n Y G)) aF G)) (λaF=>k (.own ab.ay ab.bz) aF)=true:=a7
   have e05:=e4.trans ap
   have bQ:fc (g.k8 bq) (.c (aG x)) (.Name x jD):=.c U aN
   refine b_ (p0 (f:=(g.k8 bq)) (t:=.Name x jD) (f7:=gT (aR c.prog c.w) g.A g.env λe aq=>False) (E:=gT (aR c.prog c.w) g.A g.env λe aq=>False) bn a9 (fI:=false) (λe=>nomatch e) bP bO (a1.ext ap)) (λr cz a_=>?_) λZ Z h=>h
   cases r with
   |none=>
    obtain⟨bR,bS,as,N,bU⟩:=a_
    obtain⟨bV,bW,ak,al,am,an⟩:=N.ex
    refine⟨⟨bq,bR,bS,_,bV,bW,?_,(e1.trans e05).trans as,(aQ.ext e05).ext as,ak,al,am,N.gens,N.os,N.z,N.n,N.y,bU⟩⟩
    exact a6.imp id λ⟨t1,b8⟩=>⟨t1,b8.ext as⟩
   |some v=>
    refine pY (f:=(g.k8 bq)) a_ (λZ cA cB cC y au bX bY bZ=>?_)
    refine rE (f:=(g.k8 bq)) (rF (f:=(g.k8 bq)) (E:=gT (aR c.prog c.w) g.A g.env λe aq=>False) bQ a9 bZ bY bX) (λZ cD aw bb i ax D bd=>?_)
    have e58:=(ap.trans au).trans ax
    refine wpAny_tests_nil ?_
    rw[if_pos rfl]
    obtain⟨bg,b1,j,az,bh,aA⟩:=D.ex
    have done:∀(ae:aX) (bi:bc) di g2 aq Q fK,aw.bN ae->lB ae P dr (f.env.qual++"<lambda>")->pt (fJ f.ao) (ar.hide P) fK->rW c (g.k8 fK) f.ao Q bg bi ae (λb W=>jn (.own ab.ay ab.bz) [.str b] W (λZ Y=>nC be ((freeOf bv).map aG) (aG x) aV cl (aG pre) it (.own ab.ay ab.bz) k n Y i)) di aq g2->fp f.A c.base f.ao g2->
      aO (aR c.prog c.w) g.A (call (.builtin "list.append") [.ref a,di]) (λZ b2=>∃m,m<n+1/\∃bq aD aF V,yG f.ao ar P aD dr (f.env.qual++"<lambda>") bq/\fp f.A c.base f.ao bq/\M.bN aD/\ba c (g.k8 bq) aD aF V b2/\nC be ((freeOf bv).map aG) (aG x) aV cl (aG pre) it (.own ab.ay ab.bz) k m aF V=true) (gT (aR c.prog c.w) g.A g.env λe aq=>False) aq:=by
     intro ae bi di g2 aq Q fK e89 gq iF he bj
     obtain⟨aD,aF,b,a3,e2,b3,b4,b5,aB,b7,b9⟩:=he.ex
     have l:=e89.trans e2
     have ca:ba c (g.k8 g2) aD aF i aq:=⟨⟨bg,a3,b7,b9,b5,aA.ext l⟩,he.gens,he.os,b4,l.n.trans D.n,l.y.trans D.y⟩
     refine cy (f:=(g.k8 g2)) (w8 (f:=(g.k8 g2)) (E:=gT (aR c.prog c.w) g.A g.env λe aq=>False) (aa g2 bj) aB ca (aQ.ext ((e4.trans e58).trans l)) (.cons b3 .nil)) (λZ cE cb cc Z bk Z cd ce=>?_)
     exact⟨n,i_ _,g2,cb,cc,i,.inr ⟨iF.trans he.turn,gq.ext (e2.trans bk)⟩,bj,(e58.trans l).trans bk,cd,ce⟩
    rcases a6 with⟨rfl,cF⟩|⟨mZ,gq⟩
    ·have iP:=sb aP bp u
     refine E4 (f:=(g.k8 (bq.hide P))) (ab:=bb) (loc:=i) (a0 _ iP) (yd j) (ye az) bh D.z D.gens D.os D.n D.y aA aI ((aY.keeps j.keep)) (j.keep _ _ u) (ta _ _) (λq cg e=>by have:=(az q cg).2.2;rw[e]at this;rw[show(g.k8 bq).aC=bq from rfl,u]at this;cases this) ns bd λdi g2 aq Q bt ch e9 gq Z he=>?_
     exact done bt ch di g2 aq Q _ e9 gq .refl he (by
      have T:=he.turn
      exact⟨iP.stack,λb o e=>T.other b o (iP.stays b o e) (λhm=>by rw[(iP.frames.mem hm).1]at e;cases e),iP.frames.of_keeps λb o e Z=>by
       obtain⟨bs,hs⟩:=T.up e
       exact⟨_,hs,rfl⟩⟩)
    ·refine NJ (f:=(g.k8 bq)) (ab:=bb) (loc:=i) (a0 _ J) j az bh D.z D.gens D.os D.n D.y aA aI ?_ (gq.ext (au.trans ax)) ns bd λdi g2 aq Q Z he=>?_
     ·obtain⟨o,ai,ci,ck,cm,tg,cn,co,tt,bx,cf,eA⟩:=aY
      have cp:b0≠P:=eA.2.2.2.2.2.2.2
      have bl:(ar.hide P).get? b0=some o:=(lY _ cp).trans bx
      refine⟨o,ai,ci,ck,cm,tg,cn,co,tt,j.keep _ _ (mZ.other _ _ bl λhm=>?_),cf,eA⟩
      obtain⟨_,o2,bm,cq⟩:=J.frames.mem hm
      obtain⟨bs,hs⟩:=mZ.up bl
      rw[hs]at bm;cases bm
      exact cq _ eA.1
     ·exact done aw b1 di g2 aq Q _ (.refl aw) (gq.ext (au.trans ax)) mZ he (by
       have T:=he.turn
       exact⟨J.stack,λb o e=>T.other b o (J.stays b o e) (λhm=>by rw[(J.frames.mem hm).1]at e;cases e),J.frames.of_keeps λb o e Z=>by
        obtain⟨bs,hs⟩:=T.up e
        exact⟨_,hs,rfl⟩⟩)
 have cr:hC be false it ag (λv aF=>hZ (.c (aG x)) v aF G (λaF G=>lC ((freeOf bv).map aG) aV cl (aG pre) (λb W=>jn (.own ab.ay ab.bz) [.str b] W (λZ Y=>nC be ((freeOf bv).map aG) (aG x) aV cl (aG pre) it (.own ab.ay ab.bz) k 3 Y G)) aF G)) (λaF=>k (.own ab.ay ab.bz) aF)=true:=aW
 exact codeAny_compStart_list a4 (Dg (f:=g) cr a2 a1 a4)
end
def qu.turned {P:a7} {pos:bO} {qual:aI} {ar:bE} {C:a7} {bT:am} {k:aY} {aq:a9} (h:qu c f P pos qual p ar C bT k aq):
  ∃g aD aF x B aj,pt (fJ f.ao) (ar.hide P) g/\(∃ps,(P,dw ps)∈aD.a6)/\p.bN aD/\aE aD x bT/\Fr g C aq.heap B/\News g C aq.heap aj/\aQ c.K c.w aD aF.t aj/\aq.gens=#[]/\aq.os=c.os/\dq aD aF/\aD.n=c.n/\aD.y=c.y/\k x aF=true:=by
 obtain⟨g,aD,aF,x,B,aj,N,e,r,F,ak,H,E,G,I,J,L,M⟩:=h.ex
 clear h
 rcases N with⟨rfl,D⟩|⟨T,gq⟩
 ·have O:∀q∈[(P,dw #[])],∀r∈aj,q.1≠r.1:=λq A r Q z=>by
   rw[h7.mp A]at z
   have:=(ak r Q).2.2
   rw[<-z,D]at this;cases this
  have R:P≠C:=λq=>by
   have:=s9 F
   rw[<-q,D]at this;cases this
  refine⟨g.hide P,aD.plus [(P,dw #[])],aF,x,B,[(P,dw #[])]++aj,.refl,⟨#[],.head _⟩,e.trans (aD.mE _),r.ext (aD.mE _),yd F,λq A=>?_,H.plus O (by simp),E,G,I.plus _,J,L,M⟩
  rcases bJ.mp A with rfl|A
  ·exact⟨F.keep _ _ D,R,ta _ _⟩
  ·exact ye ak q A
 ·exact⟨g,aD,aF,x,B,aj,T,gq.a6,e,r,F,ak,H,E,G,I,J,L,M⟩
def P7 {g h av:bE} {L C:a7} {aj:bc} (F:Fr g L h m) (ak:News g L h aj) (B:L<C) (D:∀q∈aj,q.1≠C) (hs:k2 C h av):Fr g L av m/\News g L av aj:=
 ⟨⟨F.ns.sameBut hs (dS B),λb o e=>(hs.2 b (dS (cH (dX e) (c5 F.above (vK B))))).trans (F.keep b o e),F.above⟩,λq A=>⟨(hs.2 q.1 (D q A)).trans (ak q A).1,(ak q A).2⟩⟩
def P8 {env:cI} {a5:bB} {cK:aM} {gens:List Av} {pos fy:bO} {A:Nat} (B:env.scope.kind=.function) (C:env.kindOf y=some .local) (D:(fy.line==pos.line)=true) (E:(a5.names.any λ(n,k)=>n==y&&(k==.local||k==.cell))=false):
  sZ (.ListComp cK gens a5 pos) (some (.Name y fy)) A env=pure true:=by
 have F:env.blockKind=.function:=by
  unfold cI.blockKind
  rw[B];rfl
 show pure (env.blockKind==.function&&env.kindOf y==some .local&&fy.line==pos.line&&!(a5.names.any λ(n,k)=>n==y&&(k==.local||k==.cell)))=_
 rw[F,C,D,E]
 rfl
section
variable {C u8:Nat} {du:c9} {b7:List cI} {eK:hN} {loc:Loc} {fT dU ex pre eM:aI} {aK gr dr pos p3 fy:bO} {c2 dL:aM} {bv a5:bB} {b0 P:a7} {x:aI} {jD:bO}
 {aV ci:aT} {cl:b5} {E:am->a9->Prop} {a2:dy} {au:ef} {free:List Nat} {Q:iZ->a9->Prop}
def P9 {be:Nat->Option O} (W:go c be) (B:gw c) (ah:aZ c f) (an:f.ao=f.env::b7) (ap:f.env.frame=some f.L) (bq:f.A.frames=some f.ao) (as:fp eK c.base b7 f.aC) (ok:nk f a5 (some (aG x)) free) (hd:f.d+60<=300) (M:f.aC.get? P=some (dw #[])) (X:c.base.get? P=none)
  (hb:qd c C u8 du) (fU:rV c C du fT dU ex pre) (qn:fZ c.K (.ref du.addr)=true) (hle:a5.names.lookup eM=some .globalImplicit) (qo:d7 c eM (.ref du.addr)) (lam:kR a5 bv=true) (ns:noStar [.Lambda noArgs c2 bv dr]=true)
  (av:bf x=true) (nz:∀F,aZ c F->F.sc=bv->F.d+9<=F.b->F.b<=f.d+31->a8 c (b6 c C) aV F c2) (aw:df c (b6 c C) (f.d+31) cl) (ax:f.env.code=.ref b0) (c3:lX f.aC b0 P)
  (af:a8 c (b6 c C) ci f dL) (hs:g0 dL=true) (ay:bf y=true) (Y:f.sc.names.lookup y=some .local) (aA:(fy.line==pos.line)=true) (aE:(a5.names.any λ(n,k)=>n==y&&(k==.local||k==.cell))=false) (aH:au.x=b1) (aI:df c (b6 c C) f.b au.cl)
  (h:ci ab loc (λv ab=>ij be v ab (λi ab=>se be ((freeOf bv).map aG) (aG x) free aV cl (aG pre) loc (λw ab=>a2 .next ab (up loc (aG y) w)) i ab)) au=true) (S:ba c f p ab loc s)
  (aJ:∀G aD aF cO aq,pt (fJ b7) (f.aC.hide P) G->fp eK c.base b7 G->p.bN aD->ba c (f.k8 G) aD aF cO aq->(∃ps,(P,dw ps)∈aD.a6)->a2 .next aF cO=true->Q .next aq):
  aO (aR c.prog c.w) f.A (exec (.Assign [.Name y fy] (.ListComp (.Call (.Name eM aK) [.Lambda noArgs c2 bv dr] [] gr) [⟨.Name x jD,dL,[],0⟩] a5 pos) p3) f.env) Q E s:=by
 have a:=hx.loc ah Y
 rw[exec_Assign_Name_used _ _ _ _ (P8 ah.kind a aA aE)]
 refine aP (lP (aP ?_))
 show aO _ f.A (do let _<-comprehension (.ListComp (.Call (.Name eM aK) [.Lambda noArgs c2 bv dr] [] gr) [⟨.Name x jD,dL,[],0⟩] a5 pos) a5 f.env _ (newList []) false (dP dL f.env) (some (lV (.Name y fy) f.env))) _ _ s
 obtain⟨cls,aL,aM,_⟩:=xn ah ok
 refine aP (b_ (Hu (use:=some (lV (.Name y fy) f.env)) (Q:=λZ aq=>Q .next aq) rfl (p1 hs) aL ok.kind ok.names
  (cy (af ab loc _ au p s E h S (by rw[aH];exact(b6 c C).no _ _ _) aI) (λv bu bt bw bx aN aQ aS aT=>?_))) (λZ aq D=>br (br D)) λZ Z e=>e)
 refine cy (pW W ah aT aS aQ) (λbz bA bB bC bD aU aW aX aY=>?_)
 refine b_ (P6 (pos:=pos) (aK:=aK) (gr:=gr) (dr:=dr) (jD:=jD) (dL:=dL) W B ah ok hd M X hb fU qn hle qo lam ns av nz aw ax c3 aY aX aW aM) (λbT bE j=>b_ j (λa0 bG a1=>?_) λZ Z h=>h) λZ Z h=>h
 obtain⟨ar,l,H,a3,bH,bI,a4⟩:=a1
 refine hp a4 λr aq t=>?_
 cases r with
 |error x=>exact t.elim
 |ok bg=>
  obtain⟨g,aD,aF,w,a7,u,T,a9,bF,a_,N,R,bb,g1,g2,g3,bc,dY,aB⟩:=qu.turned t
  have bK:ar.get? P=some (dw #[]):=H.keep _ _ M
  have aa:P≠f.L:=λq=>by
   have:=s9 H
   rw[<-q,M]at this;cases this
  have ag:Fr (f.aC.hide P) f.L (ar.hide P) l:=by
   obtain⟨ai,es,az,V,r⟩:=H.ns
   refine⟨⟨ai,es,az,(lY _ aa.symm).trans V,r⟩,λb o e=>?_,c5 (gz (HD _ _)) H.above⟩
   have I:b≠P:=λq=>by rw[q,ta]at e;cases e
   exact(lY _ I).trans (H.keep _ _ (Az e))
  have bd:∀b,b∈fJ f.ao->b=f.L∨b∈fJ b7:=λb I=>by
   have I:b∈f.ao.filterMap (·.frame):=I
   rw[an]at I
   obtain⟨e,he,ae⟩:=jc.mp I
   rcases bJ.mp he with rfl|he
   ·exact .inl (gR (ae.symm.trans ap))
   ·exact .inr (jc.mpr ⟨e,he,ae⟩)
  have bh:(ar.hide P).UpToSlots aq.heap:=λb o e bL=>by
   obtain⟨bs,J⟩:=T.up e
   exact⟨bs,N.keep _ _ J⟩
  obtain⟨G,l0,aj,bi⟩:=uh (sb as X M) ag (B:=g) (kJ:=aq.heap) (λb o q bj bk=>T.other b o q λhm=>(bd b hm).elim bj bk) (λb o q=>N.keep _ _ q) bh
  obtain⟨ai,_,_,V,_⟩:=H.ns
  have ak:∃o,g.get? f.L=some o:=by
   obtain⟨bs,J⟩:=T.up ((lY _ aa.symm).trans V)
   exact⟨_,J⟩
  have bl:News G f.L aq.heap u:=λq D=>by
   refine⟨(R q D).1,λe=>?_,?_⟩
   ·obtain⟨o,k8⟩:=ak
    have:=(R q D).2.2;rw[e,k8]at this;cases this
   ·refine l0.none_ _ ?_
    cases e:(f.aC.hide P).get? q.1 with
    |none=>rfl
    |some o=>
     obtain⟨bs,J⟩:=T.up (ag.keep _ _ e)
     have:=(R q D).2.2;rw[J]at this;cases this
  have al:f.L<a0.locals:=by
   obtain⟨o,k8⟩:=ak
   exact cH (dX k8) N.above
  show aO _ f.A (lV (.Name y fy) f.env bT) _ _ _
  refine Ai (v5 (m:=l) a (ah.locals▸aj.ns) (λbM am U=>?_) (by rw[ah.kind];rfl))
  rw[ah.locals]at am U
  refine⟨a7,N.ns.sameBut U (lO al),λj bm=>?_⟩
  obtain⟨bn,bo⟩:=P7 (aj.set am U) (bl.set U) al (λq D=>(R q D).2.1) bm
  have bp:=(aN.trans aU).trans bF
  exact aJ G aD aF _ _ l0 bi bp ⟨⟨_,u,bn,bo,bb,((a3.ext bF).set ay Y a_)⟩,g1,g2,g3,bc,dY⟩ a9 aB
end
def P_ (ns:List Nat):((eg ns).all λq=>cE 115 q.2)=true:=by
 refine eU.mpr λq A=>?_
 unfold eg at A
 obtain⟨a,_,h⟩:=jc.mp A
 clear A
 unfold hh at h
 by_cases e2:a=2
 ·rw[if_pos e2]at h;cases h;rfl
 ·rw[if_neg e2]at h
  by_cases e3:a=3
  ·rw[if_pos e3]at h;cases h;rfl
  ·rw[if_neg e3]at h;cases h
def yH (ns:List Nat) (j:Nat):cE 115 (hg ns j)=true:=by
 unfold hg
 by_cases e:j∈ns
 ·rw[if_pos e];rfl
 ·rw[if_neg e];rfl
def Qa (ns:List Nat):(dN ns).all (cE 115)=true:=eU.mpr λq A=>by
 obtain⟨a,_,rfl⟩:=ey.mp A,A
 rfl
def yI (ns:List Nat) (a4 az z:Nat) {it:O} (h:er 115 it=true):yF (et ns a4 az (dN ns) z it):=⟨yH ns 0,yH ns 1,yH ns 4,P_ ns,Qa ns,h⟩
def Qb {l m:Loc} {x:Nat}:lk l x=some v->lk (l++m) x=some v:=by
 induction l with
 |nil=>intro h;rw[n_]at h;cases h
 |cons q l B=>
  intro h
  show lk (q::(l++m)) x=_
  rw[gE]at h⊢
  cases A:aU q.1 x with
  |true=>rw[A]at h;exact h
  |false=>rw[A]at h;exact B h
def yJ (A:Int):∀x v,lk (fM A) x=some v->cE 115 v=true:=λx v h=>by
 have:=md h
 have al:((fM A).all λq=>cE 115 q.2)=true:=by kernel_rfl
 exact eU.mp al _ this
def Qc:(((fV.get (key 110),fV.get (key 111)),(fV.get (key 58),fV.get (key 107))),((fV.get (key 83),fV.get (key 4)),(fV.get (key 2),fV.get (key 0))))=(((some (.list []),some (.list [])),(some (.inst 61 (uY .none)),some (.inst 103 (uX .none)))),((some (.inst 83 (uW .none)),some (.dict 0 [])),(some (.inst 1151 (uV 8)),some (.box 0)))):=by kernel_rfl
def T7 {n:Int} {y:Option O} {x:O} (ae:j≠114) (ag:j≠113) (h:j<4096) (g:fV.get (key j)=y) (w:hf y x):hf (bn (⟨T.put (.rit 0 n) (key 114) (T.put (.rng 0 n) (key 113) fV),115,key 115⟩:aA) (key j)) x:=by
 rw[bP]
 show hf ((T.put (.rit 0 n) (key 114) (T.put (.rng 0 n) (key 113) fV)).get (key j)) x
 rw[T.cd _ _ (by decide) h,T.cd _ _ (by decide) h,if_neg ae,if_neg ag,g]
 exact w
def Qd (n:Int):∀i,i<115->∀o,bn (dA (et [] 0 0 (dN []) 0 (.rit 0 n))) (key i)=some o->hf (bn (⟨T.put (.rit 0 n) (key 114) (T.put (.rng 0 n) (key 113) fV),115,key 115⟩:aA) (key i)) o:=λi af o k8=>by
 have f:=Qc
 injection f with A C
 injection A with A B
 injection A with D E
 injection B with F G
 injection C with A B
 injection A with H I
 injection B with g2 fK
 refine T_ (by lia) k8 (λe q=>?_) (λZ q=>q▸.dead) (λe q=>?_) (λe q=>?_) (λe q=>?_) (λe q=>?_) (λe q=>?_) (λe q=>?_) (λe q=>?_) (λe q=>?_) λJ K h=>T7 J K (by lia) h .same
 all_goals
  clear k8 af
  subst e
  subst q
 ·rw[bP]
  show hf ((T.put (.rit 0 n) (key 114) (T.put (.rng 0 n) (key 113) fV)).get (key 114)) _
  rw[T.cd _ _ (by decide) (by decide),if_pos rfl]
  exact .same
 ·exact T7 (by decide) (by decide) (by decide) E .trues
 ·exact T7 (by decide) (by decide) (by decide) D .same
 ·exact T7 (by decide) (by decide) (by decide) F .same
 ·exact T7 (by decide) (by decide) (by decide) G .same
 ·exact T7 (by decide) (by decide) (by decide) H .same
 ·exact T7 (by decide) (by decide) (by decide) I .same
 ·exact T7 (by decide) (by decide) (by decide) g2 .same
 ·exact T7 (by decide) (by decide) (by decide) fK .same
def Qe (P:gx):∀i,i<115->bn (dA P) (key i)=bn (cU P) (key i):=λi af=>by
 rw[bP,bP]
 show(qt P).get (key i)=(T.put (.list []) (key 115) (qt P)).get (key i)
 rw[T.cd _ _ (by decide) (by lia),if_neg (by lia)]
def Qf {ns:List Nat} {a4 az z:Nat} (h:a4<=10):∀i,i<115->∀o,bn (dA (et ns 10 az (dN ns) z .dead)) (key i)=some o->hf (bn (dA (et ns a4 az (dN ns) z .dead)) (key i)) o:=λi af o k8=>by
 have i4:i<4096:=by lia
 clear af
 rw[getL _ i4]at k8⊢
 clear i4
 by_cases e:i=0
 ·subst e
  cases k8
  exact .box h
 ·have:∀{x y:Option O},(if i=0 then x else y)=y:=λ{x y}=>if_neg e
  rw[this]at k8⊢
  show hf _ o
  exact k8▸.same
def TurnOk (B:bV) (au:ef):Prop:=∀{ns:List Nat} (a_:ns.Nodup) (D:ns.length<=100) {a4 az z:Nat} {it:O} (E:a4<=100) (F:z<=100) (A a:Int) {K:dy} (G:∀j,j<5->∀C,K .next (cU (et (dZ ns j) (bS a4) C (dN (dZ ns j)) (bS z) it)) (fW A a j)=true),
 B (dA (et ns a4 az (dN ns) z it)) (up (fM A) 247314927 (.int a)) K au=true
def yK (ci:aT) (au:ef) (B:aA):Prop:=∀A:Int,A=0∨A=1->∃n:Nat,n<=10/\∀K:aY,ci B (fM A) (λv ab=>ij cA v ab K) au=K (.own 114 (key 114)) ⟨T.put (.rit 0 (bl n)) (key 114) (T.put (.rng 0 (bl n)) (key 113) fV),115,key 115⟩
def Qg (K:go c cA) (ah:aZ c f) {t it:aM} {b:List bI} {eI:bO} {ci:aT} {L:bV} {au:ef} {M:aA} (l:fc f (.n 247314927) t) (af:a8 c aw ci f it) (o:gG c aw L f b) (hs:g0 it=true) (u:au.x=b1) (R:df c aw f.b au.cl)
  (N:yK ci au M) (gU:TurnOk L au) {B:Int} (aa:B=0∨B=1) {p:aX} {s:a9} {E:am->a9->Prop} {Q:iZ->a9->Prop} (S:ba c f p M (fM B) s)
  (ag:∀ns az z aD aq,p.bN aD->ba c f aD (dA (et ns 10 az (dN ns) z .dead)) (fM B) aq->Q .next aq):
  aO (aR c.prog c.w) f.A (exec (.For t it b [] eI) f.env) Q E s:=by
 obtain⟨tt,a3,N⟩:=N B aa
 have U:∀p E,aw.ok f p au.x E:=λp E=>by rw[u];exact aw.no f p E
 refine wpAny_For (cy (af M (fM B) (λv ab=>ij cA v ab (j5 λv ab=>v=.own 114 (key 114)/\ab=⟨T.put (.rit 0 (bl tt)) (key 114) (T.put (.rng 0 (bl tt)) (key 113) fV),115,key 115⟩)) au p s E (by rw[N];exact fA (P:=λv ab=>v=.own 114 (key 114)/\ab=⟨T.put (.rit 0 (bl tt)) (key 114) (T.put (.rng 0 (bl tt)) (key 113) fV),115,key 115⟩) ⟨rfl,rfl⟩) S (U _ _) R) (λv a5 bt bw y V ai aj ak=>?_)) (p1 hs)
 refine cy (pW K ah ak aj ai) (λa7 bb H bc bd W X Y d=>?_)
 obtain⟨ev,es⟩:=mz d
 clear d
 subst ev es
 have al:H.ay=115:=Y.z.ay
 have an:=Y.canon (yI [] 0 0 0 rfl) (eh _) (Qd (bl tt)) (λx v h=>⟨h,yJ B x v h⟩)
 refine Hs (I:=λn aq=>∃ns a4 az z a m aD,H.bN aD/\aD.ay=115/\List.Nodup ns/\ns.length<=a4/\z=a4/\a4+m=tt/\n=m+1/\ba c f aD (dA (et ns a4 az (dN ns) z (.rit a (bl m)))) (fM B) aq) (λn aq ao=>?_) (tt+1) ⟨[],0,0,0,0,tt,_,(by rw[<-al];exact(aX.bN.refl H).cut),rfl,.nil,eh _,rfl,by lia,rfl,an⟩
 obtain⟨ns,a4,az,z,a,m,be,J,bf,a_,bh,ap,hm,bi,g⟩:=ao
 have ar:a4+m<=10:=by lia
 clear ar
 subst ap
 cases m with
 |zero=>
  refine b_ (p0 (t:=t) (f7:=gT (aR c.prog c.w) f.A f.env λe aq=>cameBackBy (aR c.prog c.w) f.A f.env E e aq) K ah (fI:=false) (λe=>nomatch e) (cY:=λZ Z=>false) (no:=λab=>@decide (ab=dA (et ns z az (dN ns) z .dead)) (dv _)) (by unfold et;rw[PM];exact@decide_eq_true _ (dv _) rfl) g (X.ext J)) (λr as F=>?_) λZ Z h=>h
  cases r with
  |none=>
   obtain⟨av,bj,ax,aB,G⟩:=F
   have G:=@of_decide_eq_true _ (dv _) G
   subst G
   refine k7 (ag ns az z (av.cut 115) _ ?_ (aB.canon (yI ns 10 az z rfl) (eh _) (Qf (by lia)) (λx v h=>⟨h,yJ B x v h⟩)))
   have:=((V.trans W).trans J).trans ax
   exact⟨this.n,this.y,(by have ae:=(V.trans W).ay;show p.ay<=115;lia),this.a,this.b,this.e,this.a6⟩
  |some v=>
   refine pY F (λZ aC Z Z Z Z Z Z O=>?_)
   cases O
 |succ m=>
  refine b_ (p0 (t:=t) (f7:=gT (aR c.prog c.w) f.A f.env λe aq=>cameBackBy (aR c.prog c.w) f.A f.env E e aq) K ah (fI:=false) (λe=>nomatch e) (cY:=λv ab=>hZ (.n 247314927) v ab (fM B) λab loc=>L ab loc (λbg aF cO=>@decide (bg=.next/\∃j C,j<5/\cO=fW B a j/\aF=cU (et (dZ ns j) (bS z) C (dN (dZ ns j)) (bS z) (.rit (bM a 1) (bl m)))) (dv _)) au) (no:=λZ=>false) (by
   unfold et
   rw[PL]
   exact gU a_ (by lia) (by lia) (by lia) B a λj i C=>@decide_eq_true _ (dv _) ⟨rfl,j,C,i,rfl,rfl⟩) g (X.ext J)) (λr as F=>?_) λZ Z h=>h
  cases r with
  |none=>
   obtain⟨_,_,_,_,G⟩:=F
   cases G
  |some v=>
   refine pY F (λZ aC bk bm x aE aG aH O=>?_)
   refine rE (rF l ah O aH aG) (λZ aI aJ aK aL aN aP aQ=>?_)
   refine hT (o aK aL _ au aJ aI _ aQ aP (U _ _) R) (λbg bn aS bo bp y aU aV aW k=>?_)
   obtain⟨aY,j,C,i,el,es⟩:=@of_decide_eq_true _ (dv _) k
   clear k
   subst aY el es
   cases aV
   have e37:=(aE.trans aN).trans aU
   have a0:=aW.canon (yI (dZ ns j) (bS z) C (bS z) (it:=.rit (bM a 1) (bl m)) rfl) (show 115<=116 by lia) (PT (Qe _)) (cO:=fM B) (λx v h=>⟨Qb h,yJ B x v h⟩)
   have D:=J.trans e37
   refine⟨m+1,by lia,dZ ns j,bS z,C,bS z,_,m,aS.cut 115,⟨D.n,D.y,(by show H.ay<=115;lia),D.a,D.b,D.e,D.a6⟩,rfl,?_,?_,rfl,by lia,rfl,a0⟩
   ·unfold dZ
    by_cases q:j∈ns
    ·rw[if_pos q];exact a_
    ·rw[if_neg q,pb]
     exact⟨a_,by simp,λa a1 b a2 e=>by rw[h7.mp a2]at e;exact q (e▸a1)⟩
   ·unfold dZ
    by_cases q:j∈ns
    ·rw[if_pos q];lia
    ·rw[if_neg q,lM];show ns.length+1<=z+1;lia
def Qh (h:Std c) (dT:gw c) {cC:f3} {aJ:c9} {P b0:a7} {R T b:List bI} {t it dL c2 e8:aM} {bv a5:bB} {x:aI} {jD fy aK gr dr pos p3 eI iO:bO} {N l cf:bV} {ci U aV V:aT} {cx jl:dy} {O:aA} (ok:gH c.K aJ) (aL:kx c.K cC aJ)
  (aN:aJ.body=R++([.For t it b [] eI]++(T++([.Assign [.Name y fy] (.ListComp (.Call (.Name (S "_law_error") aK) [.Lambda noArgs c2 bv dr] [] gr) [⟨.Name x jD,dL,[],0⟩] a5 pos) p3]++[.Return (some e8) iO]))))
  (hY:cp.cL aJ.scope R=N) (aO:im aJ.scope t=some (.n 247314927)) (aP:cp.ev aJ.scope it=ci) (aQ:cp.cL aJ.scope b=l) (lr:cp.cL aJ.scope T=cf) (aR:cp.ev aJ.scope dL=U) (aS:cp.ev bv c2=aV) (aU:cp.ev aJ.scope e8=V)
  (s1:kR a5 bv=true) (sn:noStar [.Lambda noArgs c2 bv dr]=true) (eX:g0 it=true) (hR:ep a5 (S "_law_error") .globalImplicit=true) (jK:bf x=true) (mb:bf y=true) (aW:ep aJ.scope y .local=true) (aX:(fy.line==pos.line)=true) (aY:(a5.names.any λ(n,k)=>n==y&&(k==.local||k==.cell))=false) (a1:g0 dL=true)
  (hw:rP aJ.scope a5=true) (a3:ud a5=some (some (aG x))) (fL:aJ.d9=.ref b0) (a4:qq c.K b0 P=true)
  (o:∀B:Int,B=0∨B=1->∀K:dy,gI cC.e_ (je cC.dflt cC.least [.own 0 (key 0),gv,.int B]) ir [] (λab loc=>hU cC.cells ab loc λab loc=>N ab loc K f_)=K .next O (fM B))
  (a8:yK ci f_ O) (gU:TurnOk l f_) (a9:∀B:Int,B=0∨B=1->∀ns az z,cf (dA (et ns 10 az (dN ns) z .dead)) (fM B) cx f_=true)
  (a_:∀bg ab loc,cx bg ab loc=true->bg=.next/\U ab loc (λv ab=>ij cA v ab (λi ab=>se cA ((freeOf bv).map aG) (aG x) ((freeOf a5).map aG) aV qs (aG (S "error ")) loc (λw ab=>jl .next ab (up loc (aG y) w)) i ab)) f_=true)
  (bb:∀ab loc,jl .next ab loc=true->V ab loc h1 f_=true):kb c aJ.addr (some P):=by
 intro G dM v f p cq m aj s E q bc cr ah hd bd be cs bh F ak H z gs os r u bi
 have av:=h.at G dM
 have aa:=dT.at G dM
 obtain⟨bj,ae⟩:=bh P rfl
 obtain⟨bk,bl,bm,bn,bp⟩:=aL
 obtain⟨B,ev,W⟩:∃B:Int,v=.int B/\(B=0∨B=1):=by
  rcases q with rfl|rfl
  ·exact⟨0,rfl,.inl rfl⟩
  ·exact⟨1,rfl,.inr rfl⟩
 clear q
 subst ev
 have af:gI cC.e_ (je aJ.dflt aJ.least [.own 0 (key 0),gv,.int B]) ir [] (λab loc=>hU cC.cells ab loc λab loc=>N ab loc (λbg ab loc=>@decide (bg=.next/\ab=O/\loc=fM B) (dv _)) f_)=true:=by
  rw[<-bm,<-bn,o B W]
  exact@decide_eq_true _ (dv _) ⟨rfl,rfl,rfl⟩
 clear o
 refine enter (c:=c.at G dM) (aJ:=aJ) (e_:=cC.e_) (cl:=cC.cells) (KK:=λab loc=>N ab loc (λbg ab loc=>@decide (bg=.next/\ab=O/\loc=fM B) (dv _)) f_) (d:=10) (by lia) ok bk bl bp ah hd F ak (uP H z.ay r bc u) (ab:=ir) ⟨z.ay,z.bz⟩ bi af λC ct bq ag ai al br bo I bs D am Y bt J L an cu bu bw e02 bx bA bC ap a lv=>?_
 clear af
 have bD:ba (c.at G dM) C ag ai al {s with heap:=br,toks:=bo}:=⟨⟨_,bq++aj,bu,bw,bA,bC⟩,gs,os,bx,e02.n.trans r,e02.y.trans u⟩
 have rc:=av.rc I (by rw[J,L];lia) (by rw[L];lia)
 have pre:=rc.cL R
 rw[D,hY]at pre
 have aq:=rc.ev it
 rw[D,aP]at aq
 have ar:=rc.cL b
 rw[D,aQ]at ar
 have as:=rc.cL T
 rw[D,lr]at as
 have au:=rc.ev dL
 rw[D,aR]at au
 rw[aN]
 have aB:C.A.frames=some C.ao:=by rw[bt,Y];exact nR (ah.stack F)
 have aD:C.aC.get? P=some (dw #[]):=an.keep _ _ bj
 have M:=j6 av.a0 (j_ av.a0) 24 C.b (by rw[L];lia)
 have e:∀(g:bL) p E,(b6 (c.at G dM) 849).ok g p b1 E:=λg p E=>(b6 (c.at G dM) 849).no g p E
 refine nA (hT (pre ai al _ f_ ag _ _ ap bD (e _ _ _) M) (λbg cv cw cz cB cD bE bF bG bH=>?_))
 clear ap
 obtain⟨rfl,rfl,rfl⟩:=@of_decide_eq_true _ (dv _) bH
 cases bF
 refine nA (iE (Qg (aw:=b6 (c.at G dM) 849) (qk av.K) I (nn (f:=C) (by rw[D];exact aO)) aq ar eX rfl M a8 gU W bG λns az zz bJ bK bM bN=>k7 ?_))
 refine nA (hT (as _ _ cx f_ bJ bK _ (a9 B W ns az zz) bN (e _ _ _) M) (λbg cE cF cG cH cI bP bQ bR aE=>?_))
 obtain⟨rfl,bS⟩:=a_ _ _ _ aE,aE
 cases bQ
 have bT:C.env.code=.ref b0:=by rw[bs];exact fL
 have bU:lX C.aC b0 P:=uQ I.X a4
 have g:=E7 av.K
 refine nA (iE (P9 (a2:=jl) (ci:=U) (qk av.K) aa I Y am aB a (xA (f:=C) (by rw[D];exact hw) a3) (by rw[J];lia) aD ae (E5 av.K) (E6 av.K) g.2 (fd hR) g.1 s1 sn jK (λcJ ax hs bW bX=>?_)
  (j6 av.a0 (j_ av.a0) 20 (C.d+31) (by rw[J];lia)) bT bU au a1 mb (by rw[D];exact fd aW) aX aY rfl M bS bR λj bY bZ b2 b3 l0 b4 b5 b7 b8 b9=>k7 ?_))
 ·have:=(av.rc ax bW (by rw[J]at bX;lia)).ev c2
  rw[hs,aS]at this
  exact this
 ·have b_:aZ (c.at G dM) (C.k8 j):=aZ.ground (f:=C) aa I Y am aB b4
  have aF:=(av.rc b_ (by show C.d+9<=C.b;rw[J,L];lia) (by show C.b<=260;rw[L];lia)).ev e8
  rw[show cp.ev (C.k8 j).sc e8=V by show cp.ev C.sc _=_;rw[D];exact aU]at aF
  refine iE (qV (cy (f:=(C.k8 j)) (aF bZ b2 h1 f_ bY b3 _ (bb _ _ b9) b7 (e _ _ _) M) (λdi cK ca cb cc aH cd Q ce=>?_)))
  obtain⟨cM,cg,ch,cj,ck,_⟩:=Q.ex
  obtain⟨ps,cm⟩:=b8
  rw[bd]at a l0
  obtain⟨cn,co⟩:=Ff an (sb a ae aD) be l0 ch cj
  exact⟨⟨ca,cb,cc,cg,((((e02.trans bE).trans bM).trans bP).trans b5).trans aH,cd,cn,co,ck,Q.z,ce,λP c0=>by cases c0;exact⟨ps,aH.a6 _ cm⟩⟩,Q.gens,Q.os⟩
def Qi (P:bR):gH (KF P) i1222:=nq (cR:=.type "function") (cB:=none) (gX:=#[]) ak (ai "law_nu0299_01" 1980) [] 3 0 (by kernel_rfl) (λv S=>by kernel_rfl) (by kernel_rfl) (λp=>.nil) (by kernel_rfl) (by kernel_rfl)
def Qj:f3:=⟨yD,[],3,[],uZ⟩
def Qk (P:bR):kx (KF P) Qj i1222:=uw (by kernel_rfl) (by kernel_rfl) (by kernel_rfl)
def Ql:i1222.body=i1222.body.take 2++([.For gZ.1 gZ.2.1 gZ.2.2 [] ⟨931,4,935,85⟩]++((i1222.body.drop 3).take 4++([.Assign [.Name (S "odd") ⟨941,4,941,7⟩] (.ListComp (.Call (.Name (S "_law_error") ⟨941,11,941,21⟩) [.Lambda noArgs gy.1.2 gy.1.1 ⟨941,22,941,58⟩] [] ⟨941,11,941,59⟩) [⟨.Name (S "value") ⟨941,64,941,69⟩,gy.2.1,[],0⟩] gy.2.2 ⟨941,10,941,82⟩) ⟨941,4,941,82⟩]++[.Return (some yx) ⟨942,4,942,101⟩]))):=by kernel_rfl
def Qm:cp.cL i1222.scope (i1222.body.take 2)=uZ:=rfl
def Qn:im i1222.scope gZ.1=some (.n 247314927):=by kernel_rfl
def Qo:cp.ev i1222.scope gZ.2.1=u0:=rfl
def Qp:cp.cL i1222.scope gZ.2.2=yz:=by kernel_rfl
def Qq:cp.cL i1222.scope ((i1222.body.drop 3).take 4)=Fx:=rfl
def Qr:cp.ev i1222.scope gy.2.1=yB:=rfl
def Qs:cp.ev gy.1.1 gy.1.2=yA:=rfl
def Qt:cp.ev i1222.scope yx=yC:=rfl
def sg:((kR gy.2.2 gy.1.1,noStar [.Lambda noArgs gy.1.2 gy.1.1 ⟨941,22,941,58⟩],g0 gZ.2.1,ep gy.2.2 (S "_law_error") .globalImplicit),(bf (S "value"),bf (S "odd"),ep i1222.scope (S "odd") .local),((gy.2.2.names.any λ(n,k)=>n==S "odd"&&(k==.local||k==.cell)),g0 gy.2.1,rP i1222.scope gy.2.2),ud gy.2.2)=((true,true,true,true),(true,true,true),(false,true,true),some (some (aG (S "value")))):=by kernel_rfl
def Qu:(((freeOf gy.1.1).map aG,aG (S "value"),(freeOf gy.2.2).map aG),aG (S "error "),aG (S "odd"),i1222.d9)=(([32151141222,32449033957],32151141222,[32449033957]),3535806413217,1848037,r 1221):=by kernel_rfl
def Qv:yK u0 f_ ⟨fV,113,key 113⟩:=λA h=>by
 rcases h with rfl|rfl
 ·exact⟨4,by lia,λK=>Pe K⟩
 ·exact⟨10,by lia,λK=>Pf K⟩
def Qw:TurnOk yz f_:=λ{ns} a_ A {a4 az z it} B C D a {K} E=>P4 (cl:=eF) (x:=b1) (λai ab k=>PE ai ab k b1) (λ{ns} a_ {j} F a4 az bs z it K=>PX a_ F a4 az bs z it K b1) a_ A B C D a E
def u9 (bg:Fl) (ab:aA) (loc:Loc):Bool:=Fl.rec (yC ab loc h1 f_) false false aL bg
def yL (bg:Fl) (ab:aA) (loc:Loc):Bool:=Fl.rec (yB ab loc (λv ab=>ij cA v ab (λi ab=>se cA [32151141222,32449033957] 32151141222 [32449033957] yA qs 3535806413217 loc (λw ab=>u9 .next ab (up loc 1848037 w)) i ab)) f_) false false aL bg
def Qx {loc:Loc}:yL .next ab loc=yB ab loc (λv ab=>ij cA v ab (λi ab=>se cA [32151141222,32449033957] 32151141222 [32449033957] yA qs 3535806413217 loc (λw ab=>u9 .next ab (up loc 1848037 w)) i ab)) f_:=by kernel_rfl
def Qy {loc:Loc}:u9 .next ab loc=yC ab loc h1 f_:=by kernel_rfl
def Qz (A li:Int) (az:Nat) (es:List (Nat×V)) (v0 v1 v2:V) (bs:List V) (z:Nat):Fx (dA ⟨10,li,az,es,v0,v1,v2,bs,z,.dead⟩) (fM A) yL f_=true:=by kernel_rfl
def QA (h:Std c) (dT:gw c):kb c 1222 (some 1219):=by
 have ok:=Qi c.w.params
 rw[<-h.K]at ok
 have A:=Qk c.w.params
 rw[<-h.K]at A
 have dB:=Fc c.w.params
 rw[<-h.K]at dB
 have a:=sg
 injection a with a b
 injection a with B a
 injection a with C a
 injection a with D E
 injection b with b c1
 injection b with cW b
 injection b with d1 fk
 injection c1 with d e
 injection d with c_ d
 injection d with fs gC
 have t:=Qu
 injection t with t bZ
 injection t with t1 t
 injection t with b8 fg
 injection bZ with fL bZ
 injection bZ with F G
 refine Qh (aJ:=i1222) h dT ok A Ql Qm Qn Qo Qp Qq Qr Qs Qt B C D E cW d1 fk rfl c_ fs gC e G dB (cx:=yL) (jl:=u9) (λH h K=>?_) Qv Qw (λH Z ns az z=>Qz ..) (λbg ab loc k=>?_) (λab loc k=>Qy.symm.trans k)
 ·rcases h with rfl|rfl
  ·exact Pc K
  ·exact Pd K
 ·cases bg with
  |next=>rw[t1,b8,fg,fL,F];exact⟨rfl,Qx.symm.trans k⟩
  |_=>cases k
def FE (h:Std c) {a:Nat} (C:c7 cg (hc iq cg 24) a [.own 0 (key 0),gv,gt] ir h1 b1=true):oH c a:=by
 intro x y v f p D m aj s E G I O ah hd F ak H z gs os A B J
 have a0:=(h.at x y).a0
 have K:All2 (aE p) [.own 0 (key 0),gv,gt] D:=by
  cases J with
  |cons L t1=>
   cases t1 with
   |cons M b8=>
    cases b8 with
    |cons N fg=>
     cases fg
     refine .cons L (.cons M (.cons ?_ .nil))
     rcases G with rfl|rfl<;>(obtain⟨t,rfl⟩:=N;exact ie)
 exact x8 (c:=c.at x y) (aw:=b6 (c.at x y) 849) (x:=b1) a0 (d:=10) (by lia) (j6 a0 (j_ a0) 24 20 (by lia)) ah hd C F ak (uP H z.ay A I B) ⟨z.ay,z.bz⟩ gs os A B ((b6 (c.at x y) 849).no _ _ _) K
def QB:c7 cg (hc iq cg 24) 1227 [.own 0 (key 0),gv,gt] ir h1 b1=true:=by kernel_rfl
def QC:c7 cg (hc iq cg 24) 1207 [.own 0 (key 0),gv,gt] ir h1 b1=true:=by kernel_rfl
def QD (h:Std c):oH c 1227:=FE h QB
def QE (h:Std c):oH c 1207:=FE h QC
def FF (o:Option O) (k:Bool):Bool:=fv o λxs=>nv xs λa b=>V.rec false aL aL (λi=>V.rec false aL aL (λj=>aN (Int.dt i 0) (aN (Int.dt j 1) k)) aL a1 aL a1 b) aL a1 aL a1 a
def QF' {o:Option O} {k:Bool} (h:FF o k=true):o=some (.list [.sym 0,.sym 1])/\k=true:=by
 obtain⟨xs,rfl,h⟩:=gn' h
 obtain⟨a,b,rfl,h⟩:=oG' h
 cases a with
 |sym i=>
  cases b with
  |sym j=>
   replace h:aN (Int.dt i 0) (aN (Int.dt j 1) k)=true:=h
   obtain⟨ae,h⟩:=an h
   obtain⟨ag,h⟩:=an h
   rw[uJ ae,uJ ag]
   exact⟨rfl,h⟩
  |_=>cases h
 |_=>cases h
def FG (o:Option O):Bool:=cq false (λo=>O.rec a1 a1 a1 (λZ=>true) aL aL aL a1 a1 cQ aL cQ aL cQ a1 a1 a1 false aL false aL a1 aL o) o
def yM (A B q:Nat) (ai:List V) (ab:aA) (k:aY):Bool:=nv ai λo m=>cz o λZ aB=>jX m λm=>bk
 (j8 (bn ab aB) λn=>aN (b2 1 m) (aN (b2 n 2000) ((λab=>bk (j4 m λj=>k (.int (bl j)) ab) (aN (k (.int (bl q)) ab) (k (.sym (ei (bS q))) ab)) (aU n 1)) (bD aB (.box (bS n)) ab))))
 (FF (bn ab aB) (aN (aU m A) (k (.int (bl B)) (bD aB (.box 1) ab)))) (FG (bn ab aB))
def yN (A B q:Nat):iQ:=λa=>bk (motive:=λZ=>Option (List V->aA->aY->Bool)) none (some (yM A B q)) (aU a 1169)
def QG (a0:jf c aw cg) {D G q:Nat} (X:1<=D) (L:mB (c.n.i 0) (c.n.i 1) D=bl G) (I:0<=c.n.i 1) (ay:c.n.i 1<=c.y) {xs:List V} {M:List am} {loc:Loc} {k:aY} {x:V->aA->Bool} (ah:aZ c f) (hd:f.d<=250) (h:yM D G q xs ab k=true) (S:ba c f p ab loc s) (N:aw.ok f p x E) (Y:All2 (aE p) xs M):
  dH (aR c.prog c.w) f.A (.call (.ref 1169) ⟨M,[]⟩) (f2 (cb c f p loc k) E) s:=by
 obtain⟨o,az,rfl,h⟩:=oG' h
 obtain⟨i,aB,rfl,h⟩:=cJ' h
 obtain⟨m,rfl,O,h⟩:=kC' h
 obtain⟨aC,aj,F,ak,H,P⟩:=S.ex
 cases Y with
 |cons a J=>
 cases J with
 |cons Q J=>
 cases J
 obtain⟨af,rfl,rfl⟩:=a
 cases R:FG (bn ab (key i))with
 |true=>
  rw[R]at h
  obtain⟨B,h⟩:=QF' h
  obtain⟨hm,b⟩:=an h
  obtain rfl:=b3 hm
  obtain⟨ai,g,K,l⟩:=H.ent i _ af B
  cases l with
  |cons aa t1=>
  cases t1 with
  |cons al b8=>
  cases b8
  obtain⟨ao,t,rfl,cr⟩:=aa
  obtain⟨ap,u,rfl,cx⟩:=al
  have ex:ao=c.n.i 0:=by rw[<-S.n];exact(cr 0).1 rfl
  clear cr
  have ar:ap=c.n.i 1:=by rw[<-S.n];exact(cx 1).1 rfl
  clear cx
  subst ex ar
  refine hp (x5 (n:=0) a0 ah hd F ak H P S.gens S.os S.z S.n S.y af ⟨_,B,rfl⟩ K I (by rw[S.y];lia) (by lia) X O Q N) λr aq z=>?_
  rcases r with e|(_|_|_|v)
  ·exact z
  ·exact z
  ·exact z
  ·exact z
  ·obtain⟨j,aD,bF,T,U,as,C⟩:=z
   rw[L]at U
   clear L
   obtain rfl:j=G:=GZ U
   exact⟨aD,_,V.int (bl j),bF,as,C,b⟩
 |false=>
  rw[R]at h
  obtain⟨n,B,h⟩:=nw' h
  obtain⟨au,h⟩:=an h
  obtain⟨av,h⟩:=an h
  obtain⟨aF,dM,t,u,g,K,I,ax⟩:=H.ent i _ af B
  refine hp (x5 a0 ah hd F ak H P S.gens S.os S.z S.n S.y af ⟨_,B,rfl⟩ K I ax (ce av) (ce au) O Q N) λr aq z=>?_
  rcases r with e|(_|_|_|v)
  ·exact z
  ·exact z
  ·exact z
  ·exact z
  ·obtain⟨j,aD,bF,T,_,⟨bo,rfl⟩,C⟩:=z
   cases W:aU n 1 with
   |false=>
    replace h:bk (motive:=λZ=>Bool) (j4 m λj=>k (.int (bl j)) (bD (key i) (.box (bS n)) ab)) (aN (k (.int (bl q)) (bD (key i) (.box (bS n)) ab)) (k (.sym (ei (bS q))) (bD (key i) (.box (bS n)) ab))) (aU n 1)=true:=h
    rw[W]at h
    exact⟨aD,_,V.int (bl j),bF,⟨bo,rfl⟩,C,rY h j T⟩
   |true=>
    replace h:bk (motive:=λZ=>Bool) (j4 m λj=>k (.int (bl j)) (bD (key i) (.box (bS n)) ab)) (aN (k (.int (bl q)) (bD (key i) (.box (bS n)) ab)) (k (.sym (ei (bS q))) (bD (key i) (.box (bS n)) ab))) (aU n 1)=true:=h
    rw[W]at h
    obtain⟨ae,ag⟩:=an h
    by_cases e:j=q
    clear ag
    ·subst e;exact⟨aD,_,V.int (bl j),bF,⟨bo,rfl⟩,C,ae⟩
    ·refine⟨aD,_,V.sym (ei (bS q)),bF,⟨_,bo,rfl,λk=>⟨λz=>(nomatch (show ei _=bl k from z)),λz=>?_⟩⟩,C,ag⟩
     have z:q+1=k+1:=Tv z
     intro w
     have w:j=k:=GZ w
     lia
def QH (a0:jf c aw cg) {B C q:Nat} (F:1<=B) (G:mB (c.n.i 0) (c.n.i 1) B=bl C) (H:0<=c.n.i 1) (I:c.n.i 1<=c.y):qh c aw 250 (yN B C q):=λf a g xs L ab loc k x p s E A ah hd h S J K=>by
 replace A:bk (motive:=λZ=>Option (List V->aA->aY->Bool)) none (some (yM B C q)) (aU a 1169)=some g:=A
 cases D:aU a 1169 with
 |false=>rw[D]at A;cases A
 |true=>
  rw[D]at A;cases A
  obtain rfl:=b3 D
  exact QG a0 F G H I ah hd h S J K
def lD (j:Nat):Prop:=c7 cg (hc (yN 3 j 3) cg 24) 1232 [.own 0 (key 0),gv,gt] yb h1 b1=true
def QI (h:Std c) (G:lD 0) (B:lD 1) (C:lD 2):oH c 1232:=by
 intro x y v f p I m aj s E J K T ah hd F ak H z gs os L M N
 have a0:=(h.at x y).a0
 have O:All2 (aE p) [.own 0 (key 0),gv,gt] I:=by
  cases N with
  |cons B t1=>
   cases t1 with
   |cons C b8=>
    cases b8 with
    |cons P fg=>
     cases fg
     refine .cons B (.cons C (.cons ?_ .nil))
     rcases J with rfl|rfl<;>(obtain⟨t,rfl⟩:=P;exact ie)
 have Q:∃j:Nat,j<3/\mB x y 3=bl j:=by
  have D:∀z:Int,∃j:Nat,j<3/\z.fmod (bl 3)=bl j:=λz=>by
   have ae:=Int.fmod_nonneg_of_pos z (b:=bl 3) (by decide)
   have ag:=Int.fmod_lt_of_pos z (b:=bl 3) (by decide)
   obtain⟨j,A⟩:=HB ae
   refine⟨j,?_,A⟩
   rw[A]at ag
   exact Int.ofNat_lt.mp ag
  unfold mB
  cases Int.dt x 0 with
  |true=>exact D _
  |false=>exact D _
 obtain⟨j,R,A⟩:=Q
 have run:lD j:=by
  rcases j with _|_|_|j
  ·exact G
  ·exact B
  ·exact C
  ·exact(nK.mpr (GQ 3 j) R).elim
 have S:qh (c.at x y) (b6 (c.at x y) 849) 250 (yN 3 j 3):=QH a0 (by lia) A K (Int.le_refl _)
 exact x8 (c:=c.at x y) (aw:=b6 (c.at x y) 849) (x:=b1) a0 (d:=10) (by lia) (j6 a0 S 24 20 (by lia)) ah hd run F ak H ⟨z.ay,z.bz⟩ gs os L M ((b6 (c.at x y) 849).no _ _ _) O
def QJ:lD 0:=by unfold lD;kernel_rfl
def QK:lD 1:=by unfold lD;kernel_rfl
def QL:lD 2:=by unfold lD;kernel_rfl
def QM (h:Std c):oH c 1232:=QI h QJ QK QL
inductive FH (c:b4) (f:bL) (g:bE) (p:aX) (m:aI->Option am) (k:aY) (v:am) (aq:a9):Prop
 |mk FI pE aD aF w a3 (ae:p.bN aD) (ag:aE aD w v) (ax:Fr g FI aq.heap pE) (aS:News g FI aq.heap a3) (bA:Fr f.aC f.L aq.heap m) (cw:News f.aC f.L aq.heap a3) (cM:aQ c.K c.w aD aF.t a3) (dg:dq aD aF) (ik:k w aF=true):FH c f g p m k v aq
structure QN (c:b4) (f:bL) (g:bE) (p:aX) (m:aI->Option am) (k:aY) (v:am) (aq:a9):Prop where
 ex:FH c f g p m k v aq
 gens:aq.gens=#[]
 os:aq.os=c.os
def u_ {fn:Nat->Option f3} (a0:jf c aw fn) {cl:b5} {d:Nat} (hd:d+10<=260) (q:df c aw (d+10) cl) {a:Nat} {xs:List V} {O:List am} {k:aY} {x:V->aA->Bool}
  {m:aI->Option am} {aj:bc} (ah:aZ c f) (cD:f.d<=d) (h:c7 fn cl a xs ab k x=true) (F:Fr f.aC f.L s.heap m) (ak:News f.aC f.L s.heap aj) (H:aQ c.K c.w p ab.t aj) (z:dq p ab) (gs:s.gens=#[]) (os:s.os=c.os) (r:p.n=c.n) (u:p.y=c.y)
  (aa:aw.ok f p x E) (ae:All2 (aE p) xs O):dH (aR c.prog c.w) f.A (.call (.ref a) ⟨O,[]⟩) (f2 (QN c f (fN s.heap (aj.map (·.1))) p m k) E) s:=by
 unfold c7 at h
 cases C:fn a with
 |none=>rw[C]at h;cases h
 |some cC=>
  rw[C]at h
  obtain⟨aJ,rfl,ok,af,P⟩:=a0.fn a cC C
  obtain⟨e_,cells,least,dflt,body⟩:=cC
  clear C
  obtain⟨Q,R,S,T,ag⟩:=af
  dsimp only at Q R S T P
  subst S T
  refine enter (KK:=λab loc=>body ab loc (λbg ab Z=>Fl.rec (motive:=λZ=>Bool) (k .none ab) false false (λv=>k v ab) bg) ⟨cl,x⟩) (by lia) ok Q R ag ah cD F ak H z ae h λJ aK ai U W X al bo Y aL an b ao ap aq M ar as au av e02 ax ay az aB Z lv=>?_
  have aD:ba c J U W X {s with heap:=al,toks:=bo}:=⟨⟨_,ai++aj,au,av,ay,az⟩,gs,os,ax,e02.n.trans r,e02.y.trans u⟩
  refine hT (P J Y an b (by rw[aq,M];lia) (by rw[M];lia) W X _ ⟨cl,x⟩ U _ _ aB aD (aw.call ah Y (aw.up e02 aa) ⟨m,ar⟩ ao ap b) (by rw[M];exact q)) (λbg aM e g aN y aF i B D=>?_)
  obtain⟨aG,N,G,I,j,_⟩:=B.ex
  have e03:=e02.trans aF
  rw[as]at G I lv
  refine lv _ _ ⟨J.L,aG,N,G,I,λl o=>?_⟩
  cases y with
  |ret v=>obtain⟨val,rfl,aH⟩:=i;exact⟨⟨_,_,e,g,v,N,e03,aH,G,I,l,o,j,B.z,D⟩,B.gens,B.os⟩
  |next=>cases i;exact⟨⟨_,_,e,g,.none,N,e03,rfl,G,I,l,o,j,B.z,D⟩,B.gens,B.os⟩
  |brk=>cases D
  |cont=>cases D
section
variable {aD:aX} {t bZ eP gM:T} {aj a3:bc} {m:Nat} {c4:Nat->Prop}
def aQ.less {A:bc} (H:aQ K w p t aj) (a_:(A.map (·.1)).Nodup) (B:∀i,i<p.ay->bG t i->∀q∈aj,q.1=p.a i∨q.1=p.b i->q∈A) (ah:∀q∈p.a6,q∈A):aQ K w p t A:=by
 refine⟨a_,λi o af k8=>?_,H.aa,H.dp,H.cG,λi af li=>?_,H.small,ah,H.eB⟩
 ·cases C:o.live with
  |false=>exact ch.q4 C (.refl p) af (H.ent i o af k8)
  |true=>exact ch.ext (.refl p) af (B i af ⟨o,k8,C⟩) (H.ent i o af k8)
 ·obtain⟨⟨o,ae⟩,bC,ag⟩:=H.mem i af li
  exact⟨⟨o,B i af li _ ae (.inl rfl)⟩,bC,B i af li _ ag (.inr rfl)⟩
def aQ.va {x y:a7} {v:O} (H:aQ K w p t aj) (hs:p.ay<4096) (D:v.live=false) (he:ch K w (p.da x y 0) aj p.ay v):aQ K w (p.da x y 0) (T.put v (key p.ay) t) aj:=by
 have E:=p.kt x y 0
 have cs:∀i,i<(p.da x y 0).ay->i=p.ay∨i<p.ay:=λi af=>by have:i<p.ay+1:=af;lia
 have lv:∀i,i<(p.da x y 0).ay->bG (T.put v (key p.ay) t) i->i<p.ay/\bG t i:=λi af F=>by
  obtain⟨o,ae,ag⟩:=F
  rcases cs i af with rfl|h
  ·rw[T.cd v t hs hs,if_pos rfl]at ae;cases ae;rw[D]at ag;cases ag
  ·rw[T.cd v t hs (mS h hs),if_neg (dS h)]at ae
   exact⟨h,o,ae,ag⟩
 refine⟨H.a_,λj w G A=>?_,λi j af A li B e=>?_,λi j af A li B e=>?_,λi j af A li B I e=>?_,λi af li=>?_,hs,H.a6,λi af li q C=>?_⟩
 ·rcases cs j G with rfl|h
  ·rw[T.cd v t hs hs,if_pos rfl]at A;cases A;exact he
  ·rw[T.cd v t hs (mS h hs),if_neg (dS h)]at A
   exact ch.ext E h (λq C Z=>C) (H.ent j w h A)
 ·obtain⟨af,li⟩:=lv i af li
  obtain⟨A,B⟩:=lv j A B
  rw[E.a i af,E.a j A]at e
  exact H.aa i j af A li B e
 ·obtain⟨af,li⟩:=lv i af li
  obtain⟨A,B⟩:=lv j A B
  rw[E.b i af,E.b j A]at e
  exact H.dp i j af A li B e
 ·obtain⟨af,li⟩:=lv i af li
  obtain⟨A,B⟩:=lv j A B
  rw[E.a i af,E.b j A]at e
  exact H.cG i j af A li B I e
 ·obtain⟨af,li⟩:=lv i af li
  rw[E.a i af,E.b i af]
  exact H.mem i af li
 ·obtain⟨af,li⟩:=lv i af li
  rw[E.a i af,E.b i af]
  exact H.eB i af li q C
inductive sh (p:aX) (t:T) (m:Nat) (c4:Nat->Prop) (q:a7×bY):Prop
 |mk i (ae:i<p.ay) (ag:bG t i) (ax:¬(i<m/\c4 i)) (aS:(q.1=p.a i∨q.1=p.b i)):sh p t m c4 q
def iT (p:aX) (t:T) (m:Nat) (c4:Nat->Prop) (aj:bc):bc:=aj.filter λq=>@decide (sh p t m c4 q) (dv _)
def gN (p:aX) (t:T) (m:Nat) (c4:Nat->Prop) (aj:bc):bc:=aj.filter λq=>@decide (¬sh p t m c4 q) (dv _)
def mG {q:a7×bY}:q∈iT p t m c4 aj↔q∈aj/\sh p t m c4 q:=by
 classical
 unfold iT
 rw[lW]
 simp
def nD {q:a7×bY}:q∈gN p t m c4 aj↔q∈aj/\¬sh p t m c4 q:=by
 classical
 unfold gN
 rw[lW]
 simp
def vb {f:a7×bY->Bool} (h:(aj.map (·.1)).Nodup):((aj.filter f).map (·.1)).Nodup:=h.sublist (List.Sublist.map _ (List.filter_sublist ..))
def QO {q r:a7×bY} {l:bc} (a_:(l.map (·.1)).Nodup) (A:q∈l) (B:r∈l) (e:q.1=r.1):q=r:=by
 induction l with
 |nil=>cases A
 |cons a l D=>
  obtain⟨C,E⟩:=g7.mp a_
  rcases bJ.mp A with ae|ae
  ·rcases bJ.mp B with ag|ag
   ·rw[ae,ag]
   ·exact absurd (show a.1∈l.map (·.1)from ey.mpr ⟨r,ag,by rw[<-e,ae]⟩) C
  ·rcases bJ.mp B with ag|ag
   ·exact absurd (show a.1∈l.map (·.1)from ey.mpr ⟨q,ae,by rw[e,ag]⟩) C
   ·exact D E ae ag
def aQ.view (H:aQ K w p t aj) (hm:m<=p.ay) (h:∀i,i<m->∀o,eP.get (key i)=some o->o=.dead∨(c4 i/\hf (t.get (key i)) o/\er m o=true)):aQ K w (p.cut m) eP (gN p t m c4 aj):=by
 have lv:∀i,i<m->bG eP i->c4 i/\bG t i:=λi af F=>by
  obtain⟨o,ae,ag⟩:=F
  rcases h i af o ae with rfl|⟨ax,aS,_⟩
  ·cases ag
  ·exact⟨ax,aS.lv ag⟩
 refine aQ.less (aQ.cut H hm λi af o k8=>?_) (vb H.a_) (λi af li q C G=>?_) λq C=>nD.mpr ⟨H.a6 q C,λ⟨j,A,B,_,z⟩=>?_⟩
 ·rcases h i af o k8 with rfl|⟨_,aS,bA⟩
  ·exact⟨.dead,rfl⟩
  ·exact⟨aS,bA⟩
 ·obtain⟨l1,l2⟩:=lv i af li
  have D:i<p.ay:=cH af hm
  refine nD.mpr ⟨C,λF=>?_⟩
  obtain⟨j,A,B,I,z⟩:=F
  have E:i≠j:=λe=>I (e▸⟨af,l1⟩)
  replace G:q.1=p.a i∨q.1=p.b i:=G
  rcases G with a|a<;>rcases z with z|z
  ·exact E (H.aa i j D A l2 B (a.symm.trans z))
  ·exact H.cG i j D A l2 B E (a.symm.trans z)
  ·exact H.cG j i A D B l2 (λq=>E q.symm) (z.symm.trans a)
  ·exact E (H.dp i j D A l2 B (a.symm.trans z))
 ·have:=H.eB j A B q C
  rcases z with z|z
  ·exact this.1 z
  ·exact this.2 z
abbrev aX.oJ (p:aX) (l:bc):aX:={p with a6:=l}
def aX.si {l:bc} (h:∀q∈p.a6,q∈l):p.bN (p.oJ l):=⟨rfl,rfl,eh _,λZ Z=>rfl,λZ Z=>rfl,λZ Z=>rfl,h⟩
def QP (hm:m<=p.ay) (e:(p.cut m).bN aD) (hs:aD.ay=m):aD.bN (p.oJ aD.a6):=
 ⟨e.n.symm,e.y.symm,by rw[hs];exact hm,λi af=>(e.a i (by rw[hs]at af;exact af)).symm,λi af=>(e.b i (by rw[hs]at af;exact af)).symm,λi af=>(e.e i (by rw[hs]at af;exact af)).symm,λZ h=>h⟩
def aQ.back (H:aQ K w p t aj) (hm:m<=p.ay) (e:(p.cut m).bN aD) (hs:aD.ay=m) (F:aQ K w aD bZ a3) (hd:∀q∈a3,∀r∈iT p t m c4 aj,q.1≠r.1)
  (ae:∀i,i<m->c4 i->gM.get (key i)=bZ.get (key i)) (ag:∀i,i<p.ay->¬(i<m/\c4 i)->gM.get (key i)=t.get (key i)):aQ K w (p.oJ aD.a6) gM (a3++iT p t m c4 aj):=by
 have Q:=QP hm e hs
 have M:p.bN (p.oJ aD.a6):=aX.si e.a6
 have lo:∀i,i<m->c4 i->bG gM i->bG bZ i:=λi af D ⟨o,aK,aW⟩=>⟨o,(ae i af D).symm.trans aK,aW⟩
 have up:∀i,i<p.ay->¬(i<m/\c4 i)->bG gM i->bG t i:=λi af D ⟨o,aK,aW⟩=>⟨o,(ag i af D).symm.trans aK,aW⟩
 have J:∀i,i<m->c4 i->bG gM i->(∃o,(p.a i,o)∈a3)/\∃o,(p.b i,o)∈a3:=λi af D l=>by
  have:=F.mem i (by rw[hs];exact af) (lo i af D l)
  rw[e.a i af,e.b i af]at this
  exact this
 have I:∀i,i<p.ay->¬(i<m/\c4 i)->bG gM i->(∃o,(p.a i,o)∈iT p t m c4 aj)/\∃o,(p.b i,o)∈iT p t m c4 aj:=λi af D l=>by
  have L:=up i af D l
  obtain⟨⟨o,aK⟩,bC,aW⟩:=H.mem i af L
  exact⟨⟨o,mG.mpr ⟨aK,i,af,L,D,.inl rfl⟩⟩,bC,mG.mpr ⟨aW,i,af,L,D,.inr rfl⟩⟩
 refine⟨?_,λi o af k8=>?_,λi j af E li C q=>?_,λi j af E li C q=>?_,λi j af E li C N q=>?_,λi af li=>?_,H.small,λq G=>gS _ (F.a6 q G),λi af li q G=>?_⟩
 ·rw[nN,pb]
  refine⟨F.a_,vb H.a_,λa O b P q=>?_⟩
  obtain⟨x,R,rfl⟩:=ey.mp O,O
  obtain⟨y,S,rfl⟩:=ey.mp P,P
  exact hd x R y S q
 ·by_cases c:i<m/\c4 i
  ·rw[ae i c.1 c.2]at k8
   exact ch.ext Q (by rw[hs];exact c.1) (λq G Z=>gS _ G) (F.ent i o (by rw[hs];exact c.1) k8)
  ·rw[ag i af c]at k8
   cases D:o.live with
   |false=>exact ch.q4 D M af (H.ent i o af k8)
   |true=>exact ch.ext M af (λq G T=>dD _ (mG.mpr ⟨G,i,af,⟨o,k8,D⟩,c,T⟩)) (H.ent i o af k8)
 ·by_cases bx:i<m/\c4 i<;>by_cases cf:j<m/\c4 j
  ·exact F.aa i j (by rw[hs];exact bx.1) (by rw[hs];exact cf.1) (lo i bx.1 bx.2 li) (lo j cf.1 cf.2 C) (by rw[e.a i bx.1,e.a j cf.1];exact q)
  ·obtain⟨o,A⟩:=(J i bx.1 bx.2 li).1;obtain⟨bC,B⟩:=(I j E cf C).1;exact absurd q (hd _ A _ B)
  ·obtain⟨o,A⟩:=(J j cf.1 cf.2 C).1;obtain⟨bC,B⟩:=(I i af bx li).1;exact absurd q.symm (hd _ A _ B)
  ·exact H.aa i j af E (up i af bx li) (up j E cf C) q
 ·by_cases bx:i<m/\c4 i<;>by_cases cf:j<m/\c4 j
  ·exact F.dp i j (by rw[hs];exact bx.1) (by rw[hs];exact cf.1) (lo i bx.1 bx.2 li) (lo j cf.1 cf.2 C) (by rw[e.b i bx.1,e.b j cf.1];exact q)
  ·obtain⟨o,A⟩:=(J i bx.1 bx.2 li).2;obtain⟨bC,B⟩:=(I j E cf C).2;exact absurd q (hd _ A _ B)
  ·obtain⟨o,A⟩:=(J j cf.1 cf.2 C).2;obtain⟨bC,B⟩:=(I i af bx li).2;exact absurd q.symm (hd _ A _ B)
  ·exact H.dp i j af E (up i af bx li) (up j E cf C) q
 ·by_cases bx:i<m/\c4 i<;>by_cases cf:j<m/\c4 j
  ·exact F.cG i j (by rw[hs];exact bx.1) (by rw[hs];exact cf.1) (lo i bx.1 bx.2 li) (lo j cf.1 cf.2 C) N (by rw[e.a i bx.1,e.b j cf.1];exact q)
  ·obtain⟨o,A⟩:=(J i bx.1 bx.2 li).1;obtain⟨bC,B⟩:=(I j E cf C).2;exact absurd q (hd _ A _ B)
  ·obtain⟨o,A⟩:=(J j cf.1 cf.2 C).2;obtain⟨bC,B⟩:=(I i af bx li).1;exact absurd q.symm (hd _ A _ B)
  ·exact H.cG i j af E (up i af bx li) (up j E cf C) N q
 ·by_cases bx:i<m/\c4 i
  ·obtain⟨⟨o,A⟩,bC,B⟩:=J i bx.1 bx.2 li
   exact⟨⟨o,gS _ A⟩,bC,gS _ B⟩
  ·obtain⟨⟨o,A⟩,bC,B⟩:=I i af bx li
   exact⟨⟨o,dD _ A⟩,bC,dD _ B⟩
 ·by_cases bx:i<m/\c4 i
  ·have:=F.eB i (by rw[hs];exact bx.1) (lo i bx.1 bx.2 li) q G
   rw[e.a i bx.1,e.b i bx.1]at this
   exact this
  ·obtain⟨⟨o,A⟩,bC,B⟩:=I i af bx li
   exact⟨hd _ (F.a6 q G) _ A,hd _ (F.a6 q G) _ B⟩
def aQ.freeze {new:bc} (H:aQ K w p t aj) (hm:m<=p.ay) (F:∀q∈new,∃i,m<=i/\i<p.ay/\bG t i/\q∈aj/\(q.1=p.a i∨q.1=p.b i)) (h:∀i,i<m->∀o,bZ.get (key i)=some o->hf (t.get (key i)) o/\er m o=true):aQ K w ((p.cut m).plus new) bZ aj:=by
 have lv:∀i,i<m->bG bZ i->bG t i:=λi af ⟨o,ae,ag⟩=>(h i af o ae).1.lv ag
 refine aQ.Fg (aQ.cut H hm h) (λq E=>?_) λi af li q E=>?_
 ·obtain⟨_,_,_,_,ae,_⟩:=F q E
  exact ae
 ·obtain⟨j,G,A,B,_,z⟩:=F q E
  have af:i<m:=af
  have C:i<p.ay:=cH af hm
  have li:=lv i af li
  have D:i≠j:=dS (cH af G)
  rcases z with z|z
  ·exact⟨λq=>D (H.aa i j C A li B (q.symm.trans z)),λq=>H.cG j i A C B li (λq=>D q.symm) (z.symm.trans q)⟩
  ·exact⟨λq=>H.cG i j C A li B D (q.symm.trans z),λq=>D (H.dp i j C A li B (q.symm.trans z))⟩
end
def ba.back {aD:aX} {loc:Loc} {aq:a9} {C G:aI->Option am} {aj a3:bc} {m:Nat} {c4:Nat->Prop} {bZ gM:T} {E:a7} (ak:News f.aC f.L s.heap aj) (H:aQ c.K c.w p ab.t aj) (I:db f p loc C) (z:dq p ab) (J:p.n=c.n) (M:p.y=c.y)
  (hm:m<=p.ay) (e:(p.cut m).bN aD) (hs:aD.ay=m) (N:aQ c.K c.w aD bZ a3) (O:Fr (fN s.heap ((gN p ab.t m c4 aj).map (·.1))) E aq.heap G) (P:News (fN s.heap ((gN p ab.t m c4 aj).map (·.1))) E aq.heap a3) (Q:Fr f.aC f.L aq.heap C) (R:News f.aC f.L aq.heap a3) (gs:aq.gens=#[]) (os:aq.os=c.os)
  (ae:∀i,i<m->c4 i->gM.get (key i)=bZ.get (key i)) (ag:∀i,i<p.ay->¬(i<m/\c4 i)->gM.get (key i)=ab.t.get (key i)):ba c f (p.oJ aD.a6) ⟨gM,ab.ay,ab.bz⟩ loc aq:=by
 have F:∀q∈iT p ab.t m c4 aj,(fN s.heap ((gN p ab.t m c4 aj).map (·.1))).get? q.1=some q.2:=λq A=>by
  obtain⟨ax,aS⟩:=mG.mp A
  clear A
  refine n1 _ (ak q ax).1 λhm=>?_
  obtain⟨r,D,B⟩:=ey.mp hm
  clear hm
  obtain⟨bA,cw⟩:=nD.mp D
  have:=QO H.a_ bA ax B
  clear ax B
  subst this
  exact cw aS
 have hd:∀q∈a3,∀r∈iT p ab.t m c4 aj,q.1≠r.1:=λq A r D B=>by
  have:=(P q A).2.2
  rw[B,F r D]at this;cases this
 refine⟨⟨C,a3++iT p ab.t m c4 aj,Q,λq A=>?_,aQ.back H hm e hs N hd ae ag,I.ext (aX.si (p:=p) e.a6)⟩,gs,os,⟨z.ay,z.bz⟩,J,M⟩
 rcases gA.mp A with A|A
 ·exact R q A
 ·exact⟨O.keep _ _ (F q A),(ak q (mG.mp A).1).2⟩
def fX:aX:=⟨⟨λZ=>0,λZ Z Z=>False,λk Z Z Z=>k=9⟩,0,0,λZ=>0,λZ=>0,λZ=>0,[]⟩
abbrev ea:V:=.any 9 .eJ
inductive h3 (w:cv) (l:bc) (a:a7) (C:Nat) (ao:List (Nat×V)):Prop
 |mk b es n (ae:(a,pa C b)∈l) (ag:(b,dd es n)∈l) (ax:cm w fX ao es):h3 w l a C ao
def oK (r:List (Nat×V)):List (Nat×V):=(3845838664563,ea)::(30318261107,ea)::(3567722918644,ea)::(1850479,ea)::(3570160038767,ea)::(28667656181,ea)::r
def lE (v:V):List (Nat×V):=oK [(247053557,v)]
def gO (v:V):List (Nat×V):=oK [(28701210484,v)]
def nE (a b o:V):List (Nat×V):=oK [(27873049205,a),(230210165,b),(236745583,o)]
def jE (v:V):List (Nat×V):=[(3845838664563,v),(30318261107,ea),(3567722918644,ea),(1850479,ea),(3570160038767,ea),(28667656181,ea),(234403686,ea),(60186194066586228,ea),(3909199968245,ea),(30314165107,ea),(487321438532340,ea),(7269301999082666740,ea),(29752193893,ea),(26528559461,ea),(55687713484600165,ea),(3840484752358,ea),(228178165,ea)]
def hJ (w:cv) (l:bc):cF->am->Prop
 |.eJ,v=>aE fX .none v
 |.h_ b,v=>aE fX (.bool b) v
 |.num n,v=>aE fX (.int n) v
 |.sym c,v=>aE fX (.str c) v
 |.gi c,v=>∃a,v=.ref a/\h3 w l a 83 (lE (.str c))
 |.ft,v=>∃a g n,v=.ref a/\h3 w l a 103 (gO (.gnd g))/\(g,dJ [] n)∈l
 |.l1 t,v=>∃a g n x,v=.ref a/\h3 w l a 103 (gO (.gnd g))/\(g,dJ [x] n)∈l/\hJ w l t x
 |.l2 t u,v=>∃a g n x y,v=.ref a/\h3 w l a 103 (gO (.gnd g))/\(g,dJ [x,y] n)∈l/\hJ w l t x/\hJ w l u y
 |.rng a b o,v=>∃r,v=.ref r/\h3 w l r 161 (nE (.int a) (.int b) (.bool o))
def gc:cF->Nat
 |.ft=>1
 |.l1 t=>gc t+1
 |.l2 t u=>max (gc t) (gc u)+1
 |.rng _ _ _=>1
 |_=>0
def eS:cF->Bool
 |.sym c=>aU c 98||Nat.beq c 99
 |.gi c=>aU c 98||Nat.beq c 99
 |.l1 t=>eS t
 |.l2 t u=>eS t&&eS u
 |_=>true
inductive c3 where
 |at(v:V)
 |t0
 |t1 (a:c3)
 |b8 (a b:c3)
 |fL (a b c d:c3)
def d2 (l:bc):c3->am->Prop
 |.at u,v=>aE fX u v
 |.t0,v=>∃a n,v=.ref a/\(a,jd [] n)∈l
 |.t1 c,v=>∃a n x,v=.ref a/\(a,jd [x] n)∈l/\d2 l c x
 |.b8 c d,v=>∃a n x y,v=.ref a/\(a,jd [x,y] n)∈l/\d2 l c x/\d2 l d y
 |.fL c d e f,v=>∃a n x y z u,v=.ref a/\(a,jd [x,y,z,u] n)∈l/\d2 l c x/\d2 l d y/\d2 l e z/\d2 l f u
def fC:cF->c3
 |.eJ=>.b8 (.at (.str 1832301)) (.at .none)
 |.h_ b=>.b8 (.at (.str 209467501)) (.at (.bool b))
 |.num n=>.b8 (.at (.str 1751029)) (.at (.int n))
 |.sym c=>.b8 (.at (.str 1916270)) (.at (.str c))
 |.gi c=>.b8 (.at (.str 247053557)) (.at (.str c))
 |.ft=>.b8 (.at (.str 230341237)) .t0
 |.l1 t=>.b8 (.at (.str 230341237)) (.t1 (fC t))
 |.l2 t u=>.b8 (.at (.str 230341237)) (.b8 (fC t) (fC u))
 |.rng a b o=>.fL (.at (.str 31077430374)) (.b8 (.at (.str 1751029)) (.at (.int a))) (.b8 (.at (.str 1751029)) (.at (.int b))) (.at (.bool o))
def cP (w:cv) (k:Nat) (t:cF) (v:am) (l:bc):Prop:=
 (k<=2/\hJ w l t v/\gc t<=k/\eS t=true)∨(k=3/\d2 l (fC t) v)∨(4<=k/\k<=6/\∃bZ,hJ w l bZ v/\gc bZ+4<=k/\eS bZ=true)∨k=9∨k=10∨(k=12/\∃a m,v=.ref a/\h3 w l a 249 (jE (.int m)))
def h3.mono {l A:bc} (h:∀q∈l,q∈A) {a:a7} {C:Nat} {ao:List (Nat×V)}:h3 w l a C ao->h3 w A a C ao:=λ⟨b,es,n,ae,ag,ax⟩=>⟨b,es,n,h _ ae,h _ ag,ax⟩
def hJ.mono {l B:bc} (h:∀q∈l,q∈B):∀{t:cF} {v:am},hJ w l t v->hJ w B t v:=by
 intro t
 induction t with
 |gi _=>intro v q;obtain⟨a,e,r⟩:=q;exact⟨a,e,r.mono h⟩
 |ft=>intro v q;obtain⟨a,g,n,e,r,m⟩:=q;exact⟨a,g,n,e,r.mono h,h _ m⟩
 |l1 _ A=>intro v q;obtain⟨a,g,n,x,e,r,m,q⟩:=q;exact⟨a,g,n,x,e,r.mono h,h _ m,A q⟩
 |l2 _ _ A C=>intro v q;obtain⟨a,g,n,x,y,e,r,m,q,D⟩:=q;exact⟨a,g,n,x,y,e,r.mono h,h _ m,A q,C D⟩
 |rng _ _ _=>intro v q;obtain⟨a,e,r⟩:=q;exact⟨a,e,r.mono h⟩
 |_=>exactλq=>q
def d2.mono {l C:bc} (h:∀q∈l,q∈C):∀{t:c3} {v:am},d2 l t v->d2 C t v:=by
 intro t
 induction t with
 |«at» _=>exactλq=>q
 |t0=>intro v q;obtain⟨a,n,e,m⟩:=q;exact⟨a,n,e,h _ m⟩
 |t1 _ A=>intro v q;obtain⟨a,n,x,e,m,q⟩:=q;exact⟨a,n,x,e,h _ m,A q⟩
 |b8 _ _ A B=>intro v q;obtain⟨a,n,x,y,e,m,q,aW⟩:=q;exact⟨a,n,x,y,e,h _ m,A q,B aW⟩
 |fL _ _ _ _ A B D E=>intro v q;obtain⟨a,n,x,y,z,u,e,m,q,aW,bH,cV⟩:=q;exact⟨a,n,x,y,z,u,e,h _ m,A q,B aW,D bH,E cV⟩
abbrev b4.hs (c:b4):b4:={c with n:={c.n with r:=cP c.w}}
def mH (v:V) (k:Nat->cF->Bool):Bool:=V.rec false aL aL aL aL a1 aL k v
def vc' {ar:Prop} {k:Nat->cF->Bool} (h:mH v k=true) (A:∀j t,v=.any j t->k j t=true->ar):ar:=by
 cases v with
 |any j t=>exact A j t rfl h
 |_=>cases h
def mI (j:Nat) (v:V) (k:cF->Bool):Bool:=V.rec false aL (λn=>k (.num n)) aL aL a1 aL (λi t=>aN (aU i j) (k t)) v
def sk' {ar:Prop} {k:cF->Bool} (h:mI j v k=true) (A:∀t,k t=true->(v=.any j t∨∃n,v=.int n/\t=.num n)->ar):ar:=by
 cases v with
 |any i t=>
  obtain⟨ae,ag⟩:=an (show aN (aU i j) (k t)=true from h)
  clear h
  obtain rfl:=b3 ae
  exact A t ag (.inl rfl)
 |int n=>exact A _ h (.inr ⟨n,rfl,rfl⟩)
 |_=>cases h
def oL:b5:=hc iq cg 14
def vd (j:Nat) (e:Int):List V->aA->aY->Bool:=λai ab k=>nv ai λv d=>mI j v λt=>vInt d λd=>aN (Int.dt d e) (k (.any 3 t) ab)
def yO (j:Nat) (e:Int):iQ:=λa=>bk (motive:=λZ=>Option (List V->aA->aY->Bool)) (iq a) (some (vd j e)) (aU a 308)
def jF (j:Nat) (e:Int):b5:=oB (yO j e) cg oL
def ve:aA:=⟨.nil,0,key 0⟩
def sl (a:O):aA:=⟨T.put a (key 0) .nil,1,key 1⟩
def yP (a b:O):aA:=⟨T.put b (key 1) (T.put a (key 0) .nil),2,key 2⟩
def QQ (P:bR):(oE (KF P) 83 80&&(oE (KF P) 103 100&&(oE (KF P) 161 158&&oE (KF P) 249 239)))=true:=by kernel_rfl
def sm (A:c.K=KF c.w.params):m3 c.K 83/\m3 c.K 103/\m3 c.K 161/\m3 c.K 249:=by
 have h:=QQ c.w.params
 rw[<-A]at h
 obtain⟨ae,h⟩:=an h
 obtain⟨ag,h⟩:=an h
 obtain⟨ax,aS⟩:=an h
 exact⟨(r3 ae).cls,(r3 ag).cls,(r3 ax).cls,(r3 aS).cls⟩
def QR (A:c.K=KF c.w.params) {C:Nat} (h:dG (nt n) C=true):jO c.K C n:=λy k8 e=>by
 subst e
 exact(x2 A).mv y k8 C (rB h) y k8 rfl
def lF (A:c.K=KF c.w.params) {C:Nat} {ao:List (Nat×V)} (h:(ao.all λf=>dG (nt f.1) C)=true):∀f∈ao,jO c.K C f.1:=λf ah=>QR A (eU.mp h f ah)
def QS (v:V):((lE v).all λf=>dG (nt f.1) 83)=true:=by kernel_rfl
def QT (v:V):((gO v).all λf=>dG (nt f.1) 103)=true:=by kernel_rfl
def QU (a b o:V):((nE a b o).all λf=>dG (nt f.1) 161)=true:=by kernel_rfl
def so:V->Prop
 |.none|.bool _|.int _|.str _|.gnd _=>True
 |.any k t=>k=9/\t=.eJ
 |_=>False
def sp (B:p.n.r=cP w) {u:V} {v:am} (A:so u) (h:aE fX u v):aE p u v:=by
 cases u with
 |any k t=>
  obtain⟨rfl,rfl⟩:=A
  exact⟨⟨[],(λZ q=>nomatch q),by rw[B];exact .inr (.inr (.inr (.inl rfl)))⟩,h.2.1,λq=>by cases q⟩
 |sym _=>exact A.elim
 |own _ _=>exact A.elim
 |_=>exact h
def sq {u:V} {v:am} (A:so u) (h:aE p u v):aE fX u v:=by
 cases u with
 |any k t=>
  obtain⟨rfl,rfl⟩:=A
  exact⟨⟨[],(λZ q=>nomatch q),rfl⟩,h.2.1,λq=>by cases q⟩
 |sym _=>exact A.elim
 |own _ _=>exact A.elim
 |_=>exact h
def oM {u:V} {v:am} (h:aE p u v):aE fX ea v:=⟨⟨[],(λZ q=>nomatch q),rfl⟩,h.handed,λq=>by cases q⟩
abbrev nF (p q:aX) (f g:Nat×V):Prop:=f.1=g.1/\∀v,aE p f.2 v->aE q g.2 v
def vf {q:aX}:∀{ao gs:List (Nat×V)} {es:List cu},All2 (nF p q) ao gs->cm w p ao es->cm w q gs es:=by
 intro ao gs es h r
 induction h generalizing es with
 |nil=>cases r;exact .nil
 |cons h t A=>
  cases r with
  |cons r u=>exact .cons ⟨by rw[<-h.1];exact r.1,h.2 _ r.2⟩ (A u)
def yQ (B:p.n.r=cP w) {r A:List (Nat×V)} (h:All2 (nF fX p) r A):All2 (nF fX p) (oK r) (oK A):=by
 have a:∀x,nF fX p (x,ea) (x,ea):=λx=>⟨rfl,λv h=>sp B ⟨rfl,rfl⟩ h⟩
 exact .cons (a _) (.cons (a _) (.cons (a _) (.cons (a _) (.cons (a _) (.cons (a _) h)))))
def qv (A:p.n.r=cP w) {x:Nat} {u:V} (B:so u):nF fX p (x,u) (x,u):=⟨rfl,λv h=>sp A B h⟩
def kd (j:Nat) (t:cF):V:=.any (j-1) t
def kV (n j:Nat) (A:T):cF->T
 |.gi c=>T.put (.rinst 83 (lE (.str c))) (key n) A
 |.ft=>T.put (.rinst 103 (gO (.own n (key n)))) (key (n+1)) (T.put (.rlist []) (key n) A)
 |.l1 t=>T.put (.rinst 103 (gO (.own n (key n)))) (key (n+1)) (T.put (.rlist [kd j t]) (key n) A)
 |.l2 t u=>T.put (.rinst 103 (gO (.own n (key n)))) (key (n+1)) (T.put (.rlist [kd j t,kd j u]) (key n) A)
 |.rng a b o=>T.put (.rinst 161 (nE (.int a) (.int b) (.bool o))) (key n) A
 |_=>A
def sr:cF->Nat
 |.gi _=>1
 |.ft=>2
 |.l1 _=>2
 |.l2 _ _=>2
 |.rng _ _ _=>1
 |_=>0
def yR (n:Nat):cF->V
 |.eJ=>.none
 |.h_ b=>.bool b
 |.num n=>.int n
 |.sym c=>.str c
 |.gi _=>.own n (key n)
 |.ft=>.own (n+1) (key (n+1))
 |.l1 _=>.own (n+1) (key (n+1))
 |.l2 _ _=>.own (n+1) (key (n+1))
 |.rng _ _ _=>.own n (key n)
def yS (j:Nat) (t:cF):aA:=⟨kV 0 j .nil t,sr t,key (sr t)⟩
abbrev FJ (t:cF):V:=yR 0 t
section
variable {aj l:bc}
def vg (A:p.n.r=cP c.w) (B:∀q∈l,q∈p.a6) {t:cF} {v:am} (C:j<=2) (hd:gc t<=j) (k8:eS t=true) (cj:qP v=true) (h:hJ c.w l t v):aE p (.any j t) v:=
 ⟨⟨l,B,by rw[A];exact .inl ⟨C,h,hd,k8⟩⟩,cj,λq=>by have:=ce q;lia⟩
def hJ.handed:∀{t:cF} {v:am},hJ w l t v->qP v=true:=by
 intro t v h
 cases t with
 |gi _=>obtain⟨_,e,_⟩:=h;rw[e];rfl
 |ft=>obtain⟨_,_,_,e,_⟩:=h;rw[e];rfl
 |l1 _=>obtain⟨_,_,_,_,e,_⟩:=h;rw[e];rfl
 |l2 _ _=>obtain⟨_,_,_,_,_,e,_⟩:=h;rw[e];rfl
 |rng _ _ _=>obtain⟨_,e,_⟩:=h;rw[e];rfl
 |_=>exact aE.handed h
def FK {ar:Prop} (C:p.n.r=cP c.w) (E:j<=2) {x:V} {t:cF} {v:am} (h:x=.any j t∨∃n,x=.int n/\t=.num n) (r:aE p x v) (A:∀l,(∀q∈l,q∈p.a6)->hJ c.w l t v->gc t<=j->eS t=true->ar):ar:=by
 rcases h with rfl|⟨n,rfl,rfl⟩
 ·obtain⟨⟨l,D,B⟩,_,_⟩:=r
  rw[C]at B
  rcases B with⟨_,aK,aW,bH⟩|⟨q,_⟩|⟨q,_⟩|q|q|⟨q,_⟩
  ·exact A l D aK aW bH
  all_goals lia
 ·exact A [] (λZ q=>nomatch q) r (hL _) rfl
def yT {C:T} (D:c.K=KF c.w.params) (G:p.n.r=cP c.w) (B:∀q∈l,q∈p.a6) (H:aQ c.K c.w p C aj) (hs:p.ay<4000) {a g:Nat} {xs:List V} {ai:List am} (ae:h3 c.w l a 103 (gO (.gnd g))) (ag:(g,dJ ai n)∈l) (ax:∀q:aX,q.n=p.n->q.a6=p.a6->All2 (aE q) xs ai):
  ∃A,p.bN A/\aQ c.K c.w A (T.put (.rinst 103 (gO (.own p.ay (key p.ay)))) (key (p.ay+1)) (T.put (.rlist xs) (key p.ay) C)) aj/\A.ay=p.ay+2/\aE A (.own (p.ay+1) (key (p.ay+1))) (.ref a)/\A.a6=p.a6:=by
 obtain⟨b,es,m,I,J,L⟩:=ae
 have cX:=aQ.va (x:=g) (y:=g) (v:=.rlist xs) H (by lia) rfl ⟨ai,n,B _ (by show((p.da g g 0).a p.ay,_)∈l;rw[show(p.da g g 0).a p.ay=g from if_pos rfl];exact ag),ax _ rfl rfl⟩
 have E:((p.da g g 0).da a b 0).a (p.ay+1)=a:=if_pos rfl
 have F:((p.da g g 0).da a b 0).b (p.ay+1)=b:=if_pos rfl
 have M:((p.da g g 0).da a b 0).a p.ay=g:=by
  show(if p.ay=p.ay+1 then a else(p.da g g 0).a p.ay)=g
  rw[if_neg (by lia)]
  exact if_pos rfl
 have N:=aQ.va (x:=a) (y:=b) (v:=.rinst 103 (gO (.own p.ay (key p.ay)))) cX (by show p.ay+1<4096;lia) rfl ⟨⟨(sm D).2.1,lF D (QT _)⟩,B _ (by rw[show((p.da g g 0).da a b 0).a (p.da g g 0).ay=a from E,show((p.da g g 0).da a b 0).b (p.da g g 0).ay=b from F];exact I),es,m,B _ (by rw[show((p.da g g 0).da a b 0).b (p.da g g 0).ay=b from F];exact J),
  vf (ao:=gO (.gnd g)) (yQ (p:=((p.da g g 0).da a b 0)) (r:=[(28701210484,.gnd g)]) G (.cons ⟨rfl,λv e=>⟨by show p.ay<p.ay+1+1;lia,rfl,by rw[M];exact e⟩⟩ .nil)) L⟩
 exact⟨_,(p.kt g g 0).trans (aX.kt _ a b 0),N,rfl,⟨by show p.ay+1<p.ay+1+1;lia,rfl,by rw[E]⟩,rfl⟩
def FL {B:T} (D:∀q∈l,q∈p.a6) (H:aQ c.K c.w p B aj) (hs:p.ay<4000) {a C:Nat} {ao gs:List (Nat×V)} (ae:h3 c.w l a C ao) (G:m3 c.K C) (ah:∀f∈gs,jO c.K C f.1) (I:∀q:aX,q.n=p.n->q.a6=p.a6->All2 (nF fX q) ao gs):
  ∃A,p.bN A/\aQ c.K c.w A (T.put (.rinst C gs) (key p.ay) B) aj/\A.ay=p.ay+1/\aE A (.own p.ay (key p.ay)) (.ref a)/\A.a6=p.a6:=by
 obtain⟨b,es,m,J,L,M⟩:=ae
 have E:(p.da a b 0).a p.ay=a:=if_pos rfl
 have F:(p.da a b 0).b p.ay=b:=if_pos rfl
 have N:=aQ.va (x:=a) (y:=b) (v:=.rinst C gs) H (by lia) rfl ⟨⟨G,ah⟩,D _ (by rw[E,F];exact J),es,m,D _ (by rw[F];exact L),vf (I _ rfl rfl) M⟩
 exact⟨_,aX.kt _ a b 0,N,rfl,⟨by show p.ay<p.ay+1;lia,rfl,by rw[E]⟩,rfl⟩
def FM {G:T} (E:c.K=KF c.w.params) (B:p.n.r=cP c.w) (D:∀q∈l,q∈p.a6) (H:aQ c.K c.w p G aj) (hs:p.ay<4000) (J:j<=2):∀{t:cF} {v:am},gc t<=j->eS t=true->hJ c.w l t v->
  ∃A,p.bN A/\aQ c.K c.w A (kV p.ay j G t) aj/\A.ay=p.ay+sr t/\aE A (yR p.ay t) v/\A.a6=p.a6:=by
 have leaf:∀{u:V} {v:am},so u->aE fX u v->∃A,p.bN A/\aQ c.K c.w A G aj/\A.ay=p.ay/\aE A u v/\A.a6=p.a6:=λI h=>⟨_,.refl _,H,rfl,sp (p:=p) B I h,rfl⟩
 intro t v hd k8 h
 cases t with
 |eJ=>exact leaf trivial h
 |h_ b=>exact leaf trivial h
 |num n=>exact leaf trivial h
 |sym n=>exact leaf trivial h
 |gi n=>
  obtain⟨a,rfl,ae⟩:=h
  exact FL (gs:=lE (.str n)) D H hs ae (sm E).1 (lF E (QS _)) λq C Z=>yQ (by rw[C];exact B) (.cons (qv (w:=c.w) (by rw[C];exact B) trivial) .nil)
 |rng x y o=>
  obtain⟨a,rfl,ae⟩:=h
  exact FL (gs:=nE (.int x) (.int y) (.bool o)) D H hs ae (sm E).2.2.1 (lF E (QU _ _ _)) λq C Z=>by
   have F:q.n.r=cP c.w:=by rw[C];exact B
   exact yQ F (.cons (qv F trivial) (.cons (qv F trivial) (.cons (qv F trivial) .nil)))
 |ft=>
  obtain⟨a,g,n,rfl,ae,ag⟩:=h
  exact yT (xs:=[]) E B D H hs ae ag λZ Z Z=>.nil
 |l1 t=>
  obtain⟨a,g,n,x,rfl,ae,ag,ax⟩:=h
  have hd:gc t+1<=j:=hd
  exact yT (xs:=[kd j t]) E B D H hs ae ag λq C ah=>.cons (vg (c:=c) (l:=l) (by rw[C];exact B) (by rw[ah];exact D) (by lia) (by lia) k8 ax.handed ax) .nil
 |l2 t u=>
  obtain⟨a,g,n,x,y,rfl,ae,ag,ax,aS⟩:=h
  have hd:max (gc t) (gc u)+1<=j:=hd
  obtain⟨o1,o2⟩:=an (show(eS t&&eS u)=true from k8)
  exact yT (xs:=[kd j t,kd j u]) E B D H hs ae ag λq C ah=>.cons (vg (c:=c) (l:=l) (by rw[C];exact B) (by rw[ah];exact D) (by lia) (by lia) o1 ax.handed ax) (.cons (vg (c:=c) (l:=l) (by rw[C];exact B) (by rw[ah];exact D) (by lia) (by lia) o2 aS.handed aS) .nil)
end
inductive fm (ab:aA):c3->V->Prop
 |any (t:cF):fm ab (fC t) (.any 3 t)
 |at{u:V}:so u->fm ab (.at u) u
 |t0 {i:Nat}:ab.t.get (key i)=some (.tuple [])->fm ab .t0 (.own i (key i))
 |t1 {i:Nat} {a:c3} {x:V}:ab.t.get (key i)=some (.tuple [x])->fm ab a x->fm ab (.t1 a) (.own i (key i))
 |b8 {i:Nat} {a b:c3} {x y:V}:ab.t.get (key i)=some (.tuple [x,y])->fm ab a x->fm ab b y->fm ab (.b8 a b) (.own i (key i))
 |fL {i:Nat} {a b d e:c3} {x y z u:V}:ab.t.get (key i)=some (.tuple [x,y,z,u])->fm ab a x->fm ab b y->fm ab d z->fm ab e u->fm ab (.fL a b d e) (.own i (key i))
def fm.out {aj l:bc} (H:aQ K w p ab.t aj) (E:p.n.r=cP w) (F:∀q∈p.a6,q∈l) (G:∀i,i<p.ay->bG ab.t i->∀q∈aj,q.1=p.a i∨q.1=p.b i->q∈l) {dB:c3} (h:fm ab dB v):∀{val:am},aE p v val->d2 l dB val:=by
 have tup:∀{i:Nat} {xs:List V},i<p.ay->ab.t.get (key i)=some (.tuple xs)->∃ai n,(p.a i,jd ai n)∈l/\All2 (aE p) xs ai:=λ{i xs} af g=>by
  obtain⟨ai,n,m,r⟩:=H.ent i _ af g
  exact⟨ai,n,G i af ⟨_,g,rfl⟩ _ m (.inl rfl),r⟩
 induction h with
 |any t=>
  intro val r
  obtain⟨⟨l1,ae,ag⟩,_⟩:=r
  rw[E]at ag
  rcases ag with⟨q,_⟩|⟨_,q⟩|⟨q,_⟩|q|q|⟨q,_⟩
  ·lia
  ·exact q.mono λq I=>F q (ae q I)
  ·lia
  ·lia
  ·lia
  ·lia
 |«at» J=>intro val r;exact sq J r
 |t0 g=>
  intro val r
  obtain⟨af,_,rfl⟩:=r
  obtain⟨ai,n,m,r⟩:=tup af g
  cases r
  exact⟨_,n,rfl,m⟩
 |t1 g _ A=>
  intro val r
  obtain⟨af,_,rfl⟩:=r
  obtain⟨ai,n,m,r⟩:=tup af g
  cases r with|cons B r=>cases r;exact⟨_,n,_,rfl,m,A B⟩
 |b8 g _ _ A C=>
  intro val r
  obtain⟨af,_,rfl⟩:=r
  obtain⟨ai,n,m,r⟩:=tup af g
  cases r with|cons B r=>cases r with|cons D r=>cases r;exact⟨_,n,_,_,rfl,m,A B,C D⟩
 |fL g _ _ _ _ A C id L=>
  intro val r
  obtain⟨af,_,rfl⟩:=r
  obtain⟨ai,n,m,r⟩:=tup af g
  cases r with|cons B r=>cases r with|cons D r=>cases r with|cons M r=>cases r with|cons N r=>cases r;exact⟨_,n,_,_,_,_,rfl,m,A B,C D,id M,L N⟩
def yU (h:Std c):df c (b6 c 849) 120 oL:=j6 h.a0 (j_ h.a0) 14 120 (by lia)
def FN (cl:b5) (e:Int) (j:Nat):Prop:=∀t,gc t<=j->c7 cg cl 308 [FJ t,.int e] (yS j t) (j5 λv ab=>fm ab (fC t) v) b1=true
def Int.qw {i j:Int} (h:Int.dt i j=true):i=j:=by rw[Int.ky]at h;exact of_decide_eq_true h
def d2.handed {l:bc}:∀{t:c3} {v:am},d2 l t v->qP v=true:=by
 intro t v h
 cases t with
 |t0=>obtain⟨_,_,e,_⟩:=h;rw[e];rfl
 |t1 _=>obtain⟨_,_,_,e,_⟩:=h;rw[e];rfl
 |b8 _ _=>obtain⟨_,_,_,_,e,_⟩:=h;rw[e];rfl
 |fL _ _ _ _=>obtain⟨_,_,_,_,_,_,e,_⟩:=h;rw[e];rfl
 |«at» _=>exact aE.handed h
def FO (h:Std c) (N:c.n.r=cP c.w) (I:j<=2) {cl:b5} {d:Nat} (hd:d+10<=200) (O:df c (b6 c 849) (d+10) cl) {n7:List V} {vh:List am} (P:∀p:aX,All2 (aE p) n7 vh)
  (run:∀t,gc t<=j->c7 cg cl 308 (FJ t::n7) (yS j t) (j5 λv ab=>fm ab (fC t) v) b1=true) {f:bL} {p:aX} {ab:aA} {loc:Loc} {k:aY} {s:a9} {E:am->a9->Prop} {x:V} {val:am} {t:cF}
  (ah:aZ c f) (cD:f.d<=d) (ev:x=.any j t∨∃n,x=.int n/\t=.num n) (d5:k (.any 3 t) ab=true) (S:ba c f p ab loc s) (v1:aE p x val):dH (aR c.prog c.w) f.A (.call (.ref 308) ⟨val::vh,[]⟩) (f2 (cb c f p loc k) E) s:=by
 have C:p.n.r=cP c.w:=by rw[S.n];exact N
 obtain⟨l,Q,R,J,T⟩:=FK C I ev v1
 obtain⟨m,aj,F,ak,H,U⟩:=S.ex
 have W:aQ c.K c.w (p.cut 0) .nil (gN p ab.t 0 (λZ=>False) aj):=aQ.view H (hL _) λZ q=>absurd q (iD _)
 have X:News f.aC f.L s.heap (gN p ab.t 0 (λZ=>False) aj):=λq B=>ak q (nD.mp B).1
 obtain⟨Y,e0,cX,D,a,ag⟩:=FM (p:=p.cut 0) h.K C Q W (by show 0<4000;lia) I J T R
 have D:dq Y (yS j t):=⟨by rw[D];exact Af _,rfl⟩
 refine hp (u_ (E:=E) h.a0 (by lia) O ah cD (run t J) F X cX D S.gens S.os (e0.n.trans S.n) (e0.y.trans S.y) ((b6 c 849).no _ _ _) (.cons a (P _))) λr aq z=>?_
 rcases r with e|(_|_|_|v)
 ·exact z
 ·exact z
 ·exact z
 ·exact z
 ·obtain⟨⟨ai,al,aD,aF,w,a3,e1,rw1,b,g,o,u,M,an,G⟩,gs,os⟩:=z
  have G:=mz G
  have e01:=e0.trans e1
  have aa:=aQ.freeze (m:=0) (bZ:=.nil) (new:=iT aD aF.t 0 (λZ=>True) a3) M (hL _) (λq B=>by
   obtain⟨ax,i,aS,bA,_,cw⟩:=mG.mp B
   exact⟨i,hL _,aS,bA,ax,cw⟩) λZ q=>absurd q (iD _)
  have SB:=ba.back (c4:=λZ=>False) (gM:=ab.t) (aD:=(aD.cut 0).plus (iT aD aF.t 0 (λZ=>True) a3)) ak H U S.z S.n S.y (hL _) (e01.cut.trans (aX.mE _ _)) rfl aa b g o u gs os (λZ q=>absurd q (iD _)) λZ Z Z=>rfl
  have dB:=G.out M (by rw[e01.n];exact C) (l:=iT aD aF.t 0 (λZ=>True) a3++aD.a6) (λq B=>dD _ B) (λi af li q B ae=>gS _ (mG.mpr ⟨B,i,af,li,λx=>iD _ x.1,ae⟩)) rw1
  exact⟨_,_,.any 3 t,aX.si λq B=>dD _ (e01.a6 q B),⟨⟨_,λq B=>B,by
   show p.n.r 3 t v _
   rw[C]
   exact .inr (.inl ⟨rfl,dB⟩)⟩,dB.handed,λq=>by cases q⟩,SB,d5⟩
def FP (h:Std c) (F:c.n.r=cP c.w) (G:j<=2) {e:Int} {cl:b5} {d:Nat} (hd:d+10<=200) (H:df c (b6 c 849) (d+10) cl) (run:FN cl e j) {loc:Loc} {k:aY} {xs:List V} {B:List am}
  (ah:aZ c f) (cD:f.d<=d) (I:vd j e xs ab k=true) (S:ba c f p ab loc s) (D:All2 (aE p) xs B):dH (aR c.prog c.w) f.A (.call (.ref 308) ⟨B,[]⟩) (f2 (cb c f p loc k) E) s:=by
 obtain⟨v,eC,cL,cr⟩:=oG' I
 subst cL
 obtain⟨t,dI,ev⟩:=sk' cr
 obtain⟨C,J,K⟩:=eD' dI
 subst J
 obtain⟨he,d5⟩:=an K
 obtain rfl:=Int.qw he
 obtain⟨val,L,rfl,v1,v2⟩:∃a b,B=[a,b]/\aE p v a/\aE p (.int C) b:=by
  cases D with|cons a b=>cases b with|cons b e=>cases e;exact⟨_,_,rfl,a,b⟩
 clear D
 obtain⟨bo,rfl⟩:=v2
 exact FO h F G hd H (n7:=[.int C]) (vh:=[.int C bo]) (λp=>.cons ⟨bo,rfl⟩ .nil) run ah cD ev d5 S v1
def FQ (h:Std c) {e:Int} {d:Nat} (hd:d<=100) (lv:∀{f:bL} {p:aX} {ab:aA} {loc:Loc} {k:aY} {s:a9} {E:am->a9->Prop} {xs:List V} {B:List am},aZ c f->f.d<=d->vd j e xs ab k=true->ba c f p ab loc s->All2 (aE p) xs B->dH (aR c.prog c.w) f.A (.call (.ref 308) ⟨B,[]⟩) (f2 (cb c f p loc k) E) s):
  df c (b6 c 849) d (jF j e):=λf a xs B ab loc k x p s E ah cD C S F D=>by
 replace C:cq (motive:=λZ=>Bool) (c7 cg oL a xs ab k x) (λg=>g xs ab k) (yO j e a)=true:=C
 cases q:yO j e a with
 |none=>rw[q]at C;exact mg h.a0 (by lia) (λf a xs B ab loc k x p s E ae ag=>yU h f a xs B ab loc k x p s E ae (by lia)) f a xs B ab loc k x p s E ah cD C S F D
 |some g=>
  rw[q]at C
  replace q:bk (motive:=λZ=>Option (List V->aA->aY->Bool)) (iq a) (some (vd j e)) (aU a 308)=some g:=q
  cases aK:aU a 308 with
  |true=>
   rw[aK]at q;cases q
   obtain rfl:=b3 aK
   exact lv ah cD C S D
  |false=>
   rw[aK]at q
   exact j_ h.a0 f a g xs B ab loc k x p s E q ah (by lia) C S F D
def putL (os:List O):Nat->T->T:=bW (motive:=λZ=>Nat->T->T) (λZ t=>t) (λo Z A n t=>A (bS n) (T.put o (key n) t)) os
def ke (os:List O):aA:=⟨putL os 0 .nil,os.length,key os.length⟩
def nG (cl:b5) (e:Int):Prop:=(cl=oL/\e=10)∨(cl=jF 0 10/\e=11)∨(cl=jF 1 11/\e=12)
def oN (cl:b5) (e:Int) (j:Nat):Prop:=(cl=jF 0 10/\e=11/\j=1)∨(cl=jF 1 11/\e=12/\j=2)
@[elab_as_elim] theorem nG.el {cl:b5} {e:Int} {bu:b5->Int->Prop} (h:nG cl e) (a:bu oL 10) (b:bu (jF 0 10) 11) (d:bu (jF 1 11) 12):bu cl e:=by
 rcases h with⟨rfl,rfl⟩|⟨rfl,rfl⟩|⟨rfl,rfl⟩
 ·exact a
 ·exact b
 ·exact d
@[elab_as_elim] theorem oN.el {cl:b5} {e:Int} {bu:b5->Int->Nat->Prop} (h:oN cl e j) (b:bu (jF 0 10) 11 1) (d:bu (jF 1 11) 12 2):bu cl e j:=by
 rcases h with⟨rfl,rfl,rfl⟩|⟨rfl,rfl,rfl⟩
 ·exact b
 ·exact d
section
variable {cl:b5} {e:Int} (K:aY)
def QV (h:nG cl e):c7 cg cl 308 [.none,.int e] ve K b1=K (.own 1 (key 1)) (ke [.cell (some (.int e)),.tuple [.str 1832301,.none]]):=by
 refine h.el ?_ ?_ ?_<;>kernel_rfl
def QW (h:nG cl e) (b:Bool):c7 cg cl 308 [.bool b,.int e] ve K b1=K (.own 1 (key 1)) (ke [.cell (some (.int e)),.tuple [.str 209467501,.bool b]]):=by
 refine h.el ?_ ?_ ?_<;>kernel_rfl
def QX (h:nG cl e) (n:Int):c7 cg cl 308 [.int n,.int e] ve K b1=K (.own 1 (key 1)) (ke [.cell (some (.int e)),.tuple [.str 1751029,.int n]]):=by
 refine h.el ?_ ?_ ?_<;>kernel_rfl
def QY (h:nG cl e) (n:Nat):c7 cg cl 308 [.str n,.int e] ve K b1=K (.own 1 (key 1)) (ke [.cell (some (.int e)),.tuple [.str 1916270,.str n]]):=by
 refine h.el ?_ ?_ ?_<;>kernel_rfl
def QZ (h:nG cl e) (n:Nat):c7 cg cl 308 [.own 0 (key 0),.int e] (sl (.rinst 83 (lE (.str n)))) K b1=K (.own 2 (key 2)) (ke [.rinst 83 (lE (.str n)),.cell (some (.int e)),.tuple [.str 247053557,.str n]]):=by
 refine h.el ?_ ?_ ?_<;>kernel_rfl
def Q0 (h:oN cl e j):c7 cg cl 308 [.own 1 (key 1),.int e] (yP (.rlist []) (.rinst 103 (gO (.own 0 (key 0))))) K b1=K (.own 6 (key 6)) (ke [.rlist [],.rinst 103 (gO (.own 0 (key 0))),.cell (some (.int e)),.dead,.list [],.tuple [],.tuple [.str 230341237,.own 5 (key 5)]]):=by
 refine h.el ?_ ?_<;>kernel_rfl
def Q1 (h:oN cl e j) (t:cF):c7 cg cl 308 [.own 1 (key 1),.int e] (yP (.rlist [kd j t]) (.rinst 103 (gO (.own 0 (key 0))))) K b1=K (.own 6 (key 6)) (ke [.rlist [kd j t],.rinst 103 (gO (.own 0 (key 0))),.cell (some (.int e)),.dead,.list [.any 3 t],.tuple [.any 3 t],.tuple [.str 230341237,.own 5 (key 5)]]):=by
 refine h.el ?_ ?_<;>kernel_rfl
def Q2 (h:oN cl e j) (t u:cF):c7 cg cl 308 [.own 1 (key 1),.int e] (yP (.rlist [kd j t,kd j u]) (.rinst 103 (gO (.own 0 (key 0))))) K b1=K (.own 6 (key 6)) (ke [.rlist [kd j t,kd j u],.rinst 103 (gO (.own 0 (key 0))),.cell (some (.int e)),.dead,.list [.any 3 t,.any 3 u],.tuple [.any 3 t,.any 3 u],.tuple [.str 230341237,.own 5 (key 5)]]):=by
 refine h.el ?_ ?_<;>kernel_rfl
def Q3 (h:oN cl e j) (a b:Int) (o:Bool):c7 cg cl 308 [.own 0 (key 0),.int e] (sl (.rinst 161 (nE (.int a) (.int b) (.bool o)))) K b1=K (.own 2 (key 2)) (ke [.rinst 161 (nE (.int a) (.int b) (.bool o)),.cell (some (.int e)),.tuple [.str 31077430374,.any 3 (.num a),.any 3 (.num b),.bool o]]):=by
 refine h.el ?_ ?_<;>kernel_rfl
end
def yV {cl:b5} {e:Int} (h:nG cl e) (B:0<j->oN cl e j):FN cl e j:=λt hd=>by
 cases t with
 |eJ=>exact(QV _ h).trans (fA (P:=λv ab=>fm ab (fC .eJ) v) (.b8 (i:=1) (by kernel_rfl) (.at trivial) (.at trivial)))
 |h_ b=>exact(QW _ h b).trans (fA (P:=λv ab=>fm ab (fC (.h_ b)) v) (.b8 (i:=1) (by kernel_rfl) (.at trivial) (.at trivial)))
 |num b=>exact(QX _ h b).trans (fA (P:=λv ab=>fm ab (fC (.num b)) v) (.b8 (i:=1) (by kernel_rfl) (.at trivial) (.at trivial)))
 |sym b=>exact(QY _ h b).trans (fA (P:=λv ab=>fm ab (fC (.sym b)) v) (.b8 (i:=1) (by kernel_rfl) (.at trivial) (.at trivial)))
 |gi b=>exact(QZ _ h b).trans (fA (P:=λv ab=>fm ab (fC (.gi b)) v) (.b8 (i:=2) (by kernel_rfl) (.at trivial) (.at trivial)))
 |ft=>
  have A:0<j:=cH AB hd
  exact(Q0 _ (B A)).trans (fA (P:=λv ab=>fm ab (fC .ft) v) (.b8 (i:=6) (by kernel_rfl) (.at trivial) (.t0 (i:=5) (by kernel_rfl))))
 |l1 t=>
  have A:0<j:=cH (lU _) hd
  exact(Q1 _ (B A) t).trans (fA (P:=λv ab=>fm ab (fC (.l1 t)) v) (.b8 (i:=6) (by kernel_rfl) (.at trivial) (.t1 (i:=5) (by kernel_rfl) (.any t))))
 |l2 t u=>
  have A:0<j:=cH (lU _) hd
  exact(Q2 _ (B A) t u).trans (fA (P:=λv ab=>fm ab (fC (.l2 t u)) v) (.b8 (i:=6) (by kernel_rfl) (.at trivial) (.b8 (i:=5) (by kernel_rfl) (.any t) (.any u))))
 |rng a b o=>
  have A:0<j:=cH AB hd
  exact(Q3 _ (B A) a b o).trans (fA (P:=λv ab=>fm ab (fC (.rng a b o)) v) (.fL (i:=2) (by kernel_rfl) (.at trivial) (.any (.num a)) (.any (.num b)) (.at trivial)))
def Q4 (x:V) (ab:aA) (K:aY):c7 cg (jF 1 11) 308 [x] ab K b1=c7 cg (jF 1 11) 308 [x,.int 12] ab K b1:=by kernel_rfl
def Q5 (h:Std c) (D:c.n.r=cP c.w) {loc:Loc} {k:aY} {x:V} {val:am} {t:cF} (ah:aZ c f) (cD:f.d<=70) (ev:x=.any 2 t∨∃n,x=.int n/\t=.num n) (B:k (.any 3 t) ab=true) (S:ba c f p ab loc s) (C:aE p x val):
  dH (aR c.prog c.w) f.A (.call (.ref 308) ⟨[val],[]⟩) (f2 (cb c f p loc k) E) s:=by
 have fu:df c (b6 c 849) 90 (jF 0 10):=FQ h (by lia) λah cD B S C=>FP h D (by lia) (by lia) (λf a xs F ab loc k x p s E ae ag=>yU h f a xs F ab loc k x p s E ae (by lia)) (yV (.inl ⟨rfl,rfl⟩) λq=>absurd q (nL _)) ah cD B S C
 have bx:df c (b6 c 849) 80 (jF 1 11):=FQ h (by lia) λah cD B S C=>FP h D (by lia) (by lia) fu (yV (.inr (.inl ⟨rfl,rfl⟩)) λZ=>.inl ⟨rfl,rfl,rfl⟩) ah cD B S C
 exact FO h D (by lia) (d:=70) (by lia) bx (n7:=[]) (vh:=[]) (λZ=>.nil) (λt hd=>(Q4 _ _ _).trans (yV (.inr (.inr ⟨rfl,rfl⟩)) (λZ=>.inr ⟨rfl,rfl,rfl⟩) t hd)) ah cD ev B S C
def vi:c3->List c3
 |.t0=>[]
 |.t1 a=>[a]
 |.b8 a b=>[a,b]
 |.fL a b c d=>[a,b,c,d]
 |.at _=>[]
def fD (c:c3):c3->Bool:=c3.rec (motive:=λZ=>c3->Bool)
 (λu d=>c3.rec (λv=>(fQ u v).getD false) false a1 cQ (λZ Z Z Z Z Z Z Z=>false) d)
 (λd=>c3.rec aL true a1 cQ (λZ Z Z Z Z Z Z Z=>false) d)
 (λZ i d=>c3.rec aL false (λb Z=>i b) cQ (λZ Z Z Z Z Z Z Z=>false) d)
 (λZ Z i j d=>c3.rec aL false a1 (λb e Z Z=>i b&&j e) (λZ Z Z Z Z Z Z Z=>false) d)
 (λZ Z Z Z i j k l d=>c3.rec aL false a1 cQ (λb e f g Z Z Z Z=>i b&&(j e&&(k f&&l g))) d) c
def oO (l:List c3):List c3->Bool:=bW (motive:=λZ=>List c3->Bool) (λm=>bW true hv m) (λa Z A m=>bW false (λb m Z=>fD a b&&A m) m) l
def kf:c3->Bool
 |.at _=>true
 |_=>false
def oP:V->Prop
 |.none|.bool _|.int _|.str _=>True
 |_=>False
def iv:c3->Prop
 |.at u=>oP u
 |.t0=>True
 |.t1 a=>iv a
 |.b8 a b=>iv a/\iv b
 |.fL a b c d=>iv a/\iv b/\iv c/\iv d
def hi:c3->Nat
 |.at _=>0
 |.t0=>1
 |.t1 a=>hi a+1
 |.b8 a b=>max (hi a) (hi b)+1
 |.fL a b c d=>max (max (hi a) (hi b)) (max (hi c) (hi d))+1
def FR {c d:c3} (A:kf c=false) (hd:kf d=false):fD c d=oO (vi c) (vi d):=by
 cases c<;>cases d<;>first|rfl|cases A;done|cases hd;done|exact(zM _).symm|(show _=(_&&(_&&true));rw[zM]at⊢;rfl)|(show _=(_&&(_&&(_&&(_&&true))));rw[zM]at⊢;rfl)|exact(Aw _).symm|(show false=(_&&(_&&false));rw[Aw,Aw]at⊢)
def qx {ar:Prop} {c:c3} (h:kf c=true) (A:∀u,c=.at u->ar):ar:=by
 cases c with
 |«at» u=>exact A u rfl
 |_=>cases h
def FS {u:V} {d:c3} (h:kf d=false):fD (.at u) d=false/\fD d (.at u)=false:=by
 cases d with
 |«at» u=>cases h
 |_=>exact⟨rfl,rfl⟩
set_option tactic.hygienic true in
def Q6 {l:bc} {u B:V} {v:am} (cR:oP u) (cB:oP B) (h:d2 l (.at u) v) (k:d2 l (.at B) v):fD (.at u) (.at B)=true:=by
 cases u<;>first|exact cR.elim|skip
 all_goals cases B<;>first|exact cB.elim|skip
 all_goals first
  |rfl
  |(cases h;obtain⟨_,q⟩:=k;cases q;done)
  |(cases h;obtain⟨_,_,q,_⟩:=k;cases q;done)
  |(obtain⟨_,q⟩:=h;rw[q]at k;cases k;done)
  |(obtain⟨_,_,q,_⟩:=h;rw[q]at k;cases k;done)
  |(cases h;cases k;clear cR cB;rename_i b;cases b<;>rfl)
  |(cases h;cases k;done)
  |clear cB;(obtain⟨_,q⟩:=h;obtain⟨_,A⟩:=k;rw[q]at A;cases A;exact(show Int.dt _ _=true by rw[Int.ky];simp))
  |(obtain⟨_,q⟩:=h;obtain⟨_,_,A,_⟩:=k;rw[q]at A;cases A;done)
  |(obtain⟨_,_,q,_⟩:=h;obtain⟨_,A⟩:=k;rw[q]at A;cases A;done)
  |(obtain⟨_,_,q,_,e1⟩:=h;obtain⟨_,_,A,_,e2⟩:=k;clear zu;rw[q]at A;cases A;rw[<-e1,<-e2];exact s_ _)
def FT {l:bc} {u:V} {a:a7} (cR:oP u) (h:d2 l (.at u) (.ref a)):False:=by
 cases u<;>first|exact cR|skip
 ·cases h
 ·cases h
 ·obtain⟨_,q⟩:=h;cases q
 ·obtain⟨_,_,q,_⟩:=h;cases q
def FU {l:bc} {u:V} {v:am} {a:a7} {ai:Array am} (cR:oP u) (h:d2 l (.at u) v) (it:s.heap.IsTuple a ai) (B:A.units<hO):
  (pf A s v (.ref a) false/\ja A s v (.ref a) false)/\pf A s (.ref a) v false/\ja A s (.ref a) v false:=by
 cases u<;>first|exact cR.elim|skip
 ·cases h;exact⟨⟨.none_tuple it B,.none_tuple it B⟩,.tuple_none it B,.tuple_none it B⟩
 ·cases h;exact⟨⟨.bool_tuple _ it B,.bool_tuple _ it B⟩,.tuple_bool _ it B,.tuple_bool _ it B⟩
 ·obtain⟨_,rfl⟩:=h;exact⟨⟨.int_tuple _ _ it B,.int_tuple _ _ it B⟩,.tuple_int _ _ it B,.tuple_int _ _ it B⟩
 ·obtain⟨_,_,rfl,_⟩:=h;exact⟨⟨.str_tuple _ _ it B,.str_tuple _ _ it B⟩,.tuple_str _ _ it B,.tuple_str _ _ it B⟩
def FV {c:c3} (h:kf c=false):hi c≠0:=by
 cases c with
 |«at» u=>cases h
 |_=>exact o_ _
def d2.tup {l:bc} {c:c3} {v:am} (A:kf c=false) (h:d2 l c v):∃a n ai,v=.ref a/\(a,jd ai n)∈l/\All2 (d2 l) (vi c) ai:=by
 cases c with
 |«at» _=>cases A
 |t0=>obtain⟨a,n,e,m⟩:=h;exact⟨a,n,_,e,m,All2.nil⟩
 |t1 _=>obtain⟨a,n,x,e,m,ae⟩:=h;exact⟨a,n,_,e,m,All2.cons ae .nil⟩
 |b8 _ _=>obtain⟨a,n,x,y,e,m,ae,ag⟩:=h;exact⟨a,n,_,e,m,All2.cons ae (.cons ag .nil)⟩
 |fL _ _ _ _=>obtain⟨a,n,x,y,z,u,e,m,ae,ag,ax,aS⟩:=h;exact⟨a,n,_,e,m,All2.cons ae (.cons ag (.cons ax (.cons aS .nil)))⟩
def vj {c x:c3} (h:iv c) (A:x∈vi c):iv x/\hi x+1<=hi c:=by
 cases c with
 |«at» _=>cases A
 |t0=>cases A
 |t1 a=>rw[h7.mp A]at⊢;exact⟨h,eh _⟩
 |b8 a b=>
  rcases bJ.mp A with rfl|A
  ·exact⟨h.1,iz (qM _ _)⟩
  ·rw[h7.mp A]at⊢;exact⟨h.2,iz (qN _ _)⟩
 |fL a b d f=>
  rcases bJ.mp A with rfl|A
  ·exact⟨h.1,iz (c5 (qM _ _) (qM _ _))⟩
  rcases bJ.mp A with rfl|A
  ·exact⟨h.2.1,iz (c5 (qN _ _) (qM _ _))⟩
  rcases bJ.mp A with rfl|A
  ·exact⟨h.2.2.1,iz (c5 (qM _ _) (qN _ _))⟩
  ·rw[h7.mp A]at⊢;exact⟨h.2.2.2,iz (c5 (qN _ _) (qN _ _))⟩
def Q7 {l:bc} {R:am->am->Bool->Prop}:∀{as eH:List c3} {ai cS:List am},(∀x∈as,∀y∈eH,∀v w,d2 l x v->d2 l y w->R v w (fD x y))->All2 (d2 l) as ai->All2 (d2 l) eH cS->
  ∃e:Nat->Bool,(∀j (ae:j<ai.length) (ag:j<cS.length),R ai[j] cS[j] (e j))/\oO as eH=((sT (min ai.length cS.length)).all e&&ai.length==cS.length):=by
 intro as eH ai cS A E B
 induction E generalizing eH cS with
 |nil=>clear A;cases B<;>exact⟨λZ=>true,λj ae=>absurd ae (iD _),by simp[oO]⟩
 |@cons a C as ai ae t1 F=>
  cases B with
  |nil=>exact⟨λZ=>true,λj Z ae=>absurd ae (iD _),by simp[oO]⟩
  |@cons b D eH cS ag b8=>
  obtain⟨e,he,G⟩:=F (λx H y I=>A x (.tail _ H) y (.tail _ I)) b8
  refine⟨λj=>match j with|0=>fD a b|j+1=>e j,λj J K=>?_,?_⟩
  ·cases j with
   |zero=>exact A _ (.head _) _ (.head _) _ _ ae ag
   |succ j=>exact he j (pi J) (pi K)
  ·show(fD a b&&oO as eH)=_
   rw[G]
   have e1:min (C::ai).length (D::cS).length=min ai.length cS.length+1:=Nat.succ_min_succ _ _
   rw[e1,Tx,oX,List.all_map]
   have e2:((C::ai).length==(D::cS).length)=(ai.length==cS.length):=show decide _=decide _ from decide_eq_decide.mpr Tz
   rw[e2,Bool.and_assoc]
   rfl
def Q8 {u:V} (A:oP u) (B:oP v):fQ u v=some ((fQ u v).getD false):=by
 cases u<;>first|exact A.elim|skip
 all_goals cases v<;>first|exact B.elim|rfl
def Q9 {l:bc}:∀{as eH:List c3} {ai:List am},All2 (d2 l) as ai->All2 (d2 l) eH ai->(∀x∈as,∀y∈eH,∀v,d2 l x v->d2 l y v->fD x y=true)->oO as eH=true:=by
 intro as eH ai C A
 induction C generalizing eH with
 |nil=>intro _;clear a;cases A;rfl
 |cons D t1 i0=>
  intro B
  cases A with
  |cons E b8=>
  show(fD _ _&&oO _ _)=true
  rw[B _ (.head _) _ (.head _) _ D E,i0 b8 λx F y G=>B x (.tail _ F) y (.tail _ G)]
  rfl
def Q_ {l:bc} (B:∀q∈l,s.heap.get? q.1=some q.2):∀(n:Nat) (c d:c3) (v:am),hi c<=n->iv c->iv d->d2 l c v->d2 l d v->fD c d=true:=by
 intro n
 induction n using Nat.strongRecOn with|_ n D=>
 intro c d v E cR cB h k
 cases A:kf c with
 |true=>
  clear E
  obtain⟨u,rfl⟩:=qx A,A
  cases hd:kf d with
  |true=>obtain⟨K,rfl⟩:=qx hd,hd;exact Q6 cR cB h k
  |false=>obtain⟨a,n,ai,rfl,_⟩:=k.tup hd,k;exact(FT cR h).elim
 |false=>
  obtain⟨a,m,ai,rfl,F,G⟩:=h.tup A,h
  cases hd:kf d with
  |true=>obtain⟨u,rfl⟩:=qx hd,hd;exact(FT cB k).elim
  |false=>
   obtain⟨b,L,cS,e,C,H⟩:=k.tup hd
   cases e
   have e1:ai=cS:=by
    have aK:=B _ F
    have aW:=B _ C
    have:=gR (aK.symm.trans aW)
    unfold jd at this
    injection this with _ _ this
    injection this with e1 _
    exact congrArg Array.toList e1
   clear C
   subst e1
   rw[FR A hd]
   have p:=FV A
   refine Q9 G H λx I y J v ae ag=>?_
   obtain⟨o1,c_⟩:=vj cR I
   exact D (hi x) (by lia) x y v (eh _) o1 (vj cB J).1 ae ag
def Ra {l:bc} (E:∀q∈l,s.heap.get? q.1=some q.2):∀(n:Nat) (c d:c3) (v w:am) (A:hN),hi c<=n->iv c->iv d->d2 l c v->d2 l d w->A.units+n<hO->pf A s v w (fD c d)/\ja A s v w (fD c d):=by
 have it:∀{a:a7} {ai:List am} {m:Nat},(a,jd ai m)∈l->s.heap.IsTuple a ai.toArray:=λq=>⟨_,E _ q,rfl,_,rfl⟩
 intro n
 induction n using Nat.strongRecOn with|_ n H=>
 intro c d v w A F cR cB h k I
 have D:A.units<hO:=mO (vJ _ _) I
 cases B:kf c with
 |true=>
  clear F
  obtain⟨u,rfl⟩:=qx B,B
  cases hd:kf d with
  |true=>
   obtain⟨O,rfl⟩:=qx hd,hd
   have:=re _ _ (Q8 cR cB)
   exact⟨(wF this h k).1,wG this h k⟩
  |false=>
   obtain⟨a,m,ai,rfl,C,_⟩:=k.tup hd,k
   rw[(FS hd).1]
   exact(FU cR h (it C) D).1
 |false=>
  obtain⟨a,m,ai,rfl,C,J⟩:=h.tup B
  cases hd:kf d with
  |true=>
   obtain⟨u,rfl⟩:=qx hd,hd
   rw[(FS B).2]
   exact(FU cB k (it C) D).2
  |false=>
   obtain⟨b,P,cS,rfl,G,K⟩:=k.tup hd
   have R:pf A s (.ref a) (.ref b) (fD c d):=by
    have p:=FV B
    obtain⟨e,he,L⟩:=Q7 (R:=ja A.in1 s) (λx M y N v w ae ag=>by
     obtain⟨o1,c_⟩:=vj cR M
     exact(H (hi x) (by lia) x y v w A.in1 (eh _) o1 (vj cB N).1 ae ag (by show A.units+1+hi x<hO;lia)).2) J K
    rw[FR B hd,L]
    have:=pf.tuples (it C) (it G) D (e:=e) (λj ae ag=>by simpa using he j (by simpa using ae) (by simpa using ag))
    simpa using this
   clear G
   refine⟨R,?_⟩
   by_cases q:a=b
   clear R
   ·subst q
    rw[Q_ E n c d _ F cR cB h k]
    exact .same _
   ·exact .of_refs q R
def fh (t u:cF):Bool:=fD (fC t) (fC u)
def qy:∀t,iv (fC t)
 |.eJ|.h_ _|.num _|.sym _|.gi _=>⟨trivial,trivial⟩
 |.ft=>⟨trivial,trivial⟩
 |.l1 t=>⟨trivial,qy t⟩
 |.l2 t u=>⟨trivial,qy t,qy u⟩
 |.rng _ _ _=>⟨trivial,⟨trivial,trivial⟩,⟨trivial,trivial⟩,trivial⟩
def Rb:∀t,hi (fC t)<=2*gc t+1:=by
 intro t
 induction t with
 |ft=>show 2<=3;lia
 |l1 t h=>
  exact iz (Nat.max_le.mpr ⟨hL _,iz h⟩)
 |l2 t u h k=>
  exact iz (Nat.max_le.mpr ⟨hL _,iz (Nat.max_le.mpr ⟨c5 h (iz (vL 2 (qM _ _))),c5 k (iz (vL 2 (qN _ _)))⟩)⟩)
 |rng _ _ _=>show 2<=3;lia
 |_=>exact eh 1
set_option tactic.hygienic true in
def Rc {c:c3} (h:iv c):fD c c=true:=by
 induction c with
 |«at» u=>
  cases u<;>first|exact h.elim|skip
  ·rfl
  clear h
  ·rename_i b;cases b<;>rfl
  ·rename_i i;show Int.dt i i=true;rw[Int.ky];simp
  ·rename_i n;exact s_ n
 |t0=>rfl
 |t1 a C=>exact C h
 |b8 a b A B=>show(fD _ _&&fD _ _)=true;rw[A h.1,B h.2];rfl
 |fL a b d e A B id D=>show(fD _ _&&(fD _ _&&(fD _ _&&fD _ _)))=true;rw[A h.1,B h.2.1,id h.2.2.1,D h.2.2.2];rfl
def Rd (t u:cF):fh (.l1 t) (.l1 u)=fh t u:=by kernel_rfl
def Re (t u v w:cF):fh (.l2 t u) (.l2 v w)=(fh t v&&fh u w):=by kernel_rfl
def Rf (a b:Bool):fh (.h_ a) (.h_ b)=fD (.at (.bool a)) (.at (.bool b)):=by kernel_rfl
def Rg (a b:Int):fh (.num a) (.num b)=Int.dt a b:=by kernel_rfl
def Rh (a b:Nat):fh (.sym a) (.sym b)=aU a b:=by kernel_rfl
def Ri (a b:Nat):fh (.gi a) (.gi b)=aU a b:=by kernel_rfl
def Rj (a b A B:Int) (o bC:Bool):fh (.rng a b o) (.rng A B bC)=(Int.dt a A&&(Int.dt b B&&fD (.at (.bool o)) (.at (.bool bC)))):=by kernel_rfl
def FW (t:cF):fh t t=true:=Rc (qy t)
def yW:∀{t u:cF},fh t u=true->t=u:=by
 have sg:∀{a b:Int},Int.dt a b=true->a=b:=λh=>Int.qw h
 have B:∀{a b:Bool},fD (.at (.bool a)) (.at (.bool b))=true->a=b:=λ{a b} h=>by cases a<;>cases b<;>first|rfl|cases h
 have no:∀{t u:cF},fh t u=true->fh t u=false->t=u:=λh k=>by rw[h]at k;cases k
 intro t
 induction t with
 |l1 t C=>
  intro u h
  cases u with
  |l1 u=>
   exact congrArg _ (C ((Rd t u).symm.trans h))
  |_=>exact no h (by kernel_rfl)
 |l2 t1 b8 D E=>
  intro u h
  cases u with
  |l2 F G=>
   obtain⟨ae,ag⟩:=an ((Re t1 b8 F G).symm.trans h)
   exact congr (congrArg _ (D ae)) (E ag)
  |_=>exact no h (by kernel_rfl)
 |ft=>
  intro u h
  cases u with
  |ft=>
   rfl
  |_=>exact no h (by kernel_rfl)
 |eJ=>
  intro u h
  cases u with
  |eJ=>
   rfl
  |_=>exact no h (by kernel_rfl)
 |h_ b=>
  intro u h
  cases u with
  |h_ A=>
   exact congrArg _ (B ((Rf b A).symm.trans h))
  |_=>exact no h (by kernel_rfl)
 |num b=>
  intro u h
  cases u with
  |num A=>
   exact congrArg _ (sg ((Rg b A).symm.trans h))
  |_=>exact no h (by kernel_rfl)
 |sym b=>
  intro u h
  cases u with
  |sym A=>
   exact congrArg _ (b3 ((Rh b A).symm.trans h))
  |_=>exact no h (by kernel_rfl)
 |gi b=>
  intro u h
  cases u with
  |gi A=>
   exact congrArg _ (b3 ((Ri b A).symm.trans h))
  |_=>exact no h (by kernel_rfl)
 |rng a b o=>
  intro u h
  cases u with
  |rng H A bC=>
   obtain⟨ae,h⟩:=an ((Rj a b H A o bC).symm.trans h)
   obtain⟨ag,ax⟩:=an h
   exact congr (congr (congrArg _ (sg ae)) (sg ag)) (B ax)
  |_=>exact no h (by kernel_rfl)
def FX (t u:cF):fh t u=fh u t:=by
 cases h:fh t u with
 |true=>rw[yW h,FW]
 |false=>
  cases k:fh u t with
  |true=>rw[yW k,FW]at h;cases h
  |false=>rfl
def FY:List V->aA->aY->Bool:=λai ab k=>kE ai λv=>mI 2 v λt=>k (.any 3 t) ab
def yX:iQ:=λa=>bk (motive:=λZ=>Option (List V->aA->aY->Bool)) none (some FY) (aU a 308)
def FZ:b5:=oB yX cg oL
abbrev qz:ef:=⟨FZ,b1⟩
def Rk (h:Std c) (D:c.n.r=cP c.w):df c (b6 c 849) 70 FZ:=λf a xs B ab loc k x p s E ah cD A S F C=>by
 replace A:cq (motive:=λZ=>Bool) (c7 cg oL a xs ab k x) (λg=>g xs ab k) (yX a)=true:=A
 cases q:yX a with
 |none=>rw[q]at A;exact mg h.a0 (by lia) (λf a xs B ab loc k x p s E ae ag=>yU h f a xs B ab loc k x p s E ae (by lia)) f a xs B ab loc k x p s E ah cD A S F C
 |some g=>
  rw[q]at A
  replace q:bk (motive:=λZ=>Option (List V->aA->aY->Bool)) none (some FY) (aU a 308)=some g:=q
  cases aK:aU a 308 with
  |true=>
   rw[aK]at q;cases q
   obtain rfl:=b3 aK,aK
   obtain⟨v,cL,cr⟩:=mu' A
   subst cL
   obtain⟨t,cx,ev⟩:=sk' cr
   obtain⟨val,rfl,v1⟩:=C.nc',C
   exact Q5 h D ah cD ev cx S v1
  |false=>rw[aK]at q;cases q
def i680:c9:=mA (F 85) 680 (S "object_alike") (S "object_alike") (r 679) []
def Rl (P:bR):gH (KF P) i680:=nq (cR:=.type "function") (cB:=none) (gX:=#[]) ak (ai "gemrows.core" 1122) [] 3 0 (by kernel_rfl) (λv S=>by kernel_rfl) (by kernel_rfl) (λp=>.nil) (by kernel_rfl) (by kernel_rfl)
def mJ:f3:=⟨[(32449033957,false),(244954855,false),(207418484,false)],[],3,[],kG⟩
def Rm (P:bR):kx (KF P) mJ i680:=uw (by kernel_rfl) (by kernel_rfl) (by kernel_rfl)
def yY:aM:=eN (kQ (eN (h0 (hQ i680.body 0)) 0)) 0
def vk:aM:=eN (kQ (eN (h0 (hQ i680.body 0)) 0)) 1
def Rn:i680.body=[.Return (some (.Compare yY [.Eq] [vk] ⟨457,11,457,44⟩)) ⟨457,4,457,44⟩]:=by kernel_rfl
def F0:aT:=jm 308 [dj 244954855]
def F1:aT:=jm 308 [jk cA (dj 207418484) (ds (.int 0))]
def Ro:cp.ev i680.scope yY=F0:=by kernel_rfl
def Rp:cp.ev i680.scope vk=F1:=by kernel_rfl
def Rq:oc vk=true:=by kernel_rfl
def qA (w x l:V):Loc:=[(207418484,l),(244954855,x),(32449033957,w)]
def Rr (w x l:V) (ab:aA) (KK:aA->Loc->Bool):gI mJ.e_ (je mJ.dflt mJ.least [w,x,l]) ab [] (λab loc=>hU mJ.cells ab loc KK)=KK ab (qA w x l):=by kernel_rfl
def Rs (w x l:V) (ab:aA) (K:aY):F0 ab (qA w x l) K qz=mI 2 x λt=>K (.any 3 t) ab:=by kernel_rfl
def Rt (w x l:V) (ab:aA) (K:aY):F1 ab (qA w x l) K qz=kD cA l (.int 0) ab λy ab=>mI 2 y λt=>K (.any 3 t) ab:=by kernel_rfl
def Ru {aB:ck} {y:V} (h:bn ab aB=some (.list [y])) (K:aY):kD cA (.own i aB) (.int 0) ab K=K y ab:=by
 show gY (bn ab aB) _ _ _ _=_
 rw[h]
 kernel_rfl
def F2 {x:V} {t:cF} {k:cF->Bool} (e:x=.any 2 t∨∃n,x=.int n/\t=.num n) (h:k t=true):mI 2 x k=true:=by
 rcases e with rfl|⟨n,rfl,rfl⟩
 ·exact h
 ·exact h
abbrev F3 (x:V) (t:cF):Prop:=x=.any 2 t∨∃n,x=.int n/\t=.num n
def Rv (h:Std c) (J:c.n.r=cP c.w) {loc:Loc} {k:aY} {w x y:V} {Q T lv:am} {t u:cF} {aB:ck} (ah:aZ c f) (cD:f.d<=60) (ex:F3 x t) (aA:F3 y u) (U:bn ab aB=some (.list [y]))
  (W:k (.bool (fh t u)) ab=true) (S:ba c f p ab loc s) (v1:aE p w Q) (v2:aE p x T) (aC:aE p (.own i aB) lv):dH (aR c.prog c.w) f.A (.call (.ref 680) ⟨[Q,T,lv],[]⟩) (f2 (cb c f p loc k) E) s:=by
 have ok:=Rl c.w.params
 rw[<-h.K]at ok
 have X:=Rm c.w.params
 rw[<-h.K]at X
 obtain⟨aD,aG,aH,aI,aK⟩:=X
 obtain⟨m,aj,F,ak,H,aL⟩:=S.ex
 have Y:gI mJ.e_ (je i680.dflt i680.least [w,x,.own i aB]) ab [] (λab loc=>hU mJ.cells ab loc λaF cO=>@decide (aF=ab/\cO=qA w x (.own i aB)) (dv _))=true:=by
  rw[<-aH,<-aI]
  exact(Rr w x (.own i aB) ab _).trans (@decide_eq_true _ (dv _) ⟨rfl,rfl⟩)
 refine enter (aJ:=i680) (e_:=mJ.e_) (cl:=mJ.cells) (KK:=λaF cO=>@decide (aF=ab/\cO=qA w x (.own i aB)) (dv _)) (d:=60) (by lia) ok aD aG aK ah cD F ak H S.z (.cons v1 (.cons v2 (.cons aC .nil))) Y λC a_ aM e G bb aN bo g bc j bd be bf o M bg bh aO aP e02 aa af ai al bi lv=>?_
 clear H Y
 obtain⟨rfl,rfl⟩:=@of_decide_eq_true _ (dv _) al
 clear al
 have an:ba c C e G (qA w x (.own i aB)) {s with heap:=aN,toks:=bo}:=⟨⟨_,aM++aj,aO,aP,af,ai⟩,S.gens,S.os,aa,e02.n.trans S.n,e02.y.trans S.y⟩
 clear aa af ai
 have rc:=h.rc g (by rw[o,M];lia) (by rw[M];lia)
 have s1:=rc.ev yY
 rw[j,Ro]at s1
 have a5:=rc.ev vk
 rw[j,Rp]at a5
 have ao:df c (b6 c 849) C.b qz.cl:=by rw[M];exact Rk h J
 have ap:∀p E,(b6 c 849).ok C p qz.x E:=λp E=>(b6 c 849).no _ p E
 rw[Rn]
 refine iE (qV (zY (cy (s1 G _ (j5 λv ab=>v=.any 3 t/\ab=G) qz e _ _ ?_ an (ap _ _) ao) (λaQ bj aT N a aq ar as au=>?_)) (rn Rq)))
 ·rw[Rs]
  exact F2 ex (fA (P:=λv ab=>v=.any 3 t/\ab=G) ⟨rfl,rfl⟩)
 clear an
 obtain⟨rfl,rfl⟩:=mz au
 clear au
 refine cy (a5 N _ (j5 λv ab=>v=.any 3 u/\ab=N) qz aT _ _ ?_ as (ap _ _) ao) (λaU aV I aW b O aX B a0=>?_)
 ·rw[Rt,Ru U]
  exact F2 aA (fA (P:=λv ab=>v=.any 3 u/\ab=N) ⟨rfl,rfl⟩)
 clear as U
 obtain⟨rfl,rfl⟩:=mz a0
 obtain⟨a1,av,a2,aw,ay,a3⟩:=B.ex
 clear a3
 have code:∀{q:cF} {z:am},aE I (.any 3 q) z->d2 I.a6 (fC q) z:=λ{q z} r=>by
  obtain⟨⟨l,az,D⟩,_,_⟩:=r
  rw[B.n,J]at D
  rcases D with⟨q,_⟩|⟨_,q⟩|⟨q,_⟩|q|q|⟨q,_⟩
  ·exact absurd q (by decide)
  ·exact q.mono az
  all_goals exact absurd q (by decide)
 have bx:=code (ar.ext O)
 clear ar
 have cf:=code aX
 have a4:∀q∈I.a6,aV.heap.get? q.1=some q.2:=λq D=>(aw q (ay.a6 q D)).1
 have a7:C.A.units+hi (fC t)<hO:=by
  clear B W bx
  have ae:=g.units
  have ag:=Rb t
  have ax:gc t<=2:=by
   clear ag
   rcases ex with rfl|⟨n,rfl,rfl⟩
   ·obtain⟨⟨l,az,D⟩,_,_⟩:=v2
    rw[S.n,J]at D
    rcases D with⟨_,_,q,_⟩|⟨q,_⟩|⟨q,_⟩|q|q|⟨q,_⟩
    ·exact q
    all_goals exact absurd q (by decide)
   ·show 0<=2;lia
  have aS:C.d=61:=o
  have:hO=9900:=rfl
  lia
 have R:=(Ra a4 (hi (fC t)) (fC t) (fC u) aQ aU C.A (eh _) (qy t) (qy u) bx cf a7).1
 refine R _ _ _ _ (lv _ _ ⟨C.L,a1,av,a2,aw,λa8 a9=>?_⟩)
 exact⟨I,aW,V.bool (fh t u),(e02.trans aq).trans O,rfl,⟨⟨m,av,a8,a9,ay,aL.ext ((e02.trans aq).trans O)⟩,B.gens,B.os,B.z,B.n,B.y⟩,W⟩
abbrev qB:V:=.any 10 .eJ
abbrev dV:V:=.any 12 .eJ
abbrev dW:V:=.sym (ei 0)
def eb:Nat:=329300995355507
def hj:List (List Nat):=
 [[],[2917867894760,635322173910836377318],[17959809402,653701350933434791654],[329300995355507,351529867212132,635322173910836377318,22487495782,653701350933434791654],
  [2917867894760,635322173910836377318,17959809402,653701350933434791654],[2917867894760,635322173910836377318,329300995355507,351529867212132,22487495782,653701350933434791654],
  [17959809402,653701350933434791654,2917867894760,635322173910836377318],[17959809402,653701350933434791654,329300995355507,351529867212132,635322173910836377318,22487495782],
  [329300995355507,351529867212132,635322173910836377318,22487495782,653701350933434791654,2917867894760],[329300995355507,351529867212132,635322173910836377318,22487495782,653701350933434791654,17959809402],
  [2917867894760,635322173910836377318,17959809402,653701350933434791654,329300995355507,351529867212132,22487495782],[2917867894760,635322173910836377318,329300995355507,351529867212132,22487495782,653701350933434791654,17959809402],
  [17959809402,653701350933434791654,2917867894760,635322173910836377318,329300995355507,351529867212132,22487495782],[17959809402,653701350933434791654,329300995355507,351529867212132,635322173910836377318,22487495782,2917867894760],
  [329300995355507,351529867212132,635322173910836377318,22487495782,653701350933434791654,2917867894760,17959809402],[329300995355507,351529867212132,635322173910836377318,22487495782,653701350933434791654,17959809402,2917867894760]]
def iw:List Nat:=[2775580258933,80011947843862019027573,18483821172,2710338123494,2638963536749]
def Rw (X:V) (n:Nat):Nat×V:=(n,bk qB X (aU n eb))
def jG (X:V) (l:List Nat):List (Nat×V):=bW [] (λn Z A=>Rw X n::A) l
def ix (l m:List Nat):List Nat:=bW m (λn Z A=>n::A) l
def lG (l:List Nat):Nat:=bW 0 (λZ Z A=>bS A) l
def fE (X:V) (q:List Nat):O:=.dict (bK 5 (lG q)) (jG X (ix iw q))
def dO (ju:V) (li:Int):List (Nat×V):=[(491582048301940,.own 1 (key 1)),(500958236619494,.own 3 (key 3)),(242856293,.none),(232536693,.int 20000),(31614251887,.int 0),(129596802089920853767027,ju),(1012475016326128711669,.int li),(2262333226278223366131022580,.own 4 (key 4)),(232305382,.own 5 (key 5)),(526903343233135,.int 0),(1951338396924375997093689455,.int 0),(461172322645748,.own 6 (key 6)),(1850229,.own 7 (key 7)),(60186198078436090,.bool .true),(232306031,qB)]
def ss (a:V):Bool:=V.rec false aL aL aL aL (λZ Z=>true) (λZ=>true) (λk Z=>b2 10 k) a
def vl (a b:V):Bool:=V.rec (oi a true) (λq=>vBool a λp=>mm p q) (λc=>vInt a λd=>Int.dt d c) (λc=>aN (Int.dt c (ei 0)) (jV a (λZ=>true) true)) aL (λi Z=>cz a λj Z=>aU j i) aL
 (λk Z=>bk (aN (aU k 12) (mH a λA Z=>aU A 12)) (ss a) (aU k 10)) b
def iU (l:List (Nat×V)):List (Nat×V)->Bool:=bW (motive:=λZ=>List (Nat×V)->Bool) (λm=>bW true hv m) (λa Z A m=>bW false (λb m Z=>aN (aU a.1 b.1) (aN (vl a.2 b.2) (A m))) m) l
def iV (l:List (Nat×V)):List (Nat×V)->Bool:=bW (motive:=λZ=>List (Nat×V)->Bool) (λm=>bW true hv m) (λa Z A m=>bW false (λb m Z=>aN (aU a.1 b.1) (A m)) m) l
def kW (ao:List (Nat×V)) (x:Nat) (k:V->Bool):Bool:=f4 (lk ao x) k
def qC (C:Nat) (ao:List (Nat×V)):Bool:=aN (aU C 249) (aN (iV ao (jE .none)) (kW ao 3845838664563 λv=>vInt v λZ=>true))
def Rx (o:O) (k:Nat->List (Nat×V)->Bool):Bool:=O.rec a1 a1 a1 aL aL aL aL a1 a1 cQ aL cQ aL cQ a1 a1 a1 false aL false aL k aL o
def vm (ab:aA) (aB:ck) (k:Nat->List (Nat×V)->Bool):Bool:=cq false (λo=>Rx o k) (bn ab aB)
def Ry' {aB:ck} {k:Nat->List (Nat×V)->Bool} (h:vm ab aB k=true):∃C ao,ab.t.get aB=some (.rinst C ao)/\k C ao=true:=by
 unfold vm at h
 dsimp only[bP]at h
 cases A:ab.t.get aB with
 |none=>rw[A]at h;cases h
 |some o=>
  rw[A]at h
  clear A
  cases o with
  |rinst C ao=>exact⟨C,ao,rfl,h⟩
  |_=>cases h
def su (ab:aA) (lv:Bool) (v:V):Bool:=V.rec false aL aL aL aL (λi aB=>bk (vm ab aB qC) (aN (b2 8 i) (m7 ab aB qC)) lv) aL (λk Z=>aU k 12) v
def yZ (ab:aA) (lv:Bool) (n:Nat) (v:V):Bool:=bk (ss v) (su ab lv v) (aU n eb)
def kX (ab:aA) (lv:Bool) (q:List Nat):List (Nat×V)->Bool:=bW (motive:=λZ=>List (Nat×V)->Bool) (λm=>bW true hv m) (λn Z A m=>bW false (λb m Z=>aN (aU b.1 n) (aN (yZ ab lv n b.2) (A m))) m) q
def oQ (l:List Nat):List Nat->Bool:=bW (motive:=λZ=>List Nat->Bool) (λZ=>true) (λa Z A m=>bW false (λb m Z=>aN (aU a b) (A m)) m) l
def y0 (q:List Nat) (k:List Nat->Bool) (l:List (List Nat)):Bool:=bW true (λa Z A=>aN (bk true (k a) (oQ q a)) A) l
def qD (g k:List Nat->Bool) (l:List (List Nat)):Bool:=bW false (λa Z A=>bk A (k a) (g a)) l
def hk (j:Nat):Nat:=gg 3 (λZ A=>bK 2 (iC 2 A)) j
def nH (ab:aA) (a4:Nat) (q:List Nat):aA:=bD (key 5) (fE dV q) (bD (key 2) (.inst 1151 (dO dW 8)) (bD (key 0) (.box a4) ab))
def qE (o:Option O) (k:Bool):Bool:=jg o λaz es=>aN (aU az 0) (bW k hv es)
def y1 (ab:aA) (k:Bool):Bool:=mh ab (key 2) λC ao=>aN (aU C 1151) (aN (iU ao (dO dW 8)) (qE (bn ab (key 1)) (qE (bn ab (key 3)) k)))
def oR (j:Nat) (ai:List V) (ab:aA) (k:aY):Bool:=r7 ai λb w d=>cz b λbi Z=>cz w λA Z=>vInt d λd=>aN (aU bi 0) (aN (aU A 2) (aN (Int.dt d (bl j))
 (j8 (bn ab (key 0)) λa4=>aN (b2 a4 100) (aN (b2 8 ab.ay) (y1 ab (jg (bn ab (key 5)) λaz es=>
  qD (λq=>aN (aU az (bK 5 (lG q))) (kX ab false (ix iw q) es)) (λq=>y0 q (λB=>k (.any (bK 4 j) .eJ) (nH ab (bK a4 (hk j)) B)) hj) hj))))))
def qF (q:List Nat) (m:Int):O:=bk .dead (.rinst 249 (jE (.int m))) (dG q eb)
def jH (q:List Nat) (n m:Int):aA:=ke [.box 0,.dict 0 [],.inst 1151 (dO (.int n) 8),.dict 0 [],.dead,fE (.own 8 (key 8)) q,.dead,.dead,qF q m]
def sv (ai:List V) (ab:aA) (k:aY):Bool:=nv ai λa b=>cz a λi fG=>cz b λj Z=>aN (aU i j) (m7 ab fG λC ao=>aN (qC C ao) (k (.bool true) ab))
def y2 (j:Nat):iQ:=λa=>bk (motive:=λZ=>Option (List V->aA->aY->Bool)) (bk (motive:=λZ=>Option (List V->aA->aY->Bool)) (bk (motive:=λZ=>Option (List V->aA->aY->Bool)) none (some (gg (motive:=λZ=>List V->aA->aY->Bool) hv (λj Z=>oR j) j)) (aU a 1212)) (some sv) (aU a 302)) (some j9) (aU a 1169)
def F4:iQ:=λa=>bk (motive:=λZ=>Option (List V->aA->aY->Bool)) (bk (motive:=λZ=>Option (List V->aA->aY->Bool)) none (some sv) (aU a 302)) (some j9) (aU a 1169)
def F5:b5:=hc F4 cg 12
def vn (j:Nat):b5:=oB (y2 j) cg F5
def Rz:b5:=hc iq cg 2
def sw (c:Nat):Bool:=bk (aU c 99) true (aU c 98)
def subB (j:Nat) (xs:List V):Bool:=aN (b2 xs.length 2) (bW true (λx Z A=>aN (mH x λk Z=>aN (b2 4 k) (b2 (bS k) (bK 4 j))) A) xs)
def F6 (j:Nat) (ab:aA) (C:Nat) (ao:List (Nat×V)):Bool:=
 bk (bk (bk false
  (aN (b2 1 j) (aN (iV ao (nE .none .none .none)) (kW ao 27873049205 λa=>vInt a λZ=>kW ao 230210165 λb=>vInt b λZ=>kW ao 236745583 λo=>vBool o λZ=>true))) (aU C 161))
  (aN (b2 1 j) (aN (iV ao (gO .none)) (kW ao 28701210484 λv=>cz v λi aB=>aN (b2 8 i) (fv (bn ab aB) (subB j))))) (aU C 103))
  (aN (iV ao (lE .none)) (kW ao 247053557 λv=>vStr v sw)) (aU C 83)
def y3 (j:Nat) (v:V) (ab:aA):Bool:=V.rec true (λZ=>true) (λZ=>true) aL sw (λi aB=>aN (b2 8 i) (mh ab aB (F6 j ab))) aL a1 v
def y4 (j:Nat) (q:List Nat):aY:=λv ab=>aN (y3 j v ab) (j8 (bn ab (key 0)) λn=>aN (b2 n (hk j)) (mh ab (key 2) λC ao=>aN (aU C 1151) (aN (iU ao (dO dW 8)) (qE (bn ab (key 1)) (qE (bn ab (key 3)) (jg (bn ab (key 5)) λaz es=>
 qD (λA=>aN (oQ q A) (aN (aU az (bK 5 (lG A))) (kX ab true (ix iw A) es))) (λZ=>true) hj))))))
def RA {a b:Bool} (h:mm a b=true):a=b:=by cases a<;>cases b<;>first|rfl|cases h
def y5 {a:V} {v:am} (h:ss a=true) (r:aE p a v):∃x,v=.ref x:=by
 cases a<;>first|cases h;done|skip
 ·exact⟨_,r.2.2⟩
 ·exact⟨_,r⟩
 ·exact r.2.2 h
def y6 (A:p.n.r=cP w) {x:a7} (t:cF):aE p (.any 10 t) (.ref x):=⟨⟨[],(λZ q=>nomatch q),by rw[A];exact .inr (.inr (.inr (.inr (.inl rfl))))⟩,rfl,λZ=>⟨x,rfl⟩⟩
def vo {ar:Prop} (A:p.n.r=cP w) {t:cF} {v:am} (r:aE p (.any 12 t) v) (B:∀l a m,(∀q∈l,q∈p.a6)->v=.ref a->h3 w l a 249 (jE (.int m))->ar):ar:=by
 obtain⟨⟨l,C,q⟩,_,_⟩:=r
 rw[A]at q
 rcases q with⟨q,_⟩|⟨q,_⟩|⟨_,q,_⟩|q|q|⟨_,a,m,aK,aW⟩
 ·lia
 ·lia
 ·lia
 ·lia
 ·lia
 ·exact B l a m C aK aW
def qG (A:p.n.r=cP w) {l:bc} {a:a7} {m:Int} (B:∀q∈l,q∈p.a6) (h:h3 w l a 249 (jE (.int m))) (t:cF):aE p (.any 12 t) (.ref a):=
 ⟨⟨l,B,by rw[A];exact .inr (.inr (.inr (.inr (.inr ⟨rfl,a,m,rfl,h⟩))))⟩,rfl,λZ=>⟨a,rfl⟩⟩
structure sx (p q:aX) (m:Nat):Prop where
 n:q.n=p.n
 lt:∀i,i<m->i<q.ay
 a:∀i,i<m->q.a i=p.a i
 a6:∀e∈p.a6,e∈q.a6
def y7 (m:Nat):V->Prop
 |.own i k=>i<m/\k=key i
 |_=>True
def vp (m:Nat):List (Nat×V)->Prop
 |[]=>True
 |f::l=>y7 m f.2/\vp m l
set_option tactic.hygienic true in
def RB {q:aX} {m:Nat} (A:p.n.r=cP w) (s:sx p q m) {a b:V} {v:am} (B:y7 m b) (h:vl a b=true) (r:aE p a v):aE q b v:=by
 have C:q.n.r=cP w:=by rw[s.n];exact A
 cases b with
 |none=>obtain⟨rfl,_⟩:=w2' (show oi a true=true from h),h;exact r
 |bool b=>
  obtain⟨aD,rfl,h⟩:=pT' (k:=λp=>mm p b) h
  rw[RA h]at r;exact r
 |int c=>
  obtain⟨d,rfl,h⟩:=eD' (k:=λd=>Int.dt d c) h
  rw[Int.qw h]at r;exact r
 |sym c=>
  obtain⟨ae,ag⟩:=an (show aN (Int.dt c (ei 0)) (jV a (λZ=>true) true)=true from h)
  clear h
  rw[Int.qw ae]
  rcases mn' ag with⟨i,rfl,_⟩|⟨i,rfl,_⟩
  ·obtain⟨t,rfl⟩:=r;exact ie
  ·obtain⟨_,t,rfl,_⟩:=r;exact ie
 |str _=>cases h
 |own i k=>
  obtain⟨af,rfl⟩:=B
  cases a<;>first|cases h;done|skip
  rename_i j G
  obtain rfl:=b3 (show aU j i=true from h),h
  obtain⟨_,_,rfl⟩:=r
  exact⟨s.lt _ af,rfl,by rw[s.a _ af]⟩
 |gnd _=>cases h
 |any k t=>
  clear B
  replace h:bk (motive:=λZ=>Bool) (aN (aU k 12) (mH a λD Z=>aU D 12)) (ss a) (aU k 10)=true:=h
  cases e:aU k 10 with
  |true=>
   rw[e]at h
   obtain rfl:=b3 e,e
   obtain⟨x,rfl⟩:=y5 h r,r
   exact y6 C t
  |false=>
   rw[e]at h
   clear e
   obtain⟨ae,ag⟩:=an h
   obtain rfl:=b3 ae,ae
   obtain⟨D,bZ,rfl,ax⟩:=vc' ag
   obtain rfl:=b3 ax,ax
   obtain⟨l,a,m,E,rfl,aK⟩:=vo A r,r
   exact qG C (λq F=>s.a6 q (E q F)) aK t
def sy {q:aX} {m:Nat} (A:p.n.r=cP w) (s:sx p q m):∀{l k:List (Nat×V)} {es:List cu},vp m k->iU l k=true->cm w p l es->cm w q k es:=by
 intro l
 induction l with
 |nil=>
  intro k es _ h r
  clear a
  cases k with
  |nil=>cases r;exact .nil
  |cons _ _=>cases(show false=true from h)
 |cons a l B=>
  intro k es C h r
  cases k with
  |nil=>cases(show false=true from h)
  |cons b k=>
  obtain⟨t1,b8⟩:=C
  cases r with
  |cons r t=>
  obtain⟨ae,h⟩:=an (show aN (aU a.1 b.1) (aN (vl a.2 b.2) (iU l k))=true from h)
  obtain⟨ag,ax⟩:=an h
  exact .cons ⟨by rw[<-b3 ae];exact r.1,RB A s t1 ag r.2⟩ (B b8 ax t)
def vq (ju:V) (li:Int) (h:y7 8 ju):vp 8 (dO ju li):=
 ⟨⟨by decide,rfl⟩,⟨by decide,rfl⟩,trivial,trivial,trivial,h,trivial,⟨by decide,rfl⟩,⟨by decide,rfl⟩,trivial,trivial,⟨by decide,rfl⟩,⟨by decide,rfl⟩,trivial,trivial,trivial⟩
def F7 {ar:Prop} {q:aX} {li:Int} {es:List cu} (h:cm w q (dO dW li) es) (B:∀(n:Int),cm w q (dO (.int n) li) es->ar):ar:=by
 cases h with|cons C h=>cases h with|cons D h=>cases h with|cons E h=>cases h with|cons F h=>cases h with|cons G h=>cases h with|cons A h=>
 obtain⟨n,t,e,_⟩:=A.2
 exact B n (.cons C (.cons D (.cons E (.cons F (.cons G (.cons ⟨A.1,t,e⟩ h))))))
def qH (l:List Nat):Bool:=bW true (λa l A=>bk A (hq (dG l eb)) (aU a eb)) l
def RC (G:p.n.r=cP w):∀{l:List Nat} {es:List cu},qH l=true->cm w p (jG dV l) es->∃ez,(dG l eb=true->aE p dV ez)/\∀(q:aX) X,q.n.r=cP w->(dG l eb=true->aE q X ez)->cm w q (jG X l) es:=by
 intro l
 induction l with
 |nil=>intro es _ r;cases r;exact⟨.none,(λh=>nomatch h),λZ Z Z Z=>.nil⟩
 |cons n l B=>
  intro es k8 h
  cases es with
  |nil=>cases h
  |cons e es=>
  have hm:dG (n::l) eb=bk (motive:=λZ=>Bool) (dG l eb) true (aU n eb):=rfl
  have A:bk (motive:=λZ=>Bool) (qH l) (hq (dG l eb)) (aU n eb)=true:=k8
  have hs:∀X,jG X (n::l)=(n,bk (motive:=λZ=>V) qB X (aU n eb))::jG X l:=λX=>rfl
  rw[hs]at h
  cases e1:aU n eb with
  |true=>
   rw[e1]at h hm A
   have E:dG l eb=false:=by cases z:dG l eb with|true=>rw[z]at A;cases A|false=>rfl
   cases h with
   |cons r t=>
    have F:qH l=true:=by
     try clear B
     try clear k8
     try clear A
     try clear hm
     try clear hs
     try clear e1
     try clear r
     try clear t
     induction l with
     |nil=>rfl
     |cons a l B=>
      have ae:bk (motive:=λZ=>Bool) (dG l eb) true (aU a eb)=false:=E
      show bk (motive:=λZ=>Bool) (qH l) (hq (dG l eb)) (aU a eb)=true
      cases z:aU a eb with
      |true=>rw[z]at ae;cases ae
      |false=>rw[z]at ae;exact B ae
    obtain⟨ez,_,k⟩:=B F t
    refine⟨e.val,λZ=>r.2,λq X C D=>?_⟩
    rw[hs,e1]
    exact .cons ⟨r.1,D hm⟩ (k q X C λz=>by rw[E]at z;cases z)
  |false=>
   rw[e1]at h hm A
   cases h with
   |cons r t=>
    obtain⟨ez,cr,cx⟩:=B A t
    obtain⟨x,ex⟩:=y5 (a:=qB) rfl r.2
    refine⟨ez,λz=>cr (hm.symm.trans z),λq X C D=>?_⟩
    rw[hs,e1]
    exact .cons ⟨r.1,by rw[ex];exact y6 C .eJ⟩ (cx q X C λz=>D (hm.trans z))
def RD (q:List Nat):dG (ix iw q) eb=dG q eb:=by kernel_rfl
def aQ.part {A:aX} {t eP:T} {aj F:bc} (H:aQ K w p t aj) (a_:(F.map (·.1)).Nodup) (id:∀i,i<A.ay->bG eP i->i<p.ay/\bG t i/\A.a i=p.a i/\A.b i=p.b i) (mem:∀i,i<p.ay->bG t i->i<A.ay->bG eP i->(∃o,(p.a i,o)∈F)/\∃o,(p.b i,o)∈F)
  (ent:∀i o,i<A.ay->eP.get (key i)=some o->ch K w A F i o) (M:A.ay<=4096) (a6:∀q∈A.a6,q∈F/\∀i,i<A.ay->bG eP i->q.1≠p.a i/\q.1≠p.b i):aQ K w A eP F:=by
 refine⟨a_,ent,λi j af G li I e=>?_,λi j af G li I e=>?_,λi j af G li I N e=>?_,λi af li=>?_,M,λq L=>(a6 q L).1,λi af li q L=>?_⟩
 ·obtain⟨B,C,D,E⟩:=id i af li
  obtain⟨cW,d1,fk,J⟩:=id j G I
  exact H.aa i j B cW C d1 (by rw[<-D,<-fk];exact e)
 ·obtain⟨B,C,D,E⟩:=id i af li
  obtain⟨cW,d1,fk,J⟩:=id j G I
  exact H.dp i j B cW C d1 (by rw[<-E,<-J];exact e)
 ·obtain⟨B,C,D,E⟩:=id i af li
  obtain⟨cW,d1,fk,J⟩:=id j G I
  exact H.cG i j B cW C d1 N (by rw[<-D,<-J];exact e)
 ·obtain⟨B,C,D,E⟩:=id i af li
  rw[D,E]
  exact mem i B C af li
 ·obtain⟨B,C,D,E⟩:=id i af li
  rw[D,E]
  exact(a6 q L).2 i af li
def jI {ar:Prop} {l a2:List (Nat×V)} {g:Nat×V} (h:iV l (g::a2)=true) (B:∀v A,l=(g.1,v)::A->iV A a2=true->ar):ar:=by
 cases l with
 |nil=>exact nomatch (show false=true from h)
 |cons a l=>
  obtain⟨ae,ag⟩:=an (show aN (aU a.1 g.1) (iV l a2)=true from h)
  have e:=b3 ae
  exact B a.2 l (by rw[<-e]) ag
def vr {l:List (Nat×V)} (h:iV l []=true):l=[]:=by
 cases l with
 |nil=>rfl
 |cons a l=>exact nomatch (show false=true from h)
def RE:∀{a2 l:List (Nat×V)} {es:List cu},iV l a2=true->(∀f∈a2,f.2=ea)->cm w p l es->cm w fX a2 es:=by
 intro a2
 induction a2 with
 |nil=>
  intro l es h _ r
  rw[vr h]at r;cases r;exact .nil
 |cons g a2 B=>
  intro l es h A r
  obtain⟨v,C,rfl,av⟩:=jI h,h
  cases r with
  |cons r t=>exact .cons ⟨r.1,by rw[A g (.head _)];exact oM r.2⟩ (B av (λf ah=>A f (.tail _ ah)) t)
def vs {ar:Prop} {C:Nat} {ao:List (Nat×V)} {es:List cu} (h:qC C ao=true) (r:cm w p ao es) (A:C=249->∀m,cm w fX (jE (.int m)) es->ar):ar:=by
 obtain⟨ae,h⟩:=an h
 obtain⟨ag,ax⟩:=an h
 obtain⟨v,l,rfl,aS⟩:=jI ag
 clear ag
 obtain⟨m,rfl,_⟩:=eD' (v:=v) (k:=λZ=>true) ax
 refine A (b3 ae) m (?_)
 clear A
 cases r with
 |cons r t=>exact .cons ⟨r.1,r.2⟩ (RE aS (λf ah=>by
   have:∀{l:List (Nat×V)},(l.all λf=>mH f.2 λk t=>aN (aU k 9) (cF.rec (motive:=λZ=>Bool) true (λZ=>false) (λZ=>false) (λZ=>false) (λZ=>false) false (λZ Z=>false) (λZ Z Z Z=>false) (λZ Z Z=>false) t))=true->∀f∈l,f.2=ea:=λh f ah=>by
    have:=eU.mp h f ah
    obtain⟨k,t,e,bA⟩:=vc' this
    obtain⟨cw,cM⟩:=an bA
    rw[e,b3 cw]
    clear e
    cases t<;>first|rfl|cases cM
   exact this (by kernel_rfl) f ah) t)
def y8 {aj l:bc} {C:Nat} {ao gs:List (Nat×V)} (A:∀q∈aj,q.1=p.a i∨q.1=p.b i->q∈l) (h:ch K w p aj i (.inst C ao)) (k:∀es,cm w p ao es->cm w fX gs es):h3 w l (p.a i) C gs:=by
 obtain⟨_,ae,es,n,ag,ax⟩:=h
 exact⟨_,es,n,A _ ae (.inl rfl),A _ ag (.inr rfl),k es ax⟩
def RF (m:Int) (K:aY):c7 cg Rz 302 [.own 0 (key 0),.own 0 (key 0)] (sl (.rinst 249 (jE (.int m)))) K b1=K (.bool (Int.dt m m)) (sl (.rinst 249 (jE (.int m)))):=by kernel_rfl
def F8 (v:V):((jE v).all λf=>dG (nt f.1) 249)=true:=by kernel_rfl
def F9 (h:Std c) (Q:c.n.r=cP c.w) {loc:Loc} {k:aY} {xs:List V} {G:List am} (ah:aZ c f) (cD:f.d<=220) (R:sv xs ab k=true) (S:ba c f p ab loc s) (D:All2 (aE p) xs G):
  dH (aR c.prog c.w) f.A (.call (.ref 302) ⟨G,[]⟩) (f2 (cb c f p loc k) E) s:=by
 obtain⟨a,b,cL,cr⟩:=oG' R
 subst cL
 obtain⟨i,fG,U,cx⟩:=cJ' cr
 obtain⟨j,aG,W,dI⟩:=cJ' cx
 subst U W
 obtain⟨I,X⟩:=an dI
 obtain rfl:=b3 I,I
 obtain⟨C,ao,g,d5⟩:=pF' X
 obtain⟨hm,Y⟩:=an d5
 have l:p.n.r=cP c.w:=by rw[S.n];exact Q
 cases D with|cons u D=>cases D with|cons ae D=>cases D with|nil=>
 obtain⟨af,rfl,rfl⟩:=u
 obtain⟨_,_,rfl⟩:=ae
 obtain⟨m,aj,F,ak,H,ag⟩:=S.ex
 have J:=H.wp af g
 clear g
 have ai:=J
 clear J
 obtain⟨⟨al,ap⟩,ar,es,as,au,av⟩:=ai
 clear al ap
 obtain⟨rfl,mi,aw⟩:=vs hm av,hm
 have ax:aQ c.K c.w ⟨p.n,p.y,0,λZ=>0,λZ=>0,λZ=>0,aj⟩ .nil aj:=⟨H.a_,(λi o q=>absurd q (iD _)),(λi j q=>absurd q (iD _)),(λi j q=>absurd q (iD _)),(λi j q=>absurd q (iD _)),(λi q=>absurd q (iD _)),hL _,λq B=>B,(λi q=>absurd q (iD _))⟩
 have ay:∀q:aX,q.n=p.n->cm c.w q (jE (.int mi)) es:=λq B=>by
  have L:q.n.r=cP c.w:=by rw[B];exact l
  have a:∀x,nF fX q (x,ea) (x,ea):=λx=>⟨rfl,λv h=>sp L ⟨rfl,rfl⟩ h⟩
  exact vf (.cons (qv L trivial) (.cons (a _) (.cons (a _) (.cons (a _) (.cons (a _) (.cons (a _) (.cons (a _) (.cons (a _) (.cons (a _) (.cons (a _) (.cons (a _) (.cons (a _) (.cons (a _) (.cons (a _) (.cons (a _) (.cons (a _) (.cons (a _) .nil))))))))))))))))) aw
 have cX:=aQ.va (x:=p.a i) (y:=p.b i) (v:=.rinst 249 (jE (.int mi))) ax (by show 0<4096;lia) rfl ⟨⟨(sm h.K).2.2.2,lF h.K (F8 _)⟩,ar,es,as,au,ay _ rfl⟩
 have az:aQ c.K c.w (aX.da ⟨p.n,p.y,0,λZ=>0,λZ=>0,λZ=>0,aj⟩ (p.a i) (p.b i) 0) (sl (.rinst 249 (jE (.int mi)))).t aj:=by show aQ c.K c.w _ (T.put _ (key 0) .nil) aj;exact cX
 have M:aE (aX.da ⟨p.n,p.y,0,λZ=>0,λZ=>0,λZ=>0,aj⟩ (p.a i) (p.b i) 0) (.own 0 (key 0)) (.ref (p.a i)):=⟨by show 0<1;lia,rfl,rfl⟩
 refine hp (u_ (E:=E) h.a0 (d:=220) (by lia) (j6 h.a0 (j_ h.a0) 2 230 (by lia)) ah cD ((RF mi _).trans (fA (P:=λv Z=>v=.bool true) (by rw[Int.ky];simp))) F ak az ⟨rfl,rfl⟩ S.gens S.os S.n S.y ((b6 c 849).no _ _ _) (.cons M (.cons M .nil))) λr aq z=>?_
 rcases r with e|(_|_|_|v)
 ·exact z
 ·exact z
 ·exact z
 ·exact z
 ·obtain⟨⟨aH,aI,aD,aF,w,a3,e1,rw1,aJ,aL,aA,aB,N,aM,O⟩,gs,os⟩:=z
  obtain rfl:=mz O,O
  have hs:∀q∈aj,q∈a3:=λq B=>N.a6 q (e1.a6 q B)
  have aC:aQ c.K c.w p ab.t a3:=⟨N.a_,λi o af k8=>ch.ext (.refl p) af (λq B Z=>hs q B) (H.ent i o af k8),H.aa,H.dp,H.cG,λi af li=>let⟨⟨o,aK⟩,bC,aW⟩:=H.mem i af li;⟨⟨o,hs _ aK⟩,bC,hs _ aW⟩,H.small,λq B=>hs _ (H.a6 q B),H.eB⟩
  exact⟨p,ab,V.bool true,aX.bN.refl p,rw1,⟨⟨m,a3,aA,aB,aC,ag⟩,gs,os,S.z,S.n,S.y⟩,Y⟩
def RG (v1 v2 B C D E A:V):lk [(3845838664563,v1),(30318261107,v2),(3567722918644,B),(1850479,C),(3570160038767,D),(28667656181,E),(247053557,A)] 247053557=some A:=by kernel_rfl
def RH (v1 v2 B C D E A:V):lk [(3845838664563,v1),(30318261107,v2),(3567722918644,B),(1850479,C),(3570160038767,D),(28667656181,E),(28701210484,A)] 28701210484=some A:=by kernel_rfl
def RI (v1 v2 D E F G A B C:V):(lk [(3845838664563,v1),(30318261107,v2),(3567722918644,D),(1850479,E),(3570160038767,F),(28667656181,G),(27873049205,A),(230210165,B),(236745583,C)] 27873049205,lk [(3845838664563,v1),(30318261107,v2),(3567722918644,D),(1850479,E),(3570160038767,F),(28667656181,G),(27873049205,A),(230210165,B),(236745583,C)] 230210165,lk [(3845838664563,v1),(30318261107,v2),(3567722918644,D),(1850479,E),(3570160038767,F),(28667656181,G),(27873049205,A),(230210165,B),(236745583,C)] 236745583)=(some A,some B,some C):=by kernel_rfl
def y9 {ar:Prop} {l r:List (Nat×V)} (h:iV l (oK r)=true) (F:∀v1 v2 A B C D E,l=(3845838664563,v1)::(30318261107,v2)::(3567722918644,A)::(1850479,B)::(3570160038767,C)::(28667656181,D)::E->iV E r=true->ar):ar:=by
 obtain⟨v1,l1,rfl,ae⟩:=jI (g:=(3845838664563,ea)) h
 clear h
 obtain⟨v2,l2,rfl,ag⟩:=jI ae
 clear ae
 obtain⟨A,l3,rfl,ax⟩:=jI ag
 clear ag
 obtain⟨B,l4,rfl,aS⟩:=jI ax
 clear ax
 obtain⟨C,l5,rfl,bA⟩:=jI aS
 clear aS
 obtain⟨D,l6,rfl,cw⟩:=jI bA,bA
 exact F _ _ _ _ _ _ l6 rfl cw
def y_ {v1 v2 G H I J:V} {l r:List (Nat×V)} (k:∀es,cm w p l es->cm w fX r es) {es:List cu} (h:cm w p ((3845838664563,v1)::(30318261107,v2)::(3567722918644,G)::(1850479,H)::(3570160038767,I)::(28667656181,J)::l) es):cm w fX (oK r) es:=by
 cases h with|cons A h=>cases h with|cons B h=>cases h with|cons C h=>cases h with|cons D h=>cases h with|cons E h=>cases h with|cons F h=>
 exact .cons ⟨A.1,oM A.2⟩ (.cons ⟨B.1,oM B.2⟩ (.cons ⟨C.1,oM C.2⟩ (.cons ⟨D.1,oM D.2⟩ (.cons ⟨E.1,oM E.2⟩ (.cons ⟨F.1,oM F.2⟩ (k _ h))))))
section
variable {aj l:bc}
def F_ {c:Nat} (h:sw c=true):(aU c 98||Nat.beq c 99)=true:=by
 replace h:bk (motive:=λZ=>Bool) (aU c 99) true (aU c 98)=true:=h
 cases e:aU c 98 with
 |true=>rfl
 |false=>rw[e]at h;exact h
def RJ (A:p.n.r=cP w) (B:∀q∈p.a6,q∈l) {k:Nat} {t:cF} {v:am} (C:j<=2) (ae:4<=k) (ag:k+1<=4+j) (r:aE p (.any k t) v):∃bZ,hJ w l bZ v/\gc bZ+1<=j/\eS bZ=true:=by
 obtain⟨⟨l1,D,q⟩,_,_⟩:=r
 rw[A]at q
 have cw:k<=6:=c5 (zK ag) (c5 (Nat.sub_le_sub_right (lL C 4) 1) (nle rfl))
 rcases q with⟨q,_⟩|⟨q,_⟩|⟨_,_,bZ,aK,aW,bH⟩|q|q|⟨q,_⟩
 ·exact absurd (c5 ae q) (by decide)
 ·exact absurd (c5 ae (gz q)) (by decide)
 ·exact⟨bZ,aK.mono λx E=>B x (D x E),by lia,bH⟩
 all_goals exact absurd (q▸cw) (by decide)
def RK (B:p.n.r=cP w) (C:∀q∈p.a6,q∈l) (D:j<=2) {xs:List V} {ai:List am} (h:subB j xs=true) (r:All2 (aE p) xs ai):(∀v∈ai,∃t,hJ w l t v/\gc t+1<=j/\eS t=true)/\ai.length<=2:=by
 obtain⟨ae,ag⟩:=an h
 refine⟨?_,by rw[<-r.len];exact ce ae⟩
 try clear h
 try clear ae
 induction r with
 |nil=>exactλZ q=>nomatch q
 |cons a t E=>
  obtain⟨ax,aS⟩:=an (show aN (mH _ λk Z=>aN (b2 4 k) (b2 (bS k) (bK 4 j))) _=true from ag)
  clear ag
  obtain⟨k,t0,rfl,bA⟩:=vc' ax
  obtain⟨cw,cM⟩:=an bA
  intro v A
  rcases bJ.mp A with rfl|A
  ·exact RJ B C D (ce cw) (ce cM) a
  ·exact E aS v A
def RL (H:aQ K w p ab.t aj) (T:p.n.r=cP w) (U:∀q∈p.a6,q∈l) (O:∀i,8<=i->i<p.ay->bG ab.t i->∀q∈aj,q.1=p.a i∨q.1=p.b i->q∈l) (V:j<=2) {val:am} (h:y3 j v ab=true) (r:aE p v val):∃t,hJ w l t val/\gc t<=j/\eS t=true:=by
 cases v with
 |none=>exact⟨cF.eJ,sq (p:=p) trivial r,hL _,rfl⟩
 |bool b=>exact⟨cF.h_ b,sq (p:=p) trivial r,hL _,rfl⟩
 |int n=>exact⟨cF.num n,sq (p:=p) trivial r,hL _,rfl⟩
 |sym _=>cases h
 |str n=>exact⟨cF.sym n,sq (p:=p) trivial r,hL _,F_ h⟩
 |gnd _=>cases h
 |any _ _=>cases h
 |own i aB=>
  obtain⟨af,rfl,rfl⟩:=r
  obtain⟨dg,h⟩:=an (show aN (b2 8 i) (mh ab (key i) (F6 j ab))=true from h)
  have dg:8<=i:=ce dg
  obtain⟨C,ao,g,h⟩:=q_' h
  have E:=H.ent i _ af g
  have G:=O i dg af ⟨_,g,rfl⟩
  clear g
  replace h:bk (motive:=λZ=>Bool) (bk (motive:=λZ=>Bool) (bk (motive:=λZ=>Bool) false
   (aN (b2 1 j) (aN (iV ao (nE .none .none .none)) (kW ao 27873049205 λa=>vInt a λZ=>kW ao 230210165 λb=>vInt b λZ=>kW ao 236745583 λo=>vBool o λZ=>true))) (aU C 161))
   (aN (b2 1 j) (aN (iV ao (gO .none)) (kW ao 28701210484 λv=>cz v λi aB=>aN (b2 8 i) (fv (bn ab aB) (subB j))))) (aU C 103))
   (aN (iV ao (lE .none)) (kW ao 247053557 λv=>vStr v sw)) (aU C 83)=true:=h
  cases e1:aU C 83 with
  |true=>
   rw[e1]at h
   obtain rfl:=b3 e1,e1
   obtain⟨ae,ag⟩:=an h
   obtain⟨v1,v2,I,J,L,M,l1,rfl,ax⟩:=y9 ae
   clear ae
   obtain⟨D,l2,rfl,aS⟩:=jI ax
   clear ax
   obtain rfl:=vr aS,aS
   obtain⟨u,aK,aW⟩:=f5' ag
   rw[RG]at aK
   cases aK
   obtain⟨n,rfl,iO⟩:=jR' (v:=D) (k:=sw) aW
   exact⟨cF.gi n,⟨_,rfl,y8 G E λes r=>y_ (λes r=>by cases r with|cons a t=>cases t;exact .cons ⟨a.1,a.2⟩ .nil) r⟩,hL _,F_ iO⟩
  |false=>
   rw[e1]at h
   clear e1
   cases e2:aU C 103 with
   |true=>
    rw[e2]at h
    obtain rfl:=b3 e2,e2
    obtain⟨B,h⟩:=an h
    have B:1<=j:=ce B
    obtain⟨ae,ag⟩:=an h
    obtain⟨v1,v2,I,J,L,M,l1,rfl,ax⟩:=y9 ae
    clear ae
    obtain⟨D,l2,rfl,aS⟩:=jI ax
    clear ax
    obtain rfl:=vr aS,aS
    obtain⟨u,aK,aW⟩:=f5' ag
    rw[RH]at aK
    cases aK
    obtain⟨x,au,rfl,bH⟩:=cJ' (v:=D) aW
    obtain⟨cV,eI⟩:=an bH
    have cV:8<=x:=ce cV
    obtain⟨xs,gD,j3⟩:=gn' eI
    have f7:=E
    obtain⟨_,_,c,_,_,rf⟩:=f7
    clear ae
    have F:x<p.ay/\au=key x:=by
     cases rf with|cons e h=>cases h with|cons f h=>cases h with|cons m h=>cases h with|cons s h=>cases h with|cons y h=>cases h with|cons aa h=>cases h with|cons P h=>exact⟨P.2.1,P.2.2.1⟩
    clear rf
    obtain⟨F,rfl⟩:=F
    dsimp only[bP]at gD
    obtain⟨ai,n,A,W⟩:=H.ent x _ F gD
    have A:=O x cV F ⟨_,gD,rfl⟩ _ A (.inl rfl)
    have fQ:h3 w l (p.a i) 103 (gO (.gnd (p.a x))):=y8 G E λes r=>y_ (λes r=>by cases r with|cons a t=>cases t;exact .cons ⟨a.1,a.2.2.2⟩ .nil) r
    obtain⟨s1,a5⟩:=RK T U V j3 W
    match ai,s1,a5,A with
    |[],_,_,A=>exact⟨.ft,⟨_,_,_,rfl,fQ,A⟩,B,rfl⟩
    |[a],s1,_,A=>
     obtain⟨t,t1,b8,fg⟩:=s1 a (.head _)
     exact⟨.l1 t,⟨_,_,_,_,rfl,fQ,A,t1⟩,b8,fg⟩
    |[a,b],s1,_,A=>
     obtain⟨t,t1,b8,fg⟩:=s1 a (.head _)
     obtain⟨u,X,ah,Y⟩:=s1 b (.tail _ (.head _))
     exact⟨.l2 t u,⟨_,_,_,_,_,rfl,fQ,A,t1,X⟩,by show max (gc t) (gc u)+1<=j;lia,by show(eS t&&eS u)=true;rw[fg,Y];rfl⟩
    |_::_::_::_,_,a5,_=>exact absurd a5 (by simp)
   |false=>
    rw[e2]at h
    clear e2
    cases e3:aU C 161 with
    |false=>rw[e3]at h;cases h
    |true=>
     rw[e3]at h
     obtain rfl:=b3 e3,e3
     obtain⟨B,h⟩:=an h
     have B:1<=j:=ce B
     obtain⟨ae,ag⟩:=an h
     obtain⟨v1,v2,I,J,L,M,l1,rfl,ax⟩:=y9 ae
     clear ae
     obtain⟨D,l2,rfl,aS⟩:=jI ax
     clear ax
     obtain⟨Q,l3,rfl,bA⟩:=jI aS
     clear aS
     obtain⟨R,l4,rfl,cw⟩:=jI bA
     clear bA
     obtain rfl:=vr cw,cw
     have N:=RI v1 v2 I J L M D Q R
     injection N with uS N
     injection N with uT S
     obtain⟨u,aK,aW⟩:=f5' ag
     rw[uS]at aK
     clear uS
     cases aK
     obtain⟨a,rfl,bH⟩:=eD' (v:=D) aW
     obtain⟨u,aK,cV⟩:=f5' bH
     rw[uT]at aK
     clear uT
     cases aK
     obtain⟨b,rfl,eI⟩:=eD' (v:=Q) cV
     obtain⟨u,aK,gD⟩:=f5' eI
     rw[S]at aK
     clear S
     cases aK
     obtain⟨o,rfl,_⟩:=pT' (v:=R) (k:=λZ=>true) gD
     exact⟨cF.rng a b o,⟨_,rfl,y8 G E λes r=>y_ (λes r=>by cases r with|cons a t=>cases t with|cons b t=>cases t with|cons d t=>cases t;exact .cons ⟨a.1,a.2⟩ (.cons ⟨b.1,b.2⟩ (.cons ⟨d.1,d.2⟩ .nil))) r⟩,B,rfl⟩
end
def za' {ar:Prop} {o:Option O} {k:Bool} (h:qE o k=true) (A:o=some (.dict 0 [])->k=true->ar):ar:=by
 obtain⟨az,es,e,ae⟩:=lj' h
 obtain⟨ag,ax⟩:=an ae
 rw[b3 ag]at e
 cases es with
 |nil=>exact A e ax
 |cons _ _=>cases ax
def vt' {g k:List Nat->Bool}:∀{l:List (List Nat)},qD g k l=true->∃q∈l,g q=true/\k q=true
 |[],h=>nomatch (show false=true from h)
 |a::l,h=>by
  replace h:bk (motive:=λZ=>Bool) (qD g k l) (k a) (g a)=true:=h
  cases e:g a with
  |true=>rw[e]at h;exact⟨a,.head _,e,h⟩
  |false=>rw[e]at h;obtain⟨q,ae,ag⟩:=vt' h;exact⟨q,.tail _ ae,ag⟩
def Ga {q:List Nat} {k:List Nat->Bool}:∀{l:List (List Nat)},y0 q k l=true->∀A∈l,oQ q A=true->k A=true
 |a::l,h,A,hm,c0=>by
  obtain⟨ae,ag⟩:=an (show aN (bk (motive:=λZ=>Bool) true (k a) (oQ q a)) (y0 q k l)=true from h)
  clear h
  rcases bJ.mp hm with rfl|hm
  ·rw[c0]at ae;exact ae
  ·exact Ga ag A hm c0
def zb {q:aX} {lv:Bool} (B:q.n.r=cP w) (af:∀v val,su ab lv v=true->aE p v val->aE q dV val):∀{l:List Nat} {es:List (Nat×V)} {A:List cu},kX ab lv l es=true->cm w p es A->cm w q (jG dV l) A:=by
 intro l
 induction l with
 |nil=>
  intro k es h r
  cases k with
  |nil=>cases r;exact .nil
  |cons _ _=>cases(show false=true from h)
 |cons n l C=>
  intro k es h r
  cases k with
  |nil=>cases(show false=true from h)
  |cons b es=>
  cases r with
  |cons r t=>
  obtain⟨ae,h⟩:=an (show aN (aU b.1 n) (aN (yZ ab lv n b.2) (kX ab lv l es))=true from h)
  obtain⟨ag,ax⟩:=an h
  have e:=b3 ae
  refine .cons ⟨by show n8 n _/\_;rw[<-e];exact r.1,?_⟩ (C ax t)
  show aE q (bk (motive:=λZ=>V) qB dV (aU n eb)) _
  replace ag:bk (motive:=λZ=>Bool) (ss b.2) (su ab lv b.2) (aU n eb)=true:=ag
  cases e1:aU n eb with
  |true=>rw[e1]at ag;exact af _ _ ag r.2
  |false=>
   rw[e1]at ag
   obtain⟨x,ex⟩:=y5 ag r.2
   rw[ex]
   exact y6 B .eJ
def vu {lv:Bool}:∀{l:List Nat} {es:List (Nat×V)},kX ab lv l es=true->es.map (·.1)=l
 |[],[],_=>rfl
 |[],_::_,h=>nomatch (show false=true from h)
 |_::_,[],h=>nomatch (show false=true from h)
 |n::l,b::es,h=>by
  obtain⟨ae,h⟩:=an (show aN (aU b.1 n) (aN (yZ ab lv n b.2) (kX ab lv l es))=true from h)
  obtain⟨ag,ax⟩:=an h
  show b.1::_=n::l
  rw[b3 ae,vu ax]
def vv (X:V):∀l,(jG X l).map (·.1)=l
 |[]=>rfl
 |n::l=>congrArg (n::·) (vv X l)
def Gb:∀{l k:List (Nat×V)},iU l k=true->l.map (·.1)=k.map (·.1)
 |[],[],_=>rfl
 |[],_::_,h=>nomatch (show false=true from h)
 |_::_,[],h=>nomatch (show false=true from h)
 |a::l,b::k,h=>by
  obtain⟨ae,h⟩:=an (show aN (aU a.1 b.1) (aN (vl a.2 b.2) (iU l k))=true from h)
  obtain⟨ag,ax⟩:=an h
  show a.1::_=b.1::_
  rw[b3 ae,Gb ax]
section
variable {q:aX} {aj l:bc}
def Gc (H:aQ K w p ab.t aj) (B:p.n.r=cP w) (A:q.n.r=cP w) (ah:∀e∈p.a6,e∈q.a6) (v:V) (val:am) (h:su ab false v=true) (r:aE p v val):aE q dV val:=by
 cases v with
 |own i aB=>
  obtain⟨af,rfl,rfl⟩:=r
  obtain⟨C,ao,g,hm⟩:=Ry' (show vm ab (key i) qC=true from h)
  obtain⟨_,ae,es,n,ag,ax⟩:=H.ent i _ af g
  clear g
  obtain⟨rfl,m,aS⟩:=vs hm ax,hm
  exact qG A (l:=p.a6) ah ⟨_,es,n,ae,ag,aS⟩ .eJ
 |any k t=>
  obtain rfl:=b3 (show aU k 12=true from h),h
  obtain⟨l1,a,m,D,rfl,aK⟩:=vo B r,r
  exact qG A (λe he=>ah e (D e he)) aK .eJ
 |_=>cases h
def RM (H:aQ K w p ab.t aj) (D:p.n.r=cP w) (B:q.n.r=cP w) (ah:∀e∈p.a6,e∈q.a6) (F:∀i,8<=i->i<p.ay->bG ab.t i->∀e∈aj,e.1=p.a i∨e.1=p.b i->e∈q.a6) (v:V) (val:am) (h:su ab true v=true) (r:aE p v val):aE q dV val:=by
 cases v with
 |own i aB=>
  obtain⟨af,rfl,rfl⟩:=r
  obtain⟨dg,ik⟩:=an (show aN (b2 8 i) (m7 ab (key i) qC)=true from h)
  have dg:8<=i:=ce dg
  obtain⟨C,ao,g,hm⟩:=pF' ik
  rcases g with g|g
  ·have E:=H.ent i _ af g
   have f7:=E
   clear E
   obtain⟨_,ae,es,n,ag,ax⟩:=f7
   obtain⟨rfl,m,aS⟩:=vs hm ax,hm
   have A:=F i dg af ⟨_,g,rfl⟩
   exact qG B (l:=q.a6) (λe he=>he) ⟨_,es,n,A _ ae (.inl rfl),A _ ag (.inr rfl),aS⟩ .eJ
  ·obtain⟨_,ae,es,n,ag,ax⟩:=H.ent i _ af g
   clear g
   obtain⟨rfl,m,aS⟩:=vs hm ax,hm
   exact qG B (l:=p.a6) ah ⟨_,es,n,ae,ag,aS⟩ .eJ
 |any k t=>
  obtain rfl:=b3 (show aU k 12=true from h),h
  obtain⟨l1,a,m,A,rfl,aK⟩:=vo D r,r
  exact qG B (λe he=>ah e (A e he)) aK .eJ
 |_=>cases h
end
def sz (ju:V) (li:Int):((dO ju li).all λf=>dG (nt f.1) 1151)=true:=by kernel_rfl
def RN:(hj.all λq=>qH (ix iw q))=true:=by kernel_rfl
def aQ.low {t:T} {aj:bc} {m:Nat} {c4:Nat->Prop} (H:aQ K w p t aj) (af:i<p.ay) (li:bG t i) (D:i<m/\c4 i) {q:a7×bY} (E:q∈aj) (F:q.1=p.a i∨q.1=p.b i):q∈gN p t m c4 aj:=by
 refine nD.mpr ⟨E,λG=>?_⟩
 obtain⟨j,A,B,I,z⟩:=G
 have C:i≠j:=λe=>I (e▸D)
 rcases F with a|a<;>rcases z with z|z
 ·exact C (H.aa i j af A li B (a.symm.trans z))
 ·exact H.cG i j af A li B C (a.symm.trans z)
 ·exact H.cG j i A af B li (λq=>C q.symm) (z.symm.trans a)
 ·exact C (H.dp i j af A li B (a.symm.trans z))
def aQ.Gd {t:T} {aj:bc} {m:Nat} {c4:Nat->Prop} (H:aQ K w p t aj) {q:a7×bY} (A:q∈p.a6):q∈gN p t m c4 aj:=
 nD.mpr ⟨H.a6 q A,λB=>by
  obtain⟨j,C,D,_,z⟩:=B
  have:=H.eB j C D q A
  rcases z with z|z
  ·exact this.1 z
  ·exact this.2 z⟩
def gP (i:Nat):Prop:=i=0∨i=1∨i=2∨i=3∨i=5
def fg (a4:Nat) (q:List Nat):T:=(ke [.box a4,.dict 0 [],.inst 1151 (dO dW 8),.dict 0 [],.dead,fE dV q,.dead,.dead]).t
def Ge (q:List Nat) (n m:Int):((((jH q n m).t.get (key 0),(jH q n m).t.get (key 1)),((jH q n m).t.get (key 2),(jH q n m).t.get (key 3))),(((jH q n m).t.get (key 4),(jH q n m).t.get (key 5)),((jH q n m).t.get (key 6),(jH q n m).t.get (key 7))),(jH q n m).t.get (key 8))=
  (((some (.box 0),some (.dict 0 [])),(some (.inst 1151 (dO (.int n) 8)),some (.dict 0 []))),((some .dead,some (fE (.own 8 (key 8)) q)),(some .dead,some .dead)),some (qF q m)):=by kernel_rfl
def zc (a4:Nat) (q:List Nat):((((fg a4 q).get (key 0),(fg a4 q).get (key 1)),((fg a4 q).get (key 2),(fg a4 q).get (key 3))),(((fg a4 q).get (key 4),(fg a4 q).get (key 5)),((fg a4 q).get (key 6),(fg a4 q).get (key 7))))=
  (((some (.box a4),some (.dict 0 [])),(some (.inst 1151 (dO dW 8)),some (.dict 0 []))),((some .dead,some (fE dV q)),(some .dead,some .dead))):=by kernel_rfl
def sA (h:i<9):i=0∨i=1∨i=2∨i=3∨i=4∨i=5∨i=6∨i=7∨i=8:=by lia
def RO (q:List Nat) (m:Int):(qF q m).live=false:=by unfold qF;cases dG q eb<;>rfl
def vw {q:List Nat} {n m:Int} (af:i<9) (l:bG (jH q n m).t i):gP i:=by
 have g:=Ge q n m
 injection g with g bq
 injection bq with bq A
 injection bq with B C
 injection B with D dY
 injection C with E F
 obtain⟨o,ae,ag⟩:=l
 rcases sA af,af with rfl|rfl|rfl|rfl|rfl|rfl|rfl|rfl|rfl
 ·exact .inl rfl
 ·exact .inr (.inl rfl)
 ·exact .inr (.inr (.inl rfl))
 ·exact .inr (.inr (.inr (.inl rfl)))
 ·rw[D]at ae;cases ae;cases ag
 ·exact .inr (.inr (.inr (.inr rfl)))
 ·rw[E]at ae;cases ae;cases ag
 ·rw[F]at ae;cases ae;cases ag
 ·rw[A]at ae;cases ae;rw[RO]at ag;cases ag
def zd {a4:Nat} {q:List Nat} (af:i<8) (l:bG (fg a4 q) i):gP i:=by
 have g:=zc a4 q
 injection g with g bq
 injection bq with A B
 injection A with C dY
 injection B with D E
 obtain⟨o,ae,ag⟩:=l
 rcases sA (nM af)with rfl|rfl|rfl|rfl|rfl|rfl|rfl|rfl|rfl
 ·exact .inl rfl
 ·exact .inr (.inl rfl)
 ·exact .inr (.inr (.inl rfl))
 ·exact .inr (.inr (.inr (.inl rfl)))
 ·rw[C]at ae;cases ae;cases ag
 ·exact .inr (.inr (.inr (.inr rfl)))
 ·rw[D]at ae;cases ae;cases ag
 ·rw[E]at ae;cases ae;cases ag
 ·lia
structure oS (t:T) (a4:Nat) (ao:List (Nat×V)) (az:Nat) (es:List (Nat×V)):Prop where
 fK:t.get (key 0)=some (.box a4)
 g1:t.get (key 1)=some (.dict 0 [])
 g2:t.get (key 2)=some (.inst 1151 ao)
 g3:t.get (key 3)=some (.dict 0 [])
 dY:t.get (key 5)=some (.dict az es)
def oS.live {t:T} {a4:Nat} {ao:List (Nat×V)} {az:Nat} {es:List (Nat×V)} (h:oS t a4 ao az es) (af:gP i):bG t i:=by
 rcases af with rfl|rfl|rfl|rfl|rfl
 ·exact⟨_,h.fK,rfl⟩
 ·exact⟨_,h.g1,rfl⟩
 ·exact⟨_,h.g2,rfl⟩
 ·exact⟨_,h.g3,rfl⟩
 ·exact⟨_,h.dY,rfl⟩
def ze {ar:Prop} {q:aX} {t:T} {aj a3:bc} {a4 kU:Nat} {ao:List (Nat×V)} {az:Nat} {es:List (Nat×V)} (H:aQ K w p t aj) (h:oS t a4 ao az es) (dg:8<=p.ay) (D:∀i,i<8->q.a i=p.a i/\q.b i=p.b i/\q.e i=p.e i) (hm:∀i,gP i->∀z∈aj,z.1=p.a i∨z.1=p.b i->z∈a3)
  (I:p.y+a4<=q.y+kU) (E:ch K w q a3 0 (.box kU)->ch K w q a3 1 (.dict 0 [])->ch K w q a3 3 (.dict 0 [])->ar):ar:=by
 have A:∀i,i<8->gP i->∀{o:bY},(p.a i,o)∈aj->(q.a i,o)∈a3:=λi af B o F=>by rw[(D i af).1];exact hm i B _ F (.inl rfl)
 have bp:∀i,i<8->gP i->t.get (key i)=some (.dict 0 [])->ch K w q a3 i (.dict 0 []):=λi af B g=>by
  obtain⟨a_,J,C,G⟩:=H.ent i _ (by lia) g
  cases G
  exact⟨a_,[],by rw[(D i af).2.2];exact A i af B C,All2.nil⟩
 refine E (?_) (bp 1 (by lia) (.inr (.inl rfl)) h.g1) (bp 3 (by lia) (.inr (.inr (.inr (.inl rfl)))) h.g3)
 obtain⟨x,y,fU,ty,n,C,aK,aW⟩:=H.ent 0 _ (by lia) h.fK
 exact⟨x,y,fU,ty,n,A 0 (by lia) (.inl rfl) C,aK,by lia⟩
def zf {ar:Prop} {q:aX} {t:T} {aj a3:bc} {ao:List (Nat×V)} (H:aQ K w p t aj) (g2:t.get (key 2)=some (.inst 1151 ao)) (dg:8<=p.ay) (B:q.a 2=p.a 2/\q.b 2=p.b 2) (hm:∀i,gP i->∀z∈aj,z.1=p.a i∨z.1=p.b i->z∈a3) (C:∀A,cm w p ao A->(∀gs,(∀f∈gs,jO K 1151 f.1)->cm w q gs A->ch K w q a3 2 (.inst 1151 gs))->ar):ar:=by
 obtain⟨⟨bx,_⟩,D,A,n,E,r⟩:=H.ent 2 _ (by lia) g2
 refine C A r (λgs ah F=>⟨⟨bx,ah⟩,?_,A,n,?_,F⟩)
 ·rw[B.1,B.2];exact hm 2 (.inr (.inr (.inl rfl))) _ D (.inl rfl)
 ·rw[B.2];exact hm 2 (.inr (.inr (.inl rfl))) _ E (.inr rfl)
def Gf {ar:Prop} {q:aX} {t:T} {aj a3:bc} {az:Nat} {es:List (Nat×V)} (H:aQ K w p t aj) (dY:t.get (key 5)=some (.dict az es)) (dg:8<=p.ay) (A:q.a 5=p.a 5/\q.e 5=p.e 5) (hm:∀i,gP i->∀z∈aj,z.1=p.a i∨z.1=p.b i->z∈a3) (D:∀B,cm w p es B->(∀hs,hs.map (·.1)=es.map (·.1)->cm w q hs B->ch K w q a3 5 (.dict az hs))->ar):ar:=by
 obtain⟨a_,C,E,F⟩:=H.ent 5 _ (by lia) dY
 refine D C F (λhs G I=>⟨by rw[G];exact a_,C,?_,I⟩)
 rw[A.1,A.2];exact hm 5 (.inr (.inr (.inr (.inr rfl)))) _ E (.inl rfl)
abbrev b4.dM (c:b4) (y:Int):b4:={c with y:=y}
def aZ.dM (ah:aZ c f) {y:Int} (A:y<=1000):aZ (c.dM y) f:=
 ⟨ah.X,ah.T,ah.iH,ah.depth,ah.units,ah.eC,ah.dp,ah.cj,ah.em,ah.kind,ah.locals,ah.globals,ah.builtins,ah.iI,ah.iJ,ah.lc,A,ah.me⟩
def Std.dM (h:Std c) (y:Int):Std (c.dM y):=⟨h.K,h.jt⟩
def zg' {ar:Prop} {g:Bool} (h:y1 ab g=true) (B:∀ao,bn ab (key 2)=some (.inst 1151 ao)->iU ao (dO dW 8)=true->bn ab (key 1)=some (.dict 0 [])->bn ab (key 3)=some (.dict 0 [])->g=true->ar):ar:=by
 obtain⟨C,ao,A,cr⟩:=q_' h
 obtain⟨D,cx⟩:=an cr
 obtain⟨ah,dI⟩:=an cx
 obtain⟨g1,E⟩:=za' dI
 obtain⟨g3,d5⟩:=za' E
 rw[b3 D]at A
 exact B ao (by rw[bP];exact A) ah g1 g3 d5
def RP' {xs:List V} {k:aY} (h:oR j xs ab k=true):∃A B a4 ao es,∃q∈hj,xs=[.own 0 A,.own 2 B,.int (bl j)]/\a4<=100/\8<=ab.ay/\iU ao (dO dW 8)=true/\kX ab false (ix iw q) es=true/\
  oS ab.t a4 ao (bK 5 (lG q)) es/\∀C∈hj,oQ q C=true->k (.any (bK 4 j) .eJ) (nH ab (bK a4 (hk j)) C)=true:=by
 obtain⟨b,w,eC,cL,cr⟩:=uN' h
 subst cL
 obtain⟨bi,A,e,cx⟩:=cJ' cr
 subst e
 obtain⟨T,B,e,dI⟩:=cJ' cx
 subst e
 obtain⟨U,e,F⟩:=eD' dI
 subst e
 obtain⟨aK,d5⟩:=an F
 obtain⟨aW,G⟩:=an d5
 obtain⟨bH,H⟩:=an G
 obtain⟨a4,D,jl⟩:=nw' H
 obtain⟨I,J⟩:=an jl
 obtain⟨K,L⟩:=an J
 obtain⟨ao,E,ah,g1,g3,M⟩:=zg' L
 obtain⟨az,es,dY,N⟩:=lj' M
 obtain⟨q,O,P,Q⟩:=vt' N
 obtain⟨R,S⟩:=an P
 rw[b3 R]at dY
 rw[bP]at D E g1 g3 dY
 obtain rfl:=b3 aK,aK
 obtain rfl:=b3 aW,aW
 obtain rfl:=Int.qw bH,bH
 exact⟨A,B,a4,ao,es,q,O,rfl,ce I,ce K,ah,S,⟨D,g1,E,g3,dY⟩,Ga Q⟩
def RQ' {q:List Nat} (h:y4 j q v ab=true):∃a4 ao es,∃A∈hj,y3 j v ab=true/\a4<=hk j/\iU ao (dO dW 8)=true/\oQ q A=true/\kX ab true (ix iw A) es=true/\oS ab.t a4 ao (bK 5 (lG A)) es:=by
 obtain⟨ae,cr⟩:=an h
 obtain⟨a4,B,cx⟩:=nw' cr
 obtain⟨D,dI⟩:=an cx
 obtain⟨ao,C,ah,g1,g3,E⟩:=zg' (g:=jg (bn ab (key 5)) λaz es=>qD (λA=>aN (oQ q A) (aN (aU az (bK 5 (lG A))) (kX ab true (ix iw A) es))) (λZ=>true) hj) dI
 obtain⟨az,es,dY,F⟩:=lj' E
 obtain⟨A,G,H,_⟩:=vt' F
 obtain⟨c0,I⟩:=an H
 obtain⟨J,K⟩:=an I
 rw[b3 J]at dY
 rw[bP]at B C g1 g3 dY
 exact⟨a4,ao,es,A,G,ae,ce D,ah,c0,K,B,g1,C,g3,dY⟩
def RR (ab:aA) (a4:Nat) (q:List Nat):nH ab a4 q=⟨T.put (fE dV q) (key 5) (T.put (.inst 1151 (dO dW 8)) (key 2) (T.put (.box a4) (key 0) ab.t)),ab.ay,ab.bz⟩:=by cases ab;rfl
def RS (h:Std c) {aj:bc} (H:aQ c.K c.w p ab.t aj) (I:p.n.r=cP c.w) (dg:8<=p.ay) {a4:Nat} {ao es:List (Nat×V)} {q:List Nat} (X:q∈hj) (ah:iU ao (dO dW 8)=true) (Q:kX ab false (ix iw q) es=true) (hd:oS ab.t a4 ao (bK 5 (lG q)) es):
  ∃A n m,aQ c.K c.w A (jH q n m).t (gN p ab.t 8 gP aj)/\A.ay=9/\A.n=p.n/\A.y=p.y+a4/\A.a6=p.a6/\∀i,i<8->A.a i=p.a i/\A.b i=p.b i/\A.e i=p.e i:=by
 have mem:∀i,gP i->∀z∈aj,z.1=p.a i∨z.1=p.b i->z∈gN p ab.t 8 gP aj:=λi B z E R=>by
  have af:i<8:=by clear R;rcases B with rfl|rfl|rfl|rfl|rfl<;>lia
  exact aQ.low H (by lia) (hd.live B) ⟨af,B⟩ E R
 have J:(p.cut 8).n.r=cP c.w:=I
 have Y:qH (ix iw q)=true:=eU.mp RN q X
 obtain⟨gV,d,f⟩:∃gV,cm c.w p es gV/\∀io:aX,io.a 5=p.a 5/\io.e 5=p.e 5->∀hs,hs.map (·.1)=es.map (·.1)->cm c.w io hs gV->ch c.K c.w io (gN p ab.t 8 gP aj) 5 (.dict (bK 5 (lG q)) hs):=by
  obtain⟨a_,S,M,j⟩:=H.ent 5 _ (by lia) hd.dY
  exact⟨S,j,λio C hs k s=>⟨by rw[k];exact a_,S,by rw[C.1,C.2];exact mem 5 (.inr (.inr (.inr (.inr rfl)))) _ M (.inl rfl),s⟩⟩
 have u:cm c.w (p.cut 8) (jG dV (ix iw q)) gV:=zb J (λv val=>Gc H I J (λe he=>he) v val) Q d
 obtain⟨ez,aa,ae⟩:=RC J Y u
 have T:=RD q
 obtain⟨F,lh,m,U⟩:∃F lh m,dG q eb=true->(∃eg ag,ez=.ref F/\(F,pa 249 lh)∈p.a6/\(lh,dd eg ag)∈p.a6/\cm c.w fX (jE (.int m)) eg):=by
  cases z:dG q eb with
  |false=>exact⟨0,0,0,λq=>nomatch q⟩
  |true=>
   obtain⟨l,a,m,B,e1,aK⟩:=vo J (aa (T.trans z))
   obtain⟨b,N,O,i1,i2,i3⟩:=aK
   exact⟨a,b,m,λZ=>⟨N,O,e1,B _ i1,B _ i2,i3⟩⟩
 obtain⟨A,D⟩:∃A:aX,A=⟨p.n,p.y+a4,9,λi=>if i=8 then F else p.a i,λi=>if i=8 then lh else p.b i,p.e,p.a6⟩:=⟨_,rfl⟩
 have L:A.a 8=F/\A.b 8=lh:=by rw[D];exact⟨rfl,rfl⟩
 have m1:A.n=p.n:=by rw[D]
 have fy:A.y=p.y+a4:=by rw[D]
 have ai:A.ay=9:=by rw[D]
 have G:A.a6=p.a6:=by rw[D]
 have C:∀i,i<8->A.a i=p.a i/\A.b i=p.b i/\A.e i=p.e i:=λi af=>by rw[D];exact⟨if_neg (by lia),if_neg (by lia),rfl⟩
 try clear D
 have P:A.n.r=cP c.w:=by rw[m1];exact I
 have ak:sx p A 8:=⟨m1,λi af=>by lia,λi af=>(C i af).1,λe he=>by rw[G];exact he⟩
 obtain⟨fs,al,am⟩:=zf (q:=A) (a3:=gN p ab.t 8 gP aj) H hd.g2 dg ⟨(C 2 (by lia)).1,(C 2 (by lia)).2.1⟩ mem
 obtain⟨n,an⟩:=F7 (sy I ak (vq dW 8 trivial) ah al)
 have ap:=am _ (lF h.K (sz _ _)) an
 obtain⟨aq,ar,as⟩:=ze (q:=A) (a3:=gN p ab.t 8 gP aj) (kU:=0) H hd dg C mem (by rw[fy];lia)
 have au:=f A ⟨(C 5 (by lia)).1,(C 5 (by lia)).2.2⟩ (jG (.own 8 (key 8)) (ix iw q)) (by rw[vv,vu Q]) (ae A _ P λz=>by
  obtain⟨_,_,e1,_⟩:=U (T.symm.trans z)
  exact⟨by lia,rfl,by rw[e1,L.1]⟩)
 have av:ch c.K c.w A (gN p ab.t 8 gP aj) 8 (qF q m):=by
  unfold qF
  cases z:dG q eb with
  |false=>trivial
  |true=>
   obtain⟨N,O,_,i1,i2,i3⟩:=U z
   have a:∀x,nF fX A (x,ea) (x,ea):=λx=>⟨rfl,λv h=>sp P ⟨rfl,rfl⟩ h⟩
   exact⟨⟨(sm h.K).2.2.2,lF h.K (F8 _)⟩,by rw[L.1,L.2,G];exact i1,N,O,by rw[L.2,G];exact i2,vf (.cons (qv P trivial) (.cons (a _) (.cons (a _) (.cons (a _) (.cons (a _) (.cons (a _) (.cons (a _) (.cons (a _) (.cons (a _) (.cons (a _) (.cons (a _) (.cons (a _) (.cons (a _) (.cons (a _) (.cons (a _) (.cons (a _) (.cons (a _) .nil))))))))))))))))) i3⟩
 have g:=Ge q n m
 injection g with g bq
 injection g with aw ax
 injection aw with fK g1
 injection ax with g2 g3
 injection bq with bq az
 injection bq with aA aB
 injection aA with aC dY
 injection aB with aD aE
 refine⟨A,n,m,aQ.part H (vb H.a_) (λi af li=>?_) (λi af li aH aF=>?_) (λi o af k8=>?_) (by lia) (λz E=>?_),ai,m1,fy,G,C⟩
 ·have B:=vw (by lia) li
  clear af li
  have W:i<8:=by rcases B with rfl|rfl|rfl|rfl|rfl<;>lia
  exact⟨by lia,hd.live B,(C i W).1,(C i W).2.1⟩
 ·have B:=vw (by lia) aF
  obtain⟨⟨o,M⟩,bC,aG⟩:=H.mem i af li
  exact⟨⟨o,mem i B _ M (.inl rfl)⟩,bC,mem i B _ aG (.inr rfl)⟩
 ·rcases sA (i:=i) (by lia),af with rfl|rfl|rfl|rfl|rfl|rfl|rfl|rfl|rfl
  ·rw[fK]at k8;cases k8;exact aq
  ·rw[g1]at k8;cases k8;exact ar
  ·rw[g2]at k8;cases k8;exact ap
  ·rw[g3]at k8;cases k8;exact as
  ·rw[aC]at k8;cases k8;trivial
  ·rw[dY]at k8;cases k8;exact au
  ·rw[aD]at k8;cases k8;trivial
  ·rw[aE]at k8;cases k8;trivial
  ·rw[az]at k8;cases k8;exact av
 ·rw[G]at E
  refine⟨aQ.Gd H E,λi af li=>H.eB i ?_ (hd.live (vw (by lia) li)) z E⟩
  have B:=vw (by lia) li
  clear af li
  rcases B with rfl|rfl|rfl|rfl|rfl<;>lia
def zh (h:Std c) (aW:c.n.r=cP c.w) (a1:j<=2) {d:Nat} (hd:d+10<=200) {Y:Int} (bY:Y+100<=1000) (bZ:c.y<=Y) (a2:∀y,y<=Y+100->df (c.dM y) (b6 (c.dM y) 849) (d+10) (vn j))
  (run:∀q∈hj,∀n m,c7 cg (vn j) 1212 [.own 0 (key 0),.own 2 (key 2),.int (bl j)] (jH q n m) (y4 j q) b1=true) {f:bL} {p:aX} {ab:aA} {loc:Loc} {k:aY} {s:a9} {E:am->a9->Prop} {xs:List V} {aG:List am}
  (ah:aZ c f) (cD:f.d<=d) (a5:oR j xs ab k=true) (S:ba c f p ab loc s) (M:All2 (aE p) xs aG):dH (aR c.prog c.w) f.A (.call (.ref 1212) ⟨aG,[]⟩) (f2 (cb c f p loc k) E) s:=by
 obtain⟨b0,b2,a4,ao,es,q,W,cL,b3,a7,a8,bb,al,bc⟩:=RP' a5
 subst cL
 cases M with|cons v0 M=>cases M with|cons v2 M=>cases M with|cons bd M=>cases M with|nil=>
 obtain⟨b4,rfl,rfl⟩:=v0
 obtain⟨ag,rfl,rfl⟩:=v2
 have dg:8<=p.ay:=by rw[S.z.ay];exact a7
 have X:p.n.r=cP c.w:=by rw[S.n];exact aW
 obtain⟨m,aj,F,ak,H,be⟩:=S.ex
 obtain⟨aH,n,mi,bf,bg,m1,fy,aI,R⟩:=RS h H X dg W a8 bb al
 have bh:News f.aC f.L s.heap (gN p ab.t 8 gP aj):=λq W=>ak q (nD.mp W).1
 have bi:aE aH (.own 0 (key 0)) (.ref (p.a 0)):=⟨by lia,rfl,by rw[(R 0 (by lia)).1]⟩
 have bj:aE aH (.own 2 (key 2)) (.ref (p.a 2)):=⟨by lia,rfl,by rw[(R 2 (by lia)).1]⟩
 refine hp (u_ (c:=c.dM (c.y+a4)) (E:=E) (aw:=b6 (c.dM (c.y+a4)) 849) (h.dM _).a0 (d:=d) (by lia) (a2 _ (by lia)) (ah.dM (by lia)) cD (run q W n mi) F bh bf ⟨bg,rfl⟩ S.gens S.os (m1.trans S.n) (fy.trans (by rw[S.y])) ((b6 (c.dM (c.y+a4)) 849).no _ _ _) (.cons bi (.cons bj (.cons bd .nil)))) λr aq z=>?_
 rcases r with e|(_|_|_|v)
 ·exact z
 ·exact z
 ·exact z
 ·exact z
 obtain⟨⟨b5,b7,aD,aF,w,a3,e1,rw1,bk,bm,bn,bo,C,b8,bp⟩,gs,os⟩:=z
 obtain⟨kU,b9,b_,I,br,bs,ca,bt,bu,aJ,N⟩:=RQ' bp
 have bv:aD.y=p.y+a4:=by rw[<-fy];exact e1.y
 have O:8<=aD.ay:=by have:=e1.ay;lia
 have an:∀i,i<8->aD.a i=p.a i/\aD.b i=p.b i/\aD.e i=p.e i:=λi af=>⟨(e1.a i (by lia)).trans (R i af).1,(e1.b i (by lia)).trans (R i af).2.1,(e1.e i (by lia)).trans (R i af).2.2⟩
 have aK:aD.n=p.n:=e1.n.trans m1
 have ap:aD.n.r=cP c.w:=by rw[aK];exact X
 obtain⟨B,P⟩:∃B:aX,B=⟨p.n,p.y,8,p.a,p.b,p.e,iT aD aF.t 8 (λZ=>True) a3++aD.a6⟩:=⟨_,rfl⟩
 have ar:B.n=p.n:=by rw[P]
 have aL:B.y=p.y:=by rw[P]
 have aM:B.ay=8:=by rw[P]
 have Q:B.a=p.a/\B.b=p.b/\B.e=p.e:=by rw[P];exact⟨rfl,rfl,rfl⟩
 have as:B.a6=iT aD aF.t 8 (λZ=>True) a3++aD.a6:=by rw[P]
 try clear P
 have aN:B.n.r=cP c.w:=by rw[ar];exact X
 have J:∀i,i<8->B.a i=aD.a i/\B.b i=aD.b i/\B.e i=aD.e i:=λi af=>by
  rw[Q.1,Q.2.1,Q.2.2]
  exact⟨(an i af).1.symm,(an i af).2.1.symm,(an i af).2.2.symm⟩
 have U:∀e∈aD.a6,e∈B.a6:=λe he=>by rw[as];exact dD _ he
 have aO:∀i,8<=i->i<aD.ay->bG aF.t i->∀e∈a3,e.1=aD.a i∨e.1=aD.b i->e∈B.a6:=λi af bw li e he bx=>by
  rw[as]
  exact gS _ (mG.mpr ⟨he,i,bw,li,λx=>by lia,bx⟩)
 have au:∀i,gP i->∀z∈a3,z.1=aD.a i∨z.1=aD.b i->z∈a3:=λZ Z Z D Z=>D
 obtain⟨bA,bB,bC⟩:=ze (q:=B) (kU:=bK a4 (hk j)) C N O J au (by
  rw[aL,bv]
  have:((bK a4 (hk j):Nat):Int)=(a4:Int)+(hk j:Int):=Int.natCast_add a4 (hk j)
  rw[this]
  lia)
 obtain⟨fs,bD,bE⟩:=zf (q:=B) C N.g2 O ⟨(J 2 (by lia)).1,(J 2 (by lia)).2.1⟩ au
 have bF:=bE (dO dW 8) (lF h.K (sz _ _)) (sy ap ⟨by rw[ar,aK],λi af=>by lia,λi af=>(J i af).1,U⟩ (vq dW 8 trivial) bt bD)
 obtain⟨gV,bH,bI⟩:=Gf (q:=B) C N.dY O ⟨(J 5 (by lia)).1,(J 5 (by lia)).2.2⟩ au
 have bJ:=bI (jG dV (ix iw I)) (by rw[vv,vu aJ]) (zb aN (RM C ap aN U aO) aJ bH)
 have aP:∀{i:Nat},gP i->i<8:=λG=>by rcases G with rfl|rfl|rfl|rfl|rfl<;>lia
 have bM:aQ c.K c.w B (fg (bK a4 (hk j)) I) a3:=by
  have g:=zc (bK a4 (hk j)) I
  injection g with g bq
  injection g with av az
  injection av with fK g1
  injection az with g2 g3
  injection bq with aB aS
  injection aB with aT dY
  injection aS with bO bP
  refine aQ.part C C.a_ (λi af li=>?_) (λi af li cc cf=>C.mem i af li) (λi o af k8=>?_) (by lia) (λz D=>?_)
  ·have G:=zd (by lia) li
   have O:=aP G
   exact⟨by lia,N.live G,(J i O).1,(J i O).2.1⟩
  ·rcases sA (i:=i) (by lia)with rfl|rfl|rfl|rfl|rfl|rfl|rfl|rfl|rfl
   ·rw[fK]at k8;cases k8;exact bA
   ·rw[g1]at k8;cases k8;exact bB
   ·rw[g2]at k8;cases k8;exact bF
   ·rw[g3]at k8;cases k8;exact bC
   ·rw[aT]at k8;cases k8;trivial
   ·rw[dY]at k8;cases k8;exact bJ
   ·rw[bO]at k8;cases k8;trivial
   ·rw[bP]at k8;cases k8;trivial
   ·lia
  ·rw[as]at D
   rcases gA.mp D with D|D
   ·obtain⟨ax,x,l,u,bQ,bR⟩:=mG.mp D
    refine⟨ax,λi af li=>?_⟩
    have G:=zd (by lia) li
    have ae:=N.live G
    have bS:=aP G
    have ai:i≠x:=λe=>bQ (e▸⟨bS,trivial⟩)
    rcases bR with q|q
    ·exact⟨λy=>ai (C.aa i x (by lia) l ae u (y.symm.trans q)),λy=>C.cG x i l (by lia) u ae (λq=>ai q.symm) (q.symm.trans y)⟩
    ·exact⟨λy=>C.cG i x (by lia) l ae u ai (y.symm.trans q),λy=>ai (C.dp i x (by lia) l ae u (y.symm.trans q))⟩
   ·exact⟨C.a6 z D,λi af li=>C.eB i (by lia) (N.live (zd (by lia) li)) z D⟩
 have aU:=RR ab (bK a4 (hk j)) I
 have ch:=H.small
 have get:∀i,i<p.ay->(nH ab (bK a4 (hk j)) I).t.get (key i)=if i=5 then some (fE dV I)else if i=2 then some (.inst 1151 (dO dW 8))else if i=0 then some (.box (bK a4 (hk j)))else ab.t.get (key i):=λi af=>by
  rw[aU]
  rw[T.cd _ _ (by lia) (by lia),T.cd _ _ (by lia) (by lia),T.cd _ _ (by lia) (by lia)]
 have SB:=ba.back (c4:=gP) (gM:=(nH ab (bK a4 (hk j)) I).t) ak H be S.z S.n S.y dg (⟨ar,aL,by rw[aM];exact eh _,λi Z=>by rw[Q.1],λi Z=>by rw[Q.2.1],λi Z=>by rw[Q.2.2],λz D=>U z (e1.a6 z (by rw[aI];exact D))⟩:(p.cut 8).bN B) aM bM bk bm bn bo gs os (λi af G=>by
   have g:=zc (bK a4 (hk j)) I
   injection g with g bq
   injection g with av az
   injection av with fK g1
   injection az with g2 g3
   injection bq with aB aS
   injection aB with aT dY
   rw[get i (by lia)]
   clear af
   rcases G with rfl|rfl|rfl|rfl|rfl
   ·rw[if_neg (by lia),if_neg (by lia),if_pos rfl,fK]
   ·rw[if_neg (by lia),if_neg (by lia),if_neg (by lia),g1,al.g1]
   ·rw[if_neg (by lia),if_pos rfl,g2]
   ·rw[if_neg (by lia),if_neg (by lia),if_neg (by lia),g3,al.g3]
   ·rw[if_pos rfl,dY]) λi af G=>by
   rw[get i af]
   have bT:i≠0:=λe=>G ⟨by lia,.inl e⟩
   have bU:i≠2:=λe=>G ⟨by lia,.inr (.inr (.inl e))⟩
   have bV:i≠5:=λe=>G ⟨by lia,.inr (.inr (.inr (.inr e)))⟩
   rw[if_neg bV,if_neg bU,if_neg bT]
 obtain⟨t,aV,ci,bW⟩:=RL C ap U aO a1 bs rw1
 have bX:nH ab (bK a4 (hk j)) I=⟨(nH ab (bK a4 (hk j)) I).t,ab.ay,ab.bz⟩:=by rw[aU]
 refine⟨p.oJ B.a6,nH ab (bK a4 (hk j)) I,.any (bK 4 j) .eJ,aX.si λz D=>U z (e1.a6 z (by rw[aI];exact D)),⟨⟨B.a6,λZ z=>z,?_⟩,aV.handed,λq=>?_⟩,by rw[bX];exact SB,bc I br bu⟩
 ·show p.n.r (4+j) .eJ v B.a6
  rw[X]
  exact .inr (.inr (.inl ⟨by lia,by lia,t,aV,by lia,bW⟩))
 ·have:10<=4+j:=ce q
  lia
def zi (n m:Int) (j:Nat) (q:List Nat):Bool:=c7 cg (vn j) 1212 [.own 0 (key 0),.own 2 (key 2),.int (bl j)] (jH q n m) (y4 j q) b1
def sB (n m:Int) (j:Nat) (l:List (List Nat)):Bool:=bW true (λq Z A=>aN (zi n m j q) A) l
def RT (n m:Int):sB n m 0 hj=true:=by kernel_rfl
def RU (n m:Int):sB n m 1 hj=true:=by kernel_rfl
def RV (n m:Int):sB n m 2 hj=true:=by kernel_rfl
def RW {B:iQ} {fn:Nat->Option f3} {bp:Nat} (a0:jf c aw fn) (fF:bp<=250) (G:qh c aw bp B):∀n d,d+10*n<=bp->df c aw d (hc B fn n):=by
 intro n
 induction n with
 |zero=>
  intro d _
  exactλf a xs C ab loc k x p s E Z Z h=>ff h
 |succ n H=>
  intro d h
  exactλf a xs C ab loc k x p s E ah hd A S D F=>by
   replace A:cq (motive:=λZ=>Bool) (c7 fn (hc B fn n) a xs ab k x) (λg=>g xs ab k) (B a)=true:=A
   cases q:B a with
   |none=>rw[q]at A;exact mg a0 (by lia) (H (d+10) (by lia)) f a xs C ab loc k x p s E ah hd A S D F
   |some g=>rw[q]at A;exact G f a g xs C ab loc k x p s E q ah (by lia) A S D F
def RX (h:Std c) (D:c.n.r=cP c.w):qh c (b6 c 849) 220 F4:=λf a g xs G ab loc k x p s E A ah hd B S F C=>by
 replace A:bk (motive:=λZ=>Option (List V->aA->aY->Bool)) (bk (motive:=λZ=>Option (List V->aA->aY->Bool)) none (some sv) (aU a 302)) (some j9) (aU a 1169)=some g:=A
 cases q:aU a 1169 with
 |true=>
  rw[q]at A;cases A
  obtain rfl:=b3 q
  exact uG h.a0 ah (by lia) B S F C
 |false=>
  rw[q]at A
  clear q
  cases aW:aU a 302 with
  |true=>
   rw[aW]at A;cases A
   obtain rfl:=b3 aW
   exact F9 h D ah hd B S C
  |false=>rw[aW]at A;cases A
def vx (c:b4) (d j:Nat):Prop:=∀{f:bL} {p:aX} {ab:aA} {loc:Loc} {k:aY} {s:a9} {E:am->a9->Prop} {xs:List V} {B:List am},aZ c f->f.d<=d->oR j xs ab k=true->ba c f p ab loc s->All2 (aE p) xs B->dH (aR c.prog c.w) f.A (.call (.ref 1212) ⟨B,[]⟩) (f2 (cb c f p loc k) E) s
def zj (h:Std c) (C:c.n.r=cP c.w) {d:Nat} (hd:d<=80) (F:∀i,j=i+1->vx c d i):df c (b6 c 849) d (vn j):=λf a xs G ab loc k x p s E ah cD A S D B=>by
 replace A:cq (motive:=λZ=>Bool) (c7 cg F5 a xs ab k x) (λg=>g xs ab k) (y2 j a)=true:=A
 cases q:y2 j a with
 |none=>rw[q]at A;exact mg h.a0 (by lia) (RW h.a0 (by lia) (RX h C) 12 (d+10) (by lia)) f a xs G ab loc k x p s E ah cD A S D B
 |some g=>
  rw[q]at A
  replace q:bk (motive:=λZ=>Option (List V->aA->aY->Bool)) (bk (motive:=λZ=>Option (List V->aA->aY->Bool)) (bk (motive:=λZ=>Option (List V->aA->aY->Bool)) none (some (gg (motive:=λZ=>List V->aA->aY->Bool) (λZ Z Z=>false) (λj Z=>oR j) j)) (aU a 1212)) (some sv) (aU a 302)) (some j9) (aU a 1169)=some g:=q
  cases aK:aU a 1169 with
  |true=>
   rw[aK]at q;cases q
   obtain rfl:=b3 aK
   exact uG h.a0 ah (by lia) A S D B
  |false=>
   rw[aK]at q
   clear aK
   cases aW:aU a 302 with
   |true=>
    rw[aW]at q;cases q
    obtain rfl:=b3 aW
    exact F9 h C ah (by lia) A S B
   |false=>
    rw[aW]at q
    clear aW
    cases bH:aU a 1212 with
    |true=>
     rw[bH]at q;cases q
     obtain rfl:=b3 bH
     cases j with
     |zero=>cases A
     |succ i=>exact F i rfl ah cD A S B
    |false=>rw[bH]at q;cases q
def vy {n m:Int}:∀{l:List (List Nat)},sB n m j l=true->∀q∈l,zi n m j q=true
 |a::l,h,q,A=>by
  obtain⟨ae,ag⟩:=an (show aN (zi n m j a) (sB n m j l)=true from h)
  clear h
  rcases bJ.mp A with rfl|A
  ·exact ae
  ·exact vy ag q A
def RY (h:Std c) (A:c.n.r=cP c.w) (B:c.y<=900):vx c 40 0:=λah cD C S D=>
 zh h A (by lia) (by lia) (Y:=900) (by lia) B (λy Z=>zj (h.dM y) A (by lia) λi e=>absurd e (o_ i).symm) (λq E n m=>vy (RT n m) q E) ah cD C S D
def RZ (h:Std c) (A:c.n.r=cP c.w) (B:c.y<=800):vx c 30 1:=λah cD C S D=>
 zh h A (by lia) (by lia) (Y:=800) (by lia) B (λy B=>zj (h.dM y) A (by lia) λi e=>by cases e;exact RY (h.dM y) A (by show y<=900;lia)) (λq E n m=>vy (RU n m) q E) ah cD C S D
def R0 (h:Std c) (A:c.n.r=cP c.w) (B:c.y<=700):vx c 20 2:=λah cD C S D=>
 zh h A (by lia) (by lia) (Y:=700) (by lia) B (λy B=>zj (h.dM y) A (by lia) λi e=>by cases e;exact RZ (h.dM y) A (by show y<=800;lia)) (λq E n m=>vy (RV n m) q E) ah cD C S D
inductive St where
 |e|a|b|cG|lH
def g6 (s:St):Int:=St.rec 8 16 16 24 24 s
def hK (s:St):Nat:=St.rec 0 1 1 2 2 s
def hl (s:St):List (Nat×V):=St.rec [] [(98,.int 16)] [(99,.int 16)] [(98,.int 16),(99,.int 24)] [(99,.int 16),(98,.int 24)] s
def h4 (s t:St):Bool:=St.rec (St.rec true false false false false t) (St.rec false true false false false t) (St.rec false false true false false t) (St.rec false false false true false t) (St.rec false false false false true t) s
def iy (c:Nat) (s:St):Int×St:=bk
 (St.rec (16,.b) (24,.cG) (16,.b) (24,.cG) (16,.lH) s) (St.rec (16,.a) (16,.a) (24,.lH) (16,.cG) (24,.lH) s) (aU c 98)
def bj (t:cF):St->Int×St:=cF.rec (motive:=λZ=>St->Int×St) (λs=>(8,s)) (λb s=>(bk 0 20 b,s)) (λn s=>(bM (eG 2 n) 1,s)) (λc s=>iy c s) (λc s=>(bM (iy c s).1 1,(iy c s).2)) (λs=>(7,s))
 (λZ A s=>(bM (bM (eG 31 7) (A s).1) 1,(A s).2)) (λZ Z A B s=>(bM (bM (eG 31 (bM (bM (eG 31 7) (A s).1) 1)) (B (A s).2).1) 1,(B (A s).2).2))
 (λa b o s=>(bM (bM (bM (eG 31 (bM (bM (eG 31 7) (bM (eG 2 a) 1)) 2)) (bM (eG 2 b) 1)) 2) (bk 0 1 o),s)) t
def lI (f:St->Bool):Bool:=aN (f .e) (aN (f .a) (aN (f .b) (aN (f .cG) (f .lH))))
def mK (ab:aA) (s:St):aA:=bD (key 4) (.dict (hK s) (hl s)) (bD (key 2) (.inst 1151 (dO dW (g6 s))) ab)
def zk (g k:St->Bool):Bool:=bk (bk (bk (bk (bk false (k .lH) (g .lH)) (k .cG) (g .cG)) (k .b) (g .b)) (k .a) (g .a)) (k .e) (g .e)
def zl (ab:aA) (s:St):Bool:=mh ab (key 2) λC ao=>aN (aU C 1151) (aN (iU ao (dO dW (g6 s))) (jg (bn ab (key 4)) λaz es=>aN (aU az (hK s)) (iU es (hl s))))
def sC (j:Nat) (e:Int) (ai:List V) (ab:aA) (k:aY):Bool:=r7 ai λw v d=>cz w λA Z=>mI j v λt=>vInt d λd=>aN (aU A 2) (aN (Int.dt d e) (aN (b2 8 ab.ay)
 (zk (zl ab) λs=>lI λaq=>bk true (k (.int (bj t s).1) (mK ab aq)) (h4 (bj t s).2 aq))))
def zm (j:Nat) (e:Int):iQ:=λa=>bk (motive:=λZ=>Option (List V->aA->aY->Bool)) none (some (sC j e)) (aU a 687)
def sD:b5:=hc iq cg 6
def kY (j:Nat) (e:Int):b5:=oB (zm j e) cg sD
def d8 (s:St):T:=(ke [.dead,.dead,.inst 1151 (dO dW (g6 s)),.dead,.dict (hK s) (hl s),.dead,.dead,.dead]).t
def nI (cl:b5) (e:Int):Prop:=(cl=sD/\e=10)∨(cl=kY 0 10/\e=11)∨(cl=kY 1 11/\e=12)
def oT (cl:b5) (e:Int) (j:Nat):Prop:=(cl=kY 0 10/\e=11/\j=1)∨(cl=kY 1 11/\e=12/\j=2)
@[elab_as_elim] theorem nI.el {cl:b5} {e:Int} {bu:b5->Int->Prop} (h:nI cl e) (a:bu sD 10) (b:bu (kY 0 10) 11) (d:bu (kY 1 11) 12):bu cl e:=by
 rcases h with⟨rfl,rfl⟩|⟨rfl,rfl⟩|⟨rfl,rfl⟩
 ·exact a
 ·exact b
 ·exact d
@[elab_as_elim] theorem oT.el {cl:b5} {e:Int} {bu:b5->Int->Nat->Prop} (h:oT cl e j) (b:bu (kY 0 10) 11 1) (d:bu (kY 1 11) 12 2):bu cl e j:=by
 rcases h with⟨rfl,rfl,rfl⟩|⟨rfl,rfl,rfl⟩
 ·exact b
 ·exact d
@[elab_as_elim] theorem Gg {c:Nat} {bu:Nat->Prop} (h:c=98∨c=99) (a:bu 98) (b:bu 99):bu c:=by
 rcases h with rfl|rfl
 ·exact a
 ·exact b
abbrev mL (g k:Bool):Bool:=bk true k g
section
variable {cl:b5} {e:Int} (K:aY)
def R1 (h:nI cl e) (s:St):c7 cg cl 687 [.own 2 (key 2),.none,.int e] ⟨d8 s,8,key 8⟩ K b1=K (.int 8) ⟨d8 s,8,key 8⟩:=by
 refine h.el ?_ ?_ ?_<;>kernel_rfl
def R2 (h:nI cl e) (s:St) (b:Bool):c7 cg cl 687 [.own 2 (key 2),.bool b,.int e] ⟨d8 s,8,key 8⟩ K b1=K (.int (bk (motive:=λZ=>Int) 0 20 b)) ⟨d8 s,8,key 8⟩:=by
 refine h.el ?_ ?_ ?_<;>cases b<;>kernel_rfl
def R3 (h:nI cl e) (s:St) (n:Int):c7 cg cl 687 [.own 2 (key 2),.int n,.int e] ⟨d8 s,8,key 8⟩ K b1=K (.int (bM (eG 2 n) 1)) ⟨d8 s,8,key 8⟩:=by
 refine h.el ?_ ?_ ?_<;>kernel_rfl
def R4 (h:nI cl e) (s:St) {c:Nat} (A:c=98∨c=99):c7 cg cl 687 [.own 2 (key 2),.str c,.int e] ⟨d8 s,8,key 8⟩ K b1=K (.int (iy c s).1) ⟨d8 (iy c s).2,8,key 8⟩:=by
 refine h.el ?_ ?_ ?_<;>refine Gg A ?_ ?_<;>cases s<;>kernel_rfl
def R5 (h:nI cl e) (s:St) {c:Nat} (A:c=98∨c=99):c7 cg cl 687 [.own 2 (key 2),.own 8 (key 8),.int e] ⟨T.put (.rinst 83 (lE (.str c))) (key 8) (d8 s),9,key 9⟩ K b1=K (.int (bM (iy c s).1 1)) ⟨T.put (.rinst 83 (lE (.str c))) (key 8) (d8 (iy c s).2),9,key 9⟩:=by
 refine h.el ?_ ?_ ?_<;>refine Gg A ?_ ?_<;>cases s<;>kernel_rfl
def R6 (h:oT cl e j) (s:St):c7 cg cl 687 [.own 2 (key 2),.own 9 (key 9),.int e] ⟨kV 8 j (d8 s) .ft,10,key 10⟩ K b1=K (.int 7) ⟨T.put .dead (key 10) (kV 8 j (d8 s) .ft),11,key 11⟩:=by
 refine h.el ?_ ?_<;>kernel_rfl
def R7 (h:oT cl e j) (s:St) (t:cF):c7 cg cl 687 [.own 2 (key 2),.own 9 (key 9),.int e] ⟨kV 8 j (d8 s) (.l1 t),10,key 10⟩ K b1=
  lI λs1=>mL (h4 (bj t s).2 s1) (K (.int (bM (bM (eG 31 7) (bj t s).1) 1)) ⟨T.put .dead (key 10) (kV 8 j (d8 s1) (.l1 t)),11,key 11⟩):=by
 refine h.el ?_ ?_<;>cases s<;>kernel_rfl
def R8 (h:oT cl e j) (s:St) (t u:cF):c7 cg cl 687 [.own 2 (key 2),.own 9 (key 9),.int e] ⟨kV 8 j (d8 s) (.l2 t u),10,key 10⟩ K b1=
  lI λs1=>mL (h4 (bj t s).2 s1) (lI λa5=>mL (h4 (bj u s1).2 a5) (K (.int (bM (bM (eG 31 (bM (bM (eG 31 7) (bj t s).1) 1)) (bj u s1).1) 1)) ⟨T.put .dead (key 10) (kV 8 j (d8 a5) (.l2 t u)),11,key 11⟩)):=by
 refine h.el ?_ ?_<;>cases s<;>kernel_rfl
def R9 (h:oT cl e j) (s:St) (a b:Int) (o:Bool):c7 cg cl 687 [.own 2 (key 2),.own 8 (key 8),.int e] ⟨kV 8 j (d8 s) (.rng a b o),9,key 9⟩ K b1=
  lI λs1=>mL (h4 s s1) (lI λa5=>mL (h4 s1 a5) (K (.int (bj (.rng a b o) s).1) ⟨T.put .dead (key 10) (T.put (.tuple [.int a,.int b]) (key 9) (kV 8 j (d8 a5) (.rng a b o))),11,key 11⟩)):=by
 refine h.el ?_ ?_<;>cases s<;>cases o<;>kernel_rfl
end
def oU {x:St} {g:St->Bool} (h:g x=true):(lI λs=>mL (h4 x s) (g s))=true:=by
 cases x<;>(show aN _ (aN _ (aN _ (aN _ _)))=true)<;>first
  |(show aN (g _) _=true;rw[h];rfl)
  |(show aN true (aN (g _) _)=true;rw[h];rfl)
  |(show aN true (aN true (aN (g _) _))=true;rw[h];rfl)
  |(show aN true (aN true (aN true (aN (g _) _)))=true;rw[h];rfl)
  |(show aN true (aN true (aN true (aN true (g _))))=true;rw[h];rfl)
def R_ {x:St} {g:St->Bool} (h:(lI λs=>mL (h4 x s) (g s))=true):g x=true:=by
 obtain⟨ae,h⟩:=an h
 obtain⟨ag,h⟩:=an h
 obtain⟨ax,h⟩:=an h
 obtain⟨aS,bA⟩:=an h
 cases x
 ·exact ae
 ·exact ag
 ·exact ax
 ·exact aS
 ·exact bA
def Sa {g k:St->Bool} (h:zk g k=true):∃s,g s=true/\k s=true:=by
 unfold zk at h
 cases e1:g .e with
 |true=>rw[e1]at h;exact⟨_,e1,h⟩
 |false=>
  rw[e1]at h
  cases e2:g .a with
  |true=>rw[e2]at h;exact⟨_,e2,h⟩
  |false=>
   rw[e2]at h
   cases e3:g .b with
   |true=>rw[e3]at h;exact⟨_,e3,h⟩
   |false=>
    rw[e3]at h
    cases e4:g .cG with
    |true=>rw[e4]at h;exact⟨_,e4,h⟩
    |false=>
     rw[e4]at h
     cases e5:g .lH with
     |true=>rw[e5]at h;exact⟨_,e5,h⟩
     |false=>rw[e5]at h;cases h
def lJ (t:cF) (s:St) (v:V) (ab:aA):Prop:=v=.int (bj t s).1/\ab.t.get (key 2)=some (.inst 1151 (dO dW (g6 (bj t s).2)))/\ab.t.get (key 4)=some (.dict (hK (bj t s).2) (hl (bj t s).2))
def qI {c:Nat} (h:(aU c 98||Nat.beq c 99)=true):c=98∨c=99:=by
 rcases Bool.or_eq_true_iff.mp h with h|h
 ·exact .inl (b3 h)
 ·exact .inr (b3 h)
def zn (s:St):((d8 s).get (key 2),(d8 s).get (key 4))=(some (.inst 1151 (dO dW (g6 s))),some (.dict (hK s) (hl s))):=by kernel_rfl
def Gh (cl:b5) (e:Int) (j:Nat):Prop:=∀t s,gc t<=j->eS t=true->c7 cg cl 687 [.own 2 (key 2),yR 8 t,.int e] ⟨kV 8 j (d8 s) t,8+sr t,key (8+sr t)⟩ (j5 (lJ t s)) b1=true
def zo {cl:b5} {e:Int} (h:nI cl e) (C:0<j->oT cl e j):Gh cl e j:=λt s hd k8=>by
 have g:=zn s
 injection g with g2 B
 cases t with
 |eJ=>exact(R1 _ h s).trans (fA (P:=lJ .eJ s) ⟨rfl,g2,B⟩)
 |h_ b=>exact(R2 _ h s b).trans (fA (P:=lJ (.h_ b) s) ⟨rfl,g2,B⟩)
 |num b=>exact(R3 _ h s b).trans (fA (P:=lJ (.num b) s) ⟨rfl,g2,B⟩)
 |sym b=>
  have g:=zn (iy b s).2
  injection g with g2 B
  exact(R4 _ h s (qI k8)).trans (fA (P:=lJ (.sym b) s) ⟨rfl,g2,B⟩)
 |gi b=>exact(R5 _ h s (qI k8)).trans (fA (P:=lJ (.gi b) s) ⟨rfl,by kernel_rfl,by kernel_rfl⟩)
 |ft=>
  have A:0<j:=cH AB hd
  exact(R6 _ (C A) s).trans (fA (P:=lJ .ft s) ⟨rfl,by kernel_rfl,by kernel_rfl⟩)
 |l1 t=>
  have A:0<j:=cH (lU _) hd
  exact(R7 _ (C A) s t).trans (oU (fA (P:=lJ (.l1 t) s) ⟨by kernel_rfl,by kernel_rfl,by kernel_rfl⟩))
 |l2 t u=>
  have A:0<j:=cH (lU _) hd
  exact(R8 _ (C A) s t u).trans (oU (oU (fA (P:=lJ (.l2 t u) s) ⟨by kernel_rfl,by kernel_rfl,by kernel_rfl⟩)))
 |rng a b o=>
  have A:0<j:=cH AB hd
  exact(R9 _ (C A) s a b o).trans (oU (oU (fA (P:=lJ (.rng a b o) s) ⟨rfl,by kernel_rfl,by kernel_rfl⟩)))
def oV (i:Nat):Prop:=i=2∨i=4
def Sb (s:St):vp 8 (hl s):=by cases s<;>first|trivial|exact⟨trivial,trivial⟩|exact⟨trivial,trivial,trivial⟩
def Sc (s:St):((((d8 s).get (key 0),(d8 s).get (key 1)),((d8 s).get (key 2),(d8 s).get (key 3))),(((d8 s).get (key 4),(d8 s).get (key 5)),((d8 s).get (key 6),(d8 s).get (key 7))))=
  (((some .dead,some .dead),(some (.inst 1151 (dO dW (g6 s))),some .dead)),((some (.dict (hK s) (hl s)),some .dead),(some .dead,some .dead))):=by kernel_rfl
def zp {s:St} {o:O} (af:i<8) (h:(d8 s).get (key i)=some o):o=.dead∨(i=2/\o=.inst 1151 (dO dW (g6 s)))∨(i=4/\o=.dict (hK s) (hl s)):=by
 have g:=Sc s
 injection g with g bq
 injection g with A B
 injection A with fK g1
 injection B with g2 g3
 injection bq with C D
 injection C with E dY
 injection D with F G
 rcases sA (nM af)with rfl|rfl|rfl|rfl|rfl|rfl|rfl|rfl|rfl
 ·rw[fK]at h;cases h;exact .inl rfl
 ·rw[g1]at h;cases h;exact .inl rfl
 ·rw[g2]at h;cases h;exact .inr (.inl ⟨rfl,rfl⟩)
 ·rw[g3]at h;cases h;exact .inl rfl
 ·rw[E]at h;cases h;exact .inr (.inr ⟨rfl,rfl⟩)
 ·rw[dY]at h;cases h;exact .inl rfl
 ·rw[F]at h;cases h;exact .inl rfl
 ·rw[G]at h;cases h;exact .inl rfl
 ·lia
def Sd (ab:aA) (s:St):mK ab s=⟨T.put (.dict (hK s) (hl s)) (key 4) (T.put (.inst 1151 (dO dW (g6 s))) (key 2) ab.t),ab.ay,ab.bz⟩:=by cases ab;rfl
def Se (s:St):er 8 (.inst 1151 (dO dW (g6 s)))=true:=by cases s<;>kernel_rfl
def Sf (s:St):er 8 (.dict (hK s) (hl s))=true:=by cases s<;>kernel_rfl
def Sg' {s:St} (h:zl ab s=true):∃ao es,ab.t.get (key 2)=some (.inst 1151 ao)/\iU ao (dO dW (g6 s))=true/\ab.t.get (key 4)=some (.dict (hK s) es)/\iU es (hl s)=true:=by
 obtain⟨C,ao,A,cr⟩:=q_' h
 obtain⟨D,cx⟩:=an cr
 obtain⟨ah,dI⟩:=an cx
 obtain⟨az,es,B,E⟩:=lj' dI
 obtain⟨F,d5⟩:=an E
 rw[b3 D]at A
 rw[b3 F,bP]at B
 exact⟨ao,es,A,ah,B,d5⟩
def Sh' {e:Int} {xs:List V} {k:aY} (h:sC j e xs ab k=true):∃A v t s,xs=[.own 2 A,v,.int e]/\(v=.any j t∨∃n,v=.int n/\t=.num n)/\8<=ab.ay/\zl ab s=true/\k (.int (bj t s).1) (mK ab (bj t s).2)=true:=by
 obtain⟨w,v,eC,cL,cr⟩:=uN' h
 subst cL
 obtain⟨G,A,B,cx⟩:=cJ' cr
 subst B
 obtain⟨t,dI,ev⟩:=sk' cx
 obtain⟨H,C,D⟩:=eD' dI
 subst C
 obtain⟨aK,d5⟩:=an D
 obtain⟨aW,E⟩:=an d5
 obtain⟨bH,F⟩:=an E
 obtain rfl:=b3 aK,aK
 obtain rfl:=Int.qw aW,aW
 obtain⟨s,cV,jl⟩:=Sa F
 exact⟨A,v,t,s,rfl,ev,ce bH,cV,R_ (g:=λaq=>k (.int (bj t s).1) (mK ab aq)) jl⟩
def zq (h:Std c) (al:c.n.r=cP c.w) (O:j<=2) {e:Int} {cl:b5} {d:Nat} (hd:d+10<=200) (an:df c (b6 c 849) (d+10) cl) (run:Gh cl e j) {loc:Loc} {k:aY} {xs:List V} {P:List am}
  (ah:aZ c f) (cD:f.d<=d) (ap:sC j e xs ab k=true) (S:ba c f p ab loc s) (C:All2 (aE p) xs P):dH (aR c.prog c.w) f.A (.call (.ref 687) ⟨P,[]⟩) (f2 (cb c f p loc k) E) s:=by
 obtain⟨a5,x,t,st,cL,ev,ar,as,d5⟩:=Sh' ap
 subst cL
 obtain⟨ao,es,g2,au,Q,R⟩:=Sg' as
 cases C with|cons v0 C=>cases C with|cons v1 C=>cases C with|cons v2 C=>cases C with|nil=>
 obtain⟨ag,rfl,rfl⟩:=v0
 have dg:8<=p.ay:=by rw[S.z.ay];exact ar
 have I:p.n.r=cP c.w:=by rw[S.n];exact al
 obtain⟨l,B,av,U,W⟩:=FK I O ev v1
 obtain⟨m,aj,F,ak,H,aw⟩:=S.ex
 have ax:News f.aC f.L s.heap (gN p ab.t 8 oV aj):=λq az=>ak q (nD.mp az).1
 have X:sx p (p.cut 8) 8:=⟨rfl,λi af=>af,λi Z=>rfl,λZ z=>z⟩
 have lv:∀i,oV i->bG ab.t i:=λi B=>by
  rcases B with rfl|rfl
  ·exact⟨_,g2,rfl⟩
  ·exact⟨_,Q,rfl⟩
 have mem:∀i,oV i->∀z∈aj,z.1=p.a i∨z.1=p.b i->z∈gN p ab.t 8 oV aj:=λi B z D Y=>by
  have af:i<8:=by clear Y;rcases B with rfl|rfl<;>lia
  exact aQ.low H (by lia) (lv i B) ⟨af,B⟩ D Y
 have J:∀{aq:St} {i:Nat},i<8->bG (d8 aq) i->oV i:=λaf aA=>by
  obtain⟨o,aK,aW⟩:=aA
  rcases zp af aK with rfl|⟨e,_⟩|⟨e,_⟩
  ·cases aW
  ·exact .inl e
  ·exact .inr e
 have aB:aQ c.K c.w (p.cut 8) (d8 st) (gN p ab.t 8 oV aj):=by
  refine aQ.part H (vb H.a_) (λi af li=>?_) (λi af li aG aH=>?_) (λi o af k8=>?_) (by show 8<=4096;lia) (λz D=>?_)
  ·exact⟨cH af dg,lv i (J af li),rfl,rfl⟩
  ·have B:=J aG aH
   obtain⟨⟨o,G⟩,bC,M⟩:=H.mem i af li
   exact⟨⟨o,mem i B _ G (.inl rfl)⟩,bC,mem i B _ M (.inr rfl)⟩
  ·rcases zp af k8 with rfl|⟨rfl,rfl⟩|⟨rfl,rfl⟩
   ·trivial
   ·obtain⟨⟨bx,_⟩,G,aI,n,M,r⟩:=H.ent 2 _ (by lia) g2
    exact⟨⟨bx,lF h.K (sz _ _)⟩,mem 2 (.inl rfl) _ G (.inl rfl),aI,n,mem 2 (.inl rfl) _ M (.inr rfl),sy I X (vq dW _ trivial) au r⟩
   ·obtain⟨a_,aJ,G,N⟩:=H.ent 4 _ (by lia) Q
    exact⟨by rw[<-Gb R];exact a_,aJ,mem 4 (.inr rfl) _ G (.inl rfl),sy I X (Sb st) R N⟩
  ·exact⟨aQ.Gd H D,λi af li=>H.eB i (cH af dg) (lv i (J af li)) z D⟩
 obtain⟨aL,e0,cX,u,N,a7⟩:=FM (p:=p.cut 8) h.K I B aB (by show 8<4000;lia) O U W av
 have aM:aE aL (.own 2 (key 2)) (.ref (p.a 2)):=⟨by rw[u];show 2<8+_;lia,rfl,by rw[e0.a 2 (by show 2<8;lia)]⟩
 refine hp (u_ (E:=E) h.a0 (by lia) an ah cD (run t st U W) F ax cX ⟨u,rfl⟩ S.gens S.os (e0.n.trans S.n) (e0.y.trans S.y) ((b6 c 849).no _ _ _) (.cons aM (.cons N (.cons v2 .nil)))) λr aq z=>?_
 rcases r with e|(_|_|_|v)
 ·exact z
 ·exact z
 ·exact z
 ·exact z
 obtain⟨⟨a8,a9,aD,aF,w,a3,e1,rw1,aN,aO,aP,aS,aT,bb,aa⟩,gs,os⟩:=z
 obtain⟨rfl,cx,aU⟩:=mz aa,aa
 have e01:=e0.trans e1
 have ae:=e01.cut
 have aV:aQ c.K c.w (aD.cut 8) (d8 (bj t st).2) a3:=aQ.cut aT (by have:=e01.ay;exact this) λi af o k8=>by
  rcases zp af k8,af with rfl|⟨rfl,rfl⟩|⟨rfl,rfl⟩
  ·exact⟨.dead,rfl⟩
  ·rw[cx];exact⟨.same,Se _⟩
  ·rw[aU];exact⟨.same,Sf _⟩
 have ai:=Sd ab (bj t st).2
 have bc:=H.small
 have get:∀i,i<p.ay->(mK ab (bj t st).2).t.get (key i)=if i=4 then some (.dict (hK (bj t st).2) (hl (bj t st).2))else if i=2 then some (.inst 1151 (dO dW (g6 (bj t st).2)))else ab.t.get (key i):=λi af=>by
  rw[ai]
  rw[T.cd _ _ (by lia) (by lia),T.cd _ _ (by lia) (by lia)]
 have SB:=ba.back (c4:=oV) (gM:=(mK ab (bj t st).2).t) ak H aw S.z S.n S.y dg (aD:=aD.cut 8) ae rfl aV aN aO aP aS gs os (λi af B=>by
   have g:=zn (bj t st).2
   injection g with aW cV
   rw[get i (by lia)]
   clear af
   rcases B with rfl|rfl
   ·rw[if_neg (by lia),if_pos rfl,aW]
   ·rw[if_pos rfl,cV]) λi af B=>by
   rw[get i af]
   have a1:i≠2:=λe=>B ⟨by lia,.inl e⟩
   have a2:i≠4:=λe=>B ⟨by lia,.inr e⟩
   rw[if_neg a2,if_neg a1]
 have a4:mK ab (bj t st).2=⟨(mK ab (bj t st).2).t,ab.ay,ab.bz⟩:=by rw[ai]
 exact⟨p.oJ (aD.cut 8).a6,mK ab (bj t st).2,.int (bj t st).1,aX.si (p:=p) λz D=>ae.a6 z D,rw1,by rw[a4];exact SB,d5⟩
def vz (c:b4) (d j:Nat) (e:Int):Prop:=∀{f:bL} {p:aX} {ab:aA} {loc:Loc} {k:aY} {s:a9} {E:am->a9->Prop} {xs:List V} {B:List am},aZ c f->f.d<=d->sC j e xs ab k=true->ba c f p ab loc s->All2 (aE p) xs B->dH (aR c.prog c.w) f.A (.call (.ref 687) ⟨B,[]⟩) (f2 (cb c f p loc k) E) s
def Gi (h:Std c) {d:Nat} (hd:d<=200):df c (b6 c 849) d sD:=j6 h.a0 (j_ h.a0) 6 d (by lia)
def zr (h:Std c) {e:Int} {d:Nat} (hd:d<=100) (lv:vz c d j e):df c (b6 c 849) d (kY j e):=λf a xs C ab loc k x p s E ah cD A S D B=>by
 replace A:cq (motive:=λZ=>Bool) (c7 cg sD a xs ab k x) (λg=>g xs ab k) (zm j e a)=true:=A
 cases q:zm j e a with
 |none=>rw[q]at A;exact mg h.a0 (by lia) (Gi h (d:=d+10) (by lia)) f a xs C ab loc k x p s E ah cD A S D B
 |some g=>
  rw[q]at A
  replace q:bk (motive:=λZ=>Option (List V->aA->aY->Bool)) none (some (sC j e)) (aU a 687)=some g:=q
  cases aK:aU a 687 with
  |true=>
   rw[aK]at q;cases q
   obtain rfl:=b3 aK
   exact lv ah cD A S B
  |false=>rw[aK]at q;cases q
def Si (h:Std c) (C:c.n.r=cP c.w):vz c 40 2 12:=by
 have D:vz c 60 0 10:=λah cD A S B=>zq h C (by lia) (by lia) (Gi h (by lia)) (zo (.inl ⟨rfl,rfl⟩) λq=>absurd q (nL _)) ah cD A S B
 have ae:vz c 50 1 11:=λah cD A S B=>zq h C (by lia) (by lia) (zr h (by lia) D) (zo (.inr (.inl ⟨rfl,rfl⟩)) λZ=>.inl ⟨rfl,rfl,rfl⟩) ah cD A S B
 intro f p ab loc k s E xs F ah cD A S B
 exact zq h C (by lia) (by lia) (zr h (by lia) ae) (zo (.inr (.inr ⟨rfl,rfl⟩)) λZ=>.inr ⟨rfl,rfl,rfl⟩) ah cD A S B
def Gj (ai:List V) (ab:aA) (k:aY):Bool:=r7 ai λw v l=>mI 2 v λt=>cz l λZ aB=>fv (bn ab aB) λxs=>kE xs λy=>mI 2 y λu=>k (.bool (fh t u)) ab
def zt:iQ:=λa=>bk (motive:=λZ=>Option (List V->aA->aY->Bool)) (bk (motive:=λZ=>Option (List V->aA->aY->Bool)) none (some (oR 2)) (aU a 1212)) (some Gj) (aU a 680)
def sE:b5:=oB zt cg (kY 2 12)
abbrev hn:ef:=⟨sE,b1⟩
def Sj (h:Std c) (C:c.n.r=cP c.w) (D:c.y<=700):df c (b6 c 849) 20 sE:=λf a xs F ab loc k x p s E ah cD B S G A=>by
 replace B:cq (motive:=λZ=>Bool) (c7 cg (kY 2 12) a xs ab k x) (λg=>g xs ab k) (zt a)=true:=B
 cases q:zt a with
 |none=>rw[q]at B;exact mg h.a0 (by lia) (zr h (d:=30) (by lia) λah cD B S A=>Si h C ah (by lia) B S A) f a xs F ab loc k x p s E ah cD B S G A
 |some g=>
  rw[q]at B
  replace q:bk (motive:=λZ=>Option (List V->aA->aY->Bool)) (bk (motive:=λZ=>Option (List V->aA->aY->Bool)) none (some (oR 2)) (aU a 1212)) (some Gj) (aU a 680)=some g:=q
  cases aK:aU a 680 with
  |true=>
   rw[aK]at q;cases q
   obtain rfl:=b3 aK
   obtain⟨w,v,l,cL,cr⟩:=uN' B
   subst cL
   obtain⟨t,cx,ev⟩:=sk' cr
   obtain⟨i,aB,el,dI⟩:=cJ' cx
   subst el
   obtain⟨M,H,I⟩:=gn' dI
   obtain⟨y,J,d5⟩:=mu' I
   subst J
   obtain⟨u,K,L⟩:=sk' d5
   cases A with|cons v0 A=>cases A with|cons v1 A=>cases A with|cons v2 A=>cases A with|nil=>
   exact Rv h C ah (by lia) ev L H K S v0 v1 v2
  |false=>
   rw[aK]at q
   clear aK
   cases aW:aU a 1212 with
   |true=>
    rw[aW]at q;cases q
    obtain rfl:=b3 aW
    exact R0 h C D ah cD B S A
   |false=>rw[aW]at q;cases q
def fo (x y:V):Loc:=[(137989629853914678276980,.own 66 (key 66)),(32449033957,.own 63 (key 63)),(1849318,x),(4013321631717,y)]
def ho (bQ:O) (s:St) (xs:List V):T:=T.put (.list xs) (key 66) (T.put (.cell (some (.own 2 (key 2)))) (key 63) (T.put bQ (key 5) (T.put (.dict (hK s) (hl s)) (key 4) (T.put (.dict 0 []) (key 3) (T.put (.inst 1151 (dO dW (g6 s))) (key 2) (T.put (.dict 0 []) (key 1) (T.put (.box 90) (key 0) .nil)))))))
def d0 (bQ:O) (s:St) (xs:List V) (o7 o8:O) (g:List O):aA:=⟨putL g 69 (T.put o8 (key 68) (T.put o7 (key 67) (ho bQ s xs))),bK 69 g.length,key (bK 69 g.length)⟩
def sF:aT:=ra 32449033957
def Gk:c6:=wA (jm 680 [sF,dj 1849318,m9 [dj 4013321631717]])
def zv:aT:=jm 694 [sF,dj 1849318,m9 []]
def zw:aT:=jm 694 [sF,dj 4013321631717,m9 []]
def vA:aT:=jm 680 [sF,dj 1849318,m9 [dj 4013321631717]]
def vB:aT:=jm 680 [sF,dj 4013321631717,m9 [dj 1849318]]
def zx:bV:=ng (ds (.bool false))
def Gl:bV:=nh (pH Gk (pH (jU cA .NotEq zv zw) pI)) zx kG
def vC:bV:=nh (jU cA .NotEq vA vB) zx kG
def vD:bV:=jZ Gl vC
section
variable (bQ:O) (s:St) (xs:List V) (o7 o8:O) (t u:cF)
def Sk (jP:jP):Gk (d0 bQ s xs o7 o8 []) (fo (.any 2 t) (.any 2 u)) jP hn=jP (fh t u) (d0 bQ s xs o7 o8 [.list [.any 2 u]]):=by kernel_rfl
def Sl (K:aY) (a:O):zv (d0 bQ s xs o7 o8 [a]) (fo (.any 2 t) (.any 2 u)) K hn=lI λs1=>mL (h4 (bj t s).2 s1) (K (.int (bj t s).1) (d0 bQ s1 xs o7 o8 [a,.list []])):=by cases s<;>kernel_rfl
def Sm (K:aY) (a b:O):zw (d0 bQ s xs o7 o8 [a,b]) (fo (.any 2 t) (.any 2 u)) K hn=lI λs1=>mL (h4 (bj u s).2 s1) (K (.int (bj u s).1) (d0 bQ s1 xs o7 o8 [a,b,.list []])):=by cases s<;>kernel_rfl
def Sn (K:aY) (a:O):vA (d0 bQ s xs o7 o8 [a]) (fo (.any 2 t) (.any 2 u)) K hn=K (.bool (fh t u)) (d0 bQ s xs o7 o8 [a,.list [.any 2 u]]):=by kernel_rfl
def So (K:aY) (a b:O):vB (d0 bQ s xs o7 o8 [a,b]) (fo (.any 2 t) (.any 2 u)) K hn=K (.bool (fh u t)) (d0 bQ s xs o7 o8 [a,b,.list [.any 2 t]]):=by kernel_rfl
def Sp (K:aY) (a b d:O):vA (d0 bQ s xs o7 o8 [a,b,d]) (fo (.any 2 t) (.any 2 u)) K hn=K (.bool (fh t u)) (d0 bQ s xs o7 o8 [a,b,d,.list [.any 2 u]]):=by kernel_rfl
def Sq (K:aY) (a b d e:O):vB (d0 bQ s xs o7 o8 [a,b,d,e]) (fo (.any 2 t) (.any 2 u)) K hn=K (.bool (fh u t)) (d0 bQ s xs o7 o8 [a,b,d,e,.list [.any 2 t]]):=by kernel_rfl
end
def Sr (ab:aA) (a b:Int):gp cA ab .NotEq (.int a) (.int b)=some (hq (Int.dt a b)):=by kernel_rfl
def Gm (ab:aA) (a b:Bool):gp cA ab .NotEq (.bool a) (.bool b)=some (hq (mm a b)):=by kernel_rfl
def Gn (a:Bool):mm a a=true:=by cases a<;>rfl
def mM (s aq:St):Prop:=s=aq∨s=.e∨(s=.a/\aq=.cG)∨(s=.b/\aq=.lH)
def Go (s:St):mM s s:=.inl rfl
def Gp {a b c:St} (h:mM a b) (k:mM b c):mM a c:=by
 rcases h with rfl|rfl|⟨rfl,rfl⟩|⟨rfl,rfl⟩
 ·exact k
 ·exact .inr (.inl rfl)
 ·rcases k with rfl|k|⟨k,_⟩|⟨k,_⟩
  ·exact .inr (.inr (.inl ⟨rfl,rfl⟩))
  all_goals cases k
 ·rcases k with rfl|k|⟨k,_⟩|⟨k,_⟩
  ·exact .inr (.inr (.inr ⟨rfl,rfl⟩))
  all_goals cases k
def Gq {c:Nat} (A:c=98∨c=99) (s:St):mM s (iy c s).2:=by
 rcases A with rfl|rfl<;>cases s<;>first
  |exact .inl rfl
  |exact .inr (.inl rfl)
  |exact .inr (.inr (.inl ⟨rfl,rfl⟩))
  |exact .inr (.inr (.inr ⟨rfl,rfl⟩))
def Ss (s aq:St):Bool:=St.rec true (pj (h4 .a aq) (h4 .cG aq)) (pj (h4 .b aq) (h4 .lH aq)) (h4 .cG aq) (h4 .lH aq) s
def Su {s aq:St} (h:mM s aq):Ss s aq=true:=by
 rcases h with rfl|rfl|⟨rfl,rfl⟩|⟨rfl,rfl⟩
 ·cases s<;>rfl
 all_goals rfl
def Gr {c:Nat} (A:c=98∨c=99) (s aq:St) (h:mM (iy c s).2 aq):iy c aq=((iy c s).1,aq):=by
 have h:=Su h
 rcases A with rfl|rfl<;>cases s<;>cases aq<;>first|rfl|exact ff h
def vE:∀(t:cF) (s:St),eS t=true->mM s (bj t s).2
 |.eJ,s,_|.h_ _,s,_|.num _,s,_|.ft,s,_|.rng _ _ _,s,_=>Go s
 |.sym _,s,h=>Gq (qI h) s
 |.gi _,s,h=>Gq (qI h) s
 |.l1 t,s,h=>vE t s h
 |.l2 t u,s,h=>by
  obtain⟨ae,ag⟩:=an (show(eS t&&eS u)=true from h)
  exact Gp (vE t s ae) (vE u _ ag)
def Sv:∀(t:cF) (s aq:St),eS t=true->mM (bj t s).2 aq->bj t aq=((bj t s).1,aq):=by
 intro t
 induction t with
 |sym _=>intro s aq h k;exact Gr (qI h) s aq k
 |gi c=>
  intro s aq h k
  have:=Gr (qI h) s aq k
  show(bM (iy c aq).1 1,(iy c aq).2)=(bM (iy c s).1 1,aq)
  rw[this]
 |l1 t A=>
  intro s aq h k
  have:=A s aq h k
  show(bM (bM (eG 31 7) (bj t aq).1) 1,(bj t aq).2)=(bM (bM (eG 31 7) (bj t s).1) 1,aq)
  rw[this]
 |l2 t u A B=>
  intro s aq h k
  obtain⟨ae,ag⟩:=an (show(eS t&&eS u)=true from h)
  have e1:=A s aq ae (Gp (vE u (bj t s).2 ag) k)
  have e2:=B (bj t s).2 aq ag k
  show(bM (bM (eG 31 (bM (bM (eG 31 7) (bj t aq).1) 1)) (bj u (bj t aq).2).1) 1,(bj u (bj t aq).2).2)=(bM (bM (eG 31 (bM (bM (eG 31 7) (bj t s).1) 1)) (bj u (bj t s).2).1) 1,aq)
  rw[e1]
  show(bM (bM (eG 31 (bM (bM (eG 31 7) (bj t s).1) 1)) (bj u aq).1) 1,(bj u aq).2)=_
  rw[e2]
 |_=>exactλZ Z Z Z=>rfl
def Gs (ab:aA) (L:Loc) (K:dy) (au:ef):vC ab L K au=vA ab L (λv ab=>vB ab L (λw ab=>bh (gp cA ab .NotEq v w) λq=>hV q (zx ab L K au) (kG ab L K au)) au) au:=by kernel_rfl
def Sw (a b:bV) (ab:aA) (L:Loc) (K:dy) (au:ef):jZ a b ab L K au=a ab L (λbg ab loc=>Fl.rec (motive:=λZ=>Bool) (b ab loc K au) (K .brk ab loc) (K .cont ab loc) (λv=>K (.ret v) ab loc) bg) au:=rfl
def Sx (t:c6) (b o:bV) (ab:aA) (L:Loc) (K:dy) (au:ef):nh t b o ab L K au=t ab L (λq ab=>hV q (b ab L K au) (o ab L K au)) au:=rfl
def Gu (a b:c6) (ab:aA) (L:Loc) (K:jP) (au:ef):pH a b ab L K au=a ab L (λq aF=>hV q (b aF L K au) (K false aF)) au:=rfl
def Sy (op:k4) (a b:aT) (ab:aA) (L:Loc) (K:jP) (au:ef):jU cA op a b ab L K au=a ab L (λv ab=>b ab L (λw ab=>bh (gp cA ab op v w) λq=>K q ab) au) au:=rfl
def Sz {bQ:O} {s:St} {xs:List V} {o7 o8:O} {t u:cF} {K:dy} (a:O) (A:∀g,K .next (d0 bQ s xs o7 o8 g) (fo (.any 2 t) (.any 2 u))=true):vC (d0 bQ s xs o7 o8 [a]) (fo (.any 2 t) (.any 2 u)) K hn=true:=by
 rw[Gs,Sn,So,Gm,FX u t,Gn]
 exact A _
def SA {bQ:O} {s:St} {xs:List V} {o7 o8:O} {t u:cF} {K:dy} (a b d:O) (A:∀g,K .next (d0 bQ s xs o7 o8 g) (fo (.any 2 t) (.any 2 u))=true):vC (d0 bQ s xs o7 o8 [a,b,d]) (fo (.any 2 t) (.any 2 u)) K hn=true:=by
 rw[Gs,Sp,Sq,Gm,FX u t,Gn]
 exact A _
def SD {bQ:O} {s:St} {xs:List V} {o7 o8:O} {t u:cF} {K:dy} (B:eS t=true) (A:∀aq g,K .next (d0 bQ aq xs o7 o8 g) (fo (.any 2 t) (.any 2 u))=true):vD (d0 bQ s xs o7 o8 []) (fo (.any 2 t) (.any 2 u)) K hn=true:=by
 unfold vD Gl
 rw[Sw,Sx,Gu]
 rw[Sk]
 cases C:fh t u with
 |false=>exact Sz _ (A s)
 |true=>
  obtain rfl:=yW C
  show pH (jU cA .NotEq zv zw) pI _ _ _ _=true
  rw[Gu,Sy,Sl]
  refine oU ?_
  rw[Sm]
  refine oU ?_
  have e:=Sv t s _ B (Go _)
  rw[e,Sr,show Int.dt (bj t s).1 (bj t s).1=true by rw[Int.ky];simp]
  exact SA _ _ _ (A _)
def vF (bQ:O) (xs:List V):bV:=λab loc K au=>@decide (∃s o7 o8 t u,ab=d0 bQ s xs o7 o8 []/\loc=fo (.any 2 t) (.any 2 u)/\eS t=true/\er 69 o7=true/\er 69 o8=true/\∀aq,K .next (d0 bQ aq xs o7 o8 []) loc=true) (dv _)
def SE {g:List O}:∀{n:Nat} {t:T} {i:Nat},i<n->n+g.length<=4096->(putL g n t).get (key i)=t.get (key i):=by
 induction g with
 |nil=>intro n t i _ _;rfl
 |cons o g B=>
  intro n t i af A
  have A:n+(g.length+1)<=4096:=A
  show(putL g (n+1) (T.put o (key n) t)).get (key i)=_
  rw[B (by lia) (by lia),T.cd _ _ (by lia) (by lia),if_neg (by lia)]
def GD {ar:Prop} {bQ:O} {s:St} {xs:List V} {o:O} (af:i<4096) (h:(ho bQ s xs).get (key i)=some o) (cr:i=66->.list xs=o->ar) (cx:i=63->.cell (some (.own 2 (key 2)))=o->ar) (dI:i=5->bQ=o->ar) (A:i=4->.dict (hK s) (hl s)=o->ar) (d5:i=3->.dict 0 []=o->ar)
  (B:i=2->.inst 1151 (dO dW (g6 s))=o->ar) (C:i=1->.dict 0 []=o->ar) (jl:i=0->.box 90=o->ar):ar:=by
 unfold ho at h
 exact wO rfl af h cr λZ h=>wO rfl af h cx λZ h=>wO rfl af h dI λZ h=>wO rfl af h A λZ h=>wO rfl af h d5 λZ h=>wO rfl af h B λZ h=>wO rfl af h C λZ h=>wO rfl af h jl λZ h=>ns h
def zA {bQ:O} {s:St} {xs:List V} {o:O} (A:67<=n) (hm:er n bQ=true) (B:xs.all (cE n)=true) (C:er n (.inst 1151 (dO dW (g6 s)))=true) (he:er n (.dict (hK s) (hl s))=true) (af:i<4096) (h:(ho bQ s xs).get (key i)=some o):er n o=true:=
 GD af h (λZ e=>e▸B) (λZ e=>e▸mP (c5 (ce rfl) A)) (λZ e=>e▸hm) (λZ e=>e▸he) (λZ e=>e▸rfl) (λZ e=>e▸C) (λZ e=>e▸rfl) (λZ e=>e▸rfl)
def SF (s:St):er 69 (.inst 1151 (dO dW (g6 s)))=true:=by cases s<;>kernel_rfl
def SG (s:St):er 69 (.dict (hK s) (hl s))=true:=by cases s<;>kernel_rfl
def SH (t u:cF):∀x v,lk (fo (.any 2 t) (.any 2 u)) x=some v->cE 69 v=true:=λx v h=>by
 have:=md h
 have al:((fo (.any 2 t) (.any 2 u)).all λq=>cE 69 q.2)=true:=by kernel_rfl
 exact eU.mp al _ this
def SI {b:List bI} (I:gG c (b6 c 849) vD f b) (J:df c (b6 c 849) f.b sE) {bQ:O} {xs:List V} (hm:er 69 bQ=true) (A:xs.all (cE 69)=true):gG c (b6 c 849) (vF bQ xs) f b:=λab loc a2 au p s E h S U W=>by
 obtain⟨st,o7,o8,t,u,es,el,K,cM,dg,L⟩:=@of_decide_eq_true _ (dv _) h
 clear h
 subst es el
 have M:p.ay=69:=S.z.ay
 refine hT (I _ _ (λbg ab loc=>@decide (bg=.next/\loc=fo (.any 2 t) (.any 2 u)/\∃aq g,ab=d0 bQ aq xs o7 o8 g) (dv _)) hn p s E (SD K λaq g=>@decide_eq_true _ (dv _) ⟨rfl,rfl,aq,g,rfl⟩) S ((b6 c 849).no _ _ _) J) (λbg X aD aF Y y bF N B D=>?_)
 obtain⟨P,el,aq,g,Q⟩:=@of_decide_eq_true _ (dv _) D
 clear D
 subst P el Q
 obtain⟨m,aj,F,ak,H,a⟩:=B.ex
 have R:69+g.length<=4096:=by
  have ae:=H.small
  have ag:aD.ay=bK 69 g.length:=B.z.ay
  have ax:bK 69 g.length=69+g.length:=rfl
  lia
 have C:=B.cut (bZ:=(d0 bQ aq xs o7 o8 []).t) (n:=69) (cO:=fo (.any 2 t) (.any 2 u)) (by show 69<=69+g.length;lia) (λi af o k8=>by
  have e1:(d0 bQ aq xs o7 o8 g).t.get (key i)=(d0 bQ aq xs o7 o8 []).t.get (key i):=SE (t:=T.put o8 (key 68) (T.put o7 (key 67) (ho bQ aq xs))) af R
  refine⟨by rw[e1,k8];exact .same,?_⟩
  have k8:(T.put o8 (key 68) (T.put o7 (key 67) (ho bQ aq xs))).get (key i)=some o:=k8
  rw[T.cd _ _ (by lia) (by lia)]at k8
  by_cases e:i=68
  ·rw[if_pos e]at k8;cases k8;exact dg
  rw[if_neg e,T.cd _ _ (by lia) (by lia)]at k8
  by_cases e:i=67
  ·rw[if_pos e]at k8;cases k8;exact cM
  rw[if_neg e]at k8
  exact zA (by lia) hm A (SF aq) (SG aq) (by lia) k8) (λx v A=>⟨A,SH t u x v A⟩)
 have G:=bF.cut
 rw[M]at G
 exact⟨aD.cut 69,d0 bQ aq xs o7 o8 [],_,.next,G,N,C,L aq⟩
def iW (bQ:O) (s:St) (xs:List V) (o7:O):aA:=⟨T.put o7 (key 67) (ho bQ s xs),68,key 68⟩
def zB (bQ:O) (s:St) (xs:List V):aA:=⟨ho bQ s xs,67,key 67⟩
def gQ (x:V):Loc:=[(137989629853914678276980,.own 66 (key 66)),(32449033957,.own 63 (key 63)),(1849318,x)]
def h5:Loc:=[(137989629853914678276980,.own 66 (key 66)),(32449033957,.own 63 (key 63))]
abbrev lK (j:Nat):O:=.lit (.own 66 (key 66)) j
def Drawn (xs:List V):Prop:=∀x∈xs,∃t,x=.any 2 t/\eS t=true
def sG:∀{xs:List V} {j:Nat} {x:V},dk xs j=some x->x∈xs/\j<xs.length
 |[],_,_,h=>nomatch (show none=some _ from h)
 |a::l,0,x,h=>by cases(show some a=some x from h);exact⟨.head _,lU _⟩
 |a::l,j+1,x,h=>by
  obtain⟨ae,ag⟩:=sG (xs:=l) (j:=j) (show dk l j=some x from h)
  exact⟨.tail _ ae,mQ ag⟩
def vG (tg:fb) (body:bV) (it:V) (a2:dy) (cl:b5) (n:Nat) (ab:aA) (loc:Loc):kI cA false tg body it a2 cl (n+1) ab loc=
  hC cA false it ab (λv ab=>hZ tg v ab loc (λab loc=>body ab loc (λbg ab loc=>Fl.rec (motive:=λZ=>Bool) (kI cA false tg body it a2 cl n ab loc) (a2 .next ab loc) (kI cA false tg body it a2 cl n ab loc) (λv=>a2 (.ret v) ab loc) bg) ⟨cl,b1⟩)) (λab=>a2 .next ab loc):=rfl
def Gv (x:V) (no:Bool) (cY:V->Bool):step (some x) no cY=cY x:=rfl
def Gw (n:Nat) (v:V) (ab:aA) (loc:Loc) (k:aA->Loc->Bool):hZ (.n n) v ab loc k=k ab (up loc n v):=rfl
def Gx {l m:Loc} {x:Nat}:lk l x=some v->lk (l++m) x=some v:=by
 induction l with
 |nil=>intro h;rw[n_]at h;cases h
 |cons q l B=>
  intro h
  show lk (q::(l++m)) x=_
  rw[gE]at h⊢
  cases A:aU q.1 x with
  |true=>rw[A]at h;exact h
  |false=>rw[A]at h;exact B h
def Gy (bQ:O) (s:St) (xs:List V) (o7:O) (j:Nat) (cY:V->aA->Bool) (no:aA->Bool):hC cA false (.own 68 (key 68)) (d0 bQ s xs o7 (lK j) []) cY no=step (dk xs j) (no (d0 bQ s xs o7 .dead [])) (λx=>cY x (d0 bQ s xs o7 (lK (bS j)) [])):=by kernel_rfl
def Gz (bQ:O) (s:St) (xs:List V) (j:Nat) (cY:V->aA->Bool) (no:aA->Bool):hC cA false (.own 67 (key 67)) (iW bQ s xs (lK j)) cY no=step (dk xs j) (no (iW bQ s xs .dead)) (λx=>cY x (iW bQ s xs (lK (bS j)))):=by kernel_rfl
def SJ (x y:V):up (gQ x) 4013321631717 y=fo x y:=by kernel_rfl
def SK (x y z:V):up (fo x z) 4013321631717 y=fo x y:=by kernel_rfl
def SM (x:V):up h5 1849318 x=gQ x:=by kernel_rfl
def SN (x y:V):up (gQ x) 1849318 y=gQ y:=by kernel_rfl
def SO (bQ:O) (s:St) (xs:List V) (o7:O) (A:bV) (K:dy) (au:ef) (x:V):p2 cA (.n 4013321631717) (dj 137989629853914678276980) A (iW bQ s xs o7) (gQ x) K au=kI cA false (.n 4013321631717) A (.own 68 (key 68)) K au.cl 100 (d0 bQ s xs o7 (lK 0) []) (gQ x):=by kernel_rfl
def SP (bQ:O) (s:St) (xs:List V) (A:bV) (K:dy) (au:ef):p2 cA (.n 1849318) (dj 137989629853914678276980) A (zB bQ s xs) h5 K au=kI cA false (.n 1849318) A (.own 67 (key 67)) K au.cl 100 (iW bQ s xs (lK 0)) h5:=by kernel_rfl
def SQ {bQ:O} {xs:List V} {o7:O} {t:cF} (E:Drawn xs) (F:eS t=true) (cM:er 69 o7=true) {K:dy} {cl:b5} (C:∀aq L,L=gQ (.any 2 t)∨(∃u,L=fo (.any 2 t) (.any 2 u))->K .next (d0 bQ aq xs o7 .dead []) L=true):
  ∀(m j:Nat) (s:St) (L:Loc),xs.length<=j+m->L=gQ (.any 2 t)∨(∃u,L=fo (.any 2 t) (.any 2 u))->kI cA false (.n 4013321631717) (vF bQ xs) (.own 68 (key 68)) K cl (m+1) (d0 bQ s xs o7 (lK j) []) L=true:=by
 intro m
 induction m with
 |zero=>
  intro j s L hm A
  rw[vG,Gy]
  cases B:dk xs j with
  |none=>exact C s L A
  |some x=>obtain⟨_,_⟩:=sG B;lia
 |succ m G=>
  intro j s L hm A
  rw[vG,Gy]
  cases B:dk xs j with
  |none=>exact C s L A
  |some x=>
   obtain⟨D,I⟩:=sG B
   clear B
   obtain⟨u,rfl,J⟩:=E x D,D
   have H:up L 4013321631717 (.any 2 u)=fo (.any 2 t) (.any 2 u):=by
    rcases A with rfl|⟨M,rfl⟩
    ·exact SJ ..
    ·exact SK ..
   rw[Gv,Gw,H]
   exact@decide_eq_true _ (dv _) ⟨s,o7,lK (bS j),t,u,rfl,rfl,F,cM,rfl,λaq=>G (j+1) aq _ (by lia) (.inr ⟨u,rfl⟩)⟩
def zC (bQ:O) (xs:List V):bV:=λab loc K au=>@decide (∃s o7 t,ab=iW bQ s xs o7/\loc=gQ (.any 2 t)/\eS t=true/\er 68 o7=true/\∀aq,K .next (iW bQ aq xs o7) loc=true) (dv _)
def SR (s:St):er 68 (.inst 1151 (dO dW (g6 s)))=true:=by cases s<;>kernel_rfl
def SS (s:St):er 68 (.dict (hK s) (hl s))=true:=by cases s<;>kernel_rfl
def SU (t:cF):∀x v,lk (gQ (.any 2 t)) x=some v->cE 68 v=true:=λx v h=>by
 have:=md h
 have al:((gQ (.any 2 t)).all λq=>cE 68 q.2)=true:=by kernel_rfl
 exact eU.mp al _ this
def SV {x y:V} (h:lk (gQ x) n=some v):lk (fo x y) n=some v:=Gx (l:=gQ x) (m:=[(4013321631717,y)]) h
set_option tactic.hygienic true in
def SW {b:List bI} {bQ:O} {xs:List V} (K:gG c (b6 c 849) (p2 cA (.n 4013321631717) (dj 137989629853914678276980) (vF bQ xs)) f b) (M:df c (b6 c 849) f.b sE) (hd:Drawn xs) (D:xs.length<=90) (hm:er 68 bQ=true) (A:xs.all (cE 68)=true):gG c (b6 c 849) (zC bQ xs) f b:=λab loc a2 au p s E h S d g=>by
 obtain⟨st,o7,t,es,el,N,cM,G⟩:=@of_decide_eq_true _ (dv _) h
 clear h
 subst es el
 have P:p.ay=68:=S.z.ay
 have Q:er 69 o7=true:=by
  clear G S
  revert cM
  have F:∀v,cE 68 v=true->cE 69 v=true:=λv B=>by
   cases v<;>first|rfl|exact mP (Nat.le_succ_of_le (ce B))
  have R:∀l:List V,l.all (cE 68)=true->l.all (cE 69)=true:=λl D=>eU.mpr λv B=>F v (eU.mp D v B)
  have U:∀l:List (Nat×V),(l.all λq=>cE 68 q.2)=true->(l.all λq=>cE 69 q.2)=true:=λl D=>eU.mpr λv B=>F v.2 (eU.mp D v B)
  intro cM
  cases o7<;>first|rfl|exact U _ cM|exact R _ cM|exact F _ cM|(cases cM;done)|skip
  rename_i v
  cases v with
  |none=>rfl
  |some v=>exact F _ cM
 refine hT (K _ _ (λbg ab loc=>@decide (bg=.next/\(loc=gQ (.any 2 t)∨∃u,loc=fo (.any 2 t) (.any 2 u))/\∃aq,ab=d0 bQ aq xs o7 .dead []) (dv _)) hn p s E (by
  rw[SO]
  exact SQ hd N Q (λaq L W=>@decide_eq_true _ (dv _) ⟨rfl,W,aq,rfl⟩) 99 0 st _ (by lia) (.inl rfl)) S ((b6 c 849).no _ _ _) M) (λbg j aD aF k y bF X H I=>?_)
 obtain⟨Y,el,aq,a⟩:=@of_decide_eq_true _ (dv _) I
 clear I
 subst Y a
 have C:=H.cut (bZ:=(iW bQ aq xs o7).t) (n:=68) (cO:=gQ (.any 2 t)) (by show 68<=69+0;lia) (λi af o k8=>by
  have e1:(d0 bQ aq xs o7 .dead []).t.get (key i)=(iW bQ aq xs o7).t.get (key i):=by
   show(T.put .dead (key 68) (T.put o7 (key 67) (ho bQ aq xs))).get (key i)=_
   rw[T.cd _ _ (by lia) (by lia),if_neg (by lia)]
   rfl
  refine⟨by rw[e1,k8];exact .same,?_⟩
  have k8:(T.put o7 (key 67) (ho bQ aq xs)).get (key i)=some o:=k8
  rw[T.cd _ _ (by lia) (by lia)]at k8
  by_cases e:i=67
  ·rw[if_pos e]at k8;cases k8;exact cM
  rw[if_neg e]at k8
  exact zA (by lia) hm A (SR aq) (SS aq) (by lia) k8) (λx v A=>⟨by
   clear H
   rcases el with rfl|⟨u,rfl⟩
   ·exact A
   ·exact SV A,SU t x v A⟩)
 have J:=bF.cut
 rw[P]at J
 exact⟨aD.cut 68,iW bQ aq xs o7,_,.next,J,X,C,G aq⟩
def SX {bQ:O} {xs:List V} (E:Drawn xs) {K:dy} {cl:b5} (C:∀aq L,L=h5∨(∃t,L=gQ (.any 2 t))->K .next (iW bQ aq xs .dead) L=true):
  ∀(m j:Nat) (s:St) (L:Loc),xs.length<=j+m->L=h5∨(∃t,L=gQ (.any 2 t))->kI cA false (.n 1849318) (zC bQ xs) (.own 67 (key 67)) K cl (m+1) (iW bQ s xs (lK j)) L=true:=by
 intro m
 induction m with
 |zero=>
  intro j s L hm A
  rw[vG,Gz]
  cases B:dk xs j with
  |none=>exact C s L A
  |some x=>obtain⟨_,_⟩:=sG B;lia
 |succ m F=>
  intro j s L hm A
  rw[vG,Gz]
  cases B:dk xs j with
  |none=>exact C s L A
  |some x=>
   obtain⟨D,I⟩:=sG B
   clear B
   obtain⟨u,rfl,G⟩:=E x D,D
   have H:up L 1849318 (.any 2 u)=gQ (.any 2 u):=by
    rcases A with rfl|⟨J,rfl⟩
    ·exact SM ..
    ·exact SN ..
   rw[Gv,Gw,H]
   exact@decide_eq_true _ (dv _) ⟨s,lK (bS j),u,rfl,rfl,G,rfl,λaq=>F (j+1) aq _ (by lia) (.inr ⟨u,rfl⟩)⟩
def i1217:c9:=mA (F 126) 1217 (S "_law_hashes_right") (S "_law_hashes_right") (r 1216) []
def qJ:bV:=cp.cL i1217.scope (i1217.body.take 1)
def SY (xs:List V):Bool:=aN (b2 xs.length 90) (bW true (λx Z A=>aN (mH x λk Z=>aU k 6) A) xs)
def zD (loc:Loc) (x i:Nat):Bool:=f4 (lk loc x) λv=>cz v λj Z=>aU j i
def GA (ab:aA) (loc:Loc):Bool:=aN (zD loc 137989629853914678276980 66) (aN (zD loc 32449033957 63) (aN (aU ab.ay 67) (aN (cq false (λo=>wx o λv=>cz v λi Z=>aU i 2) (bn ab (key 63)))
 (aN (fv (bn ab (key 66)) SY) (aN (qE (bn ab (key 4)) true) (j8 (bn ab (key 0)) λa4=>aN (b2 a4 90) (y1 ab (jg (bn ab (key 5)) λaz es=>qD (λq=>aN (aU az (bK 5 (lG q))) (kX ab false (ix iw q) es)) (λZ=>true) hj))))))))
def qK:dy:=λbg ab loc=>Fl.rec (GA ab loc) false false aL bg
def mN:f3:=⟨[(1636473,true),(32449033957,true),(29466883174,false)],[],3,[],qJ⟩
def GB (K:dy) (A:Int):Bool:=gI mN.e_ (je mN.dflt mN.least [.own 0 (key 0),gv,.int A]) ir [] λab loc=>hU mN.cells ab loc λab loc=>qJ ab loc K hn
def SZ:GB qK 0=true:=by kernel_rfl
def S0:GB qK 1=true:=by kernel_rfl
def GC' {ar:Prop} {loc:Loc} {x:Nat} (h:zD loc x i=true) (A:∀k,lk loc x=some (.own i k)->ar):ar:=by
 obtain⟨v,e,ae⟩:=f5' h
 obtain⟨j,k,rfl,ag⟩:=cJ' ae
 obtain rfl:=b3 ag
 exact A k e
def S1 {q:aX} (D:p.n.r=cP c.w) (E:q.n=p.n) (ah:∀e∈p.a6,e∈q.a6):∀{xs:List V} {ai:List am},bW (motive:=λZ=>Bool) true (λx Z B=>aN (mH x λk Z=>aU k 6) B) xs=true->All2 (aE p) xs ai->∃A,Drawn A/\A.length=xs.length/\All2 (aE q) A ai/\∀n,A.all (cE n)=true:=by
 intro xs ai h r
 induction r with
 |nil=>
  exact⟨[],(λZ h=>nomatch h),rfl,All2.nil,λZ=>rfl⟩
 |@cons x v xs ai r t B=>
  obtain⟨ae,ag⟩:=an (show aN (mH x λk Z=>aU k 6) _=true from h)
  clear h
  obtain⟨k,t0,rfl,ax⟩:=vc' ae
  obtain rfl:=b3 ax
  obtain⟨A,c_,fs,gC,iG⟩:=B ag
  obtain⟨⟨l,F,io⟩,cj,_⟩:=r
  rw[D]at io
  obtain⟨bZ,aK,aW,bH⟩:∃bZ,hJ c.w l bZ _/\gc bZ+4<=6/\eS bZ=true:=by
   rcases io with⟨q,_⟩|⟨q,_⟩|⟨_,_,q⟩|q|q|⟨q,_⟩
   ·lia
   ·lia
   ·exact q
   all_goals lia
  refine⟨V.any 2 bZ::A,λx C=>?_,by rw[nY,fs,nY],All2.cons (vg (c:=c) (p:=q) (l:=l) (by rw[E];exact D) (λe he=>ah e (F e he)) (eh _) (by lia) bH cj aK) gC,λn=>by rw[oX,iG n];rfl⟩
  rcases bJ.mp C with rfl|C
  ·exact⟨bZ,rfl,bH⟩
  ·exact c_ x C
def GF {loc:Loc} {ak:Nat} {aB:ck} (B:db f p loc m) (C:lk loc ak=some (.own i aB)) (af:i<n):db f (p.cut n) [(ak,.own i (key i))] m:=λx v D A=>by
 have hm:=md A
 clear A
 rcases bJ.mp hm with e|hm
 clear hm
 ·injection e with e1 e2
  subst e2
  rcases B x _ D (by rw[e1];exact C)with⟨a,val,b,r⟩|⟨a,F,G,E,e1,r,q⟩
  ·exact .inl ⟨a,val,b,⟨af,rfl,r.2.2⟩⟩
  ·cases e1
   exact .inr ⟨a,i,key i,E,rfl,⟨af,rfl,r.2.2⟩,q⟩
 ·cases hm
def GG (ak:Nat) (v:V):lk [(ak,v)] ak=some v:=by
 rw[gE,s_]
def S2 (h:Std c) (T:c.n.r=cP c.w) {loc:Loc} (S:ba c f p ab loc s) (k8:GA ab loc=true):∃q∈hj,∃A,Drawn A/\A.length<=90/\(∀n,A.all (cE n)=true)/\p.ay=67/\ba c f (p.cut 67) (zB (fE dV q) .e A) h5 s:=by
 obtain⟨cr,ae⟩:=an k8
 obtain⟨cx,ag⟩:=an ae
 obtain⟨dI,ax⟩:=an ag
 obtain⟨U,aS⟩:=an ax
 obtain⟨d5,bA⟩:=an aS
 obtain⟨V,cw⟩:=an bA
 obtain⟨a4,fK,cM⟩:=nw' cw
 obtain⟨J,dg⟩:=an cM
 obtain⟨ao,g2,W,g1,g3,ik⟩:=zg' dg
 obtain⟨az,es,dY,lq⟩:=lj' ik
 obtain⟨q,X,ot,_⟩:=vt' lq
 obtain⟨Y,L⟩:=an ot
 rw[b3 Y]at dY
 obtain⟨E,_⟩:=za' V
 obtain⟨xs,G,uR⟩:=gn' d5
 obtain⟨M,d⟩:=an uR
 obtain⟨fx,N,g⟩:=Bz' U
 obtain⟨aL,aM,j,O⟩:=cJ' g
 subst j
 obtain rfl:=b3 O,O
 obtain⟨aN,k⟩:=GC' cr
 obtain⟨aO,l⟩:=GC' cx
 rw[bP]at fK g1 g2 g3 E dY G
 have u:p.ay=67:=S.z.ay.trans (b3 dI)
 have C:p.n.r=cP c.w:=by rw[S.n];exact T
 obtain⟨m,aj,F,ak,H,P⟩:=S.ex
 have hd:oS ab.t a4 ao (bK 5 (lG q)) es:=⟨fK,g1,g2,g3,dY⟩
 have Q:(p.cut 67).n.r=cP c.w:=C
 have aa:∀i,i<8->(p.cut 67).a i=p.a i/\(p.cut 67).b i=p.b i/\(p.cut 67).e i=p.e i:=λZ Z=>⟨rfl,rfl,rfl⟩
 have hm:∀i,gP i->∀z∈aj,z.1=p.a i∨z.1=p.b i->z∈aj:=λZ Z Z D Z=>D
 have ah:sx p (p.cut 67) 8:=⟨rfl,λi af=>by show i<67;lia,λZ Z=>rfl,λZ z=>z⟩
 have J:a4<=90:=ce J
 obtain⟨al,am,ap⟩:=ze (q:=p.cut 67) (kU:=90) H hd (by lia) aa hm (by show p.y+a4<=p.y+(90:Nat);lia)
 obtain⟨fs,aq,ar⟩:=zf (q:=p.cut 67) H hd.g2 (by lia) ⟨rfl,rfl⟩ hm
 have as:=ar (dO dW 8) (lF h.K (sz _ _)) (sy C ah (vq dW 8 trivial) W aq)
 obtain⟨gV,au,av⟩:=Gf (q:=p.cut 67) H hd.dY (by lia) ⟨rfl,rfl⟩ hm
 have aw:=av (jG dV (ix iw q)) (by rw[vv,vu L]) (zb Q (Gc H C Q (λZ z=>z)) L au)
 obtain⟨ai,aA,aB,aC⟩:=H.ent 66 _ (by lia) G
 obtain⟨A,aD,aP,aE,aF⟩:=S1 (c:=c) (q:=p.cut 67) C rfl (λZ z=>z) d aC
 have M:xs.length<=90:=ce M
 have lv:∀i,i<67->bG (ho (fE dV q) .e A) i->bG ab.t i:=λi af aG=>by
  obtain⟨o,aK,aW⟩:=aG
  refine GD (by lia) aK (λe Z=>?_) (λe Z=>?_) (λe Z=>?_) (λe Z=>?_) (λe Z=>?_) (λe Z=>?_) (λe Z=>?_) (λe Z=>?_)<;>(clear af aK;subst e)
  ·exact⟨_,G,rfl⟩
  ·exact⟨_,N,rfl⟩
  ·exact⟨_,dY,rfl⟩
  ·exact⟨_,E,rfl⟩
  ·exact⟨_,g3,rfl⟩
  ·exact⟨_,g2,rfl⟩
  ·exact⟨_,g1,rfl⟩
  ·exact⟨_,fK,rfl⟩
 have aH:aQ c.K c.w (p.cut 67) (ho (fE dV q) .e A) aj:=by
  refine aQ.part H H.a_ (λi af li=>⟨by have:i<67:=af;lia,lv i af li,rfl,rfl⟩) (λi af li Z Z=>H.mem i af li) (λi o af k8=>?_) (by show 67<=4096;lia) (λz D=>⟨H.a6 z D,λi af li=>H.eB i (by have:i<67:=af;lia) (lv i af li) z D⟩)
  have af:i<67:=af
  refine GD (by lia) k8 (λe q=>?_) (λe q=>?_) (λe q=>?_) (λe q=>?_) (λe q=>?_) (λe q=>?_) (λe q=>?_) (λe q=>?_)<;>(clear af k8;subst e;subst q)
  ·exact⟨ai,aA,aB,aE⟩
  ·obtain⟨o,x,I,e1,val,ex,di⟩:=H.ent 63 _ (by lia) N
   exact⟨o,x,I,e1,val,ex,⟨by show 2<67;lia,rfl,di.2.2⟩⟩
  ·exact aw
  ·obtain⟨a_,aR,I,aI⟩:=H.ent 4 _ (by lia) E
   cases aI
   exact⟨a_,[],I,.nil⟩
  ·exact ap
  ·exact as
  ·exact am
  ·exact al
 refine⟨q,X,A,aD,by lia,aF,u,⟨⟨m,aj,F,ak,aH,λx v R aJ=>?_⟩,S.gens,S.os,⟨rfl,by show key 67=key 67;rfl⟩,S.n,S.y⟩⟩
 have B:=md aJ
 rcases bJ.mp B with e|B
 ·injection e with e1 e2
  exact GF P k (by lia) x v R (by rw[e2,e1];exact GG _ _)
 ·rcases bJ.mp B with e|B
  ·injection e with e1 e2
   exact GF P l (by lia) x v R (by rw[e2,e1];exact GG _ _)
  ·cases B
def S3:b5:=hc iq cg 24
abbrev zE:ef:=⟨S3,b1⟩
def zF:bV:=cp.cL i1217.scope (i1217.body.drop 2)
def vH (n:Int) (bQ:O) (s:St) (xs:List V):T:=T.put (.inst 1151 (dO (.int n) (g6 s))) (key 2) (ho bQ s xs)
def zG:dy:=λbg ab loc=>Fl.rec false false false (λv=>aN (vBool v λb=>b) (j8 (bn ab (key 0)) λb=>b2 b 200)) bg
def zH (n:Nat) (b:Bool):Bool:=gg b (λZ A=>aN A true) n
def GH:∀n,zH n true=true
 |0=>rfl
 |n+1=>by show aN (zH n true) true=true;rw[GH n];rfl
def S4 (n:Int) (s:St) (xs:List V):∀q∈hj,zF ⟨vH n (fE dV q) s xs,67,key 67⟩ h5 zG zE=aN (zH 25 (Int.dt (bM n 1) (bM n 1))) true:=by
 intro q A
 unfold hj at A
 repeat (rcases bJ.mp A with rfl|A;·kernel_rfl)
 cases A
def S5 (n:Int) (s:St) (xs:List V) (q:List Nat) (A:q∈hj):zF ⟨vH n (fE dV q) s xs,67,key 67⟩ h5 zG zE=true:=by
 rw[S4 n s xs q A,show Int.dt (bM n 1) (bM n 1)=true by rw[Int.ky];simp,GH]
 rfl
def nJ (v:V):Bool:=V.rec true (λZ=>true) (λZ=>true) (λZ=>true) (λZ=>true) (λZ Z=>true) (λZ=>true) a1 v
def sH:O->Bool
 |.inst _ ao=>ao.all λq=>nJ q.2
 |.dict _ ao=>ao.all λq=>nJ q.2
 |.list xs=>xs.all nJ
 |.tuple xs=>xs.all nJ
 |.box _=>true
 |.dead=>true
 |_=>false
abbrev aX.gd (p:aX) (n:Lt):aX:={p with n:=n}
section
variable {n:Lt} (af:n.i=p.n.i)
include af
def aE.gd {u:am} (h:nJ v=true) (r:aE p v u):aE (p.gd n) v u:=by
 cases v with
 |sym c=>obtain⟨i,t,e,k⟩:=r;exact⟨i,t,e,by show∀k:Nat,(c=k->i=n.i k)/\_;rw[af];exact k⟩
 |any _ _=>cases h
 |_=>exact r
def GI:∀{ao:List (Nat×V)} {es:List cu},(ao.all λq=>nJ q.2)=true->cm w p ao es->cm w (p.gd n) ao es:=by
 intro ao es h r
 induction r with
 |nil=>
  exact .nil
 |@cons x e xs es r t A=>
  rw[oX,ed]at h
  exact .cons ⟨r.1,r.2.gd af h.1⟩ (A h.2)
def GJ:∀{xs:List V} {ai:List am},xs.all nJ=true->All2 (aE p) xs ai->All2 (aE (p.gd n)) xs ai:=by
 intro ao es h r
 induction r with
 |nil=>
  exact .nil
 |@cons x e xs es r t A=>
  rw[oX,ed]at h
  exact .cons (r.gd af h.1) (A h.2)
def ch.gd {aj:bc} {o:O} (A:sH o=true) (h:ch K w p aj i o):ch K w (p.gd n) aj i o:=by
 cases o with
 |inst C ao=>obtain⟨B,ae,es,m,ag,ax⟩:=h;exact⟨B,ae,es,m,ag,GI af A ax⟩
 |dict az ao=>obtain⟨B,es,ag,ax⟩:=h;exact⟨B,es,ag,GI af A ax⟩
 |list xs=>obtain⟨ai,m,ag,ax⟩:=h;exact⟨ai,m,ag,GJ af A ax⟩
 |tuple xs=>obtain⟨ai,m,ag,ax⟩:=h;exact⟨ai,m,ag,GJ af A ax⟩
 |box _=>obtain⟨x,y,t,u,m,ae,ag⟩:=h;exact⟨x,y,t,u,m,ae,ag⟩
 |dead=>trivial
 |_=>cases A
def aQ.gd {t:T} {aj:bc} (H:aQ K w p t aj) (A:∀i,i<p.ay->∀o,t.get (key i)=some o->sH o=true):aQ K w (p.gd n) t aj:=
 ⟨H.a_,λi o ae ag=>ch.gd af (A i ae o ag) (H.ent i o ae ag),H.aa,H.dp,H.cG,H.mem,H.small,H.a6,H.eB⟩
end
def zI (t:T) (n:Nat):Bool:=gg true (λi A=>aN A (cq true sH (t.get (key i)))) n
def GL {t:T}:∀{n:Nat},zI t n=true->∀i,i<n->∀o,t.get (key i)=some o->sH o=true
 |n+1,h,i,af,o,k8=>by
  obtain⟨ae,ag⟩:=an (show aN (zI t n) (cq (motive:=λZ=>Bool) true sH (t.get (key n)))=true from h)
  clear h
  by_cases e:i=n
  clear af ae
  ·subst e;rw[k8]at ag;exact ag
  ·exact GL ae i (by lia) o k8
def S6:zI mC 62=true:=by kernel_rfl
def S7 (P:bR):gH (KF P) i1217:=nq (cR:=.type "function") (cB:=none) (gX:=#[]) ak (ai "law_nu0299_01" 1980) [] 3 0 (by kernel_rfl) (λv S=>by kernel_rfl) (by kernel_rfl) (λp=>.nil) (by kernel_rfl) (by kernel_rfl)
def S8 (P:bR):kx (KF P) mN i1217:=uw (by kernel_rfl) (by kernel_rfl) (by kernel_rfl)
def vI:bI:=hQ i1217.body 1
def zJ:bI:=hQ (ux vI) 0
def gF:(aM×aM)×(List bI×bO):=((eN (h0 vI) 0,eN (h0 vI) 1),(ux vI,⟨919,4,924,28⟩))
def fn:(aM×aM)×(List bI×bO):=((eN (h0 zJ) 0,eN (h0 zJ) 1),(ux zJ,⟨920,8,924,28⟩))
def S9:i1217.body=i1217.body.take 1++([.For gF.1.1 gF.1.2 gF.2.1 [] gF.2.2]++i1217.body.drop 2):=by kernel_rfl
def S_:gF.2.1=[.For fn.1.1 fn.1.2 fn.2.1 [] fn.2.2]:=by kernel_rfl
def Ta:cp.cL i1217.scope (i1217.body.take 1)=qJ:=rfl
def Tb:im i1217.scope gF.1.1=some (.n 1849318):=by kernel_rfl
def Tc:cp.ev i1217.scope gF.1.2=dj 137989629853914678276980:=by kernel_rfl
def Td:im i1217.scope fn.1.1=some (.n 4013321631717):=by kernel_rfl
def Te:cp.ev i1217.scope fn.1.2=dj 137989629853914678276980:=by kernel_rfl
def Tf:cp.cL i1217.scope fn.2.1=vD:=by kernel_rfl
def Tg:cp.cL i1217.scope (i1217.body.drop 2)=zF:=rfl
def Th:(g0 gF.1.2,g0 fn.1.2)=(true,true):=by kernel_rfl
def Ti (q:List Nat) (n:Nat):er n (fE dV q)=true:=by
 have:∀l:List Nat,((jG dV l).all λz=>cE n z.2)=true:=λl=>by
  induction l with
  |nil=>rfl
  |cons a l A=>
   show((cE n (bk (motive:=λZ=>V) qB dV (aU a eb)))&&((jG dV l).all λz=>cE n z.2))=true
   rw[A]
   cases aU a eb<;>rfl
 exact this _
def Tj (s:St):er 67 (.inst 1151 (dO dW (g6 s)))=true:=by cases s<;>kernel_rfl
def Tk (s:St):er 67 (.dict (hK s) (hl s))=true:=by cases s<;>kernel_rfl
def Tl:∀x v,lk h5 x=some v->cE 67 v=true:=λx v h=>by
 have:=md h
 have al:(h5.all λq=>cE 67 q.2)=true:=by kernel_rfl
 exact eU.mp al _ this
def Tm {x:V} (h:lk h5 n=some v):lk (gQ x) n=some v:=Gx (l:=h5) (m:=[(1849318,x)]) h
def Tn (h:Std c) (Y:c.n.r=cP c.w) (al:c.y<=700) {B:bL} (P:aZ c B) (G:B.sc=i1217.scope) (ad:B.d+9<=B.b) (cG:B.b=20) {Q:aX} {R:aA} {S:Loc} (am:ba c B Q R S s) (ao:qJ R S qK hn=true):
  aO (aR c.prog c.w) B.A (jJ i1217.body B.env) (λbg aq=>∃v aD aF,bg=.ret v/\Q.bN aD/\v=.bool true/\(∃b,bn aF (key 0)=some (.box b)/\b<=200)/\∃cO,ba c B aD aF cO aq) E s:=by
 have rc:=h.rc P ad (by lia)
 have U:∀(g:bL) p E,(b6 c 849).ok g p b1 E:=λg p E=>(b6 c 849).no g p E
 have J:df c (b6 c 849) B.b sE:=by rw[cG];exact Sj h Y al
 have a:=qk h.K
 have s1:=rc.cL (i1217.body.take 1)
 rw[G,Ta]at s1
 have eX:=rc.cL (i1217.body.drop 2)
 rw[G,Tg]at eX
 have j:=rc.ev gF.1.2
 rw[G,Tc]at j
 have l:=rc.ev fn.1.2
 rw[G,Te]at l
 have u:=rc.cL fn.2.1
 rw[G,Tf]at u
 have ap:=Th
 injection ap with ar as
 rw[S9]
 refine nA (hT (s1 R S qK hn Q s _ ao am (U _ _ _) J) (λbg bf M bh bi au av aw ax N=>?_))
 cases au with
 |brk=>cases N
 |cont=>cases N
 |ret _=>cases N
 |next=>
 cases aw
 obtain⟨q,az,D,aa,aB,V,aC,aE⟩:=S2 h Y ax N
 have W:∀n,er n (fE dV q)=true:=Ti q
 have aG:gG c (b6 c 849) (vF (fE dV q) D) B fn.2.1:=SI u J (W 69) (V 69)
 have aH:gG c (b6 c 849) (zC (fE dV q) D) B gF.2.1:=by
  rw[S_]
  exact SW (xf (xk a P (nn (f:=B) (by rw[G];exact Td)) l aG as)) J aa aB (W 68) (V 68)
 have aI:=xf (xk (pos:=gF.2.2) a P (nn (f:=B) (by rw[G];exact Tb)) j aH ar)
 refine nA (hT (aI (zB (fE dV q) .e D) h5 (λbg ab loc=>@decide (bg=.next/\∃aq,ab=iW (fE dV q) aq D .dead/\(loc=h5∨∃t,loc=gQ (.any 2 t))) (dv _)) hn _ _ _ (by
  rw[SP]
  exact SX aa (λaq L aJ=>@decide_eq_true _ (dv _) ⟨rfl,aq,rfl,aJ⟩) 99 0 .e _ (by lia) (.inl rfl)) aE (U _ _ _) J) (λbg ae O bj bk bl aK aL ag ah=>?_))
 obtain⟨rfl,aq,rfl,aM⟩:=@of_decide_eq_true _ (dv _) ah
 clear ah
 cases aL
 have C:=ag.cut (bZ:=ho (fE dV q) aq D) (n:=67) (cO:=h5) (by show 67<=68;lia) (λi af o k8=>by
  have e1:(iW (fE dV q) aq D .dead).t.get (key i)=(ho (fE dV q) aq D).get (key i):=by
   show(T.put .dead (key 67) (ho (fE dV q) aq D)).get (key i)=_
   rw[T.cd _ _ (by lia) (by lia),if_neg (by lia)]
  exact⟨by rw[e1,k8];exact .same,zA (by lia) (W 67) (V 67) (Tj aq) (Tk aq) (by lia) k8⟩) (λx v X=>⟨by
   clear ag
   rcases aM with rfl|⟨t,rfl⟩
   ·exact X
   ·exact Tm X,Tl x v X⟩)
 obtain⟨m,aj,F,ak,H,aP⟩:=C.ex
 have g2:(ho (fE dV q) aq D).get (key 2)=some (.inst 1151 (dO dW (g6 aq))):=by kernel_rfl
 have bm:(O.cut 67).ay=67:=rfl
 obtain⟨⟨bx,_⟩,aS,aT,aU,aV,r⟩:=H.ent 2 _ (by show 2<67;lia) g2
 obtain⟨n,aW⟩:=F7 r
 have aY:aQ c.K c.w (O.cut 67) (vH n (fE dV q) aq D) aj:=H.named (by show 2<67;lia) ⟨_,g2,rfl⟩ ⟨⟨bx,lF h.K (sz _ _)⟩,aS,aT,aU,aV,aW⟩
 have a1:ba c B (O.cut 67) ⟨vH n (fE dV q) aq D,67,key 67⟩ h5 ae:=⟨⟨m,aj,F,ak,aY,aP⟩,C.gens,C.os,⟨rfl,by show key 67=key 67;rfl⟩,C.n,C.y⟩
 refine hT (eX _ _ zG zE _ ae _ (S5 n aq D q az) a1 (U _ _ _) (by rw[cG];exact j6 h.a0 (j_ h.a0) 24 20 (by lia))) (λbg bo a2 ai a3 a5 a6 a7 a8 I=>?_)
 cases a5 with
 |next=>cases I
 |brk=>cases I
 |cont=>cases I
 |ret w=>
 obtain⟨val,rfl,a9⟩:=a7
 obtain⟨a_,jl⟩:=an (show aN (vBool w λb=>b) (j8 (bn ai (key 0)) λb=>b2 b 200)=true from I)
 clear I
 obtain⟨b,rfl,bb⟩:=pT' (k:=λb=>b) a_
 obtain⟨a4,bc,bd⟩:=nw' jl
 cases a9
 have e34:M.bN (M.cut 67):=by rw[<-aC];exact(aX.bN.refl M).cut
 have be:(M.cut 67).bN (O.cut 67):=aK.cut
 refine⟨_,a2,ai,rfl,((av.trans e34).trans be).trans a6,by rw[bb],⟨a4,bc,ce bd⟩,a3,a8⟩
def To:nJ gv=true:=by kernel_rfl
def Tp {b:Nat} (A:b<=200):h1 (.bool true) ⟨T.put (.box b) (key 0) .nil,62,key 62⟩=true:=by
 show aN true (j8 (bn ⟨T.put (.box b) (key 0) .nil,62,key 62⟩ (key 0)) λn=>b2 n 200)=true
 rw[bP]
 show aN true (j8 ((T.put (.box b) (key 0) .nil).get (key 0)) λn=>b2 n 200)=true
 rw[T.cd _ _ (by lia) (by lia),if_pos rfl]
 show b2 b 200=true
 exact mP A
def Tq (h:Std c):kb c 1217 none:=by
 intro x y v f p V m aj s E I W Y ah hd aR aS aT aU F ak H z gs os J M A
 have cX:aQ c.K c.w p mC aj:=uP H z.ay J W M
 have af:((c.at x y).hs).n.i=p.n.i:=by rw[J]
 have N:p.ay=62:=z.ay
 have g:aQ c.K c.w (p.gd ((c.at x y).hs).n) mC aj:=cX.gd af λi ae o k8=>GL S6 i (by lia) o k8
 have ag:Std ((c.at x y).hs):=⟨h.K,h.jt⟩
 have j:aZ ((c.at x y).hs) f:=⟨ah.X,ah.T,ah.iH,ah.depth,ah.units,ah.eC,ah.dp,ah.cj,ah.em,ah.kind,ah.locals,ah.globals,ah.builtins,ah.iI,ah.iJ,ah.lc,ah.kv,ah.me⟩
 have ok:=S7 c.w.params
 rw[<-h.K]at ok
 have O:=S8 c.w.params
 rw[<-h.K]at O
 obtain⟨k,l,r,t,u⟩:=O
 have P:All2 (aE (p.gd ((c.at x y).hs).n)) [.own 0 (key 0),gv,v] V:=by
  cases A with|cons C A=>cases A with|cons Q A=>cases A with|cons D A=>cases A with|nil=>
  refine .cons (C.gd af rfl) (.cons (Q.gd af To) (.cons (D.gd af ?_) .nil))
  clear D
  rcases I with rfl|rfl<;>rfl
 clear A
 have aa:gI mN.e_ (je i1217.dflt i1217.least [.own 0 (key 0),gv,v]) ir [] (λab loc=>hU mN.cells ab loc λab loc=>qJ ab loc qK hn)=true:=by
  clear P
  rw[<-r,<-t]
  rcases I with rfl|rfl
  ·exact SZ
  ·exact S0
 refine enter (c:=(c.at x y).hs) (aJ:=i1217) (e_:=mN.e_) (cl:=mN.cells) (KK:=λab loc=>qJ ab loc qK hn) (d:=10) (by lia) ok k l u j hd F ak g (ab:=ir) ⟨z.ay,z.bz⟩ P aa λR aV ai al am an ao bo ap aW C Q D aX aq S aY a0 ar as e02 au av aw az a1 lv=>?_
 have aA:ba ((c.at x y).hs) R al am an {s with heap:=ao,toks:=bo}:=⟨⟨_,ai++aj,ar,as,av,aw⟩,gs,os,au,e02.n,e02.y.trans M⟩
 refine b_ (Tn ag rfl Y ap C (by rw[aq,S];lia) S aA az) (λbg a2 aB=>?_) λZ Z h=>h
 obtain⟨a3,aD,aF,rfl,bF,rfl,⟨b,U,aC⟩,cO,G⟩:=aB
 obtain⟨hX,B,aG,aH,aI,_⟩:=G.ex
 refine lv _ _ ⟨R.L,hX,B,aG,aH,λaK aL=>?_⟩
 have e2:=e02.trans bF
 have aM:62<=aD.ay:=by have ae:=e2.ay;have ax:(p.gd ((c.at x y).hs).n).ay=62:=N;lia
 dsimp only[bP]at U
 have aN:aQ c.K c.w (aD.cut 62) (T.put (.box b) (key 0) .nil) B:=aQ.cut aI aM λi ae o k8=>by
  rw[T.cd _ _ (by lia) (by lia)]at k8
  clear ae
  by_cases q:i=0
  ·rw[if_pos q]at k8;cases k8;subst q;rw[U];exact⟨.same,rfl⟩
  ·rw[if_neg q]at k8;cases k8
 have aO:aQ c.K c.w ((aD.cut 62).gd p.n) (T.put (.box b) (key 0) .nil) B:=aQ.gd (p:=aD.cut 62) (n:=p.n) (by rw[<-af];exact congrArg Lt.i e2.n.symm) aN λi ae o k8=>by
  have ae:i<62:=ae
  rw[T.cd _ _ (by lia) (by lia)]at k8
  by_cases q:i=0
  ·rw[if_pos q]at k8;cases k8;rfl
  ·rw[if_neg q]at k8;cases k8
 have aP:p.bN ((aD.cut 62).gd p.n):=⟨rfl,e2.y,by rw[N];exact eh _,e2.a,e2.b,e2.e,e2.a6⟩
 exact Kept.toG ⟨⟨(aD.cut 62).gd p.n,⟨T.put (.box b) (key 0) .nil,62,key 62⟩,.bool true,B,aP,rfl,aK,aL,aO,⟨rfl,by show key 62=key 62;rfl⟩,Tp aC⟩,G.gens,G.os⟩
def Tr (h:Std c) (dT:gw c) (a:Nat) (A:a∈mF):kb c a (f9 a):=by
 unfold mF at A
 rcases bJ.mp A with rfl|A
 ·exact Pb h dT
 rcases bJ.mp A with rfl|A
 ·exact(QE h).toG
 rcases bJ.mp A with rfl|A
 ·exact Tq h
 rcases bJ.mp A with rfl|A
 ·exact QA h dT
 rcases bJ.mp A with rfl|A
 ·exact(QD h).toG
 rcases bJ.mp A with rfl|A
 ·exact(QM h).toG
 cases A
def T6:L.Holds:=OZ λc h dT a A=>Tr h dT a A
end Mine
theorem PySem.Challenge.cw_nu0299_01_holds : PySem.Challenge.rw_nu0299_01.Holds :=
Mine.T6
