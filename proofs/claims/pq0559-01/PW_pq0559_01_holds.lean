import PyProof.Rows.All
import Wide.All
import OpenK.AllK
import Wide.FinOn
import KE.KDictSum
import Lean
import PySem.Challenge.RW_pq0559_01
namespace Mine.Internal
set_option Elab.async false
set_option linter.all false
set_option maxHeartbeats 1000000
set_option maxRecDepth 100000
set_option bootstrap.genMatcherCode false
set_option tactic.hygienic false
set_option genSizeOf false
set_option genSizeOfSpec false
open _root_.Array renaming any_toList→w7,ext'→Rj,getElem?_eq_getElem→bk,getElem?_eq_some_iff→iB,getElem?_extract→C2,getElem?_reverse→C1,getElem?_toList→cP,length_toList→n8,mem_toList_iff→Fj,perm_iff_toList_perm→j_,size_append→l_,size_map→Mh,size_push→jL,size_reverse→vd,toList_extract→Fh,toList_inj→JV,toList_map→JZ,toList_modify→GL,toList_push→j3,toList_reverse→m8,toList_setIfInBounds→An
open _root_.Array.Perm renaming refl→Fq,trans→Yn
open _root_.Bool renaming and_eq_true→gL,and_eq_true_iff→dC,and_false→NL,eq_false_iff→pY,eq_iff_iff→nY,false_eq_true→iD,false_ne_true→jB,or_eq_true→di
open _root_.Char renaming toNat→V'
open _root_.Classical renaming axiomOfChoice→YE,byContradiction→yq,choice→E8,choose_spec→YD,epsilon→Ed,epsilon_spec→Ag
open _root_.Eq renaming refl→Wa
open _root_.Exists renaming imp→gm
open _root_.ForInStep renaming yield→qx
open _root_.Int renaming add_comm→E9,add_nonneg→uk,add_sub_cancel→JI,fdiv_eq_ediv_of_nonneg→Bw,le_of_lt→iw,le_refl→jD,le_trans→gQ,lt_of_le_of_lt→wb,lt_of_lt_of_le→fU,lt_trans→mH,min_eq_left→NG,mul_nonneg→um,natCast_nonneg→fT,natCast_succ→L_,negSucc_lt_zero→Jt,neg_le_neg→uq,not_lt→sM,not_lt_of_ge→Mc,not_ofNat_neg→qw,ofNat_inj→ew,ofNat_le→kK,ofNat_lt→dB,ofNat_ne_zero→qB,ofNat_sub→Qv,sub_eq_iff_eq_add→GB,sub_sub→uh,toNat_natCast→gw
open _root_.List renaming Nodup→Bn,all_cons→qy,all_eq_true→cT,all_map→gN,all_toArray→Lw,any_cons→Og,append_assoc→av,append_nil→dY,cons_ne_nil→qU,contains_iff_mem→Ff,count_append→J2,count_cons→sQ,drop_drop→Bq,drop_eq_getElem_cons→gF,drop_length→Ly,eq_nil_of_length_eq_zero→gV,eq_nil_or_concat→mS,ext_getElem?→dJ,extract_eq_take_drop→Bx,filter_append→iF,filter_cons→jo,filter_eq_nil_iff→Eh,filter_sublist→hO,find?_cons→Mb,findIdx?_cons→vH,findIdx?_toArray→Fc,flatMap_append→Hi,foldl→rX,foldl_append→eJ,foldl_cons→e8,foldl_nil→NR,forIn_cons→za,forIn_nil→NP,forall_mem_cons→GN,getElem?_append_left→ar,getElem?_append_right→aH,getElem?_cons_succ→cD,getElem?_drop→eu,getElem?_eq_getElem→ag,getElem?_eq_none→cH,getElem?_eq_none_iff→gD,getElem?_eq_some_iff→ae,getElem?_inj→cj,getElem?_map→ak,getElem?_range→dP,getElem?_replicate→dt,getElem?_reverse→Fe,getElem?_set→dK,getElem?_set_ne→eg,getElem?_set_self→bO,getElem?_take_of_lt→cQ,getElem?_toArray→sZ,getElem?_zipIdx→cb,getElem_cons_drop→Ef,getElem_idxOf→dN,getElem_mem→dw,getLast?_append→nx,idxOf_append→pZ,idxOf_lt_length_iff→bD,idxOf_lt_length_of_mem→oC,length→aa,length_append→bC,length_cons→jn,length_drop→Ls,length_eq_zero_iff→C3,length_filter_eq_length_iff→wG,length_filter_le→fc,length_map→aq,length_nil→sO,length_range→bZ,length_replicate→dM,length_set→b_,length_take→bP,length_zipIdx→fC,lookup→nv,lookup_cons→cq,lookup_eq_some_iff→lZ,map→NO,mapM_toArray→J0,map_append→bo,map_congr_left→oo,map_cons→ck,map_fst_zip→kE,map_inj_left→JR,map_inj_right→Jw,map_map→bE,map_nil→mA,map_set→eS,map_snd_zip→qV,map_take→m9,mem_append→aE,mem_append_left→cE,mem_append_right→jZ,mem_cons→bb,mem_filter→dj,mem_flatMap→yy,mem_iff_getElem?→aC,mem_map→ay,mem_map_of_mem→bY,mem_of_getElem?→ai,mem_of_mem_drop→iU,mem_of_mem_take→iT,mem_range→cf,mem_singleton→au,mem_take_iff_getElem→By,mem_toArray→Lx,nil_prefix→Mk,nodup_append→cz,nodup_cons→cw,nodup_range→eD,not_mem_nil→bq,of_mem_zip→Ml,pairwise_append→fZ,pairwise_cons→lV,pairwise_iff_getElem→iQ,pairwise_lt_range→rZ,pairwise_map→cK,perm_append_comm→Fg,prefix_append→lX,prefix_append_right_inj→g8,prefix_refl→kG,push_toArray→JU,range→aJ,range'→GD,range'_succ→Lu,range_succ→gY,replicate→aw,replicate_succ→Hb,reverse_cons→JN,reverse_perm→wF,set_append_left→ny,set_append_right→gG,set_cons_succ→vL,set_set→oB,singleton_append→Ft,size_toArray→eI,sum_append→n9,sum_cons→fO,sum_nil→r8,take→Lz,take_add_one→fN,take_append_drop→fe,take_append_of_le_length→yG,take_length→bJ,take_of_length_le→iu,take_prefix→yz,take_sublist→J1,take_zero→Bp,zipIdx_append→lW,zipIdx_cons→kF,zip_cons_cons→vK,zip_map'→CV
open _root_.List.IsPrefix renaming filter→Rp,map→sR,trans→qP
open _root_.List.Nodup renaming not_mem_erase→Yp,sublist→Yq
open _root_.List.Pairwise renaming filter→Rn,imp→gI,imp_of_mem→d_
open _root_.List.Perm renaming append_left→qO,of_eq→GK,trans→YC
open _root_.Nat renaming add_assoc→bu,add_comm→cM,add_le_add→bW,add_le_add_left→aA,add_le_add_right→bp,add_le_of_le_sub'→GA,add_left_cancel→lj,add_lt_add→N9,add_lt_add_left→br,add_lt_add_of_le_of_lt→pg,add_lt_add_right→iX,add_lt_of_lt_sub→ui,add_lt_of_lt_sub'→cW,add_mul→Hj,add_one_ne_zero→Ju,add_right_comm→bM,add_sub_add_left→iY,add_sub_assoc→el,add_sub_cancel'→lg,add_sub_cancel_left→gX,add_sub_of_le→gZ,add_sub_self_left→fh,add_zero→kL,and_one_is_mod→J3,ble→Rm,cast→Bz,div_eq_of_lt→L9,div_lt_self→NH,eq_of_le_of_lt_succ→fu,eq_of_lt_succ_of_not_lt→Bl,eq_of_testBit_eq→Hk,eq_sub_of_add_eq→Hd,eq_zero_of_not_pos→sP,eq_zero_or_pos→lY,le_add_left→aB,le_add_of_sub_le→iZ,le_add_right→aW,le_add_right_of_le→dS,le_antisymm→bt,le_max_right→dW,le_min→WT,le_mul_of_pos_left→ix,le_of_add_le_add_left→iR,le_of_add_le_add_right→ph,le_of_add_right_le→aV,le_of_ble_eq_true→tN,le_of_eq→aX,le_of_lt→a_,le_of_lt_succ→bG,le_of_not_le→mZ,le_of_not_lt→bS,le_of_pred_lt→Lj,le_of_sub_eq_zero→ff,le_of_succ_le→dy,le_of_succ_le_succ→Fo,le_refl→ax,le_sub_of_add_le→nF,le_sub_one_of_lt→cF,le_succ→uj,le_succ_of_le→mI,le_total→iV,le_trans→af,le_zero→GZ,lt_add_left→NI,lt_add_of_pos_right→eE,lt_add_one→Bv,lt_add_right→jt,lt_asymm→Rk,lt_irrefl→bf,lt_min→fD,lt_of_add_lt_add_left→kT,lt_of_add_lt_add_right→kq,lt_of_add_right_lt→fK,lt_of_le_of_lt→aZ,lt_of_le_of_ne→ba,lt_of_lt_of_eq→cJ,lt_of_lt_of_le→aj,lt_of_not_le→ed,lt_of_sub_pos→mG,lt_of_succ_lt→Ll,lt_one_iff→N8,lt_or_eq_of_le→JH,lt_or_ge→b9,lt_sub_of_add_lt→He,lt_succ_iff_lt_or_eq→C4,lt_succ_of_le→iW,lt_succ_of_lt→qA,lt_succ_self→f_,lt_trans→jI,min_eq_left→b0,min_eq_right→iz,min_le_left→fF,min_le_right→dX,min_self→Rh,mod_lt→Xa,mul_add→V_,mul_add_div→NJ,mul_comm→Ra,mul_le_mul_left→gy,mul_le_mul_right→gW,mul_zero→Ro,ne_add_one→Oq,ne_of_beq_eq_false→sL,ne_of_gt→fj,ne_of_lt→bj,ne_zero_of_lt→w9,not_le_of_lt→iA,not_lt→v8,not_lt_of_le→ju,not_lt_zero→eA,not_succ_le_self→nH,not_succ_le_zero→uv,one_add→Wl,one_le_iff_ne_zero→Fs,one_le_of_lt→qX,one_mul→Hc,one_ne_zero→NK,one_pos→y_,one_shiftLeft→i_,pos_of_ne_zero→dZ,pow_le_pow_right→Hh,shiftRight_eq_div_pow→pW,strongRecOn→Au,sub_add_cancel→dp,sub_eq_zero_of_le→fg,sub_le→dh,sub_le_sub_left→vb,sub_le_sub_right→f7,sub_lt→JF,sub_lt_left_of_lt_add→dd,sub_lt_sub_left→Jv,sub_lt_sub_right→f9,sub_one_lt→ko,sub_one_lt_of_lt→bH,sub_one_sub_lt_of_lt→C0,sub_pos_of_lt→du,sub_right_comm→pf,sub_self→gP,sub_sub→f6,sub_sub_eq_min→JG,sub_sub_self→jr,sub_succ_lt_self→gc,succ→w5,succ_add_eq_add_succ→dT,succ_le_of_lt→w6,succ_le_succ→jv,succ_ne_zero→iy,succ_pos→jH,testBit→Hg,testBit_or→dD,testBit_succ→nh,testBit_two_pow→jq,testBit_zero→nc,two_mul→y7,two_pow_pos→oh,zero_add→bK,zero_le→bz,zero_lt_of_lt→a8,zero_lt_of_ne_zero→eT,zero_lt_sub_of_lt→GJ,zero_lt_succ→m_,zero_ne_add_one→gz,zero_ne_one→NS
open _root_.Nat.ToInt renaming of_diseq→kM,of_le→Yz
open _root_.NeZero renaming ne'→y6
open _root_.Option renaming getD_none→Jx,getD_some→wH,isSome_iff_exists→Bm,map→u_,map_eq_some_iff→bg,map_some→yu,none→Zt,some→Zs
open _root_.Option.some renaming injEq→tK
open _root_.Prod renaming fst→GC
open _root_.Prod.mk renaming injEq→Av
open _root_.PyProof.Rows renaming IntsAre→uw,SortKind→hE,args_cons→Wb,arrOf→bX,assign_Name→iE,bubble→W9,failedOf→m5,firstOfTuple'→Yo,get?_update_seq→pE,getItem_tuple→vI,kindOf→Ao,len_tuple→yt,listItems_at→pX,listUpdate_at→yw,mem_zip_self→JX,mirror→Oj,numOf→QH,oneType'→W8,pairsOf→Ap,pairsOf_size→Aq,pairsOf_toList→Fp,pendingOf→bx,seqEpoch_at→Mg,seqObj→lA,setArr→yF,setPending→Ol,tuples'→QI,wpS→tL,wpS_bind→fJ,wpS_forRange→gd,wpS_get→m6,wpS_lift→wc,wpS_modify→jw,wpS_mono→j9,wpS_pure→cu
open _root_.PyProof.Rows.SortSt renaming mk'→GF
open _root_.PySem renaming Arguments→tI,Around→eN,Builtin→mz,CmpOp→WW,Env→nu,Expr→e_,Heap→yB,Model→yv,Program→ox,Result→Of,Scope→qM,Sem→Bk,Shared→bc,Slot→Yy,Stmt→kh,World→gp,argsOk→JO,arm_eval_Subscript→qN,assign→JL,assignEach→yC,assignInOrder→Yh,attributeBase→kg,backTo→uo,behindInMarks→yr,binaryOp→jJ,bootBuiltins→J4,builtinLookup_eq_fast→kl,builtinsNs→E_,cLine→mP,call→nG,callType_codes→WX,call_list_seq→Ym,call_meets→uu,cellsFrom→tJ,codeAny→wC,codeAny_builtin→pA,compEnvC→fV,compareOp→eZ,contains→Mf,dictGet→JT,dictSet→QA,dictSetDefault→W7,entryFor→Ma,entryFor_of_tree→Rd,firstArgMember→wa,foldedSetIterable→de,getItem→Ee,getMethod_builtin→QE,getattributeRaised→Om,getitemInPython→eo,hashInt→JJ,intKind→lB,isSubtype_stop→WZ,isSubtype_type→lu,isTrue→WV,letOwnedTupleGo→je,letTemporaryGo→fW,mainGlobals→iN,mem_of_lookup→g_,methodCallForm→W4,methodCallPos→Yl,model→cX,newExc→Oc,plainId_quiet→G7,pyIter→W0,pyNext→v9,rawInt→pv,recursionLimit→WU,setField→WY,setItem→Qs,signature?_of→Yi,sizeLine→eY,sliceBounds→CU,slot_dict_contains→yE,slot_dict_getitem→Am,slot_dict_setitem→QC,spliced→JK,starEach→lq,subscripted→gq,swappedStores→G6,swapsWith→Rc,swapsWithSole→G5,tupleKind→Ri,typeLookup→Ob,typeLookup_type→pq,wpAny→b8,wpAny_Constant_int→qK,wpAny_Slice→Md,wpAny_allTrue_And_cons→JM,wpAny_allTrue_Or_cons→Lm,wpAny_assign_Tuple→Oa,wpAny_attempt→oz,wpAny_bind→ao,wpAny_callSpecial?_slot→iq,wpAny_call_entry→eO,wpAny_comprehension_free→G8,wpAny_dictEntries→gE,wpAny_dictEpoch→pD,wpAny_dictFind_of→Qz,wpAny_execs_nil→CZ,wpAny_field→v_,wpAny_fieldsOf→W2,wpAny_getItem_list_slice→G9,wpAny_handled→Yj,wpAny_holding→cg,wpAny_isInstance→tF,wpAny_isOneOf_keyiter→Lq,wpAny_isTrue_BoolOp→pU,wpAny_letTemporaryGo→lz,wpAny_load→Od,wpAny_loadPart→W5,wpAny_mono→ly,wpAny_newList→Hf,wpAny_newObj_type→gC,wpAny_notOrdered_dict→km,wpAny_of_eq→lx,wpAny_pure→az,wpAny_pyIter_enum→Qw,wpAny_pyIter_list→Qx,wpAny_pyIter_slot→Qu,wpAny_pyNext_list_end→Lr,wpAny_pyNext_list_item→JQ,wpAny_rule→iS,wpAny_sequenceKey→QB,wpAny_setField→qL,wpAny_specialOf→pB,wpAny_standAt→gB,wpAny_storeName_local→Ln,wpAny_truthy_bool→jh,wpAny_typeNameOfWhole_keyiter→j2,wpAny_typeNameOf_keyiter→l8,wpAny_typeOf→Ar,wpAny_updateDictKeys→Me
open _root_.PySem.Around renaming under_plainId→sY
open _root_.PySem.AutoListH renaming list___mul___list_int_3→YB
open _root_.PySem.BindsTo renaming of_defaults→tO
open _root_.PySem.Builtin renaming bitAnd→sN,bitNot→og,bitOr→Ak
open _root_.PySem.Builtin.Dict renaming addrOf→As,dictSlotArgs→Wi,dictSlotNone→Wc,keyAndDefault→Wh,missed→Wg,notOrdered→Wf,pairItems→Wj,pendingKey?→We,samePairs→yx,selfAndRest→Wk,showsAll→lE,updateFrom→w8
open _root_.PySem.Builtin.List renaming listExtendWith→ve,listFitsIndex→mW,listTooLong→nZ
open _root_.PySem.Builtin.Range renaming rangeFitsLong→Rg,rangeSize→kf,small→y8
open _root_.PySem.Builtin.SmallTypes renaming newRecord→Lo
open _root_.PySem.Builtin.Str renaming strSliceIndices→W6
open _root_.PySem.Builtin.Tuple renaming tupleHashOf→Rb
open _root_.PySem.Calls renaming Name_function_global→Ai,evalArgs_plain→Fb
open _root_.PySem.Challenge renaming pw_pq0559_01→Oo
open _root_.PySem.Data renaming seq→Yk
open _root_.PySem.EqBoolInt renaming of_rc→wD
open _root_.PySem.F renaming args_dict_keyiterator_next_1→Aj,entry_dict_keyiterator_next→Bo,made_reversed→Qt,plain_reversed_new→JP,slot_dict_get→QD,slot_dict_iter→Oe,slot_dict_keyiterator_next→h_,slot_dict_setdefault→Ha,slot_int_rmul→QG,slot_list_getattribute→qW,slot_list_getitem→o_,slot_list_pop→QF,slot_tuple_getitem→vc
open _root_.PySem.Heap renaming ExtBut→Rf,SameBut→oy,get?_push_ne→JY,get?_push_of_some→cm,get?_push_size→cx,get?_update_other→rY,get?_update_self→gH,lt_size→d9,size_update→Lv
open _root_.PySem.Heap.DictOf renaming new→W_
open _root_.PySem.Heap.IsSliceOf renaming new→y9
open _root_.PySem.Heap.SameBut renaming update→j0
open _root_.PySem.IntMulOk renaming of_left→GQ
open _root_.PySem.NameKind renaming globalImplicit→Ah
open _root_.PySem.Obj renaming cls_mapFields→Lp,data_mapFields→jK,isFreed_of_fields→tH,mapDict→G_,mapDictKeys→lU,mapFields→vJ,mapSeq→kn,putName→Wd
open _root_.PySem.P renaming lt_int→JS
open _root_.PySem.PyData renaming int→QK,keyHash→l6
open _root_.PySem.ScopeKind renaming function→CY
open _root_.PySem.Sem renaming wp_release→N'
open _root_.PySem.SeqAt.EqAt renaming int_int→Qy
open _root_.PySem.Shared renaming TypeIs→Mi
open _root_.PySem.Str renaming ofString→ah
open _root_.PySem.Value renaming builtin→NN,int→mR,isInt→lS,isStrOf→NM,none→j8,ref→oA,type→mQ
open _root_.PySem.W renaming Frag→N_,cellsFrom_some→W3,dictOf→Oh,findIn→oe,keepIn→yD,kmk_pick_nat→YA,mg_of→QJ,nsIn→Xb,typeIn→Oi
open _root_.Std renaming lt_of_le_of_ne→JW
open _root_.Std.Legacy renaming Range→Eg
open _root_.Std.Legacy.Range renaming forIn_eq_forIn_range'→NQ
@[elab_as_elim] theorem rwr{c:Type}{b a:c}(h:a=b){p:c->Prop}(k:p b):p a:=h▸k
@[elab_as_elim] theorem rwl{c:Type}{a b:c}(h:b=a){p:c->Prop}(k:p b):p a:=h▸k
@[elab_as_elim] theorem rwi{a b:Prop}(h:a↔b){p:Prop->Prop}(k:p b):p a:=propext h▸k
@[elab_as_elim] theorem rwj{a b:Prop}(h:b↔a){p:Prop->Prop}(k:p b):p a:=propext h▸k
theorem yH{e β:Type}{a c:e}{b d:β}{G:e->β->Prop}(h:a=c)(k:b=d)(g:G c d):G a b:=by subst h;subst k;exact g
theorem J5{i β γ:Type}{a c:i}{b d:β}{e f:γ}{G:i->β->γ->Prop}(h:a=c)(k:b=d)(l:e=f)(g:G c d f):G a b e:=by subst h;subst k;subst l;exact g
section
variable{p q r s t l m:Prop}{g:Prop}
theorem E02(h:p/\q)(k:p->q->g):g:=k h.1 h.2
theorem E03(h:p/\q/\r)(k:p->q->r->g):g:=E02 h.2 (k h.1)
theorem E04(h:p/\q/\r/\s)(k:p->q->r->s->g):g:=E03 h.2 (k h.1)
theorem E05(h:p/\q/\r/\s/\t)(k:p->q->r->s->t->g):g:=E04 h.2 (k h.1)
theorem E06(h:p/\q/\r/\s/\t/\l)(k:p->q->r->s->t->l->g):g:=E05 h.2 (k h.1)
theorem E07(h:p/\q/\r/\s/\t/\l/\m)(k:p->q->r->s->t->l->m->g):g:=E06 h.2 (k h.1)
theorem Rq(a:p)(b:q):p/\q:=⟨a,b⟩
variable{β γ δ:Type}{e0:β}{e1:γ}{e2:δ}{y0:β}{y1:γ}{y2:δ}{G1:β->Prop}{G2:β->γ->Prop}{G3:β->γ->δ->Prop}
theorem ja(k:G2 e0 e1):(y0=e0/\y1=e1)->G2 y0 y1:=λh=>E02 h λa b=>yH a b (k)
theorem LB(k:p->G1 e0):(y0=e0/\p)->G1 y0:=λh=>E02 h λa b=>rwr (p:=λz=>G1 z) a (k b)
end
section
variable{a:Type}
variable{p q r s t l m:a->Prop}{g:Prop}
theorem E11(h:∃x,p x)(k:∀x,p x->g):g:=Exists.elim h k
theorem E12(h:∃x,p x/\q x)(k:∀x,p x->q x->g):g:=Exists.elim h λx h=>E02 h (k x)
theorem E13(h:∃x,p x/\q x/\r x)(k:∀x,p x->q x->r x->g):g:=Exists.elim h λx h=>E03 h (k x)
theorem E14(h:∃x,p x/\q x/\r x/\s x)(k:∀x,p x->q x->r x->s x->g):g:=Exists.elim h λx h=>E04 h (k x)
theorem E15(h:∃x,p x/\q x/\r x/\s x/\t x)(k:∀x,p x->q x->r x->s x->t x->g):g:=Exists.elim h λx h=>E05 h (k x)
theorem E16(h:∃x,p x/\q x/\r x/\s x/\t x/\l x)(k:∀x,p x->q x->r x->s x->t x->l x->g):g:=Exists.elim h λx h=>E06 h (k x)
theorem E17(h:∃x,p x/\q x/\r x/\s x/\t x/\l x/\m x)(k:∀x,p x->q x->r x->s x->t x->l x->m x->g):g:=Exists.elim h λx h=>E07 h (k x)
theorem lC(x:a)(b:p x):∃x,p x:=⟨x,b⟩
theorem cU(x:a)(b:p x)(c:q x):∃x,p x/\q x:=⟨x,Rq b c⟩
theorem fP(x:a)(b:p x)(c:q x)(d:r x):∃x,p x/\q x/\r x:=⟨x,b,c,d⟩
theorem p0(x:a)(b:p x)(c:q x)(d:r x)(e:s x):∃x,p x/\q x/\r x/\s x:=⟨x,b,c,d,e⟩
theorem yI(x:a)(b:p x)(c:q x)(d:r x)(e:s x)(f:t x):∃x,p x/\q x/\r x/\s x/\t x:=⟨x,b,c,d,e,f⟩
theorem J6(x:a)(b:p x)(c:q x)(d:r x)(e:s x)(f:t x)(g:l x):∃x,p x/\q x/\r x/\s x/\t x/\l x:=⟨x,b,c,d,e,f,g⟩
variable{β γ δ:Type}{e0:a->β}{e1:a->γ}{e2:a->δ}{y0:β}{y1:γ}{y2:δ}{G1:β->Prop}{G2:β->γ->Prop}{G3:β->γ->δ->Prop}
theorem Ei(k:∀x,G2 (e0 x) (e1 x)):(∃x,y0=e0 x/\y1=e1 x)->G2 y0 y1:=λh=>E12 h λx a b=>yH a b (k x)
theorem Mm(k:∀x,p x->q x->G1 (e0 x)):(∃x,y0=e0 x/\p x/\q x)->G1 y0:=λh=>E13 h λx a b c=>rwr (p:=λz=>G1 z) a (k x b c)
theorem Ej(k:∀x,p x->q x->G2 (e0 x) (e1 x)):(∃x,y0=e0 x/\p x/\q x/\y1=e1 x)->G2 y0 y1:=λh=>E14 h λx a b c d=>yH a d (k x b c)
theorem Hl(k:∀x,p x->q x->G3 (e0 x) (e1 x) (e2 x)):(∃x,y0=e0 x/\p x/\q x/\y1=e1 x/\y2=e2 x)->G3 y0 y1 y2:=λh=>E15 h λx a b c d e=>J5 a d e (k x b c)
theorem ux(k:∀x,p x->q x->r x->G2 (e0 x) (e1 x)):(∃x,y0=e0 x/\p x/\q x/\r x/\y1=e1 x)->G2 y0 y1:=λh=>E15 h λx a b c d e=>yH a e (k x b c d)
theorem zb(k:∀x,p x->q x->r x->s x->G2 (e0 x) (e1 x)):(∃x,y0=e0 x/\p x/\q x/\r x/\s x/\y1=e1 x)->G2 y0 y1:=λh=>E16 h λx a b c d e f=>yH a f (k x b c d e)
theorem Mn(k:∀x,p x->G2 (e0 x) (e1 x)):(∃x,p x/\y0=e0 x/\y1=e1 x)->G2 y0 y1:=λh=>E13 h λx a b c=>yH b c (k x a)
theorem J7(k:∀x,p x->G3 (e0 x) (e1 x) (e2 x)):(∃x,p x/\y0=e0 x/\y1=e1 x/\y2=e2 x)->G3 y0 y1 y2:=λh=>E14 h λx a b c d=>J5 b c d (k x a)
theorem Mo(k:∀x,p x->q x->G1 (e0 x)):(∃x,p x/\q x/\y0=e0 x)->G1 y0:=λh=>E13 h λx a b c=>rwr (p:=λz=>G1 z) c (k x a b)
theorem mB(k:∀x,p x->q x->G2 (e0 x) (e1 x)):(∃x,p x/\q x/\y0=e0 x/\y1=e1 x)->G2 y0 y1:=λh=>E14 h λx a b c d=>yH c d (k x a b)
end
section
variable{a b:Type}
variable{p q r s t l m n:a->b->Prop}{g:Prop}
theorem E21(h:∃x y,p x y)(k:∀x y,p x y->g):g:=Exists.elim h λx h=>E11 h (k x)
theorem E22(h:∃x y,p x y/\q x y)(k:∀x y,p x y->q x y->g):g:=Exists.elim h λx h=>E12 h (k x)
theorem E23(h:∃x y,p x y/\q x y/\r x y)(k:∀x y,p x y->q x y->r x y->g):g:=Exists.elim h λx h=>E13 h (k x)
theorem E24(h:∃x y,p x y/\q x y/\r x y/\s x y)(k:∀x y,p x y->q x y->r x y->s x y->g):g:=Exists.elim h λx h=>E14 h (k x)
theorem E25(h:∃x y,p x y/\q x y/\r x y/\s x y/\t x y)(k:∀x y,p x y->q x y->r x y->s x y->t x y->g):g:=Exists.elim h λx h=>E15 h (k x)
theorem E26(h:∃x y,p x y/\q x y/\r x y/\s x y/\t x y/\l x y)(k:∀x y,p x y->q x y->r x y->s x y->t x y->l x y->g):g:=Exists.elim h λx h=>E16 h (k x)
theorem E27(h:∃x y,p x y/\q x y/\r x y/\s x y/\t x y/\l x y/\m x y)(k:∀x y,p x y->q x y->r x y->s x y->t x y->l x y->m x y->g):g:=Exists.elim h λx h=>E17 h (k x)
theorem Mp(x:a)(y:b)(c:p x y):∃x y,p x y:=⟨x,lC y c⟩
theorem Hm(x:a)(y:b)(c:p x y)(d:q x y):∃x y,p x y/\q x y:=⟨x,cU y c d⟩
theorem pF(x:a)(y:b)(c:p x y)(d:q x y)(e:r x y):∃x y,p x y/\q x y/\r x y:=⟨x,fP y c d e⟩
theorem tP(x:a)(y:b)(c:p x y)(d:q x y)(e:r x y)(f:s x y):∃x y,p x y/\q x y/\r x y/\s x y:=⟨x,p0 y c d e f⟩
theorem C5(x:a)(y:b)(c:p x y)(d:q x y)(e:r x y)(f:s x y)(g:t x y):∃x y,p x y/\q x y/\r x y/\s x y/\t x y:=⟨x,yI y c d e f g⟩
theorem Hn(x:a)(y:b)(c:p x y)(d:q x y)(e:r x y)(f:s x y)(g:t x y)(h:l x y):∃x y,p x y/\q x y/\r x y/\s x y/\t x y/\l x y:=⟨x,J6 y c d e f g h⟩
theorem Ot(x:a)(y:b)(c:p x y)(d:q x y)(e:r x y)(f:s x y)(g:t x y)(h:l x y)(i:m x y):∃x y,p x y/\q x y/\r x y/\s x y/\t x y/\l x y/\m x y:=⟨x,y,c,d,e,f,g,h,i⟩
theorem Mq(x:a)(y:b)(c:p x y)(d:q x y)(e:r x y)(f:s x y)(g:t x y)(h:l x y)(i:m x y)(j:n x y):∃x y,p x y/\q x y/\r x y/\s x y/\t x y/\l x y/\m x y/\n x y:=⟨x,y,c,d,e,f,g,h,i,j⟩
variable{β γ δ:Type}{e0:a->b->β}{e1:a->b->γ}{e2:a->b->δ}{y0:β}{y1:γ}{y2:δ}{G1:β->Prop}{G2:β->γ->Prop}{G3:β->γ->δ->Prop}
theorem Ho(k:∀x y,p x y->G2 (e0 x y) (e1 x y)):(∃x y,y0=e0 x y/\y1=e1 x y/\p x y)->G2 y0 y1:=λh=>E23 h λx y a b c=>yH a b (k x y c)
theorem r9(k:∀x y,p x y->q x y->G2 (e0 x y) (e1 x y)):(∃x y,y0=e0 x y/\p x y/\q x y/\y1=e1 x y)->G2 y0 y1:=λh=>E24 h λx y a b c d=>yH a d (k x y b c)
theorem Hq(k:∀x y,p x y->q x y->G3 (e0 x y) (e1 x y) (e2 x y)):(∃x y,y0=e0 x y/\p x y/\q x y/\y1=e1 x y/\y2=e2 x y)->G3 y0 y1 y2:=λh=>E25 h λx y a b c d e=>J5 a d e (k x y b c)
theorem vN(k:∀x y,p x y->q x y->r x y->s x y->t x y->l x y->G2 (e0 x y) (e1 x y)):(∃x y,y0=e0 x y/\p x y/\q x y/\r x y/\s x y/\t x y/\l x y/\y1=e1 x y)->G2 y0 y1:=λh=>E27 h λx y a b c d e f h=>E02 h λg i=>yH a i (k x y b c d e f g)
theorem Hr(k:∀x y,p x y->G2 (e0 x y) (e1 x y)):(∃x y,p x y/\y0=e0 x y/\y1=e1 x y)->G2 y0 y1:=λh=>E23 h λx y a b c=>yH b c (k x y a)
theorem BA(k:∀x y,p x y->q x y->G3 (e0 x y) (e1 x y) (e2 x y)):(∃x y,p x y/\y0=e0 x y/\q x y/\y1=e1 x y/\y2=e2 x y)->G3 y0 y1 y2:=λh=>E25 h λx y a b c d e=>J5 b d e (k x y a c)
theorem Ek(k:∀x y,p x y->q x y->G2 (e0 x y) (e1 x y)):(∃x y,p x y/\q x y/\y0=e0 x y/\y1=e1 x y)->G2 y0 y1:=λh=>E24 h λx y a b c d=>yH c d (k x y a b)
theorem J8(k:∀x y,p x y->q x y->r x y->G1 (e0 x y)):(∃x y,p x y/\q x y/\y0=e0 x y/\r x y)->G1 y0:=λh=>E24 h λx y a b c d=>rwr (p:=λz=>G1 z) c (k x y a b d)
theorem nA(k:∀x y,p x y->q x y->r x y->s x y->G2 (e0 x y) (e1 x y)):(∃x y,p x y/\q x y/\r x y/\s x y/\y0=e0 x y/\y1=e1 x y)->G2 y0 y1:=λh=>E26 h λx y a b c d e f=>yH e f (k x y a b c d)
end
section
variable{a b c:Type}
variable{p q r s t l m n o j A:a->b->c->Prop}{g:Prop}
theorem E31(h:∃x y z,p x y z)(k:∀x y z,p x y z->g):g:=Exists.elim h λx h=>E21 h (k x)
theorem E32(h:∃x y z,p x y z/\q x y z)(k:∀x y z,p x y z->q x y z->g):g:=Exists.elim h λx h=>E22 h (k x)
theorem E33(h:∃x y z,p x y z/\q x y z/\r x y z)(k:∀x y z,p x y z->q x y z->r x y z->g):g:=Exists.elim h λx h=>E23 h (k x)
theorem E34(h:∃x y z,p x y z/\q x y z/\r x y z/\s x y z)(k:∀x y z,p x y z->q x y z->r x y z->s x y z->g):g:=Exists.elim h λx h=>E24 h (k x)
theorem E35(h:∃x y z,p x y z/\q x y z/\r x y z/\s x y z/\t x y z)(k:∀x y z,p x y z->q x y z->r x y z->s x y z->t x y z->g):g:=Exists.elim h λx h=>E25 h (k x)
theorem E36(h:∃x y z,p x y z/\q x y z/\r x y z/\s x y z/\t x y z/\l x y z)(k:∀x y z,p x y z->q x y z->r x y z->s x y z->t x y z->l x y z->g):g:=Exists.elim h λx h=>E26 h (k x)
theorem Rr(x:a)(y:b)(z:c)(d:p x y z):∃x y z,p x y z:=⟨x,Mp y z d⟩
theorem Fu(x:a)(y:b)(z:c)(d:p x y z)(e:q x y z)(f:r x y z):∃x y z,p x y z/\q x y z/\r x y z:=⟨x,pF y z d e f⟩
theorem vf(x:a)(y:b)(z:c)(d:p x y z)(e:q x y z)(f:r x y z)(g:s x y z):∃x y z,p x y z/\q x y z/\r x y z/\s x y z:=⟨x,tP y z d e f g⟩
theorem Ou(x:a)(y:b)(z:c)(d:p x y z)(e:q x y z)(f:r x y z)(g:s x y z)(h:t x y z):∃x y z,p x y z/\q x y z/\r x y z/\s x y z/\t x y z:=⟨x,C5 y z d e f g h⟩
theorem J9(x:a)(y:b)(z:c)(d:p x y z)(e:q x y z)(f:r x y z)(g:s x y z)(h:t x y z)(i:l x y z):∃x y z,p x y z/\q x y z/\r x y z/\s x y z/\t x y z/\l x y z:=⟨x,Hn y z d e f g h i⟩
theorem Mr(x:a)(y:b)(z:c)(d:p x y z)(e:q x y z)(f:r x y z)(g:s x y z)(h:t x y z)(i:l x y z)(j:m x y z):∃x y z,p x y z/\q x y z/\r x y z/\s x y z/\t x y z/\l x y z/\m x y z:=⟨x,Ot y z d e f g h i j⟩
theorem Ov(x:a)(y:b)(z:c)(d:p x y z)(e:q x y z)(f:r x y z)(g:s x y z)(h:t x y z)(i:l x y z)(j:m x y z)(k:n x y z):∃x y z,p x y z/\q x y z/\r x y z/\s x y z/\t x y z/\l x y z/\m x y z/\n x y z:=⟨x,Mq y z d e f g h i j k⟩
theorem Ow(x:a)(y:b)(z:c)(d:p x y z)(e:q x y z)(f:r x y z)(g:s x y z)(h:t x y z)(i:l x y z)(k:m x y z)(u:n x y z)(v:o x y z)(w:j x y z):∃x y z,p x y z/\q x y z/\r x y z/\s x y z/\t x y z/\l x y z/\m x y z/\n x y z/\o x y z/\j x y z:=⟨x,y,z,d,e,f,g,h,i,k,u,v,w⟩
variable{β γ δ:Type}{e0:a->b->c->β}{e1:a->b->c->γ}{e2:a->b->c->δ}{y0:β}{y1:γ}{y2:δ}{G1:β->Prop}{G2:β->γ->Prop}{G3:β->γ->δ->Prop}
theorem Aw(k:∀x y z,p x y z->q x y z->G2 (e0 x y z) (e1 x y z)):(∃x y z,y0=e0 x y z/\p x y z/\q x y z/\y1=e1 x y z)->G2 y0 y1:=λh=>E34 h λx y z a b c d=>yH a d (k x y z b c)
theorem C6(k:∀x y z,p x y z->q x y z->r x y z->s x y z->G3 (e0 x y z) (e1 x y z) (e2 x y z)):(∃x y z,y0=e0 x y z/\p x y z/\q x y z/\r x y z/\s x y z/\y1=e1 x y z/\y2=e2 x y z)->G3 y0 y1 y2:=λh=>E36 h λx y z a b c d e h=>E02 h λf g=>J5 a f g (k x y z b c d e)
theorem p4(k:∀x y z,p x y z->q x y z->r x y z->s x y z->t x y z->G2 (e0 x y z) (e1 x y z)):(∃x y z,y0=e0 x y z/\p x y z/\q x y z/\r x y z/\s x y z/\t x y z/\y1=e1 x y z)->G2 y0 y1:=λh=>E36 h λx y z a b c d e h=>E02 h λf g=>yH a g (k x y z b c d e f)
theorem C7(k:∀x y z,p x y z->q x y z->r x y z->s x y z->t x y z->l x y z->G1 (e0 x y z)):(∃x y z,y0=e0 x y z/\p x y z/\q x y z/\r x y z/\s x y z/\t x y z/\l x y z)->G1 y0:=λh=>E36 h λx y z a b c d e h=>E02 h λf g=>rwr (p:=λz=>G1 z) a (k x y z b c d e f g)
theorem vO(k:∀x y z,p x y z->q x y z->r x y z->s x y z->t x y z->l x y z->G2 (e0 x y z) (e1 x y z)):(∃x y z,y0=e0 x y z/\p x y z/\q x y z/\r x y z/\s x y z/\t x y z/\l x y z/\y1=e1 x y z)->G2 y0 y1:=λh=>E36 h λx y z a b c d e h=>E03 h λf g i=>yH a i (k x y z b c d e f g)
theorem yJ(k:∀x y z,p x y z->q x y z->r x y z->s x y z->t x y z->l x y z->m x y z->G3 (e0 x y z) (e1 x y z) (e2 x y z)):(∃x y z,y0=e0 x y z/\p x y z/\q x y z/\r x y z/\s x y z/\t x y z/\l x y z/\m x y z/\y1=e1 x y z/\y2=e2 x y z)->G3 y0 y1 y2:=λh=>E36 h λx y z a b c d e h=>E05 h λf g i j n=>J5 a j n (k x y z b c d e f g i)
theorem qY(k:∀x y z,p x y z->q x y z->r x y z->s x y z->t x y z->l x y z->m x y z->n x y z->o x y z->G2 (e0 x y z) (e1 x y z)):(∃x y z,y0=e0 x y z/\p x y z/\q x y z/\r x y z/\s x y z/\t x y z/\l x y z/\m x y z/\n x y z/\o x y z/\y1=e1 x y z)->G2 y0 y1:=λh=>E36 h λx y z a b c d e h=>E06 h λf g i j u v=>yH a v (k x y z b c d e f g i j u)
theorem oD(k:∀x y z,p x y z->q x y z->G2 (e0 x y z) (e1 x y z)):(∃x y z,p x y z/\q x y z/\y0=e0 x y z/\y1=e1 x y z)->G2 y0 y1:=λh=>E34 h λx y z a b c d=>yH c d (k x y z a b)
theorem J_(k:∀x y z,p x y z->q x y z->r x y z->G1 (e0 x y z)):(∃x y z,p x y z/\q x y z/\y0=e0 x y z/\r x y z)->G1 y0:=λh=>E34 h λx y z a b c d=>rwr (p:=λz=>G1 z) c (k x y z a b d)
end
section
variable{a b c d:Type}
variable{p q r s t l m n:a->b->c->d->Prop}{g:Prop}
theorem E42(h:∃x y z u,p x y z u/\q x y z u)(k:∀x y z u,p x y z u->q x y z u->g):g:=Exists.elim h λx h=>E32 h (k x)
theorem E43(h:∃x y z u,p x y z u/\q x y z u/\r x y z u)(k:∀x y z u,p x y z u->q x y z u->r x y z u->g):g:=Exists.elim h λx h=>E33 h (k x)
theorem E44(h:∃x y z u,p x y z u/\q x y z u/\r x y z u/\s x y z u)(k:∀x y z u,p x y z u->q x y z u->r x y z u->s x y z u->g):g:=Exists.elim h λx h=>E34 h (k x)
theorem E45(h:∃x y z u,p x y z u/\q x y z u/\r x y z u/\s x y z u/\t x y z u)(k:∀x y z u,p x y z u->q x y z u->r x y z u->s x y z u->t x y z u->g):g:=Exists.elim h λx h=>E35 h (k x)
theorem E46(h:∃x y z u,p x y z u/\q x y z u/\r x y z u/\s x y z u/\t x y z u/\l x y z u)(k:∀x y z u,p x y z u->q x y z u->r x y z u->s x y z u->t x y z u->l x y z u->g):g:=Exists.elim h λx h=>E36 h (k x)
theorem E47(h:∃x y z u,p x y z u/\q x y z u/\r x y z u/\s x y z u/\t x y z u/\l x y z u/\m x y z u)(k:∀x y z u,p x y z u->q x y z u->r x y z u->s x y z u->t x y z u->l x y z u->m x y z u->g):g:=E21 h λx y h=>E27 h (k x y)
theorem Rt(x:a)(y:b)(z:c)(u:d)(e:p x y z u)(f:q x y z u):∃x y z u,p x y z u/\q x y z u:=⟨x,y,Hm z u e f⟩
theorem Ru(x:a)(y:b)(z:c)(u:d)(e:p x y z u)(f:q x y z u)(g:r x y z u):∃x y z u,p x y z u/\q x y z u/\r x y z u:=⟨x,Fu y z u e f g⟩
theorem Ms(x:a)(y:b)(z:c)(u:d)(e:p x y z u)(f:q x y z u)(g:r x y z u)(h:s x y z u):∃x y z u,p x y z u/\q x y z u/\r x y z u/\s x y z u:=⟨x,vf y z u e f g h⟩
theorem J'(x:a)(y:b)(z:c)(u:d)(e:p x y z u)(f:q x y z u)(g:r x y z u)(h:s x y z u)(i:t x y z u)(j:l x y z u):∃x y z u,p x y z u/\q x y z u/\r x y z u/\s x y z u/\t x y z u/\l x y z u:=⟨x,J9 y z u e f g h i j⟩
theorem Ox(x:a)(y:b)(z:c)(u:d)(e:p x y z u)(f:q x y z u)(g:r x y z u)(h:s x y z u)(i:t x y z u)(j:l x y z u)(k:m x y z u)(o:n x y z u):∃x y z u,p x y z u/\q x y z u/\r x y z u/\s x y z u/\t x y z u/\l x y z u/\m x y z u/\n x y z u:=⟨x,Ov y z u e f g h i j k o⟩
variable{β γ δ:Type}{e0:a->b->c->d->β}{e1:a->b->c->d->γ}{e2:a->b->c->d->δ}{y0:β}{y1:γ}{y2:δ}{G1:β->Prop}{G2:β->γ->Prop}{G3:β->γ->δ->Prop}
theorem Ka(k:∀x y z u,p x y z u->G3 (e0 x y z u) (e1 x y z u) (e2 x y z u)):(∃x y z u,y0=e0 x y z u/\p x y z u/\y1=e1 x y z u/\y2=e2 x y z u)->G3 y0 y1 y2:=λh=>E44 h λx y z u a b c d=>J5 a c d (k x y z u b)
theorem uy(k:∀x y z u,p x y z u->q x y z u->G2 (e0 x y z u) (e1 x y z u)):(∃x y z u,y0=e0 x y z u/\p x y z u/\q x y z u/\y1=e1 x y z u)->G2 y0 y1:=λh=>E44 h λx y z u a b c d=>yH a d (k x y z u b c)
theorem vP(k:∀x y z u,p x y z u->q x y z u->r x y z u->s x y z u->t x y z u->l x y z u->G2 (e0 x y z u) (e1 x y z u)):(∃x y z u,y0=e0 x y z u/\p x y z u/\q x y z u/\r x y z u/\s x y z u/\t x y z u/\l x y z u/\y1=e1 x y z u)->G2 y0 y1:=λh=>E47 h λx y z u a b c d e f h=>E02 h λg i=>yH a i (k x y z u b c d e f g)
end
section
variable{a b c d e:Type}
variable{p q r s t:a->b->c->d->e->Prop}{g:Prop}
theorem Kb(x:a)(y:b)(z:c)(u:d)(v:e)(f:p x y z u v)(g:q x y z u v)(h:r x y z u v)(i:s x y z u v)(j:t x y z u v):∃x y z u v,p x y z u v/\q x y z u v/\r x y z u v/\s x y z u v/\t x y z u v:=⟨x,y,Ou z u v f g h i j⟩
variable{β γ δ:Type}{e0:a->b->c->d->e->β}{e1:a->b->c->d->e->γ}{e2:a->b->c->d->e->δ}{y0:β}{y1:γ}{y2:δ}{G1:β->Prop}{G2:β->γ->Prop}{G3:β->γ->δ->Prop}
theorem BB(k:∀x y z u v,p x y z u v->q x y z u v->r x y z u v->G2 (e0 x y z u v) (e1 x y z u v)):(∃x y z u v,y0=e0 x y z u v/\p x y z u v/\q x y z u v/\r x y z u v/\y1=e1 x y z u v)->G2 y0 y1:=λh=>E31 h λx y z h=>E25 h λu v a b c d e=>yH a e (k x y z u v b c d)
end
section
variable{a b c d e f:Type}
variable{p q r s t l m n:a->b->c->d->e->f->Prop}{g:Prop}
theorem Oy(x:a)(y:b)(z:c)(u:d)(v:e)(w:f)(g:p x y z u v w)(h:q x y z u v w)(i:r x y z u v w)(j:s x y z u v w)(k:t x y z u v w)(m:l x y z u v w):∃x y z u v w,p x y z u v w/\q x y z u v w/\r x y z u v w/\s x y z u v w/\t x y z u v w/\l x y z u v w:=⟨x,y,J' z u v w g h i j k m⟩
theorem Rv(x:a)(y:b)(z:c)(u:d)(v:e)(w:f)(g:p x y z u v w)(h:q x y z u v w)(i:r x y z u v w)(j:s x y z u v w)(k:t x y z u v w)(o:l x y z u v w)(A:m x y z u v w)(B:n x y z u v w):∃x y z u v w,p x y z u v w/\q x y z u v w/\r x y z u v w/\s x y z u v w/\t x y z u v w/\l x y z u v w/\m x y z u v w/\n x y z u v w:=⟨x,y,Ox z u v w g h i j k o A B⟩
variable{β γ δ:Type}{e0:a->b->c->d->e->f->β}{e1:a->b->c->d->e->f->γ}{e2:a->b->c->d->e->f->δ}{y0:β}{y1:γ}{y2:δ}{G1:β->Prop}{G2:β->γ->Prop}{G3:β->γ->δ->Prop}
theorem BC(k:∀x y z u v w,p x y z u v w->q x y z u v w->r x y z u v w->s x y z u v w->t x y z u v w->G3 (e0 x y z u v w) (e1 x y z u v w) (e2 x y z u v w)):(∃x y z u v w,y0=e0 x y z u v w/\p x y z u v w/\q x y z u v w/\r x y z u v w/\s x y z u v w/\y1=e1 x y z u v w/\t x y z u v w/\y2=e2 x y z u v w)->G3 y0 y1 y2:=λh=>E31 h λx y z h=>E36 h λu v w a b c d e h=>E03 h λf g i=>J5 a f i (k x y z u v w b c d e g)
theorem Fv(k:∀x y z u v w,p x y z u v w->q x y z u v w->r x y z u v w->G3 (e0 x y z u v w) (e1 x y z u v w) (e2 x y z u v w)):(∃x y z u v w,p x y z u v w/\q x y z u v w/\r x y z u v w/\y0=e0 x y z u v w/\y1=e1 x y z u v w/\y2=e2 x y z u v w)->G3 y0 y1 y2:=λh=>E31 h λx y z h=>E36 h λu v w a b c d e f=>J5 d e f (k x y z u v w a b c)
end
section
variable{A B D E F G I J K L M N:Type}(i0:Nonempty A)(i1:Nonempty B)(i2:Nonempty D)(i3:Nonempty E)(i4:Nonempty F)(i5:Nonempty G)(i6:Nonempty I)(i7:Nonempty J)(i8:Nonempty K)(i9:Nonempty L)(vg:Nonempty M)(El:Nonempty N)
theorem np{A B:Type}(i:Nonempty A)(j:Nonempty B):Nonempty (A×B):=⟨E8 i,E8 j⟩
noncomputable def ep1{A:Type}(i0:Nonempty A)(a:A->Prop):A:=@Ed _ i0 λp=>¬a p
theorem epI1{A:Type}(i0:Nonempty A){a:A->Prop}(h:a (ep1 i0 a)):∀x,a x:=λx=>yq λb=>Ag (p:=λp=>¬a p) ⟨x,b⟩ h
noncomputable def Rw(a:A->B->Prop)(p:A×B):Prop:=a p.1 p.2
noncomputable def ep2(a:A->B->Prop):A×B:=ep1 (np i0 i1) (Rw a)
theorem epI2{a:A->B->Prop}(h:a (ep2 i0 i1 a).1 (ep2 i0 i1 a).2):∀b c,a b c:=λb c=>epI1 (np i0 i1) (a:=Rw a) h (b,c)
noncomputable def Rx(a:A->B->D->Prop)(p:A×B×D):Prop:=Rw (a p.1) p.2
noncomputable def ep3(a:A->B->D->Prop):A×B×D:=ep1 (np i0 (np i1 i2)) (Rx a)
theorem epI3{a:A->B->D->Prop}(h:a (ep3 i0 i1 i2 a).1 (ep3 i0 i1 i2 a).2.1 (ep3 i0 i1 i2 a).2.2):∀b c d,a b c d:=λb c d=>epI1 (np i0 (np i1 i2)) (a:=Rx a) h (b,c,d)
noncomputable def Ry(a:A->B->D->E->Prop)(p:A×B×D×E):Prop:=Rx (a p.1) p.2
noncomputable def ep4(a:A->B->D->E->Prop):A×B×D×E:=ep1 (np i0 (np i1 (np i2 i3))) (Ry a)
theorem epI4{a:A->B->D->E->Prop}(h:a (ep4 i0 i1 i2 i3 a).1 (ep4 i0 i1 i2 i3 a).2.1 (ep4 i0 i1 i2 i3 a).2.2.1 (ep4 i0 i1 i2 i3 a).2.2.2):∀b c d e,a b c d e:=λb c d e=>epI1 (np i0 (np i1 (np i2 i3))) (a:=Ry a) h (b,c,d,e)
noncomputable def Rz(a:A->B->D->E->F->Prop)(p:A×B×D×E×F):Prop:=Ry (a p.1) p.2
noncomputable def ep5(a:A->B->D->E->F->Prop):A×B×D×E×F:=ep1 (np i0 (np i1 (np i2 (np i3 i4)))) (Rz a)
theorem epI5{a:A->B->D->E->F->Prop}(h:a (ep5 i0 i1 i2 i3 i4 a).1 (ep5 i0 i1 i2 i3 i4 a).2.1 (ep5 i0 i1 i2 i3 i4 a).2.2.1 (ep5 i0 i1 i2 i3 i4 a).2.2.2.1 (ep5 i0 i1 i2 i3 i4 a).2.2.2.2):∀b c d e f,a b c d e f:=λb c d e f=>epI1 (np i0 (np i1 (np i2 (np i3 i4)))) (a:=Rz a) h (b,c,d,e,f)
noncomputable def RA(a:A->B->D->E->F->G->Prop)(p:A×B×D×E×F×G):Prop:=Rz (a p.1) p.2
noncomputable def ep6(a:A->B->D->E->F->G->Prop):A×B×D×E×F×G:=ep1 (np i0 (np i1 (np i2 (np i3 (np i4 i5))))) (RA a)
theorem epI6{a:A->B->D->E->F->G->Prop}(h:a (ep6 i0 i1 i2 i3 i4 i5 a).1 (ep6 i0 i1 i2 i3 i4 i5 a).2.1 (ep6 i0 i1 i2 i3 i4 i5 a).2.2.1 (ep6 i0 i1 i2 i3 i4 i5 a).2.2.2.1 (ep6 i0 i1 i2 i3 i4 i5 a).2.2.2.2.1 (ep6 i0 i1 i2 i3 i4 i5 a).2.2.2.2.2):∀b c d e f g,a b c d e f g:=λb c d e f g=>epI1 (np i0 (np i1 (np i2 (np i3 (np i4 i5))))) (a:=RA a) h (b,c,d,e,f,g)
noncomputable def RB(a:A->B->D->E->F->G->I->Prop)(p:A×B×D×E×F×G×I):Prop:=RA (a p.1) p.2
noncomputable def ep7(a:A->B->D->E->F->G->I->Prop):A×B×D×E×F×G×I:=ep1 (np i0 (np i1 (np i2 (np i3 (np i4 (np i5 i6)))))) (RB a)
theorem epI7{a:A->B->D->E->F->G->I->Prop}(h:a (ep7 i0 i1 i2 i3 i4 i5 i6 a).1 (ep7 i0 i1 i2 i3 i4 i5 i6 a).2.1 (ep7 i0 i1 i2 i3 i4 i5 i6 a).2.2.1 (ep7 i0 i1 i2 i3 i4 i5 i6 a).2.2.2.1 (ep7 i0 i1 i2 i3 i4 i5 i6 a).2.2.2.2.1 (ep7 i0 i1 i2 i3 i4 i5 i6 a).2.2.2.2.2.1 (ep7 i0 i1 i2 i3 i4 i5 i6 a).2.2.2.2.2.2):∀b c d e f g i,a b c d e f g i:=λb c d e f g i=>epI1 (np i0 (np i1 (np i2 (np i3 (np i4 (np i5 i6)))))) (a:=RB a) h (b,c,d,e,f,g,i)
noncomputable def RC(a:A->B->D->E->F->G->I->J->Prop)(p:A×B×D×E×F×G×I×J):Prop:=RB (a p.1) p.2
noncomputable def ep8(a:A->B->D->E->F->G->I->J->Prop):A×B×D×E×F×G×I×J:=ep1 (np i0 (np i1 (np i2 (np i3 (np i4 (np i5 (np i6 i7))))))) (RC a)
theorem epI8{a:A->B->D->E->F->G->I->J->Prop}(h:a (ep8 i0 i1 i2 i3 i4 i5 i6 i7 a).1 (ep8 i0 i1 i2 i3 i4 i5 i6 i7 a).2.1 (ep8 i0 i1 i2 i3 i4 i5 i6 i7 a).2.2.1 (ep8 i0 i1 i2 i3 i4 i5 i6 i7 a).2.2.2.1 (ep8 i0 i1 i2 i3 i4 i5 i6 i7 a).2.2.2.2.1 (ep8 i0 i1 i2 i3 i4 i5 i6 i7 a).2.2.2.2.2.1 (ep8 i0 i1 i2 i3 i4 i5 i6 i7 a).2.2.2.2.2.2.1 (ep8 i0 i1 i2 i3 i4 i5 i6 i7 a).2.2.2.2.2.2.2):∀b c d e f g i j,a b c d e f g i j:=λb c d e f g i j=>epI1 (np i0 (np i1 (np i2 (np i3 (np i4 (np i5 (np i6 i7))))))) (a:=RC a) h (b,c,d,e,f,g,i,j)
noncomputable def RD(a:A->B->D->E->F->G->I->J->K->Prop)(p:A×B×D×E×F×G×I×J×K):Prop:=RC (a p.1) p.2
noncomputable def ep9(a:A->B->D->E->F->G->I->J->K->Prop):A×B×D×E×F×G×I×J×K:=ep1 (np i0 (np i1 (np i2 (np i3 (np i4 (np i5 (np i6 (np i7 i8)))))))) (RD a)
theorem epI9{a:A->B->D->E->F->G->I->J->K->Prop}(h:a (ep9 i0 i1 i2 i3 i4 i5 i6 i7 i8 a).1 (ep9 i0 i1 i2 i3 i4 i5 i6 i7 i8 a).2.1 (ep9 i0 i1 i2 i3 i4 i5 i6 i7 i8 a).2.2.1 (ep9 i0 i1 i2 i3 i4 i5 i6 i7 i8 a).2.2.2.1 (ep9 i0 i1 i2 i3 i4 i5 i6 i7 i8 a).2.2.2.2.1 (ep9 i0 i1 i2 i3 i4 i5 i6 i7 i8 a).2.2.2.2.2.1 (ep9 i0 i1 i2 i3 i4 i5 i6 i7 i8 a).2.2.2.2.2.2.1 (ep9 i0 i1 i2 i3 i4 i5 i6 i7 i8 a).2.2.2.2.2.2.2.1 (ep9 i0 i1 i2 i3 i4 i5 i6 i7 i8 a).2.2.2.2.2.2.2.2):∀b c d e f g i j k,a b c d e f g i j k:=λb c d e f g i j k=>epI1 (np i0 (np i1 (np i2 (np i3 (np i4 (np i5 (np i6 (np i7 i8)))))))) (a:=RD a) h (b,c,d,e,f,g,i,j,k)
noncomputable def Mt(a:A->B->D->E->F->G->I->J->K->L->Prop)(p:A×B×D×E×F×G×I×J×K×L):Prop:=RD (a p.1) p.2
noncomputable def ep10(a:A->B->D->E->F->G->I->J->K->L->Prop):A×B×D×E×F×G×I×J×K×L:=ep1 (np i0 (np i1 (np i2 (np i3 (np i4 (np i5 (np i6 (np i7 (np i8 i9))))))))) (Mt a)
theorem epI10{a:A->B->D->E->F->G->I->J->K->L->Prop}(h:a (ep10 i0 i1 i2 i3 i4 i5 i6 i7 i8 i9 a).1 (ep10 i0 i1 i2 i3 i4 i5 i6 i7 i8 i9 a).2.1 (ep10 i0 i1 i2 i3 i4 i5 i6 i7 i8 i9 a).2.2.1 (ep10 i0 i1 i2 i3 i4 i5 i6 i7 i8 i9 a).2.2.2.1 (ep10 i0 i1 i2 i3 i4 i5 i6 i7 i8 i9 a).2.2.2.2.1 (ep10 i0 i1 i2 i3 i4 i5 i6 i7 i8 i9 a).2.2.2.2.2.1 (ep10 i0 i1 i2 i3 i4 i5 i6 i7 i8 i9 a).2.2.2.2.2.2.1 (ep10 i0 i1 i2 i3 i4 i5 i6 i7 i8 i9 a).2.2.2.2.2.2.2.1 (ep10 i0 i1 i2 i3 i4 i5 i6 i7 i8 i9 a).2.2.2.2.2.2.2.2.1 (ep10 i0 i1 i2 i3 i4 i5 i6 i7 i8 i9 a).2.2.2.2.2.2.2.2.2):∀b c d e f g i j k l,a b c d e f g i j k l:=λb c d e f g i j k l=>epI1 (np i0 (np i1 (np i2 (np i3 (np i4 (np i5 (np i6 (np i7 (np i8 i9))))))))) (a:=Mt a) h (b,c,d,e,f,g,i,j,k,l)
noncomputable def Mu(a:A->B->D->E->F->G->I->J->K->L->M->Prop)(p:A×B×D×E×F×G×I×J×K×L×M):Prop:=Mt (a p.1) p.2
noncomputable def ep11(a:A->B->D->E->F->G->I->J->K->L->M->Prop):A×B×D×E×F×G×I×J×K×L×M:=ep1 (np i0 (np i1 (np i2 (np i3 (np i4 (np i5 (np i6 (np i7 (np i8 (np i9 vg)))))))))) (Mu a)
theorem epI11{a:A->B->D->E->F->G->I->J->K->L->M->Prop}(h:a (ep11 i0 i1 i2 i3 i4 i5 i6 i7 i8 i9 vg a).1 (ep11 i0 i1 i2 i3 i4 i5 i6 i7 i8 i9 vg a).2.1 (ep11 i0 i1 i2 i3 i4 i5 i6 i7 i8 i9 vg a).2.2.1 (ep11 i0 i1 i2 i3 i4 i5 i6 i7 i8 i9 vg a).2.2.2.1 (ep11 i0 i1 i2 i3 i4 i5 i6 i7 i8 i9 vg a).2.2.2.2.1 (ep11 i0 i1 i2 i3 i4 i5 i6 i7 i8 i9 vg a).2.2.2.2.2.1 (ep11 i0 i1 i2 i3 i4 i5 i6 i7 i8 i9 vg a).2.2.2.2.2.2.1 (ep11 i0 i1 i2 i3 i4 i5 i6 i7 i8 i9 vg a).2.2.2.2.2.2.2.1 (ep11 i0 i1 i2 i3 i4 i5 i6 i7 i8 i9 vg a).2.2.2.2.2.2.2.2.1 (ep11 i0 i1 i2 i3 i4 i5 i6 i7 i8 i9 vg a).2.2.2.2.2.2.2.2.2.1 (ep11 i0 i1 i2 i3 i4 i5 i6 i7 i8 i9 vg a).2.2.2.2.2.2.2.2.2.2):∀b c d e f g i j k l m,a b c d e f g i j k l m:=λb c d e f g i j k l m=>epI1 (np i0 (np i1 (np i2 (np i3 (np i4 (np i5 (np i6 (np i7 (np i8 (np i9 vg)))))))))) (a:=Mu a) h (b,c,d,e,f,g,i,j,k,l,m)
noncomputable def Oz(a:A->B->D->E->F->G->I->J->K->L->M->N->Prop)(p:A×B×D×E×F×G×I×J×K×L×M×N):Prop:=Mu (a p.1) p.2
noncomputable def ep12(a:A->B->D->E->F->G->I->J->K->L->M->N->Prop):A×B×D×E×F×G×I×J×K×L×M×N:=ep1 (np i0 (np i1 (np i2 (np i3 (np i4 (np i5 (np i6 (np i7 (np i8 (np i9 (np vg El))))))))))) (Oz a)
theorem epI12{a:A->B->D->E->F->G->I->J->K->L->M->N->Prop}(h:a (ep12 i0 i1 i2 i3 i4 i5 i6 i7 i8 i9 vg El a).1 (ep12 i0 i1 i2 i3 i4 i5 i6 i7 i8 i9 vg El a).2.1 (ep12 i0 i1 i2 i3 i4 i5 i6 i7 i8 i9 vg El a).2.2.1 (ep12 i0 i1 i2 i3 i4 i5 i6 i7 i8 i9 vg El a).2.2.2.1 (ep12 i0 i1 i2 i3 i4 i5 i6 i7 i8 i9 vg El a).2.2.2.2.1 (ep12 i0 i1 i2 i3 i4 i5 i6 i7 i8 i9 vg El a).2.2.2.2.2.1 (ep12 i0 i1 i2 i3 i4 i5 i6 i7 i8 i9 vg El a).2.2.2.2.2.2.1 (ep12 i0 i1 i2 i3 i4 i5 i6 i7 i8 i9 vg El a).2.2.2.2.2.2.2.1 (ep12 i0 i1 i2 i3 i4 i5 i6 i7 i8 i9 vg El a).2.2.2.2.2.2.2.2.1 (ep12 i0 i1 i2 i3 i4 i5 i6 i7 i8 i9 vg El a).2.2.2.2.2.2.2.2.2.1 (ep12 i0 i1 i2 i3 i4 i5 i6 i7 i8 i9 vg El a).2.2.2.2.2.2.2.2.2.2.1 (ep12 i0 i1 i2 i3 i4 i5 i6 i7 i8 i9 vg El a).2.2.2.2.2.2.2.2.2.2.2):∀b c d e f g i j k l m n,a b c d e f g i j k l m n:=λb c d e f g i j k l m n=>epI1 (np i0 (np i1 (np i2 (np i3 (np i4 (np i5 (np i6 (np i7 (np i8 (np i9 (np vg El))))))))))) (a:=Oz a) h (b,c,d,e,f,g,i,j,k,l,m,n)
end
section
set_option compiler.extract_closed false
open Lean
def nlq0 (l : List Syntax) : Syntax := .node .none nullKind l.toArray
def gIq0 (s : String) : Syntax := mkIdent s.toName
def rNq0 (k : Name) (n : Nat) (s : List Syntax) : List Syntax := .node .none k (s.take n).reverse.toArray :: s.drop n
def drq0 (t : String) : String := (t.drop 1).toString
def dnq0 (t : String) : Nat := (drq0 t).toNat!
def spq0 (t : String) : List String := t.splitOn " "
def scq0 (a b : String) : String := a ++ b
def seq0 (a b : String) : Bool := a == b
def kdq0 (s : Syntax) (k : String) : Bool := s.isOfKind ((`Lean.Parser).append k.toName)
def rKq0 (p : Name) (n : Nat) (s : List Syntax) : List Syntax := rNq0 (p.append (s.headD .missing).getId) n s.tail
def rPq0 (e : List Syntax) : List String → List Syntax → Syntax
  | [], s => s.headD .missing
  | t :: l, s =>
    match t.front with
    | '\'' => rPq0 e l (.atom .none (drq0 t) :: s)
    | '$' => rPq0 e l (e.getD (dnq0 t) .missing :: s)
    | '=' => rPq0 e l (rNq0 nullKind (dnq0 t) s)
    | '<' => rPq0 e l (rKq0 `Lean.Parser.Tactic (dnq0 t) s)
    | '>' => rPq0 e l (rKq0 `Lean.Parser.Term (dnq0 t) s)
    | '~' => rPq0 e l (rKq0 .anonymous (dnq0 t) s)
    | _ => rPq0 e l (gIq0 t :: s)
def Rq0 (e : List Syntax) (s : String) : Syntax := rPq0 e (spq0 s) []
def fmq0 (f : Syntax → Syntax) : List Syntax → List Syntax
  | [] => []
  | a :: l => f a :: fmq0 f l
def fsq0 (f : String → Syntax) : List String → List Syntax
  | [] => []
  | a :: l => if a.isEmpty then fsq0 f l else f a :: fsq0 f l
def sjq0 : List Syntax → List Syntax
  | a :: b :: l => a :: .atom .none ";" :: sjq0 (b :: l)
  | l => l
def tPq0 (l : List Syntax) : Syntax := Rq0 [nlq0 (sjq0 l)] "'( $0 tacticSeq1Indented <1 tacticSeq <1 ') paren <3"
def tAq0 (t : Syntax) : Syntax := Rq0 [t] "'| $0 =1 tacticSeq1Indented <1 tacticSeq <1 group ~2"
def tFq0 (l : List Syntax) : Syntax := Rq0 [nlq0 (fmq0 tAq0 l)] "'first $0 first <2"
def tEq0 (t : Syntax) : Syntax := Rq0 [t] "'exact $0 exact <2"
def t1q0 (k : String) (l : List Syntax) : Syntax := Rq0 [nlq0 l] (scq0 "'" (scq0 k (scq0 " $0 " (scq0 k " <2"))))
def aR1q0 (f : String) : Syntax := Rq0 [] (scq0 "'refine " (scq0 f " '? '_ syntheticHole >2 =1 app >2 refine <2"))
def paq0 (t : Syntax) : Syntax := Rq0 [t, .node .none hygieneInfoKind #[.ident .none "".toRawSubstring .anonymous []]] "'( $1 hygienicLParen >2 $0 ') paren >3"
def mGq0 (t : Syntax) : MacroM Syntax := if t.isMissing then Macro.throwUnsupported else return t
def mRaq0 (e : Syntax) (f : String) : Syntax := Rq0 [paq0 e] (scq0 "'refine " (scq0 f " $0 '? '_ syntheticHole >2 =2 app >2 refine <2"))
def mRw1q0 (s r : Syntax) : Syntax :=
  let e := paq0 r[1]
  let f := Rq0 [e] "$0 '_ hole >1 =1 app >2"
  let g := Rq0 [e] "$0 '_ hole >1 '_ hole >1 =2 app >2"
  let a := if r[0].getNumArgs == 0 then "rwr" else "rwl"
  let b := if r[0].getNumArgs == 0 then "rwi" else "rwj"
  tFq0 [mRaq0 e a, mRaq0 f a, mRaq0 g a, mRaq0 e b, mRaq0 f b, mRaq0 g b, Rq0 [r, s[1]] "'rewrite $1 '[ $0 =1 '] rwRuleSeq <3 'at '⊢ token.«⊢» ~1 patternIgnore ~1 locationType <1 =1 locationHyp <1 location <2 =1 rewriteSeq <4"]
def mRw (s : Syntax) : MacroM Syntax := mGq0 (if s[1][0].getNumArgs + s[3].getNumArgs != 0 then .missing else tPq0 (fmq0 (mRw1q0 s) s[2][1].getSepArgs.toList))
def wkq0 (x : String) : Syntax := .node .none `PyProof.Rows.tacticWalk_at_ #[.atom .none "walk_at", Syntax.mkStrLit x]
def wksq0 (x : String) (l : List String) : Syntax := tFq0 (Rq0 [] "'exact Sub.ofM rfl =1 app >2 exact <2" :: tEq0 (gIq0 "trivial") :: fsq0 (fun y => tPq0 [Rq0 [] (scq0 "'refine Sub.cI " (scq0 y " '? '_ syntheticHole >2 =2 app >2 refine <2")), wkq0 x]) l)
def eGq0 (e x : Syntax) : Syntax := Rq0 [e, x] "'generalize =0 $0 '= $1 generalizeArg <4 =1 =0 generalize <3"
def eLq0 (e : Syntax) : List Syntax → List Syntax
  | x :: y :: l => eGq0 (Rq0 [e] "$0 '. '1 fieldIdx ~1 proj >3") x :: eLq0 (Rq0 [e] "$0 '. '2 fieldIdx ~1 proj >3") (y :: l)
  | x :: [] => [eGq0 e x]
  | [] => []
def nzq0 : Syntax := paq0 (Rq0 [tFq0 (Rq0 [] "'infer_instance tacticInfer_instance <1" :: fsq0 (fun x => tEq0 (gIq0 x)) ("neW neCx neSh neAr neGr neFl neItr neM neKd neSt neFm neStR neRl"|> spq0))] "'by $0 =1 tacticSeq1Indented <1 tacticSeq <1 byTactic >2")
def rvq0 (k : String) (l : List Syntax) (r : List Syntax) : List Syntax := if l.isEmpty then r else t1q0 k l :: r
def mEpq0 (x : String) : Syntax :=
  let p := (x.drop 1).toString.splitOn "|"
  let d := fsq0 gIq0 (spq0 (p.headD ""))
  let h := fsq0 gIq0 (spq0 (p.tail.headD ""))
  let k := toString d.length
  let u := Rq0 [] "'_ hole >1"
  let e := paq0 (Rq0 [gIq0 (scq0 "ep" k), nlq0 (u :: fmq0 (fun _ => u) d)] "$0 $1 app >2")
  let z := nzq0
  rvq0 "revert" h (t1q0 "revert" d :: Rq0 [gIq0 (scq0 "epI" k), nlq0 (fmq0 (fun _ => z) d ++ [Rq0 [] "'? '_ syntheticHole >2"])] "'refine 'no_implicit_lambda% $0 $1 app >2 noImplicitLambda >2 refine <2" :: eLq0 e d ++ rvq0 "intro" h []) |> tPq0
def mWk1q0 (x : String) : Syntax :=
  if x.front == '@' then mEpq0 x else
  if seq0 x "c" then aR1q0 "xCons"
  else if seq0 x "q" then tFq0 (Rq0 [] "'refine ev_name rfl '? '_ syntheticHole >2 =2 app >2 refine <2" :: fsq0 aR1q0 ("xCons ex_nil sAs sIf sRt sEx st_cont st_brk st_pass ev_int ev_bool ev_none ev_str wBin wCmp wSub wTup wLst wIf ar_nil aCons as_name aSub tCmp tNot"|> spq0))
  else if seq0 x "q sub" then wksq0 x ["rfl"]
  else if seq0 x "q subs" then wksq0 x ["rfl", "sR1", "sR2", "sR3"]
  else .missing
def mWk (s : Syntax) : MacroM Syntax := mGq0 (mWk1q0 (s[1].isStrLit?.getD ""))
def tRpq0 : Syntax := Rq0 [wkq0 "q"] "'repeat $0 =1 tacticSeq1Indented <1 tacticSeq <1 tacticRepeat_ <2"
def aHq0 (t : Syntax) : Syntax := Rq0 [t[0], nlq0 (t[1].getArgs.toList ++ [Rq0 [] "'? '_ syntheticHole >2"])] "'refine $0 $1 app >2 refine <2"
def mOq0 (s t : Syntax) : MacroM Syntax := match s.getHeadInfo with
  | .original .. => return t
  | _ => Macro.throwUnsupported
def mAp (s : Syntax) : MacroM Syntax := if kdq0 s[1] "Term.app" then mOq0 s (aHq0 s[1]) else Macro.throwUnsupported
def mEx (s : Syntax) : MacroM Syntax := mOq0 s (tPq0 [aHq0 s[1][0], tRpq0])
def mSh (s : Syntax) : MacroM Syntax := mOq0 s (tEq0 s[1])
def mLi (s : Syntax) : MacroM Syntax := mOq0 s tRpq0
def mRf (s : Syntax) : MacroM Syntax := mOq0 s (Rq0 [s[1]] "'refine $0 refine <2")
def mSe (s : Syntax) : MacroM Syntax := return nlq0 (fmq0 (fun x => Rq0 [x] "=0 =0 =0 =0 =0 =0 =0 Lean.Parser.Command.declModifiers ~7 'theorem $0 =0 Lean.Parser.Command.declId ~2 =0 ': True typeSpec >2 Lean.Parser.Command.declSig ~2 ':= trivial =0 =0 Lean.Parser.Termination.suffix ~2 =0 Lean.Parser.Command.declValSimple ~4 Lean.Parser.Command.theorem ~4 Lean.Parser.Command.declaration ~2") s[1].getArgs.toList)
def mDc (s : Syntax) : MacroM Syntax := mOq0 s (Rq0 [] "'by 'decide =0 optConfig <1 decide <2 =1 tacticSeq1Indented <1 tacticSeq <1 byTactic >2")
def mSi (s : Syntax) : MacroM Syntax := mOq0 s (Rq0 [] "'by 'assumption assumption <1 =1 tacticSeq1Indented <1 tacticSeq <1 byTactic >2")
def mFo (s : Syntax) : MacroM Syntax := mOq0 s (Rq0 [s[1]] "'with_unfolding_all $0 withUnfoldingAll <2")
def xIq0 (x : Syntax) : Syntax := if kdq0 x "Tactic.rcasesPat.ignore" then Rq0 [] "'_ hole >1" else x[0]
def xNq0 (l : List Syntax) : Syntax := gIq0 (scq0 "qz" (toString l.length))
def xZq0 : List Syntax → List Syntax
  | [] => []
  | a :: l => (if a[0].getId == `rfl then xNq0 l else xIq0 a) :: xZq0 l
def xSq0 : List Syntax → List Syntax
  | [] => []
  | a :: l => if a[0].getId == `rfl then t1q0 "subst" [xNq0 l] :: xSq0 l else xSq0 l
def mX1q0 (h : Syntax) (w f : List Syntax) : Syntax :=
  let g := if kdq0 h "Tactic.rcasesPat.ignore" then gIq0 "qz" else h[0]
  let b := Rq0 [gIq0 (scq0 "E" (scq0 (toString w.length) (toString f.length))), g] "'refine $0 $1 '? '_ syntheticHole >2 =2 app >2 refine <2" :: t1q0 "clear" [g] :: t1q0 "intro" (fmq0 xIq0 w ++ xZq0 f) :: xSq0 f
  tPq0 (if kdq0 h "Tactic.rcasesPat.ignore" then t1q0 "intro" [g] :: b else b)
def mXt (s : Syntax) : MacroM Syntax :=
  match fmq0 (fun x => x[0]) s[1].getArgs.toList with
  | h :: t :: r => mOq0 s (if kdq0 t "Tactic.rcasesPat.tuple" then mX1q0 h (fmq0 (fun x => x[0][0][0]) t[1].getSepArgs.toList) r else mX1q0 h [] (t :: r))
  | _ => Macro.throwUnsupported
def axq0 (s : String) : Syntax := Rq0 [] (scq0 s " =1 tacticSeq1Indented <1 tacticSeq <1")
def aT : Syntax := axq0 "'exact rT exact <2"
def aF : Syntax := axq0 "'exact rF exact <2"
def aP : Syntax := axq0 "'exact rP exact <2"
def aG : Syntax := axq0 "'exact rG exact <2"
def aL : Syntax := axq0 "'exact rL exact <2"
def aL1 : Syntax := axq0 "'exact rL1 exact <2"
def aQ : Syntax := axq0 "'exact rQ exact <2"
def aN : Syntax := axq0 "'exact rN exact <2"
def aK : Syntax := axq0 "'exact rK exact <2"
def aI : Syntax := axq0 "'exact rI exact <2"
def aI2 : Syntax := axq0 "'exact rI2 exact <2"
def aTup : Syntax := axq0 "'exact rTup exact <2"
def aS : Syntax := axq0 "'simp =0 optConfig <1 =0 =0 =0 =0 simp <6"
def aR : Syntax := axq0 "'rfl tacticRfl <1"
def aD : Syntax := axq0 "'decide =0 optConfig <1 decide <2"
def aU : Syntax := Rq0 [axq0 "'exact rF exact <2"] "'with_unfolding_all $0 withUnfoldingAll <2 =1 tacticSeq1Indented <1 tacticSeq <1"
end
set_option autoImplicit true
set_option relaxedAutoImplicit true
open PySem
local macro_rules (kind:=Lean.Parser.Tactic.apply)|s=>mAp s
local macro_rules (kind:=Lean.Parser.Tactic.«tacticExists_,,»)|s=>mEx s
local macro_rules (kind:=Lean.Parser.Tactic.show)|s=>mSh s
local macro_rules (kind:=Lean.Parser.Tactic.cbv)|s=>mLi s
local macro_rules (kind:=Lean.Elab.Tactic.Ext.ext)|s=>mXt s
local macro_rules (kind:=Lean.Parser.Tactic.focus)|s=>mFo s
local macro_rules (kind:=Lean.Parser.Tactic.exact)|s=>mRf s
local macro_rules (kind:=Lean.Parser.Term.omission)|s=>mDc s
local macro_rules (kind:=«term∅»)|s=>mSi s
section
variable{Y U:Type}{l r t:List Y}{a b c d:Y}{f:Y->U}{n k i:Nat}{p:Prop}
theorem sS:(l++[a])[aa l]?=Zs a:=List.getElem?_concat_length
theorem Mv:(l++a::r)[aa l]?=Zs a:=by rw[aH (ax _),gP];rfl
theorem LC:(l++a::b::r)[aa l+1]?=Zs b:=by rw[aH (aW _ _),gX];rfl
theorem Mw:(l++[a]++r)[aa l]?=Zs a:=by rw[av];show Mv
theorem Hs:(l++[a])[aa l]?.getD d=a:=by rw[sS];rfl
theorem BD(h:l[k]?=Zs a):(l.map f)[k]?=Zs (f a):=by rw[ak,h];rfl
theorem mX(h:k<aa l):(l.map f)[k]?=Zs (f l[k]):=BD (ag h)
theorem wd{f:Nat->U}(h:i<n):((aJ n).map f)[i]?=Zs (f i):=BD (dP h)
theorem OA{f:Nat->U}{d:U}(h:i<n):((aJ n).map f)[i]?.getD d=f i:=by rw[wd h];rfl
theorem OB{f:Y×Nat->U}(h:k<aa l):(l.zipIdx.map f)[k]?=Zs (f (l[k],k)):=BD (by rw[cb,ag h,bK];rfl)
theorem vQ:a∈l++[a]:=jZ _ (.head _)
theorem Kd:a∈l++a::r:=jZ _ (.head _)
theorem OC:a∈l++[a]++r:=cE _ vQ
theorem p5(h:a∈l):a∈l++r:=cE _ h
theorem Fw(h:a∈r):a∈l++r:=jZ _ h
theorem Ht(h:a∈l):a∈l++t++r:=p5 (p5 h)
theorem CW:[a].Nodup:=cw.mpr ⟨bq,.nil⟩
theorem NT(h:aa l<=n):(l.map f).length<=n:=(aq f).symm▸h
theorem Hu(h:n<aa l):n<(l.map f).length:=(aq f).symm▸h
theorem RE(h:aa l=n):(l.map f).length=n:=(aq f).trans h
theorem Mx:l++r++t++[a]=l++(r++t++[a]):=by rw[av,av,av]
theorem Hv:(l++r++[a]).length=aa l+(aa r+1):=by rw[bC,bC,bu];rfl
theorem Hw(h:aa l=n):(l++[a]).length=n+1:=by rw[bC,h];rfl
theorem Em:(l++[a]).length=aa l+1:=bC
theorem OD:(l++a::r).set (aa l) b=l++b::r:=by rw[gG _ _ (ax _),gP];rfl
theorem LD(h:i<aa l):(l.set i a)[i]?=Zs a:=bO h
theorem Ke(h:l++[a]=[]):p:=absurd h (List.append_ne_nil_of_right_ne_nil l (qU a []))
theorem zc:l.map f++[f a]=(l++[a]).map f:=show l.map f++[a].map f=_ from bo.symm
theorem My(h:x=true)(k:y=true):(x&&y)=true:=by rw[h,k];rfl
theorem Kf[Decidable p](h:¬p):(!decide p)=true:=by rw[decide_eq_false h];rfl
theorem nS(h:Zt=Zs a):p:=Option.noConfusion rfl (heq_of_eq h)
theorem nB(h:false=true):p:=absurd h ⋯
theorem nC(h:[]=a::l):p:=absurd h.symm (qU a l)
theorem n0(h:0=n+1):p:=absurd h.symm (iy n)
end
theorem nm{Y:Type}{a:Y}{p:Prop}(h:a∈([]:List Y)):p:=(bq h).elim
theorem OE{Y:Type}{a:Y}{l:List Y}{p:Nat->Y->Prop}:(∃i x,(a::l)[i]?=Zs x/\p i x)↔p 0 a\/∃i x,l[i]?=Zs x/\p (i+1) x:=⟨λh=>Exists.elim h λi=>Nat.casesOn (motive:=λi=>(∃x,(a::l)[i]?=Zs x/\p i x)->_) i (λh=>Exists.elim h λx h=>.inl (Option.some.inj h.1▸h.2)) (λi h=>Exists.elim h λx h=>.inr ⟨i,x,h⟩),λh=>h.elim (λh=>⟨0,a,rfl,h⟩) λh=>Exists.elim h λi h=>Exists.elim h λx h=>⟨i+1,x,h⟩⟩
theorem Fy{a b f:Nat}(h:a - b>f):b<=a:=a_ (mG (a8 h))
theorem Kg{a b f:Nat}(h:a - b>f):b<a:=mG (a8 h)
theorem sl{a b c:Nat}(h:b<=a):c - a<=c - b:=vb h c
theorem OF{b:Nat}{a:Int}:(max (0:Int) (min a (b:Int)))=((min (a).toNat b:Nat):Int):=by
 cases a with
 |ofNat n=>
  exact(Int.max_eq_right (Int.le_min.mpr ⟨fT n,fT b⟩)).trans ?_;rcases iV n b with h|h
  show(NG (kK.mpr h)).trans (congrArg _ (b0 h).symm);show(Int.min_eq_right (kK.mpr h)).trans (congrArg _ (iz h).symm)
 |negSucc n=>rw[NG (gQ (iw (Jt n)) (fT b)),Int.max_eq_left (iw (Jt n))];simp
theorem OG{a b c d e f:Nat}(g:(a-b)<=(e-f)):(a-((b+c)+d))<=(e-(f+d)):=by rw[bM,←f6,←f6,←f6];show af (dh _ c) (f7 g d)
theorem OH(e:b<=(c-d)):((a+(b/2))-a)<=(c-(d+1)):=by
 rw[gX,←f6];cases b with
 |zero=>show bz _
 |succ b=>show cF (aj (NH (jH b) (ax 2)) e)
theorem NU{a b c:Nat}(d:c<=a):((a-b)-(a-c))=(c-b):=by rw[pf,jr d]
theorem Mz{a b c d:Nat}(e:(b-a)<=(c-(max d c)))(f:a<=b):a=b:=bt f (ff (GZ.mp (af e (aX (fg (dW d c))))))
theorem lp{a b c:Nat}(h:b<=c - a)(k:b>0):a+b<=c:=GA (a_ (Kg (aj k h))) h
theorem OI(g:(a-(b+1))<=c)(h:¬(c=(a-(b+1)))):(a-b)<=c:=Lj (ba (show a - b - 1<=c from f6 a b 1▸g) λe=>h (e.symm.trans (f6 a b 1)))
theorem Hx{a b c:Nat}(d:¬((c-b)=0)):((a+b)+(c-b))=(a+c):=by rw[bu,lg (Fy (dZ d))]
theorem OJ{a b c d:Nat}(f:¬((a=b)\/((a=c)\/(a=d)))):(a≠b)/\((a≠c)/\(a≠d)):=⟨λe=>f (.inl e),λe=>f (.inr (.inl e)),λe=>f (.inr (.inr e))⟩
theorem OK(e:b<=c)(g:¬(a>=b)):(a+((b-a)/2))<=c:=af (af (aA (Nat.div_le_self _ 2) a) (aX (lg (mZ g)))) e
theorem MA{a b c d e:Nat}(f:d<e)(g:e<=(b-a)):(a+(min (b-a) c))<=b:=af (aA (fF _ c) a) (lp (ax _) (aj (a8 f) g))
theorem RF(e:(a-1)<=b)(g:c<a)(h:d<c)(j:b=(c-1)):False:=bf c (aZ (af (cF g) (af e (aX j))) (bH h))
theorem OL{a b c d:Nat}(e:b>=(c+d)):(a+b)=((a+c)+(b-c)):=by rw[bu,lg (aV e)]
theorem RG(e:a<b)(g:c<a):(a-1)<(b-1):=f9 (a8 g) e
theorem OM(e:¬(a>=b)):((a+((b-a)/2))+1)<=b:=cW (NH (du (ed e)) (ax 2))
theorem ON(e:(a+d)<=c)(g:b>1)(h:b<=d):((a+b)-1)<c:=aj (bH (NI a (a8 g))) (af (aA h a) e)
theorem Kh{a b c d e f g:Nat}(h:((a+d)+e)<=f)(i:b<=d)(j:c=g)(k:f<=g):(a+b)<=c:=j▸af (aA i a) (af (aV h) k)
theorem OO{a b c d e:Nat}(f:(a+e)<=d)(g:b<e):((a+b)-c)<d:=aZ (dh _ c) (aj (br g a) f)
theorem OP(e:(a+(40*(c+b)))<=d):((a+b)+(40*c))<=d:=by exact af ?_ e;rw[V_,bu,cM (40*c)];show aA (bp (ix b ⋯) _) a
theorem OQ(e:(a+(4*(c+b)))<=d):((a+b)+(4*c))<=d:=by exact af ?_ e;rw[V_,bu,cM (4*c)];show aA (bp (ix b ⋯) _) a
theorem OR(g:(b-a)<b):0<a:=dZ λe=>bf b (e▸g:b - 0<b)
theorem Wm{a b c d e:Nat}(f:a<=(e+d))(g:e<=(b+c)):a<=(b+(c+d)):=bu b c d▸af f (bp g d)
theorem OS(e:b=a)(g:c<a):(a-1)<b:=by rw[e];show bH g
theorem RH{a b c d e f:Nat}(g:((a+c)+d)<=e)(h:b=f)(i:e<=f):a<=b:=h▸af (aV (aV g)) i
theorem Wn(e:a<(c-d))(g:c<=b):(0+a)<b:=by rw[bK];show aj e (af (dh c d) g)
theorem OT(e:a>1):((a-2)+1)<a:=by rw[show a - 2=a - 1 - 1 from rfl,dp (du e)];show bH e
theorem OU{a b c:Nat}(e:b<=a)(d:c<b):(a-b)<a:=JF (aj (a8 d) e) (a8 d)
theorem MB{a b c d e:Nat}(f:(c+d)=((c+e)+a))(g:d<(e+b)):a<b:=kT (aZ (aX (lj (f.trans (bu c e a))).symm) g)
theorem OV{a b c d e:Nat}(f:a<=(e+c))(g:e<=(b+d)):a<=(b+(c+d)):=cM d c▸Wm f g
theorem RI(e:(eY)=16777216)(g:b=a)(h:b<=1000):a<=(eY):=e▸g▸af h ⋯
theorem QL{a b c:Nat}(d:c≠b):(a+b)≠(a+c):=λe=>d (lj e).symm
theorem Wo(e:(b+a)=c)(g:c<=100):a<=1000000:=af (af (aB a b) (e▸g)) ⋯
theorem OW(e:a<c)(g:c<=b):(0+a)<b:=by rw[bK];show aj e g
theorem OX(e:¬(a<b))(g:¬(a=b)):¬(a<(b+1)):=λh=>g (bt (bG h) (bS e))
theorem NV(e:a<b)(g:b<=1000):a<=1000000:=af (a_ e) (af g ⋯)
theorem Xc(e:a<((2:Int)^62:Int)):a<((2:Int)^63:Int):=mH e ⋯
theorem o1{a b:Nat}(c:a<b)(d:b<=1000):(a:Int)<((2:Int)^62:Int):=fU (dB.mpr (aj c d)) (by decide:((1000:Nat):Int)<=2^62)
theorem o3{a b:Nat}(c:a<b)(d:b<=1000000):(a:Int)<((2:Int)^62:Int):=fU (dB.mpr (aj c d)) (by decide:((1000000:Nat):Int)<=2^62)
theorem o0(e:a<=1000):a<=1000000:=af e (aB 1000 999000)
theorem o2{a b c:Nat}(d:a<c)(e:b=c):a<b:=cJ d (id (Eq.symm e))
theorem o4{a b c:Nat}(d:a<=c):(a-b)<=c:=af (dh a b) d
theorem o5{a b c:Nat}(d:a<=c)(e:c<=b):a<=b:=af d e
theorem o7{a b:Nat}:a<=(a+b):=aW a b
theorem o9{a b c:Nat}:((a+b)+c)=(a+(c+b)):=by simp+arith
theorem Wq(e:a<b)(g:¬((a+1)=b)):(a+1)<b:=ba e g
theorem Xd{a b c:Nat}(d:a<c)(e:c<=b):a<b:=aj d e
theorem Wr(e:a<(b+1))(g:a>=b):a=b:=fu g e
theorem Jy{a:Nat}:(0:Int)<=(a:Int):=fT a
theorem Ki(e:a<(b+1))(g:¬(a=b)):a<b:=ba (bG e) g
theorem RJ{a b:Nat}(c:a<b)(d:a=b):False:=bf _ (d▸c)
theorem Kj(e:a<=101000):a<=1000000:=af e (aB 101000 899000)
theorem Xe{a b c:Nat}(d:a<b):a<(b+c):=jt c d
theorem Xf{a b c:Nat}(d:a<c)(e:c<=b):a<=b:=a_ (aj d e)
theorem RK{a:Nat}:¬((a:Int)<(0:Int)):=qw a
theorem Xg{a b:Nat}(c:a<b):(a:Int)<(b:Int):=dB.mpr c
theorem Xh{a b c:Int}(d:a<=c)(e:c<=b):a<=b:=gQ d e
theorem NW{a b c:Nat}(d:c>=b):((a+b)+(c-b))=(a+c):=by simp+arith [d]
theorem Ws:a<(a+1):=Bv a
theorem Xi{a b:Nat}(c:b=a):a<=b:=aX (id (Eq.symm c))
theorem OY{a b:Nat}(c:¬(a<b)):¬((a:Int)<(b:Int)):=by simp[c]
theorem QM:a<((a+1)+b):=by simp+arith
theorem QN{a b:Nat}(c:b<a):a≠b:=by first|lia|omega
theorem QO{a b:Nat}(c:a<b)(d:b<=131073):(a:Int)<((2:Int)^62:Int):=by first|lia|omega
theorem QP(e:a<=b)(g:b<=1000):a<=1000000:=by first|lia|omega
theorem QQ{a b:Nat}(c:a<b)(d:b<=101000):(a:Int)<((2:Int)^62:Int):=by first|lia|omega
theorem QR(e:a<=b)(g:b<=131073):a<=1000000:=by first|lia|omega
theorem QS(e:b<=c)(g:¬(a>=b)):(a+((b-a)/2))<c:=by first|lia|omega
theorem RL{a b c:Nat}(d:a<b)(e:a=c)(f:b<=c):False:=by first|lia|omega
theorem RN:(0+a)<=a:=by simp+arith
theorem RO{a:Nat}(b:a<=1000000):(a:Int)<((2:Int)^63:Int):=by first|lia|omega
theorem RP:a<(a+(b+1)):=by simp+arith
theorem RQ{a b c d:Nat}(e:(a+c)<=d)(f:d<=b):a<=b:=by first|lia|omega
theorem RS(e:a=(0+b)):a=b:=by simp[e]
theorem MC(e:a=b)(g:b<=1000):a<=1000000:=by first|lia|omega
theorem MD(e:a=b)(g:b<=131073):a<=1000000:=by first|lia|omega
theorem OZ(e:a<(b+1)):a<=b:=bG e
theorem RT{a b:Nat}(c:a<=b)(d:¬(a=b)):a<b:=ba c d
theorem RU{a b:Nat}:(a-b)<=a:=dh a b
theorem O1(e:a<=b)(g:c<a):(a-1)<b:=by first|lia|omega
theorem ME{a b c:Int}(d:a<=c)(e:¬(b<c)):a<=b:=by first|lia|omega
theorem O2{a b c:Nat}(d:a<(min b c))(e:a=b):False:=by first|lia|omega
theorem RV{a b c:Int}:((a-b)-c)=(a-(b+c)):=uh a b c
theorem O3(e:a=(b+1))(g:a=0):False:=by first|lia|omega
theorem O4(e:a=(b+1))(g:a<=b):False:=by first|lia|omega
theorem O5{a b c:Nat}(d:c=a)(e:c<=b):a<=b:=by subst d;show e
theorem O6{a:Nat}:(-((2:Int)^63:Int))<=(a:Int):=Int.NonNeg.mk (a+w5 9223372036854775807)
theorem O7{a b c:Nat}:(a+(b+c))=((a+c)+b):=by simp+arith
theorem O8(e:(a+(c+1))=b):a<b:=by subst e;show iW (aW a c)
theorem O9{a b c d:Nat}(e:(a+(c+b))=d):((a+b)+c)=d:=by subst e;simp+arith
theorem O_{a b c:Nat}(d:(b=c)/\(c=a)):a=b:=by simp[d]
theorem O'{a b:Nat}(c:b<a):(a:Int)≠(0:Int):=by first|lia|omega
theorem Pa(e:4<=a):a≠2:=by first|lia|omega
theorem Pb(e:a<=b)(g:b<=101000):a<=1000000:=by first|lia|omega
theorem RW:a=(0+a):=Eq.symm (bK a)
theorem Pc:4<=((4*(a+1))+b):=by simp+arith
theorem Pd:(((4*(a+1))+b)-4)=((4*a)+b):=by simp+arith
theorem Pe{a b c d:Nat}:(((a+b)+c)+d)=(a+(b+(c+d))):=by simp+arith
theorem RX{a b:Nat}(c:(a:Int)=(b:Int))(d:¬(a=b)):False:=by first|lia|omega
theorem Pf:(a+2)≠((a+3)+b):=by simp+arith
theorem Pg{a b c d:Nat}(e:(a<=b)/\(c<=d))(f:d<c):False:=by first|lia|omega
theorem Ph:a<(a+(b+2)):=by constructor<;>show iW (aW a b)
theorem RY:(a+2)≠1:=Ne.symm (sL rfl)
theorem Pj(e:a=b)(g:b<=101000):a<=1000000:=by first|lia|omega
theorem RZ:¬((a+1)=0):=Ju a
theorem R6{a b:Nat}(c:a<b)(d:b<a):a=b:=by first|lia|omega
theorem Pk{a b c:Nat}(d:c<b)(e:c=a):a<b:=by subst e;show d
theorem Pl{a b:Nat}(c:a<b)(d:b<=7):(a:Int)<((2:Int)^62:Int):=by first|lia|omega
theorem Pm{a b c d:Nat}(e:a<c)(f:c=d)(g:d<=b):a<b:=by first|lia|omega
theorem Pn{a b c d:Nat}(e:a<c)(f:b=d)(g:d=c):a<b:=by first|lia|omega
theorem Po:a<((2*a)+1):=by simp+arith
theorem Pp{a b c:Int}(d:c=a)(e:c<=b):a<=b:=by subst d;show e
theorem Pq(e:(eY)=16777216)(g:a<=16000000):a<=(eY):=by first|lia|omega
theorem R7{a b c d:Nat}(e:b=(c+d)):(a+b)=((a+c)+d):=by subst e;simp+arith
theorem R8{a b c d:Nat}(e:b=((a+c)+d)):a<=b:=by simp+arith [e]
theorem R9(e:b=((a+1)+c)):a<b:=by subst e;show w6 (aW a.succ c)
theorem R_{b:Nat}{a:Int}:((a-(b:Int))-(1:Int))=(a-((b+1:Nat):Int)):=by first|(show uh a (↑b) 1)|omega
theorem Sa{a b:Nat}(c:¬(b=a)):¬(a=b):=λd=>c (id (Eq.symm d))
theorem Sb{a b c d:Nat}(e:(c+b)=d)(f:a<=d):(a-b)<=c:=by simp[e,f]
theorem Sd:((-((-a)-b))-b)=a:=by simp+arith
theorem Se{a:Nat}:¬((0:Int)<=((-(a:Int))-(1:Int))):=by simp+arith
theorem Sf{a b c:Nat}(d:c=a)(e:¬(b<c)):a<=b:=by subst d;show v8.mp e
theorem Sh:((a+(b+c):Nat):Int)=(((a+c)+b:Nat):Int):=by first|(simp+arith)|omega
theorem Sj{a:Nat}:((0:Int)+((a:Int)*(1:Int)))=((0+a:Nat):Int):=by first|(show E9 0 (↑a*1))|omega
theorem Sk:((a+(0+b))-b)=a:=by simp+arith
theorem Sl(e:a=(b+(0+c))):a<=(b+c):=by simp[e]
theorem Sm:(0+(a-0))=a:=by simp+arith
theorem Sn(e:(b+0)=c)(g:c=a):a<=b:=by subst g;show aX (id (Eq.symm e))
theorem So{a b:Nat}(c:b<a):(0:Int)<((a:Int)-(b:Int)):=by simp[c]
theorem Sr{c:Nat}{a b:Int}(d:(b-(c:Int))=a):(a-(1:Int))=(b-((c+1:Nat):Int)):=by first|(subst d;simp+arith)|omega
theorem Ss{a b c d:Nat}(e:(c<=a)/\((a≠b)/\(a<d))):a≠b:=by simp[e]
theorem Su:(a+b)<(a+(b+((c+1)+d))):=by simp+arith
theorem Sv{a b c:Nat}(d:a<=b):(a+((b-a)+c))=(b+c):=by simp+arith [d]
theorem Sw{a b c:Nat}:(((a+b)+c)+b)=((a+(c+b))+b):=by simp+arith
theorem Sx{a b c:Nat}(d:a≠c):(a+b)≠(c+b):=by simp[d]
theorem Sy:(4+(4*a))=(4*(a+1)):=by simp+arith
theorem Sz:(a+(((b+1)+1)+1))=((a+3)+b):=by simp+arith
theorem SA{a b c d:Nat}(e:a=(c+d)):(a+b)=((c+b)+d):=by subst e;simp+arith
theorem SD{a b c d:Nat}(e:a=(c+d)):(a+b)=(c+(d+b)):=by subst e;simp+arith
theorem SE(e:a=(b+1)):a≠0:=by subst e;simp+arith
theorem SF{a b:Nat}(c:a<b)(d:b=a):False:=bf _ (d▸c)
theorem SG{a b c:Nat}:a<=((a+b)+c):=by simp+arith
theorem SH{a b c d:Nat}:a<=(((a+b)+c)+d):=by simp+arith
theorem SI(e:a=0):(a-b)<=c:=by subst e;simp+arith
theorem SJ{a b c d:Nat}(e:a=(b+d))(f:d<c):(a-b)<c:=by simp[e,f]
theorem SK{a b c d:Nat}(e:(a≠b)/\((a≠c)/\(a≠d))):a≠b:=by simp[e]
theorem SN{a b c d:Nat}(e:(a≠c)/\((a≠b)/\(a≠d))):a≠b:=by simp[e]
theorem SO{a b c d:Nat}(e:(a≠c)/\((a≠d)/\(a≠b))):a≠b:=by simp[e]
theorem SP:((a+1)+b)≠0:=Ne.symm (y6 (a+1+b))
theorem SQ:((a+1)+b)≠a:=by simp+arith
theorem SR:((a+2)+b)≠0:=by simp+arith
theorem SS:(((a+b)+2)+c)≠a:=by simp+arith
theorem SU:((a+2)+b)≠(a+1):=by simp+arith
theorem SV:((a+3)+b)≠0:=by simp+arith
theorem SW:(((a+b)+3)+c)≠a:=by simp+arith
theorem SX:(((a+(2*b))+3)+c)≠((a+b)+1):=by simp+arith
theorem SY:((a+3)+b)≠(a+2):=by simp+arith
theorem S9:((a+b)+2)≠a:=by simp+arith
theorem S_:((a+(2*b))+2)≠((a+b)+1):=by simp+arith
theorem Ta{a b:Nat}(c:¬(b<=a)):¬((a:Int)>=(b:Int)):=by simp[c]
theorem Tb:(a+((b+((b+1)+1))+1))=(((a+1)+(2*b))+2):=by simp+arith
theorem Tc:(((a+b)+2)+c)=(a+((b+1)+(c+1))):=by simp+arith
theorem Td:((a+(2*b))+2)=(a+((b+1)+(b+1))):=by simp+arith
theorem Te:0<(a+2):=by simp+arith
theorem Tf{a b c d:Nat}:(((a+b)+c)+d)=(a+((b+c)+d)):=by simp+arith
theorem Tg:(((a+(b+1))+1)+c)=(a+((b+2)+c)):=by simp+arith
theorem Th{a b c:Nat}:((a+(b+c))+c)=(((a+c)+b)+c):=by simp+arith
theorem Ti:((a+((b+(b+1))+1))+1)=(((a+1)+(2*b))+2):=by simp+arith
theorem Tj:a<(a+((b+1)+c)):=by simp+arith
theorem Tn:a<(a+((b+2)+c)):=by simp+arith
theorem To:a<(a+((b+3)+c)):=by simp+arith
theorem Tp:(2+a)≠1:=by simp+arith
theorem Tq:(a+3)≠0:=by simp+arith
theorem Tr:(a+3)≠(a+2):=by simp+arith
theorem Ts:0≠(a+3):=by simp+arith
theorem Tt:(((a+1)+1)+b)=(a+(2+b)):=by simp+arith
theorem Tu{a b c d:Nat}:((a+b)+(c+d))=((c+b)+(a+d)):=by simp+arith
theorem Tv{a b c:Nat}(d:a=(c+b)):a=(b+c):=by subst d;simp+arith
theorem Tw(e:a=(1+b)):0<a:=by subst e;show w6 (aW (w5 0) b)
theorem Tx(e:a=((b+1)+c)):0<a:=by subst e;simp+arith
theorem Tz(e:a<=15):(2+a)<=17:=by simp+arith [e]
theorem TA(e:b=(a+1)):a<b:=by subst e;simp+arith
theorem TB{a b c d e:Nat}(f:b=((a+d)+e)):a<=(b+c):=by subst f;simp+arith
theorem TC{a b c d:Nat}(e:a<=(c+d)):(a+b)<=(c+(d+b)):=by simp+arith [e]
theorem TF{a b c:Nat}(d:b=c):(a+b)=(c+a):=by subst d;simp+arith
theorem TG:0<(1+a):=by simp+arith
theorem TH(e:a<=(0+100)):a<=1000:=af e (aB (0+100) 900)
theorem TJ(e:a=3)(g:b=2):(a+b)<=1000000:=by simp[e,g]
theorem TK(e:a=3)(g:b=2):(a+b)=5:=by simp[e,g]
theorem TL{a:Nat}(b:¬(0<a)):¬((a:Int)>(0:Int)):=by simp[b]
theorem TM:(((a+2)+1)+b)=(a+(b+3)):=by simp+arith
theorem TN(e:b<=100):((101*a)+b)<=(101*(a+1)):=bW (ax (101*a)) (Nat.le.step e)
theorem TO{a b:Nat}:(a-a)<=b:=by simp+arith
theorem TP(e:(b+1)=c)(g:a<c):a<=b:=by subst e;show bG g
theorem TQ{a b:Nat}(c:a<=b):(a+(b-a))<=b:=by simp[c]
theorem TR{a b c:Nat}(d:b<c):(a<=(a+b))/\((a+b)<(a+c)):=by simp[d]
theorem TS{a b c d:Nat}(e:b<d)(f:c=(a+d)):(a+b)<c:=by simp[e,f]
theorem TU{a b c d:Nat}(e:a=(b+d))(f:d<=c):a<=(b+c):=by simp[e,f]
theorem TV{a b c:Nat}(d:a=b):a<=(b+c):=by subst d;show aW a c
theorem TX(e:a=0):a<=b:=by subst e;simp+arith
theorem TY{a b c:Nat}(d:c=b)(e:¬(c<a)):a<=b:=by subst d;show v8.mp e
theorem TZ(e:a=c)(g:b=d):¬(((a*(1000000:Int))+b)<((c*(1000000:Int))+d)):=by simp[e,g]
theorem T_(e:a=c):(((a*(1000000:Int))+b)<((c*(1000000:Int))+d))↔(b<d):=by simp[e]
theorem yK{a:Nat}(h:a<=1000000):(a:Int)<(2:Int)^62:=dB.mpr (aZ h (by decide:1000000<4611686018427387904))
theorem Kk{a b:Nat}:a - min b a=a - b:=by
 rcases iV a b with h|h
 rw[iz h,gP,fg h];rw[b0 h]
theorem Ax(h:a<=b):a<=(a+b) / 2:=(Nat.le_div_iff_mul_le ⋯).mpr (by rw[Nat.mul_two];show aA h a)
theorem C8(h:a<=b):(a+b) / 2<=b:=Nat.div_le_of_le_mul (by rw[y7];show bp h b)
theorem C9(h:a<b):(a+b) / 2<b:=Nat.div_lt_of_lt_mul (by rw[y7];show iX h b)
theorem Pt:a - (b+a) / 2<=a - b:=by
 rcases iV a b with h|h
 rw[fg (cM b a▸Ax h)];show bz _;show sl (Ax h)
theorem mN{n a b c d:Nat}(h:a*n+c=b*n+d)(g:c<n)(i:d<n):a=b/\c=d:=by
 have f:∀{x y:Nat},y<n->(x*n+y)/n=x:=λ{x y} k=>by rw[Ra,NJ (a8 k),L9 k];rfl
 have e:a=b:=(f g).symm.trans ((congrArg (·/n) h).trans (f i));show⟨e,lj (e▸h)⟩
theorem m7{a b c d:Nat}(h:a*7+c=b*7+d)(e:c<7)(f:d<7):a=b/\c=d:=mN h e f
theorem GR{a b:Nat}(h:a<=b):a+(b - a)=b:=lg h
theorem Ua{a b c d:Nat}(e:d<((c-a)-(c-b))):(a+((((min b c)-a)-1)-d))=((c-1)-((c-b)+d)):=by
 have f:∀m,d<m - a->a+((m - a - 1) - d)=m - 1 - d:=λm h=>by rw[←el (cF h),←el (a8 h),GR (a_ (Kg h))]
 rcases iV b c with h|h
 rw[b0 h,f b (NU h▸e),←f6,pf c,jr h];have z:=fg h;rw[z] at e;rw[iz h,f c e,z,bK]
theorem Ub{a b c:Nat}:((min a b)-c)=((b-c)-(b-a)):=by
 rcases iV a b with h|h
 rw[b0 h,NU h];rw[iz h,fg h];rfl
theorem Uc(f:(a-b)<=(d-e)):(a-(((b+a)/2)+c))<=(d-(e+c)):=by rw[←f6,←f6];show f7 (af Pt f) c
theorem Ud(e:(b-a)<=(c-d)):(((a+b)/2)-a)<=(c-(d+1)):=by
 rcases b9 a b with h|h
 show f6 c d 1▸cF (aj (f9 (Ax (a_ h)) (C9 h)) e);rw[fg (cM a b▸C8 h)];show bz _
theorem Ue(d:c<b):(((a+(a+b))-1)-(a+c))=(a+((b-1)-c)):=by rw[el (af (a8 d) (aB b a)),iY,el (a8 d),el (cF d)]
theorem Xj(j:((a*7)+(c-e))=((b*7)+(d-e)))(l:c<f)(m:d<f)(g:f<=(e+7))(h:e<=c)(i:e<=d):(a=b)/\(c=d):=by have k:=m7 j (dd h (aj l g)) (dd i (aj m g));show⟨k.1,by rw[←dp h,k.2,dp i]⟩
theorem Zk(h:a<b+1 - c):a<=b - c:=nF (bG (ui h))
theorem Wt{x y z:Nat}(h:x - (x - y)<z)(k:z<=x):y<z:=by
 rcases iV x y with e|e
 rw[fg e] at h;show absurd k (iA h);rwa [jr e] at h
theorem sr{f g c:Nat}(h:c<=g)(k:g<=f):f - (g - c)=f - g+c:=(Nat.sub_sub_right f h).trans (Nat.sub_add_comm k)
theorem Ug{d b:Nat}:d<=b+(d - b):=cM _ b▸iZ (ax _)
theorem s7(h:b<c+k)(a:0<k):b - c<k:=by
 rcases iV b c with e|e
 rw[fg e];show a;show dd e h
theorem nz(h:¬(a - b=0)):b<a:=Kg (dZ h)
theorem Wu(h:a<131073)(k:b<7):a*7+b<917511:=aj (pg (gW 7 (bG h)) k) ⋯
theorem Uh{a b c d e f g h:Nat}(i:(((a+b)+e)+f)<=g)(j:c=h)(k:g<=h):((min (a+b) c)-(a+d))=(b-d):=by rw[b0 (j▸af (aV (aV i)) k),iY]
theorem Ui{a b c d e f:Nat}(g:((a+1)-(min b (a+1)))=d)(i:e<d)(j:f<=c)(k:d<=f):(a-b)<c:=by have h:=g.symm.trans Kk;show aj (h▸f9 (bG (mG (h▸a8 i))) (f_ a)) (af k j)
theorem Uj{a b c d e f:Nat}(i:((c+d)+1)=e)(g:(c+(min f (b-c)))=a)(h:e<=a):a<=b:=by rw[←g];show af (aA (dX _ _) c) (aX (GR (a_ (mG (aj (jH d) (af (iR (a:=c) (by rw[g];rw[←i] at h;show h)) (dX f (b - c))))))))
theorem Uk{a b c d:Nat}(e:¬((c<d)/\(d<=b))):¬((((a+b)-((a+b)-(a+c)))<(a+d))/\((a+d)<=(a+b))):=λ⟨x,y⟩=>e ⟨kT (Wt x y),iR y⟩
theorem Ul{a b c d e:Nat}(f:(d<a)\/((a+e)<=d))(g:b<e):¬((((a+b)-((a+b)-(a+c)))<d)/\(d<=(a+b))):=λ⟨x,y⟩=>f.elim (λh=>bf a (aZ (aW a c) (jI (Wt x y) h))) λh=>iA g (iR (af h y))
theorem Um{a b c d e:Nat}(f:(a<b)\/((b+e)<=a))(g:c<e):¬(a=((b+c)-((b+c)-(b+d)))):=λx=>f.elim (λh=>iA h (by rw[x,JG];show WT.mpr ⟨aW b c,aW b d⟩)) λh=>iA g (iR (af h (x▸dh _ _)))
theorem Un{a b c d:Nat}(e:b=d)(f:d<=c):(a+b)=((a+c)-((a+c)-(a+d))):=by rw[e,jr (aA f a)]
theorem Uo{a b c d:Nat}(e:d<=c)(f:¬(b=d)):¬((a+b)=((a+c)-((a+c)-(a+d)))):=λx=>f (lj (x.trans (jr (aA e a))))
theorem Up(e:c<(b-d)):((a-1)-((a-b)+c))<b:=by rw[←f6,pf a,JG];show aZ (dh _ c) (aZ (f7 (dX a b) 1) (bH (Kg e)))
theorem Xk(g:c<(d+1))(h:e<(d+1))(i:c=(a-f))(j:e=(b-f))(k:f<=a)(l:f<=b)(m:d<=c)(n:d<=e):a=b:=by rw[←dp k,←i,bt (bG g) m,←bt (bG h) n,j,dp l]
theorem Uq{a b c d e:Nat}(f:((c+1)-(min d (c+1)))=a)(g:(c-e)=b)(h:e<d):a<=b:=by rw[←f,←g,Kk,←Nat.add_sub_add_right c 1 e];show sl h
theorem Ur{a b c d e f g:Nat}(h:((a+d)+e)<=f)(i:b<=d)(j:c=g)(k:f<=g):((min (a+b) c)-a)=b:=by rw[b0 (Kh h i j k),gX]
theorem Us{a b c d e f:Nat}(g:(e+f)<=d)(h:b<=e)(i:c=((e-b)+f)):(((a+b)+c)+(((a+d)-(a+b))-c))=(a+d):=by rw[f6];show GR (by rw[i,bu,←bu b,GR h];show aA g a)
theorem Ut(f:(d+b)=e)(g:e<=100):((min a b)+(b-c))<=1000000:=by have k:b<=100:=af (aB b d) (f▸g);show af (bW (af (dX a b) k) (af (dh b c) k)) ⋯
theorem Uu(e:c<=b)(f:d<(c-a)):a<=((b-1)-((b-c)+d)):=by rw[←f6,pf b 1,jr e];show nF (cF (cM d a▸ui f))
theorem Uv(i:(((a+c)+e)+f)<=g)(j:g<=d)(h:¬((c-b)=0)):(((a+b)+(c-b))-1)<d:=by rw[Hx h];show aj (bH (aj (a8 (nz h)) (aB c a))) (af (aV (aV i)) j)
theorem Uw{a b c d e f:Nat}(g:(e+f)<=c)(h:a=((e-d)+f))(i:d<=e):a<=((b+c)-(b+d)):=by rw[iY];show nF (by rw[h,bM,dp i];show g)
theorem Xl(g:a=(0+d))(h:b<e)(i:d<f)(j:e<=(c+7))(k:f<=131073):((a*7)+(b-c))<917511:=by rw[g,bK];show Wu (aj i k) (s7 (aj h j) ⋯)
theorem Xm{a:Nat}:(((-(1:Int))+(a:Int))).toNat=(a-1):=by cases a with|zero=>rfl|succ n=>change(-1+((n:Int)+1)).toNat=n;rw[E9 (n:Int) 1,Int.neg_add_cancel_left];rfl
theorem Pw(d:¬((c-b)=0)):((a+b)+((c-b)-1))=((a+c)-1):=by rw[←el (dZ d),Hx d]
theorem Ux{a b c d e:Nat}(f:(a+(min b (c-a)))=d)(g:(c-a)<=b)(h:e<c)(i:d<=e):False:=by rw[iz g] at f;show bf c (aZ (af Ug (af (aX f) i)) h)
theorem Uy{a b c d e:Nat}(f:a<(d+e))(g:b<=a)(h:c=((d-b)+e)):(a-b)<c:=by rw[h];show dd g (aj f (by rw[←bu];show bp Ug e))
theorem Uz(d:a<(min (max b 1) c))(e:¬(b=0)):a<b:=by have:=(fD.mp d).1;rwa [Nat.max_eq_left (dZ e)] at this
theorem UA{a b c:Nat}(d:b<=a)(e:c<b):((a-b)+1)=(a-(b-1)):=(sr (a8 e) d).symm
theorem UB{a b c d:Nat}(e:b<=a)(f:c<(b-d)):((a-b)+c)<a:=cJ (br (aj f (dh b d)) (a-b)) (dp e)
theorem UC(f:a<=b)(g:b<(min (max c 1) d))(h:c=0):a=b:=by subst h;have e:=N8.mp (fD.mp g).1;subst e;show GZ.mp f
theorem UD{a b:Nat}(c:(a+1)<b):(((min a b)+((b-(a+2))+1))+1)=b:=by rw[b0 (a_ (Ll c))];show(bM a 2 (b-(a+2))).symm.trans (GR c)
theorem UE{a b c:Nat}(d:b<=a):((a-b)+(b-c))<=a:=af (aA (dh b c) _) (aX (dp d))
theorem UG{a b c d e f:Nat}(g:((a+e)+f)<=d)(h:(b+c)<=(e+f)):(((a+b)+c)+((d-(a+b))-c))=d:=by rw[f6];show GR (by rw[bu];show af (aA h a) (bu a e f▸g))
theorem q1{a b c:Nat}(e:b<a)(d:c<b):(a-b)<(a-c):=Jv (jI d e) d
theorem UH{a b c d e:Nat}(f:b=((c-a)+e))(g:e<=d)(h:¬((c-a)=0)):(a+b)<=(c+d):=by rw[f,←bu,GR (a_ (nz h))];show aA g c
theorem UI(d:¬((c-b)=0)):((a+b)+((c-b)-1))<(a+c):=by rw[Pw d];show bH (aj (a8 (nz d)) (aB c a))
theorem UJ{a b c d e f g:Nat}(h:((d+e)+f)<=b)(i:(g+a)<=(e+f))(j:c=(d+g)):a<=(b-c):=nF (by rw[j,cM a,bu];show af (aA i d) (bu d e f▸h))
theorem UK{a b c d:Nat}(g:a>d)(f:a<=(b-c))(h:¬((c+a)=b)):a<(b-c):=ba f λe=>h (by rw[e];show GR (a_ (mG (aj (a8 g) f))))
theorem UL{a b c d e f g h:Nat}(i:a=(0+e))(j:f<g)(k:e<h)(l:f=c)(m:h<=b)(n:g<=d):(a<b)/\(c<d):=⟨by rw[i,bK];show aj k m,l▸aj j n⟩
theorem UM(d:¬((c-b)=0)):((a+b)+0)<(a+c):=br (nz d) a
theorem UN{a b c d:Nat}(e:a<((c+d)-c))(f:d<=b):a<b:=by rw[gX] at e;show aj e f
theorem UO{a b c d e:Nat}(f:((max d e)+b)<=c)(g:a<e):(a+b)<=c:=af (bp (af (a_ g) (dW d e)) b) f
theorem UP{a b:Nat}(c:a<b):((min a b)+(b-(a+1)))<b:=by rw[b0 (a_ c)];show cJ (cJ (f_ _) (bM a _ 1)) (GR c)
theorem UQ(e:a=(0+c))(f:c<(min b d)):a<b:=by rw[e,bK];show(fD.mp f).1
theorem UR(d:b<=c)(e:¬(a>=b)):((a+b)/2)<=c:=af (C8 (mZ e)) d
theorem q5(c:(a-b)=0)(d:a>=b):a=b:=bt (ff c) d
theorem US{a b c d:Nat}(e:(a+d)<c)(f:b<=(c-a)):(a+b)<=c:=GA (a_ (aZ (aW a d) e)) f
theorem UT(c:¬(a>=b)):(((a+b)/2)+1)<=b:=C9 (ed c)
theorem UU(c:¬(a>=b)):a<=((a+b)/2):=Ax (mZ c)
theorem UW(d:(0+b)=c)(e:a<c):a<b:=by rw[bK] at d;show d▸e
theorem UX{a b c d e f g h i:Nat}(j:(((a+d)+e)+f)<=g)(k:(b+h)<=(d+e))(l:c=i)(m:g<=i):(min (a+b) c)=(a+b):=b0 (l▸af (af (aA (af (aW b h) k) a) (aV (bu a d e▸j))) m)
theorem UY{a b c d e f g:Nat}(h:((c+d)+e)<=b)(i:(f+g)<=(d+e))(j:a=(c+f)):a<=b:=j▸af (aA (af (aW f g) i) c) (bu c d e▸h)
theorem UZ{a b c d e f:Nat}(g:(d+e)<=c)(h:a=(b+f))(i:f<=d):a<=(b+c):=h▸aA (af i (aV g)) b
theorem U0{a b c d e:Nat}(f:a=((min b d)+(min c e)))(g:b<=d)(h:c<=e):a=(b+c):=by rw[f,b0 g,b0 h]
theorem U1{a b c d:Nat}(e:a=((min b d)+c))(f:b<d):a=(b+c):=by rw[e,b0 (a_ f)]
theorem U2(f:a=c)(g:b=((d+1)+e))(h:c=d):a<b:=by rw[f,h,g];show aj (f_ d) (aW _ e)
theorem U3{a b c d e:Nat}(f:(a<d)\/(e<=a))(g:c<=e)(i:d<=b):(a<b)\/(c<=a):=f.imp (λh=>aj h i) λh=>af g h
theorem U4{a b c d e:Nat}(f:((a+e)<=c)\/(d<=a))(g:b<e):((a+b)<c)\/(d<=(a+b)):=f.imp (λh=>aj (br g a) h) λh=>af h (aW a b)
theorem U5{a b c d e f:Nat}(g:((a+e)<=c)\/(d<=a))(i:b<=f)(j:f<e):((a+b)<c)\/(d<=(a+b)):=g.imp (λh=>aj (br (aZ i j) a) h) λh=>af h (aW a b)
theorem U6{a b c d e:Nat}(f:(a<=b)\/(c<=d)):(a<=b)\/(c<=(d+e)):=f.imp id λh=>af h (aW d e)
theorem q3(d:(a-1)=(b-1))(e:a<b)(f:c<a):False:=bj (RG e f) d
theorem U7{a b c d e:Nat}(f:(a+(min b (d-a)))=e)(h:c<d)(g:e<=c):(a+b)<=c:=by
 rcases iV b (d-a) with k|k
 rw[b0 k] at f;show f▸g;rw[iz k] at f;show(bf d (aZ (af Ug (f▸g)) h)).elim
theorem Xn(f:(a+(c+2))<=e):(a+(b+(((c-d)+1)+0)))<(e+b):=by rw[cM e b,Nat.add_left_comm a b];show br (aj (br (Nat.succ_lt_succ (iW (dh c d))) a) f) b
theorem q0{a b c d e f g:Nat}(h:((((b:Int)-(c:Int))-(d:Int))-(1:Int))=(0:Int))(i:a=(c+e))(j:a<=b)(k:f=(d+1))(l:g=e)(m:f<=g):a=b:=bt j (af (aX ((ew.mp (GB.mp (GB.mp (Int.eq_of_sub_eq_zero h)):(b:Int)=((1+d+c:Nat):Int))).trans ((cM _ c).trans (congrArg (c+·) (cM 1 d))))) (af (aA (af (aX k.symm) (af m (aX l))) c) (aX i.symm)))
theorem q2{a b c:Nat}(d:b<=c)(e:¬(a<c)):¬(a<b):=λf=>e (af f d)
theorem q4{a b c:Nat}(d:a<b)(e:c=(b+c)):False:=bj (Nat.lt_add_of_pos_left (a8 d)) e
theorem q6(f:a<b)(d:c=1)(g:b≠c)(h:b<=((c-1)+1)):False:=eA a (aj f (bG (ba (af h (aX (congrArg (· - 1+1) d))) λe=>g (e.trans d.symm))))
theorem q7(b:0=(a+1)):False:=iy a b.symm
theorem Xo{a b c d e:Nat}(f:(a+c)=d)(g:e<b)(h:d<=(e+c)):a<b:=aZ (ph (f▸h)) g
theorem Xp(d:(a+(40*(b+1)))<=c):((a+3)+(40*b))<=c:=af (aX (bM a 3 (40*b))) (af (aA (by decide:3<=40) _) d)
theorem Xq(e:(a+(4*(b+d)))<=c):(a+(4*b))<=c:=af (aA (gy 4 (aW b d)) a) e
theorem Xr{a c:Nat}{b:Int}(d:c<=a)(e:¬(c<a)):(((a:Int)-b)-(c:Int))=(-b):=(by rw[bt (bS e) d,uh,E9,←uh,Int.sub_self,Int.zero_sub])
theorem Xs{a:Nat}:(a=0)->((0:Int)=(a:Int)):=λe=>e▸rfl
theorem Xt{a b c:Nat}(d:c<b):((-(1:Int))=(a:Int))↔(b=c):=⟨λe=>absurd (e▸(by decide:(-1:Int)<0)) (sM.mpr (fT a)),λe=>absurd e (fj d)⟩
theorem Xu{a b c:Nat}(d:a=(min b c))(e:b<c):a=b:=d.trans (b0 (a_ e))
theorem Xv{a b c:Nat}(d:a<b)(e:c=b)(f:c=a):False:=bj d (f.symm.trans e)
theorem Xw(f:(a=0)\/((a=b)\/(a=c)))(d:b<a)(g:c<a):False:=f.elim (λe=>eA b (e▸d)) λh=>h.elim (λe=>fj d e) λe=>fj g e
theorem Xx{a b c d:Nat}(f:(b≠c)/\((b≠a)/\(b≠d))):a≠b:=λe=>f.2.1 e.symm
theorem Xy{a b c d:Nat}(f:¬(b=c)/\(¬(b=a)/\¬(b=d))):a≠b:=λe=>f.2.1 e.symm
theorem Xz{a b c d:Nat}(f:¬(b=c)/\(¬(b=d)/\¬(b=a))):a≠b:=λe=>f.2.2 e.symm
theorem XA{a b c d:Nat}(f:(b≠c)/\((b≠d)/\(b≠a))):a≠b:=λe=>f.2.2 e.symm
theorem XB{a b c d:Nat}(e:c<d):((a+b)+c)≠((a+d)+b):=bM a d b▸bj (br e _)
theorem XC(e:b<c):((a+1)+b)≠(((a+c)+2)+d):=bj (aj (br e (a+1)) (af (aX (bM a 1 c)) (dS (aA ⋯ (a+c)))))
theorem XD(d:b<c):((a+1)+b)≠((a+(2*c))+2):=bj (aj (br d (a+1)) (af (aX (bM a 1 c)) (bW (aA (ix c ⋯) a) ⋯)))
theorem U8(f:b<c):((a+1)+b)≠(((a+(2*c))+d)+e):=bj (aj (br f (a+1)) (af (aX (bM a 1 c)) (af (aA (a8 f) (a+c)) (af (aX (by rw[y7,bu])) (af (aW _ d) (aW _ e))))))
theorem U9(d:b<c)(e:c=a):(a+3)≠(2+b):=cM 2 b▸fj (N9 (e▸d) ⋯)
theorem U_(e:a=b)(f:c<=(101*d))(g:d<=1000)(h:b<=c):a<=101000:=e▸af h (af f (gy 101 g))
theorem U'(c:a<=(0+b)):a<=b:=bK b▸c
theorem Va(b:a<3):(a=0)\/((a=1)\/(a=2)):=(JH (bG b)).elim (λh=>(JH (bG h)).elim (λh=>.inl (N8.mp h)) λh=>.inr (.inl h)) λh=>.inr (.inr h)
theorem Vb(e:a<=(d+1))(f:d<=(b+1)):a<=((b+2)+c):=af e (aZ f (aW (b+1).succ c))
theorem Vc(g:a<=(c+(d+(3*(e-1)))))(h:b=f)(i:f<4)(j:¬(e=0)):(a+(b+0))<=(c+(d+(3*((e+1)-1)))):=af (bW g (af (aX h) (bG i))) (aX (congrArg (λz=>c+(d+3*z)) (Nat.succ_pred j)))
theorem Vd(b:(a%2)=0):((a+1)%2)=1:=by rw[Nat.add_mod,b]
theorem Ve(b:(a%2)=0):((a+(2^0))/2)=(a/2):=(congrArg (λz=>(z+1)/2) (Nat.mul_div_cancel' (Nat.dvd_of_mod_eq_zero b)).symm).trans (NJ ⋯ (a/2) 1)
theorem Vf{a:Nat}(b:a<2):((a:Int)=(1:Int))↔¬(a=0):=⟨λe k=>NK ((ew.mp e).symm.trans k),λk=>ew.mpr (bt (bG b) (dZ k))⟩
theorem Vg{a:Nat}(b:a<=1000):(a:Int)<=(1000000:Int):=kK.mpr (af b (by decide:1000<=1000000))
theorem Vh{a b c d:Nat}(e:a<b):a<((b+c)+d):=af e (aV (aW (b+c) d))
theorem Vi{a b c:Nat}(d:b<c):(a+b)<(c+a):=cM c a▸br d a
theorem Vj{a:Nat}:((a:Int)=(1:Int))↔(a=1):=⟨λe=>ew.mp e,λe=>e▸rfl⟩
theorem Vk(g:((c+d)+1)=a)(i:(c+(min e f))=b)(j:d<e)(k:d<f):a<=b:=w6 (br (fD.mpr ⟨j,k⟩) c)|>λh=>af (aX g.symm) (af h (aX i))
theorem Vl(c:b<a)(d:¬(a=1)):1<a:=ba (a8 c) λe=>d e.symm
theorem Vm(c:a<=b)(d:b<1):a=b:=bt c (af (bG d) (bz a))
theorem Vn(c:a<(1+1))(d:b=0)(f:¬(b=a)):a=1:=bt (bG c) (dZ λe=>f (d.trans e.symm))
theorem Vo{a b c d:Nat}(e:(b<a)\/((a+d)<=b))(f:c<=d):¬((a<=b)/\(b<(a+c))):=λx=>e.elim (λh=>iA h x.1) λh=>iA x.2 (af (aA f a) h)
theorem Vp{c:Nat}{a b:Int}(d:c<0):a<=b:=False.elim (bf c (af d (bz c)))
theorem Vq{a b c d e f:Nat}(g:(a+e)<=f)(i:(f<=b)\/(c<=d)):(a<=b)\/(c<=d):=i.imp (λh=>af (aV g) (h)) id
theorem Vr{a b c d e:Nat}(f:((a+b)+(d+c))<=e):((a+(b+c))+d)<=e:=(by rw[bu,bu,cM c,←bu];show f)
theorem Vs{a b c d:Nat}(f:(b+c)<d)(e:(min d a)<=(c+b)):a<=(b+c):=(iV d a).elim (λh=>absurd f (ju (af (aX (b0 h).symm) (af e (aX (cM c b)))))) λh=>af (aX (iz h).symm) (af e (aX (cM c b)))
theorem Vt{a b c d:Nat}(e:a<c)(f:b=(c+d)):a<b:=f▸aj e (aW c d)
theorem Vu(c:¬(b=0)):(a+0)<(a+b):=eE (dZ c)
theorem Vv{a b c d e f g h i j:Nat}(k:(((a+e)+f)+g)<=h)(l:c=((e-b)+i))(m:d=j)(n:h<=j)(o:i<=f)(p:¬((e-b)=0)):(((a+b)+0)+c)<=d:=(by rw[l,m,kL,←bu,bu a,GR (a_ (nz p))];show af (aA o (a+e)) (af (aV k) n))
theorem Vw{a b c:Nat}(d:((max c b)<=a)\/(a=b))(e:a<=b):a=b:=d.elim (λh=>bt e (af (dW c b) h)) id
theorem Vx(g:(a<=b)\/(b=d))(i:(b+c)<=d)(f:e<c):((a+1)<=(b+c))\/((b+c)=d):=g.elim (λh=>.inl (af (bp h 1) (aA (a8 f) b))) λh=>absurd (h▸i) (iA (eE (a8 f)))
theorem Vy(f:(0:Int)<=b)(g:(0:Int)<=d)(i:b<(1000000:Int))(j:d<(1000000:Int))(m:¬(a=c)):(((a*(1000000:Int))+b)<((c*(1000000:Int))+d))↔(a<c):=(by have e:∀{a b c d:Int},b<1000000->0<=d->a<c->a*1000000+b<c*1000000+d:=λ{a b c d} h k l=>fU (Int.add_lt_add_left h _) (gQ (Int.le_of_eq (Int.add_mul a 1 1000000).symm) (gQ (Int.mul_le_mul_of_nonneg_right l ⋯) (Int.le_add_of_nonneg_right k)));show⟨λh=>(Int.lt_or_gt_of_ne m).elim id λk=>absurd h (Int.lt_asymm (e j f k)),e i g⟩)
theorem Vz(d:2<=b)(e:a=c)(f:c=b):0<a:=aj ⋯ (af d (aX (e.trans f).symm))
theorem VA{a b:Nat}{c:Int}(d:(c+(a:Int))=(c+(b:Int))):a=b:=ew.mp (Int.add_left_cancel d)
theorem u2(h:l<j/\j<=k):j - 1<k:=aj (bH h.1) h.2
theorem u4(h:¬n<=1)(e:j=n - 2):j+1<n:=aZ (aX ((congrArg (· +1) e).trans (dp (cF (ed h))))) (bH (ed h))
theorem u3(h:¬n<=1)(e:j=n - 2 - 1):j+1<n:=aZ (jv (af (aX e) (dh (n - 2) 1))) (u4 h rfl)
theorem u5(h:m+max 0 a<=a+1):m<=1:=iR (af (aX (cM a m)) (af (aA (dW 0 a) m) h))
theorem u6{i a b d:Nat}(h:i=a+b+d):i - a=b+d:=by rw[h,bu,gX]
theorem u7{i a b d:Nat}(h:¬i<a)(e:i - a=b+d):i=a+b+d:=by rw[bu,←e,GR (bS h)]
theorem u8(a:h<j)(b:j<h+t):j - h - 1<t - 1:=f9 (du a) (dd (a_ a) b)
theorem QT(h:k<n):c+n+2+k<c+2*n+2:=by rw[y7,←bu c n n,bM (c+n) n 2];show br h _
theorem Wv(h:i<n):c+1+i<c+2*n+2:=aj (br h (c+1)) (af (aX (bM c 1 n)) (af (bp (aA (ix n ⋯) c) 1) (uj _)))
theorem XE(h:i<n):c+1+i<c+n+2+k:=aj (br h (c+1)) (af (aX (bM c 1 n)) (af (uj _) (aW _ k)))
theorem VB:c+2*n+2<=c+2*n+3+k:=dS (uj _)
theorem XF(h:l<=3)(e:c=t)(f:a=t+1+l):a<=c+7:=af (aX f) (af (aA h (t+1)) (af (aA (by decide:4<=7) t) (aX (congrArg (· +7) e.symm))))
theorem XG:∀m,m<3->(if((4:Int) - ((1+m:Nat):Int))>2 then(4:Int) - ((1+m:Nat):Int) else 2)=((max 2 (3 - m):Nat):Int):=by decide
theorem XH(a:(1+m)*M<=6)(b:p<=k*M)(c:k*M<=(1+m)*M)(d:q<=p+j)(e:j<1+g)(f:g<M)(h:M<=3):q<=10:=af d (af (bW (af b (af c a)) (af (a_ e) (aA (af (a_ f) h) 1))) ⋯)
theorem Ww(a:c<=1000)(b:k<1+m)(d:m<3)(h:e<=c+2+k*15)(i:j<1+g)(l:g<M)(n:M<=3)(o:f<=e+1+j*4):f<=1084:=af o (af (bW (bp (af h (bW (bp a 2) (gW 15 (af (a_ b) (aA (a_ d) 1))))) 1) (gW 4 (af (a_ i) (aA (af (a_ l) n) 1)))) ⋯)
theorem XI(h:0<=n)(k:a<0):0<=n*1000003+2* -a+1:=uk (uk (um h ⋯) (um ⋯ (Int.neg_nonneg_of_nonpos (iw k)))) ⋯
theorem XJ{n a:Int}(h:0<=n)(k:¬a<0):0<=n*1000003+2*a+0:=uk (uk (um h ⋯) (um ⋯ (sM.mp k))) ⋯
theorem Wx(h:k<N):2+k<N+2:=cM 2 k▸iX h 2
theorem XK(a:f<=1084)(b:c<=f+1)(d:x<=c+w)(e:w<z)(g:z<y)(h:y<=4):x<=100000:=af d (af (bW (af b (bp a 1)) (af (a_ (jI e g)) h)) ⋯)
theorem XM(a:e<=c+2+k*15)(b:f<=e+1+(1+g)*4)(d:g<M)(h:M<=3):f<=c+2+(k*15+1*15):=af b (af (bW (bp a 1) (gW 4 (af (aX (cM 1 g)) (af d h)))) (af (aA (by decide:13<=15) (c+2+k*15)) (aX (bu _ _ _))))
theorem XN{s:Nat}:(if(0:Int)>(s:Int) - 1 then(0:Int) else(s:Int) - 1)=((s - 1:Nat):Int):=by
 cases s with
 |zero=>rfl
 |succ s=>rw[if_neg (by rw[L_,JI];show sM.mpr (fT s)),L_,JI];rfl
open PySem.W PyProof.Rows
local macro_rules (kind:=Lean.Parser.Tactic.rewriteSeq)|s=>mRw s
local macro_rules (kind:=PyProof.Rows.tacticWalk_at_)|s=>mWk s
theorem rT:true=true:=rfl
theorem rF:false=false:=rfl
theorem rP(x:Value):(pure x:Bk Value)=pure x:=rfl
theorem rG:Zs Ah=Zs Ah:=rfl
theorem rL:Zs NameKind.local=Zs NameKind.local:=rfl
theorem rL1{a:Type}(_:a):Zs NameKind.local=Zs NameKind.local:=rfl
theorem rQ:(pure false:Bk Bool)=pure false:=rfl
theorem rN:(pure Zt:Bk (Option (List Str)))=pure Zt:=rfl
theorem rK:CY=CY:=rfl
theorem rI{a:Type}{b:Type}{f:a->b}(x:a):f x=f x:=rfl
theorem rI2{a:Type}{b:Type}{f:a->a->b}(x y:a):f x y=f x y:=rfl
inductive YI where
 |int (i:Int)
 |str (s:Str)
 |ints (l:List Int)
 deriving DecidableEq,Inhabited
inductive Zi where
 |tup
 |list
 |dict (ks:List YI)
 |obj (c:Addr) (names:List Str)
 |wI (n:Nat)
 deriving DecidableEq,Inhabited
inductive V where
 |none
 |bool (b:Bool)
 |int (i:Int)
 |str (s:Str)
 |ref (i:Nat)
 |obj (c:Addr) (i:Nat)
 |Zo (t:Zi) (l:List V)
 deriving Inhabited
inductive YF where
 |list (l:List V)
 |dict (kvs:List (YI×V))
 |dead
 deriving Inhabited
noncomputable abbrev Hp:=List YF
noncomputable def YI.toV:YI->V
 | .int i=>.int i
 | .str s=>.str s
 | .ints l=>.Zo .tup (l.map .int)
noncomputable abbrev iJ(a:List Value)(n:Nat):Obj:={cls:=.type "list",data:=.seq a.toArray n}
noncomputable abbrev gR(a:List Value)(n:Nat):Obj:={cls:=.type "tuple",data:=.seq a.toArray n}
noncomputable abbrev fx(a:List DictEntry)(n:Nat):Obj:={cls:=.type "dict",data:=.dict a.toArray n}
noncomputable abbrev s9(c d:Addr):Obj:={cls:=.ref c,dict:=Zs d,data:=.plain}
noncomputable abbrev w_(n:Int)(a b c:Tok):Obj:={cls:=.type "range",data:=.fields #[.int 0 a,.int n b,.int 1 c]}
noncomputable abbrev Zp:=Addr->Option Obj
class inductive lF:List Int->List Value->Prop
 |nil:lF [] []
 |cons {i:Int} {t:Tok} {l:List Int} {vs:List Value}:lF l vs->lF (i::l) (.int i t::vs)
inductive fG(Z:Zp):YI->Value->Prop
 |int (i:Int) (t:Tok):fG Z (.int i) (.int i t)
 |str (s:Str) (t:Tok):fG Z (.str s) (.str s t)
 |ints {l:List Int} {a:Addr} {vs:List Value} {n:Nat}:Z a=Zs (gR vs n)->lF l vs->fG Z (.ints l) (.ref a)
noncomputable def YP(w:gp):YI->Int
 | .int i=>JJ i
 | .str s=>hashStr w s
 | .ints l=>reduceHash (Rb (l.map JJ))
class inductive df(w:gp)(Z:Zp):List YI->List Value->List DictEntry->Prop
 |nil:df w Z [] [] []
 |cons {k:YI} {x v:Value} {ks:List YI} {vs:List Value} {es:List DictEntry}:fG Z k x->df w Z ks vs es->df w Z (k::ks) (v::vs) (⟨YP w k,x,v⟩::es)
inductive iC(w:gp)(Z:Zp):Zi->Addr->List Value->Prop
 |tup {a:Addr} {vs:List Value} {n:Nat}:Z a=Zs (gR vs n)->iC w Z .tup a vs
 |list {a:Addr} {vs:List Value} {n:Nat}:Z a=Zs (iJ vs n)->iC w Z .list a vs
 |dict {a:Addr} {ks:List YI} {vs:List Value} {es:List DictEntry} {n:Nat}:Z a=Zs (fx es n)->df w Z ks vs es->ks.Nodup->a≠sysModules->iC w Z (.dict ks) a vs
 |obj {a d c:Addr} {ks:List Str} {vs:List Value} {es:List DictEntry} {n:Nat}:Z a=Zs (s9 c d)->Z d=Zs (fx es n)->df w Z (ks.map .str) vs es->(ks.map YI.str).Nodup->iC w Z (.obj c ks) a vs
 |wI {a:Addr} {n:Nat} {t0 t1 t2:Tok}:Z a=Zs (w_ n t0 t1 t2)->iC w Z (.wI n) a []
mutual
inductive bQ(w:gp)(Y:List Addr)(Z:Zp):V->Value->Prop
 |none:bQ w Y Z .none .none
 |bool (b:Bool):bQ w Y Z (.bool b) (.bool b)
 |int (i:Int) (t:Tok):bQ w Y Z (.int i) (.int i t)
 |str (s:Str) (t:Tok):bQ w Y Z (.str s) (.str s t)
 |ref {i:Nat} {a:Addr}:Y[i]?=Zs a->bQ w Y Z (.ref i) (.ref a)
 |obj {c d x:Addr} {i:Nat}:Y[i]?=Zs d->Z x=Zs (s9 c d)->bQ w Y Z (.obj c i) (.ref x)
 |Zo {t:Zi} {l:List V} {a:Addr} {vs:List Value}:iC w Z t a vs->bF w Y Z l vs->bQ w Y Z (.Zo t l) (.ref a)
inductive bF(w:gp)(Y:List Addr)(Z:Zp):List V->List Value->Prop
 |nil:bF w Y Z [] []
 |cons {v:V} {x:Value} {l:List V} {xs:List Value}:bQ w Y Z v x->bF w Y Z l xs->bF w Y Z (v::l) (x::xs)
end
noncomputable def LF(w:gp)(Y:List Addr)(Z:Zp)(x:Value):V->Prop
 | .none=>x= .none
 | .bool b=>x= .bool b
 | .int i=>∃t,x= .int i t
 | .str s=>∃t,x= .str s t
 | .ref i=>∃a,x= .ref a/\Y[i]?=Zs a
 | .obj c i=>∃d a,x= .ref a/\Y[i]?=Zs d/\Z a=Zs (s9 c d)
 | .Zo t l=>∃a e,x= .ref a/\iC w Z t a e/\bF w Y Z l e
theorem bQ.inv(r:bQ w Y Z v x):LF w Y Z x v:=bQ.casesOn (motive_1:=λv x d=>LF w Y Z x v) r rfl (λd=>rfl) (λd t=>⟨t,rfl⟩) (λd t=>⟨t,rfl⟩) (λe=>⟨_,rfl,e⟩) (λe f=>⟨_,_,rfl,e,f⟩) (λt l=>⟨_,_,rfl,t,l⟩)
noncomputable def Hy(w:gp)(Y:List Addr)(Z:Zp)(xs:List Value):List V->Prop
 |[]=>xs=[]
 |v::l=>∃x a,xs=x::a/\bQ w Y Z v x/\bF w Y Z l a
theorem bF.inv(r:bF w Y Z l xs):Hy w Y Z xs l:=bF.casesOn (motive_2:=λl xs d=>Hy w Y Z xs l) r rfl λh t=>⟨_,_,rfl,h,t⟩
noncomputable def En(w:gp)(Z:Zp)(a:Addr)(b:List Value):Zi->Prop
 | .tup=>∃n,Z a=Zs (gR b n)
 | .list=>∃n,Z a=Zs (iJ b n)
 | .dict ks=>∃e n,Z a=Zs (fx e n)/\df w Z ks b e/\ks.Nodup/\a≠sysModules
 | .obj c ks=>∃d e n,Z a=Zs (s9 c d)/\Z d=Zs (fx e n)/\df w Z (ks.map .str) b e/\(ks.map YI.str).Nodup
 | .wI n=>∃f g h,Z a=Zs (w_ n f g h)/\b=[]
theorem iC.inv(r:iC w Z t a d):En w Z a d t:=iC.casesOn (motive:=λt a d g=>En w Z a d t) r (λe=>⟨_,e⟩) (λe=>⟨_,e⟩) (λe x n m=>⟨_,_,e,x,n,m⟩) (λe f x n=>⟨_,_,_,e,f,x,n⟩) (λe=>⟨_,_,_,e,rfl⟩)
noncomputable def Eo(Z:Zp)(x:Value):YI->Prop
 | .int i=>∃t,x= .int i t
 | .str s=>∃t,x= .str s t
 | .ints l=>∃a b n,x= .ref a/\Z a=Zs (gR b n)/\lF l b
theorem fG.inv(r:fG Z k x):Eo Z x k:=fG.casesOn (motive:=λk x d=>Eo Z x k) r (λd t=>⟨t,rfl⟩) (λd t=>⟨t,rfl⟩) (λz h=>⟨_,_,_,rfl,z,h⟩)
theorem bQ.Fz(r:bQ w Y Z (.Zo .tup l) x):∃a d n,x= .ref a/\Z a=Zs (gR d n)/\bF w Y Z l d:=by show E23 r.inv λa d e t f=>E11 t.inv λn z=>Fu a d n e z f
theorem bQ.Px(r:bQ w Y Z (.Zo (.wI k) l) x):∃a d f g,x= .ref a/\Z a=Zs (w_ k d f g)/\bF w Y Z l []:=by show E23 r.inv λa j e t h=>E32 t.inv λd f g z i=>Ru a d f g e z (i▸h)
theorem bQ.Pz(r:bQ w Y Z (.Zo (.dict ks) l) x):∃a d f n,x= .ref a/\Z a=Zs (fx f n)/\df w Z ks d f/\ks.Nodup/\a≠sysModules/\bF w Y Z l d:=by show E23 r.inv λa d e t g=>E24 t.inv λf n z x y m=>J' a d f n e z x y m g
section
variable{w:gp}{Y:List Addr}{Z:Zp}{p:Value->Prop}{q:List Value->Prop}{a b c:V}{x:Value}{xs:List Value}
@[elab_as_elim] theorem bQ.MF(r:bQ w Y Z (.ref i) x)(k:∀a,Y[i]?=Zs a->p (.ref a)):p x:=Exists.elim r.inv λd h=>h.1▸k _ h.2
@[elab_as_elim] theorem bQ.VC(r:bQ w Y Z (.obj d i) x)(k:∀y a,Y[i]?=Zs y->Z a=Zs (s9 d y)->p (.ref a)):p x:=Exists.elim r.inv λe h=>Exists.elim h λe h=>h.1▸k _ _ h.2.1 h.2.2
@[elab_as_elim] theorem bQ.gr(r:bQ w Y Z (.int i) x)(k:∀t,p (.int i t)):p x:=Exists.elim r.inv λd h=>h▸k _
@[elab_as_elim] theorem bQ.FA(r:bQ w Y Z (.str i) x)(k:∀t,p (.str i t)):p x:=Exists.elim r.inv λd h=>h▸k _
@[elab_as_elim] theorem bQ.vR(r:bQ w Y Z (.bool i) x)(k:p (.bool i)):p x:=r.inv.symm▸k
@[elab_as_elim] theorem bQ.Hz(r:bQ w Y Z .none x)(k:p .none):p x:=r.inv.symm▸k
@[elab_as_elim] theorem bQ.Wy(r:bQ w Y Z (.Zo t l) x)(k:∀a d,iC w Z t a d->bF w Y Z l d->p (.ref a)):p x:=Exists.elim r.inv λe h=>Exists.elim h λe h=>h.1▸k _ _ h.2.1 h.2.2
@[elab_as_elim] theorem bF.eC(r:bF w Y Z (a::l) xs)(k:∀y d,bQ w Y Z a y->bF w Y Z l d->q (y::d)):q xs:=Exists.elim r.inv λe h=>Exists.elim h λe h=>h.1▸k _ _ h.2.1 h.2.2
@[elab_as_elim] theorem bF.e0(r:bF w Y Z [] xs)(k:q []):q xs:=r.inv.symm▸k
@[elab_as_elim] theorem bF.e1(r:bF w Y Z [a] xs)(k:∀y,bQ w Y Z a y->q [y]):q xs:=bF.eC r λy b h r=>bF.e0 r (k y h)
@[elab_as_elim] theorem bF.e2(r:bF w Y Z [a,b] xs)(k:∀y z,bQ w Y Z a y->bQ w Y Z b z->q [y,z]):q xs:=bF.eC r λy d h r=>bF.e1 r λz c=>k y z h c
@[elab_as_elim] theorem bF.e3(r:bF w Y Z [a,b,c] xs)(k:∀y z u,bQ w Y Z a y->bQ w Y Z b z->bQ w Y Z c u->q [y,z,u]):q xs:=bF.eC r λy f h r=>bF.e2 r λz u d e=>k y z u h d e
@[elab_as_elim] theorem bQ.Ay(r:bQ w Y Z (.Zo .tup l) x)(k:∀a d n,Z a=Zs (gR d n)->bF w Y Z l d->p (.ref a)):p x:=Exists.elim r.Fz λe h=>Exists.elim h λe h=>Exists.elim h λe h=>h.1▸k _ _ _ h.2.1 h.2.2
@[elab_as_elim] theorem bQ.VD{l:List V}{n:Nat}(r:bQ w Y Z (.Zo (.wI n) l) x)(k:∀a c d e,Z a=Zs (w_ n c d e)->bF w Y Z l []->p (.ref a)):p x:=Exists.elim r.Px λb h=>Exists.elim h λb h=>Exists.elim h λb h=>Exists.elim h λb h=>h.1▸k _ _ _ _ h.2.1 h.2.2
end
noncomputable def BE(w:gp)(Z:Zp)(a:List Value)(b:List DictEntry):List YI->Prop
 |[]=>a=[]/\b=[]
 |k::ks=>∃x v c d,a=v::c/\b=⟨YP w k,x,v⟩::d/\fG Z k x/\df w Z ks c d
theorem df.inv(r:df w Z ks d e):BE w Z d e ks:=df.rec (motive:=λks d e f=>BE w Z d e ks) ⟨rfl,rfl⟩ (λr g f=>⟨_,_,_,_,rfl,rfl,r,g⟩) r
noncomputable def Br(Z b:Zp):Prop:=∀a o,Z a=Zs o->b a=Zs o
theorem Br.refl(Z:Zp):Br Z Z:=λa b e=>e
theorem Br.trans(h:Br Z d)(f:Br d g):Br Z g:=λa o e=>f a o (h a o e)
theorem fG.mono(h:Br Z d)(r:fG Z k x):fG d k x:=fG.rec (motive:=λk x f=>fG d k x) .int .str (λe=>.ints (h _ _ e)) r
theorem df.mono(h:Br Z d)(x:df w Z ks e f):df w d ks e f:=by
 induction x with
 |nil=>show .nil
 |cons k _ g=>show .cons (k.mono h) g
theorem iC.mono(h:Br Z f)(r:iC w Z t a d):iC w f t a d:=iC.rec (motive:=λt a d i=>iC w f t a d) (λe=>.tup (h _ _ e)) (λe=>.list (h _ _ e)) (λe x=>.dict (h _ _ e) (x.mono h)) (λe g x=>.obj (h _ _ e) (h _ _ g) (x.mono h)) (λe=>.wI (h _ _ e)) r
noncomputable def Bs(Y b:List Addr):Prop:=∀(i:Nat) (a:Addr),Y[i]?=Zs a->b[i]?=Zs a
theorem Bs.refl(Y:List Addr):Bs Y Y:=λa b e=>e
theorem Bs.trans(h:Bs a b)(d:Bs b c):Bs a c:=λi x e=>d i x (h i x e)
theorem bQ.mono(h:Bs Y d)(i:Br Z f)(r:bQ w Y Z v x):bQ w d f v x:=bQ.rec (motive_1:=λv x g=>bQ w d f v x) (motive_2:=λl xs g=>bF w d f l xs) .none .bool .int .str (λe=>.ref (h _ _ e)) (λe j=>.obj (h _ _ e) (i _ _ j)) (λt g=>.Zo (t.mono i)) .nil (λg k=>.cons) r
theorem bF.mono(h:Bs Y d)(i:Br Z f)(r:bF w Y Z l xs):bF w d f l xs:=bF.rec (motive_1:=λv x g=>bQ w d f v x) (motive_2:=λl xs g=>bF w d f l xs) .none .bool .int .str (λe=>.ref (h _ _ e)) (λe j=>.obj (h _ _ e) (i _ _ j)) (λt g=>.Zo (t.mono i)) .nil (λg k=>.cons) r
structure Cx where
 prog:ox
 w:gp
 K:N_
 h0:yB
 g0:Array GenState
 XO:OsState
theorem XP:Nonempty Params:=⟨{strHash:=λa=>0,shareClass:=λa=>0,mergeTok:=id,idOf:=λa=>0,idOfShared:=λa b=>0,followText:=λa=>false,idOfImm:=λa=>0}⟩
theorem neW:Nonempty gp:=XP.elim λp=>⟨⟨λa b=>0,p⟩⟩
theorem neSh:Nonempty bc:=⟨{}⟩
theorem neAr:Nonempty eN:=⟨{}⟩
theorem neCx:Nonempty Cx:=neW.elim λw=>⟨⟨default,w,default,default,#[],default⟩⟩
noncomputable def p6(w:gp)(Y:List Addr)(Z:Zp)(h:yB)(a:Addr):YF->Prop
 | .list l=>∃b n,h.get? a=Zs (iJ b n)/\bF w Y Z l b/\Z a=Zt
 | .dict kvs=>∃b c n,h.get? a=Zs (fx c n)/\df w Z (kvs.map (·.1)) b c/\bF w Y Z (kvs.map (·.2)) b/\(kvs.map (·.1)).Nodup/\a≠sysModules/\Z a=Zt
 | .dead=>True
noncomputable def Al(s:bc)(b:Addr):Prop:=∃o,s.heap.get? b=Zs o
theorem fR(s:bc):¬Al s s.heap.objs.size:=λ⟨_,e⟩=>bf _ (d9 e)
structure fX(C:Cx)(Y:List Addr)(Z:Zp)(H:Hp)(s:bc):Prop where
 len:aa Y=aa H
 nodup:Y.Nodup
 cells:∀(i:Nat) (c:YF) (a:Addr),H[i]?=Zs c->Y[i]?=Zs a->p6 C.w Y Z s.heap a c
 old:∀a∈Y,Al s a
 n_:∀a o,Z a=Zs o->s.heap.get? a=Zs o
 base:∀a o,C.h0.get? a=Zs o->Z a=Zs o
 gens:s.gens=C.g0
 os:s.os=C.XO
structure YO(W:List Addr)(Y:List Addr)(Z:Zp)(s:bc)(CX:List Addr)(Z':Zp)(s':bc):Prop where
 zd:Bs Y CX
 HA:Br Z Z'
 w':∀b,b∉W->Al s b->b∉Y->Z' b=Z b
 we:∀b∈CX,b∉Y->b∉W->¬Al s b
 live:∀b,b∉W->Al s b->Al s' b
 frame:∀b o,b∉Y->b∉W->s.heap.get? b=Zs o->s'.heap.get? b=Zs o
theorem YO.refl(c Y:List Addr)(Z:Zp)(s:bc):YO c Y Z s Y Z s:=⟨.refl _,.refl _,λa b d f=>rfl,λa h g=>absurd h g,λa b h=>h,λa b d f e=>e⟩
theorem Bs.mem(h:Bs Y d)(m:a∈Y):a∈d:=by show E11 (aC.mp m) λi e=>aC.mpr ⟨i,h i a e⟩
theorem YO.trans(x:YO W Y Z s k l s')(y:YO W k l s' m n r):YO W Y Z s m n r:=by have j:∀b,b∉W->Al s b->b∉Y->b∉k:=λb d f g i=>x.we b i g d f;exact⟨x.zd.trans y.zd,x.HA.trans y.HA,λb d f g=>?_,λb f g d i=>?_,λb d h=>y.live b d (x.live b d h),λb o f g e=>?_⟩;rw[y.w' b d (x.live b d f) (j b d f g),x.w' b d f g];show y.we b f (j b d i g) d (x.live b d i);show y.frame b o (j b g ⟨o,e⟩ f) g (x.frame b o f g e)
theorem YO.weak(x:YO W Y Z s j k s')(h:∀b∈W,b∈W'):YO W' Y Z s j k s':=⟨x.zd,x.HA,λb f=>x.w' b λd=>f (h b d),λb g i f=>x.we b g i λd=>f (h b d),λb f=>x.live b λd=>f (h b d),λb o g i e=>x.frame b o g (λd=>i (h b d)) e⟩
theorem bQ.ext(r:bQ w Y Z v x)(e:YO W Y Z s d f s'):bQ w d f v x:=r.mono e.zd e.HA
theorem bF.ext(r:bF w Y Z v x)(e:YO W Y Z s d f s'):bF w d f v x:=r.mono e.zd e.HA
theorem p6.mono(x:p6 w Y Z h a c)(i:Bs Y s)(d:Br Z j)(k:Z a=Zt->j a=Zt)
  (e:∀o,h.get? a=Zs o->t.get? a=Zs o):p6 w s j t a c:=by
 cases c with
 |list l=>ext x⟨f,n⟩g r z;show pF f n (e _ g) (r.mono i d) (k z)
 |dict l=>ext x⟨f,u,n⟩g v r y m z;show J9 f u n (e _ g) (v.mono d) (r.mono i d) y m (k z)
 |dead=>trivial
theorem fX.quiet(d:fX g Y Z H s)(k:∀b o,(b∈Y\/Z b=Zs o)->s.heap.get? b=Zs o->s'.heap.get? b=Zs o)
  (j:s'.gens=s.gens)(l:s'.os=s.os):fX g Y Z H s' where
 len:=d.len
 nodup:=d.nodup
 cells:=λi c a m f=>(d.cells i c a m f).mono (.refl _) (.refl _) id λo e=>k a o (.inl (aC.mpr ⟨i,f⟩)) e
 old:=λa h=>gm (λo e=>k a o (.inl h) e) (d.old a h)
 n_:=λa o e=>k a o (.inr e) (d.n_ a o e)
 base:=d.base
 gens:=j.trans d.gens
 os:=l.trans d.os
theorem fX.keeps(d:fX f Y Z H s)(k:∀b o,s.heap.get? b=Zs o->s'.heap.get? b=Zs o)
  (g:s'.gens=s.gens)(h:s'.os=s.os):fX f Y Z H s':=d.quiet (λb o i e=>k b o e) g h
theorem fX.toks(d:fX f Y Z H s)(t:Nat):fX f Y Z H {s with toks:=t}:=d.keeps (λg h e=>e) rfl rfl
theorem YO.toks(t:Nat):YO W Y Z s Y Z {s with toks:=t}:=⟨.refl _,.refl _,λd f g i=>rfl,λd h j=>absurd h j,λd f h=>h,λd f g i e=>e⟩
theorem YO.keeps(k:∀b o,s.heap.get? b=Zs o->s'.heap.get? b=Zs o):YO W Y Z s Y Z s':=⟨.refl _,.refl _,λd f i j=>rfl,λd h g=>absurd h g,λb _ ⟨o,e⟩=>⟨o,k b o e⟩,λb o d f e=>k b o e⟩
theorem fX.oE(d:fX f Y Z H s):∀b o,f.h0.get? b=Zs o->s.heap.get? b=Zs o:=λb o e=>d.n_ b o (d.base b o e)
theorem fX.alloc(f:fX n Y Z H s)(r:o.isFreed=false)
  (u:∀h:yB,h.get? s.heap.objs.size=Zs o->Z s.heap.objs.size=Zt->p6 n.w (Y++[s.heap.objs.size]) Z h s.heap.objs.size c):
  fX n (Y++[s.heap.objs.size]) Z (H++[c]) {s with heap:=s.heap.push o}/\YO [] Y Z s (Y++[s.heap.objs.size]) Z {s with heap:=s.heap.push o}:=by
 have k:∀b d,s.heap.get? b=Zs d->(s.heap.push o).get? b=Zs d:=λb d e=>cm _ e
 have t:Bs Y (Y++[s.heap.objs.size]):=λi a e=>by rw[ar (ae.mp e).1];show e
 have v:s.heap.objs.size∉Y:=λh=>fR s (f.old _ h)
 have y:Z s.heap.objs.size=Zt:=by
  cases e:Z s.heap.objs.size with
  |none=>rfl
  |some d=>show absurd (d9 (f.n_ _ _ e)) (bf _)
 exact⟨⟨by simp[f.len],?_,?_,?_,λa d e=>k _ _ (f.n_ a d e),f.base,f.gens,f.os⟩,⟨t,.refl _,λz A G I=>rfl,?_,λb _ ⟨d,e⟩=>⟨d,k b d e⟩,λb d z A e=>k b d e⟩⟩
 exact cz.mpr ⟨f.nodup,CW,λa l b B=>?_⟩;rw[au.mp B];intro e;subst e;show v l
 intro i D a g j;by_cases m:i<aa H;rw[ar m] at g;rw[ar (by rw[f.len];show m)] at j;show(f.cells i D a g j).mono t (.refl _) id λd e=>k _ _ e;have E:i=aa H:=by have:=(ae.mp g).1;simp at this;show Bl this m
 subst E;rw[aH (ax _)] at g;rw[aH (by rw[f.len];show ax _)] at j;simp[f.len] at g j;subst g;subst j;show u _ (cx _ r) y
 intro a l;rcases aE.mp l with h|h
 show E11 (f.old a h) λd e=>lC d (k a d e);rw[au.mp h];show lC o (cx _ r)
 intro b g j _;rcases aE.mp g with h|h
 show absurd h j;rw[au.mp h];show fR s
noncomputable def p7(Z:Zp)(a:Addr)(o:Obj):Zp:=λb=>if b=a then Zs o else Z b
theorem pG(Z:Zp)(a:Addr)(o:Obj):p7 Z a o a=Zs o:=if_pos rfl
set_option tactic.hygienic true in
theorem Az{Z:Zp}{a:Addr}{o:Obj}(h:Z a=Zt):Br Z (p7 Z a o):=λb d e=>by
 unfold p7;split
 ·rename_i c;subst c;rw[h] at e;cases e
 show e
theorem fX.AA(d:fX f Y Z H s):Z s.heap.objs.size=Zt:=by
 cases e:Z s.heap.objs.size with
 |none=>rfl
 |some g=>show absurd (d9 (d.n_ _ _ e)) (bf _)
set_option tactic.hygienic true in
theorem fX.C_{l:Cx}{Y:List Addr}{Z:Zp}{H:Hp}{s:bc}(f:fX l Y Z H s){o:Obj}(n:o.isFreed=false):
  fX l Y (p7 Z s.heap.objs.size o) H {s with heap:=s.heap.push o}/\YO [] Y Z s Y (p7 Z s.heap.objs.size o) {s with heap:=s.heap.push o}:=by
 have g:∀b d,s.heap.get? b=Zs d->(s.heap.push o).get? b=Zs d:=λb d e=>cm _ e
 have p:=f.AA
 have q:s.heap.objs.size∉Y:=λh=>fR s (f.old _ h)
 have j:=Az (o:=o) p
 exact⟨⟨f.len,f.nodup,λi c a k m=>?_,λa r=>gm (g a) (f.old a r),λa d e=>?_,λa d e=>j _ _ (f.base a d e),f.gens,f.os⟩,⟨.refl _,j,λb t k u=>?_,λb h v=>absurd h v,λb _ ⟨d,e⟩=>⟨d,g b d e⟩,λb d t u e=>g b d e⟩⟩
 exact(f.cells i c a k m).mono (.refl _) j (λw=>?_) λd e=>g _ _ e;unfold p7;rw[if_neg];show w;rintro rfl;show q (aC.mpr ⟨i,m⟩)
 ·unfold p7 at e;split at e
  ·rename_i x;subst x;have y:=Option.some.inj e;clear e;subst y;show cx _ n
  show g _ _ (f.n_ a d e)
 unfold p7;rw[if_neg];rintro rfl;show fR s k
theorem fX.write(d:fX u Y Z H s)(z:i<aa H)(m:Y[i]?=Zs a)(A:oy a s.heap f)(B:Z a=Zt)
  (D:p6 u.w Y Z f a c)(E:∃o,f.get? a=Zs o):fX u Y Z (H.set i c) {s with heap:=f,toks:=t}/\YO [] Y Z s Y Z {s with heap:=f,toks:=t}:=by
 have G:a∈Y:=aC.mpr ⟨i,m⟩
 have n:∀b o,b≠a->s.heap.get? b=Zs o->f.get? b=Zs o:=λb o k e=>(A.2 b k).trans e
 have v:∀b,Al s b->∃o,f.get? b=Zs o:=λb ⟨o,e⟩=>by by_cases k:b=a;subst k;show E;show lC o (n b o k e)
 exact⟨⟨by simp[d.len],d.nodup,λj I b g l=>?_,λb k=>v b (d.old b k),λb o e=>?_,d.base,d.gens,d.os⟩,⟨.refl _,.refl _,λy N O Q=>rfl,λb h f=>absurd h f,λb y=>v b,λb o g y e=>?_⟩⟩
 by_cases r:i=j;subst r;rw[bO z] at g;have J:=Option.some.inj g;clear g;subst J;rw[m] at l;have L:=Option.some.inj l;clear l;subst L;show D;rw[eg r] at g;have M:b≠a:=by rintro rfl;show r ((cj (ae.mp m).1 d.nodup).mp (m.trans l.symm))
 show(d.cells j I b g l).mono (.refl _) (.refl _) id λo e=>n b o M e
 exact n b o ?_ (d.n_ b o e);rintro rfl;rw[B] at e;cases e
 show n b o (λh=>g (h▸G)) e
theorem YO.drop(x:YO W Y Z s l m s')(y:YO W' l m s' n r t)(h:∀b∈W',b∈W\/¬Al s b):YO W Y Z s n r t:=by
 have k:∀b,b∉W->Al s b->b∉Y->b∉l:=λb f d g i=>x.we b i g f d;have j:∀b,b∉W->Al s b->b∉W':=λb f d g=>by rcases h b g with q|q;show f q;show q d
 exact⟨x.zd.trans y.zd,x.HA.trans y.HA,λb f d g=>?_,λb d g f i=>?_,λb f d=>y.live b (j b f d) (x.live b f d),λb o d g e=>?_⟩;rw[y.w' b (j b f d) (x.live b f d) (k b f d g),x.w' b f d g];show y.we b d (k b f i g) (j b f i) (x.live b f i);show y.frame b o (k b g ⟨o,e⟩ d) (j b g ⟨o,e⟩) (x.frame b o d g e)
noncomputable abbrev YK:=List (String×V)
noncomputable def YV:YK->String->V->YK
 |[],x,v=>[(x,v)]
 |(y,u)::r,x,v=>if y=x then(y,v)::r else(y,u)::YV r x v
theorem gA(l:YK)(x:String)(v:V)(y:String):(YV l x v).lookup y=if y=x then Zs v else l.lookup y:=by
 induction l with
 |nil=>simp only[YV,cq,List.lookup_nil];by_cases h:y=x;simp[h];rw[show(y==x)=false from if_neg ∅];(rw[if_neg h])
 |cons p r c=>obtain⟨z,u⟩:=p;simp only[YV];by_cases b:z=x;subst b;simp only[if_true,cq];by_cases a:y=z;simp[a];rw[show(y==z)=false from if_neg ∅];(rw[if_neg a]);simp only[b,if_false,cq,c];by_cases a:y=z;subst a;simp[b];rw[show(y==z)=false from if_neg ∅]
theorem lG(h:ah a=ah b):a=b:=by
 have g:=h;simp only[Str.ofString_eq_toList] at h;have c:a.toList.map V'=b.toList.map V':=by simpa using h
 have f:a.toList=b.toList:=by show Jw (λx y e=>Char.ext (UInt32.toNat_inj.mp e))|>.mp c
 show String.toList_inj.mp f
structure dO(C:Cx)(φ:List Addr)(Z:Zp)(Y:nu)(U:YK)(s:bc):Prop where
 kind:Y.scope.kind= .function
 qZ:Y.globals=iN
 yL:Y.builtins=E_
 ns:∃m,s.heap.Ns Y.locals m/\∀x v,U.lookup x=Zs v->Y.kindOf (ah x)=Zs .local->∃y,m (ah x)=Zs y/\bQ C.w φ Z v y
 cl:∀n c,Y.cells.lookup n=Zs c->∃o,s.heap.IsCell c o/\∀x v,n=ah x->U.lookup x=Zs v->Y.kindOf n=Zs .cell->∃y,o=Zs y/\bQ C.w φ Z v y
 has:∀x v,U.lookup x=Zs v->Y.kindOf (ah x)=Zs .local\/(Y.kindOf (ah x)=Zs .cell/\(Y.cells.lookup (ah x)).isSome=true)
 own:∀b∈Y.locals::Y.cells.map (·.2),b∉φ/\Z b=Zt/\Al s b
 nodup:(Y.locals::Y.cells.map (·.2)).Nodup
noncomputable abbrev YM(Y:nu):List Addr:=Y.locals::Y.cells.map (·.2)
theorem HB{h b:yB}{a:Addr}{m}(c:h.Ns a m)(e:∀o,h.get? a=Zs o->b.get? a=Zs o):b.Ns a m:=gm (λo h=>gm (λd h=>gm (λf h=>⟨e _ h.1,h.2⟩) h) h) c
theorem Kl{h:yB}{a:Addr}{m}(b:h.Ns a m):∃o,h.get? a=Zs o:=gm (λo h=>Exists.elim h λc h=>Exists.elim h λc h=>h.1) b
theorem YZ{h b:yB}{a:Addr}{m}(c:h.IsCell a m)(e:∀o,h.get? a=Zs o->b.get? a=Zs o):b.IsCell a m:=gm (λo h=>⟨e _ h.1,h.2⟩) c
theorem pH(h:Y.cells.lookup n=Zs c):c∈YM Y:=.tail _ (ay.mpr ⟨(n,c),g_ h,rfl⟩)
theorem dO.ext{C:Cx}{i j:List Addr}{k l:Zp}{Y:nu}{U:YK}{s s':bc}(L:dO C i k Y U s)(x:YO [] i k s j l s'):dO C j l Y U s':=by have p:∀b∈YM Y,∀o,s.heap.get? b=Zs o->s'.heap.get? b=Zs o:=λb g o e=>x.frame b o (L.own b g).1 bq e;exact⟨L.kind,L.qZ,L.yL,?_,λn c q=>?_,L.has,λb g=>?_,L.nodup⟩;show E12 L.ns λm t r=>cU m (HB t (p _ (.head _))) (λy v a d=>(r y v a d).imp λu h=>⟨h.1,h.2.ext x⟩);show E12 (L.cl n c q) λo w r=>cU o (YZ w (p _ (pH q))) (λy v a d f=>(r y v a d f).imp λu h=>⟨h.1,h.2.ext x⟩);show E03 (L.own b g) λa d f=>⟨λh=>x.we b h a bq f,by rw[x.w' b bq f a,d],x.live b bq f⟩
theorem dO.weak(L:dO C e Z Y U s)(h:∀x v,f.lookup x=Zs v->U.lookup x=Zs v):dO C e Z Y f s:=⟨L.kind,L.qZ,L.yL,L.ns.imp λm k=>⟨k.1,λx v a b=>k.2 x v (h x v a) b⟩,λn c g=>(L.cl n c g).imp λo k=>⟨k.1,λx v a b i=>k.2 x v a (h x v b) i⟩,λx v a=>L.has x v (h x v a),L.own,L.nodup⟩
structure ic(d:Nat)(A:eN):Prop where
 handled:A.handled=Zt
 depth:A.depth+4*d<=900
 units:A.units+40*d<=9000
theorem ic.in1(r:ic (d+1) A):ic d A.in1:=⟨r.handled,by have:=r.depth;simp;show Xq this,by have:=r.units;simp;show OP this⟩
theorem ic.mono(r:ic e A)(h:d<=e):ic d A:=⟨r.handled,by have:=r.depth;show af (aA (gy 4 h) _) this,by have:=r.units;show af (aA (gy 40 h) _) this⟩
theorem ic.BF(r:ic d A):A.units<mP:=by have:=r.units;have e:mP=9900:=rfl;show(e▸aZ (aV this) ⋯)
theorem ic.HC(r:ic d A):A.units+1<mP:=by have:=r.units;have e:mP=9900:=rfl;show(e▸aZ (bp (aV this) 1) ⋯)
theorem ic.VE(r:ic d A):A.depth<WU:=by have:=r.depth;have e:WU=1000:=rfl;show(e▸aZ (aV this) ⋯)
structure fy(C:Cx)(mg mb:Str->Option Value):Prop where
 K:C.K.In C.h0
 g:C.h0.Ns iN mg
 b:C.h0.Ns E_ mb
 nolimit:C.h0.NoLimit
 sys:∃b o,sysModules<=b/\C.h0.get? b=Zs o
noncomputable def s_(C:Cx)(d e:List Addr)(f:Zp)(s:bc)(Q:V->Hp->Prop)(g:Value->bc->Prop):Prop:=∀v c a b x s',Q v c->fX C a b c s'->YO d e f s a b s'->bQ C.w a b v x->g x s'
theorem s_.trans(p:s_ C W c Z s Q P)(x:YO W c Z s a b s'):s_ C W a b s' Q P:=λv e a b y s' q f g r=>p v e a b y s' q f (x.trans g) r
noncomputable def Ep(C:Cx)(d e:List Addr)(f:Zp)(s:bc)(Q:List V->Hp->Prop)(g:List Value->bc->Prop):Prop:=∀v c a b x s',Q v c->fX C a b c s'->YO d e f s a b s'->bF C.w a b v x->g x s'
noncomputable def ze(C:Cx)(e f:List Addr)(g:Zp)(s:bc)(Q:Bool->Hp->Prop)(h:Bool->bc->Prop):Prop:=∀b a c d s',Q b a->fX C c d a s'->YO e f g s c d s'->h b s'
theorem ze.trans(p:ze C W c Z s Q P)(x:YO W c Z s a b s'):ze C W a b s' Q P:=λv e a b s' q f g=>p v e a b s' q f (x.trans g)
theorem Ep.trans(p:Ep C W c Z s Q P)(x:YO W c Z s a b s'):Ep C W a b s' Q P:=λv e a b y s' q f g r=>p v e a b y s' q f (x.trans g) r
section
variable(C:Cx)(d:Nat)
@[irreducible] noncomputable def fL(Y:nu)(U:YK)(H:Hp)(e:e_)(Q:V->Hp->Prop):Prop:=∀A a b s c E,ic d A->fX C a b H s->dO C a b Y U s->s_ C [] a b s Q c->b8 (cX C.prog C.w) A (eval e Y) c E s
@[irreducible] noncomputable def q8(Y:nu)(U:YK)(H:Hp)(e:e_)(Q:Bool->Hp->Prop):Prop:=∀A a b s c E,ic d A->fX C a b H s->dO C a b Y U s->ze C [] a b s Q c->b8 (cX C.prog C.w) A (WV e Y (eval e Y)) c E s
@[irreducible] noncomputable def wJ(Y:nu)(U:YK)(H:Hp)(e:List e_)(Q:List V->Hp->Prop):Prop:=∀A a b s c E f,ic d A->fX C a b H s->dO C a b Y U s->Ep C [] a b s Q c->b8 (cX C.prog C.w) A (JK (uo f (lq e Y))) c E s
@[irreducible] noncomputable def j4(op:List Value->Bk Value)(H:Hp)(e:List V)(Q:V->Hp->Prop):Prop:=∀A a b s xs c E,ic d A->fX C a b H s->bF C.w a b e xs->s_ C [] a b s Q c->b8 (cX C.prog C.w) A (op xs) c E s
noncomputable abbrev gh(f:Value)(H:Hp)(a:List V)(Q:V->Hp->Prop):Prop:=j4 C d (λxs=>nG f xs []) H a Q
@[irreducible] noncomputable def AB(H:Hp)(v:V)(Q:Bool->Hp->Prop):Prop:=∀A a b s x c E,ic d A->fX C a b H s->bQ C.w a b v x->ze C [] a b s Q c->b8 (cX C.prog C.w) A (truthy x) c E s
inductive Fl where
 |next|brk|cont
 |ret (v:V)
theorem neFl:Nonempty Fl:=⟨.next⟩
noncomputable def xa(w:gp)(a:List Addr)(b:Zp):Fl->Flow->Prop
 | .next,.next=>True
 | .brk,.brk=>True
 | .cont,.cont=>True
 | .ret v,.ret x=>bQ w a b v x
 |_,_=>False
@[elab_as_elim] theorem xa.e{w:gp}{a:List Addr}{b:Zp}{p:Fl->Flow->Prop}{f:Fl}{x:Flow}(r:xa w a b f x)(d:p .next .next)(e:p .brk .brk)(g:p .cont .cont)(c:∀v y,bQ w a b v y->p (.ret v) (.ret y)):p f x:=by cases f<;>cases x<;>first|show r.elim|assumption|show c _ _ r
noncomputable def BG(Y:nu)(e:List Addr)(g:Zp)(s:bc)(Q:Fl->YK->Hp->Prop)(h:Flow->bc->Prop):Prop:=∀f c d a b x s',Q f c d->fX C a b d s'->YO (YM Y) e g s a b s'->dO C a b Y c s'->xa C.w a b f x->h x s'
@[irreducible] noncomputable def pd(Y:nu)(U:YK)(H:Hp)(e:kh)(Q:Fl->YK->Hp->Prop):Prop:=∀A a b s c E,ic d A->fX C a b H s->dO C a b Y U s->BG C Y a b s Q c->b8 (cX C.prog C.w) A (exec e Y) c E s
@[irreducible] noncomputable def gM(Y:nu)(U:YK)(H:Hp)(e:List kh)(Q:Fl->YK->Hp->Prop):Prop:=∀A a b s c E,ic d A->fX C a b H s->dO C a b Y U s->BG C Y a b s Q c->b8 (cX C.prog C.w) A (execs e Y) c E s
@[irreducible] noncomputable def tR(Y:nu)(U:YK)(H:Hp)(t:e_)(v:V)(Q:YK->Hp->Prop):Prop:=∀A a b s x f E,ic d A->fX C a b H s->dO C a b Y U s->bQ C.w a b v x->(∀g h c e s',Q g h->fX C c e h s'->YO (YM Y) a b s c e s'->dO C c e Y g s'->f () s')->b8 (cX C.prog C.w) A (JL t Y x) f E s
end
theorem BG.trans(p:BG C Y c Z s Q P)(x:YO (YM Y) c Z s a b s'):BG C Y a b s' Q P:=by
 focus
  show λf l e a b y s' q g h L r=>p f l e a b y s' q g (x.trans h) L r
section
variable{C:Cx}{d:Nat}{Y:nu}{U:YK}{H:Hp}
theorem fL.mono(h:fL C d Y U H e Q)(k:∀v a,Q v a->b v a):fL C d Y U H e b:=by
 focus
  show λA c f s g E i j L l=>h A c f s g E i j L λv a m n x s' q=>l v a m n x s' (k v a q)
theorem gM.mono(h:gM C d Y U H e Q)(k:∀f l a,Q f l a->b f l a):gM C d Y U H e b:=by
 focus
  show λA c g s i E j m L n=>h A c g s i E j m L λv l a o p x s' q=>n v l a o p x s' (k v l a q)
theorem j4.mono(h:j4 C d b H c Q)(k:∀v a,Q v a->e v a):j4 C d b H c e:=by
 focus
  show λA f g s xs i E j l r m=>h A f g s xs i E j l r λv a n o x s' q=>m v a n o x s' (k v a q)
theorem j4.deep(h:j4 C d a H b Q)(k:d<=e):j4 C e a H b Q:=by
 focus
  show λA c f s xs g E i j r l=>h A c f s xs g E (i.mono k) j r l
theorem ev_int{C k d i Y H U pos Q}(h:Q (.int i) H):fL C d Y U H (.Constant (.int i) k pos) Q:=by
 focus
  show λc e f g j l m a n b=>qK (b _ _ _ _ _ _ h (a.toks _) (.toks _) (.int _ _))
theorem ev_str(h:Q (.str x) H):fL C d Y U H (.Constant (.str x) k pos) Q:=by
 focus
  show λc e f g i j l a m b=>wpAny_Constant_str (b _ _ _ _ _ _ h (a.toks _) (.toks _) (.str _ _))
theorem ev_bool(h:Q (.bool x) H):fL C d Y U H (.Constant (.bool x) k pos) Q:=by
 focus
  show λc e f g i j l a m b=>wpAny_Constant_bool (b _ _ _ _ _ _ h a (.refl _ _ _ _) (.bool _))
theorem ev_none(h:Q .none H):fL C d Y U H (.Constant .none k pos) Q:=by
 focus
  show λc e f g i j l a m b=>wpAny_Constant_none (b _ _ _ _ _ _ h a (.refl _ _ _ _) .none)
theorem ev_name{C d Y U H x v pos Q}(e:U.lookup x=Zs v)(h:Q v H)(j:autoParam ((ah x==("__debug__":Str))=false) aF)
  (a:autoParam ((ah x==("__classdict__":Str))=false) aF):fL C d Y U H (.Name (ah x) pos) Q:=by
 focus
  intro A q t s u E w g L i;exact wpAny_Name ?_ j;rcases L.has x v e with b|⟨b,a⟩
  show E12 L.ns λm k r=>E12 (r x v e b) λy l f=>wpAny_loadName_local L.kind b k l (i _ _ _ _ _ _ h g (.refl _ _ _ _) f);exact E11 (Bm.mp a) λc a=>E12 (L.cl _ c a) λo n r=>E12 (r x v rfl e b) λy p f=>?_;subst p;show wpAny_loadName_cell L.kind b a n (i _ _ _ _ _ _ h g (.refl _ _ _ _) f)
noncomputable def Km(C:Cx)(Y:nu)(U:YK)(e:e_)(f:Value):Prop:=∀A a b s H c E,fX C a b H s->dO C a b Y U s->c f s->b8 (cX C.prog C.w) A (eval e Y) c E s
theorem nI(O:fy C a i)(b:a (ah x)=Zs f)(c:Y.kindOf (ah x)=Zs .globalImplicit)
  (e:autoParam ((ah x==("__debug__":Str))=false) aF):Km C Y U (.Name (ah x) pos) f:=by
 intro A j k s H l E g L h
 exact Ai L.kind c (Calls.loadGlobal_global ?_ b h) e
 rw[L.qZ];show O.g.keeps g.oE
theorem wK(O:fy C b c)(e:b (ah x)=Zt)(g:c (ah x)=Zs f)(h:Y.kindOf (ah x)=Zs .globalImplicit)
  (i:autoParam ((ah x==("__debug__":Str))=false) aF):Km C Y U (.Name (ah x) pos) f:=by
 intro A k l s H m E a L j
 exact Ai L.kind h (Calls.loadGlobal_builtin ?_ e ?_ g j) i
 rw[L.qZ];show O.g.keeps a.oE
 rw[L.yL];show O.b.keeps a.oE
theorem uz(i:Km C Y U e f)(j:∀c b,(∀a o,C.h0.get? a=Zs o->b a=Zs o)->bQ C.w c b v f)(h:Q v H):fL C d Y U H e Q:=by
 focus
  show λA c b s k E m g L l=>i A c b s H k E g L (l _ _ _ _ _ _ h g (.refl _ _ _ _) (j c b g.base))
theorem MG{l r:e_}{e:Operator}{j:Pos}{Q:V->Hp->Prop}
  (h:fL C d Y U H l λa H1=>fL C d Y U H1 r λb f=>j4 C d (λxs=>match xs with|[x,y]=>jJ e x y|_=>pure .none) f [a,b] Q):
  fL C d Y U H (.BinOp l e r j) Q:=by
 focus
  intro A k m s n E c o L p;show wpAny_BinOp (h A k m s _ E c o L λa H1 t u x v q w g z=>q A t u v _ E c w (L.ext g) λb f B D y G q I i J=>q A B D G [x,y] n E c I (.cons (z.ext i) (.cons J .nil)) (p.trans (g.trans i)))
theorem MJ{l r:e_}{c:WW}{j:Pos}{Q:V->Hp->Prop}
  (h:fL C d Y U H l λa H1=>fL C d Y U H1 r λb f=>j4 C d (λxs=>match xs with|[x,y]=>eZ c x y|_=>pure .none) f [a,b] Q)
  (k:autoParam (yr c r=false) aU):fL C d Y U H (.Compare l [c] [r] j) Q:=by
 focus
  intro A m n s o E e p L t;show wpAny_Compare1 (h A m n s _ E e p L λa H1 u v x w q z g B=>q A u v w _ E e z (L.ext g) λb f D G y I q J i M=>q A D G I [x,y] o E e J (.cons (B.ext i) (.cons M .nil)) (t.trans (g.trans i))) k
theorem MK{l r:e_}{c:WW}{m:Pos}{Q:Bool->Hp->Prop}
  (h:fL C d Y U H l λa H1=>fL C d Y U H1 r λb f=>j4 C d (λxs=>match xs with|[x,y]=>eZ c x y|_=>pure .none) f [a,b] λv g=>∃t,v= .bool t/\Q t g)
  (n:autoParam (yr c r=false) aU):q8 C d Y U H (.Compare l [c] [r] m) Q:=by
 focus
  intro A o p s P E e u L w;exact wpAny_isTrue_Compare1 (h A o p s _ E e u L λa H1 B D x G q I i J=>q A B D G _ E e I (L.ext i) λb f M N y O q T j r2=>?_) n;exact q A M N O [x,y] _ E e T (.cons (J.ext j) (.cons r2 .nil)) λv g a0 Z3 z s3 q S3 X3 k=>?_;ext q⟨t⟩rfl q;apply bQ.vR k;clear k;show jh (w _ _ _ _ _ q S3 (i.trans (j.trans X3)))
theorem ML(h:q8 C d Y U H x λb a=>Q (!b) a):q8 C d Y U H (.UnaryOp .Not x pos) Q:=by
 focus
  show λA c e s l E f g L i=>wpAny_isTrue_Not (h A c e s _ E f g L λb a m n s' q j k=>i _ _ _ _ _ q j k)
noncomputable def vh(e:e_):Bool:=e.ctorIdx !=3&&(e.ctorIdx !=0&&(e.ctorIdx !=5&&e.ctorIdx !=15))
noncomputable def pT(Y:nu)(e:e_):Bk Bool:=do let v←eval e Y;standAt e.pos;holding [v] (truthy v)
theorem PA(a:vh e=true):WV e Y (eval e Y)=pT Y e:=by
 cases e with
 |UnaryOp=>show nB a
 |BoolOp=>show nB a
 |IfExp=>show nB a
 |Compare=>show nB a
 |_=>show Wa (pT Y _)
theorem MM(h:fL C d Y U H e λv a=>AB C d a v Q)(c:autoParam (vh e=true) aT):q8 C d Y U H e Q:=by
 focus
  intro A f g s i E b j L k;rw[PA c];unfold pT;show ao (h A f g s _ E b j L λv a l m x s' q n o r=>ao (gB (cg (q A l m s' x i E b n r (k.trans o)))))
theorem fk(h:Q b H):AB C d H (.bool b) Q:=by
 focus
  intro A e f s x g E i a r c;show bQ.vR r (jh (c _ _ _ _ _ h a (.refl _ _ _ _)))
theorem p8(h:q8 C d Y U H x Q):q8 C d Y U H (.BoolOp .And [x] pos) Q:=by
 focus
  intro A f g s k E i j L a;exact pU (JM (h A f g s _ E i j L λb l m n s' q c e=>?_));cases b<;>simp<;>first|show a _ _ _ _ _ q c e|show wpAny_allTrue_And_nil (a _ _ _ _ _ q c e)
theorem tS(h:q8 C d Y U H x λb a=>if b then q8 C d Y U a (.BoolOp .And (y::i) pos) Q else Q false a):
  q8 C d Y U H (.BoolOp .And (x::y::i) pos) Q:=by
 focus
  intro A j k s l E e m L f;exact pU (JM (h A j k s _ E e m L λb a n o s' q g c=>?_));cases b;show f _ _ _ _ _ q g c;show q A n o s' l E e g (L.ext c) (f.trans c)
theorem AD(h:q8 C d Y U H x Q):q8 C d Y U H (.BoolOp .Or [x] pos) Q:=by
 focus
  intro A f g s k E i j L a;exact pU (Lm (h A f g s _ E i j L λb l m n s' q c e=>?_));cases b<;>simp<;>first|show a _ _ _ _ _ q c e|show wpAny_allTrue_Or_nil (a _ _ _ _ _ q c e)
theorem BH(h:q8 C d Y U H x λb a=>if b then Q true a else q8 C d Y U a (.BoolOp .Or (y::i) pos) Q):
  q8 C d Y U H (.BoolOp .Or (x::y::i) pos) Q:=by
 focus
  intro A j k s l E e m L f;exact pU (Lm (h A j k s _ E e m L λb a n o s' q g c=>?_));cases b;show q A n o s' l E e g (L.ext c) (f.trans c);show f _ _ _ _ _ q g c
theorem HD(h:q8 C d Y U H t λc e=>if c then fL C d Y U e b Q else fL C d Y U e o Q):fL C d Y U H (.IfExp t b o pos) Q:=by
 focus
  intro A m n s g E f p L i;exact wpAny_IfExp (h A m n s _ E f p L λc e j k s' q l a=>?_);cases c;simp only[iD,if_false] at q⊢;show q A j k s' g E f l (L.ext a) (i.trans a);simp only[if_true] at q⊢;show q A j k s' g E f l (L.ext a) (i.trans a)
theorem ar_nil(h:Q [] H):wJ C d Y U H [] Q:=by
 focus
  show λc e f g i j k l a m b=>Calls.spliced_nil (b _ _ _ _ _ _ h a (.refl _ _ _ _) .nil)
noncomputable def YL(e:e_):Bool:=e.ctorIdx !=22
noncomputable def Wz(Y:nu)(a:List e_)(e:e_):=(false,eval e Y)::lq a Y
theorem lH(h:YL e=true):lq (e::a) Y=Wz Y a e:=by cases e<;>first|show Wa (Wz Y a _)|show nB h
theorem AE(h:fL C d Y U H e λv H1=>wJ C d Y U H1 i λa b=>Q (v::a) b)(j:autoParam (YL e=true) aT):wJ C d Y U H (e::i) Q:=by
 focus
  intro A k l s B E m c n L o;show Wb (h A k l s _ E c n L λv H1 p r x t q u f w=>q A p r t _ E m c u (L.ext f) λa b D G xs I q y g z=>o _ _ _ _ _ _ q y (f.trans g) (.cons (w.ext g) z)) (lH j)
theorem bF.length(r:bF w a Z l xs):aa l=aa xs:=by induction r using bF.rec (motive_1:=λb c e=>True)<;>simp_all
theorem HE(h:wJ C d Y U H f λa b=>a.length<=1000/\Q (.Zo .tup a) b):fL C d Y U H (.Tuple f k pos) Q:=by
 focus
  intro A g i s v E j l L m;exact Tuple_ (h A g i s _ E pos j l L λa b w x xs s' q n p r=>E02 (n.C_ (o:=gR xs 0) rfl) (λt c=>?_));have u:=r.length;apply gC (m _ _ _ _ _ _ q.2 t (p.trans c) (.Zo (.tup (pG _ _ _)) (r.ext c)));exact(?_:xs.toArray.size<=eY);have e:eY=16777216:=rfl;(rw[eI]);have:=q.1;show(e▸u▸af this ⋯)
theorem Er(h:wJ C d Y U H l λb f=>b.length<=1000/\Q (.ref f.length) (f++[.list b])):fL C d Y U H (.List l pos) Q:=by
 focus
  intro A m n s B E p t L u;exact List_ (h A m n s _ E pos p t L λb f j D xs s' q k v r=>?_);have w:Bs j (j++[s'.heap.objs.size]):=λi a e=>by rw[ar (ae.mp e).1];show e
  exact E02 (k.alloc (o:=iJ xs 0) (c:=.list b) rfl λG g z=>⟨xs,0,g,r.mono w (.refl _),z⟩) λx y=>gC (u _ _ _ _ _ _ q.2 x (v.trans y) (.ref ?_)) ?_;rw[←k.len];show sS;exact(?_:xs.toArray.size<=eY);have e:eY=16777216:=rfl;have:=r.length;have:=q.1;(rw[eI]);show RI e ‹_› this
end
noncomputable def q9(Y:nu)(x:String):Bool:=Y.kindOf (ah x)==Zs .local||(Y.kindOf (ah x)==Zs .cell&&(Y.cells.lookup (ah x)).isSome)
theorem zf(i:a∈YM Y)(f:oy a s.heap c)(j:∃o,c.get? a=Zs o):
  YO (YM Y) k Z s k Z {s with heap:=c,toks:=t}:=
 ⟨.refl _,.refl _,λl n p q=>rfl,λb h c=>absurd h c,λb _ ⟨o,e⟩=>by by_cases g:b=a;subst g;show j;show lC o ((f.2 b g).trans e),λb o l m e=>(f.2 b (λh=>m (h▸i))).trans e⟩
theorem vi(g:fX C c Z H s)(L:dO C c Z Y U s)(f:a∈YM Y)(i:oy a s.heap j):
  fX C c Z H {s with heap:=j,toks:=t}:=
 g.quiet (λb o h e=>(i.2 b (λk=>by
  subst k;rcases h with h|h
  show(L.own b f).1 h;rw[(L.own b f).2.1] at h;cases h)).trans e) rfl rfl
theorem oF(h:(YM Y).Nodup)(a:Y.cells.lookup n=Zs c)(b:Y.cells.lookup e=Zs c):n=e:=by
 have f:Y.cells.Pairwise λx y=>x.2≠y.2:=by have:=(cw.mp h).2;unfold Bn at this;rw[cK] at this;show this
 show PySem.name_of_addr f (g_ a) (g_ b)
theorem zg{C:Cx}{k:List Addr}{l:Zp}{H:Hp}{Y:nu}{U:YK}{s:bc}{A:eN}{E:Value->bc->Prop}{I:Unit->bc->Prop}{x:String}{v:V}{y:Value}
  (J:fX C k l H s)(L:dO C k l Y U s)(r:bQ C.w k l v y)(M:q9 Y x=true)
  (N:∀s',fX C k l H s'->YO (YM Y) k l s k l s'->dO C k l Y (YV U x v) s'->I () s'):b8 (cX C.prog C.w) A (storeName Y (ah x) y) I E s:=by
 walk_at "@C k l H Y U s A E I x v|y J L r M N"
 have a5:(Y.scope.kind== .class||(Y.scope.kind== .module&&Y.locals !=Y.globals))=false:=by rw[L.kind];rfl
 unfold q9 at M
 rcases Bool.or_eq_true_iff.mp M with g|g
 have g:Y.kindOf (ah x)=Zs .local:=beq_iff_eq.mp g;exact E12 L.ns λm O Q=>Ln g O (λT a2 j=>?_) a5;have hL:Y.locals∈YM Y:=.head _;have w:∃o,T.get? Y.locals=Zs o:=Kl a2;exact N _ (vi J L hL j) (zf hL j w) ⟨L.kind,L.qZ,L.yL,⟨_,a2,λz u a f=>?_⟩,λn c i=>?_,λz u a=>?_,λb hb=>?_,L.nodup⟩;rw[gA] at a;by_cases d:z=x;subst d;simp only[if_true] at a⊢;have a6:=Option.some.inj a;clear a;subst a6;show cU y rfl r;rw[if_neg d] at a;have:¬ah z=ah x:=λe=>d (lG e);(rw[if_neg this]);show Q z u a f;exact E12 (L.cl n c i) λo ho q=>?_;have a0:c≠Y.locals:=by rintro rfl;show(cw.mp L.nodup).1 (ay.mpr ⟨(n,Y.locals),g_ i,rfl⟩)
 exact cU o (YZ ho λG e=>(j.2 c a0).trans e) (λz u a f p=>?_);rw[gA] at f;by_cases d:z=x;subst d;subst a;rw[g] at p;cases p;rw[if_neg d] at f;show q z u a f p;rw[gA] at a;by_cases d:z=x;subst d;show .inl g;rw[if_neg d] at a;show L.has z u a;exact E02 (L.own b hb) λq1 a7=>E02 a7 λq2 a'=>E11 a' λo q3=>⟨q1,q2,?_⟩;by_cases B:b=Y.locals;subst B;show w;show lC o ((j.2 b B).trans q3)
 exact E02 (dC.mp g) λg i=>?_;have g:Y.kindOf (ah x)=Zs .cell:=beq_iff_eq.mp g;exact E11 (Bm.mp i) λc i=>E12 (L.cl _ c i) λo ho q=>wpAny_storeName_cell L.kind g i ho λT a3 j=>?_;have a4:c∈YM Y:=pH i;have w:∃o,T.get? c=Zs o:=gm (λo h=>h.1) a3;have a0:Y.locals≠c:=by rintro rfl;show(cw.mp L.nodup).1 (ay.mpr ⟨(_,Y.locals),g_ i,rfl⟩)
 exact E12 L.ns λm O Q=>N _ (vi (t:=s.toks) J L a4 j) (zf (t:=s.toks) a4 j w) ⟨L.kind,L.qZ,L.yL,⟨m,HB O λo e=>(j.2 _ a0).trans e,λz u a f=>?_⟩,λn c' D=>?_,λz u a=>?_,λb hb=>?_,L.nodup⟩;rw[gA] at a;by_cases d:z=x;subst d;rw[g] at f;cases f;rw[if_neg d] at a;show Q z u a f;by_cases a1:c'=c;subst a1;exact cU _ a3 (λz u a f p=>?_);have:=oF L.nodup D i;subst this;have d:=lG a;rw[gA,if_pos d.symm] at f;have ac:=Option.some.inj f;clear f;subst ac;show cU y rfl r;exact E12 (L.cl n c' D) λG al q'=>cU G (YZ al λo e=>(j.2 _ a1).trans e) (λz u a f p=>?_);rw[gA] at f;by_cases d:z=x;subst d;subst a;rw[i] at D;have am:=Option.some.inj D;clear D;subst am;show absurd rfl a1;rw[if_neg d] at f;show q' z u a f p;rw[gA] at a;by_cases d:z=x;subst d;show .inr ⟨g,by rw[i];rfl⟩;rw[if_neg d] at a;show L.has z u a;exact E02 (L.own b hb) λq1 an=>E02 an λq2 ap=>E11 ap λG q3=>⟨q1,q2,?_⟩;by_cases B:b=c;subst B;show w;show lC G ((j.2 b B).trans q3)
section
variable{C:Cx}{d:Nat}{Y:nu}{U:YK}{H:Hp}
@[irreducible] noncomputable def Es(C:Cx)(d:Nat)(h:List Value->Bk Unit)(H:Hp)(i:List V)(Q:Hp->Prop):Prop:=∀A a b s xs c E,ic d A->fX C a b H s->bF C.w a b i xs->(∀e f g s',Q e->fX C f g e s'->YO [] a b s f g s'->c () s')->b8 (cX C.prog C.w) A (h xs) c E s
theorem as_name(h:Q (YV U x v) H)(a:autoParam (q9 Y x=true) aT):tR C d Y U H (.Name (ah x) pos) v Q:=by
 focus
  intro A i j s y k E l b L r c;show iE (zg b L r a λs' e f g=>c _ _ _ _ _ h e f g)
theorem Kn{o:e_}{b:String}{i:Pos}{v:V}{Q:YK->Hp->Prop}
  (h:fL C d Y U H o λc H1=>Es C d (λxs=>match xs with|[x,y]=>setAttr x (ah b) y|_=>pure ()) H1 [c,v] λe=>Q U e):
  tR C d Y U H (.Attribute o (ah b) i) v Q:=by
 focus
  intro A j k s y D E f l L r m;rw[arm_assign_Attribute];exact ao (cg (h A j k s _ E f l L λc H1 n t x u q w a z=>ao (gB (ao (cg (q A n t u [x,y] _ E f w (.cons z (.cons (r.ext a) .nil)) λe G I J q B g=>?_))))));intro Γ p hΓ;rw[N'];show m _ _ _ _ _ q B ((a.trans g).weak (λM=>nm)) (L.ext (a.trans g))
theorem MN
  (h:fL C d Y U H o λe H1=>fL C d Y U H1 i λf g=>Es C d (λxs=>match xs with|[x,y,z]=>Qs x y z|_=>pure ()) g [e,f,v] λj=>Q U j):
  tR C d Y U H (.Subscript o i pos) v Q:=by
 focus
  intro A l m s y P E a n L r t;rw[arm_assign_Subscript];exact ao (cg (h A l m s _ E a n L λe H1 u w x B q D b G=>ao (cg (q A u w B _ E a D (L.ext b) λf g I J z M q N c O=>ao (gB (ao (cg (q A I J M [x,z,y] _ E a N (.cons (G.ext c) (.cons O (.cons ((r.ext b).ext c) .nil))) λj a0 Z3 s3 q T X3=>?_))))))));intro Γ p hΓ;rw[N'];have k:=b.trans (c.trans X3);show t _ _ _ _ _ q T (k.weak (λ_a=>nm)) (L.ext k)
noncomputable def MO(C:Cx)(d:Nat)(Y:nu)(U:YK)(H:Hp):List e_->List V->(YK->Hp->Prop)->Prop
 |[],[],Q=>Q U H
 |t::a,v::b,Q=>tR C d Y U H t v λc e=>MO C d Y c e a b Q
 |_,_,_=>False
noncomputable abbrev kU(e:e_):Bool:=YL e
noncomputable def VF(Y:nu)(a:List e_)(t:e_):=(false,JL t Y)::yC a Y
theorem ma(h:kU t=true):yC (t::a) Y=VF Y a t:=by cases t<;>first|show Wa (VF Y a _)|show nB h
theorem vj(a:List e_)(h:a.all kU=true):(yC a Y).length=aa a/\(yC a Y).findIdx? (·.1)=Zt:=by
 induction a with
 |nil=>show⟨rfl,rfl⟩
 |cons t a b=>have h:=dC.mp h;exact E02 (b h.2) λc d=>?_;rw[ma h.1];simp[VF,c,vH,d]
theorem FC(e:List e_):∀(a:List V) (U:YK) (H:Hp) (Q:YK->Hp->Prop) (A:eN) (b:List Addr) (c:Zp) (s:bc) (xs:List Value) (f:Unit->bc->Prop) (E:Value->bc->Prop),e.all kU=true->
  MO C d Y U H e a Q->ic d A->fX C b c H s->dO C b c Y U s->bF C.w b c a xs->
  (∀j k g i s',Q j k->fX C g i k s'->YO (YM Y) b c s g i s'->dO C g i Y j s'->f () s')->
  b8 (cX C.prog C.w) A (Yh ((yC e Y).map (·.2)) xs) f E s:=by
 focus
  induction e with
  |nil=>
   intro a U H Q A b c s xs f E _ h m n L r o;cases a with
   |nil=>show az (o _ _ _ _ _ h n (.refl _ _ _ _) L)
   |cons v a=>show h.elim
  |cons t e u=>
   intro a U H Q A b c s xs f E l h m n L r o;cases a with
   |nil=>show h.elim
   |cons v a=>exact bF.eC r λy I r w=>?_;have l:=dC.mp l;rw[ma l.1];show ao (cg (h A b c s _ _ E m n L r λj k g i s' q x p z=>u a j k Q A g i s' _ f E l.2 q m x z (w.ext p) λJ M N O T q B D G=>o _ _ _ _ _ q B (p.trans D) G))
theorem lI(h:MO C d Y U H c f Q)(w:autoParam (c.length=f.length) aR)(j:autoParam (c.all kU=true) aT):
  tR C d Y U H (.Tuple c k pos) (.Zo .tup f) Q:=by
 focus
  intro A g i s y x E l m L r z;exact E33 r.Fz λa xs n B D p=>?_;subst B;have G:=m.n_ _ _ D;exact E02 (vj (Y:=Y) c j) λI J=>Oa l.handled (items:=xs.toArray) ⟨_,G,rfl,_,rfl⟩ (by rw[I,w,p.length];show gw _) J λt M=>?_;have u:∀b o,s.heap.get? b=Zs o->t.get? b=Zs o:=λb o e=>M b o (bj (d9 e)) e;have v:YO [] g i s g i {s with heap:=t}:=.keeps u;show FC c f U H Q A g i _ _ x E j h l (m.keeps u rfl rfl) (L.ext v) p λl2 H2 a0 Z2 s2 q N O T=>z _ _ _ _ _ q N ((v.weak (λ_a=>nm)).trans O) T
theorem FD(h:fL C d Y U H a λv H1=>tR C d Y U H1 t v λf g=>Q .next f g)
  (i:autoParam (G5 [t] a pos.line Y=pure false) aQ)(j:autoParam (G6 [t] a Y=pure Zt) aN)(k:autoParam (kU t=true) aT):pd C d Y U H (.Assign [t] a pos) Q:=by
 focus
  intro A l m s D E b n L o;exact wpAny_Assign_stores (h A l m s _ E b n L λv H1 p r x c q u e w=>?_) i j;rw[ma k];exact(?_:b8 _ A (assignAll x [JL t Y]) _ E c);show q A p r c x _ E b u (L.ext e) w λG I J M N q y z B=>o _ _ _ _ _ _ _ q y ((e.weak (λO=>nm)).trans z) B trivial
theorem bF.app(b:bF w c Z l e)(f:bF w c Z g h):bF w c Z (l++g) (e++h):=by
 induction l generalizing e with
 |nil=>apply bF.e0 b;clear b;show f
 |cons a l i=>cases b with|cons p q=>show .cons p (i q)
theorem bF.rev(b:bF w e Z l c):bF w e Z l.reverse c.reverse:=by
 induction l generalizing c with
 |nil=>apply bF.e0 b;clear b;show .nil
 |cons a l f=>cases b with|cons p q=>rw[JN,JN];show(f q).app (.cons p .nil)
theorem Dc{A:eN}{b:List Addr}{c:Zp}{C:Cx}{Y:nu}{H:Hp}(d:List String):∀(a:List V) (e:List Value) (U:YK) (s:bc) (f:Flow->bc->Prop) (E:Value->bc->Prop),fX C b c H s->dO C b c Y U s->bF C.w b c a e->
  aa a=aa d->(∀x∈d,q9 Y x=true)->
  (∀s',fX C b c H s'->YO (YM Y) b c s b c s'->dO C b c Y ((d.zip a).foldl (λl p=>YV l p.1 p.2) U) s'->f .next s')->
  b8 (cX C.prog C.w) A (Yh ((d.map ah).map λn=>bindName Y n) e) (λI=>f .next) E s:=by
 walk_at "@A b c C Y H d"
 induction d with
 |nil=>
  intro a e U s f E h L r g i j;cases a with
  |nil=>show az (j s h (.refl _ _ _ _) L)
  |cons u a=>cases g
 |cons n d k=>
  intro a e U s f E h L r g i j;cases a with
  |nil=>cases g
  |cons u a=>show bF.eC r λy e r m=>ao (cg (wpAny_bindName (zg h L r (i n (.head _)) λo q t v=>k a _ _ o f E q v m (Nat.succ.inj g) (λx w=>i x (.tail _ w)) λz B D G=>j z B (t.trans D) G)))
theorem uA{j:List e_}{k:Nat}{m t:Pos}{g:e_}{names:List String}{Q:Fl->YK->Hp->Prop}
  (h:fL C d Y U H g λv H1=>∃c,v= .Zo .tup c/\c.length=names.length/\Q .next ((names.reverse.zip c.reverse).foldl (λl p=>YV l p.1 p.2) U) H1)
  (J:autoParam (G6 [.Tuple j k m] g Y=pure (Zs (names.map ah))) aR)(M:autoParam (names.all (q9 Y)=true) aT)
  (N:autoParam (G5 [.Tuple j k m] g t.line Y=pure false) aQ):pd C d Y U H (.Assign [.Tuple j k m] g t) Q:=by
 focus
  intro A O T s P E u S L hp;exact Assign_Tuple_swapped (h A O T s _ E u S L λv H1 w y x f q z B r1=>?_) N J;ext q⟨c⟩rfl hl q;apply E33 r1.Fz;intro a xs n a0 hz D;subst a0;have r:=z.n_ _ _ hz;have a1:(names.map ah).length=xs.toArray.size:=by rw[aq,←hl,D.length];show gw _
  rw[a1];exact wpAny_unpackItems_tuple u.handled ⟨_,r,rfl,_,rfl⟩ λi he=>?_;have G:∀b o,f.heap.get? b=Zs o->i.get? b=Zs o:=λb o e=>he b o (bj (d9 e)) e;have I:YO [] w y f w y {f with heap:=i}:=.keeps G;have S2:=z.keeps (s':={f with heap:=i}) G rfl rfl;have L2:=(L.ext B).ext I;rw[←List.map_reverse];exact Dc names.reverse c.reverse xs.reverse U {f with heap:=i} _ _ S2 L2 (bF.rev D) (by simp[hl]) (λx r=>cT.mp M x (List.mem_reverse.mp r)) λs3 S3 X3 L3=>?_;show hp .next _ _ _ _ _ _ q S3 (((B.trans I).weak (λ_a=>nm)).trans X3) L3 trivial
theorem Ko(h:fL C d Y U H e λc a=>Q .next U a)(f:autoParam (interactive Y=false) aF)(g:autoParam (Rc e Zt pos.line Y=pure false) aQ):
  pd C d Y U H (.Expr e pos) Q:=by
 focus
  intro A i j s o E k l L m;show wpAny_Expr_any (h A i j s _ E k l L λv a p t x s' q n b r=>m _ _ _ _ _ _ _ q n (b.weak (λc=>nm)) (L.ext b) trivial) f g
theorem PB(h:q8 C d Y U H t λc e=>if c then gM C d Y U e b Q else gM C d Y U e o Q):pd C d Y U H (.If t b o pos) Q:=by
 focus
  intro A m n s g E f p L i;exact wpAny_If (h A m n s _ E f p L λc e j k s' q l a=>?_);cases c;show q A j k s' g E f l (L.ext a) (i.trans (a.weak (λr=>nm)));show q A j k s' g E f l (L.ext a) (i.trans (a.weak (λr=>nm)))
theorem MP(h:fL C d Y U H e λv a=>Q (.ret v) U a):pd C d Y U H (.Return (Zs e) pos) Q:=by
 focus
  intro A c f s l E g i L j;show wpAny_Return_some (h A c f s _ E g i L λv a m n x s' q k b r=>j _ _ _ _ _ _ _ q k (b.weak (λo=>nm)) (L.ext b) r)
theorem st_cont(h:Q .cont U H):pd C d Y U H (.Continue pos) Q:=by
 focus
  show λA c e s f E g a L b=>wpAny_Continue (b _ _ _ _ _ _ _ h a (.refl _ _ _ _) L trivial)
theorem st_brk(h:Q .brk U H):pd C d Y U H (.Break pos) Q:=by
 focus
  show λA c e s f E g a L b=>wpAny_Break (b _ _ _ _ _ _ _ h a (.refl _ _ _ _) L trivial)
theorem st_pass(h:Q .next U H):pd C d Y U H (.Pass pos) Q:=by
 focus
  show λA c e s f E g a L b=>wpAny_Pass (b _ _ _ _ _ _ _ h a (.refl _ _ _ _) L trivial)
theorem ex_nil(h:Q .next U H):gM C d Y U H [] Q:=by
 focus
  show λA c e s f E g a L b=>CZ (b _ _ _ _ _ _ _ h a (.refl _ _ _ _) L trivial)
theorem uB{j:kh}{k:List kh}{Q:Fl->YK->Hp->Prop}
  (h:pd C d Y U H j λf g i=>match f with| .next=>gM C d Y g i k Q|f=>Q f g i):gM C d Y U H (j::k) Q:=by
 focus
  intro A m n s o E l p L a;exact wpAny_execs_cons (h A m n s _ E l p L λf g i t u x s' q b c e r=>?_);revert q;show xa.e r (λq=>q A t u s' o E l b e (a.trans c)) (λq=>a _ _ _ _ _ _ _ q b c e trivial) (λq=>a _ _ _ _ _ _ _ q b c e trivial) λv y r q=>a _ _ _ _ _ _ _ q b c e r
theorem PD{a:kh}{b:List kh}{Q:Fl->YK->Hp->Prop}
  (h:let q:Fl->YK->Hp->Prop:=λf c e=>match f with| .next=>gM C d Y c e b Q|f=>Q f c e;pd C d Y U H a q):gM C d Y U H (a::b) Q:=by
 focus
  show uB h
theorem PE{a:kh}{b:List kh}{Q:Fl->YK->Hp->Prop}
  (h:let q:Fl->YK->Hp->Prop:=λf c e=>match f with| .next=>gM C d Y c e b Q|f=>Q f c e;let l:=U;pd C d Y l H a q):gM C d Y U H (a::b) Q:=by
 focus
  show uB h
theorem Et(h:gM C d Y a H b Q)(c:∀x v,a.lookup x=Zs v->U.lookup x=Zs v):gM C d Y U H b Q:=by
 focus
  show λA e f s g E i j L k=>h A e f s g E i j (L.weak c) k
theorem QU{a:kh}{b:YK}{Q:Fl->YK->Hp->Prop}(h:pd C d Y b H a Q)(c:∀x v,b.lookup x=Zs v->U.lookup x=Zs v):pd C d Y U H a Q:=by
 focus
  show λA e f s g E i j L k=>h A e f s g E i j (L.weak c) k
theorem QV{b:kh}{Q c:Fl->YK->Hp->Prop}(h:pd C d Y U H b Q)(k:∀f l a,Q f l a->c f l a):pd C d Y U H b c:=by
 focus
  show λA e g s i E j m L n=>h A e g s i E j m L λv l a o p x s' q=>n v l a o p x s' (k v l a q)
theorem HF(I:Nat->YK->Hp->Prop)
  (z:∀n U H,I n U H->q8 C d Y U H B λb H1=>if b then gM C d Y U H1 D (λf a c=>match f with
    | .next| .cont=>∃m,m<n/\I m a c
    | .brk=>Q .next a c
    | .ret v=>Q (.ret v) a c) else Q .next U H1)
  (n:Nat)(h:I n U H):pd C d Y U H (.While B D [] O) Q:=by
 focus
  walk_at "@C d Y U H B D O Q I n|z h";intro A G J s P E M T L k;exact wpAny_While (codeAny_whileLoop (λn s'=>∃a c l o,I n a c/\fX C l o c s'/\YO (YM Y) G J s l o s'/\dO C l o Y a s') (λn s1 a0=>E44 a0 (λa1 H1 a2 Z1 hi S1 X1 p=>z n a1 H1 hi A a2 Z1 s1 _ _ M S1 p λb H2 a3 Z2 s2 q N t=>?_)) n ⟨U,H,G,J,h,T,.refl _ _ _ _,L⟩);have e:=X1.trans (t.weak (W':=YM Y) (λ_a=>nm));cases b;show CZ (k _ _ _ _ _ _ _ q N e (p.ext t) trivial);exact q A a3 Z2 s2 _ _ M N (p.ext t) λf a4 H3 a5 Z3 x s3 q g i j r=>?_;revert q;exact xa.e r (λq=>?_) (λq=>?_) (λq=>?_) λv y r q=>?_;show E12 q λm u w=>⟨m,u,_,_,_,_,w,g,e.trans i,j⟩;show k _ _ _ _ _ _ _ q g (e.trans i) j trivial;show E12 q λm u w=>⟨m,u,_,_,_,_,w,g,e.trans i,j⟩;show k _ _ _ _ _ _ _ q g (e.trans i) j r
end
theorem zh:Manifest.owners.lookup (String.ofList ['d','e','s','r','e','v','e','r'].reverse)=Zs Manifest.sig_reversed:=by kernel_rfl
theorem ku:Yy "reversed" "__next__" "reversed.__next__":=
 .of (owner:="reversed") (n:="__next__") (by rw[pq,kl];kernel_rfl) (by decide+kernel) (by decide+kernel) (by decide+kernel)
  (by first|show .inl (by decide+kernel)|show .inr (by decide+kernel)) (by rw[lu];kernel_rfl)
theorem q_:Ma table "reversed.__next__"=Zs mz.«reversed.__next__»:=Rd (by kernel_rfl)
theorem YW(a:Value):JO "reversed.__next__" ⟨[a],[]⟩:=by unfold JO;rw[Yi (id:="reversed.__next__") (n:=['_','_','t','x','e','n','_','_']) (o:=['d','e','s','r','e','v','e','r']) (by kernel_rfl) zh];kernel_rfl
theorem tb:Yy "reversed" "__iter__" "reversed.__iter__":=
 .of (owner:="reversed") (n:="__iter__") (by rw[pq,kl];kernel_rfl) (by decide+kernel) (by decide+kernel) (by decide+kernel)
  (by first|show .inl (by decide+kernel)|show .inr (by decide+kernel)) (by rw[lu];kernel_rfl)
theorem Y2(a:Value):JO "reversed.__iter__" ⟨[a],[]⟩:=by unfold JO;rw[Yi (id:="reversed.__iter__") (n:=['_','_','r','e','t','i','_','_']) (o:=['d','e','s','r','e','v','e','r']) (by kernel_rfl) zh];kernel_rfl
theorem uC:Ob (.type "tuple") "__reversed__"=pure Zt:=by rw[pq,kl];kernel_rfl
theorem wg:isSubtype (.type "tuple") (.type "dict")=pure false:=by rw[lu];kernel_rfl
theorem mJ:Yy "reversed" "__init__" "object.__init__":=
 .of (owner:="object") (n:="__init__") (by rw[pq,kl];kernel_rfl) (by decide+kernel) (by decide+kernel) (by decide+kernel)
  (by first|show .inl (by decide+kernel)|show .inr (by decide+kernel)) (by rw[lu];kernel_rfl)
theorem wh:TypeCalled "reversed" "reversed.__new__" "object.__init__":=⟨by decide+kernel,F.create_reversed,⟨_,_,F.mro_reversed⟩,Qt,by decide+kernel,by rw[lu];kernel_rfl,mJ⟩
theorem LG:isSubtype (.type "reversed") (.type "reversed")=pure true:=by rw[lu];kernel_rfl
theorem xb:Ma table "reversed.__iter__"=Zs mz.«dict_keyiterator.__iter__»:=entryFor_alias (id':="dict_keyiterator.__iter__") (by kernel_rfl) (by first|rfl|decide+kernel|(unfold String.splitOn;simp+decide [String.splitOnAux])) (by decide+kernel) (by kernel_rfl)
noncomputable def p9(l:Addr)(i:Int):Obj:={cls:=.type "reversed",data:=.fields #[.ref l,pv i]}
noncomputable def mT(h:yB)(a l:Addr)(i:Int):Prop:=∃o,h.get? a=Zs o/\o.cls= .type "reversed"/\o.data= .fields #[.ref l,pv i]
theorem mT.typeIs{s:bc}{a l:Addr}{i:Int}(x:mT s.heap a l i):s.TypeIs (.ref a) "reversed":=gm (λo h=>⟨h.1,h.2.1⟩) x
theorem mT.at(x:mT h a l i)(e:∀o,h.get? a=Zs o->b.get? a=Zs o):mT b a l i:=gm (λo h=>⟨e _ h.1,h.2⟩) x
section
variable{Y:ox}{w:gp}{A:eN}{E:Value->bc->Prop}{s:bc}
theorem yM(b:s.heap.get? l=Zs {cls:=.type "tuple",data:=.seq items n})(d:(items.size:Int)<2^62)
  (h:∀t,e (.ref s.heap.objs.size) {s with heap:=s.heap.push (p9 l ((items.size:Int) - 1)),toks:=t}):
  wC (cX Y w) A (.call (.builtin "reversed.__new__") ⟨[.type "reversed",.ref l],[]⟩) (wants e E) s:=by
 walk_at "@Y w A E s l items n e|b d h"
 have c:s.TypeIs (.ref l) "tuple":=⟨_,b,rfl⟩
 exact codeAny_of_tree ?_
 change b8 _ A.in1 (do checkBuiltinCall "reversed.__new__" ⟨[.type "reversed",.ref l],[]⟩;again (.builtin "reversed.__new__" ⟨[.type "reversed",.ref l],[]⟩)) _ _ s
 exact ao (lx (F.newCall_reversed_1 _) (az ⟨G7 JP _,pA F.entry_reversed_new ?_⟩))
 rw[sY JP _]
 unfold mz.«reversed.__new__»
 exact ao (lx (newClass_reversed _) ?_)
 try dsimp only
 exact ao (lx (a:=()) (by first|rfl|kernel_rfl) (ao (lx (a:=()) (by first|rfl|kernel_rfl) ?_)))
 try dsimp only
 exact ao (pB c uC ?_)
 try dsimp only
 k_delta "hasItemSlot"
 try dsimp only
 exact ao (ao (tF c wg ?_))
 rw[if_neg jB]
 exact ao (pB c vc.lookup ?_)
 try dsimp only
 rw[if_pos ⋯]
 exact az ?_
 rw[if_neg ⋯]
 exact ao (yt (items:=items) ⟨_,b,rfl,_,rfl⟩ (Xc d) (ao (az (a:=Zs (items.size:Int)) ?_)))
 dsimp only
 unfold Lo
 dsimp only
 show ao (gC (az (h _)))
theorem sT(d:s.heap.get? l=Zs {cls:=.type "tuple",data:=.seq items n})(e:(items.size:Int)<2^62)
  (h:∀t,Q (.ref s.heap.objs.size) {s with heap:=s.heap.push (p9 l ((items.size:Int) - 1)),toks:=t}):b8 (cX Y w) A (nG (.type "reversed") [.ref l]) Q E s:=by
 exact WX (Q₁:=λa b=>∃t,a= .ref s.heap.objs.size/\b={s with heap:=s.heap.push (p9 l ((items.size:Int) - 1)),toks:=t}) wh (F.typeCall_reversed_1 _) F.entry_object_init (yM d e λt=>⟨t,rfl,rfl⟩) λa b=>?_;apply Ei;intro t
 have c:({s with heap:=s.heap.push (p9 l ((items.size:Int) - 1)),toks:=t}:bc).TypeIs (.ref s.heap.objs.size) "reversed":=⟨_,cx _ rfl,rfl⟩
 show⟨c,F.args_object_init_2 _ _,object_init_meets (newId:="reversed.__new__") mJ.lookup Qt ⋯ Y w _ _ _ ⟨c,rfl,h t⟩⟩
theorem p_{b l:Addr}{i:Nat}{items:Array Value}{n:Nat}{x:Value}{Q:Option Value->bc->Prop}(e:mT s.heap b l (i:Int))(f:s.heap.get? l=Zs {cls:=.type "tuple",data:=.seq items n})(g:items[i]?=Zs x)(k:(i:Int)<2^62)
  (m:∀h t,mT h b l ((i:Int) - 1)->oy b s.heap h->Q (Zs x) {s with heap:=h,toks:=t}):b8 (cX Y w) A (v9 (.ref b)) Q E s:=by
 walk_at "@Y w A E s b l i items n x Q|e f g k m"
 exact E13 (id e) λo d p c=>?_
 have q:s.TypeIs (.ref l) "tuple":=⟨_,f,rfl⟩
 unfold v9
 exact ao (oz (iq (name:=ah "__next__") e.typeIs ku
  (eO ku e.typeIs q_ ?_ (YW _))))
 unfold mz.«reversed.__next__»
 exact ao (lx (a:=(oA b,[])) rfl ?_)
 try dsimp only
 exact ao (v_ d c (x:=.ref l) rfl (ao (v_ d c (x:=pv (i:Int)) rfl ?_)))
 exact(?_:b8 _ _ (if(i:Int)<0 then _ else _) _ _ s)
 rw[if_neg RK]
 exact ao (pB q vc.lookup ?_)
 try dsimp only
 rw[if_neg (by simp)]
 exact ao (wpAny_mkInt (ao (oz (vI (s:={s with toks:=s.toks+1}) (j:=i) ⟨_,f,rfl,_,rfl⟩ O6 (mH k ⋯) ?_ g ?_))))
 unfold seqIndex?;have:=(iB.mp g).1;simp only[show¬((i:Int)<0) by show qw _,if_false];rw[if_pos (by simp;show this)];simp
 dsimp only;exact ao (v_ (s:={s with toks:=s.toks+1}) d c (x:=pv (i:Int)) rfl ?_);exact(?_:b8 _ _ (WY (.ref b) 1 (pv ((i:Int) - 1))>>=_) _ _ _);exact ao (qL (s:={s with toks:=s.toks+1}) d c (by simp) (az ⟨x,rfl,az (m _ _ ?_ (j0 ..))⟩));show fP _ (gH _ d (tH (jK c _))) ((Lp ..).trans p) (by rw[jK c];simp)
theorem qQ{c l:Addr}{Q:Option Value->bc->Prop}(g:A.handled=Zt)(e:mT s.heap c l (-1))
  (i:∀j,Rf c s.heap j->Q Zt {s with heap:=j}):b8 (cX Y w) A (v9 (.ref c)) Q E s:=by
 walk_at "@Y w A E s c l Q|g e i"
 exact E13 (id e) λo f n d=>?_
 unfold v9
 exact ao (oz (iq (name:=ah "__next__") e.typeIs ku
  (eO ku e.typeIs q_ ?_ (YW _))))
 unfold mz.«reversed.__next__»
 exact ao (lx (a:=(oA c,[])) rfl ?_)
 try dsimp only
 exact ao (v_ f d (x:=.ref l) rfl (ao (v_ f d (x:=pv (-1)) rfl ?_)))
 exact(?_:b8 _ _ (if(-1:Int)<0 then _ else _) _ _ s)
 rw[if_pos ⋯]
 exact ao (iS ?_)
 k_delta "reversedEnd"
 exact ao (ao (qL f d (f_ _) (qL (gH _ f (tH (jK d _))) (jK d _) (uj _) ?_)))
 have k:oy c s.heap ((s.heap.update c (vJ λh=>h.setIfInBounds 1 (pv (-1)))).update c (vJ λh=>h.setIfInBounds 0 j8)):=(j0 ..).trans (j0 ..)
 first
 |change b8 _ _ (Oc (.type "StopIteration") []>>=_) _ _ _
 |(exact ao ?_;change b8 _ _ (Oc (.type "StopIteration") []>>=_) _ _ _)
 exact ao ?_
 unfold Oc newTuple
 exact ao (gC (ao (m:=wa _ _) (lx (a:=j8) (by first|rfl|(simp only[wa];rfl)) (gC ?_ (by size_fits)))) (by size_fits))
 unfold raiseNew
 exact ao (Yj ?_)
 first|rw[show A.in1.handled=Zt from g]|rw[g]
 exact ao (az (wpAny_throw ?_))
 show ao (tF (T:="StopIteration") (b:=true) ⟨_,cx _ rfl,rfl⟩ WZ (az (i _ ((k.extBut.push _).push _))))
theorem oG{a l:Addr}{i:Int}{Q:Value->bc->Prop}(b:mT s.heap a l i)(h:Q (.ref a) s):b8 (cX Y w) A (W0 (.ref a)) Q E s:=by exact Qu b.typeIs tb (eO tb b.typeIs xb ?_ (Y2 _));exact(?_:b8 _ _ (ret (.ref a)) _ _ s);show az ⟨_,rfl,"reversed",_,b.typeIs,ku.lookup,h⟩
theorem Dd{a:e_}{I l:Addr}{i:Int}{v:Value}{b:Unit->bc->Prop}(c:mT s.heap I l i)(h:b () s):
  b8 (cX Y w) A (je a (.ref I) v) b E s:=by
 walk_at "@Y w A E s a I l i v b|c h"
 exact E13 c λo d e f=>?_
 unfold je
 cases a<;>first
  |show az h
  |(cases v<;>first
    |show az h
    |(exact ao (Od d ?_)
      rw[e,f]
      show az h))
end
noncomputable def YJ(H:Hp):V->Option YF
 | .ref i=>H[i]?
 | .Zo .list l=>Zs (.list l)
 | .Zo (.dict ks) l=>Zs (.dict (ks.zip l))
 |_=>Zt
noncomputable def YN(H:Hp):V->Option (Addr×List (YI×V))
 | .obj c i=>match H[i]? with|some (.dict kvs)=>Zs (c,kvs)|_=>Zt
 | .Zo (.obj c ks) l=>Zs (c,(ks.map YI.str).zip l)
 |_=>Zt
theorem df.length(h:df w Z ks a c):aa ks=aa a/\aa a=aa c:=by
 induction h with
 |nil=>show⟨rfl,rfl⟩
 |cons _ _ b=>simp[b.1,b.2]
theorem FE(h:YJ H v=Zs (.list l)):(∃i,v= .ref i/\H[i]?=Zs (.list l))\/v= .Zo .list l:=by
 cases v with
 |ref i=>show .inl ⟨_,rfl,h⟩
 |Zo t a=>cases t with
  |list=>show .inr (congrArg _ (YF.list.inj (Option.some.inj h)))
  |dict ks=>cases Option.some.inj h
  |_=>cases h
 |_=>cases h
theorem FF(h:YJ H v=Zs (.dict l)):(∃i,v= .ref i/\H[i]?=Zs (.dict l))\/∃ks a,v= .Zo (.dict ks) a/\ks.zip a=l:=by
 cases v with
 |ref i=>show .inl ⟨_,rfl,h⟩
 |Zo t a=>cases t with
  |dict ks=>show .inr ⟨_,_,rfl,YF.dict.inj (Option.some.inj h)⟩
  |list=>cases Option.some.inj h
  |_=>cases h
 |_=>cases h
theorem HI(h:YN H v=Zs (c,l)):(∃i,v= .obj c i/\H[i]?=Zs (.dict l))\/∃ks a,v= .Zo (.obj c ks) a/\(ks.map YI.str).zip a=l:=by
 walk_at "@H v c l|h";cases v with
 |obj b i=>
  walk_at "@b i|h";have h:(match H[i]? with|some (.dict kvs)=>Zs (b,kvs)|_=>Zt)=Zs (c,l):=h;cases e:H[i]? with
  |none=>rw[e] at h;cases h
  |some q=>cases q with
   |dict kvs=>rw[e] at h;have k:=Prod.mk.inj (Option.some.inj h);show .inl ⟨_,congrArg (V.obj · i) k.1,e.trans (congrArg (λl=>Zs (YF.dict l)) k.2)⟩
   |_=>rw[e] at h;cases h
 |Zo t a=>cases t with
  |obj b ks=>show .inr ⟨_,_,congrArg (λc=>V.Zo (.obj c ks) a) (Prod.mk.inj (Option.some.inj h)).1,(Prod.mk.inj (Option.some.inj h)).2⟩
  |_=>cases h
 |_=>cases h
theorem iC.HJ(h:iC w Z .list a b):∃n,Z a=Zs (iJ b n):=h.inv
theorem iC.HK{w:gp}{Z:Zp}{a:Addr}{b:List Value}{ks:List YI}(h:iC w Z (.dict ks) a b):∃c n,Z a=Zs (fx c n)/\df w Z ks b c/\ks.Nodup/\a≠sysModules:=h.inv
theorem iC.Kp{w:gp}{Z:Zp}{a c:Addr}{b:List Value}{ks:List Str}(h:iC w Z (.obj c ks) a b):∃d e n,Z a=Zs (s9 c d)/\Z d=Zs (fx e n)/\df w Z (ks.map .str) b e/\(ks.map YI.str).Nodup:=h.inv
theorem dE(c:fX C Y Z H s)(f:YJ H v=Zs (.list l))(r:bQ C.w Y Z v x):
  ∃a b n,x= .ref a/\s.heap.get? a=Zs (iJ b n)/\bF C.w Y Z l b:=by
 walk_at "@C Y Z H s v x l|c f r"
 rcases FE f with⟨i,rfl,j⟩|rfl
 exact E12 r.inv λa k h=>?_;subst k;show E23 (c.cells i _ a j h) λb n g e _=>Fu a b n rfl g e
 exact E23 r.inv λa b m t e=>?_;subst m;show E11 t.HJ λn o=>Fu a b n rfl (c.n_ _ _ o) e
theorem kV{C:Cx}{Y:List Addr}{Z:Zp}{H:Hp}{s:bc}{v:V}{x:Value}{kvs:List (YI×V)}(j:fX C Y Z H s)(o:YJ H v=Zs (.dict kvs))(r:bQ C.w Y Z v x):
  ∃a b c n,x= .ref a/\s.heap.get? a=Zs (fx c n)/\df C.w Z (kvs.map (·.1)) b c/\bF C.w Y Z (kvs.map (·.2)) b/\(kvs.map (·.1)).Nodup/\(a==sysModules)=false:=by
 walk_at "@C Y Z H s v x kvs|j o r"
 rcases FF o with⟨i,rfl,u⟩|⟨ks,l,rfl,e⟩
 exact E12 r.inv λa w h=>?_;subst w;show E36 (j.cells i _ a u h) λb c n g d f k m _=>J' a b c n rfl g d f k (beq_eq_false_iff_ne.mpr m)
 exact E23 r.inv λa b y t f=>?_;subst y;exact E24 t.HK λc n z d k m=>?_;have p:ks.length=l.length:=by rw[d.length.1,f.length]
 have q:kvs.map (·.1)=ks:=e▸kE (aX p);have A:kvs.map (·.2)=l:=e▸qV (aX p.symm);show J' _ b c n rfl (j.n_ _ _ z) (q.symm▸d) (A.symm▸f) (q.symm▸k) (beq_eq_false_iff_ne.mpr m)
theorem xc{C:Cx}{Y:List Addr}{Z:Zp}{H:Hp}{s:bc}{v:V}{x:Value}{c:Addr}{kvs:List (YI×V)}(j:fX C Y Z H s)(q:YN H v=Zs (c,kvs))(r:bQ C.w Y Z v x):
  ∃a d b f n,x= .ref a/\s.heap.get? a=Zs (s9 c d)/\s.heap.get? d=Zs (fx f n)/\df C.w Z (kvs.map (·.1)) b f/\bF C.w Y Z (kvs.map (·.2)) b/\(kvs.map (·.1)).Nodup:=by
 walk_at "@C Y Z H s v x c kvs|j q r"
 rcases HI q with⟨i,rfl,y⟩|⟨ks,l,rfl,e⟩
 exact E23 r.inv λd a z h o=>?_;subst z;show E36 (j.cells i _ d y h) λb f n g k m p _ _=>⟨a,d,b,f,n,rfl,j.n_ _ _ o,g,k,m,p⟩
 exact E23 r.inv λa b A t m=>?_;subst A;exact E34 t.Kp λd f n o B k p=>?_;have u:(ks.map YI.str).length=l.length:=by rw[k.length.1,m.length]
 have w:kvs.map (·.1)=ks.map YI.str:=e▸kE (aX u);have D:kvs.map (·.2)=l:=e▸qV (aX u.symm);show⟨_,d,b,f,n,rfl,j.n_ _ _ o,j.n_ _ _ B,w.symm▸k,D.symm▸m,w.symm▸p⟩
theorem bF.get{w:gp}{Y:List Addr}{Z:Zp}{l:List V}{xs:List Value}{k:Nat}{v:V}(r:bF w Y Z l xs)(h:l[k]?=Zs v):∃x,xs[k]?=Zs x/\bQ w Y Z v x:=by
 induction l generalizing xs k with
 |nil=>cases h
 |cons a l b=>
  exact E23 r.inv λx d e r c=>e▸?_;cases k with
  |zero=>show cU _ rfl (Option.some.inj h▸r)
  |succ k=>show(b c h:)
theorem bF.get_none{w:gp}{Y:List Addr}{Z:Zp}{l:List V}{xs:List Value}{k:Nat}(r:bF w Y Z l xs)(h:l[k]?=Zt):xs[k]?=Zt:=by rw[gD] at h⊢;rw[←r.length];show h
section
variable{U:ox}{w:gp}{A:eN}{E:Value->bc->Prop}{s:bc}
theorem wi(c:(d==sysModules)=false)(a:s.heap.get? d=Zs (fx e f))
  (g:Q (.ref s.heap.objs.size) {s with heap:=s.heap.push {cls:=.type "dict_keyiterator",data:=.fields #[.ref d,.int 0 0,.int (aa e) 0,.int f 0]}}):
  b8 (cX U w) A (W0 (.ref d)) Q E s:=by
 walk_at "@U w A E s d e f Q|c a g"
 have b:s.TypeIs (.ref d) "dict":=⟨_,a,rfl⟩
 exact Qu b Oe (eO Oe b F.entry_dict_iter ?_ (F.args_dict_iter_1 _))
 unfold mz.«dict.__iter__»
 exact ao ?_
 unfold Wc
 exact ao (km b ?_)
 exact((az ?_):b8 _ _ (pure (oA d)) _ _ s)
 exact(?_:b8 _ _ (lE d>>=_) _ _ s)
 unfold lE
 rw[if_neg (by rw[c];show jB)]
 exact ao (az (ao (gE a rfl (ao (pD a rfl (ao (gC (az ⟨_,rfl,"dict_keyiterator",_,⟨_,cx _ rfl,rfl⟩,h_.lookup,?_⟩))))))))
 trivial
theorem wj(a:s.heap.IsKeyIter b d i c.length f)
  (h:s.heap.get? d=Zs (fx c f))(l:c[i]?=Zs e)
  (m:∀j,j.IsKeyIter b d (i+1) c.length f->oy b s.heap j->Q (Zs e.key) {s with heap:=j}):
  b8 (cX U w) A (v9 (.ref b)) Q E s:=by
 walk_at "@U w A E s b d i f c e Q|a h l m"
 exact E13 (id a) λo k p g=>?_
 unfold v9
 exact ao (oz (iq (name:=ah "__next__") a.typeIs h_
  (eO h_ a.typeIs Bo ?_ (Aj _))))
 exact ao (az (ao (ao ?_)))
 first|exact ao (j2 a.typeIs (az ?_))|exact ao (l8 a.typeIs (az ?_))
 exact ao (W2 k g ?_)
 exact(?_:b8 _ _ (if(oA d==j8)=true then _ else _) _ _ s)
 rw[if_neg (show¬((oA d==j8)=true) from jB)]
 exact ao (az (ao (gE h rfl ?_)))
 rw[if_neg (by simp)]
 exact ao (az (ao (pD h rfl ?_)))
 rw[if_neg (by simp)]
 exact az ?_
 dsimp only
 rw[show(if((i:Int)<0) then Zt else c.toArray[((i:Int)).toNat]?)=c[i]? from(if_neg RK).trans sZ,l]
 exact ao ?_
 first|exact ao (j2 a.typeIs (az ?_))|exact ao (l8 a.typeIs (az ?_))
 exact ao (Lq a.typeIs ?_)
 exact((ao (qL k g (aB _ _) ?_)):b8 _ _ (WY (.ref b) 1 (pv ((i:Int)+1))>>=_) _ _ s)
 have n:(s.heap.update b (vJ (·.setIfInBounds 1 (pv ((i:Int)+1))))).IsKeyIter b d (i+1) c.length f:=⟨_,gH _ k (tH (jK g _)),(Lp ..).trans p,by rw[jK g];rfl⟩
 exact ao (cg (ao (Lq (s:={s with heap:=s.heap.update b (vJ (·.setIfInBounds 1 (pv ((i:Int)+1))))}) n.typeIs ?_)))
 exact(?_:b8 _ _ (pure e.key) _ _ _)
 show az (az ⟨_,rfl,az (m _ n (j0 ..))⟩)
theorem sU(h:A.handled=Zt)(c:s.heap.IsKeyIter f d i e.length j)
  (g:s.heap.get? d=Zs (fx e j))(k:e[i]?=Zt)
  (l:∀n,Rf f s.heap n->Q Zt {s with heap:=n}):b8 (cX U w) A (v9 (.ref f)) Q E s:=by
 walk_at "@U w A E s f d i j e Q|h c g k l"
 exact E13 (id c) λo p r q=>?_
 unfold v9
 exact ao (oz (iq (name:=ah "__next__") c.typeIs h_
  (eO h_ c.typeIs Bo ?_ (Aj _))))
 exact ao (az (ao (ao ?_)))
 first|exact ao (j2 c.typeIs (az ?_))|exact ao (l8 c.typeIs (az ?_))
 exact ao (W2 p q ?_)
 exact(?_:b8 _ _ (if(oA d==j8)=true then _ else _) _ _ s)
 rw[if_neg (show¬((oA d==j8)=true) from jB)]
 exact ao (az (ao (gE g rfl ?_)))
 rw[if_neg (by simp)]
 exact ao (az (ao (pD g rfl ?_)))
 rw[if_neg (by simp)]
 exact az ?_
 dsimp only
 rw[show(if((i:Int)<0) then Zt else e.toArray[((i:Int)).toNat]?)=e[i]? from(if_neg RK).trans sZ,k]
 exact ao ?_
 first|exact ao (j2 c.typeIs (az ?_))|exact ao (l8 c.typeIs (az ?_))
 exact((ao (qL p q (jH _) ?_)):b8 _ _ (WY (.ref f) 0 .none>>=_) _ _ s)
 exact((ao ?_):b8 _ _ (Oc (.type "StopIteration") []>>=_) _ _ _)
 unfold Oc newTuple
 exact ao (gC (ao (m:=wa _ _) (lx (a:=j8) (by first|rfl|(simp only[wa];rfl)) (gC ?_ (by size_fits)))) (by size_fits))
 unfold raiseNew
 exact ao (Yj ?_)
 rw[show A.in1.handled=Zt from h]
 exact ao (az (wpAny_throw ?_))
 show ao (tF (T:="StopIteration") (b:=true) ⟨_,cx _ rfl,rfl⟩ WZ (az (l _ (((j0 ..).extBut.push _).push _))))
theorem FG{b:e_}{I:Addr}{v:Value}{p:Bk Unit->Prop}(h:p (pure ()))(k:∀a,p (je (.Tuple [] 0 default) (.ref I) (.ref a))):p (je b (.ref I) v):=by
 have c:∀v,p (je (.Tuple [] 0 default) (.ref I) v):=λv=>by cases v<;>first|show h|show k _
 cases b<;>first|show h|show c v
theorem BI{c:e_}{I:Addr}{x l d:Int}{v:Value}{b:Unit->bc->Prop}(e:IsRangeIter s.heap I x l d)(h:b () s):
  b8 (cX U w) A (je c (.ref I) v) b E s:=by
 walk_at "@U w A E s c I x l d v b|e h"
 show FG (p:=λm=>b8 (cX U w) A m b E s) (az h) λa=>ao (Od e (az h))
end
inductive mC where
 |list (v:V)
 |tup (l:List V)
 |wI (n:Nat)
 |keys (ks:List YI)
 |enum (v:V)
 |BJ (l:List V)
theorem neItr:Nonempty mC:=⟨.wI 0⟩
noncomputable def mC.next(H:Hp):mC->Nat->Option V
 | .list v,k=>match YJ H v with|some (.list l)=>l[k]?|_=>Zt
 | .tup l,k=>l[k]?
 | .wI n,k=>if k<n then Zs (.int k) else Zt
 | .keys ks,k=>ks[k]?.map YI.toV
 | .enum v,k=>match YJ H v with|some (.list l)=>l[k]?.map λx=>.Zo .tup [.int k,x]|_=>Zt
 | .BJ l,k=>if k<aa l then l[aa l - 1 - k]? else Zt
noncomputable def mC.ok(H:Hp):mC->Prop
 | .list v=>∃l,YJ H v=Zs (.list l)
 | .enum v=>∃l,YJ H v=Zs (.list l)
 |_=>True
noncomputable def pI(w:gp)(Y:List Addr)(Z:Zp)(h:yB)(I:Addr):mC->Nat->List Addr->Prop
 | .list v,k,b=>b=[I]/\∃a,bQ w Y Z v (.ref a)/\h.IsListIter I a k
 | .tup l,k,b=>b=[I]/\∃a xs n,Z a=Zs (gR xs n)/\bF w Y Z l xs/\h.IsTupleIter I a k
 | .wI n,k,b=>b=[I]/\k<=n/\IsRangeIter h I k ((n:Int) - k) 1
 | .keys ks,k,b=>b=[I]/\∃d c n e,Z d=Zs (fx c n)/\df w Z ks e c/\h.IsKeyIter I d k (aa c) n
 | .enum v,k,b=>∃J a f,b=[I,J]/\I≠J/\bQ w Y Z v (.ref a)/\IsEnum h I J k f/\h.IsListIter J a k
 | .BJ l,k,b=>b=[I]/\k<=aa l/\aa l<=1000000/\∃a xs n,Z a=Zs (gR xs n)/\bF w Y Z l xs/\mT h I a ((aa l:Int) - 1 - k)
theorem pI.mem(x:pI w Y Z h I a k b):I∈b:=by
 cases a<;>first
  |show x.1▸.head _
  |show Exists.elim x λ_ h=>Exists.elim h λ_ h=>Exists.elim h λ_ h=>h.1▸.head _
theorem pI.mono{w:gp}{Y m:List Addr}{Z p:Zp}{h s:yB}{I:Addr}{i:mC}{k:Nat}{j:List Addr}(x:pI w Y Z h I i k j)(f:Bs Y m)(c:Br Z p)
  (e:∀b∈j,∀o,h.get? b=Zs o->s.get? b=Zs o):pI w m p s I i k j:=by
 walk_at "@w Y m Z p h s I i k j|x f c e"
 cases i with
 |list v=>ext x rfl t;apply E12 t;intro a r g;show⟨rfl,a,r.mono f c,g.at λo q=>e I (.head _) o q⟩
 |tup l=>ext x rfl zq0;apply E33 zq0;intro a xs n z r g;show⟨rfl,a,xs,n,c _ _ z,r.mono f c,g.at λo q=>e I (.head _) o q⟩
 |wI n=>ext x rfl u g;show⟨rfl,u,e I (.head _) _ g⟩
 |keys ks=>ext x rfl zq3;apply E43 zq3;intro d y n A z r g;show⟨rfl,d,y,n,A,c _ _ z,r.mono c,g.at λo q=>e I (.head _) o q⟩
 |enum v=>ext x⟨J,a,B⟩rfl ne r g g';show Ou J a B rfl ne (r.mono f c) (e I (.head _) _ g) (g'.at λo q=>e J (.tail _ (.head _)) o q)
 |BJ l=>ext x rfl zq6;apply E02 zq6;intro u t;apply E02 t;intro D E;apply E33 E;intro a xs n z r g;show⟨rfl,u,D,a,xs,n,c _ _ z,r.mono f c,g.at λo q=>e I (.head _) o q⟩
theorem HL(r:fG Z k x):bQ w Y Z k.toV x:=by
 cases r with
 |int i t=>show .int i t
 |str s t=>show .str s t
 |«ints» z a=>
  apply .Zo (.tup z);clear z;induction a with
  |nil=>show .nil
  |cons _ b=>show .cons (.int _ _) b
theorem df.get{w:gp}{Z:Zp}{ks:List YI}{a:List Value}{b:List DictEntry}{i:Nat}{k:YI}(r:df w Z ks a b)(h:ks[i]?=Zs k):∃e,b[i]?=Zs e/\fG Z k e.key/\e.hash=YP w k/\a[i]?=Zs e.val:=by
 induction r generalizing i with
 |nil=>cases h
 |cons r _ c=>
  cases i with
  |zero=>show p0 _ rfl (Option.some.inj h▸r) (Option.some.inj h▸rfl) rfl
  |succ i=>show(c h:)
noncomputable def De(t:e_):Prop:=∃a k p,t= .Tuple a k p
theorem rTup:De (.Tuple a k p):=⟨a,k,p,rfl⟩
noncomputable def mC.target:mC->e_->Prop
 | .enum _,t=>De t
 |_,_=>True
section
variable{C:Cx}{d:Nat}{A:eN}{Y:List Addr}{Z:Zp}{H:Hp}{s:bc}{E:Value->bc->Prop}
theorem Jz{a:List Addr}{I b:Addr}(e:a=[I])(h:b∉a):b≠I:=λq=>h (e▸q▸.head _)
theorem QW{a:List Addr}{I J b:Addr}(e:a=[I,J])(h:b∉a):b≠I/\b≠J:=⟨λq=>h (e▸q▸.head _),λq=>h (e▸q▸.tail _ (.head _))⟩
theorem VG{a:List Addr}{I J b:Addr}(e:a=[I,J])(h:b∈a):b=I\/b=J:=(bb.mp (e▸h)).imp_right au.mp
set_option tactic.hygienic true in
theorem Eu{it:mC}{k:Nat}{I:Addr}{w:List Addr}{a2:e_}{P:Option Value->bc->Prop}(rm:ic d A)(Q:fX C Y Z H s)(X:pI C.w Y Z s.heap I it k w)(T:∀b∈w,b∉Y/\Z b=Zt)(a3:it.ok H)(ht:it.target a2)
  (h1:∀v x Z1 s1,it.next H k=Zs v->bQ C.w Y Z1 v x->(∀b∈w,Z1 b=Zt)->(∀(A':eN) (E':Value->bc->Prop) (Pu:Unit->bc->Prop),(∀s2,fX C Y Z1 H s2->YO w Y Z s Y Z1 s2->pI C.w Y Z1 s2.heap I it (k+1) w->Pu () s2)->b8 (cX C.prog C.w) A' (je a2 (.ref I) x) Pu E' s1)->P (Zs x) s1)
  (U:it.next H k=Zt->∀s',fX C Y Z H s'->YO w Y Z s Y Z s'->P Zt s'):b8 (cX C.prog C.w) A (v9 (.ref I)) P E s:=by
 walk_at "@C d A Y Z H s E it k I w|a2 P rm Q X T a3 ht h1 U"
 have hI:=X.mem
 have B:∀(f:yB) (t:Nat),(∀b o,b∉w->s.heap.get? b=Zs o->f.get? b=Zs o)->fX C Y Z H {s with heap:=f,toks:=t}:=λf t e=>
  Q.quiet (λb o j g=>e b o (λhm=>by
   rcases j with j|j
   show(T b hm).1 j;rw[(T b hm).2] at j;cases j) g) rfl rfl
 have L:∀(f:yB) (t:Nat),(∀b o,b∉w->s.heap.get? b=Zs o->f.get? b=Zs o)->YO w Y Z s Y Z {s with heap:=f,toks:=t}:=λf t e=>⟨.refl _,.refl _,λ_a _b _c _d=>rfl,λb h f=>absurd h f,λb j ⟨o,q⟩=>⟨o,e b o j q⟩,λb o _a U q=>e b o U q⟩
 cases it with
 |list v=>
  exact E02 X λu ap=>E12 ap λa r g=>E11 a3 λl hl=>E33 (dE Q hl r) λa' N n e D G=>?_;have ea:=Value.ref.inj e;rw[←ea] at D;have e0:mC.next H (.list v) k=l[k]?:=by simp only[mC.next,hl]
  have hL:s.heap.IsList a N.toArray:=⟨_,D,rfl,n,rfl⟩;cases m:l[k]? with
  |none=>exact Lr rm.handled g hL (by simpa using G.get_none m) λf z=>?_;have p:∀b o,b∉w->s.heap.get? b=Zs o->f.get? b=Zs o:=λb o j q=>z b o (Jz u j) q;show U (e0.trans m) _ (B f s.toks p) (L f s.toks p)
  |some v'=>exact E12 (G.get m) λx hx rx=>JQ g hL (by simpa using hx) λf y a0=>?_;have p:∀b o,b∉w->s.heap.get? b=Zs o->f.get? b=Zs o:=λb o j q=>a0.extBut b o (Jz u j) q;show h1 v' x Z _ (e0.trans m) rx (λb j=>(T b j).2) λA' E' Pu M=>letGo_listiter y (M _ (B f s.toks p) (L f s.toks p) ⟨u,a,r,y⟩)
 |tup l=>
  exact E02 X λu as=>E33 as λa N n O G g=>?_;have D:=Q.n_ _ _ O;have hL:s.heap.IsTuple a N.toArray:=⟨_,D,rfl,n,rfl⟩;cases m:l[k]? with
  |none=>exact wpAny_pyNext_tuple_end rm.handled g hL (by simpa using G.get_none m) λf z=>?_;have p:∀b o,b∉w->s.heap.get? b=Zs o->f.get? b=Zs o:=λb o j q=>z b o (Jz u j) q;show U m _ (B f s.toks p) (L f s.toks p)
  |some v'=>exact E12 (G.get m) λx hx rx=>wpAny_pyNext_tuple_item g hL (by simpa using hx) λf y a0=>?_;have p:∀b o,b∉w->s.heap.get? b=Zs o->f.get? b=Zs o:=λb o j q=>a0.extBut b o (Jz u j) q;show h1 v' x Z _ m rx (λb j=>(T b j).2) λA' E' Pu M=>letGo_tupleiter y (M _ (B f s.toks p) (L f s.toks p) ⟨u,a,N,n,O,G,y⟩)
 |wI n=>exact E03 X λu bs g=>?_;by_cases m:k<n;exact wpAny_pyNext_range_item g (So m) λf y a0=>?_;have p:∀b o,b∉w->s.heap.get? b=Zs o->f.get? b=Zs o:=λb o j q=>a0.extBut b o (Jz u j) q;exact h1 _ _ Z _ (if_pos m) (.int _ _) (λb j=>(T b j).2) λA' E' Pu M=>BI y (M _ (B f _ p) (L f _ p) ⟨u,m,?_⟩);have e2:((n:Int) - k - 1)=(n:Int) - ((k:Int)+1):=uh _ _ _;rw[e2] at y;simpa using y;exact wpAny_pyNext_range_end rm.handled g (Int.sub_nonpos_of_le (kK.mpr (bS m))) λf z=>?_;have p:∀b o,b∉w->s.heap.get? b=Zs o->f.get? b=Zs o:=λb o j q=>z b o (Jz u j) q;show U (if_neg m) _ (B f s.toks p) (L f s.toks p)
 |keys ks=>
  exact E02 X λu aM=>E43 aM λa es n N O en g=>?_;have D:=Q.n_ _ _ O;cases m:ks[k]? with
  |none=>
   have hn:es[k]?=Zt:=by rw[gD] at m⊢;rw[←en.length.2,←en.length.1];show m
   exact sU rm.handled g D hn λf z=>?_;have p:∀b o,b∉w->s.heap.get? b=Zs o->f.get? b=Zs o:=λb o j q=>z b o (Jz u j) q;show U (by change u_ _ _=_;rw[m];rfl) _ (B f s.toks p) (L f s.toks p)
  |some aY=>exact E14 (en.get m) λe z kr _ _=>wj g D z λf y a0=>?_;have p:∀b o,b∉w->s.heap.get? b=Zs o->f.get? b=Zs o:=λb o j q=>a0.extBut b o (Jz u j) q;show h1 aY.toV e.key Z _ (by change u_ _ _=_;rw[m];rfl) (HL kr) (λb j=>(T b j).2) λA' E' Pu M=>letGo_keyiter y (M _ (B f s.toks p) (L f s.toks p) ⟨u,a,es,n,N,O,en,y⟩)
 |enum v=>
  exact E35 X λJ a bv u a4 r g gj=>E11 a3 λl hl=>E33 (dE Q hl r) λa' N n e D G=>?_;have ea:=Value.ref.inj e;rw[←ea] at D;have e0:mC.next H (.enum v) k=l[k]?.map λx=>.Zo .tup [.int k,x]:=by simp only[mC.next,hl]
  have hL:s.heap.IsList a N.toArray:=⟨_,D,rfl,n,rfl⟩;cases m:l[k]? with
  |none=>exact wpAny_pyNext_enum_end rm.handled g gj hL (by simpa using G.get_none m) λf z=>?_;have p:∀b o,b∉w->s.heap.get? b=Zs o->f.get? b=Zs o:=λb o j q=>z b o (QW u j).2 q;show U (e0.trans (by rw[m];rfl)) _ (B f s.toks p) (L f s.toks p)
  |some v'=>
   exact E12 (G.get m) λx hx rx=>wpAny_pyNext_enum_item g gj hL (by simpa using hx) a4 λf y b1 b2 bw b3=>?_;have p:∀b o,b∉w->s.heap.get? b=Zs o->f.get? b=Zs o:=λb o j q=>b3 b o (QW u j).1 (QW u j).2 q;have b4:=Q.AA;have b5:s.heap.objs.size∉Y:=λh=>fR s (Q.old _ h);have a1:=Az (o:=gR [.int k s.toks,x] 0) b4;have ac:I≠s.heap.objs.size:=bj (d9 g);have b6:J≠s.heap.objs.size:=by ext gj⟨o⟩ho _;show bj (d9 ho)
   exact h1 (.Zo .tup [.int k,v']) _ (p7 Z s.heap.objs.size (gR [.int k s.toks,x] 0)) _ (e0.trans (by rw[m];rfl)) (.Zo (.tup (pG _ _ _)) (.cons (.int _ _) (.cons (rx.mono (.refl _) a1) .nil))) (λb j=>?_) λA' E' Pu M=>?_;unfold p7;rw[if_neg];show(T b j).2;show λq=>(VG u j).elim (λh=>ac (h.symm.trans q)) (λh=>b6 (h.symm.trans q));exact E31 ht λts tk tp b'=>?_;subst b';exact wpAny_letOwnedTupleGo_enum y λa5 bd a6=>?_;have a7:∀b o,b∉w->s.heap.get? b=Zs o->a5.get? b=Zs o:=λb o j q=>a6.extBut b o (QW u j).1 (p b o j q);have be:a5.IsListIter J a (k+1):=b1.at λo q=>a6.extBut J o (Ne.symm a4) q;have S2:=B a5 (s.toks+1) a7;exact M _ ⟨S2.len,S2.nodup,λi c b g1 g2=>?_,S2.old,λb o q=>?_,λb o q=>a1 _ _ (S2.base b o q),S2.gens,S2.os⟩ ⟨.refl _,a1,λb j al _a=>?_,λb h f=>absurd h f,λb j ⟨o,q⟩=>⟨o,a7 b o j q⟩,λb o _a j q=>a7 b o j q⟩
    ⟨J,a,x,u,a4,r.mono (.refl _) a1,?_,be⟩
   exact(S2.cells i c b g1 g2).mono (.refl _) a1 (λO=>?_) λo q=>q;unfold p7;rw[if_neg];show O;show λq=>b5 (q▸aC.mpr ⟨i,g2⟩)
   ·unfold p7 at q;split at q
    ·rename_i j;show Option.some.inj q▸j▸a6.extBut _ _ (Ne.symm ac) b2
    show S2.n_ b o q
   unfold p7;rw[if_neg];show λq=>fR s (q▸al);have e1:((k:Int)+1)=((k+1:Nat):Int):=rfl;rw[←e1];show bd
 |BJ l=>exact E02 X λu bh=>E02 bh λbi bm=>E02 bm λam bn=>E33 bn λa N n O G g=>?_;have D:=Q.n_ _ _ O;by_cases m:k<aa l;exact E11 (⟨_,ag (C0 m)⟩:∃v',l[aa l - 1 - k]?=Zs v') λv' an=>E12 (G.get an) λx hx rx=>?_;have e:(aa l:Int) - 1 - k=((aa l - 1 - k:Nat):Int):=(by rw[Qv (cF m),Qv (a8 m)];rfl);rw[e] at g;exact p_ g D (by simpa using hx) (wb (kK.mpr (af (dh _ _) (af (dh _ _) am))) ⋯) λf t y a0=>?_;have p:∀b o,b∉w->s.heap.get? b=Zs o->f.get? b=Zs o:=λb o j q=>a0.extBut b o (Jz u j) q;exact h1 v' x Z _ ((if_pos m).trans an) rx (λb j=>(T b j).2) λA' E' Pu M=>Dd y (M _ (B f _ p) (L f _ p) ⟨u,m,am,a,N,n,O,G,?_⟩);have e2:((aa l - 1 - k:Nat):Int) - 1=(aa l:Int) - 1 - ((k+1:Nat):Int):=Sr e;rw[e2] at y;show y;have e:(aa l:Int) - 1 - k= -1:=Xr bi m;rw[e] at g;exact qQ rm.handled g λf z=>?_;have p:∀b o,b∉w->s.heap.get? b=Zs o->f.get? b=Zs o:=λb o j q=>z b o (Jz u j) q;show U (if_neg m) _ (B f s.toks p) (L f s.toks p)
end
theorem pI.al(x:pI w B Z s.heap I h k i):∀b∈i,Al s b:=by
 intro b c;cases h with
 |list v=>ext x rfl f;ext f⟨a⟩r e;ext e⟨o⟩g _;rw[au.mp c];show lC o g
 |tup l=>ext x rfl j;ext j⟨a,xs,n⟩z r m;ext m⟨o⟩g _;rw[au.mp c];show lC o g
 |wI n=>ext x rfl p g;rw[au.mp c];show lC _ g
 |keys ks=>ext x rfl f;ext f⟨d,D,n,E⟩z r e;ext e⟨o⟩g _;rw[au.mp c];show lC o g
 |enum v=>
  ext x⟨J,a,G⟩rfl ne r g q;ext q⟨o⟩t _;rcases bb.mp c with rfl|c
  show lC _ g;rw[au.mp c];show lC o t
 |BJ l=>ext x rfl u;ext u p y;ext y L e;ext e⟨a,xs,n⟩z r A;ext A⟨o⟩g _;rw[au.mp c];show lC o g
theorem FH{C:Cx}{A:eN}{E:Value->bc->Prop}{e:List Addr}{f:Zp}{s:bc}{I:Addr}{c:mC}{k:Nat}{i:List Addr}{Q:Value->bc->Prop}(x:pI C.w e f s.heap I c k i)(h:Q (.ref I) s):
  b8 (cX C.prog C.w) A (W0 (.ref I)) Q E s:=by
 cases c with
 |list v=>ext x rfl b;ext b⟨a⟩r g;show wpAny_pyIter_listiter g h
 |tup l=>ext x rfl j;ext j⟨a,xs,n⟩z r g;show wpAny_pyIter_tupleiter g h
 |wI n=>ext x rfl m g;show wpAny_pyIter_rangeiter g h
 |keys ks=>ext x rfl o;ext o⟨d,t,n,u⟩z r g;show wpAny_pyIter_keyiter g h
 |enum v=>ext x⟨J,a,w⟩rfl ne r g g';show Qw g h
 |BJ l=>ext x rfl p;ext p m b;ext b y q;ext q⟨a,xs,n⟩z r g;show oG g h
section
variable(C:Cx)(d:Nat)
noncomputable def LH(g:List Addr)(h:Zp)(i s:bc)(Q:mC->Hp->Prop)(j:Value->bc->Prop):Prop:=∀d e a c I f s',Q d e->fX C a c e s'->YO [] g h s a c s'->pI C.w a c s'.heap I d 0 f->(∀b∈f,b∉a/\c b=Zt/\¬Al i b)->j (.ref I) s'
@[irreducible] noncomputable def xd(Y:nu)(U:YK)(H:Hp)(e:e_)(Q:mC->Hp->Prop):Prop:=∀A a b s c E,ic d A->fX C a b H s->dO C a b Y U s->LH C a b s s Q c->b8 (cX C.prog C.w) A (eval e Y) (λx f=>b8 (cX C.prog C.w) A (W0 x) c E f) E s
end
section
variable{C:Cx}{d:Nat}{Y:nu}{U:YK}{H:Hp}
theorem ra{a:List Addr}{c:Zp}{i s:bc}{o:Obj}{d:mC}{Q:mC->Hp->Prop}{j:Value->bc->Prop}(f:fX C a c H s)(r:o.isFreed=false)(l:Q d H)(m:LH C a c i s Q j)
  (n:∀b,Al i b->Al s b)(p:pI C.w a c (s.heap.push o) s.heap.objs.size d 0 [s.heap.objs.size]):j (.ref s.heap.objs.size) {s with heap:=s.heap.push o}:=by
 have k:∀b g,s.heap.get? b=Zs g->(s.heap.push o).get? b=Zs g:=λb g e=>cm _ e
 exact m d H a c _ _ _ l (f.keeps k rfl rfl) (.keeps k) p λb q=>?_
 rw[au.mp q]
 show⟨λh=>fR s (f.old _ h),f.AA,λh=>fR s (n _ h)⟩
theorem iK(h:fL C d Y U H e λv H1=>(∃l,YJ H1 v=Zs (.list l))/\Q (.list v) H1):xd C d Y U H e Q:=by
 focus
  intro A j k s N E m c L o;exact h A j k s _ E m c L λv H1 O T x s1 q f g i=>?_;ext q p q;ext p⟨l⟩r;apply E33 (dE f r i);intro a t n u w rs;subst u;apply Qx (items:=t.toArray) ⟨_,w,rfl,n,rfl⟩;show ra (i:=s) f rfl q (λy z B D I G s' q c J=>o y z B D I G s' q c (g.trans J)) (λb M=>g.live b bq M) ⟨rfl,a,i,⟨_,cx _ rfl,rfl,rfl⟩⟩
theorem HM(h:fL C d Y U H e λv H1=>∃l,v= .Zo .tup l/\Q (.tup l) H1):xd C d Y U H e Q:=by
 focus
  intro A k m s M E o c L p;exact h A k m s _ E o c L λv H1 N O x T q f g r=>?_;ext q⟨l⟩rfl q;apply E33 r.Fz;intro a i n t j u;subst t;apply wpAny_pyIter_tuple (items:=i.toArray) ⟨_,f.n_ _ _ j,rfl,n,rfl⟩;show ra (i:=s) f rfl q (λw y z B I D s' q c G=>p w y z B I D s' q c (g.trans G)) (λb J=>g.live b bq J) ⟨rfl,a,i,n,j,u,⟨_,cx _ rfl,rfl,rfl⟩⟩
theorem rb(n:Nat)(h:n<=16777216):y8 0 n 1=true/\kf 0 n 1=n:=by
 have e:kf 0 n 1=n:=by unfold kf;simp;show Xs
 exact⟨?_,e⟩;unfold y8;rw[e];unfold Rg;simp;show⟨(dB.mpr (aZ h (by decide:16777216<9223372036854775808))),.inr (dB.mpr (aZ h (by decide:16777216<9223372036854775808)))⟩
theorem vk(h:fL C d Y U H e λv H1=>∃n,v= .Zo (.wI n) []/\n<=16777216/\Q (.wI n) H1):xd C d Y U H e Q:=by
 focus
  intro A i j s N E k c L l;exact h A i j s _ E k c L λv H1 O T x m q f g p=>?_;ext q⟨n⟩rfl hn q;apply E43 p.Px;intro a t0 t1 t2 r t rs;subst r;apply E02 (rb n hn);intro u w;apply wpAny_pyIter_range (f.n_ _ _ t) u;exact ra (i:=s) f rfl q (λy z B D I G s' q c J=>l y z B D I G s' q c (g.trans J)) (λb M=>g.live b (by simp) M) ⟨rfl,bz _,?_⟩;have:=cx m.heap (o:=({cls:=.type "range_iterator",data:=.fields #[pv 0,pv (kf 0 n 1),pv 1]}:Obj)) rfl;rw[w] at this⊢;simpa using this
theorem wL(h:fL C d Y U H e λv H1=>∃ks l,v= .Zo (.dict ks) l/\Q (.keys ks) H1):xd C d Y U H e Q:=by
 focus
  intro A j k s O E m c L o;exact h A j k s _ E m c L λv H1 T Z1 x s1 q f g p=>?_;ext q⟨ks,l⟩rfl q;apply E46 p.Pz;intro a r t n u i w nd y rs;subst u;apply wi (beq_eq_false_iff_ne.mpr (y)) (f.n_ _ _ i);show ra (i:=s) f rfl q (λz B D G I J s' q c M=>o z B D G I J s' q c (g.trans M)) (λb N=>g.live b bq N) ⟨rfl,a,t,n,r,i,w,⟨_,cx _ rfl,rfl,rfl⟩⟩
theorem dO.al(L:dO C c Z Y U s):∀b∈YM Y,Al s b:=λb a=>(L.own b a).2.2
theorem HN
  (h:xd C d Y U H a4 λw H1=>w.target a5/\∃(N:Nat) (Inv:Nat->YK->Hp->Prop),Inv 0 U H1/\∀k z j,Inv k z j->w.ok j/\(w.next j k=Zt->Q .next z j)/\
   ∀v,w.next j k=Zs v->k<N/\tR C d Y z j a5 v λl2 H2=>gM C d Y l2 H2 al λf l3 H3=>match f with
    | .next| .cont=>Inv (k+1) l3 H3
    | .brk=>Q .next l3 H3
    | .ret v=>Q (.ret v) l3 H3)
  (hs:autoParam (∀x,de a4 Y x=pure x) aP):pd C d Y U H (.For a5 a4 al [] b2) Q:=by
 focus
  walk_at "@C d Y U H a5 a4 al b2 Q|h hs";intro A φ Z s P E J S L hp;walk_at "@A φ Z s P E|J S L hp";exact wpAny_For (h A φ Z s _ E J S L ?_) hs;intro w H1 a1 Z1 I g s1 q S1 X1 am M;walk_at "@w H1 a1 Z1 I g s1|q S1 X1 am M";ext q ht b3;ext b3⟨N,Inv⟩h0 b4;have a6:∀b∈g,b∉YM Y:=λb a ho=>(M b a).2.2 (L.al b ho);exact codeAny_forLoop_any (λn s'=>∃k z j O T,Inv k z j/\fX C O T j s'/\YO (YM Y++g) a1 Z1 s1 O T s'/\dO C O T Y z s'/\pI C.w O T s'.heap I w k g/\(∀b∈g,b∉O/\T b=Zt)/\n=N - k) ?_ N
   ⟨0,U,H1,a1,Z1,h0,S1,.refl _ _ _ _,L.ext X1,am,λb a=>⟨(M b a).1,(M b a).2.1⟩,rfl⟩
  intro n s2;ext _⟨k⟩b5;ext b5⟨an,H2,a0,Z2⟩b6 S2 X2 l b' ap rfl;apply E03 (b4 k an H2 b6);intro bd be bh;have a7:∀{B:List Addr} {i:Zp} {p:bc},YO (YM Y++g) a1 Z1 s1 B i p->YO (YM Y) φ Z s B i p:=λy=>(X1.weak (λ_a=>nm)).drop y λb a=>by
   rcases aE.mp a with a|a
   show .inl a;show .inr (M b a).2.2
  have lk:∀{B:List Addr} {i:Zp} {p:bc},YO g a0 Z2 s2 B i p->dO C B i Y an p:=λ{B i p} y=>by have fr:∀b∈YM Y,∀o,s2.heap.get? b=Zs o->p.heap.get? b=Zs o:=λb a o e=>y.frame b o (l.own b a).1 (λhm=>a6 b hm a) e;have nf:∀b∈YM Y,b∉g:=λb a hm=>a6 b hm a;exact⟨l.kind,l.qZ,l.yL,?_,λn c hc=>?_,l.has,λb a=>?_,l.nodup⟩;apply E12 l.ns;intro m hm r;show cU m (HB hm (fr _ (.head _))) (λy' v D h2=>(r y' v D h2).imp λu h=>⟨h.1,h.2.ext y⟩);apply E12 (l.cl n c hc);intro o ho r;show cU o (YZ ho (fr _ (pH hc))) (λy' v D h2 h3=>(r y' v D h2 h3).imp λu h=>⟨h.1,h.2.ext y⟩);apply E03 (l.own b a);intro D h2 h3;show⟨λh=>y.we b h D (nf b a) h3,by rw[y.w' b (nf b a) h3 D,h2],y.live b (nf b a) h3⟩
  exact Eu J S2 b' ap bd ht (λv x i p hn rx bi go=>?_) λhn p S3 X3=>?_;apply E02 (bh v hn);intro as hq;exact go A _ _ λs4 S4 X4 a'=>?_;have a2:∀b∈g,b∉a0/\i b=Zt:=λb a=>⟨(ap b a).1,bi b a⟩;exact hq A a0 i s4 x _ _ J S4 (lk X4) rx λbs H5 bm Z5 s5 q5 S5 X5 L5=>?_;exact q5 A bm Z5 s5 _ _ J S5 L5 λf bv H6 aM Z6 y s6 t S6 X6 L6 ry=>?_;have G:=X5.trans X6;have bn:YO (YM Y++g) a0 Z2 s2 a0 i s4:=X4.weak λb a=>jZ _ a;have a3:=X2.trans (bn.trans (G.weak λb a=>cE _ a));have ac:∀b∈g,b∉YM Y:=a6;have aY:pI C.w aM Z6 s6.heap I w (k+1) g:=a'.mono G.zd G.HA λb a o e=>G.frame b o (a2 b a).1 (ac b a) e;have b1:∀b∈g,b∉aM/\Z6 b=Zt:=λb a=>⟨λh=>G.we b h (a2 b a).1 (ac b a) (a'.al b a),by rw[G.w' b (ac b a) (a'.al b a) (a2 b a).1,(a2 b a).2]⟩;revert t;exact xa.e ry (λt=>?_) (λt=>?_) (λt=>?_) λv y ry t=>?_;show⟨N - (k+1),gc _ _ as,k+1,_,_,_,_,t,S6,a3,L6,aY,b1,rfl⟩;show hp _ _ _ _ _ _ _ t S6 (a7 a3) L6 trivial;show⟨N - (k+1),gc _ _ as,k+1,_,_,_,_,t,S6,a3,L6,aY,b1,rfl⟩;show hp _ _ _ _ _ _ _ t S6 (a7 a3) L6 ry;show CZ (hp _ _ _ _ _ _ _ (be hn) S3 (a7 (X2.trans (X3.weak λb a=>jZ _ a))) (lk X3) trivial)
end
theorem oH{C:Cx}{f:List Addr}{g:Zp}{H:Hp}{Y:nu}{U:YK}{s:bc}{A:eN}{E:Value->bc->Prop}{l:Unit->bc->Prop}{x:String}{v:V}{y:Value}
  (B:fX C f g H s)(L:dO C f g Y U s)(r:bQ C.w f g v y)(k:Y.kindOf (ah x)=Zs .local)
  (D:∀s',fX C f g H s'->YO [Y.locals] f g s f g s'->dO C f g Y (YV U x v) s'->l () s'):b8 (cX C.prog C.w) A (storeName Y (ah x) y) l E s:=by
 walk_at "@C f g H Y U s A E l x v|y B L r k D"
 have M:(Y.scope.kind== .class||(Y.scope.kind== .module&&Y.locals !=Y.globals))=false:=by rw[L.kind];rfl
 exact E12 L.ns λm N O=>Ln k N (λp G j=>?_) M
 have Q:Y.locals∈YM Y:=.head _
 have T:∃o,p.get? Y.locals=Zs o:=Kl G
 exact D _ (vi B L Q j) ⟨.refl _,.refl _,λ_a _b _c _d=>rfl,λb h p=>absurd h p,λb t ⟨o,e⟩=>⟨o,j.extBut b o (by simpa using t) e⟩,λb o _a i e=>j.extBut b o (by simpa using i) e⟩
  ⟨L.kind,L.qZ,L.yL,⟨_,G,λz u a i=>?_⟩,λn c I=>?_,λz u a=>?_,λb t=>?_,L.nodup⟩
 rw[gA] at a;by_cases d:z=x;subst d;simp only[if_true] at a⊢;have a0:=Option.some.inj a;clear a;subst a0;show cU y rfl r;rw[if_neg d] at a;have:¬ah z=ah x:=λe=>d (lG e);(rw[if_neg this]);show O z u a i
 exact E12 (L.cl n c I) λo ho q=>?_;have a1:c≠Y.locals:=by rintro rfl;show(cw.mp L.nodup).1 (ay.mpr ⟨(n,Y.locals),g_ I,rfl⟩)
 exact cU o (YZ ho λo' e=>(j.2 c a1).trans e) (λz u a i w=>?_);rw[gA] at i;by_cases d:z=x;subst d;subst a;rw[k] at w;cases w;rw[if_neg d] at i;show q z u a i w
 rw[gA] at a;by_cases d:z=x;subst d;show .inl k;rw[if_neg d] at a;show L.has z u a
 exact E02 (L.own b t) λq1 a2=>E02 a2 λq2 a3=>E11 a3 λo q3=>⟨q1,q2,?_⟩;by_cases J:b=Y.locals;subst J;show T;show lC o ((j.2 b J).trans q3)
inductive td(Y:nu)(U:YK):e_->V->YK->Prop
 |name {x:String} {pos:Pos} {v:V}:Y.kindOf (ah x)=Zs .local->td Y U (.Name (ah x) pos) v (YV U x v)
 |pair {x y:String} {px py pos:Pos} {k:Nat} {v u:V}:Y.kindOf (ah x)=Zs .local->Y.kindOf (ah y)=Zs .local->td Y U (.Tuple [.Name (ah x) px,.Name (ah y) py] k pos) (.Zo .tup [v,u]) (YV (YV U x v) y u)
theorem FI{C:Cx}{d:Nat}{c:List Addr}{f:Zp}{H:Hp}{Y:nu}{U i:YK}{s:bc}{A:eN}{E:Value->bc->Prop}{j:Unit->bc->Prop}{t:e_}{v:V}{y:Value}(p:ic d A)
  (g:fX C c f H s)(L:dO C c f Y U s)(r:bQ C.w c f v y)(q:td Y U t v i)
  (k:∀s',fX C c f H s'->YO [Y.locals] c f s c f s'->dO C c f Y i s'->j () s'):b8 (cX C.prog C.w) A (JL t Y y) j E s:=by
 walk_at "@C d c f H Y U i s A E j|t v y p g L r q k"
 cases q with
 |name h=>show iE (oH g L r h k)
 |pair w x=>exact E33 r.Fz λa xs n z l B=>?_;subst z;revert l;exact bF.e2 B λD G I J l=>Oa p.handled (items:=#[D,G]) ⟨_,g.n_ _ _ l,rfl,_,rfl⟩ rfl rfl λm M=>?_;have h:∀b o,s.heap.get? b=Zs o->m.get? b=Zs o:=λb o e=>M b o (bj (d9 e)) e;have u:YO [] c f s c f {s with heap:=m}:=.keeps h;have N:=g.keeps (s':={s with heap:=m}) h rfl rfl;have O:=L.ext u;show ao (cg (iE (oH N O I w λs2 Q T L2=>ao (cg (iE (oH Q L2 J x λs3 S3 X3 L3=>az (k s3 S3 ((u.weak (λ_a=>nm)).trans (T.trans X3)) L3)))))))
noncomputable def HO(C:Cx)(d:Nat)(Y:nu)(U:YK)(H:Hp):List e_->(Bool->Hp->Prop)->Prop
 |[],Q=>Q true H
 |[c],Q=>q8 C d Y U H c Q
 |_,_=>False
section
variable{C:Cx}{d:Nat}{Y:nu}{U:YK}{H:Hp}
theorem FJ(h:HO C d Y U H b Q)(g:ic d A)(e:fX C a Z H s)(L:dO C a Z Y U s)
  (f:ze C [] a Z s Q P):b8 (cX C.prog C.w) A (forIn b true λc r=>if r=true then do let i←WV c Y (eval c Y);pure (qx i) else pure (qx r)) P E s:=by
 focus
  match b,h with
  |[],h=>show wpAny_tests_nil (f _ _ _ _ _ h e (.refl _ _ _ _))
  |[c],h=>show wpAny_tests_one (h A a Z s P E g e L f)
theorem AF{A:eN}{l:Of->bc->Prop}{s:bc}{i d o:e_}{j:List e_}{scope:qM}{p:Pos}{e k:Value}{Y:nu}(I:Nat->bc->Prop)
  (u:∀n s,I n s->∀E,b8 (cX C.prog C.w) A (v9 e) (λr q=>match r with
   |none=>l (.ok .next) q
   |some v=>b8 (cX C.prog C.w) A (je d e v) (λa w=>b8 (cX C.prog C.w) A (JL d Y v) (λa y=>
     b8 (cX C.prog C.w) A (forIn j true λc r=>if r=true then do let f←WV c Y (eval c Y);pure (qx f) else pure (qx r)) (λf t=>
      if f=true then b8 (cX C.prog C.w) A (eval i Y) (λx z=>b8 (cX C.prog C.w) A (nG (.builtin "list.append") [k,x]) (λa B=>∃m,m<n/\I m B) E z) E t
      else∃m,m<n/\I m t) E y) E w) E q) E s)
  (n:Nat)(h:I n s):wC (cX C.prog C.w) A (.compLoop (.ListComp i [⟨d,o,j,0⟩] scope p) 0 e k Y) l s:=by
 walk_at "@C A l s i d o j scope p e k|Y I u n h"
 exact codeAny_loop rfl I (λn s H=>?_) n h
 change b8 _ A ((compTurn (.ListComp i [⟨d,o,j,0⟩] scope p) 0 e k Y).onRaise (λx=>do noteFrame x Y;theTreesLotGoes x)) _ _ s
 exact wpAny_noted ?_
 rw[compTurn_list]
 exact ao (gB (ao (ly (u n s H _) (λr q D=>?_) λa g b=>b)))
 cases r with
 |none=>show az D
 |some v=>
  exact ao (ly D (λa w J=>ao (ly J (λa y L=>ao (ly L (λf t G=>?_) λa g b=>b)) λa g b=>b)) λa g b=>b);cases f with
  |false=>show az ⟨rfl,G⟩
  |true=>show ao (ao (ly G (λx z M=>ao (ly M (λa B N=>az (az ⟨rfl,N⟩)) λa g b=>b)) λa g b=>b))
theorem xe(f:fX C b Z H s)(h:H[i]?=Zs (.list l))(j:b[i]?=Zs a)
  (r:bQ C.w b Z v x)(q:l.length<=16000000)(u:∀s',fX C b Z (H.set i (.list (l++[v]))) s'->YO [] b Z s b Z s'->P .none s'):
  b8 (cX C.prog C.w) A (nG (.builtin "list.append") [.ref a,x]) P E s:=by
 exact E23 (f.cells i _ a h j) λk n g m o=>?_
 have w:k.toArray.size<=eY:=by have e:eY=16777216:=rfl;have:=m.length;(rw[eI]);show(e▸this▸af q ⋯)
 exact wpAny_list_append_plain (hsz:=w) ⟨n,g⟩ λJ y z=>E11 y λB p=>?_
 have D:=(ae.mp h).1
 show E02 (f.write (t:=s.toks) (c:=.list (l++[v])) D j z o ⟨k++[x],B,by rw[p];simp[iJ],m.app (.cons r .nil),o⟩ ⟨_,p⟩) λG I=>u _ G I
end
noncomputable def tT(C:Cx)(d:Nat)(e:Addr->nu)(j:YK)(l m:e_)(o:List e_)(f:mC)(n N:Nat)(Inv:Nat->List V->Hp->Prop)(Q:Hp->Prop):Prop:=∀k a c,Inv k a c->c[n]?=Zs (.list a)/\aa a<=16000000/\f.ok c/\(f.next c k=Zt->Q c)/\∀v,f.next c k=Zs v->k<N/\∀Cl,∃g,td (e Cl) j l v g/\HO C d (e Cl) g c o λb h=>if b then fL C d (e Cl) g h m λy i=>i[n]?=Zs (.list a)/\Inv (k+1) (a++[y]) (i.set n (.list (a++[y]))) else Inv (k+1) a h
theorem dO.MQ(L:dO C q Z Y U s)(x:YO W q Z s t w s')(z:∀b∈W,b∉YM Y):dO C t w Y U s':=by have j:∀b∈YM Y,b∉W:=λb a k=>z b k a;have l:∀b∈YM Y,∀o,s.heap.get? b=Zs o->s'.heap.get? b=Zs o:=λb a o e=>x.frame b o (L.own b a).1 (j b a) e;exact⟨L.kind,L.qZ,L.yL,?_,λn c p=>?_,L.has,λb a=>?_,L.nodup⟩;show E12 L.ns λm k r=>cU m (HB k (l _ (.head _))) (λy v f g=>(r y v f g).imp λu h=>⟨h.1,h.2.ext x⟩);show E12 (L.cl n c p) λo A r=>cU o (YZ A (l _ (pH p))) (λy v f g i=>(r y v f g i).imp λu h=>⟨h.1,h.2.ext x⟩);show E03 (L.own b a) λf g i=>⟨λh=>x.we b h f (j b a) i,by rw[x.w' b (j b a) i f,g],x.live b (j b a) i⟩
theorem td.back(h:td Y U t v f)(g:∀x u,U.lookup x=Zs u->Y.kindOf (ah x)=Zs .cell):∀x u,U.lookup x=Zs u->f.lookup x=Zs u:=by
 intro x u b;have c:=g x u b;cases h with
 |name a=>rw[gA,if_neg,b];rintro rfl;rw[c] at a;cases a
 |pair a e=>rw[gA,if_neg,gA,if_neg,b];rintro rfl;rw[c] at a;cases a;rintro rfl;rw[c] at e;cases e
section
variable{C:Cx}{d:Nat}{Y:nu}{U:YK}{H:Hp}
theorem FK{A:eN}{R:Of->bc->Prop}{j:List Addr}{p:Zp}{s:bc}{a4 a1 an:e_}{a2:List e_}{scope:qM}{ap:Pos}{I Cl D:Addr}{g:List Addr}{i:List (Str×Addr)}{q:YK}{t:mC}{n N:Nat}
  {Inv:Nat->List V->Hp->Prop}{Q:Hp->Prop}(O:ic d A)(S:fX C j p H s)(L:dO C j p (fV scope i Cl Y) q s)(a5:pI C.w j p s.heap I t 0 g)(T:∀b∈g,b∉j/\p b=Zt/\b∉YM (fV scope i Cl Y))(ht:t.target a1)
  (a6:∀x u,q.lookup x=Zs u->(fV scope i Cl Y).kindOf (ah x)=Zs .cell)(hD:j[n]?=Zs D)(h0:Inv 0 [] H)(a3:tT C d (λCl=>fV scope i Cl Y) q a1 a4 a2 t n N Inv Q)
  (hR:∀w c f s',Q w->fX C c f w s'->YO (Cl::g) j p s c f s'->dO C c f (fV scope i Cl Y) q s'->R (.ok .next) s'):
  wC (cX C.prog C.w) A (.compLoop (.ListComp a4 [⟨a1,an,a2,0⟩] scope ap) 0 (.ref I) (.ref D) (fV scope i Cl Y)) R s:=by
 focus
  walk_at "@C d Y H A R j p s a4 a1 an|a2 scope ap I Cl D g i q t n N Inv Q O S L a5 T ht a6 hD h0 a3 hR";exact AF (λm s'=>∃k B w c f,Inv k B w/\fX C c f w s'/\YO (Cl::g) j p s c f s'/\dO C c f (fV scope i Cl Y) q s'/\pI C.w c f s'.heap I t k g/\(∀b∈g,b∉c/\f b=Zt)/\m=N - k) ?_ N
   ⟨0,[],H,j,p,h0,S,.refl _ _ _ _,L,a5,λb a=>⟨(T b a).1,(T b a).2.1⟩,rfl⟩
  intro m s2;ext _⟨k⟩aY;ext aY⟨B,U,r,Z2⟩a7 S2 X2 L2 a' J rfl;intro E;revert Q s2 k B U r Z2 E;walk_at "@a2 scope I Cl D g i q t n N Inv|L a5 T ht a6 hD h0";intro Q a3 hR s2 k B U r Z2 a7 S2 X2 L2 a' J E;walk_at "@Q s2 k B U r Z2 E|a3 hR a7 S2 X2 L2 a' J";exact E05 (a3 k B U a7) λbn b1 b2 b3 b4=>?_;have ac:∀b∈g,b∉YM (fV scope i Cl Y):=λb a=>(T b a).2.2;exact Eu O S2 a' J b2 ht (λv x Z3 s3 hn rx b5 go=>?_) λhn s3 S3 X3=>?_;exact E02 (b4 v hn) λb6 hq=>E12 (hq Cl) λbs as hq=>go A _ _ λs4 S4 X4 b'=>?_;have L4:=L2.MQ X4 ac;exact FI O S4 L4 rx as λs5 S5 X5 L5=>?_;have hC:(fV scope i Cl Y).locals=Cl:=rfl;rw[hC] at X5;have bd:YO (Cl::g) r Z2 s2 r Z3 s5:=(X4.weak (λb a=>.tail _ a)).trans (X5.weak (by simp));have al:pI C.w r Z3 s5.heap I t (k+1) g:=b'.mono (.refl _) (.refl _) λb a o e=>X5.frame b o (J b a).1 (by (rw[au]);rintro rfl;show ac _ a (.head _)) e;have be:∀{a0:List Addr} {Z6:Zp} {s6:bc},YO [] r Z3 s5 a0 Z6 s6->dO C a0 Z6 (fV scope i Cl Y) q s6:=λ{a0 Z6 s6} y=>(L5.ext y).weak (as.back a6);exact FJ hq O S5 L5 λb H6 a0 Z6 s6 q6 S6 X6=>?_;have aM:∀{M:List Addr} {Z7:Zp} {G:bc} {H7:Hp} {am:List V},Inv (k+1) am H7->fX C M Z7 H7 G->YO [] r Z3 s5 M Z7 G->∃m,m<N - k/\(∃k B w c f,Inv k B w/\fX C c f w G/\YO (Cl::g) j p s c f G/\dO C c f (fV scope i Cl Y) q G/\pI C.w c f G.heap I t k g/\(∀b∈g,b∉c/\f b=Zt)/\m=N - k):=λ{M Z7 G H7 am} hi S7 l=>by exact⟨N - (k+1),gc _ _ b6,k+1,am,H7,M,Z7,hi,S7,X2.trans (bd.trans (l.weak (λ_a=>nm))),be l,al.mono l.zd l.HA λb a o e=>l.frame b o (J b a).1 bq e,λb a=>⟨λh=>l.we b h (J b a).1 bq (al.al b a),?_⟩,rfl⟩;rw[l.w' b bq (al.al b a) (J b a).1,b5 b a]
  cases b with
  |false=>show aM q6 S6 X6
  |true=>exact q6 A a0 Z6 s6 _ _ O S6 (L5.ext X6) λy H7 M Z7 z G q7 S7 l r7=>E02 q7 λbh bi=>?_;have bm:M[n]?=Zs D:=l.zd _ _ (X6.zd _ _ (X2.zd _ _ hD));show xe S7 bh bm r7 b1 λs8 S8 X8=>aM bi S8 (X6.trans (l.trans X8))
  show hR U r Z2 s3 (b3 hn) S3 (X2.trans (X3.weak λb a=>.tail _ a)) (L2.MQ X3 ac)
end
noncomputable def FN(Y:nu)(scope:qM)(a:List (Str×Addr))(U:YK):YK->Prop
 |[]=>True
 |p::r=>((fV scope a 0 Y).kindOf (ah p.1)=Zs .cell/\Y.kindOf (ah p.1)=Zs .cell/\(a.lookup (ah p.1)).isSome=true/\U.lookup p.1=Zs p.2)/\FN Y scope a U r
set_option tactic.hygienic true in
theorem YY{l:YK}{x:String}{v:V}(h:l.lookup x=Zs v):(x,v)∈l:=by
 induction l with
 |nil=>cases h
 |cons p r a=>
  obtain⟨y,u⟩:=p;rw[cq] at h;split at h
  ·rename_i e;have b:=Option.some.inj h;clear h;subst b;rw[beq_iff_eq.mp e];show .head _
  show .tail _ (a h)
theorem FN.mem(h:FN Y scope cl U l)(p:String×V)(a:p∈l):(fV scope cl 0 Y).kindOf (ah p.1)=Zs .cell/\Y.kindOf (ah p.1)=Zs .cell/\(cl.lookup (ah p.1)).isSome=true/\U.lookup p.1=Zs p.2:=by
 induction l with
 |nil=>cases a
 |cons q r b=>show(bb.mp a).elim (λe=>e▸h.1) (b h.2)
theorem BK{Y:nu}(f:(YM Y).Nodup){a:List (Str×Addr)}(b:(a.map (·.1)).Nodup)(d:∀p∈a,Y.cells.lookup p.1=Zs p.2):(a.map (·.2)).Nodup:=by
 induction a with
 |nil=>show .nil
 |cons p r g=>have b:=cw.mp b;show cw.mpr ⟨λh=>b.1 (E12 (ay.mp h) (λq c e=>ay.mpr ⟨q,c,(oF f (d p (.head _)) ((d q (.tail _ c)).trans (congrArg Zs e))).symm⟩)),g b.2 λq c=>d q (.tail _ c)⟩
section
variable{C:Cx}{d:Nat}{Y:nu}{U:YK}{H:Hp}
theorem xf{A:eN}{E:Value->bc->Prop}{f a6:List Addr}{j Z0:Zp}{M s:bc}{a7 a0 b1:e_}{a':List e_}{scope:qM}{b2:Pos}{I:Addr}{O:List Addr}{i:List (Str×Addr)}{a1:YK}{it:mC}{N:Nat}
  {Inv:Nat->List V->Hp->Prop}{Q:Hp->Prop}{RR:Value->Addr->Of->bc->Prop}(rm:ic d A)(S:fX C f j H s)(L:dO C f j Y U s)(b3:pI C.w f j s.heap I it 0 O)(a2:∀b∈O,b∉f/\j b=Zt/\b∉YM Y)(ht:it.target a0)(X0:YO [] a6 Z0 M f j s)(bn:∀b∈O,¬Al M b)
  (bs:i.map (λp=>Y.cells.lookup p.1)=i.map (λp=>Zs p.2))(bv:(i.map (·.1)).Nodup)(ac:FN Y scope i U a1)
  (bw:∀y∈scope.names,y.2≠.cell)(b4:scope.kind= .function)
  (h0:Inv 0 [] (H++[.list []]))(bA:tT C d (λCl=>fV scope i Cl Y) a1 a0 a7 a' it (aa H) N Inv Q)
  (hR:∀D Cl H' k t s' m,Q H'->fX C k t H' s'->YO [] a6 Z0 M k t s'->k[aa H]?=Zs D->s'.heap.Ns Cl m->Cl∉k->t Cl=Zt->Cl∉YM Y->¬Al M Cl->RR (.ref D) Cl (.ok .next) s'):
  b8 (cX C.prog C.w) A (newList []) (λb5 bI=>b8 (cX C.prog C.w) A (newFunctionEnv scope Y.globals i [] Y.qual Zt .none (Zs Y)) (λb6 bL=>wC (cX C.prog C.w) A (.compStart (.ListComp a7 [⟨a0,b1,a',0⟩] scope b2) 0 (.ref I) b5 {b6 with scope:=relabel scope Y}) (RR b5 b6.locals) bL) E bI) E s:=by
 focus
  exact E02 (S.alloc (o:=iJ [] 0) (c:=.list []) rfl λh' g z=>⟨[],0,g,.nil,z⟩) λS1 w=>gC (wpAny_newFunctionEnv bw (by intro y hy;simp at hy) (λal a3 am=>?_) b4);dsimp only at a3 am⊢;have hD:(f++[s.heap.objs.size])[aa H]?=Zs s.heap.objs.size:=by rw[←S.len];show sS
  generalize an:({s with heap:=s.heap.push (iJ [] 0)}:bc)=B at S1 w;have b':B.heap=s.heap.push (iJ [] 0):=by rw[←an]
  have a4:(s.heap.push {cls:=mQ "list",data:=Yk ([]:List Value).toArray}).objs.size=B.heap.objs.size:=by rw[b']
  generalize c3:(s.heap.push {cls:=mQ "list",data:=Yk ([]:List Value).toArray}).objs.size=Cl at a3 am a4⊢;have hk:∀b o,B.heap.get? b=Zs o->al.get? b=Zs o:=λb o e=>am.extBut b o (by rw[a4];show bj (d9 e)) (by rw[b'] at e;show cm _ e);generalize ap:({s with heap:=al,toks:=s.toks+([]:List (Str×Value)).length}:bc)=G;have a5:G.heap=al:=by rw[←ap]
  have S2:fX C (f++[s.heap.objs.size]) j (H++[.list []]) G:=S1.keeps (by rw[a5];show hk) (by rw[←ap,←an]) (by rw[←ap,←an]);have X2:YO [] (f++[s.heap.objs.size]) j B (f++[s.heap.objs.size]) j G:=.keeps (by rw[a5];show hk);have J:=w.trans X2;have L2:=L.ext J;have T:¬Al B Cl:=by rw[a4];show fR B
  have bd:Cl∉YM Y:=λh=>T (w.live _ bq (L.al _ h));have bN:Cl∉f++[s.heap.objs.size]:=λh=>T (S1.old _ h);have bR:j Cl=Zt:=by rw[a4];show S1.AA
  have as:∀p∈i,Y.cells.lookup p.1=Zs p.2:=by intro p hp;have:=JR.mp bs p hp;show this
  have aM:∀b∈i.map (·.2),b∈YM Y:=λb a=>by exact E12 (ay.mp a) λp hp c0=>?_;subst c0;show pH (as p hp)
  have aY:∀be x u,a1.lookup x=Zs u->(fV scope i be Y).kindOf (ah x)=Zs .cell:=λbe x u hx=>(ac.mem _ (YY hx)).1;have L3:dO C (f++[s.heap.objs.size]) j (fV scope i Cl Y) a1 G:=by
   exact⟨by simp[fV,relabel,b4],L2.qZ,L2.yL,⟨_,by rw[a5];show a3,λx v l h2=>?_⟩,λn c hc=>?_,λx v l=>?_,λb a=>?_,?_⟩;have:=aY Cl x v l;rw[this] at h2;cases h2;have c1:Y.cells.lookup n=Zs c:=as (n,c) (g_ hc);show E12 (L2.cl n c c1) λo ho r=>cU o ho (λx v l h2 h3=>E04 (ac.mem _ (YY h2)) (λ_ h5 _ h6=>r x v l h6 (l▸h5)));show .inr ⟨aY Cl x v l,(ac.mem _ (YY l)).2.2.1⟩;rcases bb.mp a with rfl|a
   show⟨bN,bR,gm (λo e=>by rw[a5];show e) (Kl a3)⟩;show L2.own b (aM b a);exact cw.mpr ⟨λh=>bd (aM _ h),?_⟩;show((BK L.nodup bv as):(i.map (·.2)).Nodup)
  have bh:pI C.w (f++[s.heap.objs.size]) j G.heap I it 0 O:=b3.mono J.zd J.HA λb a o e=>J.frame b o (a2 b a).1 bq e;have bi:=b3.al;have c2:∀b∈O,b∉f++[s.heap.objs.size]/\j b=Zt/\b∉YM (fV scope i Cl Y):=λb a=>
   ⟨λh=>J.we b h (a2 b a).1 bq (bi b a),(a2 b a).2.1,λh=>by
    rcases bb.mp h with rfl|h
    show T (w.live _ bq (bi _ a));show(a2 b a).2.2 (aM b h)⟩
  have bm:wC (cX C.prog C.w) A (.compLoop (.ListComp a7 [⟨a0,b1,a',0⟩] scope b2) 0 (.ref I) (.ref s.heap.objs.size) (fV scope i Cl Y)) (RR (.ref s.heap.objs.size) Cl) G:=by
   exact FK rm S2 L3 bh c2 ht (aY Cl) hD h0 bA λH' k t s' q S' X' L'=>E12 L'.ns λm hm _=>?_;have XX:YO [] a6 Z0 M k t s':=(X0.trans J).drop X' λb a=>by
    rcases bb.mp a with rfl|a
    show .inr λh=>T (w.live _ bq (X0.live _ bq h));show .inr (bn b a)
   show hR _ _ H' k t s' m q S' XX (X'.zd _ _ hD) hm (L'.own _ (.head _)).1 (L'.own _ (.head _)).2.1 bd λh=>T (w.live _ bq (X0.live _ bq h))
  show codeAny_compStart_list bm (FH bh bm)
@[reducible] noncomputable def QX(C:Cx)(d:Nat)(scope:qM)(c:List (Str×Addr))(Y:nu)(e:YK)(a f:e_)(g:List e_)(Q:V->Hp->Prop):mC->Hp->Prop:=λb H1=>
 b.target a/\∃(N:Nat) (Inv:Nat->List V->Hp->Prop),Inv 0 [] (H1++[.list []])/\tT C d (λCl=>fV scope c Cl Y) e a f g b (aa H1) N Inv λh=>Q (.ref (aa H1)) h
theorem gv(c:List (Str×Addr))(j:YK)
  (h:xd C d Y U H k (QX C d scope c Y j v w z Q))
  (B:FN Y scope c U j)(G:autoParam (closureFor scope Y=pure c) aR)(J:autoParam (c.map (λp=>Y.cells.lookup p.1)=c.map (λp=>Zs p.2)) aR)(M:autoParam ((c.map (·.1)).Nodup) aD)
  (O:autoParam (∀y∈scope.names,y.2≠.cell) aD)(l:autoParam (scope.kind= .function) aK)(T:autoParam (∀x∈scope.names,x.2= .local->scope.names.lookup x.1=Zs .local) aD)
  (hs:autoParam (∀x,de k Y x=pure x) aP):fL C d Y U H (.ListComp w [⟨v,k,z,0⟩] scope pos) Q:=by
 focus
  intro A φ Z s P E n S L hp;rw[eval_ListComp];exact G8 (use:=Zt) rfl hs G l T (h A φ Z s _ E n S L (λit H1 a7 Z1 I fp s1 q S1 r a0 f=>E02 q (λht a1=>E22 a1 (λN Inv h0 a2=>xf n S1 (L.ext r) a0 (λb a=>⟨(f b a).1,(f b a).2.1,λh=>(f b a).2.2 (L.al b h)⟩) ht r (λb a=>(f b a).2.2) J M B O l h0 a2 (λD Cl H' t u s' m q S' X' hD hm a3 a4 a' a5=>cU m hm (λg i=>?_))))));have hq:∀b o,(b∈t\/u b=Zs o)->s'.heap.get? b=Zs o->g.get? b=Zs o:=λb o a e=>i.extBut b o (by
   rintro rfl;rcases a with a|a
   show a3 a;rw[a4] at a;cases a) e
  have a6:fX C t u H' {s' with heap:=g}:=S'.quiet hq rfl rfl;exact hp _ _ _ _ _ _ q a6 (X'.drop (W':=[Cl]) ⟨.refl _,.refl _,λ_a _b _c _d=>rfl,λb h g=>absurd h g,λb a ⟨o,e⟩=>⟨o,i.extBut b o (by simpa using a) e⟩,λb o _a h2 e=>i.extBut b o (by simpa using h2) e⟩ λb a=>?_) (.ref hD);rw[au.mp a];show .inr a5
theorem xg{x:String}{j:Pos}{k l f:e_}{n:List e_}{scope:qM}{w z:Pos}{Q:Fl->YK->Hp->Prop}(c:List (Str×Addr))(B:YK)
  (h:xd C d Y U H f (QX C d scope c Y B l k n λv G=>Q .next (YV U x v) G))
  (O:FN Y scope c U B)(T:autoParam (Y.kindOf (ah x)=Zs .local) aL)(a0:autoParam (Rc (.ListComp k [⟨l,f,n,0⟩] scope w) (Zs (.Name (ah x) j)) z.line Y=pure true) aR)
  (a1:autoParam (closureFor scope Y=pure c) aR)(a2:autoParam (c.map (λp=>Y.cells.lookup p.1)=c.map (λp=>Zs p.2)) aR)(a3:autoParam ((c.map (·.1)).Nodup) aD)
  (a4:autoParam (∀y∈scope.names,y.2≠.cell) aD)(J:autoParam (scope.kind= .function) aK)(a5:autoParam (∀x∈scope.names,x.2= .local->scope.names.lookup x.1=Zs .local) aD)
  (hs:autoParam (∀x,de f Y x=pure x) aP):pd C d Y U H (.Assign [.Name (ah x) j] (.ListComp k [⟨l,f,n,0⟩] scope w) z) Q:=by
 focus
  walk_at "@C d Y U H x j k l f n scope|w z Q c B h O T a0 a1 a2 a3 a4 J a5 hs";intro A φ Z s P E rm S L hp;rw[exec_Assign_Name_used _ _ _ _ a0,arm_evalThenUse_ListComp];exact ao (gB (ao (ao (G8 (use:=Zs (JL (.Name (ah x) j) Y)) rfl hs a1 J a5 (h A φ Z s _ E rm S L (λit H1 aY Z1 I fp s1 q S1 X1 a' r=>E02 q (λht ac=>E22 ac (λN Inv h0 al=>xf rm S1 (L.ext X1) a' (λb a=>⟨(r b a).1,(r b a).2.1,λh=>(r b a).2.2 (L.al b h)⟩) ht X1 (λb a=>(r b a).2.2) a2 a3 O a4 J h0 al (λD Cl G t u s' m q S' X' hD hm a6 am a7 an=>iE (oH S' (L.ext X') (.ref hD) T λg S2 X2 L2=>?_))))))))));have ap:Y.locals≠Cl:=λe=>a7 (e▸.head _);exact cU m (HB hm λo e=>X2.frame Cl o a6 (by simp;show ap.symm) e) (λi as=>?_);have M:∀b o,b≠Cl->g.heap.get? b=Zs o->i.get? b=Zs o:=λb o a e=>as.extBut b o a e;have S3:fX C t u G {g with heap:=i}:=S2.quiet (λb o a e=>M b o (by
   rintro rfl;rcases a with a|a
   show a6 a;rw[am] at a;cases a) e) rfl rfl
  have X3:YO [Cl] t u g t u {g with heap:=i}:=⟨.refl _,.refl _,λ_a _b _c _d=>rfl,λb h i=>absurd h i,λb a ⟨o,e⟩=>⟨o,M b o (by simpa using a) e⟩,λb o _a h2 e=>M b o (by simpa using h2) e⟩;have L3:=L2.MQ X3 (λb a=>by rw[au.mp a];show a7);exact az (az (hp .next _ _ _ _ _ _ q S3 ?_ L3 trivial));have aM:YO (YM Y) φ Z s t u g:=(X'.weak (λ_a=>nm)).trans (X2.weak (by simp));show aM.drop X3 λb a=>by rw[au.mp a];show .inr an
end
mutual
inductive fE(S:Nat->Prop)(H:Hp):V->V->Prop
 |none:fE S H .none .none
 |bool (b:Bool):fE S H (.bool b) (.bool b)
 |int (i:Int):fE S H (.int i) (.int i)
 |str (s:Str):fE S H (.str s) (.str s)
 |keep {i:Nat}:¬S i->fE S H (.ref i) (.ref i)
 |HP {c:Addr} {i:Nat}:¬S i->fE S H (.obj c i) (.obj c i)
 |list {i:Nat} {l ts:List V}:S i->H[i]?=Zs (.list l)->dQ S H l ts->fE S H (.ref i) (.Zo .list ts)
 |dict {i:Nat} {kvs:List (YI×V)} {ks:List YI} {ts:List V}:S i->H[i]?=Zs (.dict kvs)->kvs.map (·.1)=ks->dQ S H (kvs.map (·.2)) ts->fE S H (.ref i) (.Zo (.dict ks) ts)
 |obj {c:Addr} {i:Nat} {kvs:List (YI×V)} {names:List Str} {ts:List V}:S i->H[i]?=Zs (.dict kvs)->kvs.map (·.1)=names.map .str->dQ S H (kvs.map (·.2)) ts->fE S H (.obj c i) (.Zo (.obj c names) ts)
 |Zo {t:Zi} {l ts:List V}:dQ S H l ts->fE S H (.Zo t l) (.Zo t ts)
inductive dQ(S:Nat->Prop)(H:Hp):List V->List V->Prop
 |nil:dQ S H [] []
 |cons {v t:V} {l ts:List V}:fE S H v t->dQ S H l ts->dQ S H (v::l) (t::ts)
end
open Classical in
noncomputable def vS(S:Nat->Prop)(Y:List Addr)(Z:Zp)(h:yB):Zp:=λb=>if∃i,S i/\Y[i]?=Zs b then h.get? b else Z b
section
variable{C:Cx}{Y U:List Addr}{Z:Zp}{H:Hp}{s:bc}{S:Nat->Prop}
theorem rf(b:fX C Y Z H s):Br Z (vS S Y Z s.heap):=λa o e=>by unfold vS;split;show b.n_ a o e;show e
theorem Df(b:S i)(c:Y[i]?=Zs a):vS S Y Z s.heap a=s.heap.get? a:=by unfold vS;rw[if_pos ⟨i,b,c⟩]
theorem fE.rel(j:fX C Y Z H s)(w:∀i a,¬S i->Y[i]?=Zs a->U[i]?=Zs a)(f:fE S H v t)(r:bQ C.w Y Z v x):bQ C.w U (vS S Y Z s.heap) t x:=by
 walk_at "@C Y U Z H s S v t x|j w f r";show fE.rec (motive_1:=λv t b=>∀x,bQ C.w Y Z v x->bQ C.w U (vS S Y Z s.heap) t x) (motive_2:=λl E b=>∀xs,bF C.w Y Z l xs->bF C.w U (vS S Y Z s.heap) E xs)
   (λb r=>(show _=_ from r.inv)▸.none) (λb c r=>(show _=_ from r.inv)▸.bool _) (λb c r=>E11 r.inv λb e=>e▸.int _ _) (λb c r=>E11 r.inv λb e=>e▸.str _ _)
   (λh b r=>E12 r.inv λb e z=>e▸.ref (w _ _ h z)) (λh b r=>E23 r.inv λb c e z y=>e▸.obj (w _ _ h z) (rf j _ _ y))
   (λo p b k c r=>E12 r.inv λb e z=>E23 (j.cells _ _ _ p z) λb c g n A=>e▸.Zo (.list ((Df o z).trans g)) (k _ n))
   (λo p u b k c r=>E12 r.inv λb e z=>E36 (j.cells _ _ _ p z) λb c A g B n D m G=>e▸.Zo (.dict ((Df o z).trans g) (u▸B.mono (rf j)) (u▸D) m) (k _ n))
   (λo p u b k c r=>E23 r.inv λb c e z y=>E36 (j.cells _ _ _ p z) λb c A g B n D m G=>e▸.Zo (.obj (rf j _ _ y) ((Df o z).trans g) (u▸B.mono (rf j)) (u▸D)) (k _ n))
   (λb k c r=>E23 r.inv λb c e t n=>e▸.Zo (t.mono (rf j)) (k _ n))
   (λb r=>(show _=_ from r.inv)▸.nil) (λb c k I A r=>E23 r.inv λb c e q J=>e▸.cons (k _ q) (I _ J)) f x r
theorem dQ.rel(k:fX C Y Z H s)(m:∀i a,¬S i->Y[i]?=Zs a->U[i]?=Zs a)(f:dQ S H l h)(r:bF C.w Y Z l xs):bF C.w U (vS S Y Z s.heap) h xs:=by
 show dQ.rec (motive_1:=λb c g=>True) (motive_2:=λl h b=>∀xs,bF C.w Y Z l xs->bF C.w U (vS S Y Z s.heap) h xs) trivial (λb=>trivial) (λb=>trivial) (λb=>trivial) (λb=>trivial) (λb=>trivial) (λb c g j=>trivial) (λb c g j n=>trivial) (λb c g j n=>trivial) (λb c=>trivial)
   (λb r=>(show _=_ from r.inv)▸.nil) (λf b c o g r=>E23 r.inv λb c e q p=>e▸.cons (f.rel k m q) (o _ p)) f xs r
theorem bQ.AG(h:∀i,i<aa Y->¬S i)(r:bQ w Y Z v x):fE S H v v:=bQ.rec (motive_1:=λv a b=>fE S H v v) (motive_2:=λl a b=>dQ S H l l) .none .bool (λi a=>.int i) (λi a=>.str i) (λe=>.keep (h _ (ae.mp e).1)) (λe a=>.HP (h _ (ae.mp e).1)) (λa b=>.Zo) .nil (λa b=>.cons) r
theorem bF.AG(h:∀i,i<aa Y->¬S i)(r:bF w Y Z v x):dQ S H v v:=bF.rec (motive_1:=λv a b=>fE S H v v) (motive_2:=λl a b=>dQ S H l l) .none .bool (λi a=>.int i) (λi a=>.str i) (λe=>.keep (h _ (ae.mp e).1)) (λe a=>.HP (h _ (ae.mp e).1)) (λa b=>.Zo) .nil (λa b=>.cons) r
inductive lJ(S:Nat->Prop)(H:Hp):YF->YF->Prop
 |list {l ts:List V}:dQ S H l ts->lJ S H (.list l) (.list ts)
 |dict {kvs kts:List (YI×V)}:kvs.map (·.1)=kts.map (·.1)->dQ S H (kvs.map (·.2)) (kts.map (·.2))->lJ S H (.dict kvs) (.dict kts)
 |dead:lJ S H .dead .dead
theorem lJ.at(b:fX C Y Z H s)(k:∀i a,¬S i->Y[i]?=Zs a->U[i]?=Zs a)(h:lJ S H c p)(l:Z a=Zt->vS S Y Z s.heap a=Zt)(x:p6 C.w Y Z s.heap a c):
  p6 C.w U (vS S Y Z s.heap) s.heap a p:=by
 cases h with
 |list e=>ext x⟨f,n⟩g j z;show pF f n g (e.rel b k j) (l z)
 |dict o e=>ext x⟨f,q,n⟩g r j t m z;show J9 f q n g (o▸r.mono (rf b)) (e.rel b k j) (o▸t) m (l z)
 |dead=>trivial
noncomputable def jO(a b d:Hp):Prop:=aa d=aa a/\∀j,j<aa a->(b[j]?=a[j]?/\d[j]?=a[j]?)\/∃c e,b[j]?=Zs c/\d[j]?=Zs e/\lJ (λi=>aa a<=i) b c e
theorem jO.pure:jO a (a++ext) a:=⟨rfl,λj b=>.inl ⟨ar b,rfl⟩⟩
theorem jO.same:jO a a a:=⟨rfl,λj b=>.inl ⟨rfl,rfl⟩⟩
end
theorem vm{C:Cx}{p Y:List Addr}{v Z:Zp}{k H y:Hp}{w s:bc}(r:fX C p v k w)(S:fX C Y Z H s)(q:YO [] p v w Y Z s)(T:jO k H y):
  fX C p (vS (λi=>aa k<=i) Y Z s.heap) y s/\YO [] p v w p (vS (λi=>aa k<=i) Y Z s.heap) s:=by
 walk_at "@C p Y v Z k H y w s|r S q T"
 have I:Br Z (vS (λi=>aa k<=i) Y Z s.heap):=rf S
 have J:∀i a,¬(aa k<=i)->Y[i]?=Zs a->p[i]?=Zs a:=λi a d f=>by
  have t:i<aa p:=by rw[r.len];show ed d
  have:=q.zd i _ (ag t);rw[f] at this;rw[ag t,this]
 have L:∀j a,j<aa k->Y[j]?=Zs a->Z a=Zt->vS (λi=>aa k<=i) Y Z s.heap a=Zt:=λj a d f O=>by unfold vS;rw[if_neg];show O;intro Q;exact E12 Q λi M A=>?_;have:=(cj (ae.mp f).1 S.nodup).mp (f.trans A.symm);show RL d this M
 exact⟨⟨by rw[T.1,r.len],r.nodup,λj c a d f=>?_,λa U=>S.old a (q.zd.mem U),λa o e=>?_,λa o e=>I _ _ (S.base a o e),S.gens,S.os⟩,⟨.refl _,q.HA.trans I,λb u d f=>?_,λb h h'=>absurd h h',q.live,q.frame⟩⟩
 have B:j<aa k:=by rw[←r.len];show(ae.mp f).1
 have x:=q.zd _ _ f;rcases T.2 j B with⟨D,E⟩|⟨c1,c2,D,E,ft⟩
 rw[E] at d;have hc:=S.cells j c a (D.trans d) x;have u:=r.cells j c a d f;have N:∀i,i<aa p->¬(λi=>aa k<=i) i:=λi t=>by rw[r.len] at t;show Nat.not_le.mpr t
 exact lJ.at S J (c:=c) ?_ (L j a B x) hc;cases c with
 |list l=>ext u⟨vs,n⟩g G z;show .list (G.AG N)
 |dict kvs=>ext u⟨vs,es,n⟩g en G nd m z;show .dict rfl (G.AG N)
 |dead=>show .dead
 rw[E] at d;have a0:=Option.some.inj d;clear d;subst a0;show ft.at S J (L j a B x) (S.cells j c1 a D x)
 unfold vS at e;split at e;show e;show S.n_ a o e
 unfold vS;rw[if_neg];show q.w' b u d f;intro a1;exact E12 a1 λi M A=>?_;have hb:b∉p:=f;show q.we b (aC.mpr ⟨i,A⟩) f u d
section
variable{C:Cx}{d:Nat}{T:nu}{Q:YK}{H:Hp}
theorem uD(h:fL C d T Q H e λv c=>∃t b,fE (λi=>aa H<=i) c v t/\jO H c b/\k t b):fL C d T Q H e k:=by
 focus
  intro A Y Z s l E m S L n;exact h A Y Z s l E m S L λv c U B x s' q f g r=>E23 q λt b o p q=>E02 (vm S f g p) λu w=>n t b _ _ x s' q u w (o.rel f (λi a y z=>?_) r);have j:i<aa Y:=by rw[S.len];show ed y
  have:=g.zd i _ (ag j);rw[z] at this;rw[ag j,this]
theorem WA(h:j4 C d j H k λv c=>∃t b,fE (λi=>aa H<=i) c v t/\jO H c b/\l t b):j4 C d j H k l:=by
 focus
  intro A Y Z s xs m E n S o p;exact h A Y Z s xs m E n S o λv c U G x s' q e f r=>E23 q λt b u w q=>E02 (vm S e f w) λy z=>p t b _ _ x s' q y z (u.rel e (λi a B D=>?_) r);have g:i<aa Y:=by rw[S.len];show ed B
  have:=f.zd i _ (ag g);rw[D] at this;rw[ag g,this]
end
noncomputable def oQ(h:yB):Value->List Value->Prop
 | .none,a=>a=[]
 | .ref T,a=>a≠[]/\∃n,h.get? T=Zs (gR a n)
 |_,_=>False
structure Fn(C:Cx)(fa:Addr)(params:tI)(body:List kh)(scope:qM)(dvs:List Value):Prop where
 at_:∃name qual dV doc pm an cdv ct oc od osl,C.K.lookup fa=Zs ⟨oc,od,.func (fnOf name qual params body scope dV .none doc pm an cdv ct),osl⟩/\codeIn C.K cdv qual=true/\oQ C.h0 dV dvs
noncomputable abbrev Y8(scope:qM)(a:Str)(b:Value)(L c:Addr):nu:=newEnv scope L iN (tJ (L+1) scope.names []) a (Zs c) b Zt E_
theorem yN(h:n∉a.map (·.1)):bindL k a m n=m n:=by
 induction a generalizing m with
 |nil=>rfl
 |cons b r c=>have f:n≠b.1:=λe=>h (e▸.head _);exact(?_:bindL k r _ n=m n);rw[c λx=>h (.tail _ x)];split;show if_neg f;rfl
theorem FO(a:(c.map (·.1)).Nodup)(b:(n,v)∈c)(f:k n=Zs .local):bindL k c m n=Zs v:=by
 induction c generalizing m with
 |nil=>cases b
 |cons p r g=>
  have a:=cw.mp a;unfold bindL;rcases bb.mp b with e|b
  rw[←e] at a⊢;rw[yN a.1,if_pos f];show if_pos rfl;show g a.2 b
theorem yO(h:n∉a.map (·.1)):bindC k a m n=m n:=by
 induction a generalizing m with
 |nil=>rfl
 |cons b r c=>have f:n≠b.1:=λe=>h (e▸.head _);exact(?_:bindC k r _ n=m n);rw[c λx=>h (.tail _ x)];split;rfl;show if_neg f
theorem FP(a:(f.map (·.1)).Nodup)(c:(n,v)∈f)(g:k n≠Zs .local):bindC k f m n=Zs v:=by
 induction f generalizing m with
 |nil=>cases c
 |cons b r h=>have a:=cw.mp a;exact(((bb.mp c).elim (λe=>?_) λc=>h a.2 c):bindC k r _ n=Zs v);have i:b.1=n:=(congrArg GC e).symm;rw[←e,yO (i▸a.1),if_neg g];show if_pos rfl
set_option tactic.hygienic true in
theorem AH{w:gp}{c:List Addr}{d:Zp}{b:List String}{a:List V}{xs:List Value}{x:String}{v:V}(r:bF w c d a xs)(h:(b.zip a).lookup x=Zs v):∃y,(ah x,y)∈(b.map ah).zip xs/\bQ w c d v y:=by
 induction b generalizing a xs with
 |nil=>cases h
 |cons p b f=>
  cases a with
  |nil=>cases h
  |cons u a=>
   exact bF.eC r λy i r g=>?_;rw[vK,cq] at h;split at h
   ·rename_i e;rw[beq_iff_eq.mp e,←Option.some.inj h];show cU _ (.head _) r
   show Exists.elim (f g h) λy h=>⟨y,.tail _ h.1,h.2⟩
theorem ic.deeper(r:ic (d+1) A)(a:nu):ic d (A.deeper a):=⟨r.handled,by have:=r.depth;change A.depth+1+4*d<=900;show OQ this,by have:=r.units;change A.units+3+40*d<=9000;show Xp this⟩
theorem nJ:∀{l:List String},l.Nodup->(l.map ah).Nodup
 |[],_=>.nil
 |a::r,h=>by rw[cw] at h;rw[ck,cw];show⟨λc=>E12 (ay.mp c) (λb d e=>h.1 (lG e▸d)),nJ h.2⟩
noncomputable def PF:Fl->V->Prop
 | .ret v,u=>v=u
 | .next,u=>u= .none
 |_,_=>False
noncomputable def oR(b:tI)(c:List kh)(scope:qM)(n:Nat)(d:List String)(e f:List Value):Prop:=∀(s:bc) name g a h i j k l (xs:List Value),aa xs=n->oQ s.heap a e->BindsTo s (fnOf name g b c scope a .none h i j k l) ⟨xs,[]⟩ ((d.map ah).zip (xs++f))
theorem oQ.keeps(x:oQ h v l)(k:∀b o,h.get? b=Zs o->a.get? b=Zs o):oQ a v l:=by cases v<;>first|show x|(ext x m c;apply E11 c;intro n e;show⟨m,n,k _ _ e⟩)
@[irreducible] noncomputable def dq(C:Cx)(d:Nat)(f:Value)(H:Hp)(e:List V)(Q:V->Hp->Prop):Prop:=∀A a b s xs c,ic d A->fX C a b H s->bF C.w a b e xs->s_ C [] a b s Q (λx s'=>c (.ok (.ret x)) s')->wC (cX C.prog C.w) A (.call f ⟨xs,[]⟩) c s
theorem dq.call(h:dq C d f H a Q):gh C d f H a Q:=by
 focus
  show λA b c s xs k E e g i j=>wpAny_call (h A b c s xs _ e g i j)
theorem dq.mono(h:dq C d f H b Q)(k:∀v a,Q v a->c v a):dq C d f H b c:=by
 focus
  show λA e g s xs i j l m n=>h A e g s xs i j l m λv a o p x s' q=>n v a o p x s' (k v a q)
theorem dq.deep(h:dq C d f H a Q)(k:d<=e):dq C e f H a Q:=by
 focus
  show λA b c s xs g i j l m=>h A b c s xs g (i.mono k) j l m
section
variable{C:Cx}{d:Nat}{H:Hp}{mg mb:Str->Option Value}
theorem MR{p:Str×Addr}{l:List (Str×Addr)}(b:(l.map (·.1)).Nodup)(a:p∈l):l.lookup p.1=Zs p.2:=by
 induction l with
 |nil=>show nm a
 |cons q r c=>have b:=cw.mp b;rw[cq];exact(bb.mp a).elim (λe=>by rw[e,beq_self_eq_true]) λa=>?_;rw[beq_eq_false_iff_ne.mpr λe=>b.1 (ay.mpr ⟨p,a,e⟩)];show c b.2 a
theorem BL(e:a.map (·.1)=b.map (·.1)):(tJ k ns a).map (·.1)=(tJ f ns b).map (·.1):=by
 induction ns generalizing k f a b with
 |nil=>show e
 |cons q r c=>unfold tJ;split;show c ((congrArg _ e).trans rfl);show c e
theorem uE{w:Addr}{a4:tI}{Y:List kh}{scope:qM}{a5 J:List Value}{m B:List V}{j:List String}{Q:V->Hp->Prop}(O:fy C mg mb)(F:Fn C w a4 Y scope a5)
  (a:oR a4 Y scope (aa m) j a5 J)(he:∀i g,bF C.w i g B J)(hl:aa j=aa m+aa B)(a6:j.Nodup)
  (a7:∀x∈j,scope.names.lookup (ah x)=Zs .local\/scope.names.lookup (ah x)=Zs .cell)
  (aM:scope.isCoroutine=false)(aY:scope.isGenerator=false)(hk:scope.kind= .function)(b1:((tJ 0 scope.names []).map (·.1)).Nodup)
  (h:∀r b2 L,gM C d (Y8 scope r b2 L w) (j.zip (m++B)) H Y λf _a M=>∃v,PF f v/\Q v M):dq C (d+1) (.ref w) H m Q:=by
 focus
  intro A i g s xs R rm t rs hp;exact E11 F.at_ λname b3=>E11 b3 λr b4=>E11 b4 λdV b5=>E11 b5 λb6 b'=>E11 b' λpm bd=>E11 bd λan be=>E11 be λD bh=>E43 bh λct oc od bR hK bi bm=>?_;have bn:=t.oE _ _ (O.K _ _ hK);have bs:=O.nolimit.keeps t.oE;have a0:bF C.w i g (m++B) (xs++J):=rs.app (he i g);have ac:aa xs=aa m:=rs.length.symm;exact codeAny_call_function (rm.VE) bn rfl aM aY rfl (codeRec_of (O.K.keeps t.oE) bi) (a s name r dV b6 pm an D ct xs ac (bm.keeps t.oE) _ _ _ _ ?_);have N:((j.map ah).zip (xs++J)).map (·.1)=j.map ah:=kE (by rw[aq,hl,bC,ac,←(he i g).length];show ax _);exact wpAny_newFunctionEnv_cells hk (λx hx=>?_) λc0 bv s' k=>?_;have a1:x.1∈j.map ah:=N▸ay.mpr ⟨x,hx,rfl⟩;exact E12 (ay.mp a1) λy u e=>?_;rw[←e];rcases a7 y u with q|q
  show .inl q;show .inr ⟨q,W3 _ _ _ (.inl q)⟩;have a2:=k.toInCall.keep;exact⟨bs.keeps a2,codeAny_func ?_⟩;subst bv;have al:s'.gens=s.gens/\s'.os=s.os:=by apply E21 k.toInCall.same;intro _ _ e;rw[e];show⟨rfl,rfl⟩
  have S':=t.keeps a2 al.1 al.2;have X1:YO [] i g s i g s':=.keeps a2;have a3:∀b,s.heap.objs.size<=b->¬Al s b:=λb a ⟨o,e⟩=>v8.mpr a (d9 e);have bw:∀b,s.heap.objs.size<=b->g b=Zt:=λb a=>by
   cases e:g b with
   |none=>rfl
   |some o=>show absurd ⟨o,t.n_ _ _ e⟩ (a3 b a)
  have bA:∀b,s.heap.objs.size<=b->b∉i:=λb a hm=>a3 b a (t.old b hm);have am:∀b∈YM (Y8 scope (r++".<locals>.") D s.heap.objs.size w),s.heap.objs.size<=b/\Al s' b:=λb a=>by
   rcases bb.mp a with rfl|a
   show⟨ax _,Kl k.toInCall.ns⟩;exact E12 (ay.mp a) λp T bI=>?_;subst bI;exact⟨a_ (k.above p.1 p.2 T),?_⟩;exact E11 (by exact cU _ (MR ?_ T) rfl;rw[BL (f:=0) (b:=[]) rfl];show b1:∃c,(tJ (s.heap.objs.size+1) scope.names []).lookup p.1=Zs c/\c=p.2) ?_;intro c E;exact E02 E λE bL=>?_;subst bL;show E12 (k.cell p.1 p.2 E) λo ho _=>lC o ho
  have ap:∀x:Str,(Y8 scope (r++".<locals>.") D s.heap.objs.size w).kindOf x=scope.names.lookup x:=λ_a=>rfl;have L':dO C i g (Y8 scope (r++".<locals>.") D s.heap.objs.size w) (j.zip (m++B)) s':=by
   exact⟨hk,rfl,rfl,⟨_,k.toInCall.ns,λx v l G=>?_⟩,λn c E=>⟨_,k.cell n c E,λx v l G h3=>?_⟩,λx v l=>?_,λb a=>?_,?_⟩;show E12 (AH a0 l) λy u U=>cU y (FO (by rw[N];show nJ a6) u G) U;exact E12 (AH a0 G) λy u U=>?_;subst l;exact cU y (FP (by rw[N];show nJ a6) u (λe=>?_)) U;rw[h3] at e;cases e;exact E12 (AH a0 l) λy u U=>?_;have a1:ah x∈j.map ah:=N▸ay.mpr ⟨_,u,rfl⟩;exact E12 (ay.mp a1) λz hz e=>?_;rcases a7 z hz with q|q
   show .inl (by rw[ap,←e];show q);show .inr ⟨by rw[ap,←e];show q,by rw[←e];show W3 _ _ _ (.inl q)⟩;show E02 (am b a) λl G=>⟨bA b l,bw b l,G⟩;exact cw.mpr ⟨λhm=>?_,?_⟩;exact E12 (ay.mp hm) λp T e=>?_;have:=k.above p.1 p.2 T;rw[e] at this;show bf _ this;unfold Bn;rw[cK];show k.apart
  exact h (r++".<locals>.") D s.heap.objs.size _ i g s' _ _ (rm.deeper _) S' L' λf c1 M bN Z' x s2 q S2 X2 L2 r2=>?_;have as:YO [] i g s bN Z' s2:=X1.drop X2 λb a=>.inr (a3 b (am b a).1);exact E12 q λv I q=>?_;revert I;show xa.e r2 (λI=>hp _ _ _ _ _ _ (Eq.subst (motive:=λv=>Q v M) I q) S2 as .none) False.elim False.elim λv y r2 I=>hp _ _ _ _ _ _ (Eq.subst (motive:=λv=>Q v M) (Eq.symm I) q) S2 as r2
end
theorem YX:∀{a:List e_},a.all YL=true->(uo pos (lq a Y)).any (·.1)=false
 |[],_=>rfl
 |e::a,h=>by rw[qy,gL] at h;rw[lH h.1];exact(?_:(false||(uo pos (lq a Y)).any (·.1))=false);rw[YX h.2];rfl
theorem Zc(h:a.all YL=true):(uo pos (lq a Y)).all (λx=>!x.1)=true:=by have:=YX (Y:=Y) (pos:=pos) h;rw[List.any_eq_false] at this;rw[cT];intro x b;simpa using this x b
noncomputable def Y5(a:N_):Value->Bool
 | .builtin _=>true
 | .type _=>true
 |f=>yD a f
section
variable{C:Cx}{d:Nat}{Y:nu}{U:YK}{H:Hp}
theorem vT(a:Y5 C.K f=true)(h:yB)(b:C.K.In h):∃k,(k=Keeper.frame\/k=Keeper.machine\/k=Keeper.boundFrame)/\Looks M h (keeperOf f) k:=by
 cases f<;>first
  |show cU (.machine) (.inr (.inl rfl)) (Looks.of_pure rfl)
  |show keeps_K (K:=C.K) (f:=_) (by show a) h b
theorem uF{n o:Str->Option Value}(O:fy C n o){f:Value}(p:Y5 C.K f=true){args:List e_}{Q:V->Hp->Prop}{first:List V}{g:List Value}{A:eN}{a:List Addr}{b:Zp}{s:bc}{i:Value->bc->Prop}{E:Value->bc->Prop}{c:Pos}
  (h:wJ C d Y U H args λj z=>gh C d f z (first++j) Q)(k:args.all YL=true)(l:ic d A)(t:fX C a b H s)(L:dO C a b Y U s)(r:bF C.w a b first g)(u:s_ C [] a b s Q i):
  b8 (cX C.prog C.w) A (callWith c f g (uo c (lq args Y)) []) i E s:=by
 focus
  walk_at "@C d Y U H n o f args Q first g|O p A a b s i E c h k l t L r u";apply callWith_of (P:=C.K.In) (by rw[YX k];rfl) (vT p);have m:b8 (cX C.prog C.w) A (JK (uo c (lq args Y))) (λj v=>C.K.In v.heap/\b8 (cX C.prog C.w) A (nG f (g++j) []) i E v) E s:=h A a b s _ E c l t L λj H1 B D xs G q w y I=>⟨O.K.keeps w.oE,q A B D G (g++xs) i E l w ((r.ext y).app I) (u.trans y)⟩;cases args with
  |nil=>unfold evalArgs;exact(?_:b8 (cX C.prog C.w) A (JK (uo c (lq [] Y))>>=_) _ E s);show ao (ly m (λj s' J=>ao (az (cg (ao (az (ao (az (az J)))))))) λM N x=>x)
  |cons e T=>rw[qy,gL] at k;rw[lH k.1] at m⊢;show Fb m
theorem xh(O:fy C o p)(b:Km C Y U (.Name x c) f)(e:Y5 C.K f=true)
  (h:wJ C d Y U H args λg i=>gh C d f i g Q)(j:autoParam (args.all YL=true) aT):fL C d Y U H (.Call (.Name x c) args [] pos) Q:=by
 focus
  intro A k l s q E m a L n;show Call_ (b A k l s H _ E a L (uF O e (first:=[]) h j m a L .nil n))
noncomputable def mU(C:Cx)(H:Hp)(v:V)(name:Str)(f:Value):Prop:=∀(A:eN) (a:List Addr) (b:Zp) (s:bc) (x:Value) (d:Bk Bool) (c:Value×List Value->bc->Prop) (E:Value->bc->Prop),fX C a b H s->bQ C.w a b v x->c (f,[x]) s->b8 (cX C.prog C.w) A (getMethod x name d) c E s
theorem Ew(O:fy C M N)
  (h:fL C d Y U H o λa H1=>∃f,mU C H1 a name f/\Y5 C.K f=true/\wJ C d Y U H1 args λl m=>gh C d f m (a::l) Q)
  (b:autoParam (args.all YL=true) aT)(c:autoParam (decide (aa args<30)=true) aT)(T:autoParam ((e.endLine==pos.line)=true) aT)
  (n:autoParam (kg o name Y (eval o Y)=eval o Y) aR):fL C d Y U H (.Call (.Attribute o name e) args [] pos) Q:=by
 focus
  intro A p r s P E g t L u;rw[arm_eval_Call,n];exact ao (h A p r s _ E g t L λa H1 v w y x q i j k=>E13 q (λf z B q=>ao (gB ?_)));have D:W4 (aa args+([]:List Keyword).length) (uo pos (lq args Y)) (backToKw pos (keywordEach [] Y))=true:=by unfold W4;have G:=Zc (Y:=Y) (pos:=pos) b;have I:=of_decide_eq_true c;have:decide (aa args<30)=true:=c;simp[G,backToKw,PySem.arm_keywordEach_nil];show I
  have J:Yl true o Y e pos=pure pos:=by unfold Yl;show if_pos ∅
  unfold methodCall;rw[D];show ao (cg (z A v w x y _ _ E i k (ao (lx J (uF O B (first:=[a]) q b g i (L.ext j) (.cons k .nil) (u.trans j))))))
end
structure BM(C:Cx)(c:Addr):Prop where
 makes:makesIn C.K c=true
 ga:oe C.K (.ref c) "__getattribute__"=Zs (Zs (.builtin "object.__getattribute__"))
 gk:oe C.K (.ref c) "__getattr__"=Zs Zt
 sa:oe C.K (.ref c) "__setattr__"=Zs (Zs (.builtin "object.__setattr__"))
 over:plainOver C.K c=true
 has:hasDictIn C.K c=true
 kept:yD C.K (.ref c)=true
noncomputable abbrev vn(n:String):YI:=.str (ah n)
noncomputable def nK:List (YI×V)->YI->V->List (YI×V)
 |[],k,v=>[(k,v)]
 |(a,u)::r,k,v=>if a=k then(a,v)::r else(a,u)::nK r k v
theorem AI(h:x∈(nK l k v).map (·.1)):x=k\/x∈l.map (·.1):=by
 induction l with
 |nil=>show .inl (au.mp h)
 |cons p r a=>unfold nK at h;split at h;show .inr h;show(bb.mp h).elim (λe=>.inr (e▸.head _)) λh=>(a h).imp id (.tail _)
set_option tactic.hygienic true in
theorem qa{l:List (YI×V)}{k:YI}{v:V}(h:(l.map (·.1)).Nodup):((nK l k v).map (·.1)).Nodup:=by
 induction l with
 |nil=>show cw.mpr ⟨bq,.nil⟩
 |cons p r a=>
  unfold nK;split;show h
  ·rename_i b;have h:=cw.mp h;show cw.mpr ⟨λc=>(AI c).elim b h.1,a h.2⟩
noncomputable def YI.isStr:YI->Bool
 | .str _=>true
 |_=>false
section
variable{w:gp}{Y:List Addr}{Z:Zp}
theorem ni(r:fG Z k x)(a:k.isStr=true):x.isStr n=decide (k= .str n)/\∀b v,(⟨b,x,v⟩:DictEntry).refKey=false:=by
 cases r with
 |str s t=>exact⟨?_,λf g=>rfl⟩;exact(?_:(s==n)=_);by_cases h:s=n;subst h;simp;have c:(s==n)=false:=beq_eq_false_iff_ne.mpr h;rw[c];symm;rw[decide_eq_false_iff_not];intro e;cases e;show h rfl
 |int _ _=>cases a
 |«ints» _ _=>cases a
theorem Kq(o:s=hashStr w n)(c:df w Z (kvs.map (·.1)) k l)(f:bF w Y Z (kvs.map (·.2)) k)(g:(kvs.all λp=>p.1.isStr)=true)(r:bQ w Y Z v y):
  ∃m,df w Z ((nK kvs (.str n) v).map (·.1)) m (putL n s (.str n t) y l)/\bF w Y Z ((nK kvs (.str n) v).map (·.2)) m:=by
 induction kvs generalizing k l with
 |nil=>show E02 c.inv λe h=>⟨[y],by rw[h,o];show .cons (.str n t) .nil,.cons r .nil⟩
 |cons p kvs z=>have g:=dC.mp g;exact E44 c.inv λx u E G e h i c=>?_;exact E23 f.inv λI J A B f=>?_;have j:=List.cons.inj (A.symm.trans e);rw[h];have D:=(ni (n:=n) i g.1).1;unfold nK putL;dsimp only;rw[D];by_cases q:p.1= .str n;rw[if_pos q,if_pos (decide_eq_true q)];show cU _ (.cons i c) (.cons r (j.2▸f));rw[if_neg q,decide_eq_false q,if_neg ⋯];show E12 (z c (j.2▸f) g.2) λL a b=>⟨_,.cons i a,.cons (j.1▸B) b⟩
theorem HQ(n:Str)(b:Int)(k v:Value)(a:List DictEntry):(putL n b k v a).length<=aa a+1:=by
 induction a with
 |nil=>show ax _
 |cons e r c=>unfold putL;split;show uj _;show jv c
theorem zj(a:df w Z ks f b):(ks.all YI.isStr)=true->(b.any (·.refKey))=false:=by
 induction a with
 |nil=>show λg=>rfl
 |cons c a e=>intro h;have h:=dC.mp h;rw[Og,e h.2,Bool.or_false];show(ni (n:=default) c h.1).2 _ _
theorem HR:∀{kvs:List (YI×V)} {vs:List Value} {es:List DictEntry},df w Z (kvs.map (·.1)) vs es->bF w Y Z (kvs.map (·.2)) vs->(kvs.all λp=>p.1.isStr)=true->kvs.lookup (.str n)=Zs v->
  ∃y,getL n es=Zs (Zs y)/\bQ w Y Z v y:=by
 walk_at "@w Y Z n v"
 intro kvs vs es en rs hs hl
 suffices h:∃e,es.find? (·.key.isStr n)=Zs e/\bQ w Y Z v e.val by ext h⟨e⟩h1 h2;show cU e.val (by unfold getL;rw[h1]) h2
 induction kvs generalizing vs es with
 |nil=>cases hl
 |cons p kvs ih=>
  obtain⟨k,u⟩:=p;walk_at "@kvs vs es k u|ih en rs hs hl";cases en with
  |cons kr en=>
  walk_at "@x v_1 vs_1 es_1|kr en rs";cases rs with
  |cons ur rs=>
  rw[qy,gL] at hs;have h1:=(ni (n:=n) kr hs.1).1;rw[cq] at hl;rw[Mb];dsimp only at h1⊢;rw[h1];by_cases e:k= .str n
  ·subst e;simp only[BEq.rfl,tK,decide_true] at hl⊢;subst hl;show cU _ rfl ur
  ·have e':(YI.str n==k)=false:=beq_eq_false_iff_ne.mpr (Ne.symm e);rw[e'] at hl;rw[decide_eq_false e];show ih en rs hs.2 hl
theorem FR(b:df w Z ks i e)(a:(ks.all YI.isStr)=true)(c:YI.str n∉ks):getL n e=Zs Zt:=by
 have f:e.find? (·.key.isStr n)=Zt:=by
  induction b with
  |nil=>rfl
  |cons g b h=>rw[qy,gL] at a;rw[bb,not_or] at c;rw[Mb,(ni (n:=n) g a.1).1,decide_eq_false (Ne.symm c.1)];show h a.2 c.2
 unfold getL;rw[f,zj b a];rfl
end
theorem bQ.handed(r:bQ w Y Z v x):handedIn x=true:=by cases r<;>rfl
section
variable{C:Cx}{d:Nat}{U:nu}{T:YK}{H:Hp}{mg mb:Str->Option Value}
theorem Ex{kvs:List (YI×V)}:((kvs.map (·.1)).all YI.isStr)=(kvs.all λp=>p.1.isStr):=by rw[gN];rfl
theorem Kr(O:fy C mg mb)
  (h:fL C d U T H o λe H1=>∃c kvs v,YN H1 e=Zs (c,kvs)/\(kvs.all λp=>p.1.isStr)=true/\BM C c/\oe C.K (.ref c) name=Zs Zt/\kvs.lookup (.str name)=Zs v/\Q v H1)
  (g:autoParam (kg o name U (eval o U)=eval o U) aR):fL C d U T H (.Attribute o name pos) Q:=by
 focus
  intro A Y Z s x E i j L k;rw[arm_eval_Attribute,g];exact ao (h A Y Z s _ E i j L λe H1 z B y l q b m r=>?_);ext q⟨c,kvs,v⟩ha hs K hf hl q;apply E11 (xc b ha r);intro a;ext _⟨dx,vs,es,n⟩zq3 g1 g2 en rs nd;apply rwr zq3;apply E12 (HR en rs hs hl);intro y t f;have u:=O.K.keeps b.oE;have I:InstAt l.heap a (s9 c dx) c (Zs (Oh es n)):=⟨g1,rfl,rfl,g2⟩;exact ao (gB (ao (cg ?_)));apply get_value u I K.ga (findObj_own K.has hf rfl ((lookIn_dict name es n).trans t)) f.handed;exact ao (lz (az ?_));show k _ _ _ _ _ _ q (b.toks _) (m.trans (.toks _)) f
theorem HS(O:fy C mg mb){d:V}{name:Str}{c b:Addr}{kvs:List (YI×V)}(g:YN H d=Zs (c,kvs))(h:(kvs.all λp=>p.1.isStr)=true)(e:BM C c)
  (i:oe C.K (.ref c) name=Zs (Zs (.ref b)))(j:Oi C.K (.ref b)=Zs (.type "function"))(k:YI.str name∉kvs.map (·.1)):mU C H d name (.ref b):=by
 intro A Y Z s x o q E f r l
 apply E11 (xc f g r);intro a;ext _⟨dx,vs,es,n⟩rfl g1 g2 en rs nd
 have m:=O.K.keeps f.oE
 have I:InstAt s.heap a (s9 c dx) c (Zs (Oh es n)):=⟨g1,rfl,rfl,g2⟩
 exact method_fn m I e.ga e.gk i j ?_ l
 exact(?_:(lookIn name (Oh es n)).map (·.isSome)=Zs false)
 rw[lookIn_dict,FR en (by rw[Ex];show h) k];rfl
theorem Dg(O:fy C mg mb){c:Addr}{i:Nat}{name:Str}{v:V}{kvs:List (YI×V)}{Q:Hp->Prop}(m:BM C c)(z:oe C.K (.ref c) name=Zs Zt)(o:H[i]?=Zs (.dict kvs))
  (q:(kvs.all λp=>p.1.isStr)=true)(B:decide (kvs.length<=900)=true)(h:Q (H.set i (.dict (nK kvs (.str name) v)))):Es C d (λxs=>match xs with|[x,y]=>setAttr x name y|_=>pure ()) H [.obj c i,v] Q:=by
 focus
  walk_at "@C d H mg mb c i name v kvs Q|O m z o q B h";intro A Y Z s xs N E T j D G;walk_at "@A Y Z s xs N E|T j D G";exact bF.e2 D λx y U r2=>?_;exact bQ.VC U λk a J L=>?_;apply E36 (j.cells i _ k o J);intro vs f n g l vr nd a0 M;have r:=O.K.keeps j.oE;have I:InstAt s.heap a (s9 c k) c (Zs (Oh f n)):=⟨j.n_ _ _ L,rfl,rfl,g⟩;have ht:takerIn C.K c name=Zs Zt:=by unfold takerIn;rw[z];rfl
  have a1:f.length<=900:=by have:=l.length;have:=of_decide_eq_true B;rw[←l.length.2,←l.length.1,aq];show this
  exact set_plain r I m.sa (osa_open (s:={s with toks:=s.toks+1}) r I m.over ht λb=>?_);apply E12 (any_some m.has);intro cd hc a2;have e:=putName_dict name (l6 C.w.params name) (.str name (s.toks+1)) y f n;have u:(s.heap.update k (Wd name (l6 C.w.params name) (.str name (s.toks+1)) y)).get? k=Zs (Oh (putL name (l6 C.w.params name) (.str name (s.toks+1)) y f) (putN name f n)):=by rw[gH _ g (by rw[e];rfl),e]
  exact ao (az (ao (ao (W5 (j.n_ _ _ L) (ao (Looks.here (s:={s with toks:=s.toks+1}) (looks_clsIn r hc) ?_))))));rw[a2];exact az (a:=Zs k) (ao (az (ao ?_)));unfold nsSet;exact ao (ao (wpAny_askSetting (az (ao (wpAny_mkText (ao (W5 g ?_)))))));have cc:(!f.toArray.any (·.key.isStr name)&&f.toArray.any (·.refKey))=false:=by rw[←w7,←w7,zj l (by rw[Ex];show q),NL]
  dsimp only;rw[aRefKeyMayBeTheName_at,cc];apply wpAny_updatePart g;exact ao (wpAny_lookBehind u (pastItsLine_dict (by have:=HQ name (l6 C.w.params name) (.str name (s.toks+1)) y f;rw[eI,sizeLine_eq];show af this (bp (af a1 ⋯) _))) ?_);exact az ?_;apply E12 (Kq (w:=C.w) (n:=name) (s:=l6 C.w.params name) (t:=s.toks+1) rfl l vr q r2);intro a3 p1 p2;exact E02 (j.write (t:=s.toks+1+1) (c:=.dict (nK kvs (.str name) v)) (f:=s.heap.update k (Wd name (l6 C.w.params name) (.str name (s.toks+1)) y)) (ae.mp o).1 J (.update _ _ _) M
   ⟨a3,_,_,u,p1,p2,qa nd,a0,M⟩ ⟨_,u⟩) ?_;intro S2 X2
  show G _ _ _ _ h S2 X2
theorem qb(O:fy C mg mb)(a:fX C Y Z H s):s.heap.objs.size≠sysModules:=by apply E22 O.sys;intro b o c e;have f:b<s.heap.objs.size:=d9 (a.oE b o e);show(bj (aZ c f)).symm
theorem nL(O:fy C mg mb)(n:BM C c)(p:oe C.K (.ref c) "__init__"=Zs (Zs (.ref i)))(u:Oi C.K (.ref i)=Zs (.type "function"))
  (h:dq C d (.ref i) (H++[.dict []]) (.obj c (aa H)::y) λv j=>v= .none/\Q (.obj c (aa H)) j):dq C (d+1) (.ref c) H y Q:=by
 focus
  intro A Y Z s xs R e b B D;have f:=O.K.keeps b.oE;apply E02 (b.alloc (o:=emptyDict) (c:=.dict []) rfl λh' g z=>⟨[],[],0,g,.nil,.nil,.nil,qb O b,z⟩);intro E G;apply E02 (E.C_ (o:=instObj c s.heap.objs.size) rfl);intro I J;have k:=G.trans J;obtain⟨a,g,dr,t,os⟩:=s;apply make_core (makes_of f n.makes) (looks_findIn f p) (λL=>bind_fn f L u) (.inl rfl);have M:(Y++[a.objs.size])[aa H]?=Zs a.objs.size:=by rw[←b.len];show sS
  have l:bQ C.w (Y++[a.objs.size]) (p7 Z (a.push emptyDict).objs.size (instObj c a.objs.size)) (.obj c (aa H)) (.ref (a.objs.size+1)):= .obj M (by rw[Heap.size_push];show pG _ _ _);have N:ic d (A.under (.builtin "type.__call__" ⟨.ref c::xs,[]⟩)):=⟨e.handled,by have:=e.depth;rw[depth_under_make];show OQ this,by have:=e.units;rw[units_under_make];show OP this⟩;exact h _ _ _ _ _ _ N I (.cons l (B.ext k)) λv j a0 Z' x s' q S' m r=>?_;ext q rfl q;apply bQ.Hz r;clear r;show⟨rfl,D _ _ _ _ _ _ q S' (k.trans m) (l.ext m)⟩
end
noncomputable abbrev xi(a:Operator):List Value->Bk Value:=λxs=>match xs with|[x,y]=>jJ a x y|_=>pure .none
noncomputable abbrev AJ(a:WW):List Value->Bk Value:=λxs=>match xs with|[x,y]=>eZ a x y|_=>pure .none
noncomputable abbrev Yr(a:UnaryOp):List Value->Bk Value:=λxs=>match xs with|[x]=>unaryOp a x|_=>pure .none
section
variable{C:Cx}{d:Nat}{Y:nu}{U:YK}{H:Hp}
theorem eK{f:Value->Value->Bk Value}{i:List Value->Bk Value}{Q:V->Hp->Prop}(j:autoParam (∀x y,i [x,y]=f x y) aI2)
  (h:∀A c e s x y g E,ic d A->fX C c e H s->bQ C.w c e a x->bQ C.w c e b y->s_ C [] c e s Q g->b8 (cX C.prog C.w) A (f x y) g E s):j4 C d i H [a,b] Q:=by
 focus
  intro A c e s xs g E k l m n;exact bF.e2 m λx y o p=>?_;rw[j];show h A c e s _ _ g E k l o p n
theorem kc{f:Value->Bk Value}{i:List Value->Bk Value}{Q:V->Hp->Prop}(j:autoParam (∀x,i [x]=f x) aI)
  (h:∀A c e s x g E,ic d A->fX C c e H s->bQ C.w c e a x->s_ C [] c e s Q g->b8 (cX C.prog C.w) A (f x) g E s):j4 C d i H [a] Q:=by
 focus
  intro A c e s xs g E k l m n;exact bF.e1 m λx o=>?_;rw[j];show h A c e s _ g E k l o n
variable{a b:Int}{Q:V->Hp->Prop}
theorem AK(h:Q (.int (a+b)) H):j4 C d (xi .Add) H [.int a,.int b] Q:=by
 focus
  show eK (f:=jJ .Add) (h:=λA j k s x y l E m g c e i=>by apply bQ.gr c;clear c;intro _;apply bQ.gr e;clear e;intro _;show add_int (i _ _ _ _ _ _ h (g.toks _) (.toks _) (.int _ _)))
theorem xj(h:Q (.int (a - b)) H):j4 C d (xi .Sub) H [.int a,.int b] Q:=by
 focus
  show eK (f:=jJ .Sub) (h:=λA j k s x y l E m g c e i=>by apply bQ.gr c;clear c;intro _;apply bQ.gr e;clear e;intro _;show sub_int (i _ _ _ _ _ _ h (g.toks _) (.toks _) (.int _ _)))
theorem Dh(g:IntMulOk a b)(h:Q (.int (a*b)) H):j4 C d (xi .Mult) H [.int a,.int b] Q:=by
 focus
  show eK (f:=jJ .Mult) (h:=λA k l s x y m E n i c e j=>by apply bQ.gr c;clear c;intro _;apply bQ.gr e;clear e;intro _;show PySem.P.mul_int (j _ _ _ _ _ _ h (i.toks _) (.toks _) (.int _ _)) g)
theorem MS(g:b≠0)(h:Q (.int (a.fmod b)) H):j4 C d (xi .Mod) H [.int a,.int b] Q:=by
 focus
  show eK (f:=jJ .Mod) (h:=λA k l s x y m E n i c e j=>by apply bQ.gr c;clear c;intro _;apply bQ.gr e;clear e;intro _;show mod_int' g (j _ _ _ _ _ _ h (i.toks _) (.toks _) (.int _ _)))
theorem BN(g:b≠0)(i:b.natAbs<1073741824)(h:Q (.int (a.fdiv b)) H):j4 C d (xi .FloorDiv) H [.int a,.int b] Q:=by
 focus
  show eK (f:=jJ .FloorDiv) (h:=λA l m s x y n E o j c e k=>by apply bQ.gr c;clear c;intro _;apply bQ.gr e;clear e;intro _;show floordiv_int g (k _ _ _ _ _ _ h (j.toks _) (.toks _) (.int _ _)) (.inl (PyProof.noPylong_small i)))
theorem HT(g:0<=b)(i:b<=1000000)(j:a.natAbs<2^64)(h:Q (.int (a^b.toNat)) H):j4 C d (xi .Pow) H [.int a,.int b] Q:=by
 focus
  show eK (f:=jJ .Pow) (h:=λA m n s x y o E p k c e l=>by apply bQ.gr c;clear c;intro _;apply bQ.gr e;clear e;intro _;show pow_int_small g i j (l _ _ _ _ _ _ h (k.toks _) (.toks _) (.int _ _)))
theorem MT(g:0<=b)(i:b<=1000000)(j:a.natAbs<2^64)(h:Q (.int (a*2^b.toNat)) H):j4 C d (xi .LShift) H [.int a,.int b] Q:=by
 focus
  show eK (f:=jJ .LShift) (h:=λA m n s x y o E p k c e l=>by apply bQ.gr c;clear c;intro _;apply bQ.gr e;clear e;intro _;show lshift_int_small g i j (l _ _ _ _ _ _ h (k.toks _) (.toks _) (.int _ _)))
theorem MU(g:0<=b)(h:Q (.int (a.fdiv (2^b.toNat))) H):j4 C d (xi .RShift) H [.int a,.int b] Q:=by
 focus
  show eK (f:=jJ .RShift) (h:=λA k l s x y m E n i c e j=>by apply bQ.gr c;clear c;intro _;apply bQ.gr e;clear e;intro _;show rshift_int g (j _ _ _ _ _ _ h (i.toks _) (.toks _) (.int _ _)))
theorem MV(h:Q (.int (sN a b)) H):j4 C d (xi .BitAnd) H [.int a,.int b] Q:=by
 focus
  show eK (f:=jJ .BitAnd) (h:=λA j k s x y l E m g c e i=>by apply bQ.gr c;clear c;intro _;apply bQ.gr e;clear e;intro _;show and_int (i _ _ _ _ _ _ h (g.toks _) (.toks _) (.int _ _)))
theorem PG(h:Q (.int (Ak a b)) H):j4 C d (xi .BitOr) H [.int a,.int b] Q:=by
 focus
  show eK (f:=jJ .BitOr) (h:=λA j k s x y l E m g c e i=>by apply bQ.gr c;clear c;intro _;apply bQ.gr e;clear e;intro _;show or_int (i _ _ _ _ _ _ h (g.toks _) (.toks _) (.int _ _)))
theorem Di(m n:Nat):sN (m:Int) (n:Int)=((m&&&n:Nat):Int):=by unfold sN;rfl
theorem FT(m n:Nat):Ak (m:Int) (n:Int)=((m|||n:Nat):Int):=by
 have a:∀k:Nat,og (og (k:Int))=k:=λk=>by unfold og;show Sd
 have b:∀k:Nat,decide (0<=og (k:Int))=false:=λk=>decide_eq_false (by unfold og;show Se);unfold Ak sN;rw[b,b];dsimp only;rw[a,a,a];simp
theorem Ks(m n:Nat):(m:Int).fdiv (2^(n:Int).toNat)=((m>>>n:Nat):Int):=by have a:(0:Int)<=2^n:=iw (Int.pow_pos ⋯);rw[gw,Bw _ a,pW];simp
theorem AL(h:Q (.int ((m&&&n:Nat):Int)) H):j4 C d (xi .BitAnd) H [.int m,.int n] Q:=by
 focus
  show MV (by rw[Di];show h)
theorem kN(h:Q (.int ((m|||n:Nat):Int)) H):j4 C d (xi .BitOr) H [.int m,.int n] Q:=by
 focus
  show PG (by rw[FT];show h)
theorem uG{m n:Nat}(h:Q (.int ((m>>>n:Nat):Int)) H):j4 C d (xi .RShift) H [.int m,.int n] Q:=by
 focus
  show MU Jy (by rw[Ks];show h)
theorem Kt(c:m<2^64)(e:n<=1000000)(h:Q (.int ((m<<<n:Nat):Int)) H):j4 C d (xi .LShift) H [.int m,.int n] Q:=by
 focus
  show MT Jy (Yz rfl rfl e) (by simpa using c) (by rw[gw,Nat.shiftLeft_eq] at*;simpa using h)
theorem oI(h:Q (.int ((m+n:Nat):Int)) H):j4 C d (xi .Add) H [.int m,.int n] Q:=by
 focus
  show AK (by rw[←Int.natCast_add];show h)
theorem mD{c:Type}[BEq c][LawfulBEq c][DecidableEq c](a b:c):(a==b)=decide (a=b):=by by_cases h:a=b;subst h;simp;rw[decide_eq_false h];show beq_eq_false_iff_ne.mpr h
theorem Ku{c:Type}[BEq c][LawfulBEq c][DecidableEq c](a b:c):(a !=b)=decide (a≠b):=by rw[bne,mD,decide_not]
theorem qC(h:Q (.bool (decide (a<b))) H):j4 C d (AJ .Lt) H [.int a,.int b] Q:=by
 focus
  show eK (f:=eZ .Lt) (h:=λA j k s x y l E m g c e i=>by apply bQ.gr c;clear c;intro _;apply bQ.gr e;clear e;intro _;show JS (i _ _ _ _ _ _ h g (.refl _ _ _ _) (.bool _)))
theorem WB(h:Q (.bool (decide (a<=b))) H):j4 C d (AJ .LtE) H [.int a,.int b] Q:=by
 focus
  show eK (f:=eZ .LtE) (h:=λA j k s x y l E m g c e i=>by apply bQ.gr c;clear c;intro _;apply bQ.gr e;clear e;intro _;show PySem.P.le_int (i _ _ _ _ _ _ h g (.refl _ _ _ _) (.bool _)))
theorem BO(h:Q (.bool (decide (a>b))) H):j4 C d (AJ .Gt) H [.int a,.int b] Q:=by
 focus
  show eK (f:=eZ .Gt) (h:=λA j k s x y l E m g c e i=>by apply bQ.gr c;clear c;intro _;apply bQ.gr e;clear e;intro _;show PySem.P.gt_int (i _ _ _ _ _ _ h g (.refl _ _ _ _) (.bool _)))
theorem BP(h:Q (.bool (decide (a>=b))) H):j4 C d (AJ .GtE) H [.int a,.int b] Q:=by
 focus
  show eK (f:=eZ .GtE) (h:=λA j k s x y l E m g c e i=>by apply bQ.gr c;clear c;intro _;apply bQ.gr e;clear e;intro _;show PySem.P.ge_int (i _ _ _ _ _ _ h g (.refl _ _ _ _) (.bool _)))
theorem rh(h:Q (.bool (decide (a=b))) H):j4 C d (AJ .Eq) H [.int a,.int b] Q:=by
 focus
  show eK (f:=eZ .Eq) (h:=λA j k s x y l E m g c e i=>by apply bQ.gr c;clear c;intro _;apply bQ.gr e;clear e;intro _;show PySem.P.eq_int (i _ _ _ _ _ _ (by rw[mD];show h) g (.refl _ _ _ _) (.bool _)))
theorem xk(h:Q (.bool (decide (a≠b))) H):j4 C d (AJ .NotEq) H [.int a,.int b] Q:=by
 focus
  show eK (f:=eZ .NotEq) (h:=λA j k s x y l E m g c e i=>by apply bQ.gr c;clear c;intro _;apply bQ.gr e;clear e;intro _;show PySem.P.ne_int (i _ _ _ _ _ _ (by rw[Ku];show h) g (.refl _ _ _ _) (.bool _)))
theorem AM(h:fL C d Y U H e λv c=>∃i,v= .int i/\Q (.int (-i)) c):fL C d Y U H (.UnaryOp .USub e pos) Q:=by
 focus
  intro A f g s o E j k L l;rw[arm_eval_UnaryOp];exact ao (h A f g s _ E j k L λv c p t x s' q m n r=>?_);ext q⟨i⟩rfl q;apply bQ.gr r;clear r;intro _;show ao (gB (cg (PySem.P.neg_int (l _ _ _ _ _ _ q (m.toks _) (n.trans (.toks _)) (.int _ _)))))
end
open PySem.SeqAt
structure Y9(C:Cx){Y:Type}[DecidableEq Y](f:Y->V):Prop where
 eq:∀{A:eN} {φ:List Addr} {Z:Zp} {H:Hp} {s:bc} {a b:Y} {x y:Value},A.units+3<mP->fX C φ Z H s->bQ C.w φ Z (f a) x->bQ C.w φ Z (f b) y->EqAt A s x y (decide (a=b))
 inj:∀{φ:List Addr} {Z:Zp} {a b:Y} {x:Value},bQ C.w φ Z (f a) x->bQ C.w φ Z (f b) x->a=b
section
variable{C:Cx}
theorem Ey:Y9 C V.int:=⟨λf g a b=>by apply bQ.gr a;clear a;intro _;apply bQ.gr b;clear b;intro _;rw[←mD];show Qy _ _ _ _,λc d=>by apply E11 c.inv;intro _ e;apply E11 d.inv;intro _ e';show(Value.int.inj (e.symm.trans e')).1⟩
theorem HU:Y9 C V.bool:=⟨λe f a b=>by apply bQ.vR a;clear a;apply bQ.vR b;clear b;rw[←mD];show EqAt.bool_bool _ _,λc d=>Value.bool.inj (c.inv.symm.trans d.inv)⟩
theorem jE:Y9 C V.str:=⟨λf g a b=>by apply bQ.FA a;clear a;intro _;apply bQ.FA b;clear b;intro _;rw[←mD];show EqAt.str_str _ _ _ _,λc d=>by apply E11 c.inv;intro _ e;apply E11 d.inv;intro _ e';show(Value.str.inj (e.symm.trans e')).1⟩
theorem qc{Y:Type}[DecidableEq Y]:∀(l a:List Y),aa l=aa a->(aJ (aa l)).all (λj=>decide (l[j]?=a[j]?))=decide (l=a)
 |l,a,h=>by rw[nY,cT,decide_eq_true_iff];constructor;intro k;apply dJ;intro i;by_cases b:i<aa l;show of_decide_eq_true (k i (cf.mpr b));rw[cH (bS b),cH (Sf h b)];rintro rfl i _;show if_pos rfl
theorem bF.r_{w:gp}{b:List Addr}{c:Zp}{Y:Type}{f:Y->V}{l:List Y}{xs:List Value}(r:bF w b c (l.map f) xs){j:Nat}(h:j<xs.toArray.size):∃a,l[j]?=Zs a/\bQ w b c (f a) xs.toArray[j]:=by
 have d:=r.length;rw[aq] at d;have i:j<l.length:=by rw[d];trivial
 exact E12 (r.get (k:=j) (v:=f l[j]) (mX ∅)) λx e g=>cU (l[j]) (ag _) ?_;have:xs.toArray[j]=x:=by
  have:xs[j]'(by trivial)=x:=by simpa[ag (show j<xs.length by trivial)] using e
  simpa using this
 rw[this];show g
theorem HV{w:gp}{d v:List Addr}{g:Zp}{Y:Type}[DecidableEq Y]{f:Y->V}(j:∀{a b:Y} {x:Value},bQ w d g (f a) x->bQ w d g (f b) x->a=b){l c:List Y}{xs:List Value}(h:bF w d g (l.map f) xs)(i:bF w d g (c.map f) xs):l=c:=by
 induction l generalizing c xs with
 |nil=>
  cases c with
  |nil=>rfl
  |cons b c=>show E23 i.inv λk m e y z=>absurd (e.symm.trans h.inv) (qU _ _)
 |cons a l n=>
  exact E23 h.inv λx A e r o=>?_;cases c with
  |nil=>show absurd (e.symm.trans i.inv) (qU _ _)
  |cons b c=>show E23 i.inv λk m p q s=>E02 (List.cons.inj (e.symm.trans p)) λt u=>congr (congrArg List.cons (j r (t▸q))) (n o (u▸s))
set_option tactic.hygienic true in
theorem Ez{w:gp}{c:List Addr}{g:Zp}{a b:List Int}{x:Value}(d:bQ w c g (V.Zo .tup (a.map .int)) x)(f:bQ w c g (V.Zo .tup (b.map .int)) x):a=b:=by
 walk_at "@w c g a b x|d f";rcases d with _|_|_|_|_|_|⟨j,k⟩
 rcases f with _|_|_|_|_|_|⟨l,m⟩
 rename_i r n p;cases j with
 |tup q=>cases l with
 |tup i=>
 rw[q] at i;have e:n=p:=by have h:=congrArg (λo:Option Obj=>o.map (·.data)) i;simp only[yu,tK,Data.seq.injEq] at h;have:=congrArg Array.toList h.1;simpa using this
 subst e;show HV (v:=c) (λ{a b x} d f=>by cases(d);cases(f);rfl) k m
set_option tactic.hygienic true in
theorem Kv:Y9 C (λl:List Int=>V.Zo .tup (l.map .int)):=by
 walk_at "@C";exact⟨?_,Ez⟩;intro A L M H s a b x y o i p q;walk_at "@A L M H s a b x y|o i p q";rcases p with _|_|_|_|_|_|⟨r,f⟩
 rcases q with _|_|_|_|_|_|⟨t,g⟩
 rename_i k c m d;walk_at "@k c m d|r f t g";cases r with
 |tup w=>cases t with
 |tup z=>
 have N:=i.n_ _ _ w;have O:=i.n_ _ _ z;by_cases B:k=m;subst B;have:a=b:=Ez (.Zo (.tup w) f) (.Zo (.tup z) g);rewrite[this];rw[decide_eq_true rfl];show EqAt.same _;apply EqAt.of_refs B;have Q:s.heap.IsTuple k c.toArray:=⟨_,N,rfl,_,rfl⟩;have T:s.heap.IsTuple m d.toArray:=⟨_,O,rfl,_,rfl⟩;have D:=RcAt.tuples (A:=A) (s:=s) (e:=λj=>decide (a[j]?=b[j]?)) Q T (aZ (aW _ 3) o) λj U Y=>by
  exact E12 (f.r_ U) λu e1 E=>E12 (g.r_ Y) λv e2 G=>?_;rw[e1,e2];generalize c.toArray[j]=x at E;generalize d.toArray[j]=y at G;exact bQ.gr E λ_=>bQ.gr G λ_=>?_;have e:decide (Zs u=Zs v)=(u==v):=by rw[mD];simp
  rw[e];show Qy _ _ _ _
 have I:=f.length;have J:=g.length;rw[aq] at I J;have e:((aJ (min c.toArray.size d.toArray.size)).all (λj=>decide (a[j]?=b[j]?))&&c.toArray.size==d.toArray.size)=decide (a=b):=by simp only[eI,←I,←J];by_cases n:a.length=b.length;rw[←n,Rh,qc _ _ n];simp;have:¬a=b:=λh=>n (by rw[h]);rw[decide_eq_false this];have:(a.length==b.length)=false:=if_neg ∅;rw[this,NL]
 rw[e] at D;show D
end
section
variable{C:Cx}{d:Nat}{H:Hp}{Y:Type}[DecidableEq Y]{f:Y->V}
theorem ic.MW(r:ic d A):A.units+4<mP:=by have:=r.units;have e:mP=9900:=rfl;show(e▸aZ (bp (aV this) 4) ⋯)
theorem te(m:Y9 C f){A:eN}{c:List Addr}{d:Zp}{s:bc}{l e:List Y}{a b:List Value}(n:A.units+4<mP)(o:fX C c d H s)(g:bF C.w c d (l.map f) a)(h:bF C.w c d (e.map f) b):
  (∀j (y:j<a.toArray.size) (z:j<b.toArray.size),EqAt A.in1 s a.toArray[j] b.toArray[j] (decide (l[j]?=e[j]?)))/\a.toArray.size=l.length/\b.toArray.size=e.length:=by
 have i:=g.length
 have k:=h.length
 rw[aq] at i k
 exact⟨λj p q=>E12 (g.r_ p) (λu r t=>E12 (h.r_ q) (λv w x=>?_)),by simpa using i.symm,(k.symm)⟩
 rw[r,w]
 have:=m.eq (A:=A.in1) (by change A.units+1+3<mP;show n) o t x
 simpa using this
theorem Dj(t:Y9 C f){l c:List Y}{v o:V}{Q:V->Hp->Prop}(u:YJ H v=Zs (.list (l.map f)))(w:YJ H o=Zs (.list (c.map f)))(h:Q (.bool (decide (l=c))) H):j4 C d (AJ .Eq) H [v,o] Q:=by
 focus
  show eK (f:=eZ .Eq) (h:=λA φ Z s x y P E i b z B D=>by exact E33 (dE b u z) λa G n I g J=>rwr I (E33 (dE b w B) (λL M n' N O T=>rwr N (E03 (te t i.MW b J T) (λU j p=>?_))));have q:s.heap.IsList a G.toArray:=⟨_,g,rfl,_,rfl⟩;have r:s.heap.IsList L M.toArray:=⟨_,O,rfl,_,rfl⟩;have k:=D _ _ _ _ _ _ h b (.refl _ _ _ _) (.bool _);by_cases m:aa l=aa c;apply eq_listAt q r (by rw[j,p,m]) i.BF U;rw[j,qc _ _ m];show k;apply eq_list_lengthsAt q r (by rw[j,p];show Kf ∅) i.BF;rw[decide_eq_false (λe=>m (by rw[e]))] at k;show k)
theorem jP(t:Y9 C f){l b:List Y}{v o:V}{Q:V->Hp->Prop}(u:YJ H v=Zs (.list (l.map f)))(w:YJ H o=Zs (.list (b.map f)))(h:Q (.bool (decide (l≠b))) H):j4 C d (AJ .NotEq) H [v,o] Q:=by
 focus
  show eK (f:=eZ .NotEq) (h:=λA φ Z s x y P E i c z B D=>by exact E33 (dE c u z) λa G n I g J=>rwr I (E33 (dE c w B) (λL M n' N O T=>rwr N (E03 (te t i.MW c J T) (λU j p=>?_))));have q:s.heap.IsList a G.toArray:=⟨_,g,rfl,_,rfl⟩;have r:s.heap.IsList L M.toArray:=⟨_,O,rfl,_,rfl⟩;have k:=D _ _ _ _ _ _ h c (.refl _ _ _ _) (.bool _);by_cases m:aa l=aa b;apply RcNeAt.lists q r (by rw[j,p,m]) i.BF U _ _ _ _;rw[j,qc _ _ m,←decide_not];show k;apply RcNeAt.lists_lengths q r (by rw[j,p];show Kf ∅) i.BF _ _ _ _;have e:decide (l≠b)=true:=decide_eq_true (λe=>m (by rw[e]));rw[e] at k;show k)
open Classical in
noncomputable def FU(w:gp)(a:List Addr)(b:Zp)(v:V)(y:Value):Bool:=if bQ w a b v y then true else false
theorem pJ(m:Y9 C f){A:eN}{d:List Addr}{g:Zp}{s:bc}{l:List Y}{a:Y}{x:Value}{c:List Value}(p:A.units+4<mP)(t:fX C d g H s)(r:bQ C.w d g (f a) x)(i:bF C.w d g (l.map f) c):
  (∀y,y∈c.toArray->EqAt A.in1 s y x (FU C.w d g (f a) y))/\c.toArray.any (FU C.w d g (f a))=decide (a∈l):=by
 have n:∀b y,bQ C.w d g (f b) y->FU C.w d g (f a) y=decide (b=a):=λb y h=>by unfold FU;by_cases e:b=a;rewrite[←e];rw[if_pos h];simp;rw[if_neg (λu=>e (m.inj h u)),decide_eq_false e]
 constructor
 intro y k;have k:y∈c:=by simpa using k
 exact E11 (aC.mp k) λj o=>?_;have v:j<c.toArray.size:=((ae.mp o).1);exact E12 (i.r_ v) λb B q=>?_;have w:c.toArray[j]=y:=by simpa using(ae.mp o).2
 rw[w] at q;rw[n b y q];show m.eq (A:=A.in1) (by change A.units+1+3<mP;show p) t q r
 rw[←w7];exact(?_:c.any _=_);clear r;induction l generalizing c with
 |nil=>apply bF.e0 i;clear i;rfl
 |cons b l z=>
  rw[ck] at i;cases i with|cons q i=>
  rw[Og,n b _ q,z i];by_cases e:b=a;rewrite[e];simp;rw[decide_eq_false e,Bool.false_or];have:a∈b::l↔a∈l:=by simp[Ne.symm e]
  simp[this]
theorem Dk(e:Y9 C f){l:List Y}{a:Y}{v u:V}{Q:V->Hp->Prop}(i:u=f a)(j:YJ H v=Zs (.list (l.map f)))(h:Q (.bool (decide (a∈l))) H):j4 C d (AJ .In) H [u,v] Q:=by
 focus
  show eK (f:=eZ .In) (h:=λA z B s x y D E k c m o p=>by subst i;exact E33 (dE c j o) λb G n q g r=>?_;subst q;exact E02 (pJ e k.MW c m r) λt w=>?_;show in_listAt _ ⟨_,g,rfl,_,rfl⟩ t (by rw[w];show p _ _ _ _ _ _ h c (.refl _ _ _ _) (.bool _)))
theorem kz(e:Y9 C f){l:List Y}{a:Y}{v u:V}{Q:V->Hp->Prop}(i:u=f a)(j:YJ H v=Zs (.list (l.map f)))(h:Q (.bool (decide (a∉l))) H):j4 C d (AJ .NotIn) H [u,v] Q:=by
 focus
  show eK (f:=eZ .NotIn) (h:=λA z B s x y D E k c m o p=>by subst i;exact E33 (dE c j o) λb G n q g r=>?_;subst q;exact E02 (pJ e k.MW c m r) λt w=>?_;show notIn_listAt _ ⟨_,g,rfl,_,rfl⟩ t (by rw[w,←decide_not];show p _ _ _ _ _ _ h c (.refl _ _ _ _) (.bool _)))
theorem FV(e:Y9 C f){l:List Y}{a:Y}{c:List V}{u:V}{Q:V->Hp->Prop}(g:u=f a)(i:c=l.map f)(h:Q (.bool (decide (a∈l))) H):j4 C d (AJ .In) H [u,.Zo .tup c] Q:=by
 focus
  show eK (f:=eZ .In) (h:=λA t v s x y w E j b k m o=>by subst g i;exact bQ.Ay m λa B n z p=>E02 (pJ e j.MW b k p) λq r=>?_;show in_tupleAt _ ⟨_,b.n_ _ _ z,rfl,_,rfl⟩ q (by rw[r];show o _ _ _ _ _ _ h b (.refl _ _ _ _) (.bool _)))
theorem AN(e:Y9 C f){l:List Y}{a:Y}{c:List V}{u:V}{Q:V->Hp->Prop}(g:u=f a)(i:c=l.map f)(h:Q (.bool (decide (a∉l))) H):j4 C d (AJ .NotIn) H [u,.Zo .tup c] Q:=by
 focus
  show eK (f:=eZ .NotIn) (h:=λA t v s x y w E j b k m o=>by subst g i;exact bQ.Ay m λa B n z p=>E02 (pJ e j.MW b k p) λq r=>?_;show notIn_tupleAt _ ⟨_,b.n_ _ _ z,rfl,_,rfl⟩ q (by rw[r,←decide_not];show o _ _ _ _ _ _ h b (.refl _ _ _ _) (.bool _)))
theorem FW(h:Q (.bool (decide (a=b))) H):j4 C d (AJ .Eq) H [.str a,.str b] Q:=by
 focus
  show eK (f:=eZ .Eq) (h:=λA j k s x y l E m c e g i=>by exact bQ.FA e λ_=>bQ.FA g λ_=>?_;show wD (RcAt.str_str _ _ _ _) (i _ _ _ _ _ _ (by rw[mD];show h) c (.refl _ _ _ _) (.bool _)))
noncomputable def wM:V->Bool
 | .none=>true
 |_=>false
theorem xl(r:bQ w c Z v x):(x==j8)=wM v:=bQ.casesOn (motive_1:=λv x a=>(x==j8)=wM v) r rfl (λa=>rfl) (λa b=>rfl) (λa b=>rfl) (λa=>rfl) (λa b=>rfl) (λa b=>rfl)
theorem Dl(h:Q (.bool (wM v)) H):j4 C d (AJ .Is) H [v,.none] Q:=by
 focus
  show eK (f:=eZ .Is) (h:=λA i j s x y k E l a b c g=>by exact bQ.Hz c (is_none ?_);have e:=xl b;rw[e];show g _ _ _ _ _ _ h a (.refl _ _ _ _) (.bool _))
theorem tf(h:Q (.bool (!wM v)) H):j4 C d (AJ .IsNot) H [v,.none] Q:=by
 focus
  show eK (f:=eZ .IsNot) (h:=λA i j s x y k E l a b c g=>by exact bQ.Hz c (isNot_none ?_);have e:=xl b;rw[e];show g _ _ _ _ _ _ h a (.refl _ _ _ _) (.bool _))
end
noncomputable abbrev vU(a:e_):List Value->Bk Value:=λxs=>match xs with|[o,i]=>(eo o>>=λb=>gq a b o i)|_=>pure .none
noncomputable abbrev zk:List Value->Bk Unit:=λxs=>match xs with|[x,y,z]=>Qs x y z|_=>pure ()
theorem Dm{d:e_}{o i:Value}{p:Bk Value->Prop}(h:∀xs,p (operate xs (Ee o i))):p (gq d false o i):=by
 cases d with
 |Slice a b c=>cases c<;>show h _
 |_=>show h _
theorem tU{M:yv}{A:eN}{E:Value->bc->Prop}{s:bc}{c:e_}{o i:Value}{T id:String}{a:Value->bc->Prop}(d:s.TypeIs o T)(e:Ob (.type T) "__getitem__"=pure (Zs (.builtin id)))
  (h:b8 M A (Ee o i) a E s):b8 M A (eo o>>=λb=>gq c b o i) a E s:=by
 exact ao ?_
 unfold eo
 show ao (pB d e (az (Dm (p:=λm=>b8 M A m a E s) λxs=>wpAny_operate' h)))
section
variable{C:Cx}{d:Nat}{Y:nu}{U:YK}{H:Hp}
theorem MX{c f:e_}{m:Pos}{Q:V->Hp->Prop}(h:fL C d Y U H c λa H1=>fL C d Y U H1 f λb j=>j4 C d (vU f) j [a,b] Q):fL C d Y U H (.Subscript c f m) Q:=by
 focus
  intro A n o s p E g t L u;rw[qN];exact ao (h A n o s _ E g t L λa H1 w B x D q G k I=>ao (cg (q A w B D _ E g G (L.ext k) λb j J M y N q O l T=>ao (gB ?_))));have a0:=q A J M N [x,y] (λr i=>b8 (cX C.prog C.w) A (fW c x r>>=λ_a=>pure r) p E i) E g O (.cons (I.ext l) (.cons T .nil)) λv H3 a1 Z3 z i q S3 X3 r3=>ao (lz (az (u v H3 a1 Z3 z i q S3 (k.trans (l.trans X3)) r3)));have e:(do let b←eo x;let r←gq f b x y;fW c x r;pure r)=((eo x>>=λb=>gq f b x y)>>=λr=>fW c x r>>=λ_a=>pure r):=by rw[bind_assoc]
  show e▸ao a0
theorem bF.size(r:bF w a Z l xs):xs.toArray.size=l.length:=by rw[eI,r.length]
theorem vV{c:e_}{v:V}{l:List V}{k:Int}{u:V}{Q:V->Hp->Prop}(m:0<=k)(p:YJ H v=Zs (.list l))(q:l[k.toNat]?=Zs u)(r:k<2^62)(h:Q u H):j4 C d (vU c) H [v,.int k] Q:=by
 focus
  show eK (f:=λo i=>(eo o>>=λb=>gq c b o i)) (h:=λA L M s x y N E O e t w z=>by exact E33 (dE e p t) λa B n D g G=>?_;subst D;exact bQ.gr w λ_=>E12 (G.get q) λy I J=>?_;have j:s.heap.IsList a B.toArray:=⟨_,g,rfl,_,rfl⟩;exact tU j.typeIs o_.lookup (wpAny_getItem_list j m (mH r ⋯) (by simpa using I) ?_);show z _ _ _ _ _ _ h e (.refl _ _ _ _) J)
theorem aO{a:e_}{v:V}{l:List V}{k:Nat}{u:V}{Q:V->Hp->Prop}(b:YJ H v=Zs (.list l))(c:l[k]?=Zs u)(e:(k:Int)<2^62)(h:Q u H):j4 C d (vU a) H [v,.int k] Q:=by
 focus
  show vV Jy b (by simpa using c) e h
theorem BQ{e:e_}{v:V}{l:List V}{u:V}{Q:V->Hp->Prop}(q:YJ H v=Zs (.list l))(c:l.getLast?=Zs u)(h:Q u H):j4 C d (vU e) H [v,.int (-1)] Q:=by
 focus
  show eK (f:=λo i=>(eo o>>=λb=>gq e b o i)) (h:=λA J L s x y M E N j r t w=>by
    exact E33 (dE j q r) λa z n B g k=>?_;subst B;exact bQ.gr t λ_=>?_;have m:=k.size;rw[List.getLast?_eq_getElem?] at c;have D:0<aa l:=by have:=(ae.mp c).1;show a8 this
    exact E12 (k.get c) λy G I=>?_;have p:s.heap.IsList a z.toArray:=⟨_,g,rfl,_,rfl⟩;exact tU p.typeIs o_.lookup (wpAny_getItem_list_neg p ⋯ (by rw[m];show uq (kK.mpr (a8 D))) ⋯ ?_ (w _ _ _ _ _ _ h j (.refl _ _ _ _) I));rw[m];have:(-1+(aa l:Int)).toNat=aa l - 1:=Xm;rw[this];simpa using G)
theorem ji{c:e_}{l:List V}{k:Nat}{u:V}{Q:V->Hp->Prop}(e:l[k]?=Zs u)(g:(k:Int)<2^62)(h:Q u H):j4 C d (vU c) H [.Zo .tup l,.int k] Q:=by
 focus
  walk_at "@C d H c l k u Q|e g h";show eK (f:=λo i=>(eo o>>=λb=>gq c b o i)) (h:=λA J L s x y M E N m r v w=>by exact bQ.Ay r λa O n z p=>bQ.gr v λt=>E12 (p.get e) λy B D=>?_;have q:=m.n_ _ _ z;have G:k<aa l:=(ae.mp e).1;have I:=p.size;exact tU ⟨_,q,rfl⟩ vc.lookup (vI (j:=k) ⟨_,q,rfl,_,rfl⟩ O6 (mH g ⋯) ?_ (by simpa using B) (w _ _ _ _ _ _ h m (.refl _ _ _ _) D));unfold seqIndex?;rw[I];simp only[show¬((k:Int)<0) by show qw _,if_false];rw[if_pos (by simp;show G)];simp)
theorem bF.set(r:bQ w b Z u x):∀{l:List V} {xs:List Value} {k:Nat},bF w b Z l xs->bF w b Z (l.set k u) (xs.set k x)
 |_,_,_,.nil=>.nil
 |_,_,0,.cons _ a=>.cons r a
 |_,_,k+1,.cons q a=>.cons q (bF.set r a)
theorem vW{i:Nat}{l:List V}{k:Int}{u:V}{Q:Hp->Prop}(j:0<=k)(f:H[i]?=Zs (.list l))(m:k<aa l)(o:k<2^62)(h:Q (H.set i (.list (l.set k.toNat u)))):Es C d zk H [.ref i,.int k,u] Q:=by
 focus
  walk_at "@C d H i l k u Q|j f m o h";intro A O T s xs U E Y p B D;exact bF.e3 B λz y x G I J=>bQ.MF G λa q=>bQ.gr I λt=>E23 (p.cells i _ _ f q) λb n g r v=>?_;have L:=r.size;apply ki_setAt g j (mH o ⋯) (by rw[L];show m);have w:=pE (c:="list") (xs:=b.toArray) (n:=n) g (·.setIfInBounds k.toNat x);have e:b.toArray.setIfInBounds k.toNat x=(b.set k.toNat x).toArray:=by simp
  show E02 (p.write (t:=s.toks) (c:=.list (l.set k.toNat u)) (f:=s.heap.update a (kn (·.setIfInBounds k.toNat x))) (ae.mp f).1 q (.update _ _ _) v ⟨b.set k.toNat x,_,by rw[w,e],r.set J,v⟩ ⟨_,w⟩) λM N=>D _ _ _ _ h M N
theorem fA{i:Nat}{l:List V}{k:Nat}{u:V}{Q:Hp->Prop}(a:H[i]?=Zs (.list l))(b:k<aa l)(c:(k:Int)<2^62)(h:Q (H.set i (.list (l.set k u)))):Es C d zk H [.ref i,.int k,u] Q:=by
 focus
  show vW Jy a (Xg b) c (by simpa using h)
theorem FX{a:List Value}{y:Int}(h:0<=y):slicePick a.toArray Zt (Zs y) Zt=(a.take y.toNat).toArray:=by
 have e:CU Zt (Zs y) Zt a.toArray.size=(((0:Nat):Int),((min y.toNat a.toArray.size:Nat):Int),1):=by simp only[CU,Jx,show(1:Int)>0 by decide,if_true,if_neg (show¬(y<0) by show Mc h)];congr 1;congr 1;show OF
 rw[YA _ e];rw[List.drop_zero,Nat.sub_zero,eI,kmk_take_min]
theorem Dn{a:List Value}{x:Int}(h:0<=x):slicePick a.toArray (Zs x) Zt Zt=(a.drop x.toNat).toArray:=by
 have e:CU (Zs x) Zt Zt a.toArray.size=(((min x.toNat a.toArray.size:Nat):Int),((a.toArray.size:Nat):Int),1):=by simp only[CU,Jx,show(1:Int)>0 by decide,if_true,if_neg (show¬(x<0) by show Mc h)];congr 1;show OF
 rw[YA _ e];exact(?_:((a.drop (min x.toNat a.toArray.size)).take (a.toArray.size - min x.toNat a.toArray.size)).toArray=_);rw[eI,kmk_drop_min,iu (by rw[Ls];show sl (fF _ _))]
theorem bF.take:∀{l:List V} {xs:List Value} {k:Nat},bF w a Z l xs->bF w a Z (l.take k) (xs.take k)
 |_,_,0,_=>by simp only[Bp];show .nil
 |_,_,_+1,.nil=>.nil
 |_,_,k+1,.cons q b=>.cons q b.take
theorem bF.drop:∀{l:List V} {xs:List Value} {k:Nat},bF w a Z l xs->bF w a Z (l.drop k) (xs.drop k)
 |_,_,0,r=>by trivial
 |_,_,_+1,.nil=>.nil
 |_,_,k+1,.cons q b=>(b.drop)
theorem xm(r:bF w a Z l xs)(h:aa l<=1000000):xs.toArray.size<=eY:=by rw[r.size];have e:eY=16777216:=rfl;show(e▸af h ⋯)
set_option tactic.hygienic true in
theorem AO{j m:e_}{p N:Pos}{Q:V->Hp->Prop}
  (h:fL C d Y U H j λv H1=>fL C d Y U H1 m λu w=>∃l k,YJ w v=Zs (.list l)/\u= .int k/\0<=k/\aa l<=1000000/\Q (.ref (aa w)) (w++[.list (l.take k.toNat)])):
  fL C d Y U H (.Subscript j (.Slice Zt (Zs m) Zt p) N) Q:=by
 focus
  walk_at "@C d Y U H j m p N Q|h";intro A φ Z s P E O S L hp;rw[qN];exact ao (h A φ Z s _ E O S L λa H1 a0 Z1 x s1 q S1 T r1=>?_);exact ao (cg (Md (az (q A a0 Z1 s1 _ E O S1 (L.ext T) λb w B Z2 y f q D X2 r2=>az ?_))));ext q⟨l,k⟩hv rfl hk hlen q;apply E33 (dE D hv (r1.ext X2));intro a G n a1 g rs;subst a1;apply bQ.gr r2;clear r2;intro _;rename_i t;have I:∀b J,f.heap.get? b=Zs J->(f.heap.push {cls:=.type "slice",data:=.fields #[.none,.int k t,.none]}).get? b=Zs J:=λb J e=>cm _ e;have S3:=D.keeps (s':={f with heap:=f.heap.push {cls:=.type "slice",data:=.fields #[.none,.int k t,.none]}}) I rfl rfl;have X3:YO [] B Z2 f B Z2 {f with heap:=f.heap.push {cls:=.type "slice",data:=.fields #[.none,.int k t,.none]}}:=.keeps I;have hl:(f.heap.push {cls:=.type "slice",data:=.fields #[.none,.int k t,.none]}).IsList a G.toArray:=⟨_,I _ _ g,rfl,_,rfl⟩;exact ao (gB ?_);have a2:Bs B (B++[(f.heap.push {cls:=.type "slice",data:=.fields #[.none,.int k t,.none]}).objs.size]):=λi a e=>by rw[ar (ae.mp e).1];show e
  apply E02 (S3.alloc (o:=iJ (G.take k.toNat) 0) (c:=.list (l.take k.toNat)) rfl λh' g z=>⟨G.take k.toNat,0,g,rs.take.mono a2 (.refl _),z⟩);intro S4 X4;have X:=T.trans (X2.trans (X3.trans X4));have a3:b8 (cX C.prog C.w) A (Ee (.ref a) (.ref f.heap.objs.size)) (λr s3=>b8 (cX C.prog C.w) A (fW j (.ref a) r>>=λ_a=>pure r) P E s3) E {f with heap:=f.heap.push {cls:=.type "slice",data:=.fields #[.none,.int k t,.none]}}:=by exact G9 hl (y9 _ _ _ _) .none (.int _ _) .none nofun ?_ (xm rs hlen);exact ao (lz (az ?_));rw[FX hk];exact hp _ _ _ _ _ _ q S4 X (.ref ?_);rw[←D.len];show sS
  have e:∀(o i:Value) (M:e_),(do let b←eo o;let r←gq M b o i;fW j o r;pure r)=((eo o>>=λb=>gq M b o i)>>=λr=>fW j o r>>=λ_a=>pure r):=λo i M=>by rw[bind_assoc]
  show e _ _ _▸ao (tU (c:=.Slice Zt (Zs m) Zt p) hl.typeIs o_.lookup a3)
set_option tactic.hygienic true in
theorem Kw{j m:e_}{p N:Pos}{Q:V->Hp->Prop}
  (h:fL C d Y U H j λv H1=>fL C d Y U H1 m λu w=>∃l k,YJ w v=Zs (.list l)/\u= .int k/\0<=k/\aa l<=1000000/\Q (.ref (aa w)) (w++[.list (l.drop k.toNat)])):
  fL C d Y U H (.Subscript j (.Slice (Zs m) Zt Zt p) N) Q:=by
 focus
  walk_at "@C d Y U H j m p N Q|h";intro A φ Z s P E O S L hp;rw[qN];exact ao (h A φ Z s _ E O S L λa H1 a0 Z1 x s1 q S1 T r1=>?_);exact ao (cg (Md (q A a0 Z1 s1 _ E O S1 (L.ext T) λb w B Z2 y f q D X2 r2=>az (az ?_))));ext q⟨l,k⟩hv rfl hk hlen q;apply E33 (dE D hv (r1.ext X2));intro a G n a1 g rs;subst a1;apply bQ.gr r2;clear r2;intro _;rename_i t;have I:∀b J,f.heap.get? b=Zs J->(f.heap.push {cls:=.type "slice",data:=.fields #[.int k t,.none,.none]}).get? b=Zs J:=λb J e=>cm _ e;have S3:=D.keeps (s':={f with heap:=f.heap.push {cls:=.type "slice",data:=.fields #[.int k t,.none,.none]}}) I rfl rfl;have X3:YO [] B Z2 f B Z2 {f with heap:=f.heap.push {cls:=.type "slice",data:=.fields #[.int k t,.none,.none]}}:=.keeps I;have hl:(f.heap.push {cls:=.type "slice",data:=.fields #[.int k t,.none,.none]}).IsList a G.toArray:=⟨_,I _ _ g,rfl,_,rfl⟩;exact ao (gB ?_);have a2:Bs B (B++[(f.heap.push {cls:=.type "slice",data:=.fields #[.int k t,.none,.none]}).objs.size]):=λi a e=>by rw[ar (ae.mp e).1];show e
  apply E02 (S3.alloc (o:=iJ (G.drop k.toNat) 0) (c:=.list (l.drop k.toNat)) rfl λh' g z=>⟨G.drop k.toNat,0,g,rs.drop.mono a2 (.refl _),z⟩);intro S4 X4;have X:=T.trans (X2.trans (X3.trans X4));have a3:b8 (cX C.prog C.w) A (Ee (.ref a) (.ref f.heap.objs.size)) (λr s3=>b8 (cX C.prog C.w) A (fW j (.ref a) r>>=λ_a=>pure r) P E s3) E {f with heap:=f.heap.push {cls:=.type "slice",data:=.fields #[.int k t,.none,.none]}}:=by exact G9 hl (y9 _ _ _ _) (.int _ _) .none .none nofun ?_ (xm rs hlen);exact ao (lz (az ?_));rw[Dn hk];exact hp _ _ _ _ _ _ q S4 X (.ref ?_);rw[←D.len];show sS
  have e:∀(o i:Value) (M:e_),(do let b←eo o;let r←gq M b o i;fW j o r;pure r)=((eo o>>=λb=>gq M b o i)>>=λr=>fW j o r>>=λ_a=>pure r):=λo i M=>by rw[bind_assoc]
  show e _ _ _▸ao (tU (c:=.Slice (Zs m) Zt Zt p) hl.typeIs o_.lookup a3)
set_option tactic.hygienic true in
theorem Kx{value:e_}{k:Nat}{cp p pos:Pos}{Q:V->Hp->Prop}
  (h:fL C d Y U H value λv H1=>∃x,v= .str x/\x.length=1/\Q (.str x) H1):
  fL C d Y U H (.Subscript value (.Slice Zt (Zs (.Constant (.int 1) k cp)) Zt p) pos) Q:=by
 focus
  walk_at "@C d Y U H value k cp p pos Q|h";intro A φ Z s P E rm S L hp;rw[qN];exact ao (h A φ Z s _ E rm S L λa H1 φ1 Z1 x s1 q S1 X1 r1=>?_);ext q⟨x⟩rfl hx q;apply bQ.FA r1;clear r1;intro _;rename_i t;exact ao (cg (Md (az (qK (k:=k) (pos:=cp) (az ?_)))));exact ao (gB ?_);have hnew:∀b o',s1.heap.get? b=Zs o'->(s1.heap.push {cls:=.type "slice",data:=.fields #[.none,.int 1 s1.toks,.none]}).get? b=Zs o':=λb o' e=>cm _ e;have S3:=(S1.toks (s1.toks+1)).keeps (s':={s1 with toks:=s1.toks+1,heap:=s1.heap.push {cls:=.type "slice",data:=.fields #[.none,.int 1 s1.toks,.none]}}) hnew rfl rfl;have X3:YO [] φ1 Z1 s1 φ1 Z1 {s1 with toks:=s1.toks+1,heap:=s1.heap.push {cls:=.type "slice",data:=.fields #[.none,.int 1 s1.toks,.none]}}:=.keeps hnew;have hpick:slicePicked x Zt (Zs (1,s1.toks)) Zt=[0]:=by unfold slicePicked;rw[hx];change W6 Zt (Zs 1) 1 1=[0];decide
  have key:b8 (cX C.prog C.w) A (Ee (.str x t) (.ref s1.heap.objs.size)) (λr s3=>b8 (cX C.prog C.w) A (fW value (.str x t) r>>=λ_a=>pure r) P E s3) E {s1 with toks:=s1.toks+1,heap:=s1.heap.push {cls:=.type "slice",data:=.fields #[.none,.int 1 s1.toks,.none]}}:=by apply wpAny_getItem_str_slice (l:=Zt) (u:=Zs (1,s1.toks)) (st:=Zt) ⟨_,cx _ rfl,rfl,rfl⟩ rfl;unfold sliceMade;rw[hpick,hx];show ao (lz (az (hp _ _ _ _ _ _ q S3 (X1.trans X3) (.str _ _))))
  have e:∀(o i:Value) (sl:e_),(do let b←eo o;let r←gq sl b o i;fW value o r;pure r)=((eo o>>=λb=>gq sl b o i)>>=λr=>fW value o r>>=λ_a=>pure r):=λo i sl=>by rw[bind_assoc]
  show e _ _ _▸ao (tU (c:=.Slice Zt (Zs (.Constant (.int 1) k cp)) Zt p) (typeIs_str _ x t) F.slot_str_getitem.lookup key)
end
noncomputable def YI.kind:YI->Nat
 | .int _=>0
 | .str _=>1
 | .ints _=>2
theorem yP(h:lF l a):ItemsAre (intKind prog w) l a:=by
 induction h with
 |nil=>show .nil
 |cons _ b=>show .cons (beq_self_eq_true _) b
theorem Dp:∀{xs:List Value},bF w Y Z (l.map .int) xs->lF l xs:=by
 induction l with
 |nil=>intro xs h;apply bF.e0 h;clear h;show .nil
 |cons a l b=>intro xs h;cases h with
  |cons r c=>apply bQ.gr r;clear r;intro _;show .cons (b c)
theorem mc(r:bQ w Y Z k.toV x):fG Z k x:=by
 cases k with
 |int i=>apply bQ.gr r;clear r;intro _;show .int _ _
 |str s=>apply bQ.FA r;clear r;intro _;show .str _ _
 |«ints» l=>show bQ.Ay r λa c n z b=>.ints z (Dp b)
section
variable{Z:Zp}{k:YI}{x:Value}
theorem fG.PH(r:fG Z k x):k.kind=0->∃i t,k= .int i/\x= .int i t:=fG.casesOn (motive:=λk x a=>k.kind=0->∃i t,k= .int i/\x= .int i t) r (λi t a=>⟨i,t,rfl,rfl⟩) (λa b h=>absurd h (by decide:¬1=0)) (λa b h=>absurd h (by decide:¬2=0))
theorem fG.PI(r:fG Z k x):k.kind=1->∃i t,k= .str i/\x= .str i t:=fG.casesOn (motive:=λk x a=>k.kind=1->∃i t,k= .str i/\x= .str i t) r (λa b h=>absurd h (by decide:¬0=1)) (λi t a=>⟨i,t,rfl,rfl⟩) (λa b h=>absurd h (by decide:¬2=1))
theorem fG.PJ(r:fG Z k x):k.kind=2->∃l a b n,k= .ints l/\x= .ref a/\Z a=Zs (gR b n)/\lF l b:=fG.casesOn (motive:=λk x c=>k.kind=2->∃l a b n,k= .ints l/\x= .ref a/\Z a=Zs (gR b n)/\lF l b) r (λc d h=>absurd h (by decide:¬0=2)) (λc d h=>absurd h (by decide:¬1=2)) (λz e c=>⟨_,_,_,_,rfl,rfl,z,e⟩)
end
section
variable{C:Cx}{d:Nat}{H:Hp}{A:eN}{Y:List Addr}{Z:Zp}{s:bc}{E:Value->bc->Prop}
theorem rj(c:fX C Y Z H s)(r:fG Z (.ints l) (.ref a)):IsTupleKey (intKind C.prog C.w) s.heap l a:=by exact E33 r.inv λb g n e z f=>?_;cases e;show vf _ _ _ (c.n_ _ _ z) rfl rfl (by simpa using yP f)
theorem xn(a:ic d A)(b:fX C Y Z H s)(r:fG Z k x)(h:∀t,Q (YP C.w k) {s with toks:=t}):b8 (cX C.prog C.w) A.in1 (pyHash x) Q E s:=by
 have c:A.in1.units<mP:=by change A.units+1<mP;show a.HC
 cases r with
 |int i t=>show(intKind C.prog C.w).pyHash (k:=i) (beq_self_eq_true i) (h _)
 |str x t=>show(strKind C.prog C.w).pyHash (k:=x) (beq_self_eq_true x) (h _)
 |«ints» z e=>show(Ri (intKind C.prog C.w)).pyHash c (rj b (.ints z e)) (h _)
theorem qD{p:Value->Bool}{k:YI}(g:∀{a:YI} {x:Value},fG Z a x->a.kind=k.kind->p x=decide (a=k)){ks:List YI}{i:List Value}{c:List DictEntry}(d:df C.w Z ks i c):(∀a∈ks,a.kind=k.kind)->
  c.findIdx? (λe=>p e.key)=ks.findIdx? (λa=>decide (a=k)):=by
 induction d with
 |nil=>show λm=>rfl
 |cons j d l=>intro f;rw[vH,vH,l λa h=>f a (.tail _ h)];exact congrArg (λb=>if b=true then Zs 0 else _) (g j (f _ (.head _)))
theorem zm{a:Type}[DecidableEq a]{l:List a}{k:a}{b:Option Nat->Prop}(c:k∉l->b Zt)(d:∀j,l[j]?=Zs k->b (Zs j)):b (l.findIdx? (λx=>decide (x=k))):=by
 cases e:l.findIdx? (λx=>decide (x=k)) with
 |none=>exact c λf=>?_;have:=List.findIdx?_eq_none_iff.mp e k f;simp at this
 |some j=>obtain⟨g,h,_⟩:=List.findIdx?_eq_some_iff_getElem.mp e;apply d j;rw[ag g];simpa using h
theorem PK(i:fX C Y Z H s)(c:df C.w Z ks j e):(∀f∈ks,f.kind=2)->
  ∃xs:List (List Int×Addr×Value),e=xs.map (entryOfKey (Ri (intKind C.prog C.w)))/\ks=xs.map (λx=>.ints x.1)/\∀x∈xs,IsTupleKey (intKind C.prog C.w) s.heap x.1 x.2.1:=by
 walk_at "@C H Y Z s ks j e|i c"
 induction c with
 |nil=>show λm=>⟨[],rfl,rfl,λm=>nm⟩
 |@cons k x v ks j e o c p=>
  intro b;exact E13 (p λf h=>b f (.tail _ h)) λxs q r t=>?_;have b:=b _ (.head _);exact E44 (o.PJ b) λl a D n u w z B=>?_;subst u;subst w;exact fP ((l,a,v)::xs) (congrArg _ q) (congrArg _ r) (λy g=>?_);rcases bb.mp g with rfl|g
  show rj i (.ints z B);show t y g
theorem Dq(b:df C.w Z ks j f):(∀c∈ks,c.kind=0)->∀e∈f,∃k,(intKind C.prog C.w).is k e.key=true/\e.hash=(intKind C.prog C.w).hash k:=by
 walk_at "@C Z ks j f|b";induction b with
 |nil=>intro _ e a;cases a
 |cons l b m=>
  intro g e a;rcases bb.mp a with rfl|a
  exact E22 (l.PH (g _ (.head _))) λi t n o=>?_;subst n;subst o;show cU i (beq_self_eq_true i) rfl;show m (λc h=>g c (.tail _ h)) e a
theorem Dr(c:df C.w Z ks o g):(∀b∈ks,b.kind=1)->∀e∈g,∃k,(strKind C.prog C.w).is k e.key=true/\e.hash=(strKind C.prog C.w).hash k:=by
 induction c with
 |nil=>intro _ e a;cases a
 |cons j c l=>
  intro f e a;rcases bb.mp a with rfl|a
  exact E22 (j.PI (f _ (.head _))) λi t m n=>?_;subst m;subst n;show cU i (beq_self_eq_true i) rfl;show l (λb h=>f b (.tail _ h)) e a
set_option tactic.hygienic true in
theorem uH(M:ic d A)(J:fX C Y Z H s){k:YI}{x:Value}(r:fG Z k x){a:Addr}{ks:List YI}{N:List Value}{L:List DictEntry}{n:Nat}(g:s.heap.get? a=Zs (fx L n))
  (f:df C.w Z ks N L)(O:ks.Nodup)(m:∀c∈ks,c.kind=k.kind){Q:Option Nat->bc->Prop}(q:k∉ks->Q Zt s)(w:∀j,ks[j]?=Zs k->Q (Zs j) s):
  b8 (cX C.prog C.w) A.in1 (dictFind a x (YP C.w k)) Q E s:=by
 have T:A.in1.units<mP:=by change A.units+1<mP;show M.HC
 cases r with
 |int i t=>have e:=qD (k:=.int i) (p:=λv=>(intKind C.prog C.w).is i v) (λ{c x} B D=>by exact E22 (B.PH D) λj u U a0=>?_;subst U;subst a0;change lS i (.int j u)=_;simp only[lS,mD];by_cases h:j=i<;>simp[h]) f m;exact Qz (knd:=intKind C.prog C.w) (k:=i) (beq_self_eq_true i) g rfl (λe G=>?_) ?_;show Dq f (λc h=>(m c h).trans rfl) e (by simpa using G);rw[Fc,e];show zm (b:=λo=>Q o s) q w
 |str y t=>have e:=qD (k:=.str y) (p:=λv=>(strKind C.prog C.w).is y v) (λ{c x} B D=>by exact E22 (B.PI D) λj u a1 a2=>?_;subst a1;subst a2;change NM y (.str j u)=_;simp only[NM,mD];by_cases h:j=y<;>simp[h]) f m;exact Qz (knd:=strKind C.prog C.w) (k:=y) (beq_self_eq_true y) g rfl (λe G=>?_) ?_;show Dr f (λc h=>(m c h).trans rfl) e (by simpa using G);rw[Fc,e];show zm (b:=λo=>Q o s) q w
 |«ints» z iv=>rename_i l b a4 n';exact E13 (PK J f (λc h=>(m c h).trans rfl)) λxs e1 e2 e3=>?_;subst e2;exact wpAny_dictFind_heap (knd:=Ri (intKind C.prog C.w)) (k:=l) (xs:=xs) T (rj J (.ints z iv)) g rfl (by simpa using e1) e3 ?_ (λa3=>q λhm=>?_) (λj p I=>w j ?_);have:=O;unfold Bn at this⊢;rw[cK] at this⊢;show this.imp λh e=>h (by rw[e]);exact E12 (ay.mp hm) λy hy e=>E11 (aC.mp hy) λj I=>?_;cases e;show a3 j y.2 I;rw[ak,I];rfl
end
theorem tV{k:YI}{u:V}{kvs:List (YI×V)}(h:kvs.lookup k=Zs u):∃j:Nat,(kvs.map (·.1))[j]?=Zs k/\kvs[j]?=Zs (k,u):=by
 induction kvs with
 |nil=>cases h
 |cons p r a=>rw[cq] at h;by_cases e:k=p.1;rw[beq_iff_eq.mpr e] at h;show cU 0 (congrArg Zs e.symm) (congrArg Zs (Prod.ext e.symm (Option.some.inj h)));rw[beq_eq_false_iff_ne.mpr e] at h;show Exists.elim (a h) λj h=>⟨j+1,h⟩
theorem ey{kvs:List (YI×V)}{k:YI}:kvs.lookup k=Zt↔k∉kvs.map (·.1):=by
 induction kvs with
 |nil=>simp
 |cons p r b=>obtain⟨a,c⟩:=p;rw[cq,ck,bb,not_or];by_cases e:k=a;subst e;simp;have:(k==a)=false:=beq_eq_false_iff_ne.mpr e;rw[this];simp[e,b]
section
variable{C:Cx}{d:Nat}{H:Hp}{A:eN}{Y:List Addr}{Z:Zp}{s:bc}{E:Value->bc->Prop}
theorem bF.PL{w:gp}{Y:List Addr}{Z:Zp}{kvs:List (YI×V)}{a:List Value}(b:bF w Y Z (kvs.map (·.2)) a){j:Nat}{k:YI}{u:V}(h:kvs[j]?=Zs (k,u)):∃x,a[j]?=Zs x/\bQ w Y Z u x:=b.get (by rw[ak,h];rfl)
theorem xo(l:ic d A)(m:fX C Y Z H s){k:YI}{x:Value}(r:fG Z k x){a:Addr}{kvs:List (YI×V)}{o:List Value}{c:List DictEntry}{n:Nat}(g:s.heap.get? a=Zs (fx c n))
  (q:df C.w Z (kvs.map (·.1)) o c)(z:bF C.w Y Z (kvs.map (·.2)) o)(v:(kvs.map (·.1)).Nodup)(B:(kvs.all λp=>p.1.kind==k.kind)=true){Q:Option Value->bc->Prop}
  (D:∀t,kvs.lookup k=Zt->Q Zt {s with toks:=t})(G:∀t u y,kvs.lookup k=Zs u->bQ C.w Y Z u y->Q (Zs y) {s with toks:=t}):b8 (cX C.prog C.w) A.in1 (JT a x) Q E s:=by
 have I:∀w∈kvs.map (·.1),w.kind=k.kind:=λw h=>by exact E12 (ay.mp h) λp J L=>?_;subst L;show beq_iff_eq.mp (cT.mp B p J)
 unfold JT
 try with_reducible exact cg ?_
 exact ao (xn l m r λt=>ao (uH (s:={s with toks:=t}) l (m.toks t) r g q v I (λM=>az (D t (ey.mpr M))) λj b=>E14 (q.get b) (λe N _ _ O=>?_)))
 cases f:kvs.lookup k with
 |none=>show absurd (ai b) (ey.mp f)
 |some u=>
  exact E12 (tV f) λT U h2=>?_;have a0:j=T:=by have a1:=(ae.mp b).1;show(cj a1 v).mp (b.trans U.symm)
  subst a0;exact E12 (bF.PL z h2) λy i ry=>?_;rw[O] at i;have a2:=Option.some.inj i;clear i;subst a2;exact ao (gE (s:={s with toks:=t}) g rfl ?_);have a3:c.toArray[j]?=Zs e:=by simpa using N
  rw[a3];show az (G t u _ f ry)
theorem HW(a:(kvs.map (·.1)).Nodup)(h:kvs[j]?=Zs (k,u)):nK kvs k v=kvs.set j (k,v):=by
 induction kvs generalizing j with
 |nil=>cases h
 |cons p r b=>
  have a:=cw.mp a;cases j with
  |zero=>rw[Option.some.inj h];show if_pos rfl
  |succ j=>have h:r[j]?=Zs (k,u):=h;have c:p.1≠k:=λe=>a.1 (ay.mpr ⟨_,ai h,e.symm⟩);simp[nK,c,b a.2 h]
theorem kH:∀{kvs:List (YI×V)} {k:YI} {v:V},k∉kvs.map (·.1)->nK kvs k v=kvs++[(k,v)]
 |[],_,_,_=>rfl
 |(a,b)::r,k,v,h=>by rw[ck,bb,not_or] at h;simp[nK,Ne.symm h.1,kH h.2]
theorem df.app(h:df w Z ks a b)(c:df w Z e f g):df w Z (ks++e) (a++f) (b++g):=by
 induction h with
 |nil=>show c
 |cons k _ i=>show .cons k i
theorem df.MY(h:df w Z ks a b):df w Z ks (a.set j y) (b.modify j λe=>{e with val:=y}):=by
 exact df.rec (motive:=λks a b g=>∀j,df w Z ks (a.set j y) (b.modify j λe=>{e with val:=y})) (λj=>?_) (λk c f j=>?_) h j;cases j<;>show .nil
 cases j with
 |zero=>show .cons k c
 |succ j=>show .cons k (f j)
theorem MZ:YP w k=YP w k:=rfl
set_option tactic.hygienic true in
theorem BR(J:ic d A)(l:fX C Y Z H s){i:Nat}{a:Addr}{k:YI}{x y:Value}{v:V}{kvs:List (YI×V)}(r:fG Z k x)(w:H[i]?=Zs (.dict kvs))(z:Y[i]?=Zs a)(B:bQ C.w Y Z v y)
  (L:(kvs.all λp=>p.1.kind==k.kind)=true)(M:kvs.length<=1000000){Q:Unit->bc->Prop}
  (D:∀s',fX C Y Z (H.set i (.dict (nK kvs k v))) s'->YO [] Y Z s Y Z s'->Q () s'):b8 (cX C.prog C.w) A.in1 (QA a x y) Q E s:=by
 revert y v kvs Q
 walk_at "@C d H A Y Z s E i a k x|J l r z"
 intro y v kvs w B L M Q D
 walk_at "@y v kvs Q|w B L M D"
 exact E36 (l.cells _ _ _ w z) λN o n g b O q a0 G=>?_
 have a5:∀k'∈kvs.map (·.1),k'.kind=k.kind:=λk' h=>by exact E12 (ay.mp h) λp T a6=>?_;subst a6;show beq_iff_eq.mp (cT.mp L p T)
 have a1:o.toArray.size<=eY:=by have:=b.length;have e:eY=16777216:=rfl;rw[eI,←b.length.2,←b.length.1,aq];show(e▸af M ⋯)
 have a2:=(ae.mp w).1
 unfold QA
 try with_reducible exact cg ?_
 exact ao (xn J l r λt=>?_)
 unfold dictSetHashed
 try with_reducible exact cg ?_
 exact ao (uH (s:={s with toks:=t}) J (l.toks t) r g b q a5 (λa3=>?_) λj I=>?_)
 exact ao (iS (Me (s:={s with toks:=t}) (hz:=a1) g rfl ?_));have f:=gH (lU (·.push ⟨YP C.w k,x,y⟩)) g rfl;have e:lU (·.push ⟨YP C.w k,x,y⟩) (fx o n)=fx (o++[⟨YP C.w k,x,y⟩]) (n+1):=congrArg (λa=>({cls:=.type "dict",data:=.dict a (n+1)}:Obj)) (JU _ _);rw[e] at f;exact E02 (l.write (t:=t) (c:=.dict (nK kvs k v)) (f:=s.heap.update a (lU (·.push ⟨YP C.w k,x,y⟩))) a2 z (.update _ _ _) G
  ⟨N++[y],_,_,f,by rw[kH a3,bo];show b.app (.cons r .nil),by rw[kH a3,bo];show O.app (.cons B .nil),qa q,a0,G⟩ ⟨_,f⟩) ?_;intro U X2
 show D _ U X2
 ·walk_at "@N o n t j|g b O a1 I";exact E11 (by rw[ak] at I;exact E12 (bg.mp I) λp T e=>?_;show lC p.2 (by rw[T,←e]):∃u,kvs[j]?=Zs (k,u)) ?_;intro u a4;exact ao (iS (ao (wpAny_updateDict (s:={s with toks:=t}) g rfl (wpAny_point ?_))));have f:=gH (G_ (·.modify j λe=>{e with val:=y})) g rfl;have e:G_ (·.modify j λe=>{e with val:=y}) (fx o n)=fx (o.modify j λe=>{e with val:=y}) n:=congrArg (λa=>({cls:=.type "dict",data:=.dict a n}:Obj)) List.modify_toArray;rw[e] at f;have e1:(nK kvs k v).map (·.1)=kvs.map (·.1):=by
   rw[HW q a4,eS];apply dJ;intro m;rw[dK];split
   ·rename_i h;subst h;split;show I.symm
    ·rename_i h2;rw[cH (bS h2)]
   rfl
  have e2:(nK kvs k v).map (·.2)=(kvs.map (·.2)).set j v:=by rw[HW q a4,eS]
  exact E02 (l.write (t:=t) (c:=.dict (nK kvs k v)) (f:=s.heap.update a (G_ (·.modify j λe=>{e with val:=y}))) a2 z (.update _ _ _) G
   ⟨N.set j y,_,_,f,by rw[e1];show b.MY,by rw[e2];show O.set B,qa q,a0,G⟩ ⟨_,f⟩) ?_;intro U X2
  show D _ U X2
theorem jj(g:s.heap.get? a=Zs (fx b n)):s.TypeIs (.ref a) "dict":=⟨_,g,rfl⟩
theorem tg(e:ic d A)(c:fX C Y Z H s){k:YI}{x:Value}{v:V}{y:Value}{kvs:List (YI×V)}{Q:Bool->bc->Prop}(r:fG Z k x)(f:YJ H v=Zs (.dict kvs))(i:bQ C.w Y Z v y)
  (j:(kvs.all λp=>p.1.kind==k.kind)=true)(h:∀t,Q (kvs.lookup k).isSome {s with toks:=t}):b8 (cX C.prog C.w) A (Mf y x) Q E s:=by
 exact E46 (kV c f i) λa z B n l g m o q w=>?_;subst l
 unfold Mf
 try with_reducible exact cg ?_
 exact ao (pB (jj g) yE.lookup ?_)
 exact(?_:b8 _ _ (if(Zs (NN "dict.__contains__")==Zs j8)=true then _ else _) _ E s)
 rw[if_neg (by rw[beq_builtin_none];show jB)]
 exact ao (wpAny_callSpecialUnlessNone?_slot (name:=ah "__contains__") (jj g) yE
  (eO yE (jj g) entry_dict_contains ?_ (args_dict_contains _ _)))
 exact((ao (xo e c r g m o q j (λt b=>?_) λt u y b D=>?_)):b8 _ _ (JT a x>>=_) _ _ s)
 have:=h t;rw[b] at this;exact(?_:b8 _ _ (We a x>>=_) _ _ _);show ao (wpAny_pendingKey_other w (az ⟨_,rfl,jh this⟩))
 have:=h t;rw[b] at this;exact(?_:b8 _ _ (ret (.bool true)) _ _ _);show az ⟨_,rfl,jh this⟩
end
section
variable{C:Cx}{d:Nat}{H:Hp}
theorem M0(b:u=k.toV)(c:YJ H v=Zs (.dict kvs))(e:(kvs.all λp=>p.1.kind==k.kind)=true)(h:Q (.bool (kvs.lookup k).isSome) H):j4 C d (AJ .In) H [u,v] Q:=by
 focus
  show eK (f:=eZ .In) (h:=λA Y Z s x y g E i a j l m=>by subst b;exact(?_:b8 _ _ (do return .bool (←Mf y x)) g E s);show ao (tg i a (mc j) c l e λt=>az (m _ _ _ _ _ _ h (a.toks t) (.toks t) (.bool _))))
theorem oS(b:u=k.toV)(c:YJ H v=Zs (.dict kvs))(e:(kvs.all λp=>p.1.kind==k.kind)=true)(h:Q (.bool (!(kvs.lookup k).isSome)) H):j4 C d (AJ .NotIn) H [u,v] Q:=by
 focus
  show eK (f:=eZ .NotIn) (h:=λA Y Z s x y g E i a j l m=>by subst b;exact(?_:b8 _ _ (do return .bool (!(←Mf y x))) g E s);show ao (tg i a (mc j) c l e λt=>az (m _ _ _ _ _ _ h (a.toks t) (.toks t) (.bool _))))
theorem dH{j:e_}{u v w:V}{k:YI}{kvs:List (YI×V)}{Q:V->Hp->Prop}(T:u=k.toV)(J:YJ H v=Zs (.dict kvs))(l:kvs.lookup k=Zs w)(L:(kvs.all λp=>p.1.kind==k.kind)=true)(h:Q w H):j4 C d (vU j) H [v,u] Q:=by
 focus
  show eK (f:=λo i=>(eo o>>=λb=>gq j b o i)) (h:=λA Y Z s x y m E M e q r z=>by
    subst T;exact E46 (kV e J q) λa B D n U g G I N O=>?_;subst U;revert s y m E a B D n;walk_at "@C d H j v w k kvs Q A Y Z|J l L h M N";intro s y m E e z r a B D n g G I O q;walk_at "@s y m E a B D n|e z r g G I O q";apply tU (jj g) Am.lookup;unfold Ee;try with_reducible exact cg ?_
    exact ao (QB (jj g) ⋯ ?_);exact ao (iq (name:=ah "__getitem__") (jj g) Am
     (eO Am (jj g) entry_dict_getitem ?_ (args_dict_getitem _ _)))
    exact((ao (xo M e (mc r) g G I N L (λt c=>by rw[l] at c;cases c) λt u y c ry=>?_)):b8 _ _ (JT a y>>=_) _ _ s);rw[l] at c;have a0:=Option.some.inj c;clear c;subst a0;show az ⟨_,rfl,az (z _ _ _ _ _ _ h (e.toks t) (.toks t) ry)⟩)
theorem jQ(c:u=k.toV)(b:H[i]?=Zs (.dict kvs))(e:(kvs.all λp=>p.1.kind==k.kind)=true)(f:aa kvs<=1000000)
  (h:Q (H.set i (.dict (nK kvs k w)))):Es C d zk H [.ref i,u,w] Q:=by
 focus
  walk_at "@C d H i u w k kvs Q|c b e f h";intro A Y Z s xs G E m j o q;exact bF.e3 o λx y z r t v=>?_;subst c;exact bQ.MF r λa l=>E36 (j.cells _ _ _ b l) λI J n g L M N O T=>?_;exact(?_:b8 _ _ (Qs (.ref a) y z) _ _ _);unfold Qs;try with_reducible exact cg ?_
  exact ao (QB (jj g) ⋯ ?_);exact ao (iq (name:=ah "__setitem__") (jj g) QC
   (eO QC (jj g) entry_dict_setitem ?_ (args_dict_setitem _ _ _)))
  exact((ao (km (jj g) ?_)):b8 _ _ (Wf "__setitem__" ⟨[.ref a,y,z],[]⟩>>=_) _ _ s);exact(?_:b8 _ _ (QA a y z>>=_) _ _ s);show ao (BR m j (mc t) b l v e f λs' B D=>az ⟨.none,rfl,az (q _ _ _ _ h B D)⟩)
theorem th{v u w:V}{k:YI}{kvs:List (YI×V)}{Q:V->Hp->Prop}(f:u=k.toV)(i:YJ H v=Zs (.dict kvs))(j:(kvs.all λp=>p.1.kind==k.kind)=true)(h:Q ((kvs.lookup k).getD w) H):gh C d (.builtin "dict.get") H [v,u,w] Q:=by
 focus
  walk_at "@C d H v u w k kvs Q|f i j h";intro A Y Z s xs L E m b c l;exact bF.e3 c λx y z o q r=>?_;subst f;exact E46 (kV b i o) λa M N n B g D c G I=>?_;subst B;exact eO (QD) (jj g) F.entry_dict_get ?_ (F.args_dict_get_3 _ _ _);exact((ao (xo m b (mc q) g D c G j (λt e=>?_) λt u y e J=>?_)):b8 _ _ (JT a y>>=_) _ _ s);rw[e] at h;exact(?_:b8 _ _ (Wg a y>>=_) _ _ _);show ao (wpAny_missed_other I (az ⟨z,rfl,l _ _ _ _ _ _ h (b.toks t) (.toks t) r⟩));rw[e] at h;show az ⟨_,rfl,l _ _ _ _ _ _ h (b.toks t) (.toks t) J⟩
theorem mK{i:Nat}{u w:V}{k:YI}{kvs:List (YI×V)}{Q:V->Hp->Prop}(L:u=k.toV)(v:H[i]?=Zs (.dict kvs))(M:(kvs.all λp=>p.1.kind==k.kind)=true)(N:kvs.length<=1000000)
  (O:∀x,kvs.lookup k=Zs x->Q x H)(T:kvs.lookup k=Zt->Q w (H.set i (.dict (kvs++[(k,w)])))):gh C d (.builtin "dict.setdefault") H [.ref i,u,w] Q:=by
 focus
  walk_at "@C d H i u w k kvs Q|L v M N O T";intro A Y Z s xs P E B b l m;walk_at "@A Y Z s xs P E|B b l m";exact bF.e3 l λx y z r1 r2 U=>?_;subst L;exact bQ.MF r1 λa a0=>E36 (b.cells _ _ _ v a0) λvs o n g f l D a2 hz=>?_;have r:=mc r2;have a3:(a==sysModules)=false:=if_neg ∅;have a4:∀k'∈kvs.map (·.1),k'.kind=k.kind:=λk' h=>by exact E12 (ay.mp h) λp m a5=>?_;subst a5;show beq_iff_eq.mp (cT.mp M p m)
  exact eO (Ha) (jj g) F.entry_dict_setdefault ?_ (F.args_dict_setdefault_3 _ _ _);unfold mz.«dict.setdefault»;unfold Wh;exact ao (ao (km (jj g) (az (a:=(a,y,Zs z)) ?_)));dsimp only;rw[if_neg (by rw[a3];decide)];exact(?_:b8 _ _ (W7 a y z>>=_) _ _ _);have a6:o.toArray.size<=eY:=by have:=f.length;have e:eY=16777216:=rfl;rw[eI,←f.length.2,←f.length.1,aq];show(e▸af N ⋯)
  unfold W7;exact ao ?_;try with_reducible exact cg ?_
  exact ao (xn B b r λt=>ao (uH (s:={s with toks:=t}) B (b.toks t) r g f D a4 (λa1=>?_) λj q=>?_));exact ao (iS (ao (Me (s:={s with toks:=t}) (hz:=a6) g rfl (az (az ⟨_,rfl,?_⟩)))));have G:=gH (lU (·.push ⟨YP C.w k,y,z⟩)) g rfl;have e:lU (·.push ⟨YP C.w k,y,z⟩) (fx o n)=fx (o++[⟨YP C.w k,y,z⟩]) (n+1):=congrArg (λa=>({cls:=.type "dict",data:=.dict a (n+1)}:Obj)) (JU _ _);rw[e] at G;exact E02 (b.write (t:=t) (c:=.dict (kvs++[(k,w)])) (f:=s.heap.update a (lU (·.push ⟨YP C.w k,y,z⟩))) (ae.mp v).1 a0 (.update _ _ _) hz
   ⟨vs++[z],_,_,G,by rw[bo];show f.app (.cons r .nil),by rw[bo];show l.app (.cons U .nil),by rw[←kH a1];show qa D,a2,hz⟩ ⟨_,G⟩) ?_;intro S2 X2
  show m _ _ _ _ _ _ (T (ey.mpr a1)) S2 X2 U;exact E14 (f.get q) λe he _ _ hv=>?_;cases I:kvs.lookup k with
  |none=>show absurd (ai q) (ey.mp I)
  |some u=>
   exact E12 (tV I) λj' k1 k2=>?_;have a7:j=j':=(cj (ae.mp q).1 D).mp (q.trans k1.symm);subst a7;exact E12 (bF.PL l k2) λy' J ry=>?_;rw[hv] at J;have a':=Option.some.inj J;clear J;subst a';exact ao (gE (s:={s with toks:=t}) g rfl ?_);have ac:o.toArray[j]?=Zs e:=by simpa using he
   rw[ac];show ao (iS (az (az ⟨_,rfl,m _ _ _ _ _ _ (O u I) (b.toks t) (.toks t) ry⟩)))
end
noncomputable abbrev V.Zn(n:Nat):V:=.int (n:Int)
theorem nj:Y9 C V.Zn:=⟨λa b c e=>by have h:=Ey.eq a b c e;simp only[ew] at h;show h,λf g=>ew.mp (Ey.inj f g)⟩
section
variable{C:Cx}{d:Nat}{H:Hp}
theorem qd(c:List Addr)(a:Addr):Bs c (c++[a]):=λi b e=>by rw[ar (ae.mp e).1];show e
theorem fX.VH{C:Cx}{c:List Addr}{b:Zp}{H:Hp}{s:bc}(d:fX C c b H s){a:Addr}(f:¬Al s a):b a=Zt:=by
 cases e:b a with
 |none=>rfl
 |some o=>show absurd ⟨o,d.n_ _ _ e⟩ f
theorem fX.grow(f:fX C m Z H s)(k:∀b o,s.heap.get? b=Zs o->s'.heap.get? b=Zs o)(t:s'.gens=s.gens)(u:s'.os=s.os)(n:¬Al s a)
  (v:Z a=Zt->p6 C.w (m++[a]) Z s'.heap a c)(w:Al s' a):fX C (m++[a]) Z (H++[c]) s'/\YO [] m Z s (m++[a]) Z s':=by
 have r:=qd m a
 have x:a∉m:=λh=>n (f.old _ h)
 have y:=f.VH n
 exact⟨⟨by simp[f.len],?_,?_,?_,λb g e=>k _ _ (f.n_ b g e),f.base,t.trans f.gens,u.trans f.os⟩,⟨r,.refl _,λz A G I=>rfl,?_,λb _ ⟨g,e⟩=>⟨g,k b g e⟩,λb g z A e=>k b g e⟩⟩
 exact cz.mpr ⟨f.nodup,CW,λb p J B=>?_⟩;rw[au.mp B];intro e;subst e;show x p
 intro i D b j l;by_cases q:i<aa H;rw[ar q] at j;rw[ar (by rw[f.len];show q)] at l;show(f.cells i D b j l).mono r (.refl _) id λg e=>k _ _ e;have E:i=aa H:=by have:=(ae.mp j).1;simp at this;show Bl this q
 subst E;rw[aH (ax _)] at j;rw[aH (by rw[f.len];show ax _)] at l;simp[f.len] at j l;subst j;subst l;show v y
 intro b p;rcases aE.mp p with h|h
 show E11 (f.old b h) λg e=>lC g (k b g e);rw[au.mp h];show w
 intro b j l _;rcases aE.mp j with h|h
 show absurd h l;rw[au.mp h];show n
set_option tactic.hygienic true in
theorem fX.PM{C:Cx}{g:List Addr}{j:Zp}{H:Hp}{s s':bc}(d:fX C g j H s)(k:∀b o,s.heap.get? b=Zs o->s'.heap.get? b=Zs o)(r:s'.gens=s.gens)(t:s'.os=s.os){a:Addr}(l:¬Al s a){o:Obj}
  (u:s'.heap.get? a=Zs o):fX C g (p7 j a o) H s'/\YO [] g j s g (p7 j a o) s':=by
 have v:=d.VH l
 have w:a∉g:=λh=>l (d.old _ h)
 have m:=Az (o:=o) v
 exact⟨⟨d.len,d.nodup,λi c b n q=>?_,λb p=>gm (k b) (d.old b p),λb f e=>?_,λb f e=>m _ _ (d.base b f e),r.trans d.gens,t.trans d.os⟩,⟨.refl _,m,λb x n y=>?_,λb h z=>absurd h z,λb _ ⟨f,e⟩=>⟨f,k b f e⟩,λb f x y e=>k b f e⟩⟩
 exact(d.cells i c b n q).mono (.refl _) m (λA=>?_) λf e=>k _ _ e;unfold p7;rw[if_neg];show A;rintro rfl;show w (aC.mpr ⟨i,q⟩)
 ·unfold p7 at e;split at e
  ·rename_i p;subst p;have B:=Option.some.inj e;clear e;subst B;show u
  show k _ _ (d.n_ b f e)
 unfold p7;rw[if_neg];rintro rfl;show l n
theorem rn(b:fX C c Z H s)(a:Addr):(c++[a])[aa H]?=Zs a:=by rw[←b.len];show sS
theorem dm(e:YJ H v=Zs (.list l))(i:aa l<=1000000)(h:Q (.int (aa l)) H):gh C d (.builtin "len") H [v] Q:=by
 focus
  show kc (f:=λx=>nG (.builtin "len") [x] []) (h:=λA o p s x q E t b r j=>by exact E33 (dE b e r) λa u n k g m=>?_;subst k;have c:=m.size;apply Calls.call_len_list ⟨_,g,rfl,_,rfl⟩ (by rw[c];show RO i);rw[c];show j _ _ _ _ _ _ h (b.toks _) (.toks _) (.int _ _))
theorem nM(e:aa l<=1000000)(h:Q (.int (aa l)) H):gh C d (.builtin "len") H [.Zo .tup l] Q:=by
 focus
  show kc (f:=λx=>nG (.builtin "len") [x] []) (h:=λA k m s x o E p b r i=>by exact bQ.Ay r λa q n z j=>?_;have g:=b.n_ _ _ z;have c:=j.size;apply yt ⟨_,g,rfl,_,rfl⟩ (by rw[c];show RO e);rw[c];show i _ _ _ _ _ _ h (b.toks _) (.toks _) (.int _ _))
theorem Ds(f:YJ H v=Zs (.list l))(i:aa l<=1000000)(h:Q (!l.isEmpty) H):AB C d H v Q:=by
 focus
  intro A p q s x t E u b r j;exact E33 (dE b f r) λa k n m g c=>?_;subst m;have o:=c.size;apply wpAny_truthy_list ⟨_,g,rfl,_,rfl⟩ (by rw[o];show RO i);have e:k.toArray.isEmpty=l.isEmpty:=by cases c<;>rfl
  rw[e];show j _ _ _ _ _ h (b.toks _) (.toks _)
set_option tactic.hygienic true in
theorem gi{n:Nat}{Q:V->Hp->Prop}(h:Q (.Zo (.wI n) []) H):gh C d (.type "range") H [.int n] Q:=by
 focus
  show kc (f:=λx=>nG (.type "range") [x] []) (h:=λA g i s x j E k a r b=>by exact bQ.gr r λ_=>?_;rename_i t;exact E02 ((a.toks (s.toks+1+1)).C_ (o:=w_ n s.toks t (s.toks+1)) rfl) λc e=>?_;exact call_range_1 (b _ _ _ _ _ _ h c ((YO.toks (s.toks+1+1)).trans e) (.Zo (.wI (pG _ _ _)) .nil)))
theorem kW(j:YJ H v=Zs (.list l))(k:aa l<=1000000)(h:Q (.ref (aa H)) (H++[.list l])):gh C d (.type "list") H [v] Q:=by
 focus
  show kc (f:=λx=>nG (.type "list") [x] []) (h:=λA B D s x G E I b r m=>by exact E33 (dE b j r) λa o n p g e=>?_;subst p;exact Ym a (.inl rfl) g rfl rfl (λq t u i=>E02 (b.grow (s':={s with heap:=q}) (c:=.list l) u rfl rfl (fR s) (λz=>⟨o,t,i,e.mono (qd _ _) (.refl _),z⟩) ⟨_,i⟩) (λw y=>?_)) (xm e k);show m _ _ _ _ _ _ h w y (.ref (rn b _)))
theorem BS(i:aa l<=1000000)(h:Q (.ref (aa H)) (H++[.list l])):gh C d (.type "list") H [.Zo .tup l] Q:=by
 focus
  show kc (f:=λx=>nG (.type "list") [x] []) (h:=λA u v s x w E y b r j=>by exact bQ.Ay r λa k n z e=>Ym a (.inr rfl) (b.n_ _ _ z) rfl rfl (λm o p g=>E02 (b.grow (s':={s with heap:=m}) (c:=.list l) p rfl rfl (fR s) (λz=>⟨k,o,g,e.mono (qd _ _) (.refl _),z⟩) ⟨_,g⟩) (λq t=>?_)) (xm e i);show j _ _ _ _ _ _ h q t (.ref (rn b _)))
theorem ro(g:n<=1000000)(h:Q (.ref (aa H)) (H++[.list ((aJ n).map V.Zn)])):gh C d (.type "list") H [.Zo (.wI n) []] Q:=by
 focus
  show kc (f:=λx=>nG (.type "list") [x] []) (h:=λA q u s x Y E D i r G=>by
    exact bQ.VD r λa t0 t1 t2 z rs=>call_list_range (n:=n) D.handled (i.n_ _ _ z) (rb n (af g (aB 1000000 15777216))).1 (rb n (af g (aB 1000000 15777216))).2 (af g (aB 1000000 15777216)) λI J o L M w y=>?_;have e:bF C.w (q++[s.heap.objs.size]) u ((aJ n).map V.Zn) o.toList:=by
     have N:∀(m:Nat) (l:List Value) (k:Nat),aa l=m->(∀j v,l[j]?=Zs v->∃t,v=mR ((k+j:Nat):Int) t)->bF C.w (q++[s.heap.objs.size]) u ((GD k m).map V.Zn) l:=by
      intro m;induction m with
      |zero=>intro l k b _;cases l with|nil=>show .nil|cons _ _=>show absurd b (iy _)
      |succ m O=>
       intro l k b B;cases l with
       |nil=>show n0 b
       |cons v l=>rw[Lu,ck];exact E11 (B 0 v rfl) λt e=>?_;subst e;show .cons (by simpa using bQ.int _ _) (O l (k+1) (by simpa using b) λj v p=>E11 (B (j+1) v (by simpa using p)) (λt e=>lC t (by rw[e];congr 1;show Sh)))
     rw[List.range_eq_range'];show N n o.toList 0 (by simpa using y.1) λj v p=>E11 (y.2 j v (by simpa using p)) λt e=>lC t (by rw[e];congr 1;show Sj)
    exact E02 (i.grow (s':={s with heap:=I,toks:=J}) (c:=.list ((aJ n).map V.Zn)) M rfl rfl (fR s) (λz=>⟨o.toList,L,by rw[w],e,z⟩) ⟨_,w⟩) λT U=>?_;show G _ _ _ _ _ _ h T U (.ref (rn i _)))
theorem uI(q:YJ H v=Zs (.list l))(t:aa l<=1000000)(h:Q (.Zo .tup l) H):gh C d (.type "tuple") H [v] Q:=by
 focus
  show kc (f:=λx=>nG (.type "tuple") [x] []) (h:=λA D G s x I E J i r u=>by exact E33 (dE i q r) λa j n w g k=>?_;subst w;exact call_tuple_list ⟨_,g,rfl,_,rfl⟩ (λc m=>?_) (xm k t);have y:∀b o,s.heap.get? b=Zs o->(c.push (gR j 0)).get? b=Zs o:=λb o e=>cm _ (m b o e);have z:¬Al s c.objs.size:=λ⟨o,e⟩=>bf _ (d9 (m _ _ e));exact E02 (i.PM (s':={s with heap:=c.push (gR j 0)}) y rfl rfl z (cx _ rfl)) λB p=>?_;show u _ _ _ _ _ _ h B p (.Zo (.tup (pG _ _ _)) (k.ext p)))
theorem Dt(h:Q (.int i) H):gh C d (.type "int") H [.int i] Q:=by
 focus
  show kc (f:=λx=>nG (.type "int") [x] []) (h:=λA c e s x g E j a r b=>by exact bQ.gr r λ_=>?_;show call_int_int (b _ _ _ _ _ _ h a (.refl _ _ _ _) (.int _ _)))
theorem Du(h:Q (.int (if i<0 then -i else i)) H):gh C d (.builtin "abs") H [.int i] Q:=by
 focus
  show kc (f:=λx=>nG (.builtin "abs") [x] []) (h:=λA c e s x g E j a r b=>by exact bQ.gr r λ_=>?_;show call_abs_int λu k=>b _ _ _ _ _ _ h (a.toks _) (.toks _) (.int _ _))
theorem tW(h:Q (.int (if j>i then j else i)) H):gh C d (.builtin "max") H [.int i,.int j] Q:=by
 focus
  show eK (f:=λx y=>nG (.builtin "max") [x,y] []) (h:=λA o p s x y q E b c e g k=>by exact bQ.gr e λ_=>bQ.gr g λ_=>max_two_ints b.handled λl m a=>?_;have n:=c.keeps (s':={s with heap:=l,toks:=m}) a rfl rfl;apply k _ _ _ _ _ _ h n (.keeps a);split<;>show .int _ _)
theorem sd{v:V}{l:List V}{name:Str}{id:String}(c:YJ H v=Zs (.list l))(d:Yy "list" name id)(f:typeOf (.builtin id)=pure (.type "method_descriptor")):mU C H v name (.builtin id):=by intro A k m s x o p E h r i;exact E33 (dE h c r) λa q n j g t=>?_;subst j;show QE ⟨_,g,rfl⟩ F.plainAttrs_list d f (λb e=>by cases e;show cU _ g rfl) i
theorem cZ(a:YJ H v=Zs (.list l)):mU C H v (ah "append") (.builtin "list.append"):=sd a F.slot_list_append F.type_list_append
theorem BU(a:YJ H v=Zs (.list l)):mU C H v (ah "pop") (.builtin "list.pop"):=sd a QF F.type_list_pop
theorem BV(a:YJ H v=Zs (.list l)):mU C H v (ah "extend") (.builtin "list.extend"):=sd a F.slot_list_extend F.type_list_extend
theorem md(a:YJ H v=Zs (.list l)):mU C H v (ah "index") (.builtin "list.index"):=sd a F.slot_list_index F.type_list_index
theorem zo{v:V}{l:List (YI×V)}{name:Str}{id:String}(c:YJ H v=Zs (.dict l))(d:Yy "dict" name id)(f:typeOf (.builtin id)=pure (.type "method_descriptor")):mU C H v name (.builtin id):=by intro A k m s x o p E h r i;exact E43 (kV h c r) λa q t n j g _=>?_;subst j;show QE ⟨_,g,rfl⟩ F.plainAttrs_dict d f (λb e=>by cases e;show cU _ g rfl) i
theorem BW(a:YJ H v=Zs (.dict l)):mU C H v (ah "get") (.builtin "dict.get"):=zo a QD F.type_dict_get
theorem qE(a:YJ H v=Zs (.dict l)):mU C H v (ah "setdefault") (.builtin "dict.setdefault"):=zo a Ha F.type_dict_setdefault
theorem c9(a:H[i]?=Zs (.list l))(b:aa l<=1000000)(h:Q .none (H.set i (.list (l++[v])))):gh C d (.builtin "list.append") H [.ref i,v] Q:=by
 focus
  show eK (f:=λx y=>nG (.builtin "list.append") [x,y] []) (h:=λA o p s x y q E r c e g j=>by
    cases e with|ref k=>
    show xe c a k g (af b (aB 1000000 15000000)) λs' m n=>j _ _ _ _ _ _ h m n .none)
set_option tactic.hygienic true in
theorem BX{i:Nat}{l:List V}{v:V}{Q:V->Hp->Prop}(o:H[i]?=Zs (.list (l++[v])))(B:l.length<=1000000)(h:Q v (H.set i (.list l))):gh C d (.builtin "list.pop") H [.ref i] Q:=by
 focus
  show kc (f:=λx=>nG (.builtin "list.pop") [x] []) (h:=λA N O s x T E U p r D=>by
    cases r with|ref q=>
    rename_i a;exact E23 (p.cells _ _ _ o q) λb n g m u=>?_;have j:=m.size;have G:=m.length;simp only[bC,jn,sO] at G j;exact E12 (m.get (k:=l.length) (v:=v) sS) λy I J=>uu QF ⟨_,g,rfl⟩ F.entry_list_pop (F.args_list_pop_1 _) (MeetsSeq.list_pop_last a b.toArray n y (by rw[j];simpa using I) (by rw[j];have e:eY=16777216:=rfl;show(e▸af (jv B) ⋯))) ⟨g,?_⟩;have w:=pE (c:="list") (xs:=b.toArray) (n:=n) g (λxs=>xs.eraseIdxIfInBounds (b.toArray.size - 1));have e:b.toArray.eraseIdxIfInBounds (b.toArray.size - 1)=(b.take l.length).toArray:=by
     apply Rj;have z:b.toArray.size - 1=l.length:=by rw[j];show Sk
     rw[z,Array.eraseIdxIfInBounds,dif_pos (by rw[j];show RP),Array.toList_eraseIdx,List.eraseIdx_eq_take_drop_succ,List.drop_of_length_le (by simp only[eI] at z j⊢;show Sl j),dY]
    exact E02 (p.write (t:=s.toks) (c:=.list l) (f:=s.heap.update a (kn λxs=>xs.eraseIdxIfInBounds (b.toArray.size - 1))) (ae.mp o).1 q (.update _ _ _) u
     ⟨b.take l.length,_,by rw[w,e],by simpa using m.take (k:=l.length),u⟩ ⟨_,w⟩) ?_;intro L M
    show D _ _ _ _ _ _ h L M J)
set_option tactic.hygienic true in
theorem BY{i:Nat}{l m:List V}{v:V}{Q:V->Hp->Prop}(p:H[i]?=Zs (.list l))(G:YJ H v=Zs (.list m))(q:aa l+aa m<=1000000)(h:Q .none (H.set i (.list (l++m)))):gh C d (.builtin "list.extend") H [.ref i,v] Q:=by
 focus
  show eK (f:=λx y=>nG (.builtin "list.extend") [x,y] []) (h:=λA φ Z s x y P E rm o I J L=>by
    cases I with|ref r=>
    rename_i a;exact E23 (o.cells _ _ _ p r) λk n g u w=>E33 (dE o G J) λb j M N O z=>?_;subst N;have e:eY=16777216:=rfl;have B:=u.size;have T:=z.size;exact uu PySem.F.slot_list_extend ⟨_,g,rfl⟩ PySem.F.entry_list_extend (PySem.F.args_list_extend_2 _ _) (AutoSeq1.list_extend_list_list_0 a k.toArray n b j.toArray M (extend_door ((e▸B▸T▸af q ⋯))) ((e▸B▸af (aV q) ⋯))) ⟨g,O,?_⟩;have D:=pE (c:="list") (xs:=k.toArray) (n:=n) g (λx=>x++j.toArray);have U:k.toArray++j.toArray=(k++j).toArray:=by simp
    exact E02 (o.write (t:=s.toks) (c:=.list (l++m)) (f:=s.heap.update a (kn λx=>x++j.toArray)) (ae.mp p).1 r (.update _ _ _) w
     ⟨k++j,_,by rw[D,U],u.app z,w⟩ ⟨_,D⟩) ?_;intro Y X2
    show L _ _ _ _ _ _ h Y X2 .none)
theorem mf{m:Type}[DecidableEq m]{f:m->V}(z:Y9 C f){l:List m}{a:m}{v u:V}{Q:V->Hp->Prop}(L:u=f a)(M:YJ H v=Zs (.list (l.map f)))(N:a∈l)(O:aa l<=1000000)(h:Q (.int (l.idxOf a:Nat)) H):
  gh C d (.builtin "list.index") H [v,u] Q:=by
 focus
  show eK (f:=λx y=>nG (.builtin "list.index") [x,y] []) (h:=λA B D s x y P E T o U Y hp=>by
    subst L;exact E33 (dE o M U) λb r n a0 g t=>?_;subst a0;exact E02 (pJ z T.MW o Y t) λk1 _=>?_;have G:=t.size;rw[aq] at G;have k:l.idxOf a<aa l:=bD.mpr N;have I:∀(j:Nat) (w:j<r.toArray.size),FU C.w B D (f a) r.toArray[j]=decide (l[j]?=Zs a):=λj w=>by exact E12 (t.r_ w) λc e1 q=>?_;rw[e1];unfold FU;by_cases e:c=a;subst e;rw[if_pos q];simp;rw[if_neg (λh'=>e (z.inj q h'))];simp[e]
    exact uu PySem.F.slot_list_index ⟨_,g,rfl⟩ PySem.F.entry_list_index (PySem.F.args_list_index_2 _ _)
     (list_indexAt b r.toArray n Zt #[] y (FU C.w B D (f a)) (l.idxOf a) (o2 k G) (mH (yK (af (a_ k) O)) ⋯) ?_ ?_) ⟨g,k1,hp _ _ _ _ _ _ h (o.toks _) (.toks _) (.int _ _)⟩
    rw[I,decide_eq_true_iff,ag k,dN k];intro j w J;rw[I,decide_eq_false_iff_not];intro e;have a1:j<aa l:=jI J k;rw[ag a1] at e;have:=List.not_of_lt_findIdx (p:=(· ==a)) (xs:=l) (i:=j) J;rw[Option.some.inj e] at this;simp at this)
theorem jR(r:YJ H v=Zs (.list l))(t:YJ H u=Zs (.list m))(w:aa l+aa m<=1000000)(h:Q (.ref (aa H)) (H++[.list (l++m)])):j4 C d (xi .Add) H [v,u] Q:=by
 focus
  show eK (f:=jJ .Add) (h:=λA Y Z s x y P E rm i B D G=>by
    exact E33 (dE i r B) λa j n I g p=>?_;subst I;exact E33 (dE i t D) λb k n' J L q=>?_;subst J;have M:=p.size;have N:=q.size;have O:j.toArray++k.toArray=(j++k).toArray:=by simp
    exact E02 (i.alloc (o:=iJ (j++k) 0) (c:=.list (l++m)) rfl λh' g z=>⟨j++k,0,g,(p.app q).mono (qd _ _) (.refl _),z⟩) λT U=>PySem.P.add_list g L ?_ (by have e:eY=16777216:=rfl;show(e▸M▸N▸af w ⋯));rw[O];show G _ _ _ _ _ _ h T U (.ref (rn i _)))
theorem bF.replicate(r:bQ w a Z v x):∀n:Nat,bF w a Z (aw n v) (aw n x)
 |0=>.nil
 |n+1=>.cons r (bF.replicate r n)
theorem FY(x:Value)(n:Nat)(a:Array Value):rX (λb c:Array Value=>b++c) a (aw n #[x])=a++(aw n x).toArray:=by
 induction n generalizing a with
 |zero=>show(Array.append_empty).symm
 |succ n d=>rw[Hb,e8,d];apply Rj;simp[Hb]
theorem Ky(a:s.heap.get? l=Zs {cls:=.type "list",dict:=Zt,data:=.seq items k,slots:=#[]})
  (b:¬(!mW x)=true)(c:¬items.size*x.toNat>(2^63 - 1) / 8)(e:¬nZ (items.size*x.toNat)=true)
  (f:Q (.ref s.heap.objs.size) {s with heap:=s.heap.push {cls:=.type "list",data:=.seq (rX (λg h=>g++h) #[] (aw (if items.isEmpty=true then 0 else x.toNat) items))}}):
  b8 (cX prog w) A (jJ .Mult (.ref l) (.int x t)) Q E s:=by
 show wpAny_binaryOp_repeat_ref (T:="list") (U:="int") ⋯ ⟨_,a,rfl⟩ (λs'=>typeIs_int s' x t) noFill_list_mul F.fills_int_mul QG repeat_list F.slot_int_index.lookup
   (uu QG (typeIs_int s x t) F.entry_int_rmul (F.args_int_rmul_2 _ _) (int___rmul___int_list x t l items k)
    ⟨a,rfl,⟨_,a,rfl⟩,uu F.slot_list_mul ⟨_,a,rfl⟩ F.entry_list_mul (F.args_list_mul_2 _ _)
     (YB l items k x t b c e)
     ⟨a,f⟩⟩)
theorem mL{u v:V}{n:Nat}{Q:V->Hp->Prop}(q:YJ H u=Zs (.list [v]))(b:n<=1000000)(h:Q (.ref (aa H)) (H++[.list (aw n v)])):j4 C d (xi .Mult) H [u,.int n] Q:=by
 focus
  walk_at "@C d H u v n Q|q b h";show eK (f:=jJ .Mult) (h:=λA φ Z s x y w E rm i B D G=>by
    exact E33 (dE i q B) λl vs k I j J=>?_;subst I;revert j;exact bF.e1 J λx L j=>bQ.gr D λt=>E02 (i.alloc (o:=iJ (aw n x) 0) (c:=.list (aw n v)) rfl λh' g z=>⟨aw n x,0,g,(bF.replicate L n).mono (qd _ _) (.refl _),z⟩) λM N=>?_;have e:rX (λO T:Array Value=>O++T) #[] (aw (if[x].toArray.isEmpty=true then 0 else(n:Int).toNat) [x].toArray)=(aw n x).toArray:=by have:[x].toArray.isEmpty=false:=rfl;rw[this,if_neg ⋯,gw,FY];simp
    have a:=G _ _ _ _ _ _ h M N (.ref (rn i _));change w (.ref s.heap.objs.size) {s with heap:=s.heap.push {cls:=.type "list",data:=.seq (aw n x).toArray}} at a;rw[←e] at a;have m:[x].toArray.size=1:=rfl;have p:s.heap.get? l=Zs {cls:=.type "list",data:=.seq [x].toArray k}:=j;revert p a m;generalize[x].toArray=items;intro a m p;have r:items.size*(n:Int).toNat=n:=by rw[m,gw,Hc]
    have U:¬(!mW (n:Int))=true:=by simp[mW];show dB.mpr (aZ b (by decide:1000000<9223372036854775808))
    have Y:¬items.size*(n:Int).toNat>(2^63 - 1) / 8:=by rw[r];show v8.mpr (af b ⋯)
    have c2:¬nZ (items.size*(n:Int).toNat)=true:=by rw[r];simp[nZ,eY];show af b (aB 1000000 15777216)
    show Ky p U Y c2 a)
end
section
variable{C:Cx}{d:Nat}{Y:nu}{U:YK}{H:Hp}
theorem uJ(O:fy C w y)(n:Y5 C.K f=true)
  (h:wJ C d Y U H args Q)(i:args.all YL=true)(o:ic d A)(p:fX C j Z H s)(L:dO C j Z Y U s)
  (r:∀a H1 b c xs g,Q a H1->fX C b c H1 g->YO [] j Z s b c g->bF C.w b c a xs->b8 (cX C.prog C.w) A (nG f xs []) P E g):
  b8 (cX C.prog C.w) A (callWith pos f [] (uo pos (lq args Y)) []) P E s:=by
 focus
  apply callWith_of (P:=C.K.In) (by rw[YX i];rfl) (vT n);have k:b8 (cX C.prog C.w) A (JK (uo pos (lq args Y))) (λa l=>C.K.In l.heap/\b8 (cX C.prog C.w) A (nG f ([]++a) []) P E l) E s:=h A j Z s _ E pos o p L λa H1 b c xs g q m t u=>⟨O.K.keeps m.oE,r a H1 b c xs g q m t u⟩;cases args with
  |nil=>unfold evalArgs;exact(?_:b8 (cX C.prog C.w) A (JK (uo pos (lq [] Y))>>=_) _ E s);show ao (ly k (λa s' v=>ao (az (cg (ao (az (ao (az (az v)))))))) λz B x=>x)
  |cons e D=>rw[qy,gL] at i;rw[lH i.1] at k⊢;show Fb k
theorem M_{m o:Str->Option Value}(O:fy C m o){x:Str}{i p:Pos}{e:e_}{Q:mC->Hp->Prop}(r:Km C Y U (.Name x i) (.type "reversed"))
  (h:fL C d Y U H e λv H1=>∃l,v= .Zo .tup l/\aa l<=1000000/\Q (.BJ l) H1)(j:autoParam (YL e=true) aT):xd C d Y U H (.Call (.Name x i) [e] [] p) Q:=by
 focus
  walk_at "@C d Y U H m o x i p e Q|O r h j";intro A J M s P E N f L T;exact Call_ (r A J M s H _ E f L ?_);exact uJ O rfl (args:=[e]) (Q:=λc H1=>∃l,c=[.Zo .tup l]/\aa l<=1000000/\Q (.BJ l) H1) (AE (h.mono λv H1 ⟨l,e1,e2,e3⟩=>ar_nil ⟨l,by rw[e1],e2,e3⟩) j) (by simp[j]) N f L λc H1 a1 Z1 xs g q u w k=>?_;ext q⟨l⟩rfl hl q;exact bF.e1 k λy k=>?_;exact bQ.Ay k λa c n z B=>?_;have hg:=u.n_ _ _ z;have D:=B.size;exact sT (items:=c.toArray) hg (by rw[D];show yK hl) λt=>?_;have G:mT (g.heap.push (p9 a ((c.toArray.size:Int) - 1))) g.heap.objs.size a ((aa l:Int) - 1 - (0:Nat)):=⟨_,cx _ rfl,rfl,by rw[D];simp[p9]⟩;apply oG (s:={g with heap:=g.heap.push (p9 a ((c.toArray.size:Int) - 1)),toks:=t}) G;show ra (i:=s) (u.toks t) rfl q (λit H' a0 Z' I fp s' q f X=>T it H' a0 Z' I fp s' q f ((w.trans (.toks t)).trans X)) (λb hb=>w.live b bq hb) ⟨rfl,bz _,hl,a,c,n,z,B,G⟩
theorem EA{B D:Str->Option Value}(O:fy C B D){x:Str}{m G:Pos}{e:e_}{Q:mC->Hp->Prop}(I:Km C Y U (.Name x m) (.type "enumerate"))
  (h:fL C d Y U H e λv H1=>(∃l,YJ H1 v=Zs (.list l))/\Q (.enum v) H1)(p:autoParam (YL e=true) aT):xd C d Y U H (.Call (.Name x m) [e] [] G) Q:=by
 focus
  walk_at "@C d Y U H B D x m G e Q|O I h p";intro A J M s P E N r L T;exact Call_ (I A J M s H _ E r L ?_);exact uJ O rfl (args:=[e]) (Q:=λf H1=>∃v l,f=[v]/\YJ H1 v=Zs (.list l)/\Q (.enum v) H1) (AE (h.mono λv H1 ⟨⟨l,e1⟩,e3⟩=>ar_nil ⟨v,l,rfl,e1,e3⟩) p) (by simp[p]) N r L λf H1 t u xs c q i w j=>?_;walk_at "@A J M s P E f H1 t u xs c|N r L T q i w j";ext q⟨v,l⟩rfl hv q;rcases j with _|⟨j,_|_⟩
  apply E33 (dE i hv j);intro a f n a2 g rs;subst a2;exact call_enumerate_list (items:=f.toArray) ⟨_,g,rfl,_,rfl⟩ λy a0 a3 a4 hk=>?_;apply Qw (s:={c with heap:=y}) a0;have S2:=i.keeps (s':={c with heap:=y}) hk rfl rfl;have X2:YO [] t u c t u {c with heap:=y}:=.keeps hk;have a1:∀b,c.heap.objs.size<=b->¬Al c b:=λb k ⟨o,e⟩=>v8.mpr k (d9 e);exact T _ _ _ _ _ [c.heap.objs.size+1,c.heap.objs.size] _ q S2 (w.trans X2) ⟨c.heap.objs.size,a,.none,rfl,Nat.succ_ne_self _,j,a0,a3⟩ λb k=>?_;have z:¬Al c b:=by
   rcases bb.mp k with rfl|k
   show a1 _ o7;rw[au.mp k];show a1 _ (ax _)
  show⟨λh=>z (i.old _ h),i.VH z,λh=>z (w.live b bq h)⟩
end
noncomputable def HX(S:Nat->Prop)(H U:Hp):Prop:=aa U=aa H/\∀j c,H[j]?=Zs c->(S j->U[j]?=Zs .dead)/\(¬S j->∃a,U[j]?=Zs a/\lJ S H c a)
section
variable{C:Cx}{d:Nat}{O:nu}{T Q:YK}{H U:Hp}{Y:List Addr}{Z:Zp}{s:bc}{S:Nat->Prop}
theorem HY(c:fX C Y Z H s)(e:¬S j)(b:Y[j]?=Zs a)(f:Z a=Zt):vS S Y Z s.heap a=Zt:=by unfold vS;rw[if_neg];show f;intro g;exact E12 g λi h k=>?_;have:=(cj (ae.mp b).1 c.nodup).mp (b.trans k.symm);subst this;show e h
theorem Na(d:fX C Y Z H s)(h:HX S H U):fX C Y (vS S Y Z s.heap) U s/\YO [] Y Z s Y (vS S Y Z s.heap) s:=by
 walk_at "@C H U Y Z s S|d h";have l:Br Z (vS S Y Z s.heap):=rf d;exact⟨⟨by rw[d.len,h.1],d.nodup,λj c a f g=>?_,d.old,λa o e=>?_,λa o e=>l _ _ (d.base a o e),d.gens,d.os⟩,⟨.refl _,l,λb z f g=>?_,λb h p=>absurd h p,λb m h=>h,λb o m A e=>e⟩⟩;have n:j<aa H:=by rw[←h.1];show(ae.mp f).1
 exact E02 (h.2 j H[j] (ag n)) λq r=>?_;by_cases k:S j;rw[q k] at f;have t:=Option.some.inj f;clear f;subst t;trivial;exact E12 (r k) λB u v=>?_;rw[u] at f;have w:=Option.some.inj f;clear f;subst w;show v.at d (λi a m e=>e) (HY d k g) (d.cells j _ a (ag n) g);unfold vS at e;split at e;show e;show d.n_ a o e;unfold vS;rw[if_neg];intro x;show E12 x λi D y=>g (aC.mpr ⟨i,y⟩)
noncomputable def EB(S:Nat->Prop)(H:Hp)(T Q:YK):Prop:=∀x t,Q.lookup x=Zs t->∃v,T.lookup x=Zs v/\fE S H v t
theorem dO.fz(L:dO C Y Z O T s)(g:fX C Y Z H s)(h:EB S H T Q):dO C Y (vS S Y Z s.heap) O Q s:=by walk_at "@C O T Q H Y Z s S|L g h";exact⟨L.kind,L.qZ,L.yL,?_,λn c p=>?_,λx v d=>?_,λb q=>?_,L.nodup⟩;show E12 L.ns λm u r=>cU m u (λx t d f=>E12 (h x t d) (λv e j=>E12 (r x v e f) (λy k l=>cU y k (j.rel g (λi a w e=>e) l))));show E12 (L.cl n c p) λo z r=>cU o z (λx t A d f=>E12 (h x t d) (λv e j=>E12 (r x v A e f) (λy k l=>cU y k (j.rel g (λi a w e=>e) l))));show E12 (h x v d) λB e _=>L.has x B e;exact E03 (L.own b q) λd f D=>⟨d,?_,D⟩;unfold vS;rw[if_neg];show f;intro E;show E12 E λi I G=>d (aC.mpr ⟨i,G⟩)
theorem LJ(S:Nat->Prop)(b:HX S H U)(c:EB S H T Q)(h:gM C d O Q U e f):gM C d O T H e f:=by
 focus
  intro A Y Z s g E i a L j;show E02 (Na a b) λk l=>h A Y _ s g E i k (L.fz a c) (j.trans (l.weak (λm=>nm)))
end
mutual
noncomputable def V.pure:V->Bool
 | .ref _=>false
 | .obj _ _=>false
 | .Zo _ l=>V.fv l
 |_=>true
noncomputable def V.fv:List V->Bool
 |[]=>true
 |v::l=>V.pure v&&V.fv l
end
theorem fE.pure(h:v.pure=true):fE S H v v:=
 V.rec (motive_1:=λv=>v.pure=true->fE S H v v) (motive_2:=λl=>V.fv l=true->dQ S H l l) (λa=>.none) (λa b=>.bool _) (λa b=>.int _) (λa b=>.str _) (λa h=>Bool.noConfusion (show false=true from h)) (λa b h=>Bool.noConfusion (show false=true from h))
  (λa b c h=>.Zo (c h)) (λa=>.nil) (λa b c e h=>have h:=dC.mp h;.cons (c h.1) (e h.2)) v h
theorem dQ.pure(h:V.fv l=true):dQ S H l l:=by
 induction l with
 |nil=>show .nil
 |cons v l a=>show .cons (fE.pure (dC.mp h).1) (a (dC.mp h).2)
theorem V.dF{b:Type}{f:b->V}(h:∀a,(f a).pure=true):∀l:List b,V.fv (l.map f)=true
 |[]=>rfl
 |a::l=>by rw[ck,V.fv,h a,V.dF h l];rfl
theorem V.zp:V.fv l=true↔∀v∈l,v.pure=true:=by
 induction l with
 |nil=>trivial
 |cons v l a=>simp[V.fv,a]
noncomputable def Sub:YK->YK->Prop
 |[],_=>True
 |(x,v)::r,l=>l.lookup x=Zs v/\Sub r l
@[reducible] noncomputable def XQ(l:YK)(p:String×V):Option V:=l.lookup p.1
@[reducible] noncomputable def XR(p:String×V):Option V:=Zs p.2
theorem Sub.ofM(h:a.map (XQ l)=a.map XR):Sub a l:=by
 induction a with
 |nil=>trivial
 |cons p r b=>show⟨(List.cons.inj h).1,b (List.cons.inj h).2⟩
theorem Sub.cI(h:l.lookup x=Zs v)(k:Sub r l):Sub ((x,v)::r) l:=⟨h,k⟩
set_option tactic.hygienic true in
theorem Sub.get{a l:YK}(h:Sub a l):∀x v,a.lookup x=Zs v->l.lookup x=Zs v:=by
 intro x v hx;induction a with
 |nil=>cases hx
 |cons p r b=>
  obtain⟨y,u⟩:=p;rw[cq] at hx;split at hx
  ·rename_i e;have c:=Option.some.inj hx;clear hx;subst c;rw[beq_iff_eq.mp e];show h.1
  show b h.2 hx
theorem Sub.of(h:∀x v,(x,v)∈a->l.lookup x=Zs v):Sub a l:=by
 induction a with
 |nil=>trivial
 |cons p r b=>show⟨h _ _ (.head _),b λx v c=>h x v (.tail _ c)⟩
section
variable{C:Cx}{d:Nat}{Y:nu}{U:YK}{H:Hp}
noncomputable abbrev Y_(a l:YK):Prop:=∀x v,a.lookup x=Zs v->l.lookup x=Zs v
theorem PO(h:gM C d Y U H c λf l b=>∃a,Y_ a l/\Q f a b):gM C d Y U H c Q:=by
 focus
  show λA e g s i E j k L m=>h A e g s i E j k L λf l b n o x s' ⟨a,p,q⟩ t u v r=>m f a b n o x s' q t u (v.weak p) r
theorem xq{c:kh}{Q:Fl->YK->Hp->Prop}(h:pd C d Y U H c λf l b=>∃a,Y_ a l/\Q f a b):pd C d Y U H c Q:=by
 focus
  show λA e g s i E j k L m=>h A e g s i E j k L λf l b n o x s' ⟨a,p,q⟩ t u v r=>m f a b n o x s' q t u (v.weak p) r
theorem EC(h:tR C d Y a H t v Q)(b:Y_ a U):tR C d Y U H t v Q:=by
 focus
  show λA c e s x f E g i L r j=>h A c e s x f E g i (L.weak b) r j
theorem VI(h:gM C d Y a H b Q)(c:Sub a U):gM C d Y U H b Q:=by
 focus
  show Et h c.get
theorem Kz(h:q8 C d Y a H t Q)(b:Y_ a U):q8 C d Y U H t Q:=by
 focus
  show λA c e s f E g i L j=>h A c e s f E g i (L.weak b) j
noncomputable abbrev oJ(Inv:Nat->YK->Hp->Prop)(k:Nat)(Q:Fl->YK->Hp->Prop):Fl->YK->Hp->Prop:=λf a b=>match f with
 | .next| .cont=>∃c,Sub c a/\Inv (k+1) c b
 | .brk=>Q .next a b
 | .ret v=>Q (.ret v) a b
theorem kX{j m:e_}{o:List kh}{M:Pos}{Q:Fl->YK->Hp->Prop}(N:Nat)(Inv:Nat->YK->Hp->Prop)
  (h:xd C d Y U H m λi H1=>i.target j/\(∃c,Sub c U/\Inv 0 c H1)/\∀k c g,k<=N->Inv k c g->i.ok g/\(i.next g k=Zt->Q .next c g)/\∀v,i.next g k=Zs v->k<N/\tR C d Y c g j v λp t=>gM C d Y p t o (oJ Inv k Q))
  (O:autoParam (∀x,de m Y x=pure x) aP):pd C d Y U H (.For j m o [] M) Q:=by
 focus
  walk_at "@C d Y U H j m o M Q N Inv|h O";exact xq (HN (λA u w s y E z B L D=>h A u w s y E z B L λi H1 a0 Z' I fp s' q=>D i H1 a0 Z' I fp s' (E03 q (λht a1 a2=>E12 a1 (λc a3 h0=>⟨ht,N,λk l g=>k<=N/\∃c,Y_ c l/\Inv k c g,⟨bz _,c,a3.get,h0⟩,λk l g a4=>E02 a4 (λhk a5=>E12 a5 (λc T hi=>E03 (a2 k c g hk hi) (λg1 g2 g3=>⟨g1,λhn=>⟨c,T,g2 hn⟩,λv hv=>E02 (g3 v hv) (λG g5=>⟨G,EC (λA u w s x y E z B L r D=>g5 A u w s x y E z B L r λp t a6 Z2 s2 q2=>D p t a6 Z2 s2 (q2.mono λf l3 H3 n=>?_)) T⟩)⟩)))⟩)))) O);cases f with
  |next=>ext n⟨J⟩a b;show⟨G,J,a.get,b⟩
  |cont=>ext n⟨J⟩a b;show⟨G,J,a.get,b⟩
  |brk=>show cU l3 (λ_a _b e=>e) n
  |ret v=>show cU l3 (λ_a _b e=>e) n
theorem KD{m:Type}(f:m->V)(l:List m)(Inv:Nat->YK->Hp->Prop)
  (h:fL C d Y U H n λv H1=>(∃b,Sub b U/\Inv 0 b H1)/\∀k b c,Inv k b c->YJ c v=Zs (.list (l.map f)))
  (r:∀k a b c,l[k]?=Zs a->Inv k b c->tR C d Y b c s (f a) λt u=>gM C d Y t u w (oJ Inv k Q))
  (y:∀b c,Inv (aa l) b c->Q .next b c)
  (z:autoParam (∀x,de n Y x=pure x) aP):pd C d Y U H (.For s n w [] pos) Q:=by
 focus
  exact kX (aa l) Inv (iK (h.mono λv H1 ⟨⟨b,A,o⟩,p⟩=>⟨⟨_,p 0 b H1 o⟩,trivial,⟨b,A,o⟩,λk b c B i=>?_⟩)) z;have j:=p k b c i;exact⟨⟨_,j⟩,λg=>?_,λE g=>?_⟩;simp only[mC.next,j] at g;have:aa l<=k:=by simpa using g
  have e:k=aa l:=bt B this;subst e;show y _ _ i;simp only[mC.next,j] at g;rw[ak] at g;exact E12 (bg.mp g) λa q D=>?_;subst D;show⟨(ae.mp q).1,r k a b c q i⟩
theorem KH{i:Type}(f:i->V)(l:List i)(Inv:Nat->YK->Hp->Prop)
  (h:fL C d Y U H j λv H1=>(∃b,Sub b U/\Inv 0 b H1)/\v= .Zo .tup (l.map f))
  (o:∀k a b c,l[k]?=Zs a->Inv k b c->tR C d Y b c p (f a) λq r=>gM C d Y q r s (oJ Inv k Q))
  (t:∀b c,Inv (aa l) b c->Q .next b c)
  (u:autoParam (∀x,de j Y x=pure x) aP):pd C d Y U H (.For p j s [] pos) Q:=by
 focus
  exact kX (aa l) Inv (HM (h.mono λv H1 ⟨⟨b,w,y⟩,z⟩=>⟨_,z,trivial,⟨b,w,y⟩,λk b c A m=>⟨trivial,λg=>?_,λD g=>?_⟩⟩)) u;simp only[mC.next] at g;have:aa l<=k:=by simpa using g
  have e:k=aa l:=bt A this;subst e;show t _ _ m;simp only[mC.next] at g;rw[ak] at g;exact E12 (bg.mp g) λa n B=>?_;subst B;show⟨(ae.mp n).1,o k a b c n m⟩
theorem KI(n:Nat)(Inv:Nat->YK->Hp->Prop)
  (h:fL C d Y U H g λv H1=>(∃a,Sub a U/\Inv 0 a H1)/\n<=1000000/\v= .Zo (.wI n) [])
  (j:∀k a c,k<n->Inv k a c->tR C d Y a c l (.int k) λm o=>gM C d Y m o p (oJ Inv k Q))
  (q:∀a c,Inv n a c->Q .next a c)
  (r:autoParam (∀x,de g Y x=pure x) aP):pd C d Y U H (.For l g p [] pos) Q:=by
 focus
  exact kX n Inv (vk (h.mono λv H1 ⟨⟨a,s,t⟩,b,u⟩=>⟨n,u,af b (aB 1000000 15777216),trivial,⟨a,s,t⟩,λk a c w i=>⟨trivial,λb=>?_,λz b=>?_⟩⟩)) r;simp only[mC.next] at b;have:¬k<n:=λf=>by rw[if_pos f] at b;cases b
  have e:k=n:=bt w (bS this);subst e;show q _ _ i;simp only[mC.next] at b;by_cases f:k<n;rw[if_pos f] at b;have y:=Option.some.inj b;clear b;subst y;show⟨f,j k a c f i⟩;rw[if_neg f] at b;cases b
theorem AP{m:Type}(f:m->YI)(l:List m)(Inv:Nat->YK->Hp->Prop)
  (h:fL C d Y U H n λv H1=>(∃b,Sub b U/\Inv 0 b H1)/\∃j,v= .Zo (.dict (l.map f)) j)
  (p:∀k a b g,l[k]?=Zs a->Inv k b g->tR C d Y b g q (f a).toV λr s=>gM C d Y r s t (oJ Inv k Q))
  (u:∀b g,Inv (aa l) b g->Q .next b g)
  (w:autoParam (∀x,de n Y x=pure x) aP):pd C d Y U H (.For q n t [] pos) Q:=by
 focus
  exact kX (aa l) Inv (wL (h.mono λv H1 ⟨⟨b,y,z⟩,j,A⟩=>⟨_,j,A,trivial,⟨b,y,z⟩,λk b g B o=>⟨trivial,λc=>?_,λE c=>?_⟩⟩)) w;simp only[mC.next] at c;have:aa l<=k:=by simpa using c
  have e:k=aa l:=bt B this;subst e;show u _ _ o;simp only[mC.next] at c;rw[ak] at c;cases i:l[k]? with
  |none=>rw[i] at c;cases c
  |some a=>rw[i] at c;have D:=Option.some.inj c;clear c;subst D;show⟨(ae.mp i).1,p k a b g i o⟩
theorem KJ(O:fy C L M){j:Type}(f:j->V)(l:List j)(Inv:Nat->YK->Hp->Prop)
  (o:Km C Y U (.Name x m) (.type "reversed"))
  (h:fL C d Y U H e λv H1=>(∃b,Sub b U/\Inv 0 b H1)/\aa l<=1000000/\v= .Zo .tup (l.map f))
  (p:∀k a b g,l.reverse[k]?=Zs a->Inv k b g->tR C d Y b g q (f a) λr s=>gM C d Y r s t (oJ Inv k Q))
  (u:∀b g,Inv (aa l) b g->Q .next b g)(w:autoParam (YL e=true) aT)
  (z:autoParam (∀y,de (.Call (.Name x m) [e] [] A) Y y=pure y) aI):pd C d Y U H (.For q (.Call (.Name x m) [e] [] A) t [] pos) Q:=by
 focus
  exact kX (aa l) Inv (M_ O o (h.mono λv H1 ⟨⟨b,B,D⟩,N,E⟩=>⟨_,E,NT ∅,trivial,⟨b,B,D⟩,λk b g G n=>⟨trivial,λc=>?_,λT c=>?_⟩⟩) w) z;simp only[mC.next,aq] at c;have:¬k<aa l:=λi=>by
   rw[if_pos i] at c;have:(l.map f).length<=aa l - 1 - k:=by simpa using c
   rw[aq] at this;show bf _ (aZ this (aZ (dh _ _) (bH i)))
  have e:k=aa l:=bt G (bS this);subst e;show u _ _ n;simp only[mC.next,aq] at c;by_cases i:k<aa l;rw[if_pos i,ak] at c;exact E12 (bg.mp c) λa I J=>?_;subst J;exact⟨i,p k a b g ?_ n⟩;rw[Fe i];show I;rw[if_neg i] at c;cases c
theorem KN(O:fy C M N){n:Type}(f:n->V)(l:List n)(Inv:Nat->YK->Hp->Prop)
  (s:Km C Y U (.Name x o) (.type "enumerate"))
  (h:fL C d Y U H e λv H1=>(∃b,Sub b U/\Inv 0 b H1)/\∀k b c,Inv k b c->YJ c v=Zs (.list (l.map f)))
  (t:∀k a b c,l[k]?=Zs a->Inv k b c->tR C d Y b c p (.Zo .tup [.int k,f a]) λu w=>gM C d Y u w z (oJ Inv k Q))
  (A:∀b c,Inv (aa l) b c->Q .next b c)(B:autoParam (YL e=true) aT)(D:autoParam (De p) aTup)
  (E:autoParam (∀y,de (.Call (.Name x o) [e] [] G) Y y=pure y) aI):pd C d Y U H (.For p (.Call (.Name x o) [e] [] G) z [] pos) Q:=by
 focus
  exact kX (aa l) Inv (EA O s (h.mono λv H1 ⟨⟨b,I,q⟩,r⟩=>⟨⟨_,r 0 b H1 q⟩,D,⟨b,I,q⟩,λk b c J j=>?_⟩) B) E;have m:=r k b c j;exact⟨⟨_,m⟩,λg=>?_,λT g=>?_⟩;simp only[mC.next,m] at g;have:aa l<=k:=by simpa using g
  have e:k=aa l:=bt J this;subst e;show A _ _ j;simp only[mC.next,m] at g;rw[ak] at g;cases i:l[k]? with
  |none=>rw[i] at g;cases g
  |some a=>rw[i] at g;have L:=Option.some.inj g;clear g;subst L;show⟨(ae.mp i).1,t k a b c i j⟩
theorem Nb(I:Nat->YK->Hp->Prop)
  (r:∀n g H,I n g H->q8 C d Y g H t λb H1=>if b then gM C d Y g H1 u (λf i k=>match f with
    | .next| .cont=>∃m j,m<n/\Sub j i/\I m j k
    | .brk=>Q .next i k
    | .ret v=>Q (.ret v) i k) else Q .next g H1)
  (n:Nat)(g:YK)(w:Sub g U)(h:I n g H):pd C d Y U H (.While t u [] pos) Q:=by
 focus
  exact xq (HF (λn l x=>∃g,Y_ g l/\I n g x) (λn l H y=>E12 y (λg p z=>Kz (Q:=_) (λA B D s G E J M L N=>r n g H z A B D s G E J M L λb H1 O T s' q=>N b H1 O T s' ?_) p)) n ⟨g,w.get,h⟩);cases b;show cU g p q
  ·exact Et (gM.mono q λf i k o=>?_) p;cases f with
   |next=>ext o⟨m,j⟩a b c;show⟨m,a,j,b.get,c⟩
   |cont=>ext o⟨m,j⟩a b c;show⟨m,a,j,b.get,c⟩
   |brk=>show cU i (λ_a _b e=>e) o
   |ret v=>show cU i (λ_a _b e=>e) o
end
noncomputable def dz(l:YK):List (YI×V):=l.map λp=>(vn p.1,p.2)
noncomputable abbrev xr(c:Addr)(l:YK):V:=.Zo (.obj c (l.map λp=>ah p.1)) (l.map (·.2))
theorem xt(l:YK):((dz l).all λp=>p.1.isStr)=true:=by unfold dz;rw[gN,cT];intro p _;rfl
theorem BZ(h:vn a=vn b):a=b:=lG (YI.str.inj h)
theorem vX(l:YK)(x:String):(dz l).lookup (vn x)=l.lookup x:=by
 induction l with
 |nil=>rfl
 |cons p r a=>obtain⟨y,u⟩:=p;exact(?_:nv (vn x) ((vn y,u)::dz r)=_);rw[cq,cq,a];by_cases e:x=y;subst e;simp;have b:(x==y)=false:=if_neg ∅;have c:(vn x==vn y)=false:=beq_eq_false_iff_ne.mpr λh=>e (BZ h);rw[b,c]
theorem HZ(l:YK)(x:String)(v:V):nK (dz l) (vn x) v=dz (YV l x v):=by
 induction l with
 |nil=>rfl
 |cons p r a=>obtain⟨y,u⟩:=p;exact(?_:nK ((vn y,u)::dz r) (vn x) v=_);simp only[nK,YV];by_cases e:y=x;subst e;simp[dz];rw[if_neg (λh=>e (BZ h)),if_neg e,a];rfl
theorem H8(l:YK):(dz l).length=aa l:=aq _
theorem kO(H:Hp)(c:Addr)(l:YK):YN H (xr c l)=Zs (c,dz l):=by
 exact(?_:Zs (c,((l.map λp=>ah p.1).map YI.str).zip (l.map (·.2)))=_);congr 2;rw[bE];unfold dz;induction l with
 |nil=>rfl
 |cons p r a=>simp only[ck,vK,a];rfl
theorem nN(h:H[i]?=Zs (.dict (dz l))):YN H (.obj c i)=Zs (c,dz l):=(congrArg (λo:Option YF=>match o with|some (.dict kvs)=>Zs (c,kvs)|_=>Zt) h).trans rfl
theorem fE.FZ(b:S i)(f:H[i]?=Zs (.dict (dz l)))(h:dQ S H (l.map (·.2)) (a.map (·.2)))(g:autoParam (l.map (·.1)=a.map (·.1)) aR):fE S H (.obj c i) (xr c a):=by
 exact .obj b f ?_ ?_;unfold dz;have e:a.map (λp=>ah p.1)=l.map (λp=>ah p.1):=by have:=congrArg (NO ah) g;rw[bE,bE] at this;show this.symm
 rw[e,bE,bE];rfl;have e:(dz l).map (·.2)=l.map (·.2):=by unfold dz;rw[bE];rfl
 rw[e];show h
structure Bt(C:Cx)(mg:Str->Option Value)(name:String)(c:Addr)(fields:List String):Prop where
 g:mg (ah name)=Zs (.ref c)
 ok:BM C c
 fld:∀f∈fields,oe C.K (.ref c) (ah f)=Zs Zt
structure H9(C:Cx)(c:Addr)(name:String)(fa:Addr):Prop where
 find:oe C.K (.ref c) (ah name)=Zs (Zs (.ref fa))
 typ:Oi C.K (.ref fa)=Zs (.type "function")
 k:yD C.K (.ref fa)=true
section
variable{C:Cx}{d:Nat}{Y:nu}{U:YK}{H:Hp}{mg mb:Str->Option Value}
theorem PQ(O:fy C mg mb)(a:Bt C mg k c e)
  (h:fL C d Y U H o λb H1=>∃l v,YN H1 b=Zs (c,dz l)/\l.lookup name=Zs v/\Q v H1)(f:autoParam (e.contains name=true) aT)
  (g:autoParam (kg o (ah name) Y (eval o Y)=eval o Y) aR):fL C d Y U H (.Attribute o (ah name) pos) Q:=by
 focus
  show Kr O (h.mono λb H1 h=>E23 h λl v i j q=>⟨c,dz l,v,i,xt l,a.ok,a.fld _ (Ff.mp f),(vX l name).trans j,q⟩) g
theorem H_(O:fy C mg mb)(a:Bt C mg m c e)
  (h:fL C d Y U H o λb H1=>∃i l,b= .obj c i/\H1[i]?=Zs (.dict (dz l))/\aa l<=900/\Q U (H1.set i (.dict (dz (YV l name v)))))(f:autoParam (e.contains name=true) aT):
  tR C d Y U H (.Attribute o (ah name) pos) v Q:=by
 focus
  show Kn (h.mono λb H1 h=>by ext h⟨i,l⟩g j k q;subst g;apply Dg O a.ok (a.fld _ (Ff.mp f)) j (xt l) (decide_eq_true (by rw[H8];show k));rw[HZ];show q)
theorem Nc(O:fy C mg mb)(e:Bt C mg s c t)(M:H9 C c name b)
  (h:fL C d Y U H o λa H1=>∃l,YN H1 a=Zs (c,dz l)/\l.lookup name=Zt/\wJ C d Y U H1 args λf g=>gh C d (.ref b) g (a::f) Q)
  (i:autoParam (args.all YL=true) aT)(j:autoParam (decide (aa args<30)=true) aT)(k:autoParam ((m.endLine==pos.line)=true) aT)
  (n:autoParam (kg o (ah name) Y (eval o Y)=eval o Y) aR):fL C d Y U H (.Call (.Attribute o (ah name) m) args [] pos) Q:=by
 focus
  show Ew O (h.mono λa H1 h=>E13 h λl p r q=>⟨.ref b,HS O p (xt l) e.ok M.find M.typ (by rw[←ey];show(vX l name).trans r),M.k,q⟩) i j k n
end
theorem fY{a Q:Prop}(h:c=true)(p:a):if c=true then a else Q:=by rw[if_pos h];show p
theorem WC{a Q:Prop}(b:c=true->a)(e:c=false->Q):if c=true then a else Q:=by cases c;show e rfl;show b rfl
theorem eU{a Q:Prop}(h:c=false)(q:Q):if c=true then a else Q:=by rw[if_neg (by rw[h];decide)];show q
noncomputable def rp(a:mC)(H1:Hp)(xs:List V):Prop:=∀T k,a.ok (H1++T)/\a.next (H1++T) k=xs[k]?
noncomputable def tX(H1:Hp)(v:V)(l:List V):Prop:=∀T,YJ (H1++T) v=Zs (.list l)
theorem fH:tX H1 (.Zo .list l) l:=λa=>rfl
theorem xu(h:H1[i]?=Zs (.list l)):tX H1 (.ref i) l:=λT=>by exact(?_:(H1++T)[i]?=_);rw[ar (ae.mp h).1];show h
theorem tX.now(h:tX H1 v l):YJ H1 v=Zs (.list l):=by have:=h [];rwa [dY] at this
theorem ie(h:tX H1 v l):rp (.list v) H1 l:=λT k=>⟨⟨l,h T⟩,by simp only[mC.next,h T]⟩
theorem QY:rp (.tup l) H1 l:=λT k=>⟨trivial,rfl⟩
theorem wN:rp (.wI n) H1 ((aJ n).map V.Zn):=λT k=>⟨trivial,by simp only[mC.next,ak];by_cases h:k<n;rw[if_pos h,dP h];rfl;rw[if_neg h,cH (by simpa using h)];rfl⟩
theorem xw:rp (.keys ks) H1 (ks.map YI.toV):=λT k=>⟨trivial,by simp only[mC.next,ak]⟩
theorem Ia(h:tX H1 v l):rp (.enum v) H1 (l.zipIdx.map λp=>.Zo .tup [.Zn p.2,p.1]):=λT k=>⟨⟨l,h T⟩,by simp only[mC.next,h T,ak,cb];cases l[k]?<;>simp⟩
theorem se{a:Hp}{c:YF}{T:Hp}:(a++c::T)[aa a]?=Zs c:=by simp
theorem xx{a:Hp}{c b:YF}{T:Hp}:(a++c::T).set (aa a) b=a++b::T:=by simp
section
variable{C:Cx}{d:Nat}{H:Hp}
theorem xy{f:Addr->nu}{l:YK}{m n:e_}{o:mC}{H1:Hp}{xs a:List V}{Q:Hp->Prop}(q:rp o H1 xs)(g:aa a=aa xs)(c:aa xs<=1000000)
  (h:∀(k:Nat) (x y:V),xs[k]?=Zs x->a[k]?=Zs y->∀b Cl,∃i,td (f Cl) l m x i/\fL C d (f Cl) i (H1++[.list b]) n λr s=>r=y/\s=H1++[.list b])
  (t:Q (H1++[.list a])):tT C d f l m n [] o (aa H1) (aa xs) (λk b u=>k<=aa xs/\b=a.take k/\u=H1++[.list b]) Q:=by
 focus
  walk_at "@C d f l m n o H1 xs a Q|q g c h t";intro k b u;ext _ w rfl rfl;walk_at "@k|w";apply E02 (q [.list (a.take k)] k);intro B z;exact⟨se,by simp;show af (fF _ _) (af w (af c ⋯)),B,λc=>?_,λv p=>?_⟩;rw[z] at c;have:aa xs<=k:=by simpa using c
  rw[iu (le_of_eq_of_le g this)];show t;rw[z] at p;have j:=(ae.mp p).1;exact⟨j,λCl=>?_⟩;have A:a[k]?=Zs (a[k]'(o2 j g)):=ag _;apply E12 (h k v _ p A (a.take k) Cl);intro i D E;apply cU i D;exact(?_:fL _ _ _ _ _ _ _);exact E.mono λr s ⟨G,H⟩=>?_;subst G;subst H;have e:a.take (k+1)=a.take k++[a[k]'(o2 j g)]:=by rw[fN,A];rfl
  show⟨se,j,e.symm,by rw[xx]⟩
theorem yR{f:Addr->nu}{j:YK}{l m n:e_}{o:mC}{H1:Hp}{xs:List V}{p:V->Bool}{Q:Hp->Prop}(y:rp o H1 xs)(g:aa xs<=1000000)
  (h:∀(k:Nat) (x:V),xs[k]?=Zs x->∀a Cl,∃c,td (f Cl) j l x c/\q8 C d (f Cl) c (H1++[.list a]) n λb q=>b=p x/\q=H1++[.list a]/\(p x=true->fL C d (f Cl) c (H1++[.list a]) m λr z=>r=x/\z=H1++[.list a]))
  (B:Q (H1++[.list (xs.filter p)])):tT C d f j l m [n] o (aa H1) (aa xs) (λk a D=>k<=aa xs/\a=(xs.take k).filter p/\D=H1++[.list a]) Q:=by
 focus
  walk_at "@C d f j l m n o H1 xs p Q|y g h B";intro k a D;ext _ J rfl rfl;walk_at "@k|J";apply E02 (y [.list ((xs.take k).filter p)] k);intro M G;exact⟨se,af (fc p _) (by rw[bP];show af (dX _ _) (af g ⋯)),M,λg=>?_,λv i=>?_⟩;rw[G] at g;have:aa xs<=k:=by simpa using g
  rw[iu this];show B;walk_at "@v|i";rw[G] at i;have t:=(ae.mp i).1;exact⟨t,λCl=>?_⟩;walk_at "@Cl";apply E12 (h k v i ((xs.take k).filter p) Cl);intro c H I;walk_at "@c|H I";have e:xs.take (k+1)=xs.take k++[v]:=by rw[fN,i];rfl
  apply cU c H;exact(?_:q8 _ _ _ _ _ _ _);intro A N O s T E U Y L hp;exact I A N O s T E U Y L λb q a0 Z' s' ⟨e1,e2,e3⟩=>hp b q a0 Z' s' ?_;subst e1;subst e2;cases u:p v with
  |true=>
   rw[if_pos rfl];exact(e3 u).mono λr z ⟨g1,g2⟩=>?_;subst g1;subst g2;have w:(xs.take (k+1)).filter p=(xs.take k).filter p++[r]:=by rw[e,iF];simp[u]
   show⟨se,t,w.symm,by rw[xx]⟩
  |false=>
   rw[if_neg ⋯];have w:(xs.take (k+1)).filter p=(xs.take k).filter p:=by rw[e,iF];simp[u]
   show⟨t,w.symm,rfl⟩
theorem B0{b:Addr->nu}{c:YK}{f:e_}{m:Pos}{g:mC}{H1:Hp}{xs:List V}{Q:Hp->Prop}(n:rp g H1 xs)(a:aa xs<=1000000)
  (h:∀x Cl,∃j,td (b Cl) c f x j)
  (o:Q (H1++.list ((aJ (aa xs)).map λi=>.ref (aa H1+1+i))::aw (aa xs) (.list []))):
  tT C d b c f (.List [] m) [] g (aa H1) (aa xs) (λk l p=>k<=aa xs/\l=(aJ k).map (λi=>.ref (aa H1+1+i))/\p=H1++.list l::aw k (.list [])) Q:=by
 focus
  walk_at "@C d b c f m g H1 xs Q|n a h o";intro k l p;ext _ hk rfl rfl;apply E02 (n (.list ((aJ k).map λi=>.ref (aa H1+1+i))::aw k (.list [])) k);intro t q;exact⟨se,by simp;show af hk (af a (aB 1000000 15000000)),t,λa=>?_,λv r=>?_⟩;rw[q] at a;have:aa xs<=k:=by simpa using a
  have:k=aa xs:=bt hk this;subst this;show o;rw[q] at r;have s:=(ae.mp r).1;exact⟨s,λCl=>?_⟩;apply E11 (h v Cl);intro j u;apply cU j u;exact(?_:fL _ _ _ _ _ _ _);exact Er (ar_nil ⟨by simp,?_⟩);have e:H1++.list ((aJ k).map λi=>.ref (aa H1+1+i))::aw k (.list [])++[.list []]=H1++YF.list ((aJ k).map λi=>.ref (aa H1+1+i))::aw (k+1) (.list []):=by rw[List.replicate_succ',av];rfl
  have w:(H1++YF.list ((aJ k).map λi=>.ref (aa H1+1+i))::aw k (.list [])).length=aa H1+1+k:=by simp;show O7
  rw[e,w];exact⟨se,s,?_,by rw[xx]⟩;rw[gY,bo];rfl
theorem mY{scope:qM}{b:List (Str×Addr)}{c:nu}{g:YK}{nm:String}{i:Pos}{j:e_}{e:mC}{H1:Hp}{xs f:List V}{Q:V->Hp->Prop}(l:e.target (.Name (ah nm) i))(m:rp e H1 xs)(n:aa f=aa xs)(o:aa xs<=1000000)
  (h:∀(k:Nat) (x y:V),xs[k]?=Zs x->f[k]?=Zs y->∀a Cl,fL C d (fV scope b Cl c) (YV g nm x) (H1++[.list a]) j λp q=>p=y/\q=H1++[.list a])
  (r:Q (.ref (aa H1)) (H1++[.list f]))(s:autoParam (∀Cl,(fV scope b Cl c).kindOf (ah nm)=Zs .local) aL1):QX C d scope b c g (.Name (ah nm) i) j [] Q e H1:=by
 focus
  show⟨l,_,_,⟨bz _,rfl,rfl⟩,xy m n o (λk x y t u a Cl=>⟨_,.name (s Cl),h k x y t u a Cl⟩) r⟩
theorem AQ{scope:qM}{b:List (Str×Addr)}{c:nu}{f:YK}{nm:String}{e g:Pos}{a:mC}{H1:Hp}{xs:List V}{Q:V->Hp->Prop}(h:a.target (.Name (ah nm) e))(j:rp a H1 xs)(k:aa xs<=1000000)
  (l:Q (.ref (aa H1)) (H1++.list ((aJ (aa xs)).map λi=>.ref (aa H1+1+i))::aw (aa xs) (.list [])))(m:autoParam (∀Cl,(fV scope b Cl c).kindOf (ah nm)=Zs .local) aL1):QX C d scope b c f (.Name (ah nm) e) (.List [] g) [] Q a H1:=by
 focus
  show⟨h,_,_,⟨bz _,rfl,rfl⟩,B0 j k (λx Cl=>⟨_,.name (m Cl)⟩) l⟩
end
section
@[reducible] noncomputable def tQ{U N O:Type}(M:yv)(A:eN)(E:Value->bc->Prop)(s:bc)(f:N->StateT U Bk O)(Q:O->U->Prop):N->U->Prop:=λa b=>tL M A E s (f a) Q b
section
variable{M:yv}{A:eN}{E:Value->bc->Prop}{s:bc}{U N O:Type}{Q:O->U->Prop}{Y:U}
theorem wB(h:tL M A E s m (tQ M A E s f Q) Y):tL M A E s (m>>=f) Q Y:=fJ h
theorem jk[Decidable c](h:c)(k:tL M A E s m Q Y):tL M A E s (if c then m else a) Q Y:=by rw[if_pos h];show k
theorem jS[Decidable c](h:¬c)(k:tL M A E s a Q Y):tL M A E s (if c then m else a) Q Y:=by rw[if_neg h];show k
theorem F6(h:c=false)(k:tL M A E s a Q Y):tL M A E s (if c=true then m else a) Q Y:=jS (by rw[h];decide) k
end
theorem neM:Nonempty yv:=neW.elim λw=>⟨cX default w⟩
theorem neKd:Nonempty hE:=⟨W8⟩
theorem neSt:Nonempty SortSt:=neKd.elim λk=>⟨GF k #[] #[] 0 Zt⟩
noncomputable def KO:Bool->Keyed->Array Keyed->Nat->Nat->Nat->StateT SortSt Bk (Option Nat):=sortPriv% PySem.Builtin.gallop
noncomputable def Ib:Array Keyed->Array Keyed->StateT SortSt Bk (Array Keyed):=sortPriv% PySem.Builtin.mergeLo
noncomputable def Ic:Array Keyed->Array Keyed->StateT SortSt Bk (Array Keyed):=sortPriv% PySem.Builtin.mergeHi
noncomputable def rq(Y a:SortSt):Prop:=kindOf a=kindOf Y/\bX a=bX Y/\bx a=bx Y/\m5 a=m5 Y
theorem rq.refl(Y:SortSt):rq Y Y:=⟨rfl,rfl,rfl,rfl⟩
structure wk(M:yv)(A:eN)(E:Value->bc->Prop)(s:bc)(T:hE)(ky:Keyed->Int)(P:Keyed->Prop):Prop where
 lt:∀(x y:Keyed) (Y:SortSt) (Q:Option Bool->SortSt->Prop),P x->P y->kindOf Y=T->Q (Zs (decide (ky x<ky y))) Y->tL M A E s (lt' x y) Q Y
noncomputable def kA(ky:Keyed->Int)(xs:Array Keyed)(i:Nat):Int:=match xs[i]? with
 |some p=>ky p
 |none=>0
theorem gO(h:xs[i]?=Zs x):kA ky xs i=ky x:=by unfold kA;rw[h]
noncomputable def oq(ky:Keyed->Int)(left:Bool)(a:Keyed)(xs:Array Keyed)(i:Nat):Bool:=if left then decide (kA ky xs i<ky a) else !decide (ky a<kA ky xs i)
section
variable{M:yv}{A:eN}{E:Value->bc->Prop}{s:bc}{T:hE}{ky:Keyed->Int}{P:Keyed->Prop}
theorem fl{Y:SortSt}(a:b[i]?=Zs x)(h:Q x Y):tL M A E s (elem' b i) Q Y:=by rw[elem'_eq,a];show cu h
theorem Dv(L:wk M A E s T ky P){Y:SortSt}(c:kindOf Y=T)(d:P key)(b:a[j]?=Zs x)(f:P x)
  (h:Q (Zs (oq ky left key a j)) Y):
  tL M A E s (do let x←elem' a j;if left=true then lt' x key else do let r←lt' key x;pure (u_ (λx=>!x) r)) Q Y:=by
 exact wB (fl b ?_)
 cases left with
 |true=>
  (first|exact jk rfl ?_|rw[if_pos rfl]);apply L.lt _ _ _ _ f d c;have e:oq ky true key a j=decide (ky x<ky key):=by unfold oq;rw[gO b];rfl
  rw[←e];show h
 |false=>
  (first|exact jS ⋯ ?_|rw[if_neg ⋯]);exact wB (L.lt _ _ _ _ d f c (cu ?_));have e:oq ky false key a j=!decide (ky key<ky x):=by unfold oq;rw[gO b];rfl
  exact(?_:Q (Zs (!decide (ky key<ky x))) Y);rw[←e];show h
theorem mi(L:wk M A E s T ky P){left:Bool}{e:Keyed}{b:Array Keyed}{d n g:Nat}{Y:SortSt}{Q:Option Nat->SortSt->Prop}(hk:kindOf Y=T)(hp:P e)
  (ha:∀i,i<n->∃x,b[d+i]?=Zs x/\P x)(H:g<n)(hm:∀i j,i<=j->j<n->kA ky b (d+i)<=kA ky b (d+j))
  (h:∀k,k<=n->(∀i,i<k->kA ky b (d+i)<=ky e)->(∀i,k<=i->i<n->ky e<=kA ky b (d+i))->Q (Zs k) Y):
  tL M A E s (KO left e b d n g) Q Y:=by
 walk_at "@M A E s T ky P left e b d n|L g Y Q hk hp ha H hm h"
 have D:∀i j,i<=j->j<n->oq ky left e b (d+j)=true->oq ky left e b (d+i)=true:=by intro i j a5 hj z;have:=hm i j a5 hj;cases left<;>simp[oq] at z⊢<;>first|show gQ this z|show wb this z
 have a0:∀k,k<=n->(∀i,i<k->oq ky left e b (d+i)=true)->(∀i,k<=i->i<n->oq ky left e b (d+i)=false)->Q (Zs k) Y:=by
  intro k a6 q t;exact h k a6 (λi a=>?_) λi a v=>?_;have:=q i a;cases left<;>simp[oq] at this<;>first|show this|show iw this
  have:=t i a v;cases left<;>simp[oq] at this<;>first|show this|show iw this
 have O:∀(i:Nat) (Q':Option Bool->SortSt->Prop),i<n->Q' (Zs (oq ky left e b (d+i))) Y->
   tL M A E s (do let x←elem' b (d+i);if left=true then lt' x e else do let r←lt' e x;pure (u_ (λx=>!x) r)) Q' Y:=by
  intro i Q' a hq
  apply E12 (ha i a);intro x hx a7
  show Dv L hk hp hx a7 hq
 exact wB (O g _ H ?_)
 unfold tQ;dsimp only
 by_cases z:oq ky left e b (d+g)=true
 walk_at "@g Y Q|hk H h a0 O z";(first|exact jk z ?_|rw[if_pos z]);exact wB (j9 (gd (I:=λi c p=>Y=p/\∃o l,c=(Zt,o,l)/\i+1<=l/\o<l/\o<n - g/\oq ky left e b (d+(g+o))=true)
  (Q:=λc p=>Y=p/\∃o l,c=(Zt,o,l)/\o<l/\o<n - g/\oq ky left e b (d+(g+o))=true/\(n - g<=l\/oq ky left e b (d+(g+l))=false)) ?_ ?_ ?_) ?_)
 intro i c p _ a;ext _ rfl a1;ext a1⟨o,l⟩rfl q t h3 h4;dsimp only;by_cases m:l>=n - g;(first|exact jk m ?_|rw[if_pos m]);show cu ⟨rfl,_,_,rfl,t,h3,h4,.inl m⟩;(first|exact jS m ?_|rw[if_neg m]);exact wB (O (g+l) _ (by show cW (ed m)) ?_);unfold tQ;dsimp only;by_cases u:oq ky left e b (d+(g+l))=true;rw[u];show cu ⟨rfl,_,_,rfl,by show bp (af q (ix _ ⋯)) _,by show Po,by show ed m,u⟩;have w:oq ky left e b (d+(g+l))=false:=by simpa using u
 rw[w];show cu ⟨rfl,_,_,rfl,t,h3,h4,.inr w⟩;intro c p;ext _ rfl a2;ext a2⟨o,l⟩rfl q t h3 h4;show⟨rfl,_,_,rfl,t,h3,h4,.inl (by show af (dh _ _) (af (dW _ _) (aV q)))⟩;show⟨rfl,0,1,rfl,by show RN,by show ax (w5 0),by show GJ H,z⟩;intro c p;ext _ rfl a3;ext a3⟨o,l⟩rfl t h3 h4 y;unfold tQ;dsimp only;generalize B:g+o+1=f;generalize G:g+min l (n - g)=a;have U:f<=a:=by show Vk B G t h3
 have J:a<=n:=by show Uj B G U
 have f3:∀i,i<f->oq ky left e b (d+i)=true:=λi a=>D i (g+o) (by show TP B a) (by show aj (aX B) (af U J)) h4;have f4:∀i,a<=i->i<n->oq ky left e b (d+i)=false:=λi q v=>by
  rcases y with y|y
  show(Ux G y v q).elim;cases N:oq ky left e b (d+i) with
  |false=>rfl
  |true=>rw[D (g+l) i (by show U7 G v q) v N] at y;show y
 exact wB (j9 (gd (I:=λi c p=>Y=p/\∃f a,c=(Zt,f,a)/\f<=a/\a<=n/\a - f<=n - i/\(∀i,i<f->oq ky left e b (d+i)=true)/\(∀i,a<=i->i<n->oq ky left e b (d+i)=false))
  (Q:=λc p=>Y=p/\∃f a,c=(Zt,f,a)/\a<=n/\(∀i,i<a->oq ky left e b (d+i)=true)/\(∀i,a<=i->i<n->oq ky left e b (d+i)=false)) ?_ ?_ ⟨rfl,f,a,rfl,U,J,by show af (dh _ _) J,f3,f4⟩) ?_)
 intro i c p _ v;ext _ rfl a';ext a'⟨f,a⟩rfl g1 g2 g3 g4 g5;dsimp only;by_cases m:f>=a;(first|exact jk m ?_|rw[if_pos m]);show cu ⟨rfl,_,_,rfl,g2,λi a=>g4 i (by show aj a m),g5⟩;(first|exact jS m ?_|rw[if_neg m]);exact wB (O (f+(a - f) / 2) _ (by show QS g2 m) ?_);unfold tQ;dsimp only;by_cases u:oq ky left e b (d+(f+(a - f) / 2))=true;rw[u];show cu ⟨rfl,_,_,rfl,by show OM m,by show g2,by show OG g3,λi a=>D i _ (by show OZ a) (by show QS g2 m) u,g5⟩;have w:oq ky left e b (d+(f+(a - f) / 2))=false:=by simpa using u
 rw[w];exact cu ⟨rfl,_,_,rfl,by show o7,by show OK g2 m,by show OH g3,g4,λi q v=>?_⟩;cases N:oq ky left e b (d+i) with
 |false=>rfl
 |true=>rw[D _ i q v N] at w;show w
 intro c p;ext _ rfl ac;ext ac⟨f,a⟩rfl g1 g2 g3 g4 g5;have:f=a:=by show Mz g3 g1
 subst this;show⟨rfl,_,_,rfl,g2,g4,g5⟩;intro c p;ext _ rfl al;ext al⟨f,a⟩rfl g1 g2 g3;show cu (a0 a g1 g2 g3)
 have a4:oq ky left e b (d+g)=false:=by simpa using z
 rw[a4,if_neg ⋯];exact wB (j9 (gd (I:=λi c p=>Y=p/\∃o l,c=(Zt,o,l)/\i+1<=l/\o<l/\o<=g/\oq ky left e b (d+(g - o))=false)
  (Q:=λc p=>Y=p/\∃o l,c=(Zt,o,l)/\o<l/\o<=g/\oq ky left e b (d+(g - o))=false/\(g+1<=l\/oq ky left e b (d+(g - l))=true)) ?_ ?_ ?_) ?_)
 intro i c p _ a;ext _ rfl am;ext am⟨o,l⟩rfl q t h3 h4;dsimp only;by_cases m:l>=g+1;(first|exact jk m ?_|rw[if_pos m]);show cu ⟨rfl,_,_,rfl,t,h3,h4,.inl m⟩;(first|exact jS m ?_|rw[if_neg m]);exact wB (O (g - l) _ (Nat.sub_lt_of_lt H) ?_);unfold tQ;dsimp only;by_cases u:oq ky left e b (d+(g - l))=true;rw[u];show cu ⟨rfl,_,_,rfl,t,h3,h4,.inr u⟩;have w:oq ky left e b (d+(g - l))=false:=by simpa using u
 rw[w];show cu ⟨rfl,_,_,rfl,by show bp (af q (ix _ ⋯)) _,by show Po,by show bS m,w⟩;intro c p;ext _ rfl an;ext an⟨o,l⟩rfl q t h3 h4;show⟨rfl,_,_,rfl,t,h3,h4,.inl (UO q H)⟩;show⟨rfl,0,1,rfl,by show RN,by show ax (w5 0),by show bz _,a4⟩;intro c p;ext _ rfl ap;ext ap⟨o,l⟩rfl t h3 h4 y;unfold tQ;dsimp only;generalize B:g+1 - min l (g+1)=f;generalize G:g - o=a;have U:f<=a:=Uq B G t;have J:a<=n:=(G▸af (dh _ _) (a_ H));have f3:∀i,i<f->oq ky left e b (d+i)=true:=λi a=>by
  rcases y with y|y
  show(eA _ (by rw[←fg y,←Kk,B];show a)).elim;show D i (g - l) (Zk (cJ a (B.symm.trans Kk))) (Ui B a J U) y
 have f4:∀i,a<=i->i<n->oq ky left e b (d+i)=false:=λi q v=>by
  cases N:oq ky left e b (d+i) with
  |false=>rfl
  |true=>rw[D (g - o) i (le_of_eq_of_le G q) v N] at h4;show h4
 exact wB (j9 (gd (I:=λi c p=>Y=p/\∃f a,c=(Zt,f,a)/\f<=a/\a<=n/\a - f<=n - i/\(∀i,i<f->oq ky left e b (d+i)=true)/\(∀i,a<=i->i<n->oq ky left e b (d+i)=false))
  (Q:=λc p=>Y=p/\∃f a,c=(Zt,f,a)/\a<=n/\(∀i,i<a->oq ky left e b (d+i)=true)/\(∀i,a<=i->i<n->oq ky left e b (d+i)=false)) ?_ ?_ ⟨rfl,f,a,rfl,U,J,af (dh _ _) J,f3,f4⟩) ?_)
 intro i c p _ v;ext _ rfl a1;ext a1⟨f,a⟩rfl g1 g2 g3 g4 g5;dsimp only;by_cases m:f>=a;(first|exact jk m ?_|rw[if_pos m]);show cu ⟨rfl,_,_,rfl,g2,λi a=>g4 i (by show aj a m),g5⟩;(first|exact jS m ?_|rw[if_neg m]);exact wB (O (f+(a - f) / 2) _ (QS g2 m) ?_);unfold tQ;dsimp only;by_cases u:oq ky left e b (d+(f+(a - f) / 2))=true;rw[u];show cu ⟨rfl,_,_,rfl,by show OM m,by show g2,by show OG g3,λi a=>D i _ (by show OZ a) (by show QS g2 m) u,g5⟩;have w:oq ky left e b (d+(f+(a - f) / 2))=false:=by simpa using u
 rw[w];exact cu ⟨rfl,_,_,rfl,by show o7,by show OK g2 m,by show OH g3,g4,λi q v=>?_⟩;cases N:oq ky left e b (d+i) with
 |false=>rfl
 |true=>rw[D _ i q v N] at w;show w
 intro c p;ext _ rfl a2;ext a2⟨f,a⟩rfl g1 g2 g3 g4 g5;have:f=a:=Mz g3 g1;subst this;show⟨rfl,_,_,rfl,g2,g4,g5⟩;intro c p;ext _ rfl a3;ext a3⟨f,a⟩rfl g1 g2 g3;show cu (a0 a g1 g2 g3)
end
end
section
noncomputable def kP(ky:Keyed->Int)(a:Array Keyed):Prop:=∀i j,i<=j->j<a.size->kA ky a i<=kA ky a j
structure MI(ky:Keyed->Int)(a b O:Array Keyed)(Y T:Nat):Prop where
 perm:O.toList.Perm (a.toList.take Y++b.toList.take T)
 LK:O.toList.Pairwise (λx y=>ky x<=ky y)
 VJ:∀x∈O.toList,Y<a.size->ky x<=kA ky a Y
 leB:∀x∈O.toList,T<b.size->ky x<=kA ky b T
 ha:Y<=a.size
 hb:T<=b.size
section
variable{ky:Keyed->Int}{a b O:Array Keyed}{Y T:Nat}
theorem MI.nil:MI ky a b #[] 0 0:=⟨by show .nil,by simp,by show λc h=>nm h,by show λc h=>nm h,bz _,bz _⟩
theorem MI.swap(h:MI ky a b O Y T):MI ky b a O T Y:=⟨h.perm.trans Fg,h.LK,h.leB,h.VJ,h.hb,h.ha⟩
theorem MI.size(h:MI ky a b O Y T):O.size=Y+T:=by have:=h.perm.length_eq;have:=h.ha;have:=h.hb;simp at*;show U0 this ‹_› ‹_›
theorem Y0{L:Type}{l:List L}{i:Nat}{x:L}(h:l[i]?=Zs x):l.take (i+1)=l.take i++[x]:=by rw[fN,h];rfl
theorem AR(a:Array Keyed)(i:Nat):a.extract i i=#[]:=by apply JV.mp;simp
theorem MI.ti(h:MI ky a b O Y T){x:Keyed}(e:a[Y]?=Zs x)(j:T<b.size->kA ky a Y<=kA ky b T)(k:kP ky a):MI ky a b (O.push x) (Y+1) T:=by
 have f:Y<a.size:=(iB.mp e).1;have g:kA ky a Y=ky x:=gO e;exact⟨?_,?_,?_,?_,f,h.hb⟩;rw[j3,Y0 (x:=x) (by rw[cP];show e)];exact(h.perm.append_right [x]).trans ?_;rw[av,av];show qO _ Fg;rw[j3,fZ];exact⟨h.LK,by simp,λy c z l=>?_⟩;rw[au.mp l,←g];show h.VJ y c f;intro y c d;rw[j3] at c;have i:=k Y (Y+1) o7 d;rcases aE.mp c with c|c
 have:=h.VJ y c f;show gQ this i;rw[au.mp c];show Pp g i;intro y c d;rw[j3] at c;rcases aE.mp c with c|c
 show h.leB y c d;rw[au.mp c];have:=j d;show Pp g this
theorem AS{a:Array Keyed}{i k:Nat}{x:Keyed}(b:a[i+k]?=Zs x):a.extract i (i+(k+1))=(a.extract i (i+k)).push x:=by have c:=(iB.mp b);apply JV.mp;rw[j3];simp only[Fh,Bx];rw[show i+(k+1) - i=k+1 by show fh _ _,show i+k - i=k by show fh _ _];show Y0 (by rw[eu,cP];show b)
theorem MI.oT(h:MI ky a b O Y T)(c:kP ky a):∀{k:Nat},Y+k<=a.size->(∀i,i<k->T<b.size->kA ky a (Y+i)<=kA ky b T)->MI ky a b (O++a.extract Y (Y+k)) (Y+k) T
 |0,_,_=>by simpa[AR] using h
 |k+1,d,e=>by have g:=h.oT c (k:=k) (af (aA (aW _ _) _) d) λi j=>e i (jt _ j);have f:a[Y+k]?=Zs a[Y+k]:=bk d;rw[AS f,Array.append_push];show g.ti f (e k Ws) c
theorem MI.Ie(h:MI ky a b O Y T)(c:kP ky a)(d:∀i,i<a.size->T<b.size->kA ky a i<=kA ky b T):MI ky a b (O++a.extract Y a.size) a.size T:=by have:=h.ha;have:=h.oT c (k:=a.size - Y) (TQ this) λi e=>d (Y+i) (cW e);rw[show Y+(a.size - Y)=a.size by show gZ ‹_›] at this;show this
theorem MI.zq(h:MI ky a b O Y T)(c:b[T]?=Zs x)(d:Y<a.size->kA ky b T<=kA ky a Y)(e:kP ky b):MI ky a b (O.push x) Y (T+1):=(h.swap.ti c d e).swap
theorem MI.xA(h:MI ky a b O Y T)(c:kP ky b)(d:T+k<=b.size)(e:∀i,i<k->Y<a.size->kA ky b (T+i)<=kA ky a Y):MI ky a b (O++b.extract T (T+k)) Y (T+k):=(h.swap.oT c d e).swap
theorem MI.LL(h:MI ky a b O Y T)(c:kP ky b)(d:∀i,i<b.size->Y<a.size->kA ky b i<=kA ky a Y):MI ky a b (O++b.extract T b.size) Y b.size:=(h.swap.Ie c d).swap
theorem MI.zr(h:MI ky a b O Y b.size)(c:kP ky a):MI ky a b (O++a.extract Y a.size++b.extract b.size b.size) a.size b.size:=by have:=h.Ie c λi e d=>absurd d (bf _);simpa using this
theorem MI.zu(h:MI ky a b O a.size T)(c:kP ky b):MI ky a b (O++a.extract a.size a.size++b.extract T b.size) a.size b.size:=by have:=h.LL c λi e d=>absurd d (bf _);simpa using this
theorem MI.last(h:MI ky a b O Y T)(e:kP ky a)(c:kP ky b)(f:Y+1=a.size)(g:kA ky b (b.size - 1)<=kA ky a (a.size - 1)):MI ky a b (O++b.extract T b.size++a.extract Y a.size) a.size b.size:=by
 have j:=h.LL c λi d k=>by have:=c i (b.size - 1) (cF d) (bH d);rw[show Y=a.size - 1 by show Hd f];show gQ this g
 have:=j.Ie e λi k l=>absurd l (bf _);show this
noncomputable def Y6(ky:Keyed->Int)(a b r:Array Keyed):Prop:=MI ky a b r a.size b.size
end
section
variable{M:yv}{A:eN}{E:Value->bc->Prop}{s:bc}{I:hE}{ky:Keyed->Int}{P:Keyed->Prop}
theorem rq.trans{a b c:SortSt}(h:rq a b)(d:rq b c):rq a c:=⟨d.1.trans h.1,d.2.1.trans h.2.1,d.2.2.1.trans h.2.2.1,d.2.2.2.trans h.2.2.2⟩
noncomputable def yS:Nat->StateT SortSt Bk Unit:=sortPriv% PySem.Builtin.setMinGallop
theorem qg{U:SortSt}(h:∀c,rq U c->Q () c):tL M A E s (yS g) Q U:=jw (h _ ⟨rfl,rfl,rfl,rfl⟩)
theorem Ig(c:wk M A E s I ky P){U:SortSt}(d:kindOf U=I)(e:a[i]?=Zs x)(f:b[j]?=Zs y)(g:P x)(k:P y)(h:Q (Zs (decide (kA ky a i<kA ky b j))) U):
  tL M A E s (lt' x y) Q U:=c.lt _ _ _ _ g k d (by rw[←gO (ky:=ky) e,←gO (ky:=ky) f];show h)
theorem wO{N L:Type}{c:Prop}[Decidable c]{m a:StateT N Bk L}{Q:L->N->Prop}{U:N}(b:c->tL M A E s m Q U)(d:¬c->tL M A E s a Q U):tL M A E s (if c then m else a) Q U:=by by_cases h:c;(first|exact jk h ?_|rw[if_pos h]);show b h;(first|exact jS h ?_|rw[if_neg h]);show d h
section
variable{N L J G H D:Type}{Q:L->N->Prop}{U:N}{m:StateT N Bk L}
theorem WG{a:G->H->StateT N Bk L}(b:∀x y,tL M A E s (a x y) Q U)(c:(∀x y,tL M A E s (a x y) Q U)->tL M A E s m Q U):tL M A E s m Q U:=c b
theorem QZ{a:G->H->D->StateT N Bk L}(p:H->D->Prop)(b:∀x y z,p y z->tL M A E s (a x y z) Q U)(c:(∀x y z,p y z->tL M A E s (a x y z) Q U)->tL M A E s m Q U):tL M A E s m Q U:=c b
@[reducible] noncomputable def fQ(I:Nat->J->N->Prop)(Q:J->N->Prop)(j:Nat):ForInStep J->N->Prop:=λr a=>match r with| .done c=>Q c a| .yield c=>I (j+1) c a
theorem F7(d:Nat->J->N->Prop)(Q:J->N->Prop)(e:∀i c U,i<b->d i c U->tL M A E s (f i c) (fQ d Q i) U)(g:∀c U,d (max a b) c U->Q c U)(h:d a c U)(j:∀c U,Q c U->R c U):tL M A E s (forIn [a:b] c f) R U:=j9 (gd d (λi c U l k=>e i c U k) g h) j
theorem wQ(h:Q c U):tL M A E s (pure (.done c)) (fQ d Q j) U:=cu h
theorem LM(h:d (j+1) c U):tL M A E s (pure (.yield c)) (fQ d Q j) U:=cu h
theorem Ys(e:c=d)(f:d=true->tL M A E s m Q U)(g:d=false->tL M A E s h Q U):tL M A E s (if c=true then m else h) Q U:=by subst e;cases c;show g rfl;show f rfl
end
inductive LI{X Y Z ρ:Type}(p:X->Y->Z->Prop)(S0:SortSt):Option (Array Keyed)×X×Y×Z×ρ->SortSt->Prop
 |mk {x:X} {y:Y} {z:Z} {r:ρ} {U:SortSt}:rq S0 U->p x y z->LI p S0 (Zt,x,y,z,r) U
inductive LQ{X Y Z ρ:Type}(p:X->Y->Z->Prop)(F:Array Keyed->Prop)(S0:SortSt):Option (Array Keyed)×X×Y×Z×ρ->SortSt->Prop
 |fin {r:Array Keyed} {o:X×Y×Z×ρ} {U:SortSt}:rq S0 U->F r->LQ p F S0 (Zs r,o) U
 |go {c:Option (Array Keyed)×X×Y×Z×ρ} {U:SortSt}:LI p S0 c U->LQ p F S0 c U
structure Nd(ky:Keyed->Int)(a b:Array Keyed)(n:Nat)(O:Array Keyed)(Y T:Nat):Prop where
 m:MI ky a b O Y T
 a:Y+1<a.size
 b:T<b.size
 n:n<=O.size
set_option tactic.hygienic true in
theorem B6(L:wk M A E s I ky P){a b:Array Keyed}{U:SortSt}{Q:Array Keyed->SortSt->Prop}(hk:kindOf U=I)(pa:∀(i:Nat) (x:Keyed),a[i]?=Zs x->P x)(pb:∀(i:Nat) (x:Keyed),b[i]?=Zs x->P x)(o:kP ky a)(q:kP ky b)(ha:0<a.size)(hb:0<b.size)
  (h0:kA ky b 0<=kA ky a 0)(hl:kA ky b (b.size - 1)<=kA ky a (a.size - 1))(h:∀r w,rq U w->Y6 ky a b r->Q r w):tL M A E s (Ib a b) Q U:=by
 walk_at "@M A E s I ky P a b U Q|L hk pa pb o q ha hb h0 hl h"
 exact wB (wc (iS ⟨rfl,?_⟩))
 unfold tQ;dsimp -zeta -zetaHave only
 extract_lets+onlyGivenNames -merge -useContext -underBinder total done lastOfA
 dsimp(config:={zeta:=false,zetaHave:=false}) only[total,done,lastOfA]
 clear total done lastOfA
 have aY:b[0]?=Zs b[0]:=bk hb
 exact wB (fl aY ?_)
 unfold tQ;dsimp -zeta -zetaHave only
 extract_lets+onlyGivenNames -merge -useContext -underBinder O Y T
 dsimp(config:={zeta:=false,zetaHave:=false}) only[O,Y,T]
 have m0:MI ky a b #[b[0]] 0 1:=MI.nil.zq aY (λz=>h0) q
 by_cases c1:1=b.size
 exact jk (decide_eq_true ∅) (cu (h _ _ (.refl _) ?_));have:=MI.zr (b:=b) (by rw[←c1];show m0) o;exact(?_:MI ky a b (_++b.extract 1 b.size) _ _);rw[show b.extract 1 b.size=b.extract b.size b.size by rw[←c1]];show this
 apply jS (by simpa using c1)
 by_cases c2:0+1=a.size
 show jk (decide_eq_true ∅) (cu (h _ _ (.refl _) (m0.last o q c2 hl)))
 exact jS (by simpa using c2) (wB (m6 ?_))
 unfold tQ;dsimp -zeta -zetaHave only
 extract_lets+onlyGivenNames -merge -useContext -underBinder mg0
 dsimp(config:={zeta:=false,zetaHave:=false}) only[mg0]
 clear mg0
 have al:∀i,i<a.size->∃x,a[i]?=Zs x/\P x:=λi l=>⟨a[i],bk l,pa i _ (bk l)⟩
 have am:∀i,i<b.size->∃x,b[i]?=Zs x/\P x:=λi l=>⟨b[i],bk l,pb i _ (bk l)⟩
 exact wB (F7 (λi=>LI (Nd ky a b (i+1)) U) (LQ (λz _b _c=>False) (Y6 ky a b) U) ?step ?fin (.mk (.refl _) ⟨m0,by show ba ha c2,by show ba (a8 hb) c1,by show y_⟩) ?post)
 case post=>
  intro c w e;cases(e) with
  |fin d F=>show cu (h _ w d F)
  |go x=>cases(x) with|mk _ f=>show f.elim
 case fin=>
  intro c w e;cases(e) with
  |mk d m=>show((bf (_+_) (aZ (af (aV (af (bp (dW _ (_+_)) _) m.n)) (m.m.size▸bp (aW _ _) _)) (N9 m.a m.b)))).elim
 case step=>
  intro i c b4 l e;cases(e) with
  |mk d m=>
  rename_i O Y T mg;walk_at "@i b4 O Y T mg|l m d";dsimp -zeta -zetaHave only;extract_lets+onlyGivenNames -merge -useContext -underBinder s1 o1 s2 i1 s3 b1 g1 n1 n2;dsimp(config:={zeta:=false,zetaHave:=false}) only[s1,o1,s2,i1,s3,b1,g1,n1,n2];exact wB (F7 (λj=>LI (Nd ky a b (i+1+j)) U) (LQ (Nd ky a b (i+2)) (Y6 ky a b) U) ?_ ?_ (.mk d m) ?_)
  ·clear m d;intro j c st2 hj e;cases(e) with
   |mk d m=>
   rename_i O Y T r;try dsimp only
   exact E12 (am T m.b) λy t py=>E12 (al Y (fK m.a)) λx u px=>wB (fl t (wB (fl u (wB (Ig L (d.1.trans hk) t u py px ?_)))));try dsimp only
   by_cases a':kA ky b T<kA ky a Y;exact jk (decide_eq_true a') (wB (fl t ?_));have D:=m.m.zq t (λz=>iw a') q;have G:i+2+j<=(O.push y).size:=by rw[jL,bM];show jv (bM i 1 j▸m.n)
   by_cases n:T+1=b.size;apply jk (decide_eq_true ∅);rw[n] at D;show wQ (.fin d (by rw[n];show D.zr o));apply jS (by simpa using n);split;show wQ (.go (.mk d ⟨D,m.a,ba m.b n,af (aW _ j) G⟩));show LM (.mk d ⟨D,m.a,ba m.b n,bM (i+1) 1 j▸G⟩);exact F6 (decide_eq_false a') (wB (fl u ?_));have D:=m.m.ti u (λz=>sM.mp a') o;have G:i+2+j<=(O.push x).size:=by rw[jL,bM];show jv (bM i 1 j▸m.n)
   by_cases n:Y+1+1=a.size;show jk (decide_eq_true ∅) (wQ (.fin d (D.last o q n hl)));apply jS (by simpa using n);split;show wQ (.go (.mk d ⟨D,ba m.a n,m.b,af (aW _ j) G⟩));show LM (.mk d ⟨D,ba m.a n,m.b,bM (i+1) 1 j▸G⟩)
  intro c w e;cases(e) with
  |mk d m=>show .go (.mk d ⟨m.m,m.a,m.b,(af (aA (af (aZ (bz _) m.b) (af (aB _ _) (dW _ _))) (_+1)) m.n)⟩)
  clear m d;intro c w e;cases(e) with
  |fin d F=>show wQ (.fin d F)
  |go e=>
  cases(e) with
  |mk d m=>
  rename_i O Y T r;unfold tQ;dsimp -zeta -zetaHave only;extract_lets+onlyGivenNames -merge -useContext -underBinder r1 s1 o1 s2 i1 s3 b1 s4 a1 n1;dsimp(config:={zeta:=false,zetaHave:=false}) only[r1,s1,o1,s2,i1,s3,b1,s4,a1,n1];exact wB (wc (iS ⟨rfl,?_⟩));unfold tQ;dsimp -zeta -zetaHave only;extract_lets+onlyGivenNames -merge -useContext -underBinder mg1;dsimp(config:={zeta:=false,zetaHave:=false}) only[mg1];clear mg1;exact wB (F7 (λj=>LI (Nd ky a b (i+2)) U) (LQ (Nd ky a b (i+2)) (Y6 ky a b) U) ?_ ?_ (.mk d m) ?_)
  ·clear m d;intro j c st2 hj e;cases(e) with
   |mk d m=>
   rename_i O Y T r;obtain⟨m,v,B,H⟩:=m;dsimp -zeta -zetaHave only;extract_lets+onlyGivenNames -merge -useContext -underBinder s1 o1 s2 i1 s3 b1 s4 g1 s5 a1 n1 jp;dsimp(config:={zeta:=false,zetaHave:=false}) only[s1,o1,s2,i1,s3,b1,s4,g1,s5,a1,n1];exact WG (a:=jp) (λr g=>?_) λJ=>?_;rotate_left;clear_value jp;show wO (λz=>J _ _) λz=>J _ _;dsimp(config:={zeta:=false,zetaHave:=false}) only[jp,s1,o1,s2,i1,s3,b1,s4,g1,s5,a1,n1];clear jp;exact wB (qg λb5 p=>?_);have p:=d.trans p;exact E12 (am T B) λy t py=>?_;unfold tQ;dsimp -zeta -zetaHave only;exact wB (fl t ?_);unfold tQ;dsimp -zeta -zetaHave only;exact wB (mi L (p.1.trans hk) py (λi l=>al (Y+i) (cW l)) (du (aZ (aW _ _) v)) (λi j an hj=>o _ _ (bW (ax _) an) (cW hj)) λk a3 a4 a0=>?_);unfold tQ;dsimp -zeta -zetaHave only;extract_lets+onlyGivenNames -merge -useContext -underBinder k0 jp;dsimp(config:={zeta:=false,zetaHave:=false}) only[k0];have hn:=m.ha;exact QZ (a:=jp) (λac a2=>Nd ky a b (i+2) ac a2 T/\kA ky b T<=kA ky a a2) ?_ λJ=>?_;rotate_left;clear_value jp;by_cases N:k>0;apply jk N;extract_lets+onlyGivenNames -merge -useContext -underBinder o2 i2;dsimp(config:={zeta:=false,zetaHave:=false}) only[o2,i2];have m1:=m.oT o (k:=k) (US v a3) λi l z=>by rw[gO t];show a4 i l
   by_cases n:Y+k+1=a.size;show jk (decide_eq_true ∅) (wQ (.fin p (m1.last o q n hl)));apply jS (by simpa using n);by_cases c4:Y+k=a.size;apply jk (decide_eq_true ∅);rw[c4] at m1;show wQ (.fin p (by rw[c4];show m1.zu q));have a6:=a0 k (ax _) (UK N a3 c4);rw[←gO (ky:=ky) t] at a6;show jS (by simpa using c4) (J _ _ _ ⟨⟨m1,ba (ba m1.ha c4) n,B,af H (by rw[l_];show aW _ _)⟩,a6⟩);have a6:=a0 0 (bS N) (du (aZ (aW _ _) v));rw[←gO (ky:=ky) t] at a6;show jS N (J _ _ _ ⟨⟨m,v,B,H⟩,a6⟩);clear a3 a4 a0 m v H;intro r ac a2 b6;exact E02 b6 λb' ap=>?_;obtain⟨m,v,_,H⟩:=b';dsimp(config:={zeta:=false,zetaHave:=false}) only[jp];clear jp;exact wB (fl t ?_);unfold tQ;dsimp -zeta -zetaHave only;extract_lets+onlyGivenNames -merge -useContext -underBinder o2 b2;dsimp(config:={zeta:=false,zetaHave:=false}) only[o2,b2];have m2:=m.zq t (λz=>ap) q;by_cases c5:T+1=b.size;apply jk (decide_eq_true ∅);rw[c5] at m2;show wQ (.fin p (by rw[c5];show m2.zr o));exact jS (by simpa using c5) (E12 (al a2 (fK v)) (λx u px=>wB (fl u ?_)));unfold tQ;dsimp -zeta -zetaHave only;exact wB (mi L (p.1.trans hk) px (λi l=>am (T+1+i) (cW l)) (du (ba B c5)) (λi j an hj=>q _ _ (bW (ax _) an) (cW hj)) λk2 a3 a4 a0=>?_);unfold tQ;dsimp -zeta -zetaHave only;extract_lets+onlyGivenNames -merge -useContext -underBinder k1 jp;dsimp(config:={zeta:=false,zetaHave:=false}) only[k1];exact QZ (a:=jp) (λas aM=>Nd ky a b (i+2) as a2 aM/\kA ky a a2<=kA ky b aM) ?_ λJ=>?_;rotate_left;clear_value jp;have b3:i+2<=(ac.push y).size:=by rw[jL];show mI H
   by_cases N:k2>0;apply jk N;extract_lets+onlyGivenNames -merge -useContext -underBinder oo4 bb4;dsimp(config:={zeta:=false,zetaHave:=false}) only[oo4,bb4];have m3:=m2.xA q (k:=k2) ((Nat.le_sub_iff_add_le' B).mp a3) λi l z=>by rw[gO u];show a4 i l
   by_cases c6:T+1+k2=b.size;apply jk (decide_eq_true ∅);rw[c6] at m3;show wQ (.fin p (by rw[c6];show m3.zr o));have a7:=ba m3.hb c6;show jS (by simpa using c6) (J _ _ _ ⟨⟨m3,v,a7,af b3 (by rw[l_ (xs:=ac.push y)];show aW _ _)⟩,by rw[gO u];show a0 k2 (ax _) (Nat.lt_sub_iff_add_lt'.mpr a7)⟩);have a7:=ba B c5;show jS N (J _ _ _ ⟨⟨m2,v,a7,b3⟩,by rw[gO u];show a0 0 (bS N) (GJ a7)⟩);clear a3 a4 a0 m m2 H;intro r3 as aM bd;exact E02 bd λbe ap=>?_;obtain⟨m,_,B,H⟩:=be;dsimp(config:={zeta:=false,zetaHave:=false}) only[jp];clear jp;exact wB (fl u ?_);unfold tQ;dsimp -zeta -zetaHave only;extract_lets+onlyGivenNames -merge -useContext -underBinder o5 a5;dsimp(config:={zeta:=false,zetaHave:=false}) only[o5,a5];have m4:=m.ti u (λz=>ap) o;by_cases c7:a2+1+1=a.size;show jk (decide_eq_true ∅) (wQ (.fin p (m4.last o q c7 hl)));apply jS (by simpa using c7);have G:i+2<=(as.push x).size:=by rw[jL];show mI H
   split;show wQ (.go (.mk p ⟨m4,Wq v c7,B,G⟩));show LM (.mk p ⟨m4,Wq v c7,B,G⟩)
  show λc w e=>.go e;clear m d;intro c w e;cases(e) with
  |fin d F=>show wQ (.fin d F)
  |go e=>
  cases(e) with
  |mk d m=>
  dsimp only;show wB (qg λb5 p=>LM (.mk (d.trans p) m))
end
end
section
noncomputable abbrev ng(ky:Keyed->Int):Keyed->Int:=λx=> - ky x
section
variable{ky:Keyed->Int}{a b:Array Keyed}
theorem vo(c:i<a.size):kA (ng ky) a.reverse i= - kA ky a (a.size - 1 - i):=by
 have d:a[a.size - 1 - i]?=Zs a[a.size - 1 - i]:=bk (C0 c);have e:a.reverse[i]?=Zs a[a.size - 1 - i]:=by rw[C1 c,d]
 rw[gO d,gO e]
theorem ED(d:kP ky a):kP (ng ky) a.reverse:=by intro i j c b;rw[vd] at b;rw[vo (aZ c b),vo b];have:=d (a.size - 1 - j) (a.size - 1 - i) (vb c _) (aZ (dh _ _) (bH b));show uq this
theorem B7(e:j<=a.size):(a.extract i j).reverse=a.reverse.extract (a.size - j) (a.size - i):=by apply Array.ext;simp;show Ub;intro k d c;simp only[Array.getElem_reverse,Array.getElem_extract];simp at d c;congr 1;simp;show Ua c
noncomputable def xB(ky:Keyed->Int)(a b r:Array Keyed):Prop:=r.toList.Perm (a.toList++b.toList)/\r.toList.Pairwise λx y=>ky x<=ky y
theorem Y6.PR(h:Y6 ky a b r):xB ky a b r:=by exact⟨?_,h.LK⟩;have:=h.perm;rw[iu (by show ax _),iu (by show ax _)] at this;show this
theorem KP(h:Y6 (ng ky) a.reverse b.reverse r.reverse):xB ky a b r:=by exact E02 (Y6.PR h) λc d=>⟨?_,?_⟩;rw[m8,m8,m8] at c;show(wF _).symm.trans (c.trans ((wF _).append (wF _)));rw[m8,List.pairwise_reverse] at d;show d.imp λ{x y} h=>by change ky x<=ky y;have: - ky y<=- ky x:=h;show Int.le_of_neg_le_neg this
noncomputable abbrev MH(ky:Keyed->Int)(a b U:Array Keyed)(Y nb:Nat):Prop:=MI (ng ky) a.reverse b.reverse U (a.size - Y) (b.size - nb)
variable{U:Array Keyed}{Y nb:Nat}
theorem MH.ti(h:MH ky a b U Y nb)(f:a[Y - 1]?=Zs x)(d:0<Y)(c:Y<=a.size)(g:nb<=b.size)(i:0<nb->kA ky b (nb - 1)<=kA ky a (Y - 1))(j:kP ky a):MH ky a b (U.push x) (Y - 1) nb:=by
 have k:a.reverse[a.size - Y]?=Zs x:=by rw[C1 (OU c d),show a.size - 1 - (a.size - Y)=Y - 1 by show NU c,f]
 have:=MI.ti h k (λe=>by rw[vd] at e;rw[vo (OU c d),vo e,show a.size - 1 - (a.size - Y)=Y - 1 by show NU c,show b.size - 1 - (b.size - nb)=nb - 1 by show NU g];have:=i (OR e);show uq this) (ED j);rw[show a.size - Y+1=a.size - (Y - 1) by show UA c d] at this;show this
theorem MH.zq(h:MH ky a b U Y nb)(c:b[nb - 1]?=Zs x)(d:0<nb)(e:nb<=b.size)(f:Y<=a.size)(g:0<Y->kA ky a (Y - 1)<=kA ky b (nb - 1))(i:kP ky b):MH ky a b (U.push x) Y (nb - 1):=MI.swap (MH.ti (MI.swap h) c d e f g i)
theorem MH.oT(h:MH ky a b U Y nb)(f:k<=Y)(c:Y<=a.size)(g:nb<=b.size)(j:∀i,k<=i->i<Y->0<nb->kA ky b (nb - 1)<=kA ky a i)(l:kP ky a):MH ky a b (U++(a.extract k Y).reverse) k nb:=by have:=MI.oT h (ED l) (k:=Y - k) (by simp;show UE c) (λi d e=>by rw[vd] at e;rw[vo (UB c d),vo e,show b.size - 1 - (b.size - nb)=nb - 1 by show NU g];have:=j (a.size - 1 - (a.size - Y+i)) (Uu c d) (Up d) (OR e);show uq this);rw[show a.size - Y+(Y - k)=a.size - k by show Nat.sub_add_sub_cancel c f] at this;rw[B7 c];show this
theorem MH.xA(h:MH ky a b U Y nb)(c:k<=nb)(d:nb<=b.size)(e:Y<=a.size)(f:∀i,k<=i->i<nb->0<Y->kA ky a (Y - 1)<=kA ky b i)(g:kP ky b):MH ky a b (U++(b.extract k nb).reverse) Y k:=MI.swap (MH.oT (MI.swap h) c d e f g)
theorem MH.fin(h:MH ky a b U 0 0)(c:r=U.reverse):xB ky a b r:=by subst c;exact KP ?_;rw[Array.reverse_reverse];unfold Y6;have:MI (ng ky) a.reverse b.reverse U (a.size - 0) (b.size - 0):=h;simpa using this
theorem MH.zu(h:MH ky a b U 0 nb)(c:nb<=b.size)(d:kP ky b):xB ky a b (a.extract 0 0++b.extract 0 nb++U.reverse):=by have:=MH.xA h (k:=0) (bz _) c (bz _) (λi e f h=>absurd h (bf _)) d;apply MH.fin this;simp
theorem MH.zr(h:MH ky a b U Y 0)(c:Y<=a.size)(d:kP ky a):xB ky a b (a.extract 0 Y++b.extract 0 0++U.reverse):=by have:=MH.oT h (k:=0) (bz _) c (bz _) (λi e f h=>absurd h (bf _)) d;apply MH.fin this;simp
theorem MH.first(h:MH ky a b U Y 1)(c:Y<=a.size)(d:1<=b.size)(e:kP ky a)(f:kP ky b)(g:kA ky b 0<=kA ky a 0):xB ky a b (b.extract 0 1++a.extract 0 Y++U.reverse):=by have j:=MH.oT h (k:=0) (bz _) c d (λi l m n=>by have:=e 0 i (bz _) (aj m c);change kA ky b 0<=_;show gQ g this) e;have o:=MH.xA j (k:=0) (bz _) d (bz _) (λi l n h=>absurd h (bf _)) f;apply MH.fin o;simp
end
section
variable{M:yv}{A:eN}{E:Value->bc->Prop}{s:bc}{T:hE}{ky:Keyed->Int}{P:Keyed->Prop}
structure NX(ky:Keyed->Int)(a b:Array Keyed)(n Y nb:Nat)(U:Array Keyed):Prop where
 m:MH ky a b U Y nb
 a0:0<Y
 a:Y<=a.size
 b1:1<nb
 b:nb<=b.size
 n:n<=U.size
set_option tactic.hygienic true in
theorem B8(L:wk M A E s T ky P){a b:Array Keyed}{H:SortSt}{Q:Array Keyed->SortSt->Prop}(hk:kindOf H=T)(pa:∀(i:Nat) (x:Keyed),a[i]?=Zs x->P x)(pb:∀(i:Nat) (x:Keyed),b[i]?=Zs x->P x)(B:kP ky a)(t:kP ky b)(ha:0<a.size)(hb:0<b.size)
  (h0:kA ky b 0<=kA ky a 0)(hl:kA ky b (b.size - 1)<=kA ky a (a.size - 1))(h:∀r N,rq H N->xB ky a b r->Q r N):tL M A E s (Ic a b) Q H:=by
 walk_at "@M A E s T ky P a b H Q|L hk pa pb B t ha hb h0 hl h"
 exact wB (wc (iS ⟨rfl,?_⟩))
 unfold tQ;dsimp -zeta -zetaHave only
 extract_lets+onlyGivenNames -merge -useContext -underBinder total done firstOfB n0 nb0
 dsimp(config:={zeta:=false,zetaHave:=false}) only[total,done,firstOfB]
 clear total done firstOfB
 dsimp(config:={zeta:=false,zetaHave:=false}) only[n0,nb0]
 have a5:∀i,i<a.size->∃x,a[i]?=Zs x/\P x:=λi q=>⟨a[i],bk q,pa i _ (bk q)⟩
 have am:∀i,i<b.size->∃x,b[i]?=Zs x/\P x:=λi q=>⟨b[i],bk q,pb i _ (bk q)⟩
 exact E12 (a5 (a.size - 1) (bH ha)) λz hz pz=>wB (fl hz ?_)
 unfold tQ;dsimp -zeta -zetaHave only
 extract_lets+onlyGivenNames -merge -useContext -underBinder b4
 dsimp(config:={zeta:=false,zetaHave:=false}) only[b4]
 have m0:MH ky a b #[z] (a.size - 1) b.size:=by
  have hm:MH ky a b #[] a.size b.size:=by exact(?_:MI _ _ _ _ (a.size - a.size) (b.size - b.size));rw[gP,gP];show MI.nil
  show MH.ti hm hz ha (ax _) (ax _) (λO=>hl) B
 by_cases c1:a.size - 1=0
 apply jk (decide_eq_true ∅);rw[c1] at m0⊢;show cu (h _ _ (.refl _) (MH.zu m0 (ax _) t))
 apply jS (by simpa using c1)
 by_cases c2:b.size=1
 exact jk (decide_eq_true ∅) (cu (h _ _ (.refl _) ?_));have m1:MH ky a b #[z] (a.size - 1) 1:=by have m1:=m0;rw[c2] at m1;show m1
 have:=MH.first m1 RU (Xi c2) B t h0;rw[c2];show this
 exact jS (by simpa using c2) (wB (m6 ?_))
 unfold tQ;dsimp -zeta -zetaHave only
 extract_lets+onlyGivenNames -merge -useContext -underBinder mg0
 dsimp(config:={zeta:=false,zetaHave:=false}) only[mg0]
 clear mg0
 exact wB (F7 (λi=>LI (NX ky a b (i+1)) H) (LQ (λO _b _c=>False) (xB ky a b) H) ?step ?fin (.mk (.refl _) ⟨m0,by show eT c1,by show dh _ _,by show Vl hb c2,ax _,by show y_⟩) ?post)
 case post=>
  intro c N n;cases(n) with
  |fin d F=>show cu (h _ N d F)
  |go x=>cases(x) with|mk _ f=>show f.elim
 case fin=>
  intro c N n;cases(n) with
  |mk d m=>show((bf _ (aj (aZ (dW _ (_+_)) m.n) ((MI.size m.m)▸bW (dh _ _) (dh _ _))))).elim
 case step=>
  intro i c b6 q n;cases(n) with
  |mk d m=>
  rename_i Y nb U mg;walk_at "@z i b6 Y nb U mg|hz pz b4 m0 q m d";dsimp -zeta -zetaHave only;extract_lets+onlyGivenNames -merge -useContext -underBinder s1 i1 s2 b1 s3 o1 g1 n1 n2;dsimp(config:={zeta:=false,zetaHave:=false}) only[s1,i1,s2,b1,s3,o1,g1,n1,n2];exact wB (F7 (λj=>LI (NX ky a b (i+1+j)) H) (LQ (NX ky a b (i+2)) (xB ky a b) H) ?_ ?_ (.mk d m) ?_)
  ·clear m d;intro j c st2 hj n;cases(n) with
   |mk d m=>
   rename_i Y nb U r;obtain⟨m,w,l,o,e,I⟩:=m;try dsimp only
   exact E12 (am (nb - 1) (aj (bH o) e)) λy D py=>E12 (a5 (Y - 1) (O1 l w)) λx G px=>wB (fl D (wB (fl G (wB (Ig L (d.1.trans hk) D G py px ?_)))));try dsimp only
   have hs:∀v,i+2+j<=(U.push v).size:=λv=>by rw[jL,bM];show jv (bM i 1 j▸I)
   by_cases a6:kA ky b (nb - 1)<kA ky a (Y - 1);exact jk (decide_eq_true a6) (wB (fl G ?_));have m':=MH.ti m G w l e (λO=>iw a6) B;by_cases p:Y - 1=0;apply jk (decide_eq_true ∅);rw[p] at m';show wQ (.fin d (by rw[p];show MH.zu m' e t));apply jS (by simpa using p);split;show wQ (.go (.mk d ⟨m',eT p,o4 l,o,e,af (aW _ j) (hs x)⟩));show LM (.mk d ⟨m',eT p,o4 l,o,e,bM (i+1) 1 j▸hs x⟩);exact F6 (decide_eq_false a6) (wB (fl D ?_));have m':=MH.zq m D (a8 o) e l (λO=>sM.mp a6) t;by_cases p:nb - 1=1;apply jk (decide_eq_true ∅);rw[p] at m';show wQ (.fin d (by rw[p];show MH.first m' l ((af (p▸dh _ _:_<=_) e)) B t h0));apply jS (by simpa using p);split;show wQ (.go (.mk d ⟨m',w,l,ba (du o) (Ne.symm p),o4 e,af (aW _ j) (hs y)⟩));show LM (.mk d ⟨m',w,l,ba (du o) (Ne.symm p),o4 e,bM (i+1) 1 j▸hs y⟩)
  intro c N n;cases(n) with
  |mk d m=>show .go (.mk d ⟨m.m,m.a0,m.a,m.b1,m.b,(af (aA (af (a_ m.b1) (af m.b (af (aB _ _) (dW _ _)))) (_+1)) m.n)⟩)
  clear m d;intro c N n;cases(n) with
  |fin d F=>show wQ (.fin d F)
  |go n=>
  cases(n) with
  |mk d m=>
  rename_i Y nb U r;unfold tQ;dsimp -zeta -zetaHave only;extract_lets+onlyGivenNames -merge -useContext -underBinder r1 s1 i1 s2 b1 s3 o1 s4 a1 n1;dsimp(config:={zeta:=false,zetaHave:=false}) only[r1,s1,i1,s2,b1,s3,o1,s4,a1,n1];exact wB (wc (iS ⟨rfl,?_⟩));unfold tQ;dsimp -zeta -zetaHave only;extract_lets+onlyGivenNames -merge -useContext -underBinder mg1;dsimp(config:={zeta:=false,zetaHave:=false}) only[mg1];clear mg1;exact wB (F7 (λj=>LI (NX ky a b (i+2)) H) (LQ (NX ky a b (i+2)) (xB ky a b) H) ?_ ?_ (.mk d m) ?_)
  ·clear m d;intro j c st2 hj n;cases(n) with
   |mk d m=>
   rename_i Y nb U r;obtain⟨m,w,l,o,e,I⟩:=m;dsimp -zeta -zetaHave only;extract_lets+onlyGivenNames -merge -useContext -underBinder s1 i1 s2 b1 s3 o1 s4 g1 s5 a1 n1 jp;dsimp(config:={zeta:=false,zetaHave:=false}) only[s1,i1,s2,b1,s3,o1,s4,g1,s5,a1,n1];exact WG (a:=jp) (λr g=>?_) λa0=>?_;rotate_left;clear_value jp;show wO (λO=>a0 _ _) λO=>a0 _ _;dsimp(config:={zeta:=false,zetaHave:=false}) only[jp,s1,i1,s2,b1,s3,o1,s4,g1,s5,a1,n1];clear jp;exact wB (qg λb' u=>?_);have u:=d.trans u;exact E12 (am (nb - 1) (aj (bH o) e)) λy D py=>?_;unfold tQ;dsimp -zeta -zetaHave only;exact wB (fl D ?_);unfold tQ;dsimp -zeta -zetaHave only;exact wB (mi L (u.1.trans hk) py (λi q=>a5 (0+i) (OW q l)) (bH w) (λi j an hj=>B _ _ (bW (ax _) an) (OW hj l)) λk ap a7 as=>?_);simp only[bK] at a7 as;unfold tQ;dsimp -zeta -zetaHave only;extract_lets+onlyGivenNames -merge -useContext -underBinder k0 ac0 jp;dsimp(config:={zeta:=false,zetaHave:=false}) only[k0,ac0];exact QZ (a:=jp) (λa2 a'=>NX ky a b (i+2) a2 nb a'/\kA ky a (a2 - 1)<=kA ky b (nb - 1)) ?_ λa0=>?_;rotate_left;clear_value jp;by_cases J:Y - k>0;apply jk J;extract_lets+onlyGivenNames -merge -useContext -underBinder o2 i2;dsimp(config:={zeta:=false,zetaHave:=false}) only[o2,i2];have m1:=MH.oT m (k:=k) ap l e (λi q aM O=>by rw[gO D];show as i q aM) B;by_cases p:k=0;apply jk (decide_eq_true ∅);rw[p] at m1;show wQ (.fin u (by rw[p];show MH.zu m1 e t));have a3:=a7 (k - 1) (ko p);rw[←gO (ky:=ky) D] at a3;show jS (by simpa using p) (a0 _ _ _ ⟨⟨m1,eT p,af (Fy J) l,o,e,af I (by rw[l_];show aW _ _)⟩,a3⟩);have bd:k=Y:=bt ap (ff (sP J));have a3:=a7 (Y - 1) (OS bd w);rw[←gO (ky:=ky) D] at a3;show jS J (a0 _ _ _ ⟨⟨m,w,l,o,e,I⟩,a3⟩);clear ap a7 as m w l I;intro r1 a2 a' be;exact E02 be λbh aY=>?_;obtain⟨m,w,l,_,_,I⟩:=bh;dsimp(config:={zeta:=false,zetaHave:=false}) only[jp];clear jp;extract_lets+onlyGivenNames -merge -useContext -underBinder nb2;dsimp(config:={zeta:=false,zetaHave:=false}) only[nb2];exact wB (fl D ?_);unfold tQ;dsimp -zeta -zetaHave only;extract_lets+onlyGivenNames -merge -useContext -underBinder o2;dsimp(config:={zeta:=false,zetaHave:=false}) only[o2];have m2:=MH.zq m D (a8 o) e l (λO=>aY) t;by_cases c5:nb - 1=1;apply jk (decide_eq_true ∅);rw[c5] at m2;show wQ (.fin u (by rw[c5];show MH.first m2 l ((af (c5▸dh _ _:_<=_) e)) B t h0));exact jS (by simpa using c5) (E12 (a5 (a2 - 1) (O1 l w)) (λx G px=>wB (fl G ?_)));unfold tQ;dsimp -zeta -zetaHave only;exact wB (mi L (u.1.trans hk) px (λi q=>am (0+i) (Wn q e)) (bH (du o)) (λi j an hj=>t _ _ (bW (ax _) an) (Wn hj e)) λk2 b2 ac b3=>?_);simp only[bK] at ac b3;unfold tQ;dsimp -zeta -zetaHave only;extract_lets+onlyGivenNames -merge -useContext -underBinder k1 bc1 jp;dsimp(config:={zeta:=false,zetaHave:=false}) only[k1,bc1];exact QZ (a:=jp) (λa4 al=>(MH ky a b al a2 a4/\1<a4/\a4<=b.size/\i+2<=al.size)/\kA ky b (a4 - 1)<=kA ky a (a2 - 1)) ?_ λa0=>?_;rotate_left;clear_value jp;have b5:i+2<=(a'.push y).size:=by rw[jL];show mI I
   by_cases J:nb - 1 - k2>0;apply jk J;extract_lets+onlyGivenNames -merge -useContext -underBinder oo4 bb4;dsimp(config:={zeta:=false,zetaHave:=false}) only[oo4,bb4];have m3:=MH.xA m2 (k:=k2) b2 (o4 e) l (λi q aM O=>by rw[gO G];show b3 i q aM) t;by_cases c6:k2=1;apply jk (decide_eq_true ∅);rw[c6] at m3;show wQ (.fin u (by rw[c6];show MH.first m3 l (af (Fy (aj J (dh _ _))) e) B t h0));apply jS (by simpa using c6);by_cases c7:k2=0;apply jk (decide_eq_true ∅);rw[c7] at m3;show wQ (.fin u (by rw[c7];show MH.zr m3 l B));show jS (by simpa using c7) (a0 _ _ _ ⟨⟨m3,ba (dZ c7) (Ne.symm c6),af (Fy J) (af (dh _ _) e),af b5 (by rw[l_ (xs:=a'.push y)];show aW _ _)⟩,by rw[gO G];show ac (k2 - 1) (ko c7)⟩);have bi:k2=nb - 1:=bt b2 (ff (sP J));show jS J (a0 _ _ _ ⟨⟨m2,ba (du o) (Ne.symm c5),o4 e,b5⟩,by rw[gO G];show ac (nb - 1 - 1) (OS bi (du o))⟩);clear b2 ac b3 m m2 I o e;intro r3 a4 al bm;exact E02 bm λbn aY=>E04 bn λm o e I=>?_;dsimp(config:={zeta:=false,zetaHave:=false}) only[jp];clear jp;extract_lets+onlyGivenNames -merge -useContext -underBinder na5;dsimp(config:={zeta:=false,zetaHave:=false}) only[na5];exact wB (fl G ?_);unfold tQ;dsimp -zeta -zetaHave only;extract_lets+onlyGivenNames -merge -useContext -underBinder o5;dsimp(config:={zeta:=false,zetaHave:=false}) only[o5];have m4:=MH.ti m G w l e (λO=>aY) B;by_cases c8:a2 - 1=0;apply jk (decide_eq_true ∅);rw[c8] at m4;show wQ (.fin u (by rw[c8];show MH.zu m4 e t));apply jS (by simpa using c8);have hs:i+2<=(al.push x).size:=by rw[jL];show mI I
   split;show wQ (.go (.mk u ⟨m4,eT c8,o4 l,o,e,hs⟩));show LM (.mk u ⟨m4,eT c8,o4 l,o,e,hs⟩)
  show λc N n=>.go n;clear m d;intro c N n;cases(n) with
  |fin d F=>show wQ (.fin d F)
  |go n=>
  cases(n) with
  |mk d m=>
  dsimp only;show wB (qg λb' u=>LM (.mk (d.trans u) m))
end
end
section
noncomputable def Sg(ky:Keyed->Int)(xs:Array Keyed)(a n:Nat):Prop:=∀i j,i<=j->j<n->kA ky xs (a+i)<=kA ky xs (a+j)
theorem lK(h:xs[i]?=a[j]?):kA ky xs i=kA ky a j:=by unfold kA;rw[h]
noncomputable def Y4(xs a:Array Keyed)(b c:Nat):Prop:=∀k,k<b\/c<=k->a[k]?=xs[k]?
theorem Y4.refl(xs:Array Keyed)(a b:Nat):Y4 xs xs a b:=λc d=>rfl
theorem Y4.trans{xs c d:Array Keyed}{a b:Nat}(h:Y4 xs c a b)(f:Y4 c d a b):Y4 xs d a b:=λk e=>(f k e).trans (h k e)
theorem Y4.mono{xs a:Array Keyed}{b c d e:Nat}(h:Y4 xs a b c)(f:d<=b)(g:c<=e):Y4 xs a d e:=λk i=>h k (by show U3 i g f)
theorem Sg.out{ky:Keyed->Int}{xs c:Array Keyed}{d e a n:Nat}(h:Sg ky xs a n)(o:Y4 xs c d e)(f:a+n<=d\/e<=a):Sg ky c a n:=by intro i j g b;rw[lK (o (a+i) (by show U5 f g b)),lK (o (a+j) (by show U4 f b))];show h i j g b
theorem Sg.mono(h:Sg ky xs a n)(b:m<=n):Sg ky xs a m:=λi j c d=>h i j c (by show aj d b)
structure SB(U:hE)(Y:Array Keyed)(st:SortSt):Prop where
 perm:(bX st).Perm Y
 kind:kindOf st=U
 failed:m5 st=Zt
theorem SB.size{U:hE}{a:SortSt}(h:SB U Y a):(bX a).size=Y.size:=h.perm.size_eq
theorem SB.mem{U:hE}{Y:Array Keyed}{a:SortSt}(h:SB U Y a){i:Nat}{x:Keyed}(b:(bX a)[i]?=Zs x):x∈Y.toList:=by have:=Array.mem_of_getElem? b;show(j_.mp h.perm).mem_iff.mp (Fj.mpr this)
noncomputable def PS(ky:Keyed->Int)(Y:Array Keyed):Prop:=(Y.toList.map ky).Nodup
theorem SB.ne{U:hE}{a:SortSt}(h:SB U Y a)(d:PS ky Y)(b:i<Y.size)(c:j<Y.size)(f:i≠j):kA ky (bX a) i≠kA ky (bX a) j:=by have g:=((j_.mp h.perm).map ky).nodup_iff.mpr d;rw[←h.size] at b c;rw[gO (bk b),gO (bk c)];intro e;exact f ((cj (l:=(bX a).toList.map ky) (by show Hu ∅) g).mp ?_);rw[ak,ak,cP,cP,bk b,bk c];show congrArg Zs e
section
variable{M:yv}{A:eN}{E:Value->bc->Prop}{s:bc}{U:hE}{ky:Keyed->Int}{Y:Array Keyed}
theorem nD(L:wk M A E s U ky (· ∈Y.toList)){a:SortSt}{i j:Nat}{Q:Option Bool->SortSt->Prop}(B:SB U Y a)(d:i<Y.size)(e:j<Y.size)(h:Q (Zs (decide (kA ky (bX a) i<kA ky (bX a) j))) a):
  tL M A E s (ltAt' i j) Q a:=by
 rw[←B.size] at d e
 have b:=bk d
 have c:=bk e
 rw[ltAt'_eq]
 exact wB (m6 ?_)
 show wB (fl b (wB (fl c (Ig L B.kind b c (B.mem b) (B.mem c) h))))
theorem F8(L:wk M A E s U ky (· ∈Y.toList)){a:SortSt}(B:SB U Y (yF a xs))(b:i<Y.size)(c:j<Y.size)(h:Q (Zs (decide (kA ky xs i<kA ky xs j))) (yF a xs)):
  tL M A E s (ltAt' i j) Q (yF a xs):=nD L B b c h
theorem KQ{a:SortSt}(h:Q () (yF a (Oj (bX a) i j ((j - i) / 2)))):tL M A E s (reverseSlice' i j) Q a:=by rw[reverseSlice'_eq];show jw h
theorem SB.set{a:SortSt}(B:SB U Y a)(b:xs.Perm (bX a)):SB U Y (yF a xs):=⟨b.trans B.perm,B.kind,B.failed⟩
theorem yT(L:wk M A E s U ky (· ∈Y.toList))(z:PS ky Y){d m:Nat}{e:SortSt}{Q:Option Nat->SortSt->Prop}(B:SB U Y e)(T:0<m)(q:d+m<=Y.size)
  (h:∀n f,0<n->n<=m->SB U Y f->bx f=bx e->Y4 (bX e) (bX f) d (d+m)->Sg ky (bX f) d n->Q (Zs n) f):tL M A E s (countRun' d m) Q e:=by
 walk_at "@M A E s U ky Y d m e Q|L z B T q h"
 rw[countRun'_eq]
 exact wB (j9 (gd (I:=λi c f=>e=f/\c=(Zt,i)/\i<=m/\Sg ky (bX e) d i)
  (Q:=λc f=>e=f/\∃n,c=(Zt,n)/\0<n/\n<=m/\Sg ky (bX e) d n/\(n<m->kA ky (bX e) (d+n)<kA ky (bX e) (d+n - 1))) ?_ ?_ ⟨rfl,rfl,T,λi j g h2=>by
   have:i=j:=by show Vm g h2
   subst this;show jD _⟩) ?_)
 intro i c f g p;ext _ rfl rfl hle2 l;dsimp only;exact wB (nD L B (by show aj (br p _) q) (by show OO q p) ?_);unfold tQ;dsimp only;by_cases o:kA ky (bX e) (d+i)<kA ky (bX e) (d+i - 1);(first|exact jk (decide_eq_true o) ?_|rw[decide_eq_true o,if_pos rfl]);show cu ⟨rfl,i,rfl,by show g,by show hle2,l,λ_a=>o⟩;(first|exact F6 (decide_eq_false o) ?_|rw[decide_eq_false o,if_neg ⋯]);exact cu ⟨rfl,rfl,by show p,λa b r v=>?_⟩;by_cases w:b=i;subst w;by_cases u:a=b;subst u;show jD _;have:=l a (b - 1) (by show cF (ba r u)) (by show bH g);rw[show d+b - 1=d+(b - 1) by show el g _] at o;show ME this o;show l a b r (by show Ki v w)
 intro c f;ext _ rfl rfl hle2 l;show⟨rfl,_,rfl,aj y_ (Nat.le_max_left 1 m),by show hle2,l,λh=>absurd h (by show ju (dW _ _))⟩
 intro c f;ext _ rfl a4;ext a4⟨n⟩rfl x g l a0
 walk_at "@n|x g l a0"
 unfold tQ;dsimp only
 by_cases y:n=m
 (first|exact jk (by show decide_eq_true ∅) ?_|rw[if_pos (by simpa using y)]);show cu (h n e x g B rfl (Y4.refl _ _ _) l)
 (first|exact jS (by simpa using y) ?_|rw[if_neg (by simpa using y)])
 by_cases t:n>1
 (first|exact jk t ?_|rw[if_pos t]);exact wB (nD L B (by show aj (eE (aj (a8 t) g)) q) (by show ON q t g) ?_);have h3:=l 0 (n - 1) (by show bz _) (by show bH t);have D:=B.ne z (i:=d) (j:=d+n - 1) (by show aj (eE (aj (a8 t) g)) q) (by show ON q t g) (by show bj (He (br t _)));rw[kL,show d+(n - 1)=d+n - 1 by show(el (a_ t) _).symm] at h3;rw[decide_eq_true (by show JW h3 D)];show cu (h n e x g B rfl (Y4.refl _ _ _) l)
 (first|exact jS t ?_|rw[if_neg t])
 have a5:n=1:=by show bt (bS t) (a8 x)
 subst a5
 have hl:=a0 (by show RT g y)
 rw[show d+1 - 1=d by show Eq.symm (Hd rfl)] at hl
 exact wB (wc (iS ⟨rfl,?_⟩))
 exact wB (j9 (gd (I:=λi c f=>e=f/\c=(Zt,i,0)/\i<=m/\∀a b,a<=b->b<i->kA ky (bX e) (d+b)<=kA ky (bX e) (d+a))
  (Q:=λc f=>e=f/\∃n,c=(Zt,n,0)/\0<n/\n<=m/\∀a b,a<=b->b<n->kA ky (bX e) (d+b)<=kA ky (bX e) (d+a)) ?_ ?_ ⟨rfl,rfl,by show ba g y,λa b r v=>?_⟩) ?_)
 intro i c f g p;ext _ rfl rfl hle2 l;dsimp only;exact wB (nD L B (by show aj (br p _) q) (by show OO q p) ?_);unfold tQ;dsimp only;by_cases o:kA ky (bX e) (d+i)<kA ky (bX e) (d+i - 1);rw[decide_eq_true o,if_pos rfl,if_neg (by show bf _)];exact cu ⟨rfl,rfl,by show p,λa b r v=>?_⟩;by_cases w:b=i;subst w;by_cases u:a=b;subst u;show jD _;have:=l a (b - 1) (by show cF (ba r u)) (by show bH g);rw[show d+b - 1=d+(b - 1) by show el (aV g) _] at o;show iw (fU o this);show l a b r (by show Ki v w);(first|exact F6 (decide_eq_false o) ?_|rw[decide_eq_false o,if_neg ⋯]);exact wB (nD L B (by show OO q p) (by show aj (br p _) q) ?_);have D:=B.ne z (i:=d+i) (j:=d+i - 1) (by show aj (br p _) q) (by show OO q p) (by show(bj (bH (aj (a8 g) (aB _ _)))).symm);rw[decide_eq_true (by show Int.lt_iff_le_and_ne.mpr ⟨sM.mp o,D.symm⟩)];show cu ⟨rfl,i,rfl,by show a8 g,by show hle2,l⟩
 intro c f;ext _ rfl rfl hle2 l;rw[show max (1+1) m=m by show bt hle2 (dW _ _)];rw[show max (1+1) m=m by show bt hle2 (dW _ _)] at l;show⟨rfl,_,rfl,by omega,ax _,l⟩
 by_cases G:a=b;subst G;show jD _;have ha:a=0:=by show GZ.mp (bG (aj (ba r G) (bG v)))
 have a6:b=1:=by show Vn v ha G
 subst ha;subst a6;show iw hl
 intro c f;ext _ rfl a7;ext a7⟨n⟩rfl x g l
 unfold tQ;dsimp only
 (first|exact jS (by show bf _) ?_|rw[if_neg (by show bf _)])
 exact wB (KQ ?_)
 have a':=B.size
 have H:=getElem?_mirror_all (xs:=bX e) (i:=d) (j:=d+n) (by show(a'▸af (aA g _) q))
 have J:=B.set (mirror_perm (bX e) d (d+n) ((d+n - d) / 2))
 have N:∀i,i<n->kA ky (Oj (bX e) d (d+n) ((d+n - d) / 2)) (d+i)=kA ky (bX e) (d+(n - 1 - i)):=λi p=>by have:=H (d+i);rw[if_pos (by show TR p),show d+(d+n) - 1 - (d+i)=d+(n - 1 - i) by show Ue p] at this;show lK this
 have a1:Y4 (bX e) (Oj (bX e) d (d+n) ((d+n - d) / 2)) d (d+m):=λk hk=>by rw[H k,if_neg (by show Vo hk g)]
 have a2:Sg ky (Oj (bX e) d (d+n) ((d+n - d) / 2)) d n:=λi j a3 O=>by rw[N i (by show aZ a3 O),N j O];show l _ _ (by show vb a3 _) (by show aZ (dh _ _) (bH O))
 clear H N
 generalize Oj (bX e) d (d+n) ((d+n - d) / 2)=xs at J a1 a2⊢
 exact wB (j9 (gd (I:=λi c f=>yF e xs=f/\c=(Zt,i)/\i<=m/\Sg ky xs d i)
  (Q:=λc f=>yF e xs=f/\∃n,c=(Zt,n)/\0<n/\n<=m/\Sg ky xs d n) ?_ ?_ ⟨rfl,rfl,g,a2⟩) ?_)
 intro i c f g p;ext _ rfl rfl hle2 l;dsimp only;exact wB (F8 L J (by show aj (br p _) q) (by show OO q p) ?_);unfold tQ;dsimp only;by_cases o:kA ky xs (d+i)<kA ky xs (d+i - 1);(first|exact jk (decide_eq_true o) ?_|rw[decide_eq_true o,if_pos rfl]);show cu ⟨rfl,i,rfl,by show aj x g,by show hle2,l⟩;(first|exact F6 (decide_eq_false o) ?_|rw[decide_eq_false o,if_neg ⋯]);exact cu ⟨rfl,rfl,by show p,λa b r v=>?_⟩;by_cases w:b=i;subst w;by_cases u:a=b;subst u;show jD _;have:=l a (b - 1) (by show cF (ba r u)) (by show bH (ba r u));rw[show d+b - 1=d+(b - 1) by show el (a8 (ba r u)) _] at o;show ME this o;show l a b r (by show Ki v w)
 intro c f;ext _ rfl rfl hle2 l;rw[show max n m=m by show bt hle2 (dW _ _)];rw[show max n m=m by show bt hle2 (dW _ _)] at l;show⟨rfl,_,rfl,by omega,ax _,l⟩
 intro c f;ext _ rfl ac;ext ac⟨n'⟩rfl h0' h1' hs'
 show cu (h n' _ h0' h1' J rfl a1 hs')
theorem wm(L:wk M A E s U ky (· ∈Y.toList)){a n v:Nat}{m:SortSt}{Q:Bool->SortSt->Prop}(B:SB U Y m)(a4:v<=n)(G:a+n<=Y.size)(T:Sg ky (bX m) a v)
  (h:∀b,SB U Y b->bx b=bx m->Y4 (bX m) (bX b) a (a+n)->Sg ky (bX b) a n->Q true b):tL M A E s (binarySort' a n v) Q m:=by
 walk_at "@M A E s U ky Y a n v m Q|L B a4 G T h"
 rw[binarySort'_eq]
 exact wB (j9 (gd (I:=λk c b=>c=(Zt,())/\SB U Y b/\bx b=bx m/\Y4 (bX m) (bX b) a (a+n)/\Sg ky (bX b) a (min k n))
  (Q:=λc b=>c=(Zt,())/\SB U Y b/\bx b=bx m/\Y4 (bX m) (bX b) a (a+n)/\Sg ky (bX b) a n) ?_ ?_ ⟨rfl,B,rfl,Y4.refl _ _ _,λi j p H=>?_⟩) ?_)
 intro k c b a5 q;ext _ rfl t w y f;walk_at "@k b|a5 q t w y f";rw[show min k n=k by show b0 (a_ q)] at f;exact wB (j9 (gd (I:=λx c z=>b=z/\∃l r,c=(Zt,l,r)/\l<=r/\r<=k/\r - l<=k - x/\
   (∀i,i<l->kA ky (bX b) (a+i)<=kA ky (bX b) (a+k))/\(∀i,r<=i->i<k->kA ky (bX b) (a+k)<=kA ky (bX b) (a+i)))
  (Q:=λc z=>b=z/\∃l r,c=(Zt,l,r)/\l<=k/\(∀i,i<l->kA ky (bX b) (a+i)<=kA ky (bX b) (a+k))/\(∀i,l<=i->i<k->kA ky (bX b) (a+k)<=kA ky (bX b) (a+i))) ?_ ?_ ⟨rfl,0,k,rfl,by show bz _,by show ax _,by show ax _,λi hi=>by show Vp hi,λi d g=>by show False.elim (bf _ (af g d))⟩) ?_)
 intro x c z _ hxk;ext _ rfl a6;ext a6⟨l,r⟩rfl hlr hrk hm hlo hhi;dsimp only;by_cases o:l>=r;(first|exact jk o ?_|rw[if_pos o]);have:l=r:=by show bt hlr o
 subst this;show cu ⟨rfl,l,l,rfl,hrk,hlo,hhi⟩;(first|exact jS o ?_|rw[if_neg o]);exact wB (nD L t (by show aj (br q _) G) (by show aj (br (aZ (af (C8 (mZ o)) hrk) q) _) G) ?_);unfold tQ;dsimp only;by_cases D:kA ky (bX b) (a+k)<kA ky (bX b) (a+(l+r) / 2);(first|exact jk (decide_eq_true D) ?_|rw[decide_eq_true D,if_pos rfl]);exact cu ⟨rfl,l,(l+r) / 2,rfl,by show UU o,by show UR hrk o,by show Ud hm,hlo,λi d g=>?_⟩;have:=f ((l+r) / 2) i d g;show iw (fU D this);(first|exact F6 (decide_eq_false D) ?_|rw[decide_eq_false D,if_neg ⋯]);exact cu ⟨rfl,(l+r) / 2+1,r,rfl,by show UT o,by show hrk,by show Uc hm,λi d=>?_,hhi⟩;have:=f i ((l+r) / 2) (by show bG d) (by show aj (C9 (ed o)) hrk);show ME this D;intro c z;ext _ rfl a7;ext a7⟨l,r⟩rfl hlr hrk hm hlo hhi;have:l=r:=by show Mz hm hlr
 subst this;show⟨rfl,l,l,rfl,hrk,hlo,hhi⟩;intro c z;ext _ rfl a';ext a'⟨l,r⟩rfl hlk hlo hhi;unfold tQ;dsimp only;rw[moveDown'_eq];have ac:a+k<(bX b).size:=by rw[t.size];show aj (br q _) G
 have hb:=getElem?_bubble ac (a+k - (a+l)) (by show dh _ _);exact wB (jw (cu ⟨rfl,t.set (bubble_perm _ _ _),w,y.trans λx hx=>?_,?_⟩));exact(?_:(W9 (bX b) (a+k) (a+k - (a+l)))[x]?=_);rw[hb x,if_neg (by show Um hx q),if_neg (by show Ul hx q)];rw[show min (k+1) n=k+1 by show b0 q];have a0:∀i,kA ky (W9 (bX b) (a+k) (a+k - (a+l))) (a+i)=if i=l then kA ky (bX b) (a+k) else if l<i/\i<=k then kA ky (bX b) (a+(i - 1)) else kA ky (bX b) (a+i):=λi=>by have:=hb (a+i);by_cases d:i=l;rw[if_pos (by show Un d hlk)] at this;rw[if_pos d];show lK this;rw[if_neg (by show Uo hlk d)] at this;rw[if_neg d];by_cases g:l<i/\i<=k;rw[if_pos (by show⟨by rw[jr (aA (a_ (aj g.1 g.2)) _)];show br g.1 _,aA g.2 _⟩),show a+i - 1=a+(i - 1) by show el (a8 g.1) _] at this;rw[if_pos g];show lK this;rw[if_neg (by show Uk g)] at this;rw[if_neg g];show lK this
 intro i j p H;exact(?_:kA ky (W9 (bX b) (a+k) (a+k - (a+l))) (a+i)<=kA ky (W9 (bX b) (a+k) (a+k - (a+l))) (a+j));rw[a0 i,a0 j];have J:=bG H;by_cases N:i=l;rw[if_pos N];by_cases u:j=l;rw[if_pos u];show jD _;have e:l<j/\j<=k:=⟨ba (N▸p) (Ne.symm u),J⟩;rw[if_neg u,if_pos e];show hhi _ (cF e.1) (u2 e);rw[if_neg N];by_cases O:l<i/\i<=k;have e:l<j/\j<=k:=⟨aj O.1 p,J⟩;rw[if_pos O,if_neg (fj e.1),if_pos e];show f _ _ (f7 p 1) (u2 e);have a3:i<l:=ba (bS λh=>O ⟨h,af p J⟩) N;rw[if_neg O];by_cases u:j=l;rw[if_pos u];show hlo _ a3;rw[if_neg u];by_cases e:l<j/\j<=k;rw[if_pos e];show f _ _ (cF (jI a3 e.1)) (u2 e);rw[if_neg e];show f _ _ p (aj (ba (bS λh=>e ⟨h,J⟩) u) hlk)
 intro c b;ext _ hc t w y f;rw[show min (max (max v 1) n) n=n by show iz (dW _ _)] at f;show⟨hc,t,w,y,f⟩
 by_cases d:v=0;have:i=j:=by show UC p H d
 subst this;show jD _;show T i j p (by show Uz H d)
 intro c b;ext _ rfl t w y f
 show cu (h b t w y f)
end
end
section
noncomputable def YQ(ky:Keyed->Int)(xs:Array Keyed):List (Nat×Nat×Nat)->Nat->Nat->Prop
 |[],a,b=>a=b
 |p::r,a,b=>p.1=a/\0<p.2.1/\Sg ky xs a p.2.1/\YQ ky xs r (a+p.2.1) b
section
variable{ky:Keyed->Int}{xs Y:Array Keyed}
theorem YQ.le{l:List (Nat×Nat×Nat)}{a b:Nat}(h:YQ ky xs l a b):a+aa l<=b:=by
 induction l generalizing a with
 |nil=>show aX h
 |cons p r c=>show(af (aA (cM 1 _▸bp (a8 h.2.1) _) _) (bu _ _ _▸(c h.2.2.2)))
theorem YQ.append{l b:List (Nat×Nat×Nat)}{a c:Nat}:YQ ky xs (l++b) a c↔∃d,YQ ky xs l a d/\YQ ky xs b d c:=by
 induction l generalizing a with
 |nil=>show⟨λh=>⟨a,rfl,h⟩,λh=>Exists.elim h λm h=>Eq.symm (show a=m from h.1)▸h.2⟩
 |cons p r e=>show⟨λh=>Exists.elim (e.mp h.2.2.2) λm k=>⟨m,⟨h.1,h.2.1,h.2.2.1,k.1⟩,k.2⟩,λh=>Exists.elim h λm k=>⟨k.1.1,k.1.2.1,k.1.2.2.1,e.mpr ⟨m,k.1.2.2.2,k.2⟩⟩⟩
theorem YQ.out{l:List (Nat×Nat×Nat)}{c d a b:Nat}(h:YQ ky xs l c d)(o:Y4 xs Y a b)(e:d<=a\/b<=c):YQ ky Y l c d:=by
 induction l generalizing c with
 |nil=>show h
 |cons p r f=>have:=h.2.2.2.le;show⟨h.1,h.2.1,h.2.2.1.out o (Vq this e),f h.2.2.2 (U6 e)⟩
theorem KU(m:List Keyed)(k b:Nat)(xs:Array Keyed)(h:b+k+aa m<=xs.size):
  ((m.zipIdx k).foldl (λa (x:Keyed×Nat)=>a.setIfInBounds (b+x.2) x.1) xs).toList=xs.toList.take (b+k)++m++xs.toList.drop (b+k+aa m):=by
 induction m generalizing k xs with
 |nil=>simp
 |cons y m f=>
  rw[kF,e8,f (k+1) _ (by rw[Array.size_setIfInBounds];show Vr h),An];have c:b+k<aa xs.toList:=fK h;rw[←bu,List.take_set,List.drop_set_of_lt QM,fN,ag c];have e:(xs.toList.take (b+k)++(Zs xs.toList[b+k]).toList).set (b+k) y=xs.toList.take (b+k)++[y]:=by
   have d:(xs.toList.take (b+k)).length=b+k:=by rw[bP];show b0 (a_ c)
   rw[gG _ _ (aX d),d,gP];rfl
  rw[e,av,av,av,bM (b+k) 1];rfl
theorem jT{i j k:Nat}(h:i+k<j)(b:j<=xs.size):kA ky (xs.extract i j) k=kA ky xs (i+k):=by exact lK ?_;rw[C2];simp;intro a;show Vs h a
theorem Zg{a k b p f:Nat}{m:List Keyed}(D:Y.toList=xs.toList.take (a+k)++m++xs.toList.drop (a+k+aa m))(t:k<=b)(J:f<=p)(E:aa m=b - k+f)(G:a+b+p<=xs.size)(h0:0<b)
  (q:Sg ky xs a b)(r:Sg ky xs (a+b) p)(L:∀i,i<k->kA ky xs (a+i)<=kA ky xs (a+b))(O:∀j,f<=j->j<p->kA ky xs (a+b - 1)<=kA ky xs (a+b+j))(hb:0<p)
  (Q:m.Perm ((xs.extract (a+k) (a+b)).toList++(xs.extract (a+b) (a+b+f)).toList))(T:m.Pairwise λx y=>ky x<=ky y):Sg ky Y a (b+p):=by
 walk_at "@ky xs Y a k b p f m|D t J E G h0 q r L O hb Q T"
 have w:(xs.toList.take (a+k)).length=a+k:=by rw[bP,n8];show b0 (af (aA t _) (aV G))
 have H:∀j,j<k->kA ky Y (a+j)=kA ky xs (a+j):=λj c=>by exact lK ?_;rw[←cP,←cP,D,av,ar (TS c w),cQ (br c _)]
 have M:∀j,(c:k<=j)->(d:j<b+f)->∃h:j - k<aa m,kA ky Y (a+j)=ky m[j - k]:=λj c d=>by have h:j - k<aa m:=Uy d c E;exact⟨h,gO ?_⟩;rw[←cP,D,av,aH (TU w c),w,show a+j - (a+k)=j - k by show iY _ _ _,ar h,ag h]
 have U:∀j,b+f<=j->kA ky Y (a+j)=kA ky xs (a+j):=λj c=>by exact lK ?_;rw[←cP,←cP,D,av,aH (UZ c w t),w,aH (Uw c E t),eu];congr 1;show Us c t E
 have a0:∀x∈m,(∃i,k<=i/\i<b/\ky x=kA ky xs (a+i))\/(∃i,i<f/\ky x=kA ky xs (a+b+i)):=λx o=>by
  rcases aE.mp (Q.mem_iff.mp o) with o|o
  apply E11 (aC.mp o);intro i g;rw[cP] at g;have s:=(iB.mp g).1;simp at s;exact .inl ⟨k+i,by show aW _ _,by show kT (n:=_) (by rw[←bu];show aj (cW s) (fF _ _)),?_⟩;rw[←gO (ky:=ky) g,jT (aj (cW s) (fF _ _)) (aV G),bu];apply E11 (aC.mp o);intro i g;rw[cP] at g;have s:=(iB.mp g).1;simp at s;exact .inr ⟨i,by show kT (aj (cW s) (fF _ _)),?_⟩;rw[←gO (ky:=ky) g,jT (aj (cW s) (fF _ _)) (af (aA J _) G)]
 have lm:∀x∈m,∀i,i<k->kA ky xs (a+i)<=ky x:=λx o i g=>by
  rcases a0 x o with⟨j,u,z,e⟩|⟨j,u,e⟩
  rw[e];show q _ _ (a_ (aj g u)) z;rw[e];have:=L i g;have:=r 0 j (bz _) (Xd u J);rw[kL] at this;show Xh ‹_› this
 have mh:∀x∈m,∀j,f<=j->j<p->ky x<=kA ky xs (a+b+j):=λx o j c d=>by
  rcases a0 x o with⟨i,u,z,e⟩|⟨i,u,e⟩
  rw[e];have:=q i (b - 1) (cF z) (bH z);have:=O j c d;rw[show a+(b - 1)=a+b - 1 by show(el (a8 z) _).symm] at*;show gQ ‹_› this;rw[e];show r _ _ (Xf u c) d
 intro i j A c
 by_cases e:i=j
 subst e;show jD _
 rcases b9 j k with B|B
 rw[H i (aZ A B),H j B];show q i j A (aj B t)
 rcases b9 j (b+f) with d|d
 obtain⟨a2,ej⟩:=M j B d;rw[ej];rcases b9 i k with l|l
 rw[H i l];show lm _ (dw _) i l;obtain⟨a1,N⟩:=M i l (aZ A d);rw[N];show iQ.mp T _ _ a1 a2 (f9 l (ba A e))
 rw[U j d];have v:a+j=a+b+(j - b):=OL d;rcases b9 i k with l|l
 rw[H i l,v];have:=L i l;have:=r 0 (j - b) (bz _) (MB v c);rw[kL] at this;show gQ ‹_› this;rcases b9 i (b+f) with I|I
 obtain⟨a1,N⟩:=M i l I;rw[N,v];show mh _ (dw _) (j - b) (Nat.le_sub_of_add_le' d) (MB v c);rw[U i I,v,show a+i=a+b+(i - b) by show OL I];show r _ _ (f7 A _) (MB v c)
theorem GS{a:Array Keyed}(h:a.toList.Pairwise λx y=>ky x<=ky y):kP ky a:=by intro i j c b;by_cases e:i=j;subst e;show jD _;have:=iQ.mp h i j (by simp;show aZ c b) (by simpa using b) (ba c e);rw[gO (bk (show i<a.size by show aZ c b)),gO (bk b)];trivial
theorem vZ{i j:Nat}(h:Sg ky xs i (j - i))(d:j<=xs.size):kP ky (xs.extract i j):=by intro a b e c;simp at c;rw[jT (aZ (aA e _) (aj (cW c) (fF _ _))) d,jT (aj (cW c) (fF _ _)) d];show h a b e (aj c (f7 (fF _ _) _))
end
section
variable{M:yv}{A:eN}{E:Value->bc->Prop}{s:bc}{T:hE}{ky:Keyed->Int}{U:Array Keyed}
theorem B9{a:Type}{l:List a}{i:Nat}{x y:a}(b:l[i]?=Zs x)(c:l[i+1]?=Zs y):l=l.take i++x::y::l.drop (i+2):=by obtain⟨d,rfl⟩:=ae.mp b;obtain⟨e,rfl⟩:=ae.mp c;rw[Ef,Ef,fe]
theorem ru(L:wk M A E s T ky (· ∈U.toList)){i J:Nat}{o:SortSt}{Q:Bool->SortSt->Prop}(B:SB T U o)(R:YQ ky (bX o) (bx o).toList 0 J)(u:J<=U.size)(a3:i+1<(bx o).size)
  (h:∀q,SB T U q->YQ ky (bX q) (bx q).toList 0 J->(bx q).size+1=(bx o).size->Y4 (bX o) (bX q) 0 J->Q true q):tL M A E s (mergeAt' i) Q o:=by
 walk_at "@M A E s T ky U i J o Q|L B R u a3 h"
 exact wB (m6 ?_)
 apply E11 (⟨_,bk (fK a3)⟩:∃p,(bx o)[i]?=Zs p);intro bh ac;obtain⟨g,n,pw⟩:=bh
 walk_at "@g n pw|ac"
 apply E11 (⟨_,bk a3⟩:∃p,(bx o)[i+1]?=Zs p);intro bi al;obtain⟨sb,nb,bm⟩:=bi
 walk_at "@sb nb bm|al"
 have aM:=B9 (l:=(bx o).toList) (by rw[cP];show ac) (by rw[cP];show al)
 have H:=B.size
 unfold tQ;dsimp only;rw[ac,al]
 dsimp only
 generalize hP:((bx o).setIfInBounds i (g,n+nb,pw)).eraseIdxIfInBounds (i+1)=P'
 have am:P'.toList=(bx o).toList.take i++(g,n+nb,pw)::(bx o).toList.drop (i+2):=by
  rw[←hP,Array.toList_eraseIdxIfInBounds,An];have hl:((bx o).toList.take i).length=i:=by rw[bP];simp;show b0 (af (aW _ _) (a_ a3))
  conv=>lhs;rw[aM]
  rw[gG _ _ (aX hl),hl,gP,List.eraseIdx_append_of_length_le (TV hl),hl,show i+1 - i=1 by show fh _ _];rfl
 have aY:P'.size+1=(bx o).size:=by
  have e1:P'.size=aa P'.toList:=by simp
  have e2:(bx o).size=(bx o).toList.length:=by simp
  rw[e1,e2,am];simp;show UD a3
 rw[aM] at R
 apply E12 (YQ.append.mp R);intro bA R1 R2
 ext R2 q0 q1 q2 r0 r1 r2 R3
 dsimp only at q0 q1 q2 r0 r1 r2 R3
 subst q0
 subst r0
 have bI:=R1.le
 have v:=R3.le
 exact wB (jw (f:=λ_a=>_) ?_)
 have a5:∀j,j<U.size->∃x,(bX o)[j]?=Zs x/\x∈U.toList:=λj w=>⟨_,bk (o2 w H),B.mem (bk (o2 w H))⟩
 apply E12 (a5 (g+n) (aj (eE (a8 r1)) (af (aV v) u)));intro y hy py
 exact wB (fl hy (wB (mi L B.kind py (λj w=>a5 (g+j) (aj (br w _) (af (aV (aV v)) u))) q1 q2 λk b1 an b2=>?_)))
 walk_at "@P' y k|hP am aY hy py b1 an b2"
 unfold tQ;dsimp only
 have b3:∀(a1:Array Keyed) (m:List Keyed) (N:Nat) (q:SortSt),N+aa m<=n+nb->kindOf q=T->m5 q=Zt->bx q=P'->
   (bX q).toList=(bX o).toList.take (g+N)++m++(bX o).toList.drop (g+N+aa m)->m.Perm (((bX o).toList.drop (g+N)).take (aa m))->Sg ky (bX q) g (n+nb)->Q true q:=by
  intro a1 m N q hm Y hf hp ha bn bs
  have ap:Y4 (bX o) (bX q) g (g+n+nb):=by
   intro k Y;have a6:((bX o).toList.take (g+N)).length=g+N:=by rw[bP];simp;show UX v hm H u
   rw[←cP,←cP,ha,av];rcases Y with Y|Y
   rw[ar (Vt Y a6),cQ (Xe Y)];rw[aH (UY Y hm a6),aH (UJ Y hm a6),a6,eu];congr 1;show UG Y hm
  exact h q ⟨?_,Y,hf⟩ ?_ (by rw[hp];show aY) (ap.mono (bz _) (aV v))
  exact Yn ?_ B.perm;rw[j_,ha];have e:(bX o).toList=(bX o).toList.take (g+N)++(((bX o).toList.drop (g+N)).take (aa m))++(bX o).toList.drop (g+N+aa m):=by rw[av,←Bq (i:=aa m) (j:=g+N),fe,fe]
  conv=>rhs;rw[e]
  show(qO _ bn).append_right _
  rw[hp,am];exact YQ.append.mpr ⟨_,R1.out ap (.inl (ax _)),rfl,by change 0<n+nb;show NI _ r1,bs,?_⟩;exact(?_:YQ ky _ _ (g+(n+nb)) _);rw[←bu];show R3.out ap (.inr (ax _))
 have b4:Sg ky (bX o) g (n+nb)->∀q,Ao q=T->m5 q=Zt->bx q=P'->bX q=bX o->Q true q:=λhs q a b c d=>b3 #[] [] 0 q (by simp) a b c (by rw[d];simp) (by simp) (by rw[d];show hs)
 by_cases D:n - k=0
 (first|exact jk (decide_eq_true ∅) ?_|rw[if_pos (by simpa using D)]);exact cu (b4 ?_ _ B.kind B.failed rfl rfl);intro i j a0 w;rcases b9 j n with G|G
 show q2 i j a0 G;rcases b9 i n with O|O
 have:=an i (aj O (ff D));rw[←gO (ky:=ky) hy] at this;have h3:=r2 0 (j - n) (bz _) (dd G w);rw[kL,show g+n+(j - n)=g+j by show NW G] at h3;show gQ this h3;have:=r2 (i - n) (j - n) (f7 a0 _) (dd G w);rw[show g+n+(j - n)=g+j by show NW G,show g+n+(i - n)=g+i by show NW O] at this;show this
 (first|exact jS (by simpa using D) ?_|rw[if_neg (by simpa using D)])
 apply E12 (a5 (g+k+(n - k) - 1) (Uv v u D));intro z hz pz
 have bv:g+k+(n - k) - 1=g+n - 1:=congrArg (· - _) (Hx D)
 exact wB (fl hz (wB (mi L B.kind pz (λj w=>a5 (g+n+j) (aj (br w _) (af (aV v) u))) (bH r1) r2 λI a2 b5 as=>?_)))
 walk_at "@z I|hz pz a2 b5 as"
 rw[bv] at hz
 unfold tQ;dsimp only
 by_cases c2:I=0
 (first|exact jk (decide_eq_true ∅) ?_|rw[if_pos (by simpa using c2)]);exact cu (b4 ?_ _ B.kind B.failed rfl rfl);intro i j a0 w;rcases b9 j n with G|G
 show q2 i j a0 G;rcases b9 i n with O|O
 have:=as (j - n) (TX c2) (dd G w);rw[←gO (ky:=ky) hz] at this;have h3:=q2 i (n - 1) (cF O) (bH O);rw[show g+n+(j - n)=g+j by show NW G] at this;rw[show g+(n - 1)=g+n - 1 by show(el (a8 O) _).symm] at h3;show gQ h3 this;have:=r2 (i - n) (j - n) (f7 a0 _) (dd G w);rw[show g+n+(j - n)=g+j by show NW G,show g+n+(i - n)=g+i by show NW O] at this;show this
 (first|exact jS (by simpa using c2) ?_|rw[if_neg (by simpa using c2)])
 rw[show g+k+(n - k)=g+n by show Hx D] at*
 have a7:∀(lo J j:Nat) (x:Keyed),((bX o).extract lo J)[j]?=Zs x->x∈U.toList:=λlo J j x hx=>by walk_at "@lo J j x|hx";rw[C2] at hx;split at hx;show B.mem hx;cases hx
 have sx:kP ky ((bX o).extract (g+k) (g+n)):=vZ (λi j a0 w=>by have:=q2 (k+i) (k+j) (bW (ax _) a0) (cW (by rwa [iY] at w));rw[←bu,←bu] at this;show this) ((H▸af (aV (aV v)) u))
 have sy:kP ky ((bX o).extract (g+n) (g+n+I)):=vZ (λi j a0 w=>r2 i j a0 (UN w a2)) (Kh v a2 H u)
 have zx:((bX o).extract (g+k) (g+n)).size=n - k:=by simp;show Uh v H u
 have zy:((bX o).extract (g+n) (g+n+I)).size=I:=by simp;show Ur v a2 H u
 have b6:kA ky ((bX o).extract (g+n) (g+n+I)) 0<=kA ky ((bX o).extract (g+k) (g+n)) 0:=by rw[jT (Vu c2) (Kh v a2 H u),jT (UM D) (RH v H u)];have:=b2 k (ax _) (Nat.sub_ne_zero_iff_lt.mp D);rw[←gO (ky:=ky) hy] at this;show this
 have b':kA ky ((bX o).extract (g+n) (g+n+I)) (((bX o).extract (g+n) (g+n+I)).size - 1)<=kA ky ((bX o).extract (g+k) (g+n)) (((bX o).extract (g+k) (g+n)).size - 1):=by rw[zx,zy,jT (br (ko c2) _) (Kh v a2 H u),jT (UI D) ((H▸af (aV (aV v)) u))];have:=b5 (I - 1) (ko c2);rw[←gO (ky:=ky) hz] at this;rw[show g+k+(n - k - 1)=g+n - 1 by show Pw D];show this
 have bd:∀(r:Array Keyed) (t q:SortSt),Ao t=T->m5 t=Zt->bx t=P'->bX t=bX o->xB ky ((bX o).extract (g+k) (g+n)) ((bX o).extract (g+n) (g+n+I)) r->
   q=yF t (rX (λa (x:Keyed×Nat)=>a.setIfInBounds (g+k+x.2) x.1) (bX t) r.toList.zipIdx)->Q true q:=by
  intro r t q a b c d zq5;apply E02 zq5;intro f1 f2 bw;subst bw
  have a':aa r.toList=n - k+I:=by have:=f1.length_eq;simp only[bC,n8,zx,zy] at this;rw[n8];show this
  have be:(bX (yF t (rX (λa (x:Keyed×Nat)=>a.setIfInBounds (g+k+x.2) x.1) (bX t) r.toList.zipIdx))).toList=(bX o).toList.take (g+k)++r.toList++(bX o).toList.drop (g+k+aa r.toList):=by have:=KU r.toList 0 (g+k) (bX t) (by rw[d];show Vv v a' H u a2 D);rw[d] at this;exact(?_:(rX (λa (x:Keyed×Nat)=>a.setIfInBounds (g+k+x.2) x.1) (bX t) r.toList.zipIdx).toList=_);rw[d];show this
  exact b3 #[] r.toList k _ (UH a' a2 D) a b c be ?_ ?_
  exact f1.trans (GK ?_);simp only[Fh,Bx];rw[a',List.take_add,Bq];rw[show g+n - (g+k)=n - k by show iY _ _ _,show g+n+I - (g+n)=I by show fh _ _,show g+k+(n - k)=g+n by show Hx D]
  show Zg be b1 a2 a' ((H▸af (aV v) u)) q1 q2 r2 (λi J=>by rw[gO hy];show an i J) (λj G O=>by rw[gO hz];show as j G O) r1 f1 f2
 exact wO (λ_a=>?_) λ_a=>?_
 exact wB (B6 L B.kind (a7 _ _) (a7 _ _) sx sy (by rw[zx];show eT D) (by rw[zy];show eT c2) b6 b' λr t S F=>?_);exact wB (jw (wB (m6 (cu ?_))));have a4:m5 t=Zt:=S.2.2.2.trans B.failed;exact(?_:Q (m5 t).isNone _);rw[a4];show bd r t _ (S.1.trans B.kind) a4 S.2.2.1 S.2.1 F.PR rfl
 exact wB (B8 L B.kind (a7 _ _) (a7 _ _) sx sy (by rw[zx];show a8 (ed ‹_›)) (by rw[zy];show eT c2) b6 b' λr t S F=>?_);exact wB (jw (wB (m6 (cu ?_))));have a4:m5 t=Zt:=S.2.2.2.trans B.failed;exact(?_:Q (m5 t).isNone _);rw[a4];show bd r t _ (S.1.trans B.kind) a4 S.2.2.1 S.2.1 F rfl
end
end
section
theorem Nf[Decidable c](a b j:Nat)(h:(if c then a else b)=j):j=a\/j=b:=by by_cases d:c;rw[if_pos d] at h;show .inl h.symm;rw[if_neg d] at h;show .inr h.symm
theorem YQ.power{ky:Keyed->Int}{xs:Array Keyed}{c:Nat}{l:List (Nat×Nat×Nat)}{k a b:Nat}(h:YQ ky xs l a b):YQ ky xs (l.modify k λx=>(x.1,x.2.1,c)) a b:=by
 induction l generalizing k a with
 |nil=>cases k<;>show h
 |cons p r d=>
  cases k with
  |zero=>show h
  |succ k=>show⟨h.1,h.2.1,h.2.2.1,d h.2.2.2⟩
section
variable{M:yv}{A:eN}{E:Value->bc->Prop}{s:bc}{U:hE}{ky:Keyed->Int}{Y:Array Keyed}
theorem yU(L:wk M A E s U ky (· ∈Y.toList))(hd:PS ky Y){st:SortSt}(B:SB U Y st)(hp:bx st=#[])(G:0<Y.size)
  (h:∀a,SB U Y a->kP ky (bX a)->Q () a):tL M A E s sortRuns' Q st:=by
 walk_at "@M A E s U ky Y st Q|L hd B hp G h"
 rw[sortRuns'_eq]
 exact fJ (m6 ?_)
 dsimp only
 rw[B.size]
 generalize minRun' Y.size Y.size 0=z
 exact fJ (j9 (gd
  (I:=λi c a=>∃d,c=(Zt,d)/\SB U Y a/\YQ ky (bX a) (bx a).toList 0 d/\d<=Y.size/\(i<=d\/d=Y.size))
  (Q:=λc a=>c=(Zt,Y.size)/\SB U Y a/\YQ ky (bX a) (bx a).toList 0 Y.size) ?step ?fin ⟨0,rfl,B,by rw[hp];rfl,bz _,.inl (ax _)⟩) ?post)
 case fin=>
  intro c a;ext _⟨d⟩rfl B' v hl hi;have:d=Y.size:=Vw hi hl;subst this;show⟨rfl,B',v⟩
 case post=>
  intro c a;ext _ rfl B' v;dsimp only;have a3:=v.le;exact fJ (j9 (gd (I:=λi c a=>c=(Zt,())/\SB U Y a/\YQ ky (bX a) (bx a).toList 0 Y.size/\(bx a).size+i<=Y.size+1)
   (Q:=λc a=>c=(Zt,())/\SB U Y a/\YQ ky (bX a) (bx a).toList 0 Y.size/\(bx a).size<=1) ?_ ?_ ⟨rfl,B',v,by simp at a3;show af a3 (aW _ _)⟩) ?_)
  intro i c e _ hi;ext _ rfl m k h2;exact fJ (m6 ?_);by_cases H:(bx e).size<=1;rw[if_pos H];show cu ⟨rfl,m,k,H⟩;rw[if_neg H];generalize hj:(if Option.any (λx=>decide (x<(bx e)[(bx e).size - 2+1]?.elim 0 λx=>x.snd.fst)) (if(bx e).size - 2>0 then u_ (λx=>x.snd.fst) (bx e)[(bx e).size - 2 - 1]? else Zt)=true then(bx e).size - 2 - 1 else(bx e).size - 2)=j;have a6:j+1<(bx e).size:=by show(Nf (c:=_=true) _ _ j hj).elim (u3 H) (u4 H)
  exact fJ (ru L m k (ax _) a6 λf l t h3 D=>?_);show cu ⟨rfl,l,t,(by rw[←bu,bM,h3];show h2)⟩;intro c e;ext _ hc m k h2;show⟨hc,m,k,u5 h2⟩;intro c e;ext _ rfl m k h2;exact cu (h e m ?_);match hq:(bx e).toList,k with
  |[],k=>have:0=Y.size:=k;show(RJ G this).elim
  |[p],⟨_,_,h3,h4⟩=>have h4:0+p.2.1=Y.size:=h4;intro i j a7 hj;have:=h3 i j a7 (by rw[m.size] at hj;show UW h4 hj);rw[bK,bK] at this;show this
  |p::q::r,_=>
   have:(bx e).size=(bx e).toList.length:=by simp
   rw[hq] at this;simp at this;show(uv _ (Fo (af (aX this.symm) h2))).elim
 case step=>
  intro i c a' _ hi;ext _⟨d⟩rfl B1 v hl a4;walk_at "@z i a' d|a hi B1 v hl a4";try dsimp only
  by_cases J:d>=Y.size;rw[if_pos J];have:d=Y.size:=bt hl J;subst this;show cu ⟨rfl,B1,v⟩;rw[if_neg J];exact fJ (yT L hd B1 (du (ed J)) (aX (GR (mZ J))) λn e g o m ac al a5=>?_);dsimp only;have k:YQ ky (bX e) (bx e).toList 0 d:=by rw[ac];show v.out al (.inl (ax _))
  have go:∀(n:Nat) (f:SortSt),0<n->d+n<=Y.size->SB U Y f->YQ ky (bX f) (bx f).toList 0 d->Sg ky (bX f) d n->
    ∃N,(Zt,d+n)=((Zt:Option Unit),N)/\SB U Y (Ol f ((bx f).push (d,n,0)))/\YQ ky (bX f) ((bx f).push (d,n,0)).toList 0 N/\N<=Y.size/\(i+1<=N\/N=Y.size):=by
   intro n f h0 G l t w
   exact yI _ rfl ⟨l.perm,l.kind,l.failed⟩ ?_ G (Vx a4 G h0)
   rw[j3]
   show YQ.append.mpr ⟨d,t,rfl,h0,w,rfl⟩
  exact wO (λa0=>?_) λa0=>?_;exact fJ (wc (iS ⟨rfl,?_⟩));exact fJ (wm L m (WT.mpr ⟨o,a_ a0⟩) (MA g o) a5 λf l am an w=>?_);rw[if_neg ⋯];exact fJ (m6 ?_);have t:YQ ky (bX f) (bx f).toList 0 d:=by rw[am];show k.out an (.inl (ax _))
  cases ap:(bx f).back? with
  |none=>dsimp only;show fJ (jw (cu (go (min (Y.size - d) z) f (by show fD.mpr ⟨aj g o,jI g a0⟩) (by show MA g o) l t w)))
  |some b=>
   obtain⟨O,y,b3⟩:=b;dsimp only;generalize power' Y.size (2*O+y) (2*O+y+y+min (Y.size - d) z) Y.size=T;exact fJ (j9 (gd (I:=λD c a=>c=(Zt,())/\SB U Y a/\YQ ky (bX a) (bx a).toList 0 d/\Sg ky (bX a) d (min (Y.size - d) z))
    (Q:=λc a=>c=(Zt,())/\SB U Y a/\YQ ky (bX a) (bx a).toList 0 d/\Sg ky (bX a) d (min (Y.size - d) z)) ?_ (λD _b hh=>hh) ⟨rfl,l,t,w⟩) ?_)
   intro _ c st4 _ _;ext _ rfl B4 R4 hs4;exact fJ (m6 ?_);by_cases u:(bx st4).size>1;rw[if_pos u,bk (show(bx st4).size - 2<(bx st4).size by show JF (a8 u) ⋯)];generalize(bx st4)[(bx st4).size - 2]=x;obtain⟨x1,x2,a1⟩:=x;dsimp only;by_cases ho:a1<=T;rw[if_pos ho];show cu ⟨rfl,B4,R4,hs4⟩;rw[if_neg ho];exact fJ (ru L B4 R4 (Fy (aj g o)) (OT u) λas B5 R5 D a2=>?_);show cu ⟨rfl,B5,R5,hs4.out a2 (.inr (ax _))⟩;rw[if_neg u];show cu ⟨rfl,B4,R4,hs4⟩;intro c st4;ext _ rfl B4 R4 hs4;dsimp only;exact fJ (jw (fJ (jw (cu ?_))));exact go (min (Y.size - d) z) (Ol st4 ((bx st4).modify ((bx st4).size - 1) λx=>(x.1,x.2.1,T))) (fD.mpr ⟨aj g o,jI g a0⟩) (MA g o) ⟨B4.perm,B4.kind,B4.failed⟩ ?_ hs4;exact(?_:YQ ky (bX st4) ((bx st4).modify _ _).toList 0 d);rw[GL];show R4.power
  exact fJ (m6 ?_);have l:=m;have t:=k;have w:=a5;cases ap:(bx e).back? with
  |none=>dsimp only;show fJ (jw (cu (go (n) e (by show g) (by show lp o (a8 g)) l t w)))
  |some b=>
   obtain⟨O,y,b3⟩:=b;dsimp only;generalize power' Y.size (2*O+y) (2*O+y+y+n) Y.size=T;exact fJ (j9 (gd (I:=λD c a=>c=(Zt,())/\SB U Y a/\YQ ky (bX a) (bx a).toList 0 d/\Sg ky (bX a) d (n))
    (Q:=λc a=>c=(Zt,())/\SB U Y a/\YQ ky (bX a) (bx a).toList 0 d/\Sg ky (bX a) d (n)) ?_ (λD _b hh=>hh) ⟨rfl,l,t,w⟩) ?_)
   intro _ c st4 _ _;ext _ rfl B4 R4 hs4;exact fJ (m6 ?_);by_cases u:(bx st4).size>1;rw[if_pos u,bk (show(bx st4).size - 2<(bx st4).size by show JF (a8 u) ⋯)];generalize(bx st4)[(bx st4).size - 2]=x;obtain⟨x1,x2,a1⟩:=x;dsimp only;by_cases ho:a1<=T;rw[if_pos ho];show cu ⟨rfl,B4,R4,hs4⟩;rw[if_neg ho];exact fJ (ru L B4 R4 (Fy (aj g o)) (OT u) λas B5 R5 D a2=>?_);show cu ⟨rfl,B5,R5,hs4.out a2 (.inr (ax _))⟩;rw[if_neg u];show cu ⟨rfl,B4,R4,hs4⟩;intro c st4;ext _ rfl B4 R4 hs4;dsimp only;exact fJ (jw (fJ (jw (cu ?_))));exact go (n) (Ol st4 ((bx st4).modify ((bx st4).size - 1) λx=>(x.1,x.2.1,T))) g (lp o (a8 g)) ⟨B4.perm,B4.kind,B4.failed⟩ ?_ hs4;exact(?_:YQ ky (bX st4) ((bx st4).modify _ _).toList 0 d);rw[GL];show R4.power
end
end
section
structure Ng(Y:ox)(w:gp)(s:bc)(vs:List Value)(kd:hE)(k:Value->Int):Prop where
 kind:∀(A:eN) (E:Value->bc->Prop) (s':bc) (Q:hE->bc->Prop),2<=aa vs->(∀b o,s.heap.get? b=Zs o->s'.heap.get? b=Zs o)->Q kd s'->b8 (cX Y w) A (keyKind' vs.toArray) Q E s'
 lt:∀(A:eN) (E:Value->bc->Prop) (s':bc) (x y:Value) (Q:Bool->bc->Prop),A.units+4<mP->x∈vs->y∈vs->(∀b o,s.heap.get? b=Zs o->s'.heap.get? b=Zs o)->Q (decide (k x<k y)) s'->b8 (cX Y w) A (keyLt' kd x y) Q E s'
section
variable{Y:ox}{w:gp}{A:eN}{E:Value->bc->Prop}{s:bc}
theorem Ng.VL{a:bc}{c:List Value}{d:hE}{k:Value->Int}(h:Ng Y w a c d k)(g:∀b o,a.heap.get? b=Zs o->s.heap.get? b=Zs o)(i:A.units+4<mP):wk (cX Y w) A E s d (λp=>k p.1) (· ∈(Ap c).toList):=by exact⟨λx y m Q e f j l=>?_⟩;rw[Fp] at e f;rw[lt'_eq];exact fJ (m6 ?_);rw[j];exact fJ (wc (oz (h.lt _ _ _ _ _ _ i (JX e).2 (JX f).2 g ⟨rfl,?_⟩)));show cu l
theorem yV{a:Addr}{c:List Value}{n:Nat}{m:Fin->bc->Prop}{B:hE}{k:Value->Int}{r:bc}(q:s.heap.get? a=Zs (lA "list" c.toArray n))(t:aa c<=16000000)
  (D:Ng Y w r c B k)(N:∀b o,r.heap.get? b=Zs o->b≠a/\s.heap.get? b=Zs o)(O:(c.map k).Nodup)(T:A.units+4<mP)
  (h:∀G:Array Value,G.toList.Perm c->G.toList.Pairwise (λx y=>k x<=k y)->m (.done (.ret .none)) {s with heap:=sortedHeap s.heap a c G}):
  b8 (cX Y w) A (mz.«list.sort» ⟨[.ref a],[]⟩) m E s:=by
 walk_at "@Y w A E s a c n m B k r|q t D N O T h"
 rw[list_sort_plain]
 have U:a<s.heap.objs.size:=d9 q
 have H:eY=16777216:=rfl
 exact ao (pX q rfl ?_)
 exact ao (yw q rfl ?_ (by simp;show Pq H t) (bz _))
 apply E11 (⟨_,pE q (λl=>#[])⟩:∃I,(s.heap.update a (kn λl=>#[])).get? a=Zs (lA "list" #[] I));intro I a0
 exact ao (Mg a0 rfl ?_)
 exact ao (wpAny_newTuple ?_ (by simp;show Pq H t))
 exact ao (Hf ?_)
 exact cg ?_
 have u:(((s.heap.update a (kn λl=>#[])).push (lA "tuple" c.toArray 0)).push (lA "list" #[] 0)).get? a=Zs (lA "list" #[] I):=by rw[JY _ _ _ (by rw[size_push',Lv];show bj (qA U)),JY _ _ _ (by rw[Lv];show bj U)];show a0
 exact(?_:b8 (cX Y w) A _ m E {s with heap:=((s.heap.update a (kn λl=>#[])).push (lA "tuple" c.toArray 0)).push (lA "list" #[] 0)})
 have a3:∀b o,r.heap.get? b=Zs o->(((s.heap.update a (kn λl=>#[])).push (lA "tuple" c.toArray 0)).push (lA "list" #[] 0)).get? b=Zs o:=λb o e=>by apply E02 (N b o e);intro J f;show cm _ (cm _ ((rY _ _ (Ne.symm J)).trans f))
 dsimp only
 have v:c.toArray.size=aa c:=by rfl
 have a4:∀d:SortSt,(bX d).Perm (Ap c)->kP (λp=>k p.1) (bX d)->m (.done (.ret .none)) {s with heap:=sortedHeap s.heap a c ((bX d).map (·.2))}:=by
  intro d z L;have hl:(bX d).toList.Perm (c.zip c):=by rw[←Fp];show j_.mp z
  have a5:∀p,p∈(bX d).toList->p.1=p.2:=λp a7=>(JX (hl.mem_iff.mp a7)).1;exact h _ ?_ ?_;rw[JZ];exact(hl.map _).trans (GK ?_);show qV (ax _);rw[JZ,cK,iQ];intro i j hi g M;have a':i<(bX d).size:=by simpa using hi
  have a6:j<(bX d).size:=by simpa using g
  have J:=L i j (a_ M) a6;rw[gO (bk a'),gO (bk a6)] at J;rw[←a5 _ (dw hi),←a5 _ (dw g)];trivial
 by_cases f:c.toArray.size<2
 rw[if_pos f,if_pos f];exact ao (az ?_);rw[StateT.run_pure];exact ao (az ?_);dsimp only;exact ao (Mg u rfl ?_);exact ao (yw u rfl ?_ (hsz2:=by rw[Mh];change(Ap c).size<=_;rw[Aq];show(v▸af (a_ f) (jv ⋯))));simp only[bne_self_eq_false,iD,if_false];exact az (a4 (GF general' (c.toArray.zip c.toArray) #[] 7 Zt) (Fq _) ?_);intro i j M g;have g:j<(Ap c).size:=g;have:i=j:=by rw[Aq] at g;show(bt M (af (bG (aj g (bG (v▸f)))) (bz _)))
 subst this;show jD _
 rw[if_neg f,if_neg f];exact ao (D.kind _ _ _ _ (TY v f) a3 ?_);have ac:PS (λp=>k p.1) (Ap c):=by
  unfold PS;rw[Fp];have e:(c.zip c).map (λp=>k p.1)=((c.zip c).map GC).map k:=by rw[bE];rfl
  rw[e,kE (ax _)];show O
 exact ao (ly (yU (Y:=Ap c) (st:=GF B (c.toArray.zip c.toArray) #[] 7 Zt) (D.VL a3 T) ac
  (Q:=λl d=>(bX d).Perm (Ap c)/\m5 d=Zt/\kP (λp=>k p.1) (bX d))
  ⟨Fq _,rfl,rfl⟩ rfl (by rw[Aq];show(v▸aj ⋯ (bS f))) λd a1 a2=>⟨a1.perm,a1.failed,a2⟩) ?_ λl _b e=>e)
 intro al;obtain⟨⟨⟩,d⟩:=al;intro s';ext _ rfl z hf L;dsimp only;exact ao (Mg u rfl ?_);exact ao (yw u rfl ?_ (hsz2:=by apply af (aX ((Mh ..).trans (z.size_eq.trans (Aq _))));show af (af t ⋯) (dS (aX H.symm))));rw[hf];simp only[bne_self_eq_false,iD,if_false];show az (a4 d z L)
noncomputable def Ih(Y:ox)(w:gp)(s:bc)(x:Value)(d:List Value->Prop):Prop:=∀(A:eN) (E:Value->bc->Prop) (Q:List Value->bc->Prop),A.handled=Zt->(∀a c t,d a->(∀b o,s.heap.get? b=Zs o->c.get? b=Zs o)->Q a {s with heap:=c,toks:=t})->b8 (cX Y w) A (collect x) Q E s
theorem Dw{q:hE}(r:Ih Y w s x g)(u:∀a,g a->aa a<=16000000/\Ng Y w s a q k/\(a.map k).Nodup)(v:A.units+6<mP)(z:A.handled=Zt)
  (h:∀a (d:Array Value) i t D e,g a->d.toList.Perm a->d.toList.Pairwise (λx y=>k x<=k y)->(∀b o,s.heap.get? b=Zs o->i.get? b=Zs o)->¬Al s D->i.get? D=Zs (iJ d.toList e)->Q (.ref D) {s with heap:=i,toks:=t}):
  b8 (cX Y w) A (nG (.builtin "sorted") [x]) Q E s:=by
 walk_at "@Y w A E s x g Q q k|r u v z h"
 apply Calls.call_function_entry kind_sorted plain_sorted entry_sorted (args_sorted1 _)
 unfold mz.«sorted»
 exact ao (m:=checkCount "sorted" 1 1 _) (az ?_)
 exact ao (r _ _ _ z λa c t j f=>?_)
 walk_at "@a c t|j f"
 apply E03 (u a j);intro B H I
 exact ao (Hf ?_ (by change aa a<=16777216;show af B (aB 16000000 777216)))
 have G:¬Al s c.objs.size:=λ⟨o,e⟩=>bf _ (d9 (f _ _ e))
 have l:(c.push (lA "list" a.toArray 0)).get? c.objs.size=Zs (lA "list" a.toArray 0):=cx _ rfl
 exact(?_:b8 _ _ _ _ _ {s with heap:=c.push (lA "list" a.toArray 0),toks:=t})
 have n:∀b o,s.heap.get? b=Zs o->b≠c.objs.size/\(c.push (lA "list" a.toArray 0)).get? b=Zs o:=λb o e=>⟨λJ=>G (J▸⟨o,e⟩),cm _ (f b o e)⟩
 exact ao (cg (eO slot_list_sort ⟨_,l,rfl⟩ entry_list_sort (yV (s:={s with heap:=c.push (lA "list" a.toArray 0),toks:=t}) (r:=s) l B H n I (by change A.units+1+1+4<mP;show v) λd L M=>⟨_,rfl,?_⟩) (args_list_sort _)))
 apply E11 (sortedHeap_at (out:=d) l);intro e N
 exact az ⟨_,rfl,h a d _ t c.objs.size e j L M (λb o p=>?_) G (by rw[N])⟩
 rw[sortedHeap_old (n b o p).1 (by rw[size_push'];show qA (d9 (f b o p)))]
 show(n b o p).2
end
end
section
theorem LN(h:lF l a):uw a l:=lF.rec (motive:=λl a b=>uw a l) .nil (λb c=>.cons _ _ c) h
theorem two{c:Type}{l:List c}(h:2<=aa l):∃a b r,l=a::b::r:=by
 cases l with
 |nil=>show absurd h (uv 1)
 |cons a l=>cases l with
  |nil=>show absurd h (nH 1)
  |cons b r=>show Rr a b r rfl
section
variable{Y:ox}{w:gp}{A:eN}{E:Value->bc->Prop}{s:bc}
theorem xC{f:List Value}{g:List Int}(c:uw f g):Ng Y w s f W8 QH where
 kind:=λA E s' Q h i d=>by apply E31 (two h);intro n o p e;subst e;rw[keyKind_ints c];show az d
 lt:=λA E s' x y Q q j k i d=>by apply E21 (c.all x j);intro a t l;subst l;apply E21 (c.all y k);intro b u m;subst m;rw[keyLt'_oneType];show oneLt_int d
noncomputable def mV(h:yB)(v:Value)(i j:Int):Prop:=∃a n t u,v= .ref a/\h.get? a=Zs (gR [.int i t,.int j u] n)
noncomputable def wR(h:yB):Value->Int
 | .ref a=>match h.get? a with
  |some o=>match o.data with
   | .seq xs _=>QH (xs.getD 0 .none)*1000000+QH (xs.getD 1 .none)
   |_=>0
  |none=>0
 |_=>0
theorem mV.key(x:mV h v i j):wR h v=i*1000000+j:=by ext x⟨a,n,t,u⟩rfl e;unfold wR;simp[e,QH]
theorem xD(h:Q (decide (a<b)) s):b8 (cX Y w) A (oneLt' f (.int a t) (.int b u)) Q E s:=by
 cases f with
 |true=>show oneLt_int h
 |false=>rw[oneLt'_eq];simp only[iD,if_false];show ao (JS (jh h))
theorem AU(h:Q (decide (a=b)) s):b8 (cX Y w) A (eqBool (.int a t) (.int b u)) Q E s:=(lB Y w).eqBool (a:=a) (b:=b) (by simp[lB,lS]) (by simp[lB,lS]) h
theorem Dx{x y:Value}{i j c b:Int}{f:Bool}{Q:Bool->bc->Prop}(l:mV s.heap x i j)(m:mV s.heap y c b)(o:0<=j)(p:0<=b)(q:j<1000000)(r:b<1000000)
  (h:Q (decide (i*1000000+j<c*1000000+b)) s):b8 (cX Y w) A (keyLt' (QI f) x y) Q E s:=by
 walk_at "@Y w A E s x y i j c b f|Q l m o p q r h"
 ext l⟨a,n,t,u⟩rfl e
 ext m⟨D,G,v,z⟩rfl B
 walk_at "@Q a n t u D G v z|h e B"
 exact ao (pX e rfl (ao (pX B rfl ?_)))
 exact ao ?_
 change b8 _ _ (forIn [((mR i t,mR c v),0),((mR j u,mR b z),1)] (Zt,()) _) _ _ _
 rw[za]
 exact ao (ao (AU ?_))
 by_cases d:i=c
 rw[decide_eq_true d];exact az ?_;dsimp only;rw[za];exact ao (ao (AU ?_));by_cases k:j=b;rw[decide_eq_true k];exact az ?_;dsimp only;rw[NP];exact az (az ?_);have g:decide (i*1000000+j<c*1000000+b)=false:=decide_eq_false (TZ d k);rw[g] at h;show h;rw[decide_eq_false k];exact ao (xD (f:=f&&(1==0)) (az (az (az ?_))));have g:decide (i*1000000+j<c*1000000+b)=decide (j<b):=by congr 1;apply propext;show T_ d
 rw[g] at h;show h
 rw[decide_eq_false d];exact ao (xD (f:=f&&(0==0)) (az (az (az ?_))));have g:decide (i*1000000+j<c*1000000+b)=decide (i<c):=by congr 1;apply propext;show Vy o p q r d
 rw[g] at h;show h
theorem Dy(b:mV s.heap x i j)(h:∀t,Q (Zs (.int i t)) s):b8 (cX Y w) A (Yo x) Q E s:=by ext b⟨a,n,t,u⟩rfl e;exact ao (Ar (T:="tuple") ⟨_,e,rfl⟩ ?_);rw[if_neg ⋯];show ao (pX e rfl (az (h t)))
theorem B_{a:List Value}{Q:List (Option Value)->bc->Prop}(c:∀v∈a,∃i j,mV s.heap v i j)(h:∀b:List (Option Value),aa b=aa a->(∀f∈b,∃i t,f=Zs (.int i t))->Q b s):b8 (cX Y w) A (a.mapM Yo) Q E s:=by
 induction a generalizing Q with
 |nil=>rw[List.mapM_nil];show az (h [] rfl λo=>nm)
 |cons v a d=>rw[List.mapM_cons];apply E21 (c v (.head _));intro i j g;show ao (Dy g λt=>ao (d (λx k=>c x (.tail _ k)) λb l m=>az (h _ (congrArg _ l) λf n=>(bb.mp n).elim (λe=>⟨i,t,e⟩) (m f))))
theorem xE{a:List (Option Value)}(h:∀f∈a,∃i t,f=Zs (.int i t)):∃b,uw (a.filterMap id) b/\(a.filterMap id).length=aa a:=by
 induction a with
 |nil=>show cU [] (.nil) rfl
 |cons f a c=>apply E21 (h f (.head _));intro i t e;apply E12 (c λf d=>h f (.tail _ d));intro b g j;rw[e];show cU (i::b) (.cons _ _ g) (congrArg (· +1) j)
theorem AW{b:List Value}{Q:hE->bc->Prop}(g:∀v∈b,∃i j,mV s.heap v i j)(k:2<=aa b)(h:Q (QI true) s):b8 (cX Y w) A (keyKind' b.toArray) Q E s:=by
 rw[keyKind'_eq,J0];rw[map_eq_pure_bind];exact ao (ao (B_ g λa l d=>az ?_));have c:(a.toArray.all λx=>x.isSome)=true:=by simp only[Lw,cT];intro f m;apply E21 (d f m);intro i t n;subst n;rfl
 rw[if_pos c];exact ao (iS ?_);have e:(a.toArray.filterMap id)=(a.filterMap id).toArray:=by simp
 apply E12 (xE d);intro y o p;rw[e];have q:oneTypeOnly' (a.filterMap id).toArray=pure (Zs (.type "int")):=by
  rw[oneTypeOnly'_eq,J0,mapM_typeOf_ints o];simp only[map_pure,pure_bind];have c:((NO (λr=>mQ "int") (a.filterMap id)).toArray.all λx=>x==mQ "int")=true:=by simp only[Lw,gN,cT];intro _ _;rfl
  have u:(NO (λr=>mQ "int") (a.filterMap id)).toArray[0]?=Zs (mQ "int"):=by rw[sZ,ak,ag (Vz k p l)];rfl
  rw[u];simp only[c,if_true]
 rw[q];show ao (az (az h))
theorem mV.keep(x:mV h v i j)(k:∀b o,h.get? b=Zs o->c.get? b=Zs o):mV c v i j:=gm (λa h=>gm (λn h=>gm (λt h=>gm (λu h=>⟨h.1,k _ _ h.2⟩) h) h) h) x
theorem F9{e:List Value}(c:∀v∈e,∃i j,mV s.heap v i j/\0<=j/\j<1000000):Ng Y w s e (QI true) (wR s.heap) where
 kind:=λA E s' Q d a b=>AW (λv h=>(c v h).imp λi h=>h.imp λj h=>h.1.keep a) d b
 lt:=λA E s' x y Q o g k a b=>by apply E23 (c x g);intro i j p l d;apply E23 (c y k);intro q r f m n;rw[p.key,f.key] at b;show Dx (p.keep a) (f.keep a) l m d n b
theorem zv(c:s.heap.IsList l a.toArray)(d:aa a<=eY):Ih Y w s (.ref l) (· =a):=λA E Q g h=>
 collect_list c (by have:=h a ((s.heap.push (lA "list" #[] 0)).update s.heap.objs.size (kn (· ++a.toArray))) s.toks rfl (λb o e=>(rY _ _ (λf=>bf _ (f▸d9 e))).trans (cm _ e));show this) d
theorem Dz(c:s.heap.get? l=Zs (gR a n))(d:aa a<=eY):Ih Y w s (.ref l) (· =a):=by
 walk_at "@Y w s l a n|c d";show λA E Q j h=>by
  unfold collect;exact ao (wpAny_runValue (pA entry_proto_collect' ?_));change b8 _ _ (do again (.builtin "list.__iadd__" ⟨[←newList [],.ref l],[]⟩)) _ _ s;exact ao (Hf (az ⟨Code.quiet_builtin _ (by decide+kernel),pA entry_list_iadd' ?_⟩));change b8 _ _ (ve (.ref s.heap.objs.size) (.ref l) (.ref s.heap.objs.size)) _ _ {s with heap:=s.heap.push (lA "list" #[] 0)};unfold ve;have f:(s.heap.push (lA "list" #[] 0)).get? l=Zs (gR a n):=cm _ c;exact ao (Ar (T:="tuple") ⟨_,f,rfl⟩ ?_);have g:(mQ "tuple"==mQ "tuple")=true:=by rfl
  rw[if_pos (by rw[g];simp)];exact ao (pX f rfl ?_);exact ao (pX (xs:=#[]) (n:=0) (cx _ rfl) rfl ?_);rw[if_neg (by simp)];exact ao (yw (xs:=#[]) (n:=0) (cx _ rfl) rfl ?_ (bz _) (by change(#[]++a.toArray).size<=eY+1;simp only[l_,eI,sO];show af (aX (bK _)) (af d (aW _ _))));exact az ?_;change b8 (cX Y w) A (do
    let o←load s.heap.objs.size
    match o.data with
    | .seq xs _=>pure xs.toList
    |_=>unsupported "internal:collect") Q E {s with heap:=(s.heap.push (lA "list" #[] 0)).update s.heap.objs.size (kn (· ++a.toArray))}
  exact ao (Od (pE (cx _ rfl) _) ?_);change b8 _ _ (pure ((#[]:Array Value)++a.toArray).toList) Q E _;rw[show((#[]:Array Value)++a.toArray).toList=a by simp];have:=h a ((s.heap.push (lA "list" #[] 0)).update s.heap.objs.size (kn (· ++a.toArray))) s.toks rfl (λb o e=>(rY _ _ (λi=>bf _ (i▸d9 e))).trans (cm _ e));show az this
end
end
section
section
variable{U:ox}{w:gp}{A:eN}{E:Value->bc->Prop}{s:bc}
theorem KV:∀{kvs:List (Int×Value)},aa a=aa kvs->(∀(j:Nat) (v:Value),a[j]?=Zs v->∃k x,kvs[j]?=Zs (k,x)/\(intKind U w).is k v=true)->uw a (kvs.map (·.1)):=by
 induction a with
 |nil=>intro kvs b _;rw[gV b.symm];show .nil
 |cons v a g=>
  intro kvs b c;cases kvs with
  |nil=>show(Nat.noConfusion b)
  |cons p kvs=>exact E22 (c 0 v rfl) λk x e i=>Exists.elim (Value.isInt_shape i) λt h=>?_;rw[h];exact(?_:uw _ (p.1::kvs.map (·.1)));rw[congrArg GC (Option.some.inj e)];show .cons _ _ (g (Nat.succ.inj b) λj v h=>c (j+1) v h)
theorem F_(b:(d==sysModules)=false)(c:s.heap.DictAt (intKind U w) d kvs o)(g:aa kvs<=eY):
  Ih U w s (.ref d) (λi=>uw i (kvs.map (·.1))):=
 λA E Q k h=>kdu_collect (kdl_dict (kvs:=kvs) b) k c g λl m p n a=>h _ l m (KV ((n8).trans a.1) λj v e=>a.2 j v (by rw[←cP];show e)) n
end
theorem bF.perm{Y:Type}{f:Y->V}(i:j.Perm k):∀{l:List Y},bF w m Z (l.map f) k->∃e:List Y,e.Perm l/\bF w m Z (e.map f) j:=by
 induction i with
 |nil=>intro l r;show cU l (.refl _) r
 |cons x _ n=>
  intro l r;cases l with
  |nil=>cases(r)
  |cons a l=>
   cases r with
   |cons r c=>show E12 (n c) λe g h=>cU (a::e) (g.cons a) (.cons r h)
 |swap x y z=>
  intro l r;cases l with
  |nil=>cases(r)
  |cons a l=>
   cases r with
   |cons r c=>
    cases l with
    |nil=>cases(c)
    |cons b l=>
     cases c with
     |cons o c=>show cU (b::a::l) (.swap a b l) (.cons o (.cons r c))
 |trans _ _ p q=>intro l r;show E12 (q r) λB g t=>E12 (p t) λu h v=>cU u (h.trans g) v
theorem bF.mem_map{w:gp}{g:List Addr}{i:Zp}{Y:Type}{f:Y->V}{l:List Y}{d:List Value}(h:bF w g i (l.map f) d)(x:Value)(c:x∈d):∃a∈l,bQ w g i (f a) x:=by
 induction l generalizing d with
 |nil=>rw[h.inv] at c;cases c
 |cons a l k=>exact E23 h.inv λy m e r n=>?_;have c:x∈y::m:=e▸c;show(bb.mp c).elim (λe=>⟨a,.head _,e▸r⟩) λc=>Exists.elim (k n c) λb j=>⟨b,.tail _ j.1,j.2⟩
theorem bF.keys{w:gp}{d:List Addr}{g:Zp}{Y:Type}{f:Y->V}{k:Value->Int}{i:Y->Int}{l:List Y}{c:List Value}(h:bF w d g (l.map f) c)(q:∀a∈l,∀x,bQ w d g (f a) x->k x=i a):c.map k=l.map i:=by
 induction l generalizing c with
 |nil=>rw[h.inv];rfl
 |cons a l j=>exact E23 h.inv λy o e r m=>?_;rw[e,ck,ck,q a (.head _) _ r,j m λb n=>q b (.tail _ n)]
section
variable{C:Cx}{d:Nat}{H:Hp}{Y:Type}{f:Y->V}
theorem qh{A:eN}{E:Value->bc->Prop}{m:List Addr}{n:Zp}{s:bc}{x:Value}{l:List Y}{q:List Value->Prop}{u:hE}{k:Value->Int}{g:Y->Int}{v:Value->bc->Prop}{Q:V->Hp->Prop}(w:ic d A)(o:fX C m n H s)
  (N:Ih C.prog C.w s x q)(y:∀j,q j->bF C.w m n (l.map f) j/\Ng C.prog C.w s j u k)(B:∀a∈l,∀x,bQ C.w m n (f a) x->k x=g a)(G:(l.map g).Nodup)(O:aa l<=1000000)
  (T:s_ C [] m n s Q v)(h:∀i:List Y,i.Perm l->i.Pairwise (λa b=>g a<g b)->Q (.ref (aa H)) (H++[.list (i.map f)])):b8 (cX C.prog C.w) A (nG (.builtin "sorted") [x] []) v E s:=by
 have U:A.units+6<mP:=by have:=w.units;have e:mP=9900:=rfl;show(e▸aZ (bp (aV this) 6) ⋯)
 exact Dw (q:=u) (k:=k) N (λj hv=>?_) U w.handled λj I h' t D e a0 a1 a2 a3 hD J=>?_
 exact E02 (y j hv) λr o=>⟨af (aX (r.length.symm.trans (aq _))) (af O ⋯),o,?_⟩;rw[r.keys B];show G
 exact E02 (y j a0) λr _=>E12 (r.perm a1) λi p L=>?_;have a4:∀a∈i,∀x,bQ C.w m n (f a) x->k x=g a:=λa ha=>B a (p.mem_iff.mp ha);have a5:i.Pairwise (λa b=>g a<g b):=by
  have M:(I.toList.map k).Pairwise (· <=·):=cK.mpr a2;rw[L.keys a4] at M;have h4:(i.map g).Nodup:=(p.map g).nodup_iff.mpr G;have h5:(i.map g).Pairwise (· <·):=(M.and h4).imp λ{a b} h=>by have:=h.1;have:=h.2;show JW ‹_› this
  show cK.mp h5
 show E02 (o.grow (s':={s with heap:=h',toks:=t}) (c:=.list (i.map f)) a3 rfl rfl hD (λz=>⟨I.toList,e,J,L.mono (qd _ _) (.refl _),z⟩) ⟨_,J⟩) λS2 X2=>T _ _ _ _ _ _ (h i p a5) S2 X2 (.ref (rn o _))
theorem Ca{w:gp}{c:List Addr}{d:Zp}{l:List Nat}{b:List Value}(h:bF w c d (l.map V.Zn) b):uw b (l.map λn:Nat=>(n:Int)):=by
 induction l generalizing b with
 |nil=>rw[h.inv];show .nil
 |cons a l e=>show bF.eC h λy g r f=>bQ.gr r λt=>.cons _ _ (e f)
theorem AX(r:bQ w b Z (V.Zn a) x):QH x=(a:Int):=by apply bQ.gr r;clear r;intro _;rfl
theorem pK{l:List Nat}(h:l.Nodup):(l.map λn:Nat=>(n:Int)).Nodup:=by show cK.mpr (gI (λ{a b} (c:a≠b)=>kM rfl rfl c) h)
theorem DA{l:List Nat}(h:l.Pairwise λa b:Nat=>(a:Int)<b):l.Pairwise (· <·):=gI (S:=λa b:Nat=>a<b) (λ{a b:Nat} (c:(a:Int)<(b:Int))=>dB.mp c) h
theorem AY(r:bF w b Z l a)(h:l.length<=1000000):a.length<=eY:=by have e:eY=16777216:=rfl;have:=r.length;show(e▸this▸af h ⋯)
theorem tj{v:V}{l:List Nat}{Q:V->Hp->Prop}(k:YJ H v=Zs (.list (l.map V.Zn)))(m:l.Nodup)(i:aa l<=1000000)(h:∀b:List Nat,b.Perm l->b.Pairwise (· <·)->Q (.ref (aa H)) (H++[.list (b.map V.Zn)])):gh C d (.builtin "sorted") H [v] Q:=kc (f:=λx=>nG (.builtin "sorted") [x] []) (h:=λA w y s x z E o j r p=>by exact E33 (dE j k r) λa B n q g c=>?_;subst q;show qh (g:=λn:Nat=>(n:Int)) o j (zv ⟨_,g,rfl,_,rfl⟩ (AY c (by simpa using i))) (λD e=>by subst e;show⟨c,xC (Ca c)⟩) (λa G x r=>AX r) (pK m) i p λb t u=>h b t (DA u))
theorem yW{l:List Nat}{Q:V->Hp->Prop}(j:l.Nodup)(g:aa l<=1000000)(h:∀b:List Nat,b.Perm l->b.Pairwise (· <·)->Q (.ref (aa H)) (H++[.list (b.map V.Zn)])):gh C d (.builtin "sorted") H [.Zo .tup (l.map V.Zn)] Q:=by show kc (f:=λx=>nG (.builtin "sorted") [x] []) (h:=λA q t s x u E k i r m=>by exact bQ.Ay r λa v n z c=>?_;show qh (g:=λn:Nat=>(n:Int)) k i (Dz (i.n_ _ _ z) (AY c (by simpa using g))) (λw e=>by subst e;show⟨c,xC (Ca c)⟩) (λa y x r=>AX r) (pK j) g m λb o p=>h b o (DA p))
theorem tq{w:gp}{f:Zp}{U:ox}{l:List Nat}{c:List Value}{b:List DictEntry}(h:df w f (l.map λn:Nat=>YI.int n) c b):∃kvs:List (Int×Value),Pairs (intKind U w) b kvs/\kvs.map (·.1)=l.map (λn:Nat=>(n:Int))/\KeysOf (intKind U w) b.toArray:=by
 induction l generalizing c b with
 |nil=>rw[h.inv.2];show fP [] (.nil) rfl (λe d=>by simp at d)
 |cons a l g=>walk_at "@w f U a l c b|g h";exact E44 h.inv λx v s u _ i j k=>?_;subst i;exact E13 (g k) λkvs m o p=>E11 j.inv λt r=>?_;subst r;show fP (((a:Int),v)::kvs) (.cons (by simp[lB,lS]) rfl m) (congrArg _ o) (λe d=>(bb.mp (Lx.mp d)).elim (λq=>q▸⟨(a:Int),by simp[lB,lS],rfl⟩) λq=>p e (Lx.mpr q))
theorem Ii{w:gp}{c:List Addr}{d:Zp}{l:List Nat}{b:List Value}(h:uw b (l.map λn:Nat=>(n:Int))):bF w c d (l.map V.Zn) b:=by
 exact IntsAre.rec (motive:=λb f j=>∀l:List Nat,f=l.map (λn:Nat=>(n:Int))->bF w c d (l.map V.Zn) b) (λl e=>?_) (λi t {b f} h g l e=>?_) h l rfl;cases l with
 |nil=>show .nil
 |cons a l=>cases e
 cases l with
 |nil=>cases e
 |cons a l=>have e:=List.cons.inj e;show .cons (e.1▸.int _ _) (g l e.2)
theorem yX(y:YJ H v=Zs (.dict kvs))(z:kvs.map (·.1)=l.map λn:Nat=>YI.int n)(m:aa l<=1000000)(h:∀c:List Nat,c.Perm l->c.Pairwise (· <·)->Q (.ref (aa H)) (H++[.list (c.map V.Zn)])):
  gh C d (.builtin "sorted") H [v] Q:=by
 show kc (f:=λx=>nG (.builtin "sorted") [x] []) (h:=λA O T s x P E B o r D=>by
   exact E46 (kV o y r) λa vs es n G g p rs q I=>?_;subst G;rw[z] at p q;exact E13 (tq (U:=C.prog) p) λt j i J=>?_;have u:l.Nodup:=gI (λ{a b:Nat} (L:YI.int (a:Int)≠YI.int (b:Int))=>λe=>L (by rw[e])) (cK.mp q);have M:s.heap.DictAt (intKind C.prog C.w) a t n:=⟨_,_,g,⟨rfl,rfl,rfl⟩,rfl,J,by simpa using j,by rw[i];show pK u⟩;have N:aa t=aa l:=by have:=congrArg aa i;simpa using this
   exact qh (u:=W8) (k:=QH) (f:=V.Zn) (g:=λn:Nat=>(n:Int)) B o (F_ I M (by have e:eY=16777216:=rfl;show(e▸N▸af m ⋯))) (λa0 e=>?_) (λa _a x r=>AX r) (pK u) m D λc j i=>h c j (DA i);rw[i] at e;show⟨Ii e,xC e⟩)
noncomputable abbrev fS(p:Nat×Nat):V:=.Zo .tup [.Zn p.1,.Zn p.2]
theorem EE(r:bQ w e b (fS p) x)(c:∀a o,b a=Zs o->h.get? a=Zs o):mV h x p.1 p.2:=by walk_at "@w e b p x h|r c";exact bQ.Ay r λa k n z g=>?_;revert z;show bF.e2 g λy u i j=>bQ.gr i λt=>bQ.gr j λl z=>Rt _ _ _ _ rfl (c _ _ z)
theorem tu{v:V}{l:List (Nat×Nat)}{Q:V->Hp->Prop}(m:YJ H v=Zs (.list (l.map fS)))(D:l.Nodup)(o:∀p∈l,p.2<1000000)(z:aa l<=1000000)
  (h:∀c:List (Nat×Nat),c.Perm l->c.Pairwise (λp q=>p.1*1000000+p.2<q.1*1000000+q.2)->Q (.ref (aa H)) (H++[.list (c.map fS)])):gh C d (.builtin "sorted") H [v] Q:=
 kc (f:=λx=>nG (.builtin "sorted") [x] []) (h:=λA U Y s x P E G t r u=>by exact E33 (dE t m r) λa vs n I g w=>?_;subst I;have B:=t.n_;exact qh (u:=QI true) (k:=wR s.heap) (g:=λp:Nat×Nat=>(p.1:Int)*1000000+p.2) G t (zv ⟨_,g,rfl,_,rfl⟩ (AY w (by simpa using z))) (λa0 e=>?_) (λa _a x r=>(EE r B).key) ?_ z u λc i j=>h c i (gI (λ{a b} y=>?_) j);subst e;show⟨w,F9 λv m=>E12 (w.mem_map v m) (λp u r=>pF _ _ (EE r B) Jy (dB.mpr (o p u)))⟩;exact cK.mpr (d_ (λ{a b} J L (y:a≠b)=>?_) D);have i:=o a J;have j:=o b L;intro e;exact y ?_;obtain⟨M,N⟩:=a;obtain⟨O,T⟩:=b;dsimp only at e i j;have:M=O:=(mN (ew.mp e) i j).1;subst this;have:N=T:=VA e;subst this;rfl;show dB.mp y)
end
end
section
noncomputable def lL(l:List Nat):List Nat:=l.mergeSort (λa b=>decide (a<=b))
theorem pL(l:List Nat):(lL l).Perm l:=List.mergeSort_perm l _
theorem KW(l:List Nat):(lL l).Pairwise (· <=·):=by have:=List.pairwise_mergeSort (le:=λa b:Nat=>decide (a<=b)) (by intro a b c h1 h2;simp at*;show o5 h1 h2) (by intro a b;simp;show iV _ _) l;show this.imp λh=>by simpa using h
theorem sf(h:l.Nodup):(lL l).Pairwise (· <·):=by have c:=KW l;have e:(lL l).Nodup:=(pL l).nodup_iff.mpr h;show(c.and e).imp λ{a b} h=>by have:=h.1;have:=h.2;show ba ‹_› this
theorem kB:a∈lL l↔a∈l:=(pL l).mem_iff
theorem uK(l:List Nat):(lL l).length=aa l:=(pL l).length_eq
theorem zw{l c:List Nat}(h:l.Perm c)(d:l.Pairwise (· <·))(e:c.Pairwise (· <·)):l=c:=by
 induction l generalizing c with
 |nil=>show h.symm.eq_nil.symm
 |cons a l f=>
  cases c with
  |nil=>show h.eq_nil
  |cons b c=>have d:=lV.mp d;have e:=lV.mp e;have g:a=b:=(bb.mp (h.mem_iff.mp (.head _))).elim id λi=>(bb.mp (h.mem_iff.mpr (.head _))).elim Eq.symm λj=>(Rk (d.1 b j) (e.1 a i)).elim;rw[g] at h⊢;show congrArg _ (f h.cons_inv d.2 e.2)
theorem kY(h:a.Perm l)(b:a.Pairwise (· <·)):a=lL l:=zw (h.trans (pL l).symm) b (sf (h.nodup_iff.mp (b.imp λh=>bj h)))
theorem vp(a:l.Pairwise (· <·)):lL l=l:=(kY (.refl _) a).symm
section
variable{C:Cx}{d:Nat}{H:Hp}
theorem mj(a:YJ H v=Zs (.list (l.map V.Zn)))(b:l.Nodup)(c:aa l<=1000000)(h:Q (.ref (aa H)) (H++[.list ((lL l).map V.Zn)])):gh C d (.builtin "sorted") H [v] Q:=tj a b c λg e f=>by rw[kY e f];show h
theorem DB(a:l.Nodup)(b:aa l<=1000000)(h:Q (.ref (aa H)) (H++[.list ((lL l).map V.Zn)])):gh C d (.builtin "sorted") H [.Zo .tup (l.map V.Zn)] Q:=yW a b λf c e=>by rw[kY c e];show h
theorem qi(a:YJ H v=Zs (.dict kvs))(b:kvs.map (·.1)=l.map λn:Nat=>YI.int n)(c:aa l<=1000000)(h:Q (.ref (aa H)) (H++[.list ((lL l).map V.Zn)])):gh C d (.builtin "sorted") H [v] Q:=yX a b c λg e f=>by rw[kY e f];show h
end
end
section
variable{C:Cx}{d:Nat}{Y:nu}{U:YK}{H:Hp}
theorem KX(h:fL C d Y U H x Q):fL C d Y U H (.BoolOp .And [x] pos) Q:=by
 focus
  show λA a b s c E e f L g=>BoolOp_one (h A a b s c E e f L g)
theorem VM(h:fL C d Y U H x Q):fL C d Y U H (.BoolOp .Or [x] pos) Q:=by
 focus
  show λA a b s c E e f L g=>BoolOp_one (h A a b s c E e f L g)
theorem Ij(h:fL C d Y U H x λv a=>∃b,v= .bool b/\if b then fL C d Y U a (.BoolOp .And (y::i) pos) Q else Q (.bool false) a):
  fL C d Y U H (.BoolOp .And (x::y::i) pos) Q:=by
 focus
  intro A j k s l E e m L f;exact BoolOp_and (h A j k s _ E e m L λv a n o x s' q g c r=>?_);ext q⟨b⟩rfl q;apply bQ.vR r;clear r;exact jh ?_;cases b;show f _ _ _ _ _ _ q g c (.bool _);show q A n o s' l E e g (L.ext c) (f.trans c)
theorem WH(h:fL C d Y U H x λv a=>∃b,v= .bool b/\if b then Q (.bool true) a else fL C d Y U a (.BoolOp .Or (y::i) pos) Q):
  fL C d Y U H (.BoolOp .Or (x::y::i) pos) Q:=by
 focus
  intro A j k s l E e m L f;exact BoolOp_or (h A j k s _ E e m L λv a n o x s' q g c r=>?_);ext q⟨b⟩rfl q;apply bQ.vR r;clear r;exact jh ?_;cases b;show q A n o s' l E e g (L.ext c) (f.trans c);show f _ _ _ _ _ _ q g c (.bool _)
theorem mM(O:fy C i j)(h:Q (.ref (aa H)) (H++[.dict []])):fL C d Y U H (.Dict [] [] pos) Q:=by
 focus
  intro A k l s m E n a L b;apply E02 (a.alloc (o:=fx [] 0) (c:=.dict []) rfl λp g z=>⟨[],[],0,g,.nil,.nil,by simp,qb O a,z⟩);intro e f;show wpAny_Dict_empty (b _ _ _ _ _ _ h e f (.ref (by rw[←a.len];simp)))
set_option tactic.hygienic true in
theorem Ik{u v:Str->Option Value}(O:fy C u v){i j:Int}{w x:Nat}{y g l:Pos}{Q:V->Hp->Prop}(h:Q (.ref (aa H)) (H++[.dict [(.int i,.int j)]])):
  fL C d Y U H (.Dict [Zs (.Constant (.int i) w y)] [.Constant (.int j) x g] l) Q:=by
 focus
  walk_at "@C d Y U H u v i j w x y|O g l Q h";intro A φ Z s P E rm a L B;walk_at "@g l Q A φ Z s P E|h rm a L B";apply wpAny_Dict_walk (knd:=intKind C.prog C.w) rfl rfl (by simp) (by simp);exact pairTrees_cons_walk (qK (qK (pairTrees_nil_walk ?_)));exact fP [(i,.int j _)] ⟨by simp[lB,lS],rfl,trivial⟩ (W_ s.heap) (λm D hs=>?_);have hm:merged (K:=Int) [] [(i,mR j (s.toks+1))]=[(i,mR j (s.toks+1))]:=rfl;rw[hm] at D;ext D⟨o,f,G⟩ho a2 I hk J hn;ext a2 M N T;have n:∃t,f.toList=[⟨JJ i,.int i t,.int j (s.toks+1)⟩]:=by
   generalize hL:f.toList=L at J⊢;cases J with
   |@cons e _ _ _ p h2 h3=>
    cases h3;apply E12 (hk e (by rw[←Fj,hL];simp));intro k q a0;obtain⟨eh,ek,ev⟩:=e;dsimp only at p h2 q a0;cases ek<;>simp[lB,lS] at p q
    subst p;subst q;rename_i t0;apply lC t0;rw[a0,h2];rfl
  ext n⟨t⟩n;have a1:m.get? s.heap.objs.size=Zs (fx [⟨JJ i,.int i t,.int j (s.toks+1)⟩] G):=by
   rw[ho];obtain⟨oc,od,a4,a5⟩:=o;dsimp only at M N T I;subst M;subst N;subst T;subst I;have:f=#[⟨JJ i,.int i t,.int j (s.toks+1)⟩]:=by rw[←Array.toArray_toList (xs:=f),n]
   rw[this]
  have a3:∀b r,s.heap.get? b=Zs r->m.get? b=Zs r:=λb r e=>(hs.2 b (λhb=>bf _ (hb▸d9 e))).trans (cm _ e);exact E02 (a.grow (s':={s with heap:=m,toks:=s.toks+1+1+[(mR i s.toks,mR j (s.toks+1))].length}) (c:=.dict [(.int i,.int j)]) a3 rfl rfl (fR s)
   (λz=>⟨[_],_,G,a1,.cons (.int _ _) .nil,.cons (.int _ _) .nil,by simp,qb O a,z⟩) ⟨_,a1⟩) ?_;intro S2 X2
  show B _ _ _ _ _ _ h S2 X2 (.ref (rn a _))
theorem qj
  (h:xd C d Y U H m λi H1=>i.target n/\∃(N:Nat) (Inv:Nat->YK->Hp->Prop),(∃c,Sub c U/\Inv 0 c H1)/\∀k c g,k<=N->Inv k c g->i.ok g/\(i.next g k=Zt->Q .next c g)/\∀v,i.next g k=Zs v->k<N/\tR C d Y c g n v λo p=>gM C d Y o p J (oJ Inv k Q))
  (M:autoParam (∀x,de m Y x=pure x) aP):pd C d Y U H (.For n m J [] a0) Q:=by
 focus
  walk_at "@C d Y U H n m J a0 Q|h M";exact xq (HN ?_ M);intro A t u s w E y z L B;exact h A t u s w E y z L λi H1 a1 Z' I fp s' q=>B i H1 a1 Z' I fp s' ?_;ext q ht a2;ext a2⟨N,Inv⟩a3 a4;ext a3⟨c⟩a5 h0;exact⟨ht,N,λk l g=>k<=N/\∃c,Y_ c l/\Inv k c g,⟨bz _,c,a5.get,h0⟩,?_⟩;intro k l g;ext _ hk a6;ext a6⟨c⟩O hi;apply E03 (a4 k c g hk hi);intro g1 g2 g3;exact⟨g1,λhn=>⟨c,O,g2 hn⟩,λv hv=>?_⟩;apply E02 (g3 v hv);intro D g5;exact⟨D,EC ?_ O⟩;intro A t u s x w E y z L r B;exact g5 A t u s x w E y z L r λo p a7 Z2 s2 q2=>B o p a7 Z2 s2 (q2.mono λf T H3 j=>?_);cases f with
  |next=>ext j⟨G⟩a b;show⟨D,G,a.get,b⟩
  |cont=>ext j⟨G⟩a b;show⟨D,G,a.get,b⟩
  |brk=>show cU T (λ_a _b e=>e) j
  |ret v=>show cU T (λ_a _b e=>e) j
theorem Il{m:Type}(f:m->V)
  (h:fL C d Y U H n λv H1=>∃(l:List m) (Inv:Nat->YK->Hp->Prop),(∃b,Sub b U/\Inv 0 b H1)/\(∀k b c,Inv k b c->YJ c v=Zs (.list (l.map f)))/\(∀k a b c,l[k]?=Zs a->Inv k b c->tR C d Y b c r (f a) λs t=>gM C d Y s t u (oJ Inv k Q))/\∀b c,Inv (aa l) b c->Q .next b c)
  (w:autoParam (∀x,de n Y x=pure x) aP):pd C d Y U H (.For r n u [] pos) Q:=by
 focus
  exact qj (iK (h.mono λv H1 h=>?_)) w;ext h⟨l,Inv⟩y o z A;ext y⟨b⟩B p;exact⟨⟨_,o 0 b H1 p⟩,trivial,aa l,Inv,⟨b,B,p⟩,λk b c D i=>?_⟩;have j:=o k b c i;exact⟨⟨_,j⟩,λg=>?_,λG g=>?_⟩;simp only[mC.next,j] at g;have:aa l<=k:=by simpa using g
  have e:k=aa l:=bt D this;subst e;show A _ _ i;simp only[mC.next,j] at g;rw[ak] at g;apply E12 (bg.mp g);intro a q E;subst E;show⟨(ae.mp q).1,z k a b c q i⟩
end
theorem tw:Yy "dict" "__eq__" "dict.__eq__":=
 .of (owner:="dict") (n:="__eq__") (by rw[pq,kl];kernel_rfl) (by decide+kernel) (by decide+kernel) (by decide+kernel)
  (by first|show .inl (by decide+kernel)|show .inr (by decide+kernel)) (by rw[lu];kernel_rfl)
theorem xF:Ma table "dict.__eq__"=Zs mz.«dict.__eq__»:=entryFor_of_fast (by kernel_rfl)
theorem yY(a b:Value):JO "dict.__eq__" ⟨[a,b],[]⟩:=by unfold JO;kernel_rfl
section
variable{C:Cx}{d:Nat}{H:Hp}
theorem Cb{M:yv}{A:eN}{E:Value->bc->Prop}{s:bc}{a:Type}{b:Nat}{f:Nat->a->Bk (ForInStep a)}(I:Nat->a->Prop){Q:a->bc->Prop}
  (g:∀i c,i<b->I i c->b8 M A (f i c) (λr s'=>s'=s/\match r with| .done d=>Q d s| .yield d=>I (i+1) d) E s)
  (j:∀c,I b c->Q c s){c:a}(h:I 0 c):b8 M A (forIn [0:b] c f) Q E s:=by
 rw[NQ]
 have k:([0:b]:Eg).size=b - 0:=by simp[Std.Legacy.Range.size]
 exact(?_:b8 M A (forIn (GD 0 ([0:b]:Eg).size 1) c f) Q E s)
 rw[k]
 have l:∀(m i:Nat) (c:a),i+m=b->I i c->b8 M A (forIn (GD i m 1) c f) Q E s:=by
  intro m;induction m with
  |zero=>intro i c hi hI;rw[List.range'_zero,NP];have:i=b:=hi;subst this;show az (j c hI)
  |succ m n=>
   intro i c hi hI;rw[Lu,za];exact ao (ly (g i c (O8 hi) hI) (λr s' h=>?_) λo p e=>e);ext h rfl h;cases r with
   |done d=>show az h
   |yield d=>show n (i+1) d (O9 hi) h
 show l (b - 0) 0 c Sm h
theorem DC{id:String}{A:eN}{E:Value->bc->Prop}{u:List Addr}{k:Zp}{s:bc}{a b:Addr}{kvs f:List (YI×V)}{v w:List Value}{g l:List DictEntry}{n D:Nat}{Q:Bool->bc->Prop}(rm:ic d A)(S:fX C u k H s)
  (o:s.heap.get? a=Zs (fx g n))(r:s.heap.get? b=Zs (fx l D))(x:df C.w k (kvs.map (·.1)) v g)(G:bF C.w u k (kvs.map (·.2)) v)(t:df C.w k (f.map (·.1)) w l)(J:bF C.w u k (f.map (·.2)) w)
  (y:(f.map (·.1)).Nodup)(ha:(a==sysModules)=false)(hb:(b==sysModules)=false)(L:kvs.length=f.length)(hk:∀p∈kvs,p.1.kind=2)(M:∀p∈f,p.1.kind=2)
  (N:∀p∈kvs,f.lookup p.1=Zs p.2)(a0:∀p∈kvs,∃m:Nat,p.2= .Zn m)(h:Q true s):b8 (cX C.prog C.w) A.in1 (yx id a b) Q E s:=by
 walk_at "@C d H id A E u k s a b kvs|f v w g l n D Q rm S o r x G t J y ha hb L hk M N a0 h"
 have O:g.length=kvs.length:=by have:=x.length;simp at this;show O_ this
 have a1:l.length=f.length:=by have:=t.length;simp at this;show O_ this
 unfold yx
 have a2:∀c:Addr,(c==sysModules)=false->lE c=pure ():=λc q=>by unfold lE;rw[if_neg (by rw[q];show jB)]
 rw[a2 a ha,a2 b hb]
 exact ao (az (ao (az ?_)))
 exact ao (gE o rfl (ao (gE r rfl ?_)))
 rw[if_neg (by simp[O,a1,L])]
 exact ao (pD o rfl ?_)
 exact ao (Cb (I:=λ_a c=>c=(Zt,())) (λi c hi q=>?_) (λc q=>?_) rfl)
 ·walk_at "@f v w g l n D Q i c|o r x G t J y L M N h O a1 hi q";subst q;have a':i<g.length:=by simpa using hi
  have a3:i<kvs.length:=cJ a' O;have a4:kvs[i]?=Zs kvs[i]:=ag a3;have T:=dw a3;apply E11 (a0 _ T);intro m hm;have ac:(kvs.map (·.1))[i]?=Zs kvs[i].1:=by rw[ak,a4];rfl
  apply E14 (x.get ac);intro e he kr al am;have an:(kvs.map (·.2))[i]?=Zs (V.Zn m):=by rw[ak,a4,←hm];rfl
  apply E12 (G.get an);intro xv a5 z;have ap:xv=e.val:=by rw[am] at a5;show(Option.some.inj a5).symm
  rw[ap] at z;have as:=N _ T;apply E12 (tV as);intro j U aM;apply E14 (t.get U);intro Y aY bh bi b1;have b2:(f.map (·.2))[j]?=Zs (V.Zn m):=by rw[ak,aM,←hm];rfl
  apply E12 (J.get b2);intro b3 a6 B;have b4:b3=Y.val:=by rw[b1] at a6;show(Option.some.inj a6).symm
  rw[b4] at B;exact ao (gE o rfl ?_);have b5:g.toArray[i]?=Zs e:=by simpa using he
  rw[b5];dsimp only;exact ao (cg (ao ?_));rw[al];exact uH rm S kr r t y (λk' b6=>by apply E12 (ay.mp b6);intro p hp b';subst b';rw[M p hp,hk _ T]) (λhn=>absurd (ai U) hn) λj' a7=>?_;have bd:j'=j:=(cj (ae.mp a7).1 y).mp (a7.trans U.symm);subst bd;dsimp only;exact ao (gE r rfl ?_);have be:l.toArray[j']?=Zs Y:=by simpa using aY
  rw[be];dsimp only;exact cg ?_;obtain⟨eh,ek,ev⟩:=e;obtain⟨bm,bn,bs⟩:=Y;dsimp only at z B⊢;apply bQ.gr z;clear z;intro _;apply bQ.gr B;clear B;intro _;exact AU ?_;rw[decide_eq_true rfl];rw[if_neg ⋯];exact ao (pD o rfl ?_);rw[if_neg (by simp)];show az ⟨rfl,rfl⟩
 ·subst q;show az h
theorem wo{v j:V}{kvs c:List (YI×V)}{Q:V->Hp->Prop}(l:YJ H v=Zs (.dict kvs))(o:YJ H j=Zs (.dict c))(q:aa kvs=aa c)(r:∀p∈kvs,p.1.kind=2)(t:∀p∈c,p.1.kind=2)
  (u:∀p∈kvs,c.lookup p.1=Zs p.2)(w:∀p∈kvs,∃m:Nat,p.2= .Zn m)(h:Q (.bool true) H):j4 C d (AJ .Eq) H [v,j] Q:=by
 focus
  show eK (f:=eZ .Eq) (h:=λA φ Z s x y z E k e B D G=>by apply E46 (kV e l B);intro a vs es n I g J L a2 M;subst I;apply E46 (kV e o D);intro b a3 a4 n' N i O U Y hb;subst N;have a0:=G _ _ _ _ _ _ h e (.refl _ _ _ _) (.bool _);exact(?_:b8 _ _ (richCompare .Eq (.ref a) (.ref b)) z E s);exact wpAny_richCompare_same_or (T:="dict") (jj g) (jj i) tw ?_ (.inr k.BF);exact eO tw (jj g) xF ?_ (yY _ _);exact ao ?_;unfold Wi;exact ao (km (jj g) ?_);exact ao (m:=slotArgs _ _ _) (az ?_);exact az ?_;dsimp only;exact ao (tF (T:="dict") (b:=true) (jj i) isSubtype_dict_dict ?_);exact wpAny_ite_split (λa1=>absurd a1 ⋯) (λ_a=>?_);exact ao (m:=As _) (az ?_);exact ao (m:=As _) (az ?_);exact ao (DC k e g i J L O U Y M hb q r t u w ?_);show az ⟨_,rfl,by simp,a0⟩)
theorem DD{v:V}{kvs:List (YI×V)}{l:List Nat}{Q:V->Hp->Prop}(p:YJ H v=Zs (.dict kvs))(q:kvs.map (·.1)=l.map λn:Nat=>YI.int n)(t:aa l<=1000000)(h:Q (.int (aa l)) H):gh C d (.builtin "len") H [v] Q:=by
 focus
  show kc (f:=λx=>nG (.builtin "len") [x] []) (h:=λA J L s x M E N c r u=>by
    apply E46 (kV c p r);intro a O T n w g i U j y;subst w;rw[q] at i j;apply E13 (tq (U:=C.prog) i);intro k z m B;have D:l.Nodup:=gI (λ{a b:Nat} (G:YI.int (a:Int)≠YI.int (b:Int))=>λe=>G (by rw[e])) (cK.mp j);have I:s.heap.DictOf (intKind C.prog C.w) a k:=⟨_,_,n,g,⟨rfl,rfl,rfl⟩,rfl,B,by simpa using z,by rw[m];show pK D⟩;have o:aa k=aa l:=by have:=congrArg aa m;simpa using this
    apply call_len_dict y I ((mH (yK (o▸t)) ⋯));rw[o];show u _ _ _ _ _ _ h (c.toks _) (.toks _) (.int _ _))
end
section
variable{Y:ox}{w:gp}{A:eN}{E:Value->bc->Prop}{s:bc}
theorem AZ:Ob (.type "list") (ah "keys")=pure Zt:=am_miss_of_fast (by decide+kernel)
theorem A3(f:A.handled=Zt)(g:s.heap.get? a=Zs (iJ i n))
  (h:∀c t,(∀b o,s.heap.get? b=Zs o->c.get? b=Zs o)->Q Zt {s with heap:=c,toks:=t}):b8 (cX Y w) A (getAttr? (.ref a) (ah "keys")) Q E s:=by
 walk_at "@Y w A E s a i n Q|f g h"
 obtain⟨m,p,d,r,q⟩:=s
 have j:∀k,(⟨m,p,d,k,q⟩:bc).TypeIs (.ref a) "list":=λu=>⟨_,g,rfl⟩
 have v:=sub_AttributeError
 have x:=qW.lookup
 have y:=qW.bind (.ref a)
 have z:=am_list_getattr_none
 unfold getAttr? getAttrBy? getAttrBy
 repeat(any_goals(first|assumption|show j _|((with_reducible change b8 _ _ (nG (NN "list.__getattribute__") _ _) _ _ _);exact uu qW (j _) am_entry_list_getattribute (F.args_list_getattribute_2 _ _) (meets_getattribute_miss_list a i.toArray n #[] _ _ AZ (by decide+kernel) (by decide+kernel)) ⟨g,f,λc k e l=>?_⟩)|wp_step))
 exact E21 l.there λB D G=>?_
 exact(?_:b8 _ _ (Om _ _ _ _ _ _ _) _ _ _)
 unfold Om
 repeat(any_goals(first|assumption|wp_step))
 all_goals show h _ _ l.keeps
end
section
variable{C:Cx}{d:Nat}{H:Hp}
theorem rz:Ma table "dict.update.loop"=Zs mz.«dict.update.loop»:=Rd (by kernel_rfl)
theorem lM:plainId "dict.update.loop"=true:=by decide+kernel
noncomputable abbrev rA(p:YI×V):V:=.Zo .tup [p.1.toV,p.2]
set_option tactic.hygienic true in
theorem vq{l:Hp}{i:Nat}{c:YF}(h:l[i]?=Zs c):l.set i c=l:=by
 apply dJ;intro j;rw[dK];split
 ·rename_i e;subst e;rw[if_pos (ae.mp h).1,h]
 rfl
theorem Im{A:eN}(Y:ic d A){l:List Addr}{t:Zp}{a L u:Addr}{kd y:Nat}{c:List (YI×V)}{v:V}{M:Of->bc->Prop}
  (hn:(c.map (·.1)).Nodup)(hk:∀p∈c,p.1.kind=kd)(a0:c.length<=1000000)(a1:l[y]?=Zs L):∀(m i:Nat) {s:bc} {H:Hp},i+m=c.length->
  fX C l t H s->H[y]?=Zs (.dict (c.take i))->bQ C.w l t v (.ref a)->(∀kvs,YJ (H.set y (.dict kvs)) v=Zs (.list (c.map rA)))->s.heap.IsListIter u a i->u∉l->t u=Zt->
  (∀s',fX C l t (H.set y (.dict c)) s'->YO [u] l t s l t s'->M (.ok (.ret .none)) s')->
  wC (cX C.prog C.w) A (.builtin "dict.update.loop" ⟨[.ref L,.ref u,pv i,.none],[]⟩) M s:=by
 walk_at "@C d A l t a L u kd y c v|Y M hn hk a0 a1"
 intro m
 walk_at "@M m"
 induction m with
 |zero=>
  intro i s H D E B r N g G O hR;apply pA rz;rw[sY lM _];have I:H.set y (.dict (c.take i))=H:=vq B;have J:=N (c.take i);rw[I] at J;exact E33 (dE E J r) λa' vs n e hg rs=>?_;cases e;have hL:s.heap.IsList a vs.toArray:=⟨_,hg,rfl,n,rfl⟩;unfold mz.«dict.update.loop»;exact ao (Lr Y.handled g hL (by have:=rs.length;simp at this⊢;show Sn D this) λw he=>?_);have z:∀b o,b∉[u]->s.heap.get? b=Zs o->w.get? b=Zs o:=λb o f q=>he b o (by simpa using f) q;exact ao (az (az (hR _ ?_ ?_)));have:c.take i=c:=by rw[show i=c.length by show D,bJ]
  rw[this] at I B;rw[I];show E.quiet (λb o f g=>z b o (λhm=>by rw[au.mp hm] at f;rcases f with f|f;show G f;rw[O] at f;cases f) g) rfl rfl;show⟨.refl _,.refl _,λQ _b _c _d=>rfl,λb h w=>absurd h w,λb f ⟨o,q⟩=>⟨o,z b o f q⟩,λb o Q h2 q=>z b o h2 q⟩
 |succ m ih=>
  intro i s H D E B r N g G O hR;apply pA rz;rw[sY lM _];have I:H.set y (.dict (c.take i))=H:=vq B;have J:=N (c.take i);rw[I] at J;exact E33 (dE E J r) λa' vs n e hg rs=>?_;cases e;have hL:s.heap.IsList a vs.toArray:=⟨_,hg,rfl,n,rfl⟩;have T:i<c.length:=O8 D;exact E12 (rs.get (k:=i) (v:=rA c[i]) (by simp[T])) λx hx rx=>?_;unfold mz.«dict.update.loop»;exact ao (JQ g hL (by simpa using hx) λw a3 a4=>?_);have z:∀b o,b∉[u]->s.heap.get? b=Zs o->w.get? b=Zs o:=λb o f q=>a4.extBut b o (by simpa using f) q;have S1:fX C l t H {s with heap:=w}:=E.quiet (λb o f g=>z b o (λhm=>by rw[au.mp hm] at f;rcases f with f|f;show G f;rw[O] at f;cases f) g) rfl rfl;have X1:YO [u] l t s l t {s with heap:=w}:=⟨.refl _,.refl _,λQ _b _c _d=>rfl,λb h w=>absurd h w,λb f ⟨o,q⟩=>⟨o,z b o f q⟩,λb o Q h2 q=>z b o h2 q⟩;exact E33 rx.Fz λta am tn a5 zt a6=>?_;subst a5;revert zt;exact bF.e2 a6 λkx vx rk rv zt=>?_;have gt:=S1.n_ _ _ zt;exact ao (cg (ao (wpAny_tryCatch ?_)));unfold Wj;exact ao (Ar (show Mi _ (.ref ta) "tuple" from⟨_,gt,rfl⟩) ?_);rw[if_pos ⋯];exact ao (wpAny_seqItems gt rfl (az ?_));exact((cg ?_):b8 _ _ (holding [kx,vx] (QA L kx vx)) _ _ _);have a7:c[i]∈c:=dw T;exact BR Y S1 (mc rk) B a1 rv ?_ (by simp;show af (dX _ _) a0) λs' S' X'=>?_;rw[cT];intro p hp;rw[hk p (iT hp),hk _ a7];simp;have ac:(c[i]).1∉(c.take i).map (·.1):=by
   intro h;rw[m9] at h;exact E11 (aC.mp h) λj U=>?_;have a2:j<i:=by have:=(ae.mp U).1;simp at this;show(fD.mp this).1
   rw[cQ a2] at U;have e2:(c.map (·.1))[i]?=Zs (c[i]).1:=by simp[T]
   have:=(cj (ae.mp U).1 hn).mp (U.trans e2.symm);show(bf _ (this▸a2))
  rw[kH ac] at S';have e3:c.take i++[((c[i]).1,(c[i]).2)]=c.take (i+1):=(Y0 (x:=c[i]) (ag T)).symm;rw[e3] at S';exact az ⟨G7 lM _,?_⟩;have al:=(ae.mp B).1;exact ih (i+1) (O9 D) S' (by simp[al]) r (λkvs=>by rw[oB];show N kvs) ?_ G O λs2 S2 X2=>?_;show E13 a3 λo ho hc hd=>fP o (X'.frame _ _ G (by simp) ho) hc hd;rw[oB] at S2;show hR s2 S2 (X1.trans ((X'.weak (λQ h=>by cases h)).trans X2))
theorem qF{D G:Str->Option Value}(O:fy C D G){v:V}{u:Nat}{i:List (YI×V)}{Q:V->Hp->Prop}(I:YJ H v=Zs (.list (i.map rA)))(J:∀c,YJ (H++[c]) v=Zs (.list (i.map rA)))(L:(i.map (·.1)).Nodup)(M:∀p∈i,p.1.kind=u)(N:aa i<=1000000)
  (h:Q (.ref (aa H)) (H++[.dict i])):gh C (d+1) (.type "dict") H [v] Q:=by
 focus
  walk_at "@C d H D G v u i Q|O I J L M N h";show kc (f:=λx=>nG (.type "dict") [x] []) (h:=λA k l s x P E w m r T=>by
   walk_at "@A k l s x P E|w m r T";exact E33 (dE m I r) λa vs n a1 g rs=>?_;subst a1;exact WX (Q₁:=λU Y=>U= .ref s.heap.objs.size/\Y={s with heap:=s.heap.push {cls:=.type "dict",data:=.dict #[]}}) PySem.F.kt_called_dict (PySem.F.kt_typeCall_dict_1 _) PySem.F.entry_dict_init (kt_code_dict_new _ ⟨rfl,rfl⟩) λU Y=>?_;apply ja;have a2:(s.heap.push {cls:=.type "dict",data:=.dict #[]}).get? s.heap.objs.size=Zs {cls:=.type "dict",data:=.dict #[]}:=cx _ rfl;have y:(s.heap.push {cls:=.type "dict",data:=.dict #[]}).get? a=Zs (iJ vs n):=cm _ g;have hT:({s with heap:=s.heap.push {cls:=.type "dict",data:=.dict #[]}}:bc).TypeIs (.ref s.heap.objs.size) "dict":=⟨_,a2,rfl⟩;exact⟨hT,F.args_dict_init_2 _ _,?_⟩;unfold mz.«dict.__init__»;exact ao ?_;unfold Wk;exact ao (km hT ?_);exact((az ?_):b8 _ _ (pure (s.heap.objs.size,[oA a])) _ _ _);exact(?_:b8 _ _ (w8 "dict.__init__" s.heap.objs.size (.ref a) [] .none) _ _ _);unfold w8;exact ao (Ar (show Mi _ (.ref a) "list" from⟨_,y,rfl⟩) ?_);rw[if_pos ⋯];exact ao (A3 w.handled y λj t q=>?_);rw[if_pos (show(Zt:Option Value).isNone=true from rfl)];exact ao (iS ?_);have g2:=q _ _ y;exact ao (Qx ⟨_,g2,rfl,_,rfl⟩ (az ⟨G7 lM _,?_⟩));have a3:s.heap.objs.size≠sysModules:=qb O m;exact E02 (m.alloc (o:={cls:=.type "dict",data:=.dict #[]}) (c:=.dict []) rfl (λh e z=>⟨[],[],0,e,.nil,.nil,.nil,a3,z⟩)) λS1 X1=>?_;have a4:=qd k s.heap.objs.size;have kk:∀b o,(s.heap.push {cls:=.type "dict",data:=.dict #[]}).get? b=Zs o->(j.push {cls:=.type "list_iterator",data:=.fields #[.ref a,.int 0 0]}).get? b=Zs o:=λb o e=>cm _ (q b o e);have S2:fX C (k++[s.heap.objs.size]) l (H++[.dict []]) {s with heap:=j.push {cls:=.type "list_iterator",data:=.fields #[.ref a,.int 0 0]},toks:=t}:=S1.keeps kk rfl rfl;have X2:YO [] k l s (k++[s.heap.objs.size]) l {s with heap:=j.push {cls:=.type "list_iterator",data:=.fields #[.ref a,.int 0 0]},toks:=t}:=X1.trans (.keeps kk);have B:∀o,j.get? j.objs.size≠Zs o:=λo e=>bf _ (d9 e);have a0:fX C (k++[s.heap.objs.size]) l (H++[.dict []]) {s with heap:=j,toks:=t}:=S1.keeps q rfl rfl;exact Im (kd:=u) (y:=aa H) w.in1 L M N (by rw[←m.len];simp) (aa i) 0 (bK _) S2 (by simp) (r.mono a4 (.refl _)) (λkvs=>?_) ?_ ?_ ?_ λs' S3 X3=>?_;simpa using J (.dict kvs);show fP _ (cx _ rfl) rfl rfl;intro hm;show E11 (a0.old _ hm) λo e=>B o e;cases e:l j.objs.size with
   |none=>rfl
   |some o=>show absurd (a0.n_ _ _ e) (B o)
   exact⟨rfl,T _ _ _ _ _ _ h ?_ (X2.drop X3 λb hb=>.inr λ⟨o,e⟩=>?_) (.ref ?_)⟩;simpa using S3;rw[au.mp hb] at e;show B o (q _ _ (cm _ e));show rn m _)
end
structure Rl where
 Zl:Nat
 Zq:List Nat
 level:Int
theorem neRl:Nonempty Rl:=⟨⟨0,[],0⟩⟩
noncomputable def Rl.len(r:Rl):Nat:=aa r.Zq+1
noncomputable def kZ:List Rl->Nat->Nat
 |_,0=>0
 |[],_+1=>0
 |r::a,k+1=>r.len+kZ a k
noncomputable def ez:List Rl->Nat->List Nat
 |[],_=>[]
 |r::a,k=>aw r.len k++ez a (k+1)
noncomputable def dg(s:Nat):List Rl->Nat->List Nat
 |[],_=>[]
 |r::a,k=>if r.Zl=s then k::dg s a (k+1) else dg s a (k+1)
theorem EF{l:List Rl}:kZ l 0=0:=by cases l<;>rfl
theorem wU{a:List Rl}{r:Rl}{k:Nat}:kZ (r::a) (k+1)=r.len+kZ a k:=rfl
theorem A4{a:List Rl}{r:Rl}{k:Nat}:ez (r::a) k=aw r.len k++ez a (k+1):=rfl
theorem Cc{s k:Nat}:dg s [] k=[]:=rfl
theorem Cd{s k:Nat}{a:List Rl}{r:Rl}:dg s (r::a) k=if r.Zl=s then k::dg s a (k+1) else dg s a (k+1):=rfl
theorem xG:∀{a:List Rl} {k:Nat} {r:Rl},a[k]?=Zs r->kZ a (k+1)=kZ a k+r.len
 |b::a,0,r,h=>by simp at h;subst h;simp[wU,EF]
 |b::a,k+1,r,h=>by have:=xG (a:=a) (k:=k) (r:=r) (by simpa using h);simp only[wU] at this⊢;show R7 this
theorem qk:∀(a:List Rl) (k:Nat),(ez a k).length=kZ a (aa a)
 |[],_=>rfl
 |r::a,k=>by simp[A4,wU,qk a (k+1)]
theorem xH(h:a[j]?=Zs r)(b:d<r.len)(c:i=kZ a j+d):(ez a k)[i]?=Zs (k+j):=by
 induction a generalizing k j i with
 |nil=>cases h
 |cons e a f=>
  exact(?_:(aw e.len k++ez a (k+1))[i]?=_);cases j with
  |zero=>have b:d<e.len:=(Option.some.inj h).symm▸b;rw[c,kZ,bK,ar (by rw[dM];show b),dt,if_pos b];rfl
  |succ j=>rw[aH (by rw[dM];show R8 c),dM,u6 c,f h rfl,dT]
theorem Nh(h:j<=k)(c:k<=aa a):kZ a j<=kZ a k:=by
 induction k with
 |zero=>have:j=0:=Nat.eq_zero_of_le_zero h;subst this;show ax _
 |succ k d=>by_cases e:j=k+1;subst e;show ax _;have b:k<aa a:=c;rw[xG (a:=a) (k:=k) (r:=a[k]) (ag b)];show dS (d (bG (ba h e)) (dy b))
theorem DE{k i:Nat}(h:i<kZ a (aa a)):∃j d r,a[j]?=Zs r/\d<r.len/\i=kZ a j+d:=by
 induction a generalizing i with
 |nil=>show absurd h (eA _)
 |cons r a c=>by_cases b:i<r.len;show Fu 0 i r rfl b ((bK i).symm);show E33 (c (i:=i - r.len) (dd (bS b) h)) λj d e f g l=>Fu (j+1) d e f g (u7 b l)
theorem oU:j∈dg s a k↔∃i r,a[i]?=Zs r/\r.Zl=s/\j=k+i:=by
 induction a generalizing k with
 |nil=>simp[Cc]
 |cons r a c=>have b:=(c (k:=k+1)).trans (exists_congr λi=>by rw[dT]);exact(?_:j∈(if r.Zl=s then k::dg s a (k+1) else dg s a (k+1))↔_);rw[OE];by_cases e:r.Zl=s;rw[if_pos e,bb,b];show or_congr ⟨λh=>⟨e,h⟩,And.right⟩ .rfl;rw[if_neg e,b];show⟨.inr,λh=>h.elim (λh=>absurd h.1 e) id⟩
theorem ql:(dg s a k).Pairwise (· <·):=by
 induction a generalizing k with
 |nil=>show .nil
 |cons r a b=>exact(?_:(if r.Zl=s then k::dg s a (k+1) else dg s a (k+1)).Pairwise (· <·));split;show .cons (λj c=>E23 (oU.mp c) (λi _ _ _ h=>R9 h)) b;show b
noncomputable def oK(m:Nat)(l:List Nat)(i:Nat):List Nat:=if(l[i]?.getD 0).testBit m then l.set i (l[i]?.getD 0|||l[m]?.getD 0) else l
noncomputable def tY(l:List Nat)(m:Nat):List Nat:=(aJ (aa l)).foldl (oK m) l
noncomputable def pM(l:List Nat):List Nat:=(aJ (aa l)).foldl tY l
theorem F'(m:Nat)(l:List Nat)(i:Nat):(oK m l i).length=aa l:=by unfold oK;split<;>simp
theorem qm(m:Nat):∀(a:List Nat) (l:List Nat),(a.foldl (oK m) l).length=aa l
 |[],_=>rfl
 |i::a,l=>by rw[e8,qm m a,F']
theorem Io(m:Nat)(l:List Nat):(tY l m).length=aa l:=qm m _ l
theorem sh:∀(a:List Nat) (l:List Nat),(a.foldl tY l).length=aa l
 |[],_=>rfl
 |m::a,l=>by rw[e8,sh a,Io]
theorem A5(l:List Nat):(pM l).length=aa l:=sh _ l
noncomputable def ig(l:List Nat)(i j:Nat):Bool:=(l[i]?.getD 0).testBit j
class inductive YU(e:Nat->Nat->Prop):Nat->Nat->Prop
 |one {i j:Nat}:e i j->YU e i j
 |step {i j k:Nat}:e i j->YU e j k->YU e i k
theorem YU.trans(h:YU e i j)(a:YU e j k):YU e i k:=by
 induction h with
 |one h=>show .step h a
 |step h _ b=>show .step h (b a)
theorem YU.mono(h:∀i j,e i j->a i j)(p:YU e i j):YU a i j:=by
 induction p with
 |one p=>show .one (h _ _ p)
 |step p _ b=>show .step (h _ _ p) b
theorem DF{m:Nat}{l:List Nat}{i:Nat}(d:i<aa l)(a j:Nat):ig (oK m l i) a j=if a=i/\ig l i m=true then(ig l i j||ig l m j) else ig l a j:=by walk_at "@m l i a j|d";unfold oK;exact(?_:ig (if ig l i m=true then _ else _) a j=_);by_cases b:ig l i m=true;rw[if_pos b];by_cases c:a=i;subst c;rw[if_pos ⟨rfl,b⟩];unfold ig;rw[bO d];simp[dD];rw[if_neg (λh=>c h.1)];unfold ig;rw[eg (Ne.symm c)];rw[if_neg b,if_neg (λh=>b h.2)]
theorem Ga(i:m<aa l)(a j:Nat)(f:a<aa l):ig (tY l m) a j=(ig l a j||(ig l a m&&ig l m j)):=by
 walk_at "@m l a j|i f";have n:∀k,k<=aa l->∀a j,ig ((aJ k).foldl (oK m) l) a j=if a<k then(ig l a j||(ig l a m&&ig l m j)) else ig l a j:=by
  intro k;induction k with
  |zero=>intro _ a j;rfl
  |succ k o=>
   intro g a j;rw[gY,eJ,e8,NR];have p:=qm m (aJ k) l;rw[DF ((p▸g))];have b:=o (aV g);rw[b k m,b k j,b m j,b a j];simp only[bf,if_false];by_cases e:a=k;subst e;simp only[bf,if_false,true_and,f_,if_true];by_cases c:ig l a m=true;rw[if_pos c,c];split;cases ig l a j<;>cases ig l m j<;>cases ig l m m<;>rfl
   rfl;rw[if_neg c];simp[pY.mpr c];rw[if_neg (λh=>e h.1)];by_cases d:a<k;rw[if_pos d,if_pos (jt _ d)];rw[if_neg d,if_neg (OX d e)]
 have:=n (aa l) (ax _) a j;rw[if_pos f] at this;show this
set_option tactic.hygienic true in
theorem yZ(l:List Nat)(x:∀i j,ig l i j=true->j<aa l){i j:Nat}(s:i<aa l):ig (pM l) i j=true↔YU (λa b=>ig l a b=true) i j:=by
 walk_at "@l i j|x s";have D:∀k,k<=aa l->(∀a b,a<aa l->ig ((aJ k).foldl tY l) a b=true->YU (λa b=>ig l a b=true) a b)/\
   (∀a b,ig l a b=true->ig ((aJ k).foldl tY l) a b=true)/\
   (∀a m b,m<k->a<aa l->ig ((aJ k).foldl tY l) a m=true->ig ((aJ k).foldl tY l) m b=true->ig ((aJ k).foldl tY l) a b=true):=by
  intro k
  induction k with
  |zero=>intro _;show⟨λa b T h=>.one h,λa b h=>h,λa m b h=>absurd h (eA _)⟩
  |succ k t=>
   intro o;exact E03 (t (aV o)) λf r g=>?_;have u:=sh (aJ k) l;rw[gY,eJ,e8,NR];generalize(aJ k).foldl tY l=L at f r g u;have e:∀a b,a<aa l->ig (tY L k) a b=(ig L a b||(ig L a k&&ig L k b)):=λa b c=>Ga ((u▸o)) a b (o2 c u);have E:∀a b,ig l a b=true->a<aa l:=λa b h=>by
    rcases b9 a (aa l) with q|q
    show q;unfold ig at h;rw[cH q] at h;simp at h
   exact⟨λa b c h=>?_,λa b h=>?_,λa m b y c n d=>?_⟩;rw[e a b c,di,gL] at h;rcases h with h|⟨G,H⟩
   show f a b c h;show(f a k c G).trans (f k b o H);rw[e a b (E a b h),r a b h];rfl;have I:m<aa l:=aj y o;rw[e a m c,di,gL] at n;rw[e m b I,di,gL] at d;rw[e a b c,di,gL];by_cases z:m=k;subst z;have J:ig L a m=true:=by rcases n with h|h;show h;show h.1
   have M:ig L m b=true:=by rcases d with h|h;show h;show h.2
   show .inr ⟨J,M⟩;have v:m<k:=Ki y z;rcases n with n|⟨A,N⟩
   rcases d with d|⟨O,w⟩
   show .inl (g a m b v c n d);show .inr ⟨g a m k v c n O,w⟩;rcases d with d|⟨_,w⟩
   show .inr ⟨A,g k m b v o N d⟩;show .inr ⟨A,w⟩
 exact E03 (D (aa l) (ax _)) λf r g=>?_;constructor;show f i j s
 ·intro p;induction p with
  |one h=>show r _ _ h
  |step h p t=>rename_i U Q Y;have B:Q<aa l:=x _ _ h;show g _ _ _ B s (r _ _ h) (t B)
theorem cY:∀{n:Nat} {l:List Nat},l.Nodup->(∀x∈l,x<n)->aa l<=n
 |0,[],_,_=>ax _
 |0,x::l,_,h=>absurd (h x (.head _)) (eA _)
 |n+1,l,c,h=>by
  have b:=cY (n:=n) (l:=l.erase n) (c.erase n) λx d=>by
   have:=h x (List.mem_of_mem_erase d);have g:x≠n:=λe=>by subst e;show(Yp c) d
   show ba (bG this) g
  have:=List.length_erase_le (a:=n) (l:=l);by_cases f:n∈l;rw[List.length_erase_of_mem f] at b;show iZ b;rw[List.erase_of_not_mem f] at b;show dS b
class inductive va(rules:List Rl):Nat->Prop
 |mk {r:Rl}:r∈rules->(∀s∈r.Zq,va rules s)->va rules r.Zl
noncomputable def GU(l:List Nat)(a:List Nat):Nat:=(l.filter λs=>decide (s∈a)).length
theorem Ni(l a:List Nat):GU l a<=aa l:=fc _ _
theorem EG(l:List Nat):GU l []=0:=by unfold GU;rw[C3,Eh];intro a _;simp
theorem Ce(l:List Nat){b:List Nat}{q:Nat}(h:q∉b):GU l (b++[q])=GU l b+l.count q:=by
 walk_at "@l b q|h";unfold GU;induction l with
 |nil=>rfl
 |cons a l c=>
  rw[jo,jo,sQ];by_cases f:a=q;subst f;have d:decide (a∈b++[a])=true:=by simp
  have e:decide (a∈b)=false:=if_neg ∅;rw[d,e];simp only[if_true,iD,if_false,jn,c,beq_self_eq_true];show bu _ _ _;have d:decide (a∈b++[q])=decide (a∈b):=by simp[f]
  have e:(a==q)=false:=if_neg ∅;rw[d,e];by_cases g:a∈b;simp only[g,decide_true,if_true,jn,c,iD,if_false];show bM _ _ _;simp only[g,decide_false,iD,if_false,c];show rfl
theorem KY(h:GU l a=aa l):∀s∈l,s∈a:=by intro s b;unfold GU at h;have:=wG.mp h s b;simpa using this
theorem DG(h:∀s∈l,s∈a):GU l a=aa l:=by unfold GU;show wG.mpr λs b=>decide_eq_true (h s b)
noncomputable def A6(a:List Rl)(n:Nat)(b:List (List Nat)):Prop:=aa b=n/\∀(s:Nat) (u:List Nat),b[s]?=Zs u->(∀r∈u,r<aa a)/\∀(r:Nat) (c:Rl),a[r]?=Zs c->u.count r=c.Zq.count s
structure Sp(rules:List Rl)(n:Nat)(us:List (List Nat))(K:Nat)(found:List Bool)(jM:List Int)(queue:List Nat)(at_:Nat)(cur:List Nat):Prop where
 vt:aa found=n
 Gd:aa jM=aa rules
 nd:queue.Nodup
 qf:∀s,s∈queue↔found[s]?=Zs true
 le:at_<=aa queue
 lk:∀(r:Nat) (rl:Rl),rules[r]?=Zs rl->jM[r]?=Zs ((aa rl.Zq:Int) - GU rl.Zq (queue.take at_) - cur.count r)
 sound:∀s∈queue,va rules s
 comp:∀(r:Nat) (rl:Rl),r<K->rules[r]?=Zs rl->jM[r]?=Zs (0:Int)->found[rl.Zl]?=Zs true
theorem Sp.DI{d:List Rl}{n:Nat}{e:List (List Nat)}{f:Nat}{g:List Bool}{i:List Int}{b j:List Nat}{a:Nat}(h:Sp d n e f g i b a j):aa b<=n:=by
 have c:∀s∈b,s<n:=λs c=>by have:=(h.qf s).mp c;rw[←h.vt];show(ae.mp this).1
 show cY h.nd c
set_option tactic.hygienic true in
theorem Sp.xI{f:List Rl}{n:Nat}{j:List (List Nat)}{k:Nat}{d:List Bool}{l:List Int}{g m:List Nat}{a:Nat}{x:Nat}(h:Sp f n j k d l g a m)(i:d[x]?=Zs false)(q:va f x):
  Sp f n j k (d.set x true) l (g++[x]) a m:=by
 walk_at "@f n j d l g m a x|k h i q"
 have t:x<aa d:=(ae.mp i).1
 have u:x∉g:=λc=>by rw[(h.qf x).mp c] at i;cases i
 exact⟨by rw[b_];show h.vt,h.Gd,?_,λs=>?_,by rw[bC];show af h.le (aW _ _),λr o p=>?_,λs c=>?_,λr o v p w=>?_⟩
 rw[cz];exact⟨h.nd,by simp,λs y b z=>?_⟩;rw[au.mp z];rintro rfl;show u y
 rw[aE,au,dK];by_cases e:x=s;rewrite[←e];simp[t];rw[if_neg e,h.qf s];constructor;rintro(h|h);show h;show absurd h.symm e;show .inl
 rw[yG h.le];show h.lk r o p
 rcases aE.mp c with c|c
 show h.sound s c;rw[au.mp c];show q
 ·rw[dK];split
  ·rename_i e;rewrite[e];simp[t]
  show h.comp r o v p w
theorem Sp.told{i:List Rl}{n:Nat}{m:List (List Nat)}{w:Nat}{G:List Bool}{o:List Int}{g b:List Nat}{a q r:Nat}{u:List Nat}{c:Rl}(H:A6 i n m)(h:Sp i n m w G o g a b)(y:g[a]?=Zs q)(I:m[q]?=Zs u)
  (J:u[aa b]?=Zs r)(L:b=u.take (aa b))(k:i[r]?=Zs c):
  ∃z:Int,o[r]?=Zs z/\(z - 1=0->va i c.Zl)/\∀x A,Sp i n m w x o A a b->(z - 1=0->x[c.Zl]?=Zs true)->Sp i n m w x (o.set r (z - 1)) A a (b++[r]):=by
 walk_at "@i n m G o g b a q r u c|w H h y I J L k"
 have B:=h.lk r c k
 exact fP _ B (λp=>?_) (λx A d N=>?_)
 have O:q∉g.take a:=λt=>by exact E11 (By.mp t) λj Q=>?_;obtain⟨D,e⟩:=Q;have:=(cj ((fD.mp D).2) h.nd).mp (by rw[y,ag ((fD.mp D).2),e]:g[j]?=g[a]?);show O2 D this
 have T:=(H.2 q u I).2 r c k;have U:(b++[r]).count r<=u.count r:=by
  have e:b++[r]=u.take (aa b+1):=by rw[fN,J];simp only[Option.toList_some];rw[←L]
  rw[e];show(J1 _ _).count_le _
 have v:(b++[r]).count r=b.count r+1:=by simp
 have Y:=Ce c.Zq O;have a0:=Ni c.Zq (g.take a++[q]);have a1:GU c.Zq (g.take a++[q])=aa c.Zq:=q0 p Y a0 v T U;exact .mk (ai k) λs hs=>?_;have:=KY a1 s hs;rcases aE.mp this with t|t
 show h.sound s (iT t);rw[au.mp t];show h.sound q (ai y)
 have M:r<aa o:=(ae.mp B).1;exact⟨d.vt,by rw[b_];show d.Gd,d.nd,d.qf,d.le,λl E f=>?_,d.sound,λl E a2 f p=>?_⟩;by_cases e:r=l;subst e;rw[k] at f;have a3:=Option.some.inj f;clear f;subst a3;rw[bO M];have:=d.lk r c k;rw[B] at this;have:=Option.some.inj this;rw[this];have v:(b++[r]).count r=b.count r+1:=by simp
 rw[v];congr 1;show R_;rw[eg e,d.lk l E f];have v:(b++[r]).count l=b.count l:=by simp[e]
 rw[v];by_cases e:r=l;subst e;rw[k] at f;have a4:=Option.some.inj f;clear f;subst a4;rw[bO M] at p;show N (Option.some.inj p);rw[eg e] at p;show d.comp l E a2 f p
theorem Sp.next{d:List Rl}{n:Nat}{c:List (List Nat)}{i:Nat}{k:List Bool}{l:List Int}{b:List Nat}{a q:Nat}{u:List Nat}(p:A6 d n c)(h:Sp d n c i k l b a u)(f:b[a]?=Zs q)(s:c[q]?=Zs u):
  Sp d n c i k l b (a+1) []:=by
 have t:q∉b.take a:=λv=>by exact E11 (By.mp v) λj w=>?_;obtain⟨g,e⟩:=w;have:=(cj ((fD.mp g).2) h.nd).mp (by rw[f,ag ((fD.mp g).2),e]:b[j]?=b[a]?);show O2 g this
 exact⟨h.vt,h.Gd,h.nd,h.qf,(ae.mp f).1,λr m o=>?_,h.sound,h.comp⟩
 rw[h.lk r m o]
 have e:b.take (a+1)=b.take a++[q]:=by rw[fN,f];rfl
 rw[e,Ce _ t,(p.2 q u s).2 r m o]
 congr 1
 simp;show RV
set_option tactic.hygienic true in
theorem Sp.done{a:List Rl}{n:Nat}{f:List (List Nat)}{c:List Bool}{g:List Int}{d:List Nat}(h:Sp a n f (aa a) c g d (aa d) [])(s:Nat):c[s]?=Zs true↔va a s:=by
 constructor;intro i;show h.sound s ((h.qf s).mpr i)
 ·intro k;induction k with
  |mk l e m=>rename_i r;exact E11 (aC.mp l) λj b=>h.comp j r (ae.mp b).1 b ?_;rw[h.lk j r b,bJ,DG λs e=>(h.qf s).mpr (m s e)];simp
theorem Sp.init{a:List Rl}{n:Nat}{b:List (List Nat)}:Sp a n b 0 (aw n false) (a.map λr=>(aa r.Zq:Int)) [] 0 []:=by exact⟨by simp,by show aq _,by simp,λs=>?_,ax _,λr c d=>?_,λs e=>absurd e (by show bq),λr c h=>absurd h (eA _)⟩;simp[dt];rw[ak,d];(rw[EG];rfl)
theorem Sp.first{c:List Rl}{n:Nat}{g:List (List Nat)}{k:Nat}{p:List Bool}{d:List Int}{q:List Nat}{a:Rl}(h:Sp c n g k p d q 0 [])(i:c[k]?=Zs a):
  d[k]?=Zs (aa a.Zq:Int)/\((aa a.Zq:Int)=0->va c a.Zl)/\∀j o,Sp c n g k j d o 0 []->((aa a.Zq:Int)=0->j[a.Zl]?=Zs true)->Sp c n g (k+1) j d o 0 []:=by
 walk_at "@c n g k p d q a|h i"
 have l:=h.lk k a i
 rw[Bp,EG] at l
 have l:d[k]?=Zs (aa a.Zq:Int):=by trivial
 exact⟨l,λf=>?_,λj o b u=>⟨b.vt,b.Gd,b.nd,b.qf,b.le,b.lk,b.sound,λr v w m f=>?_⟩⟩
 exact .mk (ai i) λs t=>?_;have:a.Zq=[]:=C3.mp (Int.ofNat_eq_zero.mp f);rw[this] at t;simp at t
 by_cases e:r=k;subst e;rw[i] at m;have x:=Option.some.inj m;clear m;subst x;rw[l] at f;show u (Option.some.inj f);show b.comp r v (Ki w e) m f
noncomputable def ml(b:List Rl)(n:Nat)(c:List (List Nat))(k j:Nat):Prop:=aa c=n/\∀(s:Nat) (u:List Nat),c[s]?=Zs u->(∀r∈u,r<aa b)/\∀(r:Nat) (a:Rl),b[r]?=Zs a->u.count r=if r<k then a.Zq.count s else if r=k then(a.Zq.take j).count s else 0
theorem ml.init:ml rules n (aw n []) 0 0:=by
 exact⟨by simp,λs u a=>?_⟩;have:u=[]:=by rw[dt] at a;split at a;have b:=Option.some.inj a;clear a;subst b;rfl;cases a
 rewrite[this];exact⟨by simp,λr c d=>?_⟩;simp
theorem ml.step{i:List Rl}{n:Nat}{l:List (List Nat)}{k j s:Nat}{d:Rl}{u:List Nat}(h:ml i n l k j)(m:i[k]?=Zs d)(v:d.Zq[j]?=Zs s)(o:l[s]?=Zs u):ml i n (l.set s (u++[k])) k (j+1):=by
 walk_at "@i n l k j s d u|h m v o";have x:=(ae.mp o).1;exact⟨by rw[b_];show h.1,λs' y f=>?_⟩;have w:d.Zq.take (j+1)=d.Zq.take j++[s]:=by rw[fN,v];rfl
 by_cases e:s=s';subst e;rw[bO x] at f;have z:=Option.some.inj f;clear f;subst z;exact E02 (h.2 s u o) λp q=>⟨λr g=>?_,λr t a=>?_⟩;rcases aE.mp g with g|g
 show p r g;rw[au.mp g];show(ae.mp m).1;have:=q r t a;rw[J2,this];by_cases b:r<k;have:(k==r)=false:=by simp;show Nat.ne_of_lt' b
 simp[b,sQ,this];by_cases c:r=k;subst c;rw[m] at a;have A:=Option.some.inj a;clear a;subst A;simp[w];have:(k==r)=false:=by simp;show Sa c
 simp[b,c,sQ,this];rw[eg e] at f;exact E02 (h.2 s' y f) λp q=>⟨p,λr t a=>?_⟩;rw[q r t a];by_cases b:r<k;simp[b];by_cases c:r=k;subst c;rw[m] at a;have B:=Option.some.inj a;clear a;subst B;simp only[bf,if_false,if_true];rw[w,J2];have:(s==s')=false:=if_neg ∅;(rw[sQ,this];rfl);simp[b,c]
theorem ml.next{c:List Rl}{n:Nat}{e:List (List Nat)}{k:Nat}{f:Rl}(h:ml c n e k (aa f.Zq))(i:c[k]?=Zs f):ml c n e (k+1) 0:=by exact⟨h.1,λs u g=>⟨(h.2 s u g).1,λr j b=>?_⟩⟩;rw[(h.2 s u g).2 r j b];by_cases a:r<k;rw[if_pos a,if_pos (jt _ a)];by_cases d:r=k;subst d;rw[i] at b;have l:=Option.some.inj b;clear b;subst l;rw[if_neg a,if_pos rfl,if_pos (Bv _),bJ];rw[if_neg a,if_neg d,if_neg (OX a d)];simp
theorem ml.done{a:List Rl}{n:Nat}{b:List (List Nat)}(h:ml a n b (aa a) 0):A6 a n b:=by exact⟨h.1,λs u c=>⟨(h.2 s u c).1,λr e d=>?_⟩⟩;rw[(h.2 s u c).2 r e d,if_pos (ae.mp d).1]
noncomputable def qG(a:List (List Nat))(b:Nat):Prop:=∀(s:Nat) (u:List Nat),a[s]?=Zs u->aa u<=b
theorem qG.init:qG (aw n []) 0:=λs u a=>by rw[dt] at a;split at a;have b:=Option.some.inj a;clear a;subst b;show ax _;cases a
theorem qG.step{c:List (List Nat)}{b s k:Nat}{u:List Nat}(h:qG c b)(d:c[s]?=Zs u):qG (c.set s (u++[k])) (b+1):=by walk_at "@c b s k u|h d";show λs' f a=>by by_cases e:s=s';subst e;rw[bO (ae.mp d).1] at a;have g:=Option.some.inj a;clear a;subst g;have:=h s u d;simp;show this;rw[eg e] at a;have:=h s' f a;show dS this
theorem qG.mono{a:List (List Nat)}{b c:Nat}(h:qG a b)(d:b<=c):qG a c:=λs u e=>af (h s u e) d
class inductive mn(rules:List Rl)(tc:Nat):Nat->Nat->Prop
 |term {s:Nat}:s<tc->mn rules tc s s
 |rule {r:Rl} {i x t:Nat}:r∈rules->r.Zq[i]?=Zs x->(∀y∈r.Zq.take i,va rules y)->mn rules tc x t->mn rules tc r.Zl t
noncomputable def nb(a:List Bool)(s:Nat):Bool:=a[s]?.getD false
noncomputable def cN(a:List Nat)(s:Nat):Nat:=a[s]?.getD 0
noncomputable def YR(b:List Bool)(a:List Nat):List Nat->Nat->Nat
 |[],m=>m
 |s::r,m=>if nb b s then YR b a r (m|||cN a s) else m|||cN a s
theorem Ip{a:List Bool}{b:List Nat}{m:Nat}:YR a b [] m=m:=rfl
theorem xJ:(YR a b l m).testBit t=true↔m.testBit t=true\/∃i x,l[i]?=Zs x/\(∀y∈l.take i,nb a y=true)/\(cN b x).testBit t=true:=by
 induction l generalizing m with
 |nil=>simp[Ip]
 |cons s r d=>exact(?_:Hg (if nb a s=true then YR a b r (m|||cN b s) else m|||cN b s) t=true↔_);rw[OE];by_cases h:nb a s=true;rw[if_pos h,d,dD,di,or_assoc];show or_congr .rfl (or_congr ⟨λc=>⟨λe=>nm,c⟩,And.right⟩ (exists_congr λi=>exists_congr λx=>and_congr .rfl (and_congr ⟨λk=>GN.mpr ⟨h,k⟩,λk y f=>k y (.tail _ f)⟩ .rfl)));rw[if_neg h,dD,di];show or_congr .rfl ⟨λc=>.inl ⟨λe=>nm,c⟩,λk=>k.elim And.right λk=>Exists.elim k λi k=>Exists.elim k λx k=>absurd (k.2.1 s (.head _)) h⟩
noncomputable def ij(n:Nat):List Nat->Nat
 |[]=>0
 |m::r=>(2^n - m)+ij n r
theorem KZ{n m:Nat}{r:List Nat}:ij n (m::r)=(2^n - m)+ij n r:=rfl
theorem zz(h:l[i]?=Zs m)(b:m<c)(d:c<2^n):ij n (l.set i c)<ij n l:=by
 induction l generalizing i with
 |nil=>cases h
 |cons a l e=>
  cases i with
  |zero=>rw[←Option.some.inj h] at b;simp[KZ];show q1 d b
  |succ i=>rw[vL];show br (e h) _
theorem LP{m x:Nat}(h:m|||x≠m):m<m|||x:=by have:m<=m|||x:=Nat.left_le_or;show ba this (id (Ne.symm h))
theorem Cf(a:m<2^n)(b:x<2^n):m|||x<2^n:=Nat.or_lt_two_pow a b
structure y3(rules:List Rl)(tc n:Nat)(fs:List Nat):Prop where
 len:aa fs=n
 lt:∀(s m:Nat),fs[s]?=Zs m->m<2^n
 sound:∀s t,(cN fs s).testBit t=true->mn rules tc s t
 base:∀s,s<tc->(cN fs s).testBit s=true
theorem Ge(h:∀(s m:Nat),a[s]?=Zs m->m<2^n)(b:m<2^n):YR c a l m<2^n:=by
 induction l generalizing m with
 |nil=>show b
 |cons s r f=>
  have d:cN a s<2^n:=by
   unfold cN;cases e:a[s]? with
   |none=>show oh n
   |some x=>show h s x e
  exact(?_:(if nb c s=true then YR c a r (m|||cN a s) else m|||cN a s)<_);split;show f (Cf b d);show Cf b d
set_option tactic.hygienic true in
theorem y3.init{d:List Rl}{a n:Nat}(e:a<=n):y3 d a n ((aJ n).map λs=>if s<a then 1<<<s else 0):=by
 walk_at "@d a n|e";have c:∀s,cN ((aJ n).map λs=>if s<a then 1<<<s else 0) s=if s<a then 1<<<s else 0:=λs=>by
  unfold cN;by_cases h:s<n;show OA ∅;have:¬s<a:=by show q2 e h
  simp[h,this]
 exact⟨by simp,λs m f=>?_,λs t h=>?_,λs b=>?_⟩;have b:s<n:=by simpa using(ae.mp f).1
 have:=c s;unfold cN at this;rw[f] at this;simp only[wH] at this;subst this;split;rw[i_];show Nat.pow_lt_pow_right ⋯ b;show oh n
 ·walk_at "@s t|h";rw[c] at h;split at h
  ·rename_i b;rw[i_,jq] at h;have:s=t:=by simpa using h
   subst this;show .term b
  simp at h
 rw[c,if_pos b,i_];simp[jq]
theorem jU(b:i<aa a):cN (a.set i m) s=if s=i then m else cN a s:=by unfold cN;by_cases h:s=i;subst h;rw[if_pos rfl,bO b];rfl;rw[if_neg h,eg (Ne.symm h)]
set_option tactic.hygienic true in
theorem y3.grow{c:List Rl}{g n:Nat}{j:List Bool}{b:List Nat}{r:Rl}(h:y3 c g n b)(k:∀s,nb j s=true↔va c s)(l:r∈c)(o:r.Zl<n):
  y3 c g n (b.set r.Zl (cN b r.Zl|||YR j b r.Zq 0)):=by
 walk_at "@c g n j b r|h k l o"
 have f:r.Zl<aa b:=by rw[h.len];show o
 exact⟨by rw[b_];show h.len,λs m d=>?_,λs t a=>?_,λs p=>?_⟩
 ·rw[dK] at d;split at d
  ·rename_i e;have q:=Option.some.inj d;clear d;subst q;exact Cf ?_ (Ge h.lt (oh n));unfold cN;rw[ag f];show h.lt _ _ (ag f)
  show h.lt s m d
 ·rw[jU f] at a;split at a
  ·rename_i e;subst e;rw[dD,di] at a;rcases a with a|a
   show h.sound _ _ a;rcases xJ.mp a with a|⟨i,x,u,v,w⟩
   simp at a;show .rule l u (λy z=>(k y).mp (v y z)) (h.sound _ _ w)
  show h.sound _ _ a
 ·rw[jU f];split
  ·rename_i e;subst e;rw[dD,h.base _ p];rfl
  show h.base s p
theorem y3.done(h:y3 rules tc n a)(b:∀s,nb c s=true↔va rules s)(d:∀r∈rules,cN a r.Zl|||YR c a r.Zq 0=cN a r.Zl)(s t:Nat):
  (cN a s).testBit t=true↔mn rules tc s t:=by
 exact⟨h.sound s t,λe=>?_⟩
 induction e with
 |term f=>show h.base _ f
 |@rule r i x t g j k _ l=>rw[←d r g,dD,di];show .inr (xJ.mpr (.inr ⟨i,x,j,λy m=>(b y).mpr (k y m),l⟩))
class inductive kI(rules:List Rl)(tc:Nat):Nat->Nat->Prop
 |first{r:Rl} {i j a x t:Nat}:r∈rules->r.Zq[i]?=Zs a->tc<=a->i<j->r.Zq[j]?=Zs x->(∀k y,i<k->k<j->r.Zq[k]?=Zs y->va rules y)->mn rules tc x t->kI rules tc a t
 |Zl {r:Rl} {i a t:Nat}:r∈rules->r.Zq[i]?=Zs a->tc<=a->(∀k y,i<k->r.Zq[k]?=Zs y->va rules y)->kI rules tc r.Zl t->kI rules tc a t
noncomputable def behind(b:List Bool)(a:List Nat)(f:Nat):List Nat->Nat
 |[]=>f
 |s::r=>if nb b s then behind b a f r|||cN a s else cN a s
theorem Iq{a:List Bool}{b:List Nat}{f:Nat}:behind a b f []=f:=rfl
theorem tZ:(behind a b f l).testBit t=true↔(∃i x,l[i]?=Zs x/\(∀y∈l.take i,nb a y=true)/\(cN b x).testBit t=true)\/((∀y∈l,nb a y=true)/\f.testBit t=true):=by
 induction l with
 |nil=>simp[Iq]
 |cons s r e=>exact(?_:Hg (if nb a s=true then behind a b f r|||cN b s else cN b s) t=true↔_);rw[OE];by_cases h:nb a s=true;have d:∀l:List Nat,(∀y∈l,nb a y=true)↔∀y∈s::l,nb a y=true:=λl=>⟨λk=>GN.mpr ⟨h,k⟩,λk y g=>k y (.tail _ g)⟩;rw[if_pos h,dD,di,e,or_comm,←or_assoc];show or_congr (or_congr ⟨λc=>⟨λj=>nm,c⟩,And.right⟩ (exists_congr λi=>exists_congr λx=>and_congr .rfl (and_congr (d _) .rfl))) (and_congr (d _) .rfl);rw[if_neg h];show⟨λc=>.inl (.inl ⟨λj=>nm,c⟩),λk=>k.elim (λk=>k.elim And.right λk=>Exists.elim k λi k=>Exists.elim k λx k=>absurd (k.2.1 s (.head _)) h) λk=>absurd (k.1 s (.head _)) h⟩
theorem Gf(h:∀(s m:Nat),a[s]?=Zs m->m<2^n)(d:f<2^n):behind b a f l<2^n:=by
 induction l with
 |nil=>show d
 |cons s r g=>
  have c:cN a s<2^n:=by
   unfold cN;cases e:a[s]? with
   |none=>show oh n
   |some x=>show h s x e
  exact(?_:(if nb b s=true then behind b a f r|||cN a s else cN a s)<_);split;show Cf g c;show c
structure uL(rules:List Rl)(tc n:Nat)(fo:List Nat):Prop where
 len:aa fo=n
 lt:∀(s m:Nat),fo[s]?=Zs m->m<2^n
 sound:∀s t,(cN fo s).testBit t=true->kI rules tc s t
theorem uL.init:uL rules tc n (aw n 0):=by exact⟨by simp,λs m a=>?_,λs t h=>?_⟩;rw[dt] at a;split at a;have b:=Option.some.inj a;clear a;subst b;show oh n;cases a;unfold cN at h;rw[dt] at h;split at h<;>simp at h
set_option tactic.hygienic true in
theorem uL.grow{c:List Rl}{d n:Nat}{q:List Bool}{o g:List Nat}{r:Rl}{i a f:Nat}(h:uL c d n g)(u:∀s,nb q s=true↔va c s)(E:∀s t,(cN o s).testBit t=true↔mn c d s t)(G:∀(s m:Nat),o[s]?=Zs m->m<2^n)
  (v:r∈c)(w:r.Zq[i]?=Zs a)(z:d<=a)(H:a<n)(I:∀t,f.testBit t=true->kI c d r.Zl t)(J:f<2^n):
  uL c d n (g.set a (cN g a|||behind q o f (r.Zq.drop (i+1)))):=by
 walk_at "@c d n q o g r i a f|h u E G v w z H I J"
 have A:a<aa g:=by rw[h.len];show H
 exact⟨by rw[b_];show h.len,λs m l=>?_,λs t b=>?_⟩
 ·rw[dK] at l;split at l
  ·rename_i e;have M:=Option.some.inj l;clear l;subst M;exact Cf ?_ (Gf G J);unfold cN;rw[ag A];show h.lt _ _ (ag A)
  show h.lt s m l
 ·rw[jU A] at b;split at b
  ·rename_i e;subst e;rw[dD,di] at b;rcases b with b|b
   show h.sound _ _ b;rcases tZ.mp b with⟨j,x,p,B,N⟩|⟨p,B⟩
   exact .first v w z (j:=i+1+j) (by show QM) (x:=x) ?_ (λk y L O D=>(u y).mp (B y ?_)) ((E _ _).mp N);rw[eu] at p;show p;exact aC.mpr ⟨k - (i+1),?_⟩;rw[cQ (dd L O),eu];rw[show i+1+(k - (i+1))=k by show gZ L];show D;exact .Zl v w z (λk y Q D=>(u y).mp (p y (aC.mpr ⟨k - (i+1),?_⟩))) (I _ B);rw[eu,show i+1+(k - (i+1))=k by show gZ Q];show D
  show h.sound _ _ b
theorem uL.done(h:uL rules tc n c)(l:∀s,nb q s=true↔va rules s)(u:∀s t,(cN v s).testBit t=true↔mn rules tc s t)
  (o:∀r∈rules,∀(i a:Nat),r.Zq[i]?=Zs a->tc<=a->cN c a|||behind q v (cN c r.Zl) (r.Zq.drop (i+1))=cN c a)(s t:Nat):
  (cN c s).testBit t=true↔kI rules tc s t:=by
 exact⟨h.sound s t,λw=>?_⟩
 induction w with
 |@first r i j a x t d e f hij hx g hfx=>
  rw[←o r d i a e f,dD,di];exact .inr (tZ.mpr (.inl ⟨j - (i+1),x,?_,λy k=>(l y).mpr ?_,(u _ _).mpr hfx⟩));rw[eu,show i+1+(j - (i+1))=j by show gZ hij];show hx;exact E11 (aC.mp k) λm b=>?_;have p:m<j - (i+1):=by have:=(ae.mp b).1;rw[bP] at this;show(fD.mp this).1
  rw[cQ p,eu] at b;show g (i+1+m) y QM (cW p) b
 |@Zl r i a t d e f g _ z=>rw[←o r d i a e f,dD,di];exact .inr (tZ.mpr (.inr ⟨λy k=>(l y).mpr (E11 (aC.mp k) (λm b=>?_)),z⟩));rw[eu] at b;show g (i+1+m) y QM b
noncomputable def Rs(T:Nat->List Nat)(x y:Nat):Prop:=x=y\/YU (λa b=>b∈T a) x y
theorem Rs.refl(x:Nat):Rs T x x:=.inl rfl
theorem Rs.trans(h:Rs T x y)(a:Rs T y z):Rs T x z:=by
 rcases h with rfl|h
 show a;rcases a with rfl|a
 show .inr h;show .inr (h.trans a)
theorem Rs.ig(h:y∈T x):Rs T x y:=.inr (.one h)
theorem Rs.ind{T:Nat->List Nat}{z:Nat}{a:Nat->Prop}(b:a z)(c:∀v y,y∈T v->Rs T y z->a y->a v){v:Nat}(h:Rs T v z):a v:=by
 rcases h with rfl|h
 show b;induction h with
 |one h=>show c _ _ h (.refl _) b
 |step h p d=>show c _ _ h (.inr p) (d b c)
structure Fm where
 x:Nat
 p:Nat
 i:Nat
theorem neFm:Nonempty Fm:=⟨⟨0,0,0⟩⟩
noncomputable def oV(a b:Nat):Prop:=∀t,a.testBit t=true->b.testBit t=true
theorem oV.refl(a:Nat):oV a a:=λb h=>h
theorem oV.trans(h:oV a b)(d:oV b c):oV a c:=λt x=>d t (h t x)
theorem oV.XS(a b:Nat):oV a (a|||b):=λt h=>by rw[dD,h];rfl
theorem oV.orr(a b:Nat):oV b (a|||b):=λt h=>by rw[dD,h];simp
section
variable(T:Nat->List Nat)(O:List Nat)(n:Nat)
noncomputable def Pr(N:List Fm)(v y:Nat):Prop:=y∈T v/\∀f∈N,f.x=v->∃j,j<f.i/\(T v)[j]?=Zs y
noncomputable def NY(N:List Fm)(v:Nat):Prop:=∃f∈N,f.x=v
noncomputable def VN(Q Y U:List Nat)(N:List Fm)(f:Fm)(v:Nat):Prop:=
 (cN Y f.x<=cN Y v/\oV (cN Q v) (cN Q f.x))\/
 (N.getLast?=Zs f/\∃y,(T f.x)[f.i]?=Zs y/\y∈U/\cN Y y<=cN Y v/\oV (cN Q v) (cN Q y))
structure TI(Q Y U:List Nat)(N:List Fm):Prop where
 lr:aa Q=n
 lh:aa Y=n
 nd:U.Nodup
 pl:∀v∈U,v<n
 cls:∀v,v<n->(v∈U/\0<cN Y v/\cN Y v<=n)\/(v∉U/\(cN Y v=0\/cN Y v=n+1))
 snd:∀v,v<n->∀t,(cN Q v).testBit t=true->∃z,Rs T v z/\(cN O z).testBit t=true
 own:∀v,v<n->oV (cN O v) (cN Q v)
 Nj:∀v,v<n->cN Y v=n+1->(∀y∈T v,cN Y y=n+1)/\∀z,Rs T v z->oV (cN O z) (cN Q v)
 fr:∀f∈N,0<f.p/\U[f.p - 1]?=Zs f.x/\f.i<=(T f.x).length
 inc:N.Pairwise (λf g=>f.p<g.p)
 NZ:∀(k:Nat) (f g:Fm),N[k]?=Zs f->N[k+1]?=Zs g->(T f.x)[f.i]?=Zs g.x
 bot:(N=[]/\U=[])\/∃f,N[0]?=Zs f/\f.p=1
 hle:∀(k v:Nat),U[k]?=Zs v->cN Y v<=k+1
 low:∀v∈U,∃u k,U[k]?=Zs u/\k+1=cN Y v/\Rs T v u
 N0:∀(k v y:Nat),U[k]?=Zs v->Pr T N v y->(cN Y y=n+1/\oV (cN Q y) (cN Q v))\/∃m:Nat,U[m]?=Zs y/\cN Y v<=m+1/\∀f∈N,k+1<f.p->m+1<f.p
 fin:∀(k v:Nat),U[k]?=Zs v->¬NY N v->cN Y v<k+1/\∃f∈N,f.p<=k/\(∀g∈N,g.p<=k+1->g.p<=f.p)/\Rs T f.x v/\VN T Q Y U N f v
end
section
variable{T:Nat->List Nat}{O:List Nat}{n:Nat}{Q Y U:List Nat}{N:List Fm}
theorem TI.Gg(a:TI T O n Q Y U N){k v:Nat}(h:U[k]?=Zs v):v<n:=a.pl v (ai h)
theorem TI.oW(a:TI T O n Q Y U N){k m v:Nat}(h:U[k]?=Zs v)(b:U[m]?=Zs v):k=m:=(cj (ae.mp h).1 a.nd).mp (h.trans b.symm)
theorem TI.Nk(a:TI T O n Q Y U N):aa U<=n:=cY a.nd a.pl
theorem TI.last(a:TI T O n Q Y U N){b:List Fm}{f:Fm}(e:N=b++[f]):(∀g∈b,g.p<f.p)/\∀g∈b,g.x≠f.x:=by
 have d:∀g∈b,g.p<f.p:=λg c=>by have:=a.inc;rw[e,fZ] at this;show this.2.2 g c f (.head _)
 exact⟨d,λg c i=>E03 (a.fr g (by rw[e];show p5 ∅)) (λj h _=>E03 (a.fr f (by rw[e];show vQ)) (λl k _=>?_))⟩;rw[i] at h;have:=a.oW h k;have:=d g c;show q3 ‹_› this j
theorem Q1(a:i<aa l):cN (l.set i m) s=if s=i then m else cN l s:=jU a
theorem TI.start(a:TI T O n Q Y [] [])(i:s<n)(l:cN Y s=0):TI T O n Q (Y.set s 1) [s] [⟨s,1,0⟩]:=by
 walk_at "@T O n Q Y s|a i l";have p:s<aa Y:=by rw[a.lh];show i
 have c:∀v,cN (Y.set s 1) v=if v=s then 1 else cN Y v:=λv=>jU p
 exact⟨a.lr,by show b_.trans a.lh,by show CW,by simp[i],λv b=>?_,a.snd,a.own,λv b d=>?_,?_,by simp,?_,.inr ⟨_,rfl,rfl⟩,?_,?_,?_,?_⟩;rw[c];by_cases e:v=s;rw[if_pos e];show .inl ⟨by simp[e],by show ax (w5 0),by show qX b⟩;rw[if_neg e];rcases a.cls v b with h|h
 simp at h;show .inr ⟨by simp[e],h.2⟩;rw[c] at d;by_cases e:v=s;rw[if_pos e] at d;show(q4 b d).elim;rw[if_neg e] at d;exact E02 (a.Nj v b d) λm q=>⟨λy o=>?_,q⟩;rw[c,if_neg];show m y o;rintro rfl;have:=m y o;show O3 this l;simp;intro k f g u r;cases k<;>show nS r
 intro k v h;cases k with
 |zero=>simp at h;subst h;rw[c,if_pos rfl];show aB _ _
 |succ k=>show nS h
 intro v b;simp at b;subst b;show pF v 0 rfl (by rw[c,if_pos rfl]) (.refl _);intro k v y h hp;cases k with
 |zero=>simp at h;subst h;show E12 (hp.2 _ (.head _) rfl) λj t _=>absurd t (eA _)
 |succ k=>show nS h
 intro k v h hn;cases k with
 |zero=>simp at h;subst h;show absurd ⟨_,.head _,rfl⟩ hn
 |succ k=>show nS h
theorem TI.push{t:List Fm}{x p i y:Nat}(l:TI T O n Q Y U (t++[⟨x,p,i⟩]))(G:y<n)(I:(T x)[i]?=Zs y)(J:cN Y y=0):
  TI T O n Q (Y.set y (aa U+1)) (U++[y]) (t++[⟨x,p,i⟩]++[⟨y,aa U+1,0⟩]):=by
 walk_at "@T O n Q Y U t x p i y|l G I J"
 have hl:y<aa Y:=by rw[l.lh];show G
 have B:∀v,cN (Y.set y (aa U+1)) v=if v=y then aa U+1 else cN Y v:=λv=>jU hl
 have a0:y∉U:=λh=>by
  rcases l.cls y G with q|q
  show(fj q.2.1 J).elim;show q.1 h
 have a1:∀v∈U,v≠y:=λv r e=>a0 (e▸r)
 have D:∀v∈U,cN (Y.set y (aa U+1)) v=cN Y v:=λv r=>by rw[B,if_neg (a1 v r)]
 have a2:∀v,cN Y v=n+1->cN (Y.set y (aa U+1)) v=n+1:=λv r=>by rw[B,if_neg (by rintro rfl;show O3 r J)];show r
 have a3:(U++[y]).Nodup:=by rw[cz];exact⟨l.nd,by simp,λa ha b hb=>?_⟩;rw[au.mp hb];show a1 a ha
 have a4:∀v∈U++[y],v<n:=λv r=>by
  rcases aE.mp r with h|h
  show l.pl v h;rw[au.mp h];show G
 have a5:aa U+1<=n:=by have:=cY a3 a4;simpa using this
 have L:∀{k v:Nat},(U++[y])[k]?=Zs v->(U[k]?=Zs v/\k<aa U)\/(aa U=k/\y=v):=λ{k v} h=>by
  rcases b9 k (aa U) with q|q
  rw[ar q] at h;show .inl ⟨h,q⟩;rw[aH q] at h;have w:k - aa U=0:=by
   rcases lY (k - aa U) with z|z
   show z;rw[cH (by simp;show qX z)] at h;cases h
  rw[w] at h;simp at h;show .inr ⟨(bt (ff w) q:k=aa U).symm,h⟩
 have M:∀{k v:Nat},U[k]?=Zs v->(U++[y])[k]?=Zs v:=λ{k v} h=>by rw[ar (ae.mp h).1];show h
 have N:∀{f:Fm},f∈t++[⟨x,p,i⟩]++[⟨y,aa U+1,0⟩]->f∈t++[⟨x,p,i⟩]\/f=⟨y,aa U+1,0⟩:=λ{f} h=>by
  rcases aE.mp h with h|h
  show .inl h;show .inr (au.mp h)
 have a':∀f∈t++[⟨x,p,i⟩],f.p<=aa U:=λf o=>by exact E03 (l.fr f o) λa b _=>?_;have:=(ae.mp b).1;show Lj this
 exact⟨l.lr,b_.trans l.lh,a3,a4,λv r=>?_,l.snd,l.own,λv r H=>?_,λf o=>?_,?_,?_,?_,λk v h=>?_,λv r=>?_,λk v z h hp=>?_,λk v h hn=>?_⟩
 rw[B];by_cases e:v=y;rw[if_pos e];show .inl ⟨by simp[e],m_ _,a5⟩;rw[if_neg e];rcases l.cls v r with h|h
 show .inl ⟨p5 h.1,h.2⟩;show .inr ⟨by simp[h.1,e],h.2⟩
 have ac:v≠y:=by rintro rfl;rw[B,if_pos rfl] at H;show O4 H a5
 rw[B,if_neg ac] at H;show E02 (l.Nj v r H) λd1 d2=>⟨λz hz=>a2 z (d1 z hz),d2⟩
 rcases N o with h|rfl
 show E03 (l.fr f h) λa b c=>⟨a,M b,c⟩;show⟨by change 0<aa U+1;show m_ _,by change(U++[y])[aa U+1 - 1]?=Zs y;show sS,bz _⟩
 rw[fZ];show⟨l.inc,by simp,λf o g E=>by rw[au.mp E];change f.p<aa U+1;have:=a' f o;show iW this⟩
 intro k f g A s;rcases b9 (k+1) (t++[(⟨x,p,i⟩:Fm)]).length with q|q
 rw[ar q] at s;rw[ar (fK q)] at A;show l.NZ k f g A s;rw[aH q] at s;have w:k+1 - (t++[(⟨x,p,i⟩:Fm)]).length=0:=by
  rcases lY (k+1 - (t++[(⟨x,p,i⟩:Fm)]).length) with z|z
  show z;rw[cH (by simp at z⊢;show qX z)] at s;cases s
 rw[w] at s;simp at s;subst s;simp at w q;have al:k=aa t:=bt (ff w) q;subst al;rw[ar (by simp)] at A;simp at A;subst A;show I
 right;rcases l.bot with⟨e,_⟩|⟨f,A,s⟩
 show Ke e;show cU f (by rw[ar (ae.mp A).1];show A) s
 rcases L h with⟨h,w⟩|⟨rfl,rfl⟩
 rw[D v (ai h)];show l.hle k v h;rw[B,if_pos rfl];show ax _
 rcases aE.mp r with h|h
 show E23 (l.low v h) λu k A s h3=>pF u k (M A) (by rw[D v h];show s) h3;rw[au.mp h];show pF y (aa U) (by simp) (by rw[B,if_pos rfl]) (.refl _)
 rcases L h with⟨h,w⟩|⟨rfl,rfl⟩
 have am:Pr T (t++[⟨x,p,i⟩]) v z:=⟨hp.1,λf o=>hp.2 f (cE _ o)⟩;rcases l.N0 k v z h am with⟨a,b⟩|⟨m,a,b,c⟩
 show .inl ⟨a2 z a,b⟩;exact .inr ⟨m,M a,by rw[D v (ai h)];show b,λf o an=>?_⟩;rcases N o with o|rfl
 show c f o an;exact(?_:m+1<aa U+1);have:=(ae.mp a).1;show iX this _;show E12 (hp.2 ⟨y,aa U+1,0⟩ vQ rfl) λj hj _=>absurd hj (eA _)
 rcases L h with⟨h,w⟩|⟨rfl,rfl⟩
 exact E02 (l.fin k v h λ⟨f,o,hx⟩=>hn ⟨f,cE _ o,hx⟩) λa ap=>E15 ap λf o b c d e=>?_;have a6:=ai h;have as:f.x∈U:=ai (l.fr f o).2.1;exact⟨by rw[D v a6];show a,f,cE _ o,b,λg E a7=>?_,d,.inl ?_⟩;rcases N E with E|rfl
 show c g E a7;have:aa U+1<=k+1:=a7;show absurd w (ju (ph this));rw[D v a6,D _ as];rcases e with e|⟨e1,z,e2,e3,_⟩
 show e;rw[nx] at e1;simp at e1;subst e1;rw[I] at e2;have aM:=Option.some.inj e2;clear e2;subst aM;show absurd e3 a0;show absurd ⟨⟨y,aa U+1,0⟩,vQ,rfl⟩ hn
set_option tactic.hygienic true in
theorem TI.read{r:List Fm}{x p i y:Nat}(l:TI T O n Q Y U (r++[⟨x,p,i⟩]))(hy:y<n)(he:(T x)[i]?=Zs y)(h0:cN Y y≠0):
  TI T O n (Q.set x (cN Q x|||cN Q y)) (if cN Y y<cN Y x then Y.set x (cN Y y) else Y) U (r++[⟨x,p,i+1⟩]):=by
 walk_at "@T O n Q Y U r x p i y|l hy he h0"
 exact E02 (l.last rfl) λa4 a0=>E03 (l.fr ⟨x,p,i⟩ vQ) λal a2 b3=>?_
 dsimp only at al a2 b3 a4 a0
 have a5:x∈U:=ai a2
 have a6:x<n:=l.pl x a5
 have am:x<aa Q:=by rw[l.lr];show a6
 have an:x<aa Y:=by rw[l.lh];show a6
 have ap:y∈T x:=ai he
 exact E03 (by
  rcases l.cls x a6 with h|h
  show h;show absurd a5 h.1:x∈U/\0<cN Y x/\cN Y x<=n) ?_;intro _ hx1 hx2
 generalize a7:Q.set x (cN Q x|||cN Q y)=a1
 generalize a':(if cN Y y<cN Y x then Y.set x (cN Y y) else Y)=A
 have rx:cN a1 x=cN Q x|||cN Q y:=by rw[←a7,jU am,if_pos rfl]
 have I:∀v,v≠x->cN a1 v=cN Q v:=λv s=>by rw[←a7,jU am,if_neg s]
 have rg:∀v,oV (cN Q v) (cN a1 v):=λv=>by by_cases e:v=x;subst e;rw[rx];show .XS _ _;rw[I v e];show .refl _
 have s:∀v,v≠x->cN A v=cN Y v:=λv s=>by rw[←a'];split;rw[jU an,if_neg s];rfl
 have B:cN A x<=cN Y x/\cN A x<=cN Y y/\(cN A x=cN Y x\/(cN A x=cN Y y/\cN Y y<cN Y x)):=by
  rw[←a'];split
  ·rename_i h;rw[jU an,if_pos rfl];show⟨dy h,ax _,.inr ⟨rfl,h⟩⟩
  show⟨ax _,bS ‹_›,.inl rfl⟩
 have b4:∀v,cN A v<=cN Y v:=λv=>by by_cases e:v=x;subst e;show B.1;rw[s v e];show ax _
 have L:∀v,cN Y v=n+1->v≠x:=λv h e=>by subst e;show O4 h hx2
 have b5:aa A=n:=by rw[←a'];split<;>simp[l.lh]
 have a3:∀{f:Fm},f∈r++[⟨x,p,i+1⟩]->f∈r\/f=⟨x,p,i+1⟩:=λ{f} h=>by
  rcases aE.mp h with h|h
  show .inl h;show .inr (au.mp h)
 exact⟨by rw[←a7];show b_.trans l.lr,b5,l.nd,l.pl,λv J=>?_,λv J t Y=>?_,λv J=>(l.own v J).trans (rg v),λv J hd=>?_,λf o=>?_,?_,?_,?_,λk v h=>af (b4 v) (l.hle k v h),λv as=>?_,λk v z h hp=>?_,λk v h hn=>?_⟩
 by_cases e:v=x;subst e;show .inl ⟨a5,B.2.2.elim (λh=>cJ hx1 h.symm) (λh=>cJ (dZ h0) h.1.symm),af B.1 hx2⟩;rw[s v e];show l.cls v J
 by_cases e:v=x;subst e;rw[rx,dD,di] at Y;rcases Y with Y|Y
 show l.snd v J t Y;show E12 (l.snd y hy t Y) λz a b=>cU z ((Rs.ig ap).trans a) b;rw[I v e] at Y;show l.snd v J t Y
 have M:v≠x:=by rintro rfl;show nH n (af (aX hd.symm) (af B.1 hx2))
 rw[s v M] at hd;show E02 (l.Nj v J hd) λd1 d2=>⟨λz D=>by rw[s z (L z (d1 z D))];show d1 z D,λz D=>(d2 z D).trans (rg v)⟩
 rcases a3 o with h|rfl
 show l.fr f (p5 ∅);show⟨al,a2,(ae.mp he).1⟩
 have:=l.inc;rw[fZ] at this⊢;show⟨this.1,by simp,λf o g hg=>by rw[au.mp hg];show a4 f o⟩
 intro k f g E w;rcases b9 (k+1) (aa r) with q|q
 rw[ar (Ll q)] at E;rw[ar q] at w;show l.NZ k f g (by rw[ar (fK q)];show E) (by rw[ar q];show w);rw[aH q] at w;have N:k+1 - aa r=0:=by
  rcases lY (k+1 - aa r) with z|z
  show z;rw[cH (by simp;show qX z)] at w;cases w
 rw[N] at w;simp at w;subst w;rw[ar (ff N)] at E;show l.NZ k f ⟨x,p,i⟩ (by rw[ar (ff N)];show E) (by rw[aH q,N];rfl)
 right;rcases l.bot with⟨e,_⟩|⟨f,E,w⟩
 show Ke e;cases r with
 |nil=>simp at E;subst E;show cU _ rfl w
 |cons g r=>simp at E;subst E;show cU _ rfl w
 by_cases e:v=x;subst e;rcases B.2.2 with h|⟨h,G⟩
 rw[h];show l.low v as;have b6:y∈U:=by
  rcases l.cls y hy with q|q
  show q.1;show(q.2.elim h0 λe=>nH n (af (aX e.symm) (a_ (aj G hx2)))).elim
 show E23 (l.low y b6) λu k a b c=>pF u k a (by rw[h];show b) ((Rs.ig ap).trans c);rw[s v e];show l.low v as
 have conv:∀m:Nat,(∀f∈r++[(⟨x,p,i⟩:Fm)],k+1<f.p->m+1<f.p)->∀f∈r++[(⟨x,p,i+1⟩:Fm)],k+1<f.p->m+1<f.p:=λm hc f o G=>by
  rcases a3 o with h|rfl
  show hc f (p5 ∅) G;show hc ⟨x,p,i⟩ vQ G
 by_cases e:v=x;subst e;exact E12 (hp.2 ⟨v,p,i+1⟩ vQ rfl) λj hj D=>?_;have hj:j<i+1:=hj;by_cases aM:j=i;subst aM;rw[he] at D;have b':=Option.some.inj D;clear D;subst b';rcases l.cls y hy with⟨q,_,_⟩|⟨_,q⟩
 exact E11 (aC.mp q) λm hm=>.inr ⟨m,hm,af B.2.1 (l.hle m y hm),λf o G=>?_⟩;have N:=l.oW h a2;rcases a3 o with o|rfl
 have:=a4 f o;show(bf _ (aZ (iZ (aX N.symm)) (jI G this))).elim;have G:k+1<p:=G;show(bf _ (aZ (iZ (aX N.symm)) G)).elim;rcases q with q|q
 show absurd q h0;exact .inl ⟨by rw[s y (L y q)];show q,?_⟩;rw[I y (L y q),rx];show .orr _ _;have ac:Pr T (r++[⟨v,p,i⟩]) v z:=⟨hp.1,λf o H=>by
  rcases aE.mp o with o|o
  show absurd H (a0 f o);rw[au.mp o];show cU j (by change j<i;show Ki hj aM) D⟩
 rcases l.N0 k v z h ac with⟨a,b⟩|⟨m,a,b,c⟩
 show .inl ⟨by rw[s z (L z a)];show a,by rw[I z (L z a)];show b.trans (rg v)⟩;show .inr ⟨m,a,af B.1 b,conv m c⟩;have ac:Pr T (r++[⟨x,p,i⟩]) v z:=⟨hp.1,λf o H=>by
  rcases aE.mp o with o|o
  show hp.2 f (p5 ∅) H;rw[au.mp o] at H;show absurd H.symm e⟩
 rcases l.N0 k v z h ac with⟨a,b⟩|⟨m,a,b,c⟩
 show .inl ⟨by rw[s z (L z a)];show a,by rw[I z (L z a)];show b.trans (rg v)⟩;show .inr ⟨m,a,by rw[s v e];show b,conv m c⟩
 have aY:¬NY (r++[⟨x,p,i⟩]) v:=λ⟨f,o,H⟩=>by
  rcases aE.mp o with o|o
  show hn ⟨f,p5 ∅,H⟩;rw[au.mp o] at H;show hn ⟨⟨x,p,i+1⟩,vQ,H⟩
 have M:v≠x:=by rintro rfl;show aY ⟨⟨v,p,i⟩,vQ,rfl⟩
 exact E02 (l.fin k v h aY) λa bd=>E15 bd λf o b c d e=>?_;rw[s v M];exact⟨a,?_⟩;have b1:∀q:Nat,(∀g∈r++[(⟨x,p,i⟩:Fm)],g.p<=k+1->g.p<=q)->∀g∈r++[(⟨x,p,i+1⟩:Fm)],g.p<=k+1->g.p<=q:=λq hc g hg b2=>by
  rcases a3 hg with hg|rfl
  show hc g (p5 ∅) b2;show hc ⟨x,p,i⟩ vQ b2
 rcases aE.mp o with o|o
 exact yI f (p5 ∅) b (b1 f.p c) d (.inl ?_);rcases e with⟨e1,e2⟩|⟨e1,_⟩
 rw[s v M,s _ (a0 f o),I v M,I _ (a0 f o)];show⟨e1,e2⟩;rw[nx] at e1;simp at e1;subst e1;show absurd rfl (a0 _ o);have be:=au.mp o;subst be;exact yI ⟨x,p,(i+1)⟩ vQ b (b1 p c) d (.inl ?_);exact(?_:cN A x<=cN A v/\oV (cN a1 v) (cN a1 x));rw[s v M,I v M];rcases e with⟨e1,e2⟩|⟨_,z,e2,e3,e4,e5⟩
 show⟨af B.1 e1,e2.trans (rg x)⟩;rw[show(T x)[i]?=Zs y from he] at e2;have bh:=Option.some.inj e2;clear e2;subst bh;show⟨af B.2.1 e4,by rw[rx];show e5.trans (.orr _ _)⟩
theorem TI.back{y:List Fm}{x p i:Nat}(l:TI T O n Q Y U (y++[⟨x,p,i⟩]))(G:(T x)[i]?=Zt)(H:cN Y x≠p):TI T O n Q Y U y:=by
 walk_at "@T O n Q Y U y x p i|l G H";exact E02 (l.last rfl) λI J=>E03 (l.fr ⟨x,p,i⟩ vQ) λN B a0=>?_;dsimp only at N B a0 I J;have D:x∈U:=ai B;have a6:x<n:=l.pl x D;exact E03 (by
  rcases l.cls x a6 with h|h
  show h;show absurd D h.1:x∈U/\0<cN Y x/\cN Y x<=n) ?_;intro _ hx1 hx2
 have a1:=l.hle _ _ B;have a7:(T x).length=i:=by have:=gD.mp G;show bt this a0
 exact E21 (by
  rcases mS y with e|⟨q,g,e⟩
  subst e;rcases l.bot with⟨e,_⟩|⟨f,t,s⟩
  simp at e;simp at t;subst t;have s:p=1:=s;show(q6 hx1 s H a1).elim;show Mp q g (by simpa using e):∃q g,y=q++[g]) ?_;intro q g a';subst a'
 walk_at "@q g|l I J";have L:(T g.x)[g.i]?=Zs x:=l.NZ (aa q) g ⟨x,p,i⟩ Mw (by rw[aH (by simp)];simp);have a2:=I g vQ;have a3:∀f∈q,f.p<g.p:=λf o=>by have:=l.inc;rw[fZ,fZ] at this;show this.1.2.2 f o g (.head _)
 have a4:(q++[g]).getLast?=Zs g:=by simp
 have a5:Rs T g.x x:=Rs.ig (ai L);exact⟨l.lr,l.lh,l.nd,l.pl,l.cls,l.snd,l.own,l.Nj,λf o=>l.fr f (cE _ o),?_,?_,?_,l.hle,l.low,λk v z h E=>?_,λk v h hn=>?_⟩;have:=l.inc;rw[fZ] at this;show this.1;intro k f u t s;have hl:=(ae.mp s).1;show l.NZ k f u (by rw[ar (fK hl)];show t) (by rw[ar hl];show s);right;rcases l.bot with⟨e,_⟩|⟨f,t,s⟩
 show Ke e;show cU f (by rw[ar (by simp)] at t;show t) s;walk_at "@k v z|h E";have ac:Pr T (q++[g]++[⟨x,p,i⟩]) v z:=⟨E.1,λf o r=>by
  rcases aE.mp o with o|o
  show E.2 f o r;rw[au.mp o] at r⊢;have r:x=v:=r;subst r;exact E11 (aC.mp E.1) λj hj=>?_;show cU j (by have:=(ae.mp hj).1;change j<i;show cJ this a7) hj⟩
 rcases l.N0 k v z h ac with a|⟨m,a,b,c⟩
 show .inl a;show .inr ⟨m,a,b,λf o=>c f (cE _ o)⟩;walk_at "@k v|h hn";by_cases e:v=x;subst e;have hk:=l.oW h B;subst hk;exact⟨ba a1 λe=>H (e.trans (dp N)),g,by simp,cF a2,λu A _a=>?_,a5,.inr ⟨a4,v,L,D,ax _,.refl _⟩⟩;rcases aE.mp A with h|h
 have:=a3 u h;show dy this;rw[au.mp h];show ax _;have al:¬NY (q++[g]++[⟨x,p,i⟩]) v:=λ⟨f,o,r⟩=>by
  rcases aE.mp o with o|o
  show hn ⟨f,o,r⟩;rw[au.mp o] at r;show e r.symm
 exact E02 (l.fin k v h al) λa am=>E15 am λf o b c d w=>⟨a,?_⟩;rcases aE.mp o with o|o
 exact yI f o b (λu A=>c u (cE _ A)) d (.inl ?_);rcases w with w|⟨M,_⟩
 show w;rw[nx] at M;simp at M;subst M;show absurd rfl (J _ o);have an:=au.mp o;subst an;have b:p<=k:=b;have d:Rs T x v:=d;exact yI g vQ (a_ (aj a2 b)) (λu A _a=>?_) (a5.trans d) (.inr ⟨a4,x,L,D,?_⟩);rcases aE.mp A with h|h
 have:=a3 u h;show dy this;rw[au.mp h];show ax _;rcases w with w|⟨_,z,e2,_⟩
 show w;rw[show(T x)[i]?=Zt from G] at e2;cases e2
noncomputable def gS(l b:List Nat)(c:Nat):List Nat:=b.foldr (λv a=>a.set v c) l
theorem nO(l a:List Nat)(c:Nat):(gS l a c).length=aa l:=by
 induction a with
 |nil=>rfl
 |cons v a b=>change((gS l a c).set v c).length=_;rw[b_];show b
theorem pN(h:∀v∈a,v<aa l):cN (gS l a c) s=if s∈a then c else cN l s:=by
 induction a with
 |nil=>show(if_neg bq).symm
 |cons v a b=>exact(?_:cN ((gS l a c).set v c) s=_);rw[jU (by rw[nO];show h v (.head _)),b λu d=>h u (.tail _ d)];by_cases e:s=v;rw[if_pos e,if_pos (e▸.head _)];rw[if_neg e];show ite_congr (propext ⟨.tail _,λh=>(bb.mp h).resolve_left e⟩) (λf=>rfl) (λf=>rfl)
theorem TI.root{H:List Fm}{x p i:Nat}(o:TI T O n Q Y U (H++[⟨x,p,i⟩]))(he:(T x)[i]?=Zt)(h0:cN Y x=p):
  TI T O n (gS Q (U.drop (p - 1)) (cN Q x)) (gS Y (U.drop (p - 1)) (n+1)) (U.take (p - 1)) H:=by
 walk_at "@T O n Q Y U H x p i|o he h0"
 exact E02 (o.last rfl) λL a4=>E03 (o.fr ⟨x,p,i⟩ vQ) λac M a5=>?_
 dsimp only at ac M a5 L a4
 have al:x∈U:=ai M
 have am:x<n:=o.pl x al
 have an:(T x).length=i:=by have:=gD.mp he;show bt this a5
 have hS:∀v∈U.drop (p - 1),v<n:=λv B=>o.pl v (iU B)
 have N:∀v,v∈U.drop (p - 1)↔∃k,p - 1<=k/\U[k]?=Zs v:=λv=>by constructor;intro h;exact E11 (aC.mp h) λj hj=>?_;rw[eu] at hj;show cU (p - 1+j) o7 hj;intro ap;exact E12 ap λk r A=>aC.mpr ⟨k - (p - 1),?_⟩;rw[eu,show p - 1+(k - (p - 1))=k by show gZ r];show A
 have f1:∀k v,p - 1<=k->U[k]?=Zs v->p<=cN Y v/\oV (cN Q v) (cN Q x)/\Rs T x v:=by
  intro k v s h;by_cases e:v=x;subst e;show⟨aX (id (Eq.symm h0)),.refl _,.refl _⟩;have as:p - 1≠k:=by intro e2;subst e2;rw[M] at h;have aM:=Option.some.inj h;clear h;subst aM;show e rfl
  have a0:¬NY (H++[⟨x,p,i⟩]) v:=λ⟨f,l,w⟩=>by
   rcases aE.mp l with l|l
   have r:=L f l;exact E03 (o.fr f (cE _ l)) λa b _=>?_;rw[w] at b;have:=o.oW h b;show RF s r a this;rw[au.mp l] at w;show e w.symm
  exact E02 (o.fin k v h a0) λa aY=>E15 aY λf l b c d E=>?_;have a1:=c ⟨x,p,i⟩ vQ (by change p<=k+1;show iZ s);rcases aE.mp l with l|l
  have:=L f l;have a1:p<=f.p:=a1;show(bf _ (aj this a1)).elim;have b1:=au.mp l;subst b1;rcases E with⟨r,A⟩|⟨_,z,e2,_⟩
  have r:cN Y x<=cN Y v:=r;show⟨O5 h0 r,A,d⟩;rw[show(T x)[i]?=Zt from he] at e2;cases e2
 have f2:∀k v y,p - 1<=k->U[k]?=Zs v->y∈T v->(cN Y y=n+1/\oV (cN Q y) (cN Q x))\/∃m,p - 1<=m/\U[m]?=Zs y:=by
  intro k v y s h J;exact E03 (f1 k v s h) λg1 g2 g3=>?_;have a2:Pr T (H++[⟨x,p,i⟩]) v y:=⟨J,λf l w=>by
   exact E11 (aC.mp J) λj hj=>?_;rcases aE.mp l with l|l
   have r:=L f l;exact E03 (o.fr f (cE _ l)) λa b _=>?_;rw[w] at b;have:=o.oW h b;show(RF s r a this).elim;rw[au.mp l] at w⊢;have w:x=v:=w;subst w;show cU j (by have:=(ae.mp hj).1;change j<i;show cJ this an) hj⟩
  rcases o.N0 k v y h a2 with⟨a,b⟩|⟨m,a,b,c⟩
  show .inl ⟨a,b.trans g2⟩;show .inr ⟨m,Nat.sub_le_of_le_add (af g1 b),a⟩
 have f3:∀k v,p - 1<=k->U[k]?=Zs v->Rs T v x:=by
  intro k;induction k using Au with
  |ind k ih=>
   intro v s h;by_cases e:v=x;subst e;show .refl _;exact E03 (f1 k v s h) λg1 _ _=>E23 (o.low v (ai h)) λu m r A h3=>?_;have as:p - 1≠k:=by intro e2;subst e2;rw[M] at h;have b2:=Option.some.inj h;clear h;subst b2;show e rfl
   have a0:¬NY (H++[⟨x,p,i⟩]) v:=λ⟨f,l,w⟩=>by
    rcases aE.mp l with l|l
    have r:=L f l;exact E03 (o.fr f (cE _ l)) λa b _=>?_;rw[w] at b;have:=o.oW h b;show RF s r a this;rw[au.mp l] at w;show e w.symm
   have b3:=(o.fin k v h a0).1;show h3.trans (ih m ((kq (A▸b3))) u (Sb A g1) r)
 have f4:∀z v,Rs T v z->(∃k,p - 1<=k/\U[k]?=Zs v)->oV (cN O z) (cN Q x):=by
  intro z v h;exact Rs.ind (z:=z) (a:=λv=>(∃k,p - 1<=k/\U[k]?=Zs v)->oV (cN O z) (cN Q x)) ?_ ?_ h;intro b4;show E12 b4 λk s h=>(o.own z (o.Gg h)).trans (f1 k z s h).2.1;intro v y J G ih zq4;exact E12 zq4 λk s h=>?_;rcases f2 k v y s h J with⟨a,b⟩|c
  have b5:y<n:=by
   rcases b9 y n with q|q
   show q;have:cN Y y=0:=by unfold cN;rw[cH (by rw[o.lh];show q)];rfl
   show absurd (a.symm.trans this) (iy _)
  show((o.Nj y b5 a).2 z G).trans b;show ih c
 have G:∀v,cN (gS Q (U.drop (p - 1)) (cN Q x)) v=if v∈U.drop (p - 1) then cN Q x else cN Q v:=λv=>pN (by rw[o.lr];show hS)
 have E:∀v,cN (gS Y (U.drop (p - 1)) (n+1)) v=if v∈U.drop (p - 1) then n+1 else cN Y v:=λv=>pN (by rw[o.lh];show hS)
 have a6:(gS Q (U.drop (p - 1)) (cN Q x)).length=n:=by rw[nO,o.lr]
 have a7:(gS Y (U.drop (p - 1)) (n+1)).length=n:=by rw[nO,o.lh]
 generalize gS Q (U.drop (p - 1)) (cN Q x)=bn at G a6⊢
 generalize gS Y (U.drop (p - 1)) (n+1)=b6 at E a7⊢
 have tk:∀{k v:Nat},(U.take (p - 1))[k]?=Zs v->k<p - 1/\U[k]?=Zs v:=λ{k v} h=>by
  have s:k<p - 1:=by have:=(ae.mp h).1;rw[bP] at this;show(fD.mp this).1
  rw[cQ s] at h;show⟨s,h⟩
 have kt:∀{k v:Nat},k<p - 1->U[k]?=Zs v->(U.take (p - 1))[k]?=Zs v:=λ{k v} s h=>by rw[cQ s];show h
 have I:∀{k v:Nat},k<p - 1->U[k]?=Zs v->v∉U.drop (p - 1):=λ{k v} s h B=>by exact E12 ((N v).mp B) λm r A=>?_;have:=o.oW h A;show RL s this r
 have nS:∀{v:Nat},v∉U->v∉U.drop (p - 1):=λ{v} h B=>h (iU B)
 have b':∀{v:Nat},v<n->cN Y v=n+1->v∉U.drop (p - 1):=λ{v} B h=>nS λhp=>by
  rcases o.cls v B with q|q
  show(nH n (af (aX h.symm) q.2.2)).elim;show q.1 hp
 have bd:∀{y:Nat},cN Y y=n+1->y<n:=λ{y} h=>by
  rcases b9 y n with q|q
  show q;have:cN Y y=0:=by unfold cN;rw[cH (by rw[o.lh];show q)];rfl
  show absurd (h.symm.trans this) (iy _)
 have a3:∀{y:Nat},cN Y y=n+1->cN b6 y=n+1:=λ{y} h=>by rw[E];split;rfl;show h
 exact⟨a6,a7,o.nd.sublist (J1 _ _),λv B=>o.pl v (iT B),λv B=>?_,λv B t Y=>?_,λv B=>?_,λv B hd=>?_,λf l=>?_,?_,?_,?_,λk v h=>?_,λv B=>?_,λk v y h hp=>?_,λk v h hn=>?_⟩
 rw[E];by_cases D:v∈U.drop (p - 1);rw[if_pos D];show .inr ⟨λbe=>E11 (aC.mp be) (λk s=>E02 (tk s) (λa b=>I a b D)),.inr rfl⟩;rw[if_neg D];rcases o.cls v B with q|q
 exact E11 (aC.mp q.1) λk s=>.inl ⟨?_,q.2⟩;rcases b9 k (p - 1) with a|a
 show ai (kt a s);show absurd ((N v).mpr ⟨k,a,s⟩) D;show .inr ⟨λh=>q.1 (iT h),q.2⟩
 rw[G] at Y;by_cases D:v∈U.drop (p - 1);rw[if_pos D] at Y;show E12 ((N v).mp D) λk a b=>E12 (o.snd x am t Y) λz r A=>cU z ((f3 k v a b).trans r) A;rw[if_neg D] at Y;show o.snd v B t Y
 rw[G];by_cases D:v∈U.drop (p - 1);rw[if_pos D];show E12 ((N v).mp D) λk a b=>(o.own v B).trans (f1 k v a b).2.1;rw[if_neg D];show o.own v B
 by_cases D:v∈U.drop (p - 1);exact E12 ((N v).mp D) λk a b=>⟨λy J=>?_,λz hz=>?_⟩;rcases f2 k v y a b J with⟨c,_⟩|c
 show a3 c;rw[E,if_pos ((N y).mpr c)];rw[G,if_pos D];show f4 z v hz ⟨k,a,b⟩;rw[E,if_neg D] at hd;show E02 (o.Nj v B hd) λd1 d2=>⟨λy J=>a3 (d1 y J),λz hz=>by rw[G,if_neg D];show d2 z hz⟩
 show E03 (o.fr f (cE _ l)) λa b c=>⟨a,kt (by have:=L f l;show f9 (a8 a) this) b,c⟩
 have:=o.inc;rw[fZ] at this;show this.1
 intro k f g' r A;have hl:=(ae.mp A).1;show o.NZ k f g' (by rw[ar (fK hl)];show r) (by rw[ar hl];show A)
 rcases mS H with e|⟨gs,g,e⟩
 subst e;left;exact⟨rfl,?_⟩;rcases o.bot with⟨e,_⟩|⟨f,r,A⟩
 simp at e;simp at r;subst r;have A:p=1:=A;subst A;rfl;right;rcases o.bot with⟨e',_⟩|⟨f,r,A⟩
 show Ke e';show cU f (by rw[ar (by rw[e];simp)] at r;show r) A
 exact E02 (tk h) λa b=>?_;rw[E,if_neg (I a b)];show o.hle k v b
 exact E11 (aC.mp B) λk s=>E02 (tk s) λa b=>E23 (o.low v (ai b)) λu m r A h3=>?_;have:=o.hle k v b;show pF u m (kt (Xo A a this) r) (by rw[E,if_neg (I a b)];show A) h3
 exact E02 (tk h) λa b=>?_;have a2:Pr T (H++[⟨x,p,i⟩]) v y:=⟨hp.1,λf l w=>by
  rcases aE.mp l with l|l
  show hp.2 f l w;rw[au.mp l] at w;have w:x=v:=w;subst w;have:=o.oW b M;show((bf _ (this▸a))).elim⟩
 rw[G v,if_neg (I a b),E v,if_neg (I a b)];rcases o.N0 k v y b a2 with⟨c,d⟩|⟨m,c,d,e⟩
 show .inl ⟨a3 c,by rw[G,if_neg (b' (bd c) c)];show d⟩;have:=e ⟨x,p,i⟩ vQ (by change k+1<p;show ui a);have bh:m+1<p:=this;show .inr ⟨m,kt (He bh) c,d,λf l=>e f (cE _ l)⟩
 exact E02 (tk h) λa b=>?_;have a0:¬NY (H++[⟨x,p,i⟩]) v:=λ⟨f,l,w⟩=>by
  rcases aE.mp l with l|l
  show hn ⟨f,l,w⟩;rw[au.mp l] at w;have w:x=v:=w;subst w;have:=o.oW b M;show(bf _ (this▸a))
 exact E02 (o.fin k v b a0) λc bi=>E15 bi λf l d e g hH=>?_;rw[E v,if_neg (I a b)];exact⟨c,?_⟩;rcases aE.mp l with l|l
 exact yI f l d (λg' bm=>e g' (cE _ bm)) g (.inl (E03 (o.fr f (cE _ l)) (λq1 q2 _=>?_)));have a':=I (show f.p - 1<p - 1 by have:=L f l;show f9 (a8 q1) this) q2;rw[E f.x,if_neg a',G v,if_neg (I a b),G f.x,if_neg a',E v,if_neg (I a b)];rcases hH with hH|⟨e1,_⟩
 show hH;rw[nx] at e1;simp at e1;subst e1;show absurd rfl (a4 _ l);rw[au.mp l] at d;have d:p<=k:=d;show(bf _ (aj a (af (dh _ _) d))).elim
noncomputable def EH(T:Nat->List Nat)(O:List Nat)(n:Nat)(Q:List Nat):Prop:=aa Q=n/\∀v,v<n->∀t,(cN Q v).testBit t=true↔∃z,Rs T v z/\(cN O z).testBit t=true
theorem TI.init(e:aa O=n):TI T O n O (aw n 0) [] []:=by
 have b:∀v,cN (aw n 0) v=0:=λv=>by unfold cN;rw[dt];split<;>rfl
 exact⟨e,by show dM,by simp,by show λc=>nm,λv a=>.inr ⟨by show bq,.inl (b v)⟩,λv a t Y=>⟨v,.refl _,Y⟩,λv a=>.refl _,λv a d=>?_,by show λc h=>nm h,by simp,?_,.inl ⟨rfl,rfl⟩,?_,by show λc h=>nm h,?_,?_⟩;rw[b] at d;show(iy _ d.symm).elim;intro k f g h;show nS h;intro k v h;show nS h;intro k v y h;show nS h;intro k v h;show nS h
theorem TI.done(a:TI T O n Q Y [] [])(h:∀v,v<n->cN Y v≠0):EH T O n Q:=by
 exact⟨a.lr,λv b t=>⟨a.snd v b t,λ⟨z,c,d⟩=>?_⟩⟩;have e:cN Y v=n+1:=by
  rcases a.cls v b with q|q
  simp at q;rcases q.2 with q|q
  show absurd q (h v b);show q
 show(a.Nj v b e).2 z c t d
noncomputable def t4(T:Nat->List Nat)(n:Nat)(Y:List Nat):Nat:=((aJ n).map λv=>if cN Y v=0 then(T v).length+2 else 0).sum
noncomputable def DJ(T:Nat->List Nat)(N:List Fm):Nat:=(N.map λf=>(T f.x).length - f.i+1).sum
theorem DK{f b:Nat->Nat}:∀{l:List Nat},(∀v∈l,b v<=f v)->(l.map b).sum<=(l.map f).sum
 |[],_=>ax _
 |a::l,h=>by have:=h a (.head _);have:=DK (f:=f) (b:=b) (l:=l) λv c=>h v (.tail _ c);(rw[fO,fO]);show bW ‹_› this
theorem Nl{f d:Nat->Nat}{c y:Nat}{l:List Nat}(h:∀v∈l,d v<=f v)(b:y∈l)(i:d y+c<=f y):(l.map d).sum+c<=(l.map f).sum:=by
 induction l with
 |nil=>cases b
 |cons a l j=>rw[ck,ck,fO,fO];show(bb.mp b).elim (λe=>(bM _ _ _▸bW (e▸i) (DK λv g=>h v (.tail _ g)))) λb=>(bu _ _ _▸af (bW (h a (.head _)) (j (λv g=>h v (.tail _ g)) b)) (aX rfl))
theorem zD(h:∀v,cN Y v≠0->cN a v≠0):t4 T n a<=t4 T n Y:=by exact DK λv b=>?_;by_cases e:cN Y v=0;rw[if_pos e];split;show ax _;show bz _;rw[if_neg e,if_neg (h v e)];show ax _
theorem Gh{a:List Nat}{y:Nat}(h:∀v,cN Y v≠0->cN a v≠0)(b:y<n)(c:cN Y y=0)(d:cN a y≠0):t4 T n a+((T y).length+2)<=t4 T n Y:=by exact Nl (λv f=>?_) (cf.mpr b) (by rw[if_pos c,if_neg d];show RN);by_cases e:cN Y v=0;rw[if_pos e];split;show ax _;show bz _;rw[if_neg e,if_neg (h v e)];show ax _
end
theorem Es.mono(h:Es C d b H c e)(k:∀a,e a->f a):Es C d b H c f:=by
 focus
  show λA g i s xs j E l m r n=>h A g i s xs j E l m r λa o p s' q=>n a o p s' (k a q)
noncomputable def PT:qM:={kind:=.function,names:=[],isGenerator:=false,isCoroutine:=false,more:=[]}
noncomputable def DL(s:kh):tI×List kh×qM:=by
 cases s with
 |FunctionDef _ a b _ _ _ s=>show(a,b,s)
 |ClassDef _ _ _ b=>show(⟨[],[],Zt,[],[],Zt,[]⟩,b,PT)
 |_=>show(⟨[],[],Zt,[],[],Zt,[]⟩,[],PT)
noncomputable def uM(s:kh):List kh:=(DL s).2.1
noncomputable def EI(s:kh):tI:=(DL s).1
noncomputable def lN(s:kh):qM:=(DL s).2.2
noncomputable def Zh:List kh->Nat->kh
 |[],_=>.Pass ⟨0,0,0,0⟩
 |s::_,0=>s
 |_::r,n+1=>Zh r n
noncomputable abbrev Zf(n:Nat):kh:=Zh Oo.main.body n
noncomputable abbrev sub(n k:Nat):kh:=Zh (uM (Zf n)) k
noncomputable abbrev N1(C:Cx)(a:kh)(b:List Value)(c:Addr):Prop:=Fn C c (EI a) (uM a) (lN a) b
structure qn(C:Cx)(mg:Str->Option Value)(name:String)(n:Nat)(dvs:List Value)(fa:Addr):Prop where
 g:mg (ah name)=Zs (.ref fa)
 k:yD C.K (.ref fa)=true
 f:N1 C (Zf n) dvs fa
structure qH(C:Cx)(c:Addr)(name:String)(n k:Nat)(dvs:List Value)(fa:Addr):Prop where
 m:H9 C c name fa
 f:N1 C (sub n k) dvs fa
structure wV(mg mb:Str->Option Value)(name:String)(v:Value):Prop where
 g:mg (ah name)=Zt
 b:mb (ah name)=Zs v
theorem A7(h:dq C d f H m λv c=>∃t b,fE (λi=>aa H<=i) c v t/\jO H c b/\n t b):dq C d f H m n:=by
 focus
  intro A g o s xs p u e w y;exact h A g o s xs p u e w λv c J L x s' q j k r=>E23 q λt b z B q=>E02 (vm e j k B) λD E=>y t b _ _ x s' q D E (z.rel j (λi a G I=>?_) r);have l:i<aa g:=by rw[e.len];show ed G
  have:=k.zd i _ (ag l);rw[I] at this;rw[ag l,this]
theorem Ir{b:V->Prop}(h:dq C d f H c λv a=>∃ext t,a=H++ext/\fE (λi=>aa H<=i) a v t/\b t):dq C d f H c λt a=>b t/\a=H:=by
 focus
  show A7 (h.mono λv a ⟨ext,t,e,g,q⟩=>⟨t,H,g,e▸jO.pure,q,rfl⟩)
section
variable{C:Cx}{d:Nat}{Q:nu}{O:YK}{H:Hp}{mg mb:Str->Option Value}
theorem It(a:fy C mg mb)(b:qn C mg name n l c)
  (h:wJ C d Q O H args λe f=>gh C d (.ref c) f e g)(i:autoParam (Q.kindOf (ah name)=Zs .globalImplicit) aG)(j:autoParam (args.all YL=true) aT)
  (k:autoParam ((ah name==("__debug__":Str))=false) aF):fL C d Q O H (.Call (.Name (ah name) m) args [] pos) g:=by
 focus
  show xh a (nI a b.g i k) b.k h j
theorem Iu(a:fy C mg mb)(B:wV mg mb name v)
  (h:wJ C d Q O H args λb c=>gh C d v c b e)(f:autoParam (Y5 C.K v=true) aT)(g:autoParam (Q.kindOf (ah name)=Zs .globalImplicit) aG)(i:autoParam (args.all YL=true) aT)
  (j:autoParam ((ah name==("__debug__":Str))=false) aF):fL C d Q O H (.Call (.Name (ah name) k) args [] pos) e:=by
 focus
  show xh a (wK a B.g B.b g j) f h i
theorem Iw(b:fy C mg mb)(e:Bt C mg a c m)
  (h:wJ C d Q O H args λf g=>gh C d (.ref c) g f i)(j:autoParam (Q.kindOf (ah a)=Zs .globalImplicit) aG)(k:autoParam (args.all YL=true) aT)
  (l:autoParam ((ah a==("__debug__":Str))=false) aF):fL C d Q O H (.Call (.Name (ah a) n) args [] pos) i:=by
 focus
  show xh b (nI b e.g j l) e.ok.kept h k
end
theorem oQ.tup(x:oQ h v (a::l)):∃b n,v= .ref b/\h.get? b=Zs (gR (a::l) n):=by cases v<;>first|show x.elim|show Exists.elim x.2 λn e=>⟨_,n,rfl,e⟩|cases x
theorem oQ.nil(x:oQ h v []):v= .none:=by cases v<;>first|rfl|show x.elim|show absurd rfl x.1
theorem nE
  (h:∀(xs:List Value),aa xs=n->∀name a b c e f g,bindArgs (fnOf name a T U scope .none .none b c e f g) ⟨xs,[]⟩=pure ((Y.map ah).zip (xs++[]))):oR T U scope n Y [] []:=
 λs name a k b c e f g xs i j=>by have:=j.nil;subst this;show BindsTo.of_eq (h xs i name a b c e f g)
theorem d0{a:Type}{xs:List a}{n:Nat}(h:aa xs=n+1):∃x r,xs=x::r/\aa r=n:=by
 cases xs with
 |nil=>cases h
 |cons x r=>show Hm x r rfl (Nat.succ.inj h)
section
variable{T:tI}{U:List kh}{scope:qM}{Y:List String}
noncomputable abbrev zG(T:tI)(U:List kh)(scope:qM)(Y:List String)(xs:List Value):Prop:=∀name a b c d e f,bindArgs (fnOf name a T U scope .none .none b c d e f) ⟨xs,[]⟩=pure ((Y.map ah).zip (xs++[]))
theorem YT(h:∀a:Value,zG T U scope Y [a]):oR T U scope 1 Y [] []:=nE λf b=>by
 exact E22 (d0 b) λa c d e=>?_;subst d;cases c with
 |nil=>show h a
 |cons _ _=>cases e
theorem jx(h:∀a b:Value,zG T U scope Y [a,b]):oR T U scope 2 Y [] []:=nE λj c=>by
 exact E22 (d0 c) λa k d e=>?_;subst d;exact E22 (d0 e) λb f g i=>?_;subst g;cases f with
 |nil=>show h a b
 |cons _ _=>cases i
theorem xK(h:∀a b c:Value,zG T U scope Y [a,b,c]):oR T U scope 3 Y [] []:=nE λm d=>by
 exact E22 (d0 d) λa n e f=>?_;subst e;exact E22 (d0 f) λb o g i=>?_;subst g;exact E22 (d0 i) λc j k l=>?_;subst k;cases j with
 |nil=>show h a b c
 |cons _ _=>cases l
theorem LR(h:∀a b c d:Value,zG T U scope Y [a,b,c,d]):oR T U scope 4 Y [] []:=nE λp e=>by
 exact E22 (d0 e) λa q f g=>?_;subst f;exact E22 (d0 g) λb r i j=>?_;subst i;exact E22 (d0 j) λc s k l=>?_;subst k;exact E22 (d0 l) λd m n o=>?_;subst n;cases m with
 |nil=>show h a b c d
 |cons _ _=>cases o
theorem WI(h:∀a b c d e:Value,zG T U scope Y [a,b,c,d,e]):oR T U scope 5 Y [] []:=nE λs f=>by
 exact E22 (d0 f) λa t g i=>?_;subst g;exact E22 (d0 i) λb u j k=>?_;subst j;exact E22 (d0 k) λc v l m=>?_;subst l;exact E22 (d0 m) λd w n o=>?_;subst n;exact E22 (d0 o) λe p q r=>?_;subst q;cases p with
 |nil=>show h a b c d e
 |cons _ _=>cases r
theorem PU(h:∀a b c d e f g:Value,zG T U scope Y [a,b,c,d,e,f,g]):oR T U scope 7 Y [] []:=nE λy i=>by
 exact E22 (d0 i) λa z j k=>?_;subst j;exact E22 (d0 k) λb A l m=>?_;subst l;exact E22 (d0 m) λc B n o=>?_;subst n;exact E22 (d0 o) λd D p q=>?_;subst p;exact E22 (d0 q) λe E r s=>?_;subst r;exact E22 (d0 s) λf G t u=>?_;subst t;exact E22 (d0 u) λg v w x=>?_;subst w;cases v with
 |nil=>show h a b c d e f g
 |cons _ _=>cases x
end
noncomputable def PV(a:kh)(Y:List String):Bool:=decide Y.Nodup&&(Y.all (λx=>decide ((lN a).names.lookup (ah x)=Zs .local\/(lN a).names.lookup (ah x)=Zs .cell))&&(!(lN a).isCoroutine&&(!(lN a).isGenerator&&(decide ((lN a).kind= .function)&&decide ((tJ 0 (lN a).names []).map (·.1)).Nodup))))
theorem Iy{C:Cx}{d:Nat}{H:Hp}{mg mb:Str->Option Value}(O:fy C mg mb){g:kh}{j:Addr}(n:N1 C g [] j){i:List V}{Q:V->Hp->Prop}(Y:List String)
  (h:∀l m L,gM C d (Y8 (lN g) l m L j) (Y.zip i) H (uM g) λf o p=>∃v,PF f v/\Q v p)
  (q:oR (EI g) (uM g) (lN g) (aa i) Y [] [])(r:autoParam (aa Y=aa i) aR)(s:autoParam (PV g Y=true) aT):dq C (d+1) (.ref j) H i Q:=by
 focus
  exact E02 (dC.mp s) λa k=>E02 (dC.mp k) λb k=>E02 (dC.mp k) λc k=>E02 (dC.mp k) λe k=>E02 (dC.mp k) λf k=>?_;show uE (j:=Y) (a5:=[]) (J:=[]) (B:=[]) O n q (λo u=>.nil) (by simpa using r) (of_decide_eq_true a) (λx t=>of_decide_eq_true (cT.mp b x t)) (by simpa using c) (by simpa using e) (of_decide_eq_true f) (of_decide_eq_true k) λl m L=>by have e:i++[]=i:=dY _;rw[e];show h l m L
theorem uN(a:n<=1000000)(h:b (.Zn (1<<<n)) H):j4 C d (xi .LShift) H [.int 1,.Zn n] b:=by
 focus
  show Kt (m:=1) ⋯ a h
theorem YG{b:Type}{l:List b}{k:Nat}{a:b}(h:l[k]?=Zs a):l.take (k+1)=l.take k++[a]:=by rw[fN,h];rfl
theorem jy(h:a (.Zn (n+1)) H):j4 C d (xi .Add) H [.Zn n,.int 1] a:=by
 focus
  show oI (n:=1) h
theorem EJ(a:0<n)(h:b (.Zn (m % n)) H):j4 C d (xi .Mod) H [.Zn m,.Zn n] b:=by
 focus
  show MS (O' a) (by rw[Int.fmod_eq_emod_of_nonneg _ Jy,←Int.natCast_emod];show h)
theorem K0(a:0<n)(b:n<1073741824)(h:c (.Zn (m / n)) H):j4 C d (xi .FloorDiv) H [.Zn m,.Zn n] c:=by
 focus
  show BN (O' a) (by simpa using b) (by rw[Bw _ Jy,←Int.natCast_ediv];show h)
theorem wW(a:n<=m)(h:b (.Zn (m - n)) H):j4 C d (xi .Sub) H [.Zn m,.Zn n] b:=by
 focus
  show xj (by rw[←Int.natCast_sub a];show h)
theorem lO{C:Cx}{d:Nat}{H:Hp}{a:e_}{v:V}{l:List V}{k:Int}{u:V}{Q:V->Hp->Prop}(b:YJ H v=Zs (.list l))(h:Q u H)(c:autoParam (l[k.toNat]?=Zs u) aR)(e:autoParam (0<=k) aD)(f:autoParam (k<2^62) aD):j4 C d (vU a) H [v,.int k] Q:=by
 focus
  show vV e b c f h
theorem wX(a:H[i]?=Zs (.list l))(h:b (H.set i (.list (l.set k.toNat u))))(c:autoParam (k<l.length) aS)(e:autoParam (0<=k) aD)(f:autoParam (k<2^62) aD):Es C d zk H [.ref i,.int k,u] b:=by
 focus
  show vW e a c f h
theorem c_(l:List Nat):V.fv (l.map V.Zn)=true:=V.dF (λa=>rfl) l
theorem pC(h:v.pure=true)(k:V.fv l=true):V.fv (v::l)=true:=My h k
theorem Gi(l:List Int):V.fv (l.map V.int)=true:=V.dF (λa=>rfl) l
theorem iG(l:List Str):V.fv (l.map V.str)=true:=V.dF (λa=>rfl) l
theorem mq(l:List Bool):V.fv (l.map V.bool)=true:=V.dF (λa=>rfl) l
noncomputable abbrev VQ:=V->Hp->Prop
noncomputable abbrev FQ:=Fl->YK->Hp->Prop
section
variable(C:Cx)(d:Nat)(Y:nu)(U:YK)
@[reducible] noncomputable def zO(op:List Value->Bk Value)(a:V)(Q:VQ):VQ:=λb c=>j4 C d op c [a,b] Q
@[reducible] noncomputable def zR(r:e_)(b:List Value->Bk Value)(Q:VQ):VQ:=λa H1=>fL C d Y U H1 r (zO C d b a Q)
@[reducible] noncomputable def zB(Q:Bool->Hp->Prop):VQ:=λv a=>∃t,v= .bool t/\Q t a
@[reducible] noncomputable def zN(Q:Bool->Hp->Prop):Bool->Hp->Prop:=λb a=>Q (!b) a
@[reducible] noncomputable def zT(Q:Bool->Hp->Prop):VQ:=λv a=>AB C d a v Q
@[reducible] noncomputable def zF(b o:e_)(Q:VQ):Bool->Hp->Prop:=λc a=>if c then fL C d Y U a b Q else fL C d Y U a o Q
@[reducible] noncomputable def zV(v:V)(Q:List V->Hp->Prop):List V->Hp->Prop:=λa b=>Q (v::a) b
@[reducible] noncomputable def zA(a:List e_)(Q:List V->Hp->Prop):VQ:=λv H1=>wJ C d Y U H1 a (zV v Q)
@[reducible] noncomputable def WJ(Q:VQ):List V->Hp->Prop:=λa b=>aa a<=1000/\Q (.Zo .tup a) b
@[reducible] noncomputable def zL(Q:VQ):List V->Hp->Prop:=λa b=>aa a<=1000/\Q (.ref (aa b)) (b++[.list a])
@[reducible] noncomputable def zU(a v:V)(Q:YK->Hp->Prop):VQ:=λb c=>Es C d zk c [a,b,v] (Q U)
@[reducible] noncomputable def zS(i:e_)(v:V)(Q:YK->Hp->Prop):VQ:=λa H1=>fL C d Y U H1 i (zU C d U a v Q)
@[reducible] noncomputable def XT(t:e_)(Q:FQ):VQ:=λv H1=>tR C d Y U H1 t v (Q .next)
@[reducible] noncomputable def zE(Q:FQ):VQ:=λb a=>Q .next U a
@[reducible] noncomputable def zI(b o:List kh)(Q:FQ):Bool->Hp->Prop:=λc a=>if c then gM C d Y U a b Q else gM C d Y U a o Q
@[reducible] noncomputable def XU(Q:FQ):VQ:=λv a=>Q (.ret v) U a
@[reducible] noncomputable def zC(rest:List kh)(Q:FQ):FQ:=λf a b=>match f with| .next=>gM C d Y a b rest Q|f=>Q f a b
@[reducible] noncomputable def WK(c:Addr)(name:String)(Q:VQ):VQ:=λa H1=>∃l v,YN H1 a=Zs (c,dz l)/\l.lookup name=Zs v/\Q v H1
@[reducible] noncomputable def VO(f:Value)(Q:VQ):List V->Hp->Prop:=λa b=>gh C d f b a Q
@[reducible] noncomputable def Q2(f:Value)(a:V)(Q:VQ):List V->Hp->Prop:=λb c=>gh C d f c (a::b) Q
@[reducible] noncomputable def zM(c:Addr)(name:String)(b:Addr)(args:List e_)(Q:VQ):VQ:=λa H1=>∃l,YN H1 a=Zs (c,dz l)/\l.lookup name=Zt/\wJ C d Y U H1 args (Q2 C d (.ref b) a Q)
@[reducible] noncomputable def WL(name:Str)(args:List e_)(Q:VQ):VQ:=λa H1=>∃f,mU C H1 a name f/\Y5 C.K f=true/\wJ C d Y U H1 args (Q2 C d f a Q)
@[reducible] noncomputable def VP(Q:VQ):FQ:=λf b a=>∃v,PF f v/\Q v a
@[reducible] noncomputable def Q3(b:List kh)(Q:FQ):YK->Hp->Prop:=λa c=>gM C d Y a c b Q
@[reducible] noncomputable def Q4(I:Nat->YK->Hp->Prop)(k:Nat)(Q:FQ):FQ:=oJ I k Q
@[reducible] noncomputable def zW(I:Nat->YK->Hp->Prop)(n:Nat)(Q:FQ):FQ:=λf a b=>match f with
 | .next| .cont=>∃m c,m<n/\Sub c a/\I m c b
 | .brk=>Q .next a b
 | .ret v=>Q (.ret v) a b
@[reducible] noncomputable def XW(b:List kh)(I:Nat->YK->Hp->Prop)(n:Nat)(a:YK)(Q:FQ):Bool->Hp->Prop:=λt H1=>if t then gM C d Y a H1 b (zW I n Q) else Q .next a H1
@[reducible] noncomputable def Nm(H:Hp)(Q:V->Prop):VQ:=λv a=>∃ext t,a=H++ext/\fE (λi=>aa H<=i) a v t/\Q t
end
section
variable{C:Cx}{d:Nat}{Y:nu}{U:YK}{H:Hp}
theorem wBin(h:fL C d Y U H l (zR C d Y U r (xi a) Q)):fL C d Y U H (.BinOp l a r pos) Q:=by
 focus
  show MG h
theorem wCmp{l r:e_}{a:WW}{b:Pos}{Q:VQ}(h:fL C d Y U H l (zR C d Y U r (λxs=>match xs with|[x,y]=>eZ a x y|_=>pure .none) Q))(c:autoParam (yr a r=false) aU):fL C d Y U H (.Compare l [a] [r] b) Q:=by
 focus
  show MJ h c
theorem tCmp{l r:e_}{a:WW}{b:Pos}{Q:Bool->Hp->Prop}(h:fL C d Y U H l (zR C d Y U r (λxs=>match xs with|[x,y]=>eZ a x y|_=>pure .none) (zB Q)))(c:autoParam (yr a r=false) aU):q8 C d Y U H (.Compare l [a] [r] b) Q:=by
 focus
  show MK h c
theorem tNot(h:q8 C d Y U H x (zN Q)):q8 C d Y U H (.UnaryOp .Not x pos) Q:=by
 focus
  show ML h
theorem qR(h:fL C d Y U H e (zT C d Q))(a:autoParam (vh e=true) aT):q8 C d Y U H e Q:=by
 focus
  show MM h a
theorem wIf(h:q8 C d Y U H t (zF C d Y U b o Q)):fL C d Y U H (.IfExp t b o pos) Q:=by
 focus
  show HD h
theorem aCons{C d Y U H a e Q}(h:fL C d Y U H e (zA C d Y U a Q))(b:autoParam (YL e=true) aT):wJ C d Y U H (e::a) Q:=by
 focus
  show AE h b
theorem wTup(h:wJ C d Y U H a (WJ Q)):fL C d Y U H (.Tuple a k pos) Q:=by
 focus
  show HE h
theorem wLst(h:wJ C d Y U H a (zL Q)):fL C d Y U H (.List a pos) Q:=by
 focus
  show Er h
theorem wSub{b a:e_}{c:Pos}{Q:VQ}(h:fL C d Y U H b (zR C d Y U a (vU a) Q)):fL C d Y U H (.Subscript b a c) Q:=by
 focus
  show MX h
theorem aSub(h:fL C d Y U H o (zS C d Y U i v Q)):tR C d Y U H (.Subscript o i pos) v Q:=by
 focus
  show MN h
theorem sAs(h:fL C d Y U H a (XT C d Y U t Q))
  (b:autoParam (G5 [t] a pos.line Y=pure false) aQ)(c:autoParam (G6 [t] a Y=pure Zt) aN)(e:autoParam (kU t=true) aT):pd C d Y U H (.Assign [t] a pos) Q:=by
 focus
  show FD h b c e
theorem sEx(h:fL C d Y U H e (zE U Q))(a:autoParam (interactive Y=false) aF)(b:autoParam (Rc e Zt pos.line Y=pure false) aQ):pd C d Y U H (.Expr e pos) Q:=by
 focus
  show Ko h a b
theorem sIf(h:q8 C d Y U H t (zI C d Y U b o Q)):pd C d Y U H (.If t b o pos) Q:=by
 focus
  show PB h
theorem sRt(h:fL C d Y U H e (XU U Q)):pd C d Y U H (.Return (Zs e) pos) Q:=by
 focus
  show MP h
theorem xCons{C d Y Q H U rest st}(h:pd C d Y U H st (zC C d Y rest Q)):gM C d Y U H (st::rest) Q:=by
 focus
  show uB h
theorem y4(O:fy C a i)(b:Bt C a j c e)(h:fL C d Y U H o (WK c name Q))(f:autoParam (e.contains name=true) aT)
  (g:autoParam (kg o (ah name) Y (eval o Y)=eval o Y) aR):fL C d Y U H (.Attribute o (ah name) pos) Q:=by
 focus
  show PQ O b h f g
theorem cV{C a f d g c b x e l Y H U name v i pos Q}(O:fy C a f)(j:Bt C a g c b)(k:U.lookup x=Zs e)(m:b.contains name=true)(n:YN H e=Zs (c,dz l))
  (o:l.lookup name=Zs v)(h:Q v H)(p:autoParam ((ah x==("__debug__":Str))=false) aF)(q:autoParam ((ah x==("__classdict__":Str))=false) aF):fL C d Y U H (.Attribute (.Name (ah x) i) (ah name) pos) Q:=by
 focus
  show y4 O j (ev_name k ⟨l,v,n,o,h⟩ p q) m rfl
theorem iL{C a f g c i d Y U H o name b e pos args Q}(O:fy C a f)(j:Bt C a g c i)(M:H9 C c name b)
  (h:fL C d Y U H o (zM C d Y U c name b args Q))
  (k:autoParam (args.all YL=true) aT)(l:autoParam (decide (aa args<30)=true) aT)(m:autoParam ((e.endLine==pos.line)=true) aT)
  (n:autoParam (kg o (ah name) Y (eval o Y)=eval o Y) aR):fL C d Y U H (.Call (.Attribute o (ah name) e) args [] pos) Q:=by
 focus
  show Nc O j M h k l m n
theorem jd{C b c d name Y args o a pos U Q H}(O:fy C b c)
  (h:fL C d Y U H o (WL C d Y U name args Q))
  (e:autoParam (args.all YL=true) aT)(f:autoParam (decide (aa args<30)=true) aT)(g:autoParam ((a.endLine==pos.line)=true) aT)
  (i:autoParam (kg o name Y (eval o Y)=eval o Y) aR):fL C d Y U H (.Call (.Attribute o name a) args [] pos) Q:=by
 focus
  show Ew O h e f g i
theorem ik{C a c e d name n b Y U H f pos args Q}(O:fy C a c)(g:qn C a name n e b)
  (h:wJ C d Y U H args (VO C d (.ref b) Q))(i:autoParam (Y.kindOf (ah name)=Zs .globalImplicit) aG)(j:autoParam (args.all YL=true) aT)
  (k:autoParam ((ah name==("__debug__":Str))=false) aF):fL C d Y U H (.Call (.Name (ah name) f) args [] pos) Q:=by
 focus
  show It O g h i j k
theorem eF{C a b d name v Y U H c pos args Q}(O:fy C a b)(B:wV a b name v)
  (h:wJ C d Y U H args (VO C d v Q))(e:autoParam (Y5 C.K v=true) aT)(f:autoParam (Y.kindOf (ah name)=Zs .globalImplicit) aG)(g:autoParam (args.all YL=true) aT)
  (i:autoParam ((ah name==("__debug__":Str))=false) aF):fL C d Y U H (.Call (.Name (ah name) c) args [] pos) Q:=by
 focus
  show Iu O B h e f g i
theorem A8(O:fy C b j)(e:Bt C b a c k)
  (h:wJ C d Y U H args (VO C d (.ref c) Q))(f:autoParam (Y.kindOf (ah a)=Zs .globalImplicit) aG)(g:autoParam (args.all YL=true) aT)
  (i:autoParam ((ah a==("__debug__":Str))=false) aF):fL C d Y U H (.Call (.Name (ah a) l) args [] pos) Q:=by
 focus
  show Iw O e h f g i
theorem gT{C mg mb d H fa st vs Q}(O:fy C mg mb)(b:N1 C st [] fa)(a:List String)
  (h:∀c e L,gM C d (Y8 (lN st) c e L fa) (a.zip vs) H (uM st) (VP Q))
  (f:oR (EI st) (uM st) (lN st) (aa vs) a [] [])(g:autoParam (aa a=aa vs) aR)(i:autoParam (PV st a=true) aT):dq C (d+1) (.ref fa) H vs Q:=by
 focus
  show Iy O b a h f g i
theorem ot(h:dq C d f H a (Nm H Q)):dq C d f H a λt b=>Q t/\b=H:=by
 focus
  show Ir h
theorem v3{e:Type}(f:e->V)(l:List e)(Inv:Nat->YK->Hp->Prop)
  (h:fL C d Y U H g λv H1=>(∃b,Sub b U/\Inv 0 b H1)/\∀k b c,Inv k b c->YJ c v=Zs (.list (l.map f)))
  (i:∀k a b c,l[k]?=Zs a->Inv k b c->tR C d Y b c j (f a) (Q3 C d Y m (Q4 Inv k Q)))
  (n:∀b c,Inv (aa l) b c->Q .next b c)
  (o:autoParam (∀x,de g Y x=pure x) aP):pd C d Y U H (.For j g m [] pos) Q:=by
 focus
  show KD f l Inv h i n o
theorem Q5{e:Type}(f:e->V)(l:List e)(Inv:Nat->YK->Hp->Prop)
  (h:fL C d Y U H g λv H1=>(∃b,Sub b U/\Inv 0 b H1)/\v= .Zo .tup (l.map f))
  (i:∀k a b c,l[k]?=Zs a->Inv k b c->tR C d Y b c j (f a) (Q3 C d Y m (Q4 Inv k Q)))
  (n:∀b c,Inv (aa l) b c->Q .next b c)
  (o:autoParam (∀x,de g Y x=pure x) aP):pd C d Y U H (.For j g m [] pos) Q:=by
 focus
  show KH f l Inv h i n o
theorem N2(n:Nat)(Inv:Nat->YK->Hp->Prop)
  (h:fL C d Y U H c λv H1=>(∃a,Sub a U/\Inv 0 a H1)/\n<=1000000/\v= .Zo (.wI n) [])
  (e:∀k a b,k<n->Inv k a b->tR C d Y a b f (.int k) (Q3 C d Y g (Q4 Inv k Q)))
  (i:∀a b,Inv n a b->Q .next a b)
  (j:autoParam (∀x,de c Y x=pure x) aP):pd C d Y U H (.For f c g [] pos) Q:=by
 focus
  show KI n Inv h e i j
theorem XY(O:fy C t u){g:Type}(f:g->V)(l:List g)(Inv:Nat->YK->Hp->Prop)
  (j:Km C Y U (.Name x i) (.type "reversed"))
  (h:fL C d Y U H e λv H1=>(∃b,Sub b U/\Inv 0 b H1)/\aa l<=1000000/\v= .Zo .tup (l.map f))
  (m:∀k a b c,l.reverse[k]?=Zs a->Inv k b c->tR C d Y b c n (f a) (Q3 C d Y o (Q4 Inv k Q)))
  (p:∀b c,Inv (aa l) b c->Q .next b c)(q:autoParam (YL e=true) aT)
  (r:autoParam (∀y,de (.Call (.Name x i) [e] [] s) Y y=pure y) aI):pd C d Y U H (.For n (.Call (.Name x i) [e] [] s) o [] pos) Q:=by
 focus
  show KJ O f l Inv j h m p q r
theorem JA(I:Nat->YK->Hp->Prop)
  (b:∀n a H,I n a H->q8 C d Y a H c (XW C d Y e I n a Q))
  (n:Nat)(a:YK)(f:Sub a U)(h:I n a H):pd C d Y U H (.While c e [] pos) Q:=by
 focus
  show Nb I b n a f h
end
theorem sR1{H:Hp}{a:YF}:Zs (V.ref (H++[a]).length)=Zs (V.ref (aa H+1)):=by rw[bC];rfl
theorem sR2{H:Hp}{a b:YF}:Zs (V.ref (H++[a]++[b]).length)=Zs (V.ref (aa H+2)):=by rw[bC,bC];rfl
theorem sR3{H:Hp}{a b c:YF}:Zs (V.ref (H++[a]++[b]++[c]).length)=Zs (V.ref (aa H+3)):=by rw[bC,bC,bC];rfl
theorem Cg:YJ (a++c::r) (.ref (aa a))=Zs c:=aH (ax _)|>.trans (by rw[gP];rfl)
theorem WM:YJ (a++[c]++r) (.ref (aa a))=Zs c:=by rw[av];show Cg
section
variable{C:Cx}{d:Nat}{Y:nu}{U:YK}{H:Hp}
theorem pV{Q:VQ}{v:V}(k:Q v H):∀u a,u=v/\a=H->Q u a:=λ_ _ ⟨e,b⟩=>e▸b▸k
theorem XZ{Q:VQ}{b:Type}{v:b->V}(k:∀x,Q (v x) H):∀u a,(∃x,u=v x)/\a=H->Q u a:=λ_ _ ⟨⟨_,e⟩,c⟩=>e▸c▸k _
theorem Ci{Q:VQ}{b:Type}{v:b->V}{p:b->Prop}(k:∀x,p x->Q (v x) H):∀u c,(∃x,u=v x/\p x)/\c=H->Q u c:=λ_ _ ⟨⟨_,e,a⟩,d⟩=>e▸d▸k _ a
theorem Q6{Q:VQ}{c:Type}{v:c->V}{p q:c->Prop}(k:∀x,p x->q x->Q (v x) H):∀u d,(∃x,u=v x/\p x/\q x)/\d=H->Q u d:=λ_ _ ⟨⟨_,e,a,b⟩,f⟩=>e▸f▸k _ a b
theorem Yt{Q:VQ}{d:Type}{v:d->V}{p q r:d->Prop}(k:∀x,p x->q x->r x->Q (v x) H):∀u f,(∃x,u=v x/\p x/\q x/\r x)/\f=H->Q u f:=λ_ _ ⟨⟨_,e,a,b,c⟩,g⟩=>e▸g▸k _ a b c
theorem qS(a:YK)(b:Sub a c)(h:I (k+1) a H):oJ I k Q .next c H:=⟨a,b,h⟩
theorem X9(a:YK)(b:Sub a c)(h:I (k+1) a H):oJ I k Q .cont c H:=⟨a,b,h⟩
theorem GV(m:Nat)(a:YK)(b:m<n)(c:Sub a e)(h:I m a H):zW I n Q .next e H:=⟨m,a,b,c,h⟩
theorem X_(m:Nat)(a:YK)(b:m<n)(c:Sub a e)(h:I m a H):zW I n Q .cont e H:=⟨m,a,b,c,h⟩
theorem Yu{I:Nat->YK->Hp->Prop}(a:YK)(b:Sub a U)(h:I 0 a H):∃a,Sub a U/\I 0 a H:=⟨a,b,h⟩
theorem Yv(f:fE (λi=>aa a<=i) (a++ext) v t)(q:Q t):Nm a Q v (a++ext):=⟨ext,t,rfl,f,q⟩
theorem Yw(h:Q v H):VP Q (.ret v) U H:=⟨v,rfl,h⟩
theorem lD(h:Q t H):zB Q (.bool t) H:=⟨t,rfl,h⟩
theorem qo(a:YN H b=Zs (c,dz l))(e:l.lookup name=Zs v)(h:Q v H):WK c name Q b H:=⟨l,v,a,e,h⟩
theorem oL(b:YN H a=Zs (c,dz l))(e:l.lookup name=Zt)(h:wJ C d Y U H args (Q2 C d (.ref f) a Q)):zM C d Y U c name f args Q a H:=by
 focus
  show⟨l,b,e,h⟩
theorem jl(b:mU C H a name f)(c:Y5 C.K f=true)(h:wJ C d Y U H args (Q2 C d f a Q)):WL C d Y U name args Q a H:=by
 focus
  show⟨f,b,c,h⟩
theorem sV(h:Q (.Zo .tup a) H)(b:autoParam (Rm (aa a) 1000=true) aT):WJ Q a H:=⟨tN b,h⟩
theorem qI(h:Q (.ref (aa H)) (H++[.list a]))(b:autoParam (Rm (aa a) 1000=true) aT):zL Q a H:=⟨tN b,h⟩
theorem Yx(f:fE (λi=>aa a<=i) (a++ext) v t)(q:Q t):VP (Nm a Q) (.ret v) U (a++ext):=⟨v,rfl,ext,t,rfl,f,q⟩
end
noncomputable def cR:Addr:=127
noncomputable def cG:Addr:=209
noncomputable def cL:Addr:=302
noncomputable def cS:Addr:=351
noncomputable def cC:Addr:=393
noncomputable def cA:Addr:=470
noncomputable def cB:Addr:=512
noncomputable abbrev xM:Str:=ah "$end"
noncomputable abbrev Nn:Str:=ah "error"
noncomputable abbrev Np:Str:=ah "$undefined"
set_option genInjectivity false
structure Cs(C:Cx)(mg:Str->Option Value):Prop where
 KR:Bt C mg "Rule" cR ["number","left","right","level_of","action","line","before"]
 KG:Bt C mg "Grammar" cG ["names","terminal_count","rules","levels","expect","start","by_left","offsets","owners","item_count"]
 KL:Bt C mg "Lookaheads" cL ["automaton","nullables","transitions","index","direct","reads","includes","turns","lookback","read_masks","follow_masks","masks"]
 KS:Bt C mg "LrState" cS ["number","kernel","symbol","items","moves","reductions"]
 KC:Bt C mg "Closer" cC ["grammar","firsts"]
 KA:Bt C mg "Automaton" cA ["grammar","states"]
 KB:Bt C mg "Builder" cB ["grammar","closer","states","numbers"]
structure Fx(C:Cx)(mg mb:Str->Option Value):Prop where
 spread:qn C mg "spread" 2 [] 26
 nullable:qn C mg "nullable" 3 [] 33
 firstOf:qn C mg "first_of" 4 [] 40
 qp:qn C mg "first_masks" 5 [] 47
 rB:qn C mg "follow_masks" 6 [] 54
 transitive:qn C mg "transitive" 7 [] 61
 bits:qn C mg "bits" 11 [] 108
 uO:qn C mg "last_terminal" 17 [] 220
 plain:qn C mg "plain_grammar" 18 [.none] 226
 digraph:qn C mg "digraph" 20 [] 233
 rings:qn C mg "rings" 21 [] 238
 xN:qn C mg "mask_behind" 22 [] 245
 si:qn C mg "add_once" 24 [] 313
 WN:qn C mg "is_lr_k_none" 25 [] 320
 advanced:qn C mg "advanced" 30 [] 404
 EK:qn C mg "kernels_behind" 31 [] 411
 complete:qn C mg "complete_rules" 32 [] 418
 build:qn C mg "build" 35 [] 523
 pen:qn C mg "_law_pen" 37 [] 530
 draw:qn C mg "_law_draw" 38 [] 537
 Zr:qn C mg "_law_rules" 39 [] 542
 uP:qn C mg "_law_shuffled" 40 [] 549
 mask:qn C mg "_law_mask" 41 [] 556
 sets:qn C mg "_law_sets_agree" 42 [] 561
 states:qn C mg "_law_states" 43 [] 566
 Cj:qH C cR "__init__" 15 0 [.int (-1) 344,.none,.int 0 345,.int 0 346] 124
 xO:qH C cG "__init__" 16 0 [] 143
 jf:qH C cG "symbol_count" 16 1 [] 150
 isTerminal:qH C cG "is_terminal" 16 2 [] 157
 number:qH C cG "number" 16 4 [] 171
 wY:qH C cG "rules_of" 16 5 [] 178
 item:qH C cG "item" 16 6 [] 185
 oX:qH C cG "rule_of" 16 7 [] 192
 zH:qH C cG "dot_of" 16 8 [] 199
 after:qH C cG "after" 16 9 [] 206
 xP:qH C cL "__init__" 23 0 [] 257
 Ck:qH C cL "number_transitions" 23 1 [] 264
 zJ:qH C cL "find_reads" 23 2 [] 271
 uQ:qH C cL "find_includes" 23 3 [] 278
 openEnds:qH C cL "open_ends" 23 4 [] 285
 joined:qH C cL "joined_masks" 23 5 [] 292
 vu:qH C cS "__init__" 28 0 [] 334
 zK:qH C cS "goto" 28 1 [] 341
 t5:qH C cC "__init__" 29 0 [] 369
 wanted:qH C cC "wanted" 29 1 [] 376
 added:qH C cC "added" 29 2 [] 383
 close:qH C cC "close" 29 3 [] 390
 A9:qH C cA "__init__" 33 0 [] 432
 sj:qH C cA "goto" 33 1 [] 439
 rC:qH C cB "__init__" 34 0 [] 488
 numberOf:qH C cB "number_of" 34 1 [] 495
 expand:qH C cB "expand" 34 2 [] 502
 built:qH C cB "built" 34 3 [] 509
 uR:wV mg mb "list" (.type "list")
 Iz:wV mg mb "tuple" (.type "tuple")
 VR:wV mg mb "int" (.type "int")
 mu:wV mg mb "range" (.type "range")
 zP:wV mg mb "reversed" (.type "reversed")
 qq:wV mg mb "enumerate" (.type "enumerate")
 LS:wV mg mb "dict" (.type "dict")
 jm:wV mg mb "len" (.builtin "len")
 VS:wV mg mb "abs" (.builtin "abs")
 Nq:wV mg mb "max" (.builtin "max")
 jF:wV mg mb "sorted" (.builtin "sorted")
 PW:mg (ah "END")=Zs (.int 0 325)
 LU:mg (ah "NONE")=Zs (.int (-1) 666)
structure K2(C:Cx)(mg:Str->Option Value):Prop where
 ex:∃a n t0 t1 t2,mg (ah "OWN_TERMINALS")=Zs (.ref a)/\C.h0.get? a=Zs (gR [.str xM t0,.str Nn t1,.str Np t2] n)
set_option genInjectivity true
noncomputable def IA(a:Cx)(b c:Str->Option Value):Prop:=fy a b c->Cs a b->Fx a b c->K2 a b->∀(d:Addr) (v:V) (l:List Int),qn a b "law" 44 [] d->(∀T,YJ T v=Zs (.list (l.map V.int)))->aa l<=1000000->dq a 9 (.ref d) [] [v] λu e=>u= .bool true
noncomputable def Nr:Cx×(Str->Option Value)×(Str->Option Value):=ep3 neCx inferInstance inferInstance IA
@[irreducible] noncomputable def C:Cx:=Nr.1
@[irreducible] noncomputable def mg:Str->Option Value:=Nr.2.1
@[irreducible] noncomputable def mb:Str->Option Value:=Nr.2.2
theorem IA.all(h:IA C mg mb):∀a b c,IA a b c:=by unfold C mg mb at h;show epI3 _ _ _ h
section
variable{H:Hp}
noncomputable def YS(l:List Nat):Nat:=l.foldl (λm y=>m|||(1<<<y)) 0
theorem Cm{l:List Nat}{k a:Nat}(h:l[k]?=Zs a):YS (l.take (k+1))=YS (l.take k)|||(1<<<a):=by unfold YS;rw[YG h,eJ];rfl
theorem vv(O:fy C mg mb){e:Addr}(g:qn C mg "mask_behind" 22 [] e){v:V}{l:List Nat}(h:YJ H v=Zs (.list (l.map V.Zn)))(i:∀y∈l,y<=1000000):
  dq C 1 (.ref e) H [v] λu c=>u= .Zn (YS l)/\c=H:=by
 exact gT O g.f ["row"] (λn o L=>?_) (YT λb b b b b b b b=>rfl)
 exact(?_:gM C 0 _ [("row",v)] H _ _)
 cbv
 let j:Nat->YK->Hp->Prop:=λk d c=>c=H/\d=[("row",v),("mask",.Zn (YS (l.take k)))]
 exact v3 V.Zn l j ?_ ?_ ?_
 walk_at "q";exact⟨⟨_,?_,rfl,rfl⟩,by intro k d c;apply LB;intro m;clear m;show h⟩;walk_at "q sub"
 intro k a d c f;apply ja;cbv;exact uN (i _ (ai f)) (kN ?_);cbv;exact fP _ ?_ rfl rfl;rw[Cm f];walk_at "q sub"
 intro d c;apply ja;cbv;show fP _ rfl (by rw[bJ]) rfl
theorem A_(O:fy C mg mb){g:Addr}(i:qn C mg "_law_pen" 37 [] g)(j:wV mg mb "abs" (.builtin "abs"))(o:wV mg mb "int" (.type "int")){v:V}{l:List Int}(p:YJ H v=Zs (.list (l.map V.int)))(q:aa l<=1000000):
  dq C 1 (.ref g) H [v] λu c=>∃n:Nat,u= .ref (aa H+1)/\c=H++[.list ((l.take 63).map .int),.list [.Zn n,.Zn 0]]:=by
 walk_at "@H g v l|O i j o p q"
 exact gT O i.f ["script"] (λz A L=>?_) (YT λb b b b b b b b=>rfl)
 exact(?_:gM C 0 _ [("script",v)] H _ _)
 cbv
 have t:YJ (H++[.list ((l.take 63).map .int)]) (.ref (aa H))=Zs (.list ((l.take 63).map V.int)):=Cg
 let w:Nat->YK->Hp->Prop:=λk d c=>c=H++[.list ((l.take 63).map .int)]/\∃n:Int,0<=n/\d=[("number",.int n)]
 exact v3 V.int (l.take 63) w ?_ ?_ ?_
 exact AO ?_;cbv;exact Hn _ 63 p rfl ⋯ (by simpa using q) ⟨_,?_,?_,1,by decide,rfl⟩ (by intro k d c;apply LB;intro h;clear h;show t);walk_at "q sub";simp
 intro k a d c B;ext _ rfl x;ext x⟨n⟩e rfl;cbv;exists Dh (IntMulOk.of_right ⋯);exists eF O j;exists eF O o;exact Dt ?_;cbv;exact Du (Dh (GQ ⋯) (AK ?_));cbv;exact qC (lD ?_);have r:∀m:Int,0<=m->∃s,Sub s (YV (YV [("number",V.int n)] "cell" (V.int a)) "number" (V.int m))/\((H++[YF.list ((l.take 63).map V.int)])=H++[YF.list ((l.take 63).map V.int)]/\∃n:Int,0<=n/\s=[("number",V.int n)]):=λm y=>⟨[("number",V.int m)],⟨rfl,trivial⟩,rfl,m,y,rfl⟩;by_cases f:a<0;apply fY (decide_eq_true f);exact ev_int (AK ?_);cbv;show r _ (by split<;>first|show XI e f|contradiction);apply eU (decide_eq_false f);exact ev_int (AK ?_);cbv;show r _ (by split<;>first|show XJ e f|contradiction)
 intro d c;ext _ rfl h;ext h⟨n⟩e rfl;cbv;exact⟨by simp,_,rfl,n.toNat,by simp,?_⟩;simp[Int.toNat_of_nonneg e]
noncomputable abbrev fM(n c:Nat):YF:=.list [.Zn n,.Zn c]
theorem jz(O:fy C mg mb)(r:qn C mg "_law_draw" 38 [] o)(d:H[i]?=Zs (fM n c))(m:0<b)(s:b<=1000)(t:c<=100000):
  dq C 1 (.ref o) H [.ref i,.Zn b] λu p=>∃g q h,g<b/\h<=c+1/\u= .Zn g/\p=H.set i (fM q h):=by
 walk_at "@H o i n c b|O r d m s t"
 exact gT O r.f ["pen","many"] (λD E L=>?_) (jx λa a a a a a a a a=>rfl)
 exact(?_:gM C 0 _ [("pen",V.ref i),("many",V.Zn b)] H _ _)
 have w:=(ae.mp d).1
 have y:∀(H1:Hp) (j k:Nat),H1[i]?=Zs (fM j k)->k<=c+1->(∀x,H1.set i x=H.set i x)->gM C 0 (Y8 (lN (Zf 38)) D E L o) [("pen",V.ref i),("many",V.Zn b)] H1 (uM (Zf 38)).tail
   λf a p=>∃v,PF f v/\∃g q h,g<b/\h<=c+1/\v= .Zn g/\p=H.set i (fM q h):=by
  intro H1 j k z G I
  have l:YJ H1 (.ref i)=Zs (.list [.Zn j,.Zn k]):=z
  cbv
  exists lO l
  exists EJ m
  exists lO l
  exists K0 m (aZ s ⋯)
  exists wX z
  show⟨_,rfl,j % b,j / b,k,Xa _ m,G,rfl,I _⟩
 have l:YJ H (.ref i)=Zs (.list [.Zn n,.Zn c]):=d
 cbv
 exists lO l
 exact qC (lD ?_)
 exact WC (λ_=>?_) λ_=>?_
 cbv;exists lO l;exact jy ?_;cbv;apply wX d;have A:(H.set i (.list [V.Zn n,V.Zn (c+1)]))[i]?=Zs (fM n (c+1)):=bO w;have B:YJ (H.set i (.list [V.Zn n,V.Zn (c+1)])) (.ref i)=Zs (.list [V.Zn n,V.Zn (c+1)]):=A;walk_at "q";walk_at "q";walk_at "q";walk_at "q";walk_at "q";walk_at "q";walk_at "q";exists lO B;exists oI (n:=104729);exists lO B;exact HT ⋯ ⋯ (by simp;show(show _+1<_ from aZ (bp t 1) ⋯)) (Dh (GQ ⋯) ?_);have e:(7919:Int)*((c+1:Nat):Int)^(5:Int).toNat=((7919*(c+1)^5:Nat):Int):=by rfl
 rw[e];exact oI ?_;cbv;apply wX A;exact ex_nil ?_;exact y _ (n+104729+7919*(c+1)^5) (c+1) ?_ (ax _) λx=>?_;show bO (by simpa using w);simp
 exact ex_nil ?_;show y H n c d (aW _ _) λa=>rfl
end
structure Gr where
 names:List Str
 tc:Nat
 Zr:List Rl
 start:Nat
theorem neGr:Nonempty Gr:=⟨⟨[],0,[],0⟩⟩
noncomputable def Gr.off(g:Gr)(r:Nat):Nat:=kZ g.Zr r
noncomputable def Gr.owners(g:Gr):List Nat:=ez g.Zr 0
noncomputable def Gr.lefts(g:Gr)(s:Nat):List Nat:=dg s g.Zr 0
noncomputable def Gr.item(g:Gr)(r d:Nat):Nat:=g.off r+d
noncomputable def Gr.owner(g:Gr)(i:Nat):Nat:=g.owners[i]?.getD 0
noncomputable def Gr.dot(g:Gr)(i:Nat):Nat:=i - g.off (g.owner i)
noncomputable def Gr.rule(g:Gr)(r:Nat):Rl:=g.Zr[r]?.getD ⟨0,[],0⟩
noncomputable def Gr.after(g:Gr)(i:Nat):Option Nat:=(g.rule (g.owner i)).Zq[g.dot i]?
noncomputable def gn(p:Rl×Nat):V:=xr cR [("number",.Zn p.2),("left",.Zn p.1.Zl),("right",.Zo .tup (p.1.Zq.map .Zn)),("level_of",.int p.1.level),("action",.none),("line",.int 0),("before",.int 0)]
noncomputable def LV(g:Gr):YK:=[("names",.Zo .list (g.names.map .str)),("terminal_count",.Zn g.tc),("rules",.Zo .list (g.Zr.zipIdx.map (gn))),("levels",.Zo (.dict []) []),("expect",.none),("start",.Zn g.start),
 ("by_left",.Zo .list ((aJ (aa g.names)).map λs=>.Zo .list ((g.lefts s).map .Zn))),("offsets",.Zo .list ((aJ (aa g.Zr)).map λr=>.Zn (g.off r))),("owners",.Zo .list (g.owners.map .Zn)),("item_count",.Zn (aa g.owners))]
noncomputable def cO(g:Gr):V:=xr cG (LV g)
structure mw(g:Gr):Prop where
 n:aa g.names<=1000
 t:g.tc<=aa g.names
 r:aa g.Zr<=1000
 Zl:∀r∈g.Zr,r.Zl<aa g.names
 Zq:∀r∈g.Zr,∀s∈r.Zq,s<aa g.names
 len:∀r∈g.Zr,aa r.Zq<=100
theorem Gr.ee{g:Gr}{i:Nat}(h:i<aa g.owners):∃r,g.Zr[g.owner i]?=Zs r/\g.off (g.owner i)<=i/\g.dot i<r.len/\g.owners[i]?=Zs (g.owner i)/\g.owner i<aa g.Zr/\g.rule (g.owner i)=r:=by
 have l:=h;unfold Gr.owners at h;rw[qk] at h;exact E33 (DE (k:=0) h) λj d r b e c=>?_;have f:g.owners[i]?=Zs j:=by have:=xH (k:=0) b e c;rw[bK] at this;show this
 have a:g.owner i=j:=by unfold Gr.owner;rw[f];rfl
 exact J6 r (by rw[a];show b) (by rw[a];unfold Gr.off;show Nat.le.intro (id (Eq.symm c))) (by unfold Gr.dot;rw[a];unfold Gr.off;show SJ c e) (by rw[a];show f) (by rw[a];show(ae.mp b).1) (by rw[a];unfold Gr.rule;rw[b];rfl)
theorem Gr.pO{g:Gr}{j d:Nat}{r:Rl}(h:g.Zr[j]?=Zs r)(c:d<r.len):g.item j d<aa g.owners/\g.owner (g.item j d)=j/\g.dot (g.item j d)=d:=by
 have a:=xH (k:=0) h c rfl;rw[bK] at a;have a:g.owners[g.item j d]?=Zs j:=a;have b:g.owner (g.item j d)=j:=by unfold Gr.owner;rw[a];rfl
 show⟨(ae.mp a).1,b,by unfold Gr.dot;rw[b];unfold Gr.item;show fh _ _⟩
theorem Cn(h:∀r∈a,aa r.Zq<=100):kZ a (aa a)<=101*aa a:=by
 induction a with
 |nil=>show ax _
 |cons r a b=>have:=h r (.head _);have:=b λr c=>h r (.tail _ c);simp only[wU,jn,Rl.len];show af (bW (bp ‹_› 1) this) (aX (cM _ _))
theorem mw.items(o:mw g):aa g.owners<=101000:=by unfold Gr.owners;rw[qk];have:=Cn o.len;have:=o.r;show af ‹_› (gy 101 this)
section
variable{H:Hp}
theorem bU(g:Gr)(H:Hp):YN H (cO g)=Zs (cG,dz (LV g)):=kO _ _ _
theorem dU(p:Rl×Nat)(H:Hp):YN H (gn p)=Zs (cR,dz [("number",.Zn p.2),("left",.Zn p.1.Zl),("right",.Zo .tup (p.1.Zq.map .Zn)),("level_of",.int p.1.level),("action",.none),("line",.int 0),("before",.int 0)]):=kO _ _ _
variable(O:fy C mg mb)(K:Cs C mg){g:Gr}
include O K
omit O K in
theorem fB{a b:Hp}{c:YF}:(a++c::b)[aa a]?=Zs c:=Mv
omit O K in
theorem mE{a b:Hp}{c d:YF}:(a++c::b).set (aa a) d=a++d::b:=OD
omit K in
theorem e9{d:Nat}{g:nu}{a:YK}{i:String}{c:Addr}{e:List String}(j:Bt C mg i c e){b f:Hp}{l:YK}{name:String}{k m:Pos}{v:V}{Q:YK->Hp->Prop}
  (h:Q a (b++.dict (dz (YV l name v))::f))(n:autoParam (a.lookup "self"=Zs (.obj c (aa b))) aR)(o:autoParam (Rm (aa l) 900=true) aT)(p:autoParam (e.contains name=true) aT):
  tR C d g a (b++.dict (dz l)::f) (.Attribute (.Name (ah "self") k) (ah name) m) v Q:=
 H_ O j (ev_name n ⟨_,l,rfl,fB,tN o,by rw[mE];show h⟩) p
omit K in
theorem Q7{d:Nat}{a:nu}{f:YK}{j:String}{c:Addr}{g:List String}(k:Bt C mg j c g){e i:Hp}{l:YK}{name:String}{b m:Pos}{v:V}{Q:V->Hp->Prop}
  (h:Q v (e++.dict (dz l)::i))(n:autoParam (l.lookup name=Zs v) aR)(o:autoParam (f.lookup "self"=Zs (.obj c (aa e))) aR)(p:autoParam (g.contains name=true) aT)
  (q:autoParam (kg (.Name (ah "self") b) (ah name) a (eval (.Name (ah "self") b) a)=eval (.Name (ah "self") b) a) aR):
  fL C d a f (e++.dict (dz l)::i) (.Attribute (.Name (ah "self") b) (ah name) m) Q:=
 y4 O k (ev_name o ⟨l,v,nN fB,n,h⟩) p q
theorem jG(b:qH C cG "symbol_count" 16 1 [] c)(d:wV mg mb "len" (.builtin "len"))(e:mw g):
  dq C 1 (.ref c) H [cO g] λu f=>u= .Zn (aa g.names)/\f=H:=by
 exact gT O b.f ["self"] (λh i L=>?_) (YT λa a a a a a a a=>rfl)
 exact(?_:gM C 0 _ [("self",cO g)] H _ _)
 cbv
 exists eF O d
 exists cV O K.KG rfl rfl (bU _ _) rfl
 show dm (l:=g.names.map .str) rfl (by have:=e.n;rw[aq];show o0 this) (fP _ rfl (by rw[aq]) rfl)
theorem jb(b:qH C cG "is_terminal" 16 2 [] c):
  dq C 1 (.ref c) H [cO g,.Zn s] λu d=>u= .bool (decide (s<g.tc))/\d=H:=by
 exact gT O b.f ["self","symbol"] (λe f L=>?_) (jx λa a a a a a a a a=>rfl)
 exact(?_:gM C 0 _ [("self",cO g),("symbol",.Zn s)] H _ _)
 cbv
 show cV O K.KG rfl rfl (bU _ _) rfl (qC (fP _ rfl (by simp) rfl))
theorem Co(c:qH C cG "number" 16 4 [] d)(e:mw g)(b:x∈g.names):
  dq C 1 (.ref d) H [cO g,.str x] λu h=>u= .Zn (g.names.idxOf x)/\h=H:=by
 exact gT O c.f ["self","name"] (λi j L=>?_) (jx λa a a a a a a a a=>rfl)
 exact(?_:gM C 0 _ [("self",cO g),("name",.str x)] H _ _)
 cbv
 exact cV O K.KG rfl rfl (bU _ _) rfl (Dk (f:=V.str) jE rfl (l:=g.names) rfl (lD (fY (decide_eq_true b) (jd O (cV O K.KG rfl rfl (bU _ _) rfl ⟨.builtin "list.index",md (l:=g.names.map .str) rfl,rfl,?_⟩)))))
 cbv
 show mf jE (f:=V.str) rfl (l:=g.names) rfl b (by have:=e.n;show o0 this) (fP _ rfl rfl rfl)
theorem vw(b:qH C cG "item" 16 6 [] c)(e:mw g)(f:r<aa g.Zr):
  dq C 1 (.ref c) H [cO g,.Zn r,.Zn d] λu h=>u= .Zn (g.item r d)/\h=H:=by
 exact gT O b.f ["self","rule","dot"] (λi j L=>?_) (xK λa a a a a a a a a a=>rfl)
 exact(?_:gM C 0 _ [("self",cO g),("rule",.Zn r),("dot",.Zn d)] H _ _)
 cbv
 exists cV O K.KG rfl rfl (bU _ _) rfl
 apply aO (l:=(aJ (aa g.Zr)).map λr=>.Zn (g.off r)) (u:=.Zn (g.off r)) rfl (wd ∅) (by have:=e.r;show o1 f this)
 cbv
 show oI (fP _ rfl rfl rfl)
theorem tx(d:qH C cG "rules_of" 16 5 [] e)(f:wV mg mb "list" (.type "list"))(c:mw g)(h:s<aa g.names):
  dq C 1 (.ref e) H [cO g,.Zn s] λu i=>u= .Zo .list ((g.lefts s).map .Zn)/\i=H:=by
 exact ot (gT O d.f ["self","symbol"] (λo p L=>?_) (jx λa a a a a a a a a=>rfl))
 exact(?_:gM C 0 _ [("self",cO g),("symbol",.Zn s)] H _ _)
 cbv
 exists eF O f
 exists cV O K.KG rfl rfl (bU _ _) rfl
 apply aO (l:=(aJ (aa g.names)).map λs=>.Zo .list ((g.lefts s).map .Zn)) (u:=.Zo .list ((g.lefts s).map .Zn)) rfl (wd ∅) (by have:=c.n;show o1 h this)
 cbv
 exact kW (l:=(g.lefts s).map .Zn) rfl ?_ ?_
 have:=c.r;have j:(g.lefts s).length<=aa g.Zr:=by
  unfold Gr.lefts;have m:∀(b:List Rl) (k:Nat),(dg s b k).length<=aa b:=by
   intro b;induction b with
   |nil=>intro k;show ax _
   |cons r b n=>intro k;have:=n (k+1);rw[Cd];split<;>simp<;>omega
  show m _ _
 rw[aq];show QP j this
 show⟨_,rfl,[_],_,rfl,.list (ax _) sS (dQ.pure (V.dF (λa=>rfl) _)),rfl⟩
theorem lP{b:Addr}(d:qH C cG "rule_of" 16 7 [] b)(e:mw g){i:Nat}(c:i<aa g.owners):
  dq C 1 (.ref b) H [cO g,.Zn i] λu f=>u= .Zn (g.owner i)/\f=H:=by
 exact E16 (Gr.ee c) λr j k m n o p=>?_
 have h:=e.items
 exact gT O d.f ["self","item"] (λq s L=>?_) (jx λa a a a a a a a a=>rfl)
 exact(?_:gM C 0 _ [("self",cO g),("item",.Zn i)] H _ _)
 cbv
 exists cV O K.KG rfl rfl (bU _ _) rfl
 show aO (l:=g.owners.map .Zn) (u:=.Zn (g.owner i)) rfl (BD ∅) (QQ c h) (fP _ rfl rfl rfl)
theorem rD{b:Addr}(e:qH C cG "dot_of" 16 8 [] b)(c:mw g){i:Nat}(d:i<aa g.owners):
  dq C 1 (.ref b) H [cO g,.Zn i] λu f=>u= .Zn (g.dot i)/\f=H:=by
 exact E16 (Gr.ee d) λr n h o p j q=>?_
 have k:=c.items
 have m:=c.r
 exact gT O e.f ["self","item"] (λs t L=>?_) (jx λa a a a a a a a a=>rfl)
 exact(?_:gM C 0 _ [("self",cO g),("item",.Zn i)] H _ _)
 cbv
 exists cV O K.KG rfl rfl (bU _ _) rfl
 exists cV O K.KG rfl rfl (bU _ _) rfl
 exists aO (l:=g.owners.map .Zn) (u:=.Zn (g.owner i)) rfl (BD ∅) (QQ d k)
 show aO (l:=(aJ (aa g.Zr)).map λr=>.Zn (g.off r)) (u:=.Zn (g.off (g.owner i))) rfl (wd ∅) (o1 j m) (wW h (fP _ rfl rfl rfl))
noncomputable def VT(o:Option Nat):V:=match o with
 |some s=>.Zn s
 |none=>.int (-1)
theorem t6{e:Addr}(j:qH C cG "after" 16 9 [] e)(k:wV mg mb "len" (.builtin "len"))(c:mw g){i:Nat}(d:i<aa g.owners):
  dq C 1 (.ref e) H [cO g,.Zn i] λu v=>u=VT (g.after i)/\v=H:=by
 walk_at "@H g e i|O K j k c d"
 exact E16 (Gr.ee d) λr m w x y n o=>?_
 have p:=c.items
 have q:=c.r
 have s:=c.len r (ai m)
 exact gT O j.f ["self","item"] (λz A L=>?_) (jx λa a a a a a a a a=>rfl)
 exact(?_:gM C 0 _ [("self",cO g),("item",.Zn i)] H _ _)
 cbv
 exists y4 O K.KR
 exists cV O K.KG rfl rfl (bU _ _) rfl
 exists cV O K.KG rfl rfl (bU _ _) rfl
 exists aO (l:=g.owners.map .Zn) (u:=.Zn (g.owner i)) rfl (BD ∅) (QQ d p)
 exact aO (l:=g.Zr.zipIdx.map (gn)) (u:=gn (r,g.owner i)) rfl (by simp[m]) (o1 n q) (qo (dU _ _) rfl ?_)
 cbv
 exists cV O K.KG rfl rfl (bU _ _) rfl
 exists cV O K.KG rfl rfl (bU _ _) rfl
 exists aO (l:=g.owners.map .Zn) (u:=.Zn (g.owner i)) rfl (BD ∅) (QQ d p)
 exact aO (l:=(aJ (aa g.Zr)).map λr=>.Zn (g.off r)) (u:=.Zn (g.off (g.owner i))) rfl (wd ∅) (o1 n q) (wW w ?_)
 cbv
 exists eF O k
 exact nM (by simp;show af s (aB 100 999900)) (qC (lD ?_))
 have f:g.dot i=i - g.off (g.owner i):=rfl
 have t:((i - g.off (g.owner i):Nat):Int)<((r.Zq.map V.Zn).length:Int)↔g.dot i<aa r.Zq:=by rw[aq,f];show dB
 by_cases b:g.dot i<aa r.Zq
 exists fY (decide_eq_true (t.mpr b));exact ji (u:=.Zn r.Zq[g.dot i]) ?_ (yK (af (aX f.symm) (af (a_ b) (af s ⋯)))) ?_;rw[←f,ak,ag b];rfl;exact fP _ rfl ?_ rfl;unfold Gr.after;rw[o,ag b];rfl
 exact eU (decide_eq_false (λh=>b (t.mp h))) (AM (ev_int ⟨_,rfl,fP _ rfl ?_ rfl⟩));unfold Gr.after;rw[o,cH (bS b)];rfl
end
section
variable{H:Hp}
variable(O:fy C mg mb)(K:Cs C mg){g:Gr}
include O K
noncomputable abbrev PX(a b c:Tok):List Value:=[.int (-1) a,.none,.int 0 b,.int 0 c]
theorem zQ{g:Addr}{h c d:Tok}(b:qH C cR "__init__" 15 0 (PX h c d) g){i l:Nat}{r:List Nat}{a:Int}:
  dq C 2 (.ref cR) H [.Zn i,.Zn l,.Zo .tup (r.map .Zn),.int a] λu w=>u=gn (⟨l,r,a⟩,i)/\w=H:=by
 walk_at "@H g h c d i l r a|O K b"
 exact ot (nL O K.KR.ok b.m.find b.m.typ (uE (j:=["self","number","left","right","level_of","action","line","before"]) (J:=[.none,.int 0 c,.int 0 d]) (B:=[.none,.int 0,.int 0]) O b.f ?_ (λ_a _b=>.cons .none (.cons (.int _ _) (.cons (.int _ _) .nil))) rfl ⋯ ⋯ rfl rfl rfl ⋯ λj a1 L=>?_))
 intro s name j x y z A B D xs f k;walk_at "@s name j x y z A B D xs|f k";exact E22 (d0 (n:=4) f) λE r1 G m=>?_;subst G;exact E22 (d0 m) λI r2 J o=>?_;subst J;exact E22 (d0 o) λM r3 N p=>?_;subst N;exact E22 (d0 p) λQ r4 U q=>?_;subst U;exact E22 (d0 q) λY r5 a0 t=>?_;subst a0;walk_at "@E I M Q Y r5|t q p o m f";obtain rfl:=gV t;exact E22 k.tup λT n v e=>?_;walk_at "@T n|v e";rw[v];show tO rfl e rfl rfl rfl
 exact(?_:gM C 0 _ [("self",.obj cR (aa H)),("number",.Zn i),("left",.Zn l),("right",.Zo .tup (r.map .Zn)),("level_of",.int a),("action",.none),("line",.int 0),("before",.int 0)] (H++[.dict []]) _ _);exact(?_:gM C 0 _ _ (H++.dict (dz [])::[]) _ _);repeat(first|walk_at "q"|exact e9 O K.KR ?_)
 show⟨_,rfl,rfl,[_],_,rfl,fE.FZ (ax _) fB (dQ.pure (l:=[.Zn i,.Zn l,.Zo .tup (r.map .Zn),.int a,.none,.int 0,.int 0]) (pC rfl (pC rfl (pC (c_ _) rfl)))),rfl⟩
end
section
variable{H:Hp}
variable(O:fy C mg mb)(K:Cs C mg){g:Gr}
include O K
omit O K in
theorem xQ(x m:Nat):decide ((((x>>>m)&&&1:Nat):Int)=1)=x.testBit m:=by rw[Nat.testBit_eq_decide_div_mod_eq,pW,J3];congr 1;apply propext;show Vj
omit K in
theorem wq{q:Addr}(w:qn C mg "transitive" 7 [] q)(y:wV mg mb "list" (.type "list"))(r:wV mg mb "len" (.builtin "len"))(s:wV mg mb "range" (.type "range")){v:V}{l:List Nat}(z:YJ H v=Zs (.list (l.map V.Zn)))(b:aa l<=1000):
  dq C 1 (.ref q) H [v] λu c=>u= .Zo .list ((pM l).map V.Zn)/\c=H:=by
 walk_at "@H q v l|O w y r s z b"
 exact ot (gT O w.f ["rows"] (λG I L=>?_) (YT λf f f f f f f f=>rfl))
 exact(?_:gM C 0 _ [("rows",v)] H _ _)
 cbv
 exists eF O y
 apply kW z (by rw[aq];show o0 b)
 cbv
 have i:∀(x:List Nat),YJ (H++[.list (x.map V.Zn)]) (.ref (aa H))=Zs (.list (x.map V.Zn)):=λx=>Cg
 exact N2 (aa l) (λk g c=>c=H++[.list (((aJ k).foldl tY l).map V.Zn)]/\g=[("found",.ref (aa H))]) ?_ ?_ ?_
 exists eF O s;exists eF O r;apply dm (i l) (by rw[aq];show o0 b);cbv;rw[aq];exact gi ⟨⟨_,?_,rfl,rfl⟩,o0 b,rfl⟩;walk_at "q sub"
 intro k g c A;apply ja;walk_at "@G I L k|A";have d:=sh (aJ k) l;generalize B:(aJ k).foldl tY l=e at d⊢;cbv;exact N2 (aa l) (λj g c=>c=H++[.list (((aJ j).foldl (oK k) e).map V.Zn)]/\g=[("found",.ref (aa H)),("middle",.Zn k)]) ?_ ?_ ?_;exists eF O s;exists eF O r;apply dm (i e) (by rw[aq];show MC d b);cbv;rw[aq,d];exact gi ⟨⟨_,?_,rfl,rfl⟩,o0 b,rfl⟩;walk_at "q sub";intro j g c m;apply ja;walk_at "@e j|B d m";have o:=qm k (aJ j) e;have t:(aJ (j+1)).foldl (oK k) e=oK k ((aJ j).foldl (oK k) e) j:=by rw[gY,eJ];rfl
 generalize J:(aJ j).foldl (oK k) e=a at o t⊢;have D:j<aa a:=Pn m o d;have E:k<aa a:=Pn A o d;cbv;exists aO (u:=.Zn a[j]) (i a) (mX ∅) (o1 m b);exact uG ?_;cbv;exists AL (n:=1);exact rh (lD ?_);rw[xQ];have h:oK k a j=if a[j].testBit k then a.set j (a[j]|||a[k]) else a:=by unfold oK;rw[ag D,ag E];rfl
 by_cases p:a[j].testBit k=true;have h:=h.trans (if_pos p);apply fY p;cbv;exists aO (u:=.Zn a[j]) (i a) (mX ∅) (o1 m b);exact aO (u:=.Zn a[k]) (i a) (mX ∅) (o1 E (o▸d▸b)) (kN ?_);cbv;apply fA (l:=a.map V.Zn) fB (by rw[aq];show D) (o1 m b);rw[mE];cbv;exact fP _ ?_ ?_ rfl;walk_at "q sub";rw[t,h,eS];have h:=h.trans (if_neg p);apply eU (pY.mpr p);cbv;exact fP _ ?_ ?_ rfl;walk_at "q sub";rw[t,h];intro g c;apply ja;cbv;exact fP _ ?_ ?_ rfl;walk_at "q sub";rw[gY,eJ,B];exact(?_:_=H++[YF.list ((tY e k).map V.Zn)]);unfold tY;rw[d]
 intro g c;apply ja;cbv;show⟨_,rfl,_,_,rfl,.list (ax _) fB (dQ.pure (c_ _)),rfl⟩
end
section
variable{H:Hp}
variable(O:fy C mg mb)(K:Cs C mg){g:Gr}
include O K
noncomputable def sW(l:List Nat)(n:Nat):List Nat:=if n∈l then l else l++[n]
set_option tactic.hygienic true in
omit K in
theorem oY{f:Addr}(g:qn C mg "add_once" 24 [] f){i n:Nat}{l:List Nat}(c:H[i]?=Zs (.list (l.map V.Zn)))(k:aa l<=1000000):
  dq C 1 (.ref f) H [.ref i,.Zn n] λu m=>u= .none/\m=H.set i (.list ((sW l n).map V.Zn)):=by
 exact gT O g.f ["row","number"] (λp q L=>?_) (jx λb b b b b b b b b=>rfl)
 exact(?_:gM C 0 _ [("row",.ref i),("number",.Zn n)] H _ _)
 cbv
 exact kz nj (l:=l) (a:=n) rfl c (lD ?_)
 by_cases d:n∈l
 ·have e:decide (n∉l)=false:=decide_eq_false (λh=>h d);exists eU e;apply fP _ rfl rfl;unfold sW;rw[if_pos d];apply dJ;intro j;rw[dK];split
  ·rename_i h;subst h;split;show c
   ·rename_i o;rw[cH (bS o)]
  rfl
 have e:decide (n∉l)=true:=decide_eq_true d;exists fY e;exists jd O;exists jl (cZ (l:=l.map V.Zn) c) rfl;apply c9 c (by rw[aq];show k);cbv;apply fP _ rfl rfl;unfold sW;rw[if_neg d,bo];rfl
omit K in
theorem t7{d:Addr}(f:qn C mg "last_terminal" 17 [] d){l:List Nat}{t:Nat}:
  dq C 1 (.ref d) H [.Zo .tup (l.map V.Zn),.Zn t] λu c=>(∃z,u= .int z)/\c=H:=by
 walk_at "@H d l t|O f"
 exact gT O f.f ["right","terminal_count"] (λi j L=>?_) (jx λb b b b b b b b b=>rfl)
 exact(?_:gM C 0 _ [("right",.Zo .tup (l.map V.Zn)),("terminal_count",.Zn t)] H _ _)
 cbv
 exact AM (ev_int ⟨_,rfl,?_⟩)
 cbv
 exact Q5 V.Zn l (λk e c=>c=H/\∃z,e=[("terminal_count",.Zn t),("found",.int z)]) ?_ ?_ ?_
 walk_at "q";exact⟨⟨_,?_,rfl,-1,rfl⟩,rfl⟩;walk_at "q sub"
 intro k a e c m;ext _ rfl g;ext g⟨z⟩rfl;cbv;exact qC (lD ?_);exact WC (λ_=>?_) λ_=>?_;cbv;exact⟨_,?_,rfl,a,rfl⟩;walk_at "q sub";cbv;exact⟨_,?_,rfl,z,rfl⟩;walk_at "q sub"
 intro e c;ext _ rfl h;ext h⟨z⟩rfl;cbv;show fP _ rfl ⟨_,rfl⟩ rfl
omit K in
theorem Gj{j:Addr}(o:qn C mg "bits" 11 [] j){m:Nat}(p:m<2^10000):
  dq C 1 (.ref j) H [.Zn m] λu d=>(∃l:List Nat,u= .Zo .list (l.map V.Zn)/\l.Pairwise (· <·)/\∀i,i∈l↔m.testBit i=true)/\d=H:=by
 walk_at "@H j m|O o p"
 exact ot (gT O o.f ["mask"] (λv w L=>?_) (by show YT λa a a a a a a a=>rfl))
 exact(?_:gM C 0 _ [("mask",.Zn m)] H _ _)
 cbv
 exact qI ?_
 cbv
 exact JA (λn r d=>∃k,k<=10000/\n=10000 - k/\d=H++[.list (((aJ k).filter m.testBit).map V.Zn)]/\r=[("found",.ref (aa H)),("at",.Zn k),("left",.Zn (m>>>k))]) ?_ 10000 _ ?_ ⟨0,by decide,rfl,rfl,rfl⟩
 intro n r d;apply J7;intro k s;walk_at "@v w L k|s";cbv;exact BO (lD ?_);by_cases b:0<m>>>k;have c:k<10000:=by
  rcases b9 k 10000 with q|q
  show q;have:k=10000:=by show bt s q
  subst this;rw[pW,L9 p] at b;show absurd b (bf _)
 have e:decide (((m>>>k:Nat):Int)>0)=true:=decide_eq_true (dB.mpr (a8 b));exists fY e;exists AL (n:=1);exact rh (lD ?_);rw[xQ];have f:(aJ (k+1)).filter m.testBit=(aJ k).filter m.testBit++(if m.testBit k then[k] else[]):=by rw[gY,iF];show congrArg _ jo
 have t:(m>>>k)>>>1=m>>>(k+1):=by rw[Nat.shiftRight_add]
 by_cases g:m.testBit k=true;rw[if_pos g] at f;apply fY g;cbv;exists jd O;exists jl (cZ (l:=((aJ k).filter m.testBit).map V.Zn) fB) rfl;apply c9 (fB (b:=[])) (by have:=fc m.testBit (aJ k);simp at this⊢;show af this (af (a_ c) ⋯));rw[mE];cbv;exists uG (n:=1);exact jy ?_;cbv;exact GV (10000 - (k+1)) _ (gc _ _ c) ?_ (p0 (k+1) c rfl ?_ rfl);rw[←t];walk_at "q sub";rw[f,bo];rfl;rw[if_neg g] at f;apply eU (pY.mpr g);cbv;exists uG (n:=1);exact jy ?_;cbv;exact GV (10000 - (k+1)) _ (gc _ _ c) ?_ (p0 (k+1) c rfl ?_ rfl);rw[←t];walk_at "q sub";rw[f,dY];have e:decide (((m>>>k:Nat):Int)>0)=false:=decide_eq_false (TL b);exists eU e;exact⟨_,rfl,_,_,rfl,.list (ax _) fB (dQ.pure (c_ _)),_,rfl,Rn _ rZ,λi=>?_⟩;rw[dj,cf];exact⟨λh=>h.2,λh=>⟨?_,h⟩⟩;rcases b9 i k with q|q
 show q;have x:m>>>k=0:=sP b;have:(m>>>k).testBit (i - k)=true:=by rw[Nat.testBit_shiftRight];rw[show k+(i - k)=i by show gZ q];show h
 rw[x] at this;simp at this
 walk_at "q sub"
noncomputable def firstOf(b:List Bool)(a:List Nat):List Nat->Nat->Nat×Bool
 |[],m=>(m,true)
 |s::r,m=>if b[s]?.getD false then firstOf b a r (m|||a[s]?.getD 0) else(m|||a[s]?.getD 0,false)
omit K in
theorem y5{j:Addr}(t:qn C mg "first_of" 4 [] j){v u:V}{b:List Bool}{c l:List Nat}(n:YJ H v=Zs (.list (b.map V.bool)))(o:YJ H u=Zs (.list (c.map V.Zn)))(w:∀s∈l,s<aa b)(y:aa b=aa c)(p:aa b<=1000):
  dq C 1 (.ref j) H [.Zo .tup (l.map V.Zn),v,u] λx f=>x= .Zo .tup [.Zn (firstOf b c l 0).1,.bool (firstOf b c l 0).2]/\f=H:=by
 walk_at "@H j v u b c l|O t n o w y p"
 exact gT O t.f ["symbols","nullables","firsts"] (λB D L=>?_) (xK λd d d d d d d d d d=>rfl)
 exact(?_:gM C 0 _ [("symbols",.Zo .tup (l.map V.Zn)),("nullables",v),("firsts",u)] H _ _)
 cbv
 exact Q5 V.Zn l (λk q f=>f=H/\∃m,firstOf b c l 0=firstOf b c (l.drop k) m/\q=[("nullables",v),("firsts",u),("mask",.Zn m)]) ?_ ?_ ?_
 walk_at "q";exact⟨⟨_,?_,rfl,0,rfl,rfl⟩,rfl⟩;walk_at "q sub"
 intro k a q f h;ext _ rfl E;ext E⟨m⟩g rfl;walk_at "@B D L k a f m|h n o g";have i:=w a (ai h);have G:l.drop k=a::l.drop (k+1):=by rw[gF (ae.mp h).1,(ae.mp h).2]
 have r:firstOf b c (l.drop k) m=if b[a]?.getD false then firstOf b c (l.drop (k+1)) (m|||c[a]?.getD 0) else(m|||c[a]?.getD 0,false):=by rw[G];rfl
 have I:a<aa c:=y▸i;rw[ag i,ag I] at r;cbv;apply aO (u:=.Zn c[a]) o (mX ∅) (o1 i p);exact kN ?_;cbv;exact qR ?_;cbv;exact aO (u:=.bool b[a]) n (mX ∅) (o1 i p) (fk ?_);by_cases z:b[a]=true;have e:(!b[a])=false:=by rw[z];rfl
 exists eU e;exact⟨_,?_,rfl,m|||c[a],?_,rfl⟩;walk_at "q sub";rw[g,r];show if_pos ∅;have A:b[a]=false:=by simpa using z
 have e:(!b[a])=true:=by rw[A];rfl
 exists fY e;exact sV ?_;exact fP _ rfl ?_ rfl;rw[g,r];(rw[A];rfl)
 intro q f;ext _ rfl J;ext J⟨m⟩g rfl;cbv;exact sV ?_;exact fP _ rfl ?_ rfl;rw[g,Ly];rfl
end
theorem a9{a T:Hp}{k:Nat}:(a++T)[aa a+k]?=T[k]?:=by rw[aH (aW _ _)];congr 1;show fh _ _
theorem dG{a T:Hp}{k:Nat}{c:YF}:(a++T).set (aa a+k) c=a++T.set k c:=by rw[gG _ _ (aW _ _)];congr 2;show fh _ _
noncomputable def Y3(B n:Nat)(T:List Bool)(Q:List Int)(Y:List (List Nat))(U:List Nat):Hp:= .list (T.map .bool):: .list (Q.map .int):: .list ((aJ n).map λi=>.ref (B+(i+3)))::(Y.map (λ(u:List Nat)=>YF.list (u.map .Zn))++[.list (U.map .Zn)])
section
variable{B n:Nat}{T:List Bool}{Q:List Int}{Y:List (List Nat)}{U:List Nat}
theorem IB(h:Y[s]?=Zs u):(Y3 B n T Q Y U)[s+3]?=Zs (.list (u.map .Zn)):=by have a:=(ae.mp h).1;exact(?_:(Y.map (λ(u:List Nat)=>YF.list (u.map .Zn))++[YF.list (U.map .Zn)])[s]?=_);rw[ar (Hu ∅),ak,h];rfl
theorem IC(h:aa Y=n):(Y3 B n T Q Y U)[n+3]?=Zs (.list (U.map .Zn)):=by exact(?_:(Y.map (λ(u:List Nat)=>YF.list (u.map .Zn))++[YF.list (U.map .Zn)])[n]?=_);rw[aH (by simp[h])];simp[h]
theorem Cp:(Y3 B n T Q Y U).set 0 (.list (a.map .bool))=Y3 B n a Q Y U:=rfl
theorem ID:(Y3 B n T Q Y U).set 1 (.list (a.map .int))=Y3 B n T a Y U:=rfl
theorem IE(a:s<aa Y):(Y3 B n T Q Y U).set (s+3) (.list (u.map .Zn))=Y3 B n T Q (Y.set s u) U:=by exact(?_:_::_::_::((Y.map (λ(u:List Nat)=>YF.list (u.map .Zn))++[YF.list (U.map .Zn)]).set s _)=_);rw[ny _ _ (Hu ∅)];unfold Y3;rw[eS]
theorem Cq(h:aa Y=n):(Y3 B n T Q Y U).set (n+3) (.list (a.map .Zn))=Y3 B n T Q Y a:=by exact(?_:_::_::_::((Y.map (λ(u:List Nat)=>YF.list (u.map .Zn))++[YF.list (U.map .Zn)]).set n _)=_);rw[gG _ _ (by simp[h])];simp[h,Y3]
end
section
variable{H:Hp}
variable(O:fy C mg mb)(K:Cs C mg){g:Gr}
include O K
theorem Cr{fa:Addr}(F:qn C mg "spread" 2 [] fa)(bL:wV mg mb "list" (.type "list"))(bN:wV mg mb "len" (.builtin "len"))(ok:mw g){v:V}(hv:YJ H v=Zs (.list ((aw (aa g.names) false).map V.bool))):
  dq C 1 (.ref fa) H [cO g,v] λu d=>(∃l:List Bool,u= .Zo .list (l.map V.bool)/\aa l=aa g.names/\∀s,l[s]?=Zs true↔va g.Zr s)/\d=H:=by
 walk_at "@H g fa v|O K F bL bN ok hv"
 exact ot (gT O F.f ["grammar","known"] (λb3 b4 L=>?_) (jx λo o o o o o o o o=>rfl))
 exact(?_:gM C 0 _ [("grammar",cO g),("known",v)] H _ _)
 have A:=ok.n
 have hr:=ok.r
 cbv
 exists eF O bL
 walk_at "@b3 b4 L"
 apply kW hv (by simp;show o0 A)
 cbv
 exact qI ?_
 cbv
 have al:tX (H++[.list ((aw (aa g.names) false).map V.bool)]++[.list []]) (.ref (aa H)) ((aw (aa g.names) false).map V.bool):=xu Mw
 exact xg [] [] (iK (ev_name rfl ⟨⟨_,al.now⟩,AQ trivial (ie al) (by simp;show o0 A) ?_⟩)) trivial
 cbv
 exact qI ?_
 have e1:H++[YF.list ((aw (aa g.names) false).map V.bool)]++[YF.list []]++YF.list ((aJ ((aw (aa g.names) false).map V.bool).length).map λi=>V.ref ((H++[YF.list ((aw (aa g.names) false).map V.bool)]++[YF.list []]).length+1+i))::aw ((aw (aa g.names) false).map V.bool).length (YF.list [])++[YF.list []]=H++Y3 (aa H) (aa g.names) (aw (aa g.names) false) [] (aw (aa g.names) []) []:=by
  unfold Y3;have e2:(λi=>V.ref ((H++[YF.list ((aw (aa g.names) false).map V.bool)]++[YF.list []]).length+1+i))=λi=>V.ref (aa H+(i+3)):=by funext i;congr 1;simp;show TM
  rw[e2];simp
 rw[e1]
 cbv
 have zi:∀{k:Nat} {a:Rl×Nat},g.Zr.zipIdx[k]?=Zs a->g.Zr[k]?=Zs a.1/\a.2=k:=λ{k a} h=>by rw[cb] at h;exact E12 (bg.mp h) λr h1 b5=>?_;subst b5;show⟨h1,bK _⟩
 exact v3 (gn) g.Zr.zipIdx (λk y d=>∃Y,ml g.Zr (aa g.names) Y k 0/\qG Y (101*k)/\d=H++Y3 (aa H) (aa g.names) (aw (aa g.names) false) ((g.Zr.take k).map λr=>(aa r.Zq:Int)) Y []/\y=[("grammar",cO g),("found",.ref (aa H+0)),("lacking",.ref (aa H+1)),("users",.ref (aa H+2)),("queue",.ref (aa H+(aa g.names+3)))]) ?_ ?_ ?_
 exact cV O K.KG rfl rfl (bU _ _) rfl ⟨⟨_,?_,_,ml.init,qG.init,rfl,rfl⟩,λo _b _c _d=>rfl⟩;repeat first|show trivial|exact Sub.cI (by first|rfl|show sR1|show sR2|show sR3|(simp[YV,nv];done)|(simp[YV,nv];omega)) ?_
 intro k a7;obtain⟨c,p⟩:=a7;intro y d ha;apply mB;intro Y t w;exact E02 (zi ha) λe b6=>?_;subst b6;try dsimp only at e
 have M:=ai e;have a4:=(ae.mp e).1;walk_at "@c p Y|ha t w e M a4";cbv;exact Q5 V.Zn c.Zq (λj l1 d=>∃Y,ml g.Zr (aa g.names) Y p j/\qG Y (101*p+j)/\d=H++Y3 (aa H) (aa g.names) (aw (aa g.names) false) ((g.Zr.take p).map λr=>(aa r.Zq:Int)) Y []/\l1=[("grammar",cO g),("found",.ref (aa H+0)),("lacking",.ref (aa H+1)),("users",.ref (aa H+2)),("queue",.ref (aa H+(aa g.names+3))),("rule",gn (c,p)),("missing",.Zn j)]) ?_ ?_ ?_;exact cV O K.KR rfl rfl (dU _ _) rfl ⟨⟨_,?_,Y,t,w,rfl,rfl⟩,rfl⟩;walk_at "q sub";intro j s l1 d hs;apply mB;intro Y t w;have a3:=ok.Zq c M s (ai hs);exact E11 (⟨_,ag (by rw[t.1];show a3)⟩:∃u,Y[s]?=Zs u) λu D=>?_;cbv;exact qR ?_;cbv;walk_at "@j s u|hs t w a3 D";exact aO (l:=(aw (aa g.names) false).map V.bool) (u:=.bool false) a9 (by simp[a3]) (o1 a3 A) (fk (fY rfl ?_));cbv;exact jy ?_;cbv;exists jd O;apply aO (l:=(aJ (aa g.names)).map λi=>.ref (aa H+(i+3))) (u:=.ref (aa H+(s+3))) a9 (wd ∅) (o1 a3 A);have am:(H++Y3 (aa H) (aa g.names) (aw (aa g.names) false) ((g.Zr.take p).map λr=>(aa r.Zq:Int)) Y [])[aa H+(s+3)]?=Zs (.list (u.map V.Zn)):=a9.trans (IB D);exists jl (cZ am) rfl;exists cV O K.KR rfl rfl (dU _ _) rfl;apply c9 am (by have:=w s u D;have:=(ae.mp hs).1;have:=ok.len c M;rw[aq];show af ‹_› (af (bW (gy 101 (af (a_ a4) hr)) (af (a_ ‹_›) this)) ⋯));rw[dG];have e3:u.map V.Zn++[V.Zn p]=(u++[p]).map V.Zn:=zc;rw[e3,IE (by rw[t.1];show a3)];cbv;exact qS _ ?_ (p0 _ (t.step e hs D) (w.step D) rfl rfl);walk_at "q sub";intro l1 d;apply mB;intro Y t w;cbv;exists jd O;exists jl (cZ (l:=((g.Zr.take p).map λr=>(aa r.Zq:Int)).map V.int) a9) rfl;apply c9 (l:=((g.Zr.take p).map λr=>(aa r.Zq:Int)).map V.int) a9 (by simp;show af (dX _ _) (af hr ⋯));rw[dG];cbv;exact qS _ ?_ (p0 Y (t.next e) (w.mono (by have:=ok.len c M;show TN this)) ?_ rfl);walk_at "q sub";rw[YG e];unfold Y3;simp
 intro y d;apply mB;intro Y t w;rw[fC] at t w⊢;rw[bJ];have E:=t.done;replace w:qG Y 200000:=w.mono (af (gy 101 hr) ⋯);clear t;generalize a':(g.Zr.map λr=>(aa r.Zq:Int))=G;walk_at "@Y G|E w a'";have ac:=Sp.init (a:=g.Zr) (n:=aa g.names) (b:=Y);rw[a'] at ac;cbv;exact v3 (gn) g.Zr.zipIdx (λk y d=>∃T U,Sp g.Zr (aa g.names) Y k T G U 0 []/\d=H++Y3 (aa H) (aa g.names) T G Y U/\y=[("grammar",cO g),("found",.ref (aa H+0)),("lacking",.ref (aa H+1)),("users",.ref (aa H+2)),("queue",.ref (aa H+(aa g.names+3)))]) ?_ ?_ ?_;exact cV O K.KG rfl rfl (bU _ _) rfl ⟨⟨_,?_,_,_,ac,rfl,rfl⟩,λo _b _c _d=>rfl⟩;walk_at "q sub";intro k b';obtain⟨c,p⟩:=b';intro y d ha;apply Hr;intro T U b;exact E02 (zi ha) λe a7=>?_;subst a7;try dsimp only at e b
 have M:=ai e;have a4:=(ae.mp e).1;have I:=ok.Zl c M;exact E03 (b.first e) λh1 h2 h3=>?_;have a0:=b.DI;have J:((c.Zl:Nat):Int)<2^62:=o1 I A;walk_at "@c p T U|ha b e M a4 I h1 h2 h3 a0 J";exact E11 (⟨_,ag (by rw[b.vt];show I)⟩:∃N,T[c.Zl]?=Zs N) λN a1=>?_;have skip:Sp g.Zr (aa g.names) Y (p+1) T G U 0 []->∀(Q':Prop),(∃l4,Sub l4 (YV [("grammar",cO g),("found",.ref (aa H+0)),("lacking",.ref (aa H+1)),("users",.ref (aa H+2)),("queue",.ref (aa H+(aa g.names+3)))] "rule" (gn (c,p)))/\
   ∃an ap,Sp g.Zr (aa g.names) Y (p+1) an G ap 0 []/\H++Y3 (aa H) (aa g.names) T G Y U=H++Y3 (aa H) (aa g.names) an G Y ap/\
   l4=[("grammar",cO g),("found",.ref (aa H+0)),("lacking",.ref (aa H+1)),("users",.ref (aa H+2)),("queue",.ref (aa H+(aa g.names+3)))]):=λhs o=>by
  exact⟨_,?_,T,U,hs,rfl,rfl⟩
  walk_at "q sub"
 cbv;exact tS ?_;cbv;exact cV O K.KR rfl rfl (dU _ _) rfl (aO (l:=G.map V.int) (u:=.int (aa c.Zq)) a9 (by simp[h1]) (o1 a4 hr) ?_);cbv;exact rh (lD ?_);by_cases h0:(aa c.Zq:Int)=0;exact fY (decide_eq_true h0) (p8 ?_);cbv;exact qR ?_;cbv;exact cV O K.KR rfl rfl (dU _ _) rfl (aO (l:=T.map V.bool) (u:=.bool N) a9 (by simp[a1]) J (fk ?_));cases N with
 |false=>
  exists fY rfl;exact cV O K.KR rfl rfl (dU _ _) rfl (fA (l:=T.map V.bool) a9 (by simp[b.vt];show I) J ?_);rw[dG,←eS (f:=V.bool) (a:=true),Cp];cbv;exists jd O;have x:=(a9 (a:=H)).trans (IC (B:=aa H) (T:=T.set c.Zl true) (Q:=G) (Y:=Y) (U:=U) E.1);exists jl (cZ x) rfl;exists cV O K.KR rfl rfl (dU _ _) rfl;apply c9 x (by simp;show QP a0 A);have e4:U.map V.Zn++[V.Zn c.Zl]=(U++[c.Zl]).map V.Zn:=by simp
  rw[dG,e4,Cq E.1];cbv;exact qS _ ?_ (pF _ _ (h3 _ _ (b.xI a1 (h2 h0)) (λo=>by simp[b.vt,I])) rfl rfl);walk_at "q sub"
 |true=>exists eU rfl;show skip (h3 _ _ b λo=>a1) True
 exact eU (decide_eq_false h0) (eU rfl ?_);cbv;show skip (h3 _ _ b λh=>absurd h h0) True;intro y d;apply Hr;intro T U b;rw[fC] at b;cbv;exact JA (λm y d=>∃T Q U a,m=aa g.names - a/\Sp g.Zr (aa g.names) Y (aa g.Zr) T Q U a []/\d=H++Y3 (aa H) (aa g.names) T Q Y U/\y=[("grammar",cO g),("found",.ref (aa H+0)),("lacking",.ref (aa H+1)),("users",.ref (aa H+2)),("queue",.ref (aa H+(aa g.names+3))),("at",.Zn a)]) ?_ (aa g.names) _ ?_ ⟨T,G,U,0,by simp,b,rfl,rfl⟩;rotate_left;walk_at "q sub";clear b ac a';intro m y d;apply Ka;intro T Q U a b;walk_at "@T Q U a|b";have a0:=b.DI;have as:=(a9 (a:=H)).trans (IC (B:=aa H) (T:=T) (Q:=Q) (Y:=Y) (U:=U) E.1);cbv;exists eF O bN;exact dm as (by rw[aq];show QP a0 A) (qC (lD ?_));rw[aq];by_cases J:a<aa U;exact fY (decide_eq_true (dB.mpr J)) (E11 (⟨_,ag J⟩:∃q,U[a]?=Zs q) (λq x=>?_));have aM:q<aa g.names:=by have:=(b.qf q).mp (ai x);rw[←b.vt];show(ae.mp this).1
 exact E11 (⟨_,ag (by rw[E.1];show aM)⟩:∃u,Y[q]?=Zs u) λu D=>?_;walk_at "q";exact v3 V.Zn u (λj y d=>∃T Q U,U[a]?=Zs q/\Sp g.Zr (aa g.names) Y (aa g.Zr) T Q U a (u.take j)/\d=H++Y3 (aa H) (aa g.names) T Q Y U/\y=[("grammar",cO g),("found",.ref (aa H+0)),("lacking",.ref (aa H+1)),("users",.ref (aa H+2)),("queue",.ref (aa H+(aa g.names+3))),("at",.Zn a)]) ?_ ?_ ?_;cbv;exact aO (u:=.Zn q) as (BD ∅) (yK (af (a_ J) (af a0 (af A ⋯)))) (aO (l:=(aJ (aa g.names)).map λi=>.ref (aa H+(i+3))) (u:=.ref (aa H+(q+3))) a9 (wd ∅) (o1 aM A) ⟨⟨_,?_,T,Q,U,x,b,rfl,rfl⟩,?_⟩);walk_at "q sub";intro j l1 H1;apply J_;intro T Q U _ _ _;show(a9 (a:=H)).trans (IB D);intro j r l1 H1 a5;apply oD;intro T Q U x b;have a2:=(E.2 q u D).1 r (ai a5);exact E11 (⟨_,ag a2⟩:∃c,g.Zr[r]?=Zs c) λc e=>?_;have M:=ai e;have I:=ok.Zl c M;have aY:((c.Zl:Nat):Int)<2^62:=o1 I A;have a0:=b.DI;have b1:(u.take j).length=j:=by rw[bP];have:=(ae.mp a5).1;show b0 (a_ this)
 exact E13 (b.told E x D (r:=r) (by rw[b1];show a5) (by rw[b1]) e) λz hz bd a6=>?_;have be:u.take j++[r]=u.take (j+1):=(YG a5).symm;rw[be] at a6;exact E11 (⟨_,ag (by rw[b.vt];show I)⟩:∃N,T[c.Zl]?=Zs N) λN a1=>?_;cbv;exists aO (l:=Q.map V.int) (u:=.int z) a9 (by simp[hz]) (o1 a2 hr);exact xj ?_;cbv;apply fA (l:=Q.map V.int) a9 (by simp[b.Gd];show a2) (o1 a2 hr);rw[dG,←eS (f:=V.int) (a:=z - 1),ID];cbv;exists y4 O K.KR;exists cV O K.KG rfl rfl (bU _ _) rfl;exact aO (l:=g.Zr.zipIdx.map (gn)) (u:=gn (c,r)) rfl (by simp[e]) (o1 a2 hr) (qo (dU _ _) rfl ?_);cbv;exact tS ?_;cbv;have bh:(Q.set r (z - 1))[r]?=Zs (z - 1):=bO (by rw[b.Gd];show a2);apply aO (l:=(Q.set r (z - 1)).map V.int) (u:=.int (z - 1)) a9 (by rw[ak,bh];rfl) (o1 a2 hr);cbv;exact rh (lD ?_);by_cases h0:z - 1=0;exact fY (decide_eq_true h0) (p8 ?_);cbv;exact qR ?_;cbv;exact aO (l:=T.map V.bool) (u:=.bool N) a9 (by simp[a1]) aY (fk ?_);cases N with
 |false=>
  exists fY rfl;apply fA (l:=T.map V.bool) a9 (by simp[b.vt];show I) aY;rw[dG,←eS (f:=V.bool) (a:=true),Cp];cbv;exists jd O;have b2:=(a9 (a:=H)).trans (IC (B:=aa H) (T:=T.set c.Zl true) (Q:=Q.set r (z - 1)) (Y:=Y) (U:=U) E.1);exists jl (cZ b2) rfl;apply c9 b2 (by simp;show QP a0 A);have e4:U.map V.Zn++[V.Zn c.Zl]=(U++[c.Zl]).map V.Zn:=by simp
  rw[dG,e4,Cq E.1];cbv;exact qS _ ?_ (vf _ _ (U++[c.Zl]) (by rw[ar (ae.mp x).1];show x) (a6 _ _ (b.xI a1 (bd h0)) (λo=>by simp[b.vt,I])) rfl rfl);walk_at "q sub"
 |true=>exists eU rfl;exact qS _ ?_ (vf _ _ U x (a6 _ _ b (λo=>a1)) rfl rfl);walk_at "q sub"
 exact eU (decide_eq_false h0) (eU rfl ?_);cbv;exact qS _ ?_ (vf _ _ U x (a6 _ _ b (λh=>absurd h h0)) rfl rfl);walk_at "q sub";intro l1 H1;apply oD;intro T Q U x b;rw[bJ] at b;cbv;exact jy ?_;cbv;exact GV (aa g.names - (a+1)) _ (gc _ _ (aj J a0)) ?_ (Ms T Q U (a+1) rfl (b.next E x D) rfl rfl);walk_at "q sub";apply eU (decide_eq_false (OY J));have ha:a=aa U:=bt b.le (bS J);subst ha;cbv;show⟨_,rfl,_,_,rfl,.list (ax _) a9 (dQ.pure (mq _)),T,rfl,b.vt,b.done⟩
end
section
variable{H:Hp}
variable(O:fy C mg mb)(K:Cs C mg)(X:Fx C mg mb){g:Gr}
include O K X
noncomputable def zX(g:Gr)(l:List Bool):Prop:=aa l=aa g.names/\∀s,l[s]?=Zs true↔va g.Zr s
omit O K X in
theorem zX.test{g:Gr}{l:List Bool}(h:zX g l)(s:Nat):nb l s=true↔va g.Zr s:=by
 rw[←h.2 s];unfold nb;cases e:l[s]? with
 |none=>trivial
 |some b=>simp
theorem kC(b:mw g):dq C 2 (.ref (33:Addr)) H [cO g] λu c=>(∃l:List Bool,u= .Zo .list (l.map V.bool)/\zX g l)/\c=H:=by
 walk_at "@H g|O K X b";exact ot (gT O X.nullable.f ["grammar"] (λi j L=>?_) (YT λa a a a a a a a=>rfl));exact(?_:gM C 1 _ [("grammar",cO g)] H _ _);cbv;exists ik O X.spread;exact qI ?_;cbv;exists iL O K.KG X.jf.m;exists oL (bU _ _) rfl;exact(((jG O K X.jf X.jm b).deep ⋯).mono (pV ?_)).call;have d:=b.n;apply mL (v:=.bool false) Cg (o0 d);have e:YJ (H++[YF.list [V.bool false]]++[YF.list (aw (aa g.names) (V.bool false))]) (.ref (H++[YF.list [V.bool false]]).length)=Zs (.list ((aw (aa g.names) false).map V.bool)):=by rw[List.map_replicate];show Cg
 cbv;show((Cr O K X.spread X.uR X.jm b e).mono (Q6 λl f h=>⟨_,rfl,_,_,av _ _ _,fE.pure (by simp[V.pure,mq]),l,rfl,f,h⟩)).call
end
theorem zY:∀{l:List Nat} {m:Nat},(firstOf b a l m).1=YR b a l m
 |[],m=>rfl
 |s::r,m=>by exact(?_:(if b[s]?.getD false then firstOf b a r (m|||a[s]?.getD 0) else(m|||a[s]?.getD 0,false)).1=if b[s]?.getD false then YR b a r (m|||a[s]?.getD 0) else m|||a[s]?.getD 0);split;show zY;rfl
noncomputable def PY(g:Gr)(l:List Nat):Prop:=aa l=aa g.names/\(∀s t,(cN l s).testBit t=true↔mn g.Zr g.tc s t)/\∀(s m:Nat),l[s]?=Zs m->m<2^aa g.names
section
variable{H:Hp}
variable(O:fy C mg mb)(K:Cs C mg)(X:Fx C mg mb){g:Gr}
include O K X
omit O K X in
theorem zi{b:List Rl}{k:Nat}{a:Rl×Nat}(h:b.zipIdx[k]?=Zs a):b[k]?=Zs a.1/\a.2=k:=by rw[cb] at h;exact E12 (bg.mp h) λr c d=>?_;subst d;show⟨c,bK _⟩
theorem mx(p:mw g):dq C 3 (.ref (47:Addr)) H [cO g] λu n=>(∃l:List Nat,u= .Zo .list (l.map V.Zn)/\PY g l)/\n=H:=by
 walk_at "@H g|O K X p";exact ot (gT O X.qp.f ["grammar"] (λac al L=>?_) (YT λj j j j j j j j=>rfl));exact(?_:gM C 2 _ [("grammar",cO g)] H _ _);have w:=p.n;have q:=p.r;cbv;exists ik O X.nullable;exact((kC O K X p).mono (Ci λd I=>?_)).call;cbv;exact qI ?_;cbv;have ht:=p.t;have A:=I.1;have a1:=p.Zl;have a2:=p.Zq;have a3:∀H,dq C 1 (.ref (150:Addr)) H [cO g] λu n=>u= .Zn (aa g.names)/\n=H:=λH=>jG O K X.jf X.jm p;generalize J:aa g.names=N at*;have M:=I.test;exact N2 N (λk o n=>n=H++[.list (((aJ k).map λs=>if s<g.tc then 1<<<s else 0).map V.Zn)]/\o=[("grammar",cO g),("nullables",.Zo .list (d.map V.bool)),("firsts",.ref (aa H))]) ?_ ?_ ?_;exists eF O X.mu;exists iL O K.KG X.jf.m;exists oL (bU _ _) rfl;exact(((a3 _).deep ⋯).mono (pV ?_)).call;cbv;exact gi ⟨⟨_,?_,rfl,rfl⟩,o0 w,rfl⟩;walk_at "q sub";intro k o _ hk;apply ja;cbv;exists jd O;exists jl (cZ (l:=((aJ k).map λs=>if s<g.tc then 1<<<s else 0).map V.Zn) fB) rfl;exact qR (iL O K.KG X.isTerminal.m ?_);cbv;exists oL (bU _ _) rfl;exact(((jb O K X.isTerminal).deep ⋯).mono (λ_ H2=>?_)).call;apply ja;exact fk ?_;have a4:∀v:V,v=V.Zn (if k<g.tc then 1<<<k else 0)->gh C 2 (.builtin "list.append") (H++[.list (((aJ k).map λs=>if s<g.tc then 1<<<s else 0).map V.Zn)]) [.ref (aa H),v] λj n=>∃l4,Sub l4 (YV [("grammar",cO g),("nullables",.Zo .list (d.map V.bool)),("firsts",.ref (aa H))] "symbol" (V.int k))/\
   n=H++[.list (((aJ (k+1)).map λs=>if s<g.tc then 1<<<s else 0).map V.Zn)]/\l4=[("grammar",cO g),("nullables",.Zo .list (d.map V.bool)),("firsts",.ref (aa H))]:=by
  rintro _ rfl
  apply c9 fB (by simp;show NV hk w)
  rw[mE]
  exact fP _ ?_ ?_ rfl
  walk_at "q sub"
  rw[gY];simp
 by_cases B:k<g.tc;exists fY (decide_eq_true B);exists uN (NV hk w);show j4.mono (a4 _ (by rw[if_pos B])) λj _b h=>ex_nil h;exists eU (decide_eq_false B);show j4.mono (a4 _ (by rw[if_neg B];rfl)) λj _b h=>ex_nil h;intro o _;apply ja;cbv;exact JA (λm o n=>∃(e:List Nat) (b:Bool),y3 g.Zr g.tc N e/\m=(if b then ij N e+1 else 0)/\(b=false->∀r∈g.Zr,cN e r.Zl|||YR d e r.Zq 0=cN e r.Zl)/\n=H++[.list (e.map V.Zn)]/\o=[("grammar",cO g),("nullables",.Zo .list (d.map V.bool)),("firsts",.ref (aa H)),("is_grown",.bool b)]) ?_ _ _ ?_ ⟨_,true,y3.init ht,rfl,by simp,rfl,rfl⟩;intro m o _;apply BA;intro e b f a5;walk_at "@ac al L d N e b|I J w ht A a1 a2 a3 M f a5";exact qR ?_;cbv;exact fk ?_;cases b with
 |false=>exists eU rfl;show⟨_,rfl,_,_,rfl,.list (ax _) fB (dQ.pure (c_ _)),e,rfl,by rw[J];show f.len,λs t=>f.done M (a5 rfl) s t,by rw[J];show f.lt⟩
 |true=>
  exists fY rfl;exact v3 (gn) g.Zr.zipIdx (λk o n=>∃(a:List Nat) (b:Bool),y3 g.Zr g.tc N a/\(b=true->ij N a<ij N e)/\(b=false->a=e/\∀r∈g.Zr.take k,cN a r.Zl|||YR d a r.Zq 0=cN a r.Zl)/\ij N a<=ij N e/\n=H++[.list (a.map V.Zn)]/\o=[("grammar",cO g),("nullables",.Zo .list (d.map V.bool)),("firsts",.ref (aa H)),("is_grown",.bool b)]) ?_ ?_ ?_;exact cV O K.KG rfl rfl (bU _ _) rfl ⟨⟨_,?_,e,false,f,by simp,by simp,ax _,rfl,rfl⟩,λj _b _c _d=>rfl⟩;walk_at "q sub";intro k am;obtain⟨c,k'⟩:=am;intro o _ ha;apply nA;intro a b f D y z;walk_at "@k c k' a b|ha f D y z";exact E02 (zi ha) λQ an=>?_;subst an;try dsimp only at Q
  have T:=ai Q;have U:=a1 c T;have x:c.Zl<aa a:=by rw[f.len];show U
  have a6:cN a c.Zl=a[c.Zl]:=by unfold cN;rw[ag x];rfl
  have Y:((c.Zl:Nat):Int)<2^62:=o1 U w;have a0:YJ (H++[YF.list (a.map V.Zn)]) (.ref (aa H))=Zs (.list (a.map V.Zn)):=fB;cbv;exact cV O K.KR rfl rfl (dU _ _) rfl (aO (u:=.Zn a[c.Zl]) a0 (by simp[x]) Y ?_);cbv;exists ik O X.firstOf;exists cV O K.KR rfl rfl (dU _ _) rfl;exact(((y5 O X.firstOf (v:=.Zo .list (d.map V.bool)) (u:=.ref (aa H)) (b:=d) (c:=a) rfl a0 (λs hs=>by rw[A];show a2 c T s hs) (by rw[A,f.len]) (le_of_eq_of_le A w)).deep ⋯).mono (pV ?_)).call;cbv;apply ji (k:=0) (u:=.Zn (firstOf d a c.Zq 0).1) rfl ⋯;rw[zY];exact kN ?_;cbv;exact cV O K.KR rfl rfl (dU _ _) rfl (aO (u:=.Zn a[c.Zl]) a0 (by simp[x]) Y (xk (lD ?_)));have a7:=fN (l:=g.Zr) (i:=k');rw[Q] at a7;by_cases E:a[c.Zl]|||YR d a c.Zq 0=a[c.Zl];apply eU (decide_eq_false (by rw[E];simp));cbv;exact qS _ ?_ (Hn a b f D (λG=>⟨(y G).1,λr q=>?_⟩) z rfl rfl);walk_at "q sub";rw[a7] at q;rcases aE.mp q with q|q
  show(y G).2 r q;simp at q;subst q;rw[a6];show E;apply fY (decide_eq_true (kM rfl rfl E));have hg:=f.grow M T U;rw[a6] at hg;have a':ij N (a.set c.Zl (a[c.Zl]|||YR d a c.Zq 0))<ij N a:=zz (ag x) (LP E) (hg.lt c.Zl _ (bO x));cbv;exact cV O K.KR rfl rfl (dU _ _) rfl (fA (l:=a.map V.Zn) fB (by simpa using x) Y ?_);rw[mE,←eS];cbv;exact qS _ ?_ (Hn _ true hg (λj=>aj a' z) (by simp) (a_ (aj a' z)) rfl rfl);walk_at "q sub";intro o _;apply nA;intro a b f D y z;cbv;exact GV _ _ ?_ ?_ (C5 a b f rfl (λG=>?_) rfl rfl);cases b with
  |true=>have:=D rfl;simp;show this
  |false=>show jH _
  walk_at "q sub";have:=(y G).2;rw[fC,bJ] at this;show this
 walk_at "q sub"
end
noncomputable def PZ(g:Gr)(l:List Nat):Prop:=aa l=aa g.names/\(∀s t,(cN l s).testBit t=true↔kI g.Zr g.tc s t)/\∀(s m:Nat),l[s]?=Zs m->m<2^aa g.names
theorem va.Zl(h:va rules s):∃r∈rules,r.Zl=s:=by cases h with|mk h _=>show cU _ h rfl
theorem ke(h:i<aa l):cN l i=l[i]:=by unfold cN;rw[ag h];rfl
section
variable{H:Hp}
variable(O:fy C mg mb)(K:Cs C mg)(X:Fx C mg mb){g:Gr}
include O K X
theorem oM(E:mw g)(hT:∀r∈g.Zr,g.tc<=r.Zl):dq C 4 (.ref (54:Addr)) H [cO g] λu H'=>(∃l:List Nat,u= .Zo .list (l.map V.Zn)/\PZ g l)/\H'=H:=by
 walk_at "@H g|O K X E hT";exact ot (gT O X.rB.f ["grammar"] (λc3 c4 L=>?_) (by show YT λM M M M M M M M=>rfl));exact(?_:gM C 3 _ [("grammar",cO g)] H _ _);have hn:=E.n;have G:=E.r;cbv;exists ik O X.nullable;exact(((kC O K X E).deep ⋯).mono (Ci λo a'=>?_)).call;cbv;exists ik O X.qp;exact((mx O K X E).mono (Ci λn ac=>?_)).call;cbv;exact qI ?_;cbv;exists iL O K.KG X.jf.m;exists oL (bU _ _) rfl;exact(((jG O K X.jf X.jm E).deep ⋯).mono (pV ?_)).call;have ht:=E.t;have be:=a'.1;have bi:=ac.1;have bm:=ac.2.2;have bn:=E.Zl;have bs:=E.Zq;have c5:=E.len;have bv:∀s,s<g.tc->nb o s=false:=λs hs=>by
  cases e:nb o s with
  |false=>rfl
  |true=>exact E12 (((a'.test s).mp e).Zl) λr G aY=>?_;subst aY;have:=hT r G;show(bf _ (aj hs this)).elim
 generalize hN:aa g.names=N at*;have b1:=a'.test;have hF:=ac.2.1;apply mL (v:=.Zn 0) Cg (o0 hn);have e1:H++[YF.list [V.int 0]]++[YF.list (aw N (V.Zn 0))]=H++YF.list [V.int 0]::[.list ((aw N 0).map V.Zn)]:=by simp
 have e2:(H++[YF.list [V.int 0]]).length=aa H+1:=by show Em
 rw[e1,e2];have al:∀d:List Nat,YJ (H++YF.list [V.int 0]::[.list (d.map V.Zn)]) (.ref (aa H+1))=Zs (.list (d.map V.Zn)):=λd=>by simp[YJ]
 have bw:∀d:List Nat,(H++YF.list [V.int 0]::[.list (d.map V.Zn)])[aa H+1]?=Zs (.list (d.map V.Zn)):=λd=>by show LC
 have c6:∀d f:List Nat,(H++YF.list [V.int 0]::[.list (d.map V.Zn)]).set (aa H+1) (.list (f.map V.Zn))=H++YF.list [V.int 0]::[.list (f.map V.Zn)]:=λd f=>by simp
 cbv;exact JA (λm l0 H'=>∃(d:List Nat) (b:Bool),uL g.Zr g.tc N d/\m=(if b then ij N d+1 else 0)/\(b=false->∀r∈g.Zr,∀(i a:Nat),r.Zq[i]?=Zs a->g.tc<=a->cN d a|||behind o n (cN d r.Zl) (r.Zq.drop (i+1))=cN d a)/\H'=H++YF.list [V.int 0]::[.list (d.map V.Zn)]/\l0=[("grammar",cO g),("nullables",.Zo .list (o.map V.bool)),("firsts",.Zo .list (n.map V.Zn)),("follows",.ref (aa H+1)),("is_grown",.bool b)]) ?_ _ _ ?_ ⟨_,true,uL.init,rfl,by simp,rfl,rfl⟩;intro m l0 _;apply BA;intro d b y bA;walk_at "@c3 c4 L o n N d b|a' ac bv hN hn ht be bi bm bn bs b1 hF e1 y bA";exact qR ?_;cbv;exact fk ?_;cases b with
 |false=>exists eU rfl;show⟨_,rfl,_,_,rfl,.list (by change aa H<=aa H+1;show aW _ _) (bw d) (dQ.pure (c_ _)),d,rfl,by rw[hN];show y.len,λs t=>y.done b1 hF (bA rfl) s t,by rw[hN];show y.lt⟩
 |true=>
  exists fY rfl;exact v3 (gn) g.Zr.zipIdx (λk l0 H'=>∃(f:List Nat) (b:Bool),uL g.Zr g.tc N f/\(b=true->ij N f<ij N d)/\(b=false->f=d/\∀r∈g.Zr.take k,∀(i a:Nat),r.Zq[i]?=Zs a->g.tc<=a->cN d a|||behind o n (cN d r.Zl) (r.Zq.drop (i+1))=cN d a)/\ij N f<=ij N d/\H'=H++YF.list [V.int 0]::[.list (f.map V.Zn)]/\l0=[("grammar",cO g),("nullables",.Zo .list (o.map V.bool)),("firsts",.Zo .list (n.map V.Zn)),("follows",.ref (aa H+1)),("is_grown",.bool b)]) ?_ ?_ ?_;exact cV O K.KG rfl rfl (bU _ _) rfl ⟨⟨_,?_,d,false,y,by simp,by simp,ax _,rfl,rfl⟩,λM _b _c _d=>rfl⟩;walk_at "q sub";intro k b2;obtain⟨c,I⟩:=b2;intro l0 _ ha;apply nA;intro Q b a3 J q A;walk_at "@k c I Q b|ha a3 J q A";exact E02 (zi ha) λb3 aY=>?_;subst aY;try dsimp only at b3
  have am:=ai b3;have hl:=bn c am;have b4:c.Zl<aa Q:=by rw[a3.len];show hl
  have bI:=ke b4;have c7:((c.Zl:Nat):Int)<2^62:=by show o1 hl hn
  cbv;exact cV O K.KR rfl rfl (dU _ _) rfl (aO (u:=.Zn Q[c.Zl]) (al Q) (by simp[b4]) c7 ?_);cbv;have b5:∀t,Q[c.Zl].testBit t=true->kI g.Zr g.tc c.Zl t:=λt h=>a3.sound c.Zl t (by rw[bI];show h);have b6:Q[c.Zl]<2^N:=a3.lt c.Zl _ (ag b4);have b':b=false->Q[c.Zl]=cN d c.Zl:=λp=>by rw[←bI,(q p).1]
  generalize Q[c.Zl]=w at b5 b6 b'⊢;have c8:=c5 c am;exact XY O V.Zn c.Zq (λj l1 H'=>∃(f:List Nat) (b:Bool),uL g.Zr g.tc N f/\(b=true->ij N f<ij N d)/\(b=false->f=d/\w=cN d c.Zl/\(∀r∈g.Zr.take I,∀(i a:Nat),r.Zq[i]?=Zs a->g.tc<=a->cN d a|||behind o n (cN d r.Zl) (r.Zq.drop (i+1))=cN d a)/\∀(i a:Nat),aa c.Zq - j<=i->c.Zq[i]?=Zs a->g.tc<=a->cN d a|||behind o n w (c.Zq.drop (i+1))=cN d a)/\ij N f<=ij N d/\H'=H++YF.list [V.int 0]::[.list (f.map V.Zn)]/\l1=[("grammar",cO g),("nullables",.Zo .list (o.map V.bool)),("firsts",.Zo .list (n.map V.Zn)),("follows",.ref (aa H+1)),("is_grown",.bool b),("rule",gn (c,I)),("behind",.Zn (behind o n w (c.Zq.drop (aa c.Zq - j))))]) (wK O X.zP.g X.zP.b rfl) ?_ ?_ ?_;exact cV O K.KR rfl rfl (dU _ _) rfl ⟨⟨_,?_,Q,b,a3,J,λp=>⟨(q p).1,b' p,(q p).2,λi a U h=>?_⟩,A,rfl,rfl⟩,by show af c8 (aB 100 999900),rfl⟩;have e:c.Zq.drop (aa c.Zq - 0)=[]:=by simp
  rw[e];walk_at "q sub";have:=(ae.mp h).1;show False.elim (bf _ (af this U));intro j a l1 _ an;apply nA;intro f b y J q A;walk_at "@w j a f b|b5 b6 b' an y J q A";have ap:j<aa c.Zq:=by have:=(ae.mp an).1;simpa using this
  have a0:c.Zq[aa c.Zq - (j+1)]?=Zs a:=by rw[Fe ap] at an;rw[show aa c.Zq - (j+1)=aa c.Zq - 1 - j by show(cM _ _▸(f6 _ _ _).symm)];show an
  have c':c.Zq.drop (aa c.Zq - (j+1))=a::c.Zq.drop (aa c.Zq - j):=by rw[gF (ae.mp a0).1,(ae.mp a0).2];congr 2;show dp (du ap)
  have a4:=bs c am a (ai a0);have a1:a<aa n:=o2 a4 bi;have Y:a<aa f:=by rw[y.len];show a4
  have bd:a<aa o:=o2 a4 be;have B:((a:Nat):Int)<2^62:=by show o1 a4 hn
  have ca:=ke a1;have as:nb o a=o[a]:=by unfold nb;rw[ag bd];rfl
  have z:behind o n w (c.Zq.drop (aa c.Zq - (j+1)))=if nb o a then behind o n w (c.Zq.drop (aa c.Zq - j))|||n[a] else n[a]:=by rw[c',←ca];rfl
  have bL:uL g.Zr g.tc N (f.set a (f[a]|||behind o n w (c.Zq.drop (aa c.Zq - j))))\/a<g.tc:=by
   rcases b9 a g.tc with h|h
   show .inr h;have:=y.grow b1 hF bm am a0 h a4 b5 b6;rw[ke Y,show aa c.Zq - (j+1)+1=aa c.Zq - j by show dp (du ap)] at this;show .inl this
  have bN:b=false->g.tc<=a->(f[a]|||behind o n w (c.Zq.drop (aa c.Zq - j))=f[a])->∀(i x:Nat),aa c.Zq - (j+1)<=i->c.Zq[i]?=Zs x->g.tc<=x->cN d x|||behind o n w (c.Zq.drop (i+1))=cN d x:=by intro p ce he i x U T aM;by_cases a5:i=aa c.Zq - (j+1);subst a5;rw[a0] at T;have cc:=Option.some.inj T;clear T;subst cc;rw[show aa c.Zq - (j+1)+1=aa c.Zq - j by show dp (du ap),←(q p).1,ke Y];show he;show(q p).2.2.2 i x (OI U a5) T aM
  generalize ch:behind o n w (c.Zq.drop (aa c.Zq - j))=bh at z bL bN⊢;cbv;exact qR (iL O K.KG X.isTerminal.m ?_);cbv;exists oL (bU _ _) rfl;exact(((jb O K X.isTerminal).deep ⋯).mono (pV (fk ?_))).call;by_cases a2:a<g.tc;exists fY (decide_eq_true a2);exists aO (l:=n.map V.Zn) (u:=.Zn n[a]) rfl (by simp[a1]) B;exact⟨_,?_,f,b,y,J,λp=>⟨(q p).1,(q p).2.1,(q p).2.2.1,λi x U T aM=>?_⟩,A,rfl,rfl⟩;rw[z,bv a a2,if_neg ⋯];walk_at "q sub";by_cases a5:i=aa c.Zq - (j+1);subst a5;rw[a0] at T;have b2:=Option.some.inj T;clear T;subst b2;show absurd a2 (ju aM);show(q p).2.2.2 i x (OI U a5) T aM;apply eU (decide_eq_false a2);have cd:g.tc<=a:=bS a2;have bR:=bL.resolve_right a2;cbv;exists aO (u:=.Zn f[a]) (al f) (by simp[Y]) B;exact kN ?_;cbv;exact aO (u:=.Zn f[a]) (al f) (by simp[Y]) B (xk (lD ?_));by_cases hc:f[a]|||bh=f[a];apply eU (decide_eq_false (by rw[hc];simp));cbv;exact qR ?_;cbv;exact aO (l:=o.map V.bool) (u:=.bool o[a]) rfl (by simp[bd]) B (fk ?_);have a6:∃l4,Sub l4 (YV (YV [("grammar",cO g),("nullables",.Zo .list (o.map V.bool)),("firsts",.Zo .list (n.map V.Zn)),("follows",.ref (aa H+1)),("is_grown",.bool b),("rule",gn (c,I)),("behind",.Zn bh)] "symbol" (.Zn a)) "behind" (.Zn (behind o n w (c.Zq.drop (aa c.Zq - (j+1))))))/\
    ∃(D:List Nat) (b:Bool),uL g.Zr g.tc N D/\(b=true->ij N D<ij N d)/\
    (b=false->D=d/\w=cN d c.Zl/\(∀r∈g.Zr.take I,∀(i a:Nat),r.Zq[i]?=Zs a->g.tc<=a->cN d a|||behind o n (cN d r.Zl) (r.Zq.drop (i+1))=cN d a)/\∀(i a:Nat),aa c.Zq - (j+1)<=i->c.Zq[i]?=Zs a->g.tc<=a->cN d a|||behind o n w (c.Zq.drop (i+1))=cN d a)/\ij N D<=ij N d/\H++YF.list [V.int 0]::[.list (f.map V.Zn)]=H++YF.list [V.int 0]::[.list (D.map V.Zn)]/\
    l4=[("grammar",cO g),("nullables",.Zo .list (o.map V.bool)),("firsts",.Zo .list (n.map V.Zn)),("follows",.ref (aa H+1)),("is_grown",.bool b),("rule",gn (c,I)),("behind",.Zn (behind o n w (c.Zq.drop (aa c.Zq - (j+1)))))]:=by
   exact⟨_,?_,f,b,y,J,λp=>⟨(q p).1,(q p).2.1,(q p).2.2.1,bN p cd hc⟩,A,rfl,rfl⟩
   walk_at "q sub"
  cases a7:o[a] with
  |true=>have z:=z.trans (if_pos (as.trans a7));exists fY rfl;exact aO (l:=n.map V.Zn) (u:=.Zn n[a]) rfl (by simp[a1]) B (kN ?_);rw[←z];cbv;show a6
  |false=>have z:=z.trans (if_neg (by rw[as.trans a7];decide));exists eU rfl;apply aO (l:=n.map V.Zn) (u:=.Zn n[a]) rfl (by simp[a1]) B;rw[←z];cbv;show a6
  apply fY (decide_eq_true (by show kM rfl rfl hc));have c0:ij N (f.set a (f[a]|||bh))<ij N f:=zz (ag Y) (LP hc) (bR.lt a _ (bO Y));cbv;exists aO (u:=.Zn f[a]) (al f) (by simp[Y]) B;exact kN ?_;cbv;apply fA (l:=f.map V.Zn) (bw f) (by simpa using Y) B;rw[←eS,c6];cbv;exact qR ?_;cbv;exact aO (l:=o.map V.bool) (u:=.bool o[a]) rfl (by simp[bd]) B (fk ?_);have a6:∃l4,Sub l4 (YV (YV (YV [("grammar",cO g),("nullables",.Zo .list (o.map V.bool)),("firsts",.Zo .list (n.map V.Zn)),("follows",.ref (aa H+1)),("is_grown",.bool b),("rule",gn (c,I)),("behind",.Zn bh)] "symbol" (.Zn a)) "is_grown" (.bool true)) "behind" (.Zn (behind o n w (c.Zq.drop (aa c.Zq - (j+1))))))/\
    ∃(D:List Nat) (b:Bool),uL g.Zr g.tc N D/\(b=true->ij N D<ij N d)/\
    (b=false->D=d/\w=cN d c.Zl/\(∀r∈g.Zr.take I,∀(i a:Nat),r.Zq[i]?=Zs a->g.tc<=a->cN d a|||behind o n (cN d r.Zl) (r.Zq.drop (i+1))=cN d a)/\∀(i a:Nat),aa c.Zq - (j+1)<=i->c.Zq[i]?=Zs a->g.tc<=a->cN d a|||behind o n w (c.Zq.drop (i+1))=cN d a)/\ij N D<=ij N d/\H++YF.list [V.int 0]::[.list ((f.set a (f[a]|||bh)).map V.Zn)]=H++YF.list [V.int 0]::[.list (D.map V.Zn)]/\
    l4=[("grammar",cO g),("nullables",.Zo .list (o.map V.bool)),("firsts",.Zo .list (n.map V.Zn)),("follows",.ref (aa H+1)),("is_grown",.bool b),("rule",gn (c,I)),("behind",.Zn (behind o n w (c.Zq.drop (aa c.Zq - (j+1)))))]:=by
   exact⟨_,?_,_,true,bR,λM=>by show aj c0 A,by simp,by show a_ (aj c0 A),rfl,rfl⟩
   walk_at "q sub"
  cases a7:o[a] with
  |true=>have z:=z.trans (if_pos (as.trans a7));exists fY rfl;exact aO (l:=n.map V.Zn) (u:=.Zn n[a]) rfl (by simp[a1]) B (kN ?_);rw[←z];cbv;show a6
  |false=>have z:=z.trans (if_neg (by rw[as.trans a7];decide));exists eU rfl;apply aO (l:=n.map V.Zn) (u:=.Zn n[a]) rfl (by simp[a1]) B;rw[←z];cbv;show a6
  intro l1 _;apply nA;intro f b y J q A;have c1:=fN (l:=g.Zr) (i:=I);rw[b3] at c1;cbv;exact qS _ ?_ (Hn f b y J (λp=>⟨(q p).1,λr G i a U c2=>?_⟩) A rfl rfl);walk_at "q sub";rw[c1] at G;rcases aE.mp G with G|G
  show(q p).2.2.1 r G i a U c2;simp at G;subst G;have:=(q p).2.2.2 i a TO U c2;rw[(q p).2.1] at this;show this;intro l0 _;apply nA;intro f b y J q A;cbv;exact GV _ _ ?_ ?_ (C5 f b y rfl (λp=>?_) rfl rfl);cases b with
  |true=>have:=J rfl;simp;show this
  |false=>show jH _
  walk_at "q sub";have:=(q p).2;rw[fC,bJ] at this;rw[(q p).1];show this
 walk_at "q sub"
end
noncomputable abbrev l7(a:List (List Nat)):V:=.Zo .list (a.map λr=>.Zo .list (r.map .Zn))
noncomputable def dR(a:List (List Nat))(x:Nat):List Nat:=a[x]?.getD []
structure xR(rows:List (List Nat))(n:Nat):Prop where
 len:aa rows=n
 cnt:n<=1000000
 lt:∀r∈rows,∀y∈r,y<n
 row:∀r∈rows,aa r<=1000000
structure DH(B:Nat)(T:Hp)(Q Y U:List Nat)(N:Nat)(L:List Fm)(M:List Nat):Prop where
 r:T[0]?=Zs (.list (Q.map .Zn))
 h:T[2]?=Zs (.list (Y.map .Zn))
 p:T[3]?=Zs (.list (U.map .Zn))
 f:T[N]?=Zs (.list (M.map λj=>.ref (B+j)))
 IF:4<=N
 len:aa M=aa L
 nd:M.Nodup
 ne:∀j∈M,4<=j/\j≠N/\j<aa T
 fr:∀(k j:Nat) (f:Fm),M[k]?=Zs j->L[k]?=Zs f->T[j]?=Zs (.list [.Zn f.x,.Zn f.p,.Zn f.i])
section
variable{B:Nat}{T:Hp}{Q Y U:List Nat}{N:Nat}{L:List Fm}{M:List Nat}
theorem bB(h:T[b]?=Zs d)(e:a≠b):(T.set a c)[b]?=Zs d:=by rw[eg e];show h
theorem eQ(h:T[a]?=Zs d):(T.set a c)[a]?=Zs c:=bO (ae.mp h).1
theorem DH.P_(D:DH B T Q Y U N L M)(a:List Nat):DH B (T.set 0 (.list (a.map .Zn))) a Y U N L M:=⟨eQ D.r,bB D.h ⋯,bB D.p ⋯,bB D.f (by have:=D.IF;show Ne.symm (w9 this)),D.IF,D.len,D.nd,λj c=>by have:=D.ne j c;simpa using this,λk j f b d=>bB (D.fr k j f b d) (by have:=D.ne j (ai b);show bj (aj ⋯ this.1))⟩
theorem DH.Nt(D:DH B T Q Y U N L M)(a:List Nat):DH B (T.set 2 (.list (a.map .Zn))) Q a U N L M:=⟨bB D.r ⋯,eQ D.h,bB D.p ⋯,bB D.f (by have:=D.IF;show bj (aj ⋯ this)),D.IF,D.len,D.nd,λj c=>by have:=D.ne j c;simpa using this,λk j f b d=>bB (D.fr k j f b d) (by have:=D.ne j (ai b);show bj (aj ⋯ this.1))⟩
theorem DH.Qa(D:DH B T Q Y U N L M)(a:List Nat):DH B (T.set 3 (.list (a.map .Zn))) Q Y a N L M:=⟨bB D.r ⋯,bB D.h ⋯,eQ D.p,bB D.f (by have:=D.IF;show bj this),D.IF,D.len,D.nd,λj c=>by have:=D.ne j c;simpa using this,λk j f b d=>bB (D.fr k j f b d) (by have:=D.ne j (ai b);show bj (aj ⋯ this.1))⟩
theorem DH.Qb(D:DH B T Q Y U N L M)(f:Fm):DH B ((T++[YF.list [V.Zn f.x,V.Zn f.p,V.Zn f.i]]).set N (.list ((M++[aa T]).map λj=>.ref (B+j)))) Q Y U N (L++[f]) (M++[aa T]):=by
 walk_at "@B T Q Y U N L M f|D";have m:N<aa T:=(ae.mp D.f).1;have i:∀{k:Nat} {c d:YF},T[k]?=Zs d->(T++[c])[k]?=Zs d:=λ{k c d} h=>by rw[ar (ae.mp h).1];show h
 have:=D.IF;exact⟨bB (i D.r) (w9 this),bB (i D.h) (Pa this),bB (i D.p) (Ne.symm (bj this)),eQ (i D.f),D.IF,by simp[D.len],?_,λj n=>?_,λk j g e l=>?_⟩;rw[cz];exact⟨D.nd,by simp,λa o b p=>?_⟩;rw[au.mp p];have:=D.ne a o;show bj this.2.2;rcases aE.mp n with h|h
 have:=D.ne j h;simp;show⟨this.1,this.2.1,jt _ this.2.2⟩;rw[au.mp h];simp;show⟨af this (a_ m),fj m⟩;rcases b9 k (aa M) with q|q
 rw[ar q] at e;rw[ar (by rw[←D.len];show q)] at l;show bB (i (D.fr k j g e l)) (by have:=D.ne j (ai e);show this.2.1.symm);have r:k=aa M:=by have:=(ae.mp e).1;simp at this;show fu q this
 subst r;rw[aH (ax _)] at e;rw[aH (by rw[D.len];show ax _),D.len] at l;simp at e l;subst e;subst l;exact bB ?_ (bj m);rw[aH (ax _)];simp
theorem DH.VU{i:List Fm}{b:List Nat}{f:Fm}{j:Nat}(D:DH B T Q Y U N (i++[f]) (b++[j]))(c:Fm):DH B (T.set j (.list [.Zn c.x,.Zn c.p,.Zn c.i])) Q Y U N (i++[c]) (b++[j]):=by
 walk_at "@B T Q Y U N i b f j c|D";have l:=D.ne j vQ;have p:T[j]?=Zs T[j]:=ag l.2.2;have d:aa b=aa i:=by have:=D.len;simpa using this
 have o:=D.nd;rw[cz] at o;exact⟨bB D.r (by omega),bB D.h (fj (aj ⋯ l.1)),bB D.p (fj (aj ⋯ l.1)),bB D.f (Ss l),D.IF,by simp[d],D.nd,λk n=>by have:=D.ne k n;simpa using this,λk m g a h=>?_⟩;rcases b9 k (aa b) with q|q
 rw[ar q] at a;rw[ar (cJ q d)] at h;show bB (D.fr k m g (by rw[ar q];show a) (by rw[ar (cJ q d)];show h)) λe=>o.2.2 m (ai a) j (.head _) e.symm;have n:k=aa b:=by have:=(ae.mp a).1;simp at this;show fu q this
 subst n;rw[aH (ax _)] at a;rw[aH (aX (id (Eq.symm d))),d] at h;simp at a h;subst a;subst h;show eQ p
theorem DH.VV{b:List Fm}{a:List Nat}{f:Fm}{j:Nat}(D:DH B T Q Y U N (b++[f]) (a++[j])):DH B (T.set N (.list (a.map λj=>.ref (B+j)))) Q Y U N b a:=by
 have:=D.IF;have h:aa a=aa b:=by have:=D.len;simpa using this
 exact⟨bB D.r (w9 this),bB D.h (Pa this),bB D.p (Ne.symm (bj this)),eQ D.f,D.IF,h,?_,λk i=>by have:=D.ne k (by simp[i]);simpa using this,λk m g c d=>?_⟩;have e:=D.nd;rw[cz] at e;show e.1;exact bB (D.fr k m g ?_ ?_) (by have:=D.ne m (p5 (ai c));show this.2.1.symm);rw[ar (ae.mp c).1];show c;rw[ar (ae.mp d).1];show d
end
section
variable{H:Hp}
variable(O:fy C mg mb)(K:Cs C mg)(X:Fx C mg mb)
include O K X
theorem qr{d:List (List Nat)}{n:Nat}{ms:List Nat}{v:V}(R:xR d n)(w:YJ H v=Zs (.list (ms.map V.Zn)))(be:ms.length=n):
  dq C 1 (.ref (233:Addr)) H [.Zn n,l7 d,v] λu H'=>(∃Q:List Nat,u= .Zo .list (Q.map V.Zn)/\EH (dR d) ms n Q)/\H'=H:=by
 walk_at "@H d n ms v|O K X R w be"
 exact ot (gT O X.digraph.f ["count","relation","masks"] (λct cv L=>?_) (by show xK λ_a _a _a _a _a _a _a _a _a _a=>rfl))
 exact(?_:gM C 0 _ [("count",.Zn n),("relation",l7 d),("masks",v)] H _ _)
 have s:=R.cnt
 cbv
 exists eF O X.uR
 apply kW w (by rw[aq];show le_of_eq_of_le be s)
 cbv
 exact qI ?_
 cbv
 exists mL (v:=.Zn 0) Cg s
 exact jy ?_
 cbv
 exact qI ?_
 cbv
 have e1:H++[YF.list (ms.map V.Zn)]++[YF.list [V.int 0]]++[YF.list (aw n (V.Zn 0))]++[YF.list []]=H++[.list (ms.map V.Zn),.list [.int 0],.list ((aw n 0).map V.Zn),.list (([]:List Nat).map V.Zn)]:=by simp
 rw[e1]
 exact N2 n (λk l0 H'=>∃T Q Y,H'=H++T/\T[0]?=Zs (.list (Q.map V.Zn))/\T[2]?=Zs (.list (Y.map V.Zn))/\T[3]?=Zs (.list (([]:List Nat).map V.Zn))/\TI (dR d) ms n Q Y [] []/\(∀v,v<k->cN Y v≠0)/\l0=[("count",.Zn n),("relation",l7 d),("result",.ref (H.length+0)),("heights",.ref (H.length+2)),("done",.Zn (n+1)),("pile",.ref (H.length+3))]) ?_ ?_ ?_
 ·exists eF O X.mu;exact gi ⟨⟨_,?_,_,ms,_,rfl,rfl,rfl,rfl,TI.init be,λv w=>absurd w (eA _),rfl⟩,s,rfl⟩;walk_at "q subs"
 ·intro k l0 _ hk;apply p4;intro T Q Y t0 t2 t3 g G;have bh:k<Y.length:=by rw[g.lh];show hk
  have bi:=ke bh;walk_at "@ct cv L k T Q Y|hk t0 t2 t3 g G bh bi";have c1:4<=T.length:=(ae.mp t3).1;cbv;exists aO (u:=.Zn Y[k]) (a9.trans t2) (mX ∅) (o3 hk s);exact xk (lD ?_);rw[←bi];by_cases h0:cN Y k=0;rotate_left
  ·exists fY (decide_eq_true (qB.mpr h0));exact⟨_,?_,T,Q,Y,rfl,t0,t2,t3,g,λv w=>?_,rfl⟩
   ·walk_at "q sub"
   ·by_cases e:v=k
    ·subst e;show h0
    ·show G v (Ki w e)
  exists eU (decide_eq_false (not_not_intro (congrArg Bz h0)));exists jd O;exists jl (cZ (a9.trans t3)) rfl;apply c9 (a9.trans t3) (bz _);rw[dG];have e2:([]:List Nat).map V.Zn++[V.int (k:Int)]=[k].map V.Zn:=rfl;rw[e2];have ac:(T.set 3 (YF.list ([k].map V.Zn)))[3]?=Zs (YF.list ([k].map V.Zn)):=eQ t3;have al:(T.set 3 (YF.list ([k].map V.Zn)))[2]?=Zs (YF.list (Y.map V.Zn)):=bB t2 ⋯;have bm:(T.set 3 (YF.list ([k].map V.Zn)))[0]?=Zs (YF.list (Q.map V.Zn)):=bB t0 ⋯;have c2:(T.set 3 (YF.list ([k].map V.Zn))).length=T.length:=b_;generalize T.set 3 (YF.list ([k].map V.Zn))=I at ac al bm c2⊢;cbv;exists eF O X.jm;exists dm (a9.trans ac) (jH _);apply fA (l:=Y.map V.Zn) (a9.trans al) (Hu ∅) (o3 hk s);have e3:(Y.map V.Zn).set k (V.int (([k].map V.Zn).length:Nat))=(Y.set k 1).map V.Zn:=by rw[eS];rfl
  rw[dG,e3];have am:(I.set 2 (YF.list ((Y.set k 1).map V.Zn)))[3]?=Zs (YF.list ([k].map V.Zn)):=bB ac ⋯;have bn:(I.set 2 (YF.list ((Y.set k 1).map V.Zn)))[2]?=Zs (YF.list ((Y.set k 1).map V.Zn)):=eQ al;have bs:(I.set 2 (YF.list ((Y.set k 1).map V.Zn)))[0]?=Zs (YF.list (Q.map V.Zn)):=bB bm ⋯;have an:(I.set 2 (YF.list ((Y.set k 1).map V.Zn))).length=T.length:=b_.trans ∅;generalize I.set 2 (YF.list ((Y.set k 1).map V.Zn))=o at am bn bs an⊢;cbv;exists eF O X.jm;exists dm (a9.trans am) (jH _);exact qI ?_;cbv;exact qI ?_;cbv;have c3:=g.start hk h0;have e4:H++o++[YF.list [V.int (k:Int),V.int (([k].map V.Zn).length:Nat),V.int 0]]++[YF.list [V.ref (H++o).length]]=H++(o++[YF.list [V.Zn k,V.Zn 1,V.Zn 0],YF.list [V.ref (H.length+o.length)]]):=by simp
  have e5:(H++o++[YF.list [V.int (k:Int),V.int (([k].map V.Zn).length:Nat),V.int 0]]).length=H.length+(o.length+1):=Hv;rw[e4,e5];have D0:DH H.length (o++[YF.list [V.Zn k,V.Zn 1,V.Zn 0],YF.list [V.ref (H.length+o.length)]]) Q (Y.set k 1) [k] (o.length+1) [⟨k,1,0⟩] [o.length]:=by
   have up:∀{j:Nat} {c:YF} {L:Hp},o[j]?=Zs c->(o++L)[j]?=Zs c:=λ{j c L} h=>by rw[ar (ae.mp h).1];show h
   exact⟨up bs,up bn,up am,?_,af (mI (af c1 (aX an.symm))) (aX (by simp)),rfl,by simp,λj hj=>?_,λm j f h1 h2=>?_⟩
   ·rw[aH (aW _ _)];simp
   ·rw[au.mp hj];simp;show le_of_le_of_eq c1 (id (Eq.symm an))
   ·cases m with
    |zero=>simp at h1 h2;subst h1;subst h2;rw[aH (ax _)];simp
    |succ m=>show nS h1
  generalize o++[YF.list [V.Zn k,V.Zn 1,V.Zn 0],YF.list [V.ref (H.length+o.length)]]=T3 at D0⊢;generalize o.length+1=N at D0⊢;generalize[o.length]=M at D0;have c4:∀v,v<k+1->cN (Y.set k 1) v≠0:=λv w=>by
   rw[jU bh];split
   ·decide
   ·show G v (Ki w ‹_›)
  clear g t0 t2 t3 ac al bm am bn bs c2 an G e2 e3 e4 e5 bi h0;exact JA (λm l0 H'=>∃T Q Y U L M,DH H.length T Q Y U N L M/\TI (dR d) ms n Q Y U L/\(∀v,v<k+1->cN Y v≠0)/\m=t4 (dR d) n Y+DJ (dR d) L/\H'=H++T/\l0=[("count",.Zn n),("relation",l7 d),("result",.ref (H.length+0)),("heights",.ref (H.length+2)),("done",.Zn (n+1)),("pile",.ref (H.length+3)),("frames",.ref (H.length+N))]) ?_ _ _ ?_ ⟨T3,Q,_,_,_,M,D0,c3,c4,rfl,rfl,rfl⟩;rotate_left
  ·walk_at "q subs"
  clear D0 c3 c4;intro m l0 _;apply Fv;intro T Q Y U L M D g G;exact qR ?_;cbv;have a2:L.length<=n:=by
   have cI:(L.map λf=>f.p - 1).Nodup:=by exact cK.mpr (d_ (λ{a b} ha hb h=>?_) g.inc);have:=(g.fr a ha).1;show bj (f9 (a8 this) h)
   have:=cY (n:=n) cI (λx hx=>by exact E12 (ay.mp hx) λf hf d1=>?_;subst d1;have:=(ae.mp (g.fr f hf).2.1).1;have:=g.Nk;show aj ‹_› this);show aq _▸(this)
  apply Ds (a9.trans D.f) (by rw[aq,D.len];show af a2 s);rcases mS L with e|⟨fs,f,e⟩
  ·subst e;have hi:M=[]:=by have:=D.len;simpa using this
   subst hi;exists eU rfl;have hp:U=[]:=by
    rcases g.bot with⟨_,h⟩|⟨f,h,_⟩
    ·show h
    ·show nS h
   subst hp;exact qS _ ?_ (Mr T Q Y rfl D.r D.h D.p g G rfl);walk_at "q sub"
  have e:L=fs++[f]:=by simpa using e
  subst e;exact E21 (by
   rcases mS M with e|⟨B,j,e⟩
   ·subst e;have:=D.len;simp at this
   ·show Mp B j (by simpa using e):∃B j,M=B++[j]) ?_;intro B j d2;subst d2
  obtain⟨x,p,i⟩:=f;apply fY (by simp);have ap:B.length=fs.length:=by have:=D.len;simpa using this
  have a0:T[j]?=Zs (.list [.Zn x,.Zn p,.Zn i]):=D.fr fs.length j ⟨x,p,i⟩ (by rw[←ap];show sS) sS;exact E03 (g.fr ⟨x,p,i⟩ vQ) λc5 a3 bv=>?_;walk_at "@N T Q Y U fs B j x p i|G g a2 e D ap a0 c5 a3 bv";try dsimp only at c5 a3 bv
  have d3:=ai a3;have E:x<n:=g.pl x d3;have d4:=g.Nk;have as:x<d.length:=by rw[R.len];show E
  have aM:dR d x=d[x]:=by unfold dR;rw[ag as];rfl
  have d5:d[x].length<=1000000:=R.row _ (dw as);have a6:x<Y.length:=by rw[g.lh];show E
  have aY:x<Q.length:=by rw[g.lr];show E
  rw[aM] at bv;cbv;exact AM (ev_int ⟨_,rfl,BQ (u:=.ref (H.length+j)) (a9.trans D.f) (by simp) ?_⟩);cbv;exists lO (a9.trans a0);exists lO (a9.trans a0);exists eF O X.jm;exists aO (l:=d.map λr=>.Zo .list (r.map .Zn)) (u:=.Zo .list (d[x].map .Zn)) rfl (mX ∅) (o3 E s);exact dm (l:=d[x].map .Zn) rfl (NT ∅) (qC (lD ?_));rw[aq];by_cases hi:i<d[x].length
  ·apply fY (decide_eq_true (dB.mpr hi));have a4:(dR d x)[i]?=Zs d[x][i]:=by rw[aM];show ag hi
   have J:d[x][i]<n:=R.lt _ (dw as) _ (dw hi);have c6:(d[x].map V.Zn)[i]?=Zs (.Zn d[x][i]):=mX ∅;have d6:((i:Nat):Int)<2^62:=o3 hi d5;generalize d[x][i]=y at a4 J c6;have a1:y<Y.length:=by rw[g.lh];show J
   have bw:y<Q.length:=by rw[g.lr];show J
   have bA:=ke a1;have bI:=ke a6;have c7:=ke bw;have c8:=ke aY;cbv;exists aO (l:=d.map λr=>.Zo .list (r.map .Zn)) (u:=.Zo .list (d[x].map .Zn)) rfl (by simp[as]) (o3 E s);exact lO (a9.trans a0) (aO (l:=d[x].map .Zn) (u:=.Zn y) rfl c6 d6 ?_);cbv;exists aO (u:=.Zn Y[y]) (a9.trans D.h) (by simp[a1]) (o3 J s);exact rh (lD ?_);rw[←bA];by_cases a5:cN Y y=0
   ·apply fY (decide_eq_true (congrArg Bz a5));have c':=g.push J a4 a5;have bL:U.length+1<=n:=by have:=c'.Nk;simpa using this
    cbv;exists jd O;exists jl (cZ (a9.trans D.p)) rfl;apply c9 (a9.trans D.p) (by simp;show RQ bL s);have e2:U.map V.Zn++[V.Zn y]=(U++[y]).map V.Zn:=by simp
    rw[dG,e2];have t:=D.Qa (U++[y]);generalize T.set 3 (YF.list ((U++[y]).map V.Zn))=I at t⊢;cbv;exists eF O X.jm;apply dm (a9.trans t.p) (by simp;show bG (af bL s));cbv;apply fA (l:=Y.map V.Zn) (a9.trans t.h) (by simpa using a1) (o3 J s);have e3:(Y.map V.Zn).set y (V.int (((U++[y]).map V.Zn).length:Nat))=(Y.set y (U.length+1)).map V.Zn:=by rw[eS,aq,bC];rfl
    rw[dG,e3];have A:=t.Nt (Y.set y (U.length+1));generalize I.set 2 (YF.list ((Y.set y (U.length+1)).map V.Zn))=o at A⊢;cbv;exists jd O;exists jl (cZ (a9.trans A.f)) rfl;exists eF O X.jm;apply dm (a9.trans A.p) (by simp;show bG (af bL s));cbv;exact qI ?_;have D3:=A.Qb ⟨y,U.length+1,0⟩;have e4:H++o++[YF.list [V.int (y:Int),V.int (((U++[y]).map V.Zn).length:Nat),V.int 0]]=H++(o++[YF.list [V.Zn y,V.Zn (U.length+1),V.Zn 0]]):=by simp
    have e5:(H++o).length=H.length+o.length:=by simp
    rw[e4,e5];have d7:(o++[YF.list [V.Zn y,V.Zn (U.length+1),V.Zn 0]])[N]?=Zs (.list ((B++[j]).map λj=>.ref (H.length+j))):=by rw[ar (ae.mp A.f).1];show A.f
    cbv;apply c9 (a9.trans d7) (by simp;simp at a2;show(ap▸Fo (af a2 s)));have e6:((B++[j]).map λj=>V.ref (H.length+j))++[V.ref (H.length+o.length)]=((B++[j]++[o.length]).map λj=>V.ref (H.length+j)):=by simp
    rw[dG,e6];cbv;exact⟨_,_,?_,?_,_,Q,_,_,_,_,D3,c',λv w=>?_,rfl,rfl,rfl⟩
    ·have hd:=Gh (T:=dR d) (n:=n) (Y:=Y) (a:=Y.set y (U.length+1)) (y:=y) (λv w=>by rw[jU a1];split;show Ne.symm (gz _);show w) J a5 (by rw[jU a1,if_pos rfl];show Ne.symm (gz _));simp only[DJ,bo,n9,ck,mA,fO,r8];show Xn hd
    ·walk_at "q subs"
    ·rw[jU a1];split;show Ne.symm (gz _);show G v w
   ·apply eU (decide_eq_false (qB.mpr a5));have bN:=g.read J a4 a5;cbv;exists lO (a9.trans a0);exact jy ?_;cbv;apply wX (a9.trans a0);have e2:([V.Zn x,V.Zn p,V.Zn i]:List V).set (2:Int).toNat (V.Zn (i+1))=[V.Zn x,V.Zn p,V.Zn (i+1)]:=rfl;rw[dG,e2];have t:=D.VU ⟨x,p,i+1⟩;try dsimp only at t
    have a7:(T.set j (YF.list [V.Zn x,V.Zn p,V.Zn (i+1)]))[j]?=Zs (.list [.Zn x,.Zn p,.Zn (i+1)]):=eQ a0;generalize T.set j (YF.list [V.Zn x,V.Zn p,V.Zn (i+1)])=I at t a7⊢;have b1:∀o:Hp,DH H.length o Q (if cN Y y<cN Y x then Y.set x (cN Y y) else Y) U N (fs++[⟨x,p,i+1⟩]) (B++[j])->
      Es C 0 zk (H++o) [.ref (H.length+0),.Zn x,.Zn (cN Q x|||cN Q y)] λH'=>∃m l4,m<t4 (dR d) n Y+DJ (dR d) (fs++[⟨x,p,i⟩])/\Sub l4 (YV (YV (YV [("count",.Zn n),("relation",l7 d),("result",.ref (H.length+0)),("heights",.ref (H.length+2)),("done",.Zn (n+1)),("pile",.ref (H.length+3)),("frames",.ref (H.length+N))] "frame" (.ref (H.length+j))) "x" (.Zn x)) "y" (.Zn y))/\
       ∃T Q Y U L M,DH H.length T Q Y U N L M/\TI (dR d) ms n Q Y U L/\(∀v,v<k+1->cN Y v≠0)/\m=t4 (dR d) n Y+DJ (dR d) L/\H'=H++T/\
       l4=[("count",.Zn n),("relation",l7 d),("result",.ref (H.length+0)),("heights",.ref (H.length+2)),("done",.Zn (n+1)),("pile",.ref (H.length+3)),("frames",.ref (H.length+N))]:=by
     intro o A
     apply fA (l:=Q.map V.Zn) (a9.trans A.r) (by simpa using aY) (o3 E s)
     rw[dG,←eS]
     have ca:∀v,cN Y v≠0->cN (if cN Y y<cN Y x then Y.set x (cN Y y) else Y) v≠0:=λv w=>by
      split
      ·rw[jU a6];split;show a5;show w
      ·show w
     exact⟨_,_,?_,?_,_,_,_,_,_,_,A.P_ _,bN,λv w=>ca v (G v w),rfl,rfl,rfl⟩
     ·have hd:=zD (T:=dR d) (n:=n) ca;simp only[DJ,bo,n9,ck,mA,fO,r8,aM];show pg hd (br (iX (iX (Jv hi (f_ _)) 1) _) _)
     ·walk_at "q subs"
    cbv;exists aO (u:=.Zn Y[y]) (a9.trans t.h) (by simp[a1]) (o3 J s);exact aO (u:=.Zn Y[x]) (a9.trans t.h) (by simp[a6]) (o3 E s) (qC (lD ?_));rw[←bA,←bI];by_cases b2:cN Y y<cN Y x
    ·apply fY (decide_eq_true (dB.mpr b2));rw[if_pos b2] at b1;cbv;exists aO (u:=.Zn Y[y]) (a9.trans t.h) (by simp[a1]) (o3 J s);apply fA (l:=Y.map V.Zn) (a9.trans t.h) (by simpa using a6) (o3 E s);rw[dG,←bA,←eS];have A:=t.Nt (Y.set x (cN Y y));generalize I.set 2 (YF.list ((Y.set x (cN Y y)).map V.Zn))=o at A⊢;cbv;exists aO (u:=.Zn Q[x]) (a9.trans A.r) (by simp[aY]) (o3 E s);exact aO (u:=.Zn Q[y]) (a9.trans A.r) (by simp[bw]) (o3 J s) (kN ?_);rw[←c8,←c7];cbv;show Es.mono (b1 o A) λ_a h=>uB (st_cont h)
    ·apply eU (decide_eq_false (OY b2));rw[if_neg b2] at b1;cbv;exists aO (u:=.Zn Q[x]) (a9.trans t.r) (by simp[aY]) (o3 E s);exact aO (u:=.Zn Q[y]) (a9.trans t.r) (by simp[bw]) (o3 J s) (kN ?_);rw[←c8,←c7];cbv;show Es.mono (b1 I t) λ_a h=>uB (st_cont h)
  ·apply eU (decide_eq_false (OY hi));have a4:(dR d x)[i]?=Zt:=by rw[aM];show cH (bS hi)
   have bI:=ke a6;cbv;exists jd O;exists jl (BU (a9.trans D.f)) rfl;have d':T[N]?=Zs (.list ((B.map λj=>.ref (H.length+j))++[.ref (H.length+j)])):=by rw[D.f];simp
   apply BX (a9.trans d') (by simp at a2⊢;show(ap▸af (aV a2) s));rw[dG];have t:=D.VV;have a7:(T.set N (YF.list (B.map λj=>.ref (H.length+j))))[j]?=Zs (.list [.Zn x,.Zn p,.Zn i]):=bB a0 (by have:=D.ne j vQ;show this.2.1.symm);generalize T.set N (YF.list (B.map λj=>.ref (H.length+j)))=I at t a7⊢;cbv;exists aO (u:=.Zn Y[x]) (a9.trans t.h) (mX ∅) (o3 E s);exact lO (a9.trans a7) (rh (lD ?_));rw[←bI];by_cases b3:cN Y x=p;rotate_left
   ·exists eU (decide_eq_false (kM rfl rfl b3));exact GV _ _ ?_ ?_ (Oy _ _ _ _ _ _ t (g.back a4 b3) G rfl rfl rfl)
    ·simp only[DJ,bo,n9,ck,mA,fO,r8];show Su
    ·walk_at "q subs"
   apply fY (decide_eq_true (congrArg Bz b3));have bN:=g.root a4 b3;cbv;exact AM (ev_int ⟨_,rfl,?_⟩);cbv;have cc:p - 1<U.length:=(ae.mp a3).1;exact JA (λm l0 H'=>∃T q z,m=q/\p - 1<=q/\q<=U.length/\(z=(x:Int)↔q=p - 1)/\DH H.length T (gS Q (U.drop q) (cN Q x)) (gS Y (U.drop q) (n+1)) (U.take q) N fs B/\H'=H++T/\l0=[("count",.Zn n),("relation",l7 d),("result",.ref (H.length+0)),("heights",.ref (H.length+2)),("done",.Zn (n+1)),("pile",.ref (H.length+3)),("frames",.ref (H.length+N)),("x",.Zn x),("last",.int z)]) ?_ _ _ ?_ ⟨I,U.length,-1,rfl,by show dy cc,ax _,by show Xt cc,?_,rfl,rfl⟩;rotate_left
   ·walk_at "q subs"
   ·rw[Ly,bJ];show t
   clear t a7 D a0;intro _ l0 _;apply C6;intro T q z cd da hz D;cbv;exact xk (lD ?_);by_cases b4:z=(x:Int)
   ·apply eU (decide_eq_false (by simpa using b4));have b5:=hz.mp b4;subst b5;cbv;exact GV _ _ ?_ ?_ (Oy _ _ _ _ _ _ D bN (λv w=>?_) rfl rfl rfl)
    ·have hd:=zD (T:=dR d) (n:=n) (Y:=Y) (a:=gS Y (U.drop (p - 1)) (n+1)) λv w=>by rw[pN (λu hu=>by rw[g.lh];show g.pl u (iU hu))];split;show Ne.symm (gz _);show w
     simp only[DJ,bo,n9,ck,mA,fO,r8];show pg hd (eE (aj (jH _) (aW _ _)))
    ·walk_at "q subs"
    ·rw[pN (λu hu=>by rw[g.lh];show g.pl u (iU hu))];split;show Ne.symm (gz _);show G v w
   ·apply fY (decide_eq_true b4);have b5:q≠p - 1:=λh=>b4 (hz.mpr h);exact E11 (⟨q - 1,(dp (a8 (ba cd b5.symm))).symm⟩:∃r,q=r+1) λr db=>?_;subst db;have b6:r<U.length:=da;have b':U[r]?=Zs U[r]:=ag b6;have a':U[r]<n:=g.pl _ (dw b6);have bR:U.drop r=U[r]::U.drop (r+1):=gF b6;have ce:U.take (r+1)=U.take r++[U[r]]:=YG b';have ch:U[r]=x↔r=p - 1:=⟨λh=>g.oW (by rw[b',h]) a3,λh=>Option.some.inj (b'.symm.trans (by rw[h];show a3))⟩;generalize U[r]=u at b' a' bR ce ch;cbv;exists jd O;exists jl (BU (a9.trans D.p)) rfl;have dk:T[3]?=Zs (.list ((U.take r).map V.Zn++[.Zn u])):=by rw[D.p,ce];simp
    apply BX (a9.trans dk) (by rw[aq,bP];show af (dX _ _) (af d4 s));rw[dG];have t:=D.Qa (U.take r);generalize T.set 3 (YF.list ((U.take r).map V.Zn))=o at t⊢;have ci:(gS Y (U.drop (r+1)) (n+1)).length=n:=by rw[nO,g.lh]
    have bd:(gS Q (U.drop (r+1)) (cN Q x)).length=n:=by rw[nO,g.lr]
    have cn:cN (gS Q (U.drop (r+1)) (cN Q x)) x=cN Q x:=by rw[pN (λu hu=>by rw[g.lr];show g.pl u (iU hu))];split<;>rfl
    have co:=ke (l:=gS Q (U.drop (r+1)) (cN Q x)) (i:=x) (by rw[bd];show E);have cp:gS Y (U.drop r) (n+1)=(gS Y (U.drop (r+1)) (n+1)).set u (n+1):=by rw[bR];rfl
    have cr:gS Q (U.drop r) (cN Q x)=(gS Q (U.drop (r+1)) (cN Q x)).set u (cN Q x):=by rw[bR];rfl
    generalize gS Y (U.drop (r+1)) (n+1)=c0 at t ci cp⊢;generalize gS Q (U.drop (r+1)) (cN Q x)=cs at t bd cr cn co⊢;cbv;apply fA (l:=c0.map V.Zn) (a9.trans t.h) (by simp[ci,a']) (o3 a' s);rw[dG,←eS];have A:=t.Nt (c0.set u (n+1));generalize o.set 2 (YF.list ((c0.set u (n+1)).map V.Zn))=T3 at A⊢;cbv;exact aO (u:=.Zn (cN Q x)) (a9.trans A.r) ?_ (o3 E s) ?_
    ·rw[ak,ag (by rw[bd];show E),←co,cn];rfl
    cbv;apply fA (l:=cs.map V.Zn) (a9.trans A.r) (by simp[bd,a']) (o3 a' s);rw[dG,←eS];have D3:=A.P_ (cs.set u (cN Q x));cbv;exact GV _ _ (f_ r) ?_ (Mr _ r (u:Int) rfl (bG (ba cd b5.symm)) (dy b6) (by rw[←ch];show ew) ?_ rfl rfl)
    ·walk_at "q subs"
    ·rw[cp,cr];show D3
 ·intro l0 _;apply p4;intro T Q Y t0 t2 t3 g G;cbv;show⟨_,rfl,_,_,rfl,.list (ax _) (a9.trans t0) (dQ.pure (c_ _)),Q,rfl,g.done G⟩
end
theorem dc{L:Hp}{c:YF}:(L++[c])[aa L]?=Zs c:=by rw[aH (ax _)];simp
theorem t8:(YS l).testBit t=true↔t∈l:=by
 have b:∀(l:List Nat) (m:Nat),(l.foldl (λm y=>m|||(1<<<y)) m).testBit t=true↔m.testBit t=true\/t∈l:=by
  intro l;induction l with
  |nil=>intro m;simp
  |cons a l c=>intro m;rw[e8,c,dD,di,i_,jq];(rw[bb,decide_eq_true_eq]);constructor;rintro((h|h)|h);show .inl h;show .inr (.inl h.symm);show .inr (.inr h);rintro(h|h|h);show .inl (.inl h);show .inl (.inr h.symm);show .inr h
 have:=b l 0;unfold YS;rw[this];simp
section
variable{H:Hp}
variable(O:fy C mg mb)(K:Cs C mg)(X:Fx C mg mb)
include O K X
theorem Nu(o:xR c n):
  dq C 2 (.ref (238:Addr)) H [.Zn n,l7 c] λu E=>(∃l:List Nat,u= .Zo .list (l.map V.Zn)/\aa l<=1000000/\∀x,x∈l↔x<n/\YU (λa b=>b∈dR c a) x x)/\E=H:=by
 walk_at "@H c n|O K X o"
 exact ot (gT O X.rings.f ["count","relation"] (λG I L=>?_) (jx λe e e e e e e e e=>rfl))
 walk_at "@G I L"
 exact(?_:gM C 1 _ [("count",.Zn n),("relation",l7 c)] H _ _)
 have q:=o.cnt
 cbv
 exists ik O X.digraph
 exact gv [] [] (iK (ev_name rfl ⟨⟨_,rfl⟩,mY trivial (f:=(c.map YS).map V.Zn) (ie fH) (by simp) (by simp[o.len];show q) (λk x y g j J Cl=>?_) ?_⟩)) trivial
 rw[ak] at g j;rw[ak] at j;exact E12 (bg.mp g) λr d M=>?_;subst M;rw[d] at j;have N:=Option.some.inj j;clear j;subst N;have Q:=o.lt r (ai d);exists ik O X.xN;show((vv O X.xN (l:=r) rfl (λy j=>by have:=Q y j;show a_ (aj this q))).mono (pV ⟨rfl,rfl⟩)).call
 cbv
 exact((qr O K X o (v:=.ref (aa H)) (ms:=c.map YS) Cg (RE o.len)).mono (Q6 λf w A=>?_)).call
 walk_at "@f|w A"
 cbv
 exact gv [(ah "behind",L+1)] [("behind",.Zo .list (f.map V.Zn))] (vk (eF O X.mu ?_)) ⟨⟨rfl,rfl,rfl,rfl⟩,trivial⟩ (M:=CW)
 cbv
 exact gi ⟨n,rfl,af q (aB 1000000 15777216),trivial,_,_,?_,yR (p:=λv=>match v with| .int i=>(cN f i.toNat).testBit i.toNat|_=>false) wN (by rw[aq,bZ];show q) (λk x g J Cl=>?_) ?_⟩
 show⟨bz _,rfl,rfl⟩
 rw[ak] at g;exact E12 (bg.mp g) λr d T=>?_;subst T;have B:r<n:=cf.mp (ai d);have U:r<aa f:=by rw[w];show B
 exists cU _ (.name rfl);exists aO (l:=f.map V.Zn) (u:=.Zn f[r]) rfl (mX ∅) (o3 B q);exact uG ?_;cbv;exists AL (n:=1);exact rh (lD ?_);rw[xQ];exact⟨?_,rfl,λe=>?_⟩;exact(?_:_=(cN f (r:Int).toNat).testBit (r:Int).toNat);rw[gw,ke U];cbv;show⟨rfl,rfl⟩
 cbv
 exact⟨_,rfl,_,_,av _ _ _,.list (by simp) dc (dQ.pure ?_),((aJ n).filter λx=>(cN f x).testBit x),?_,?_,λx=>?_⟩
 rw[V.zp];intro v s;exact E02 (dj.mp s) λs _=>E12 (ay.mp s) λr _ Y=>?_;subst Y;rfl
 congr 1;rw[List.filter_map];rfl
 have:=fc (λx=>(cN f x).testBit x) (aJ n);simp at this;show af this q
 walk_at "@x";rw[dj,cf];exact and_congr_right λg=>?_;rw[A x g];have D:∀z t,(cN (c.map YS) z).testBit t=true↔t∈dR c z:=λz t=>by
  unfold cN dR;rw[ak];cases c[z]? with
  |none=>simp
  |some r=>show t8
 constructor;intro a0;exact E12 a0 λz d m=>?_;rw[D] at m;rcases d with rfl|d
 show .one m;show d.trans (.one m);intro h;have a1:∀a b,YU (λa b=>b∈dR c a) a b->∃z,Rs (dR c) a z/\b∈dR c z:=by
  intro a b p;induction p with
  |one h=>show cU _ (.refl _) h
  |step h _ ih=>ext ih⟨z⟩d m;show cU z ((Rs.ig h).trans d) m
 show E12 (a1 _ _ h) λz d m=>cU z d ((D z x).mpr m)
noncomputable def Zj(c:List (List Nat))(n:Nat):Prop:=∃x,x<n/\YU (λa b=>b∈dR c a) x x
open Classical in
theorem Js{v:V}{l:YK}{m:List V}{o:V}{g j:List (List Nat)}{n:Nat}(d:YN H v=Zs (cL,dz l))(z:l.lookup "transitions"=Zs o)(A:YJ H o=Zs (.list m))(p:aa m=n)(B:l.lookup "reads"=Zs (l7 g))(D:l.lookup "turns"=Zs (l7 j))
  (q:xR g n)(E:xR j n):dq C 3 (.ref (320:Addr)) H [v] λu J=>u= .bool (decide (Zj g n\/Zj j n))/\J=H:=by
 walk_at "@H v l m o g j n|O K X d z A p B D q E"
 exact ot (gT O X.WN.f ["lookaheads"] (λU Y L=>?_) (YT λf f f f f f f f=>rfl))
 exact(?_:gM C 2 _ [("lookaheads",v)] H _ _)
 have M:=q.cnt
 cbv
 exists eF O X.jm
 exists cV O K.KL rfl rfl d z
 apply dm A (le_of_eq_of_le p M)
 rw[p]
 cbv
 have N:∀T:Hp,YN (H++T) v=Zs (cL,dz l):=λT=>by
  cases v with
  |obj c i=>
   dsimp only[YN] at d⊢;cases e:H[i]? with
   |none=>rw[e] at d;show nS d
   |some c=>rw[ar (ae.mp e).1,e];rw[e] at d;show d
  |Zo t l'=>cases t<;>show d
  |_=>show d
 have r:∀l:List Nat,decide (l≠[])=true↔∃x,x∈l:=λl=>by cases l<;>simp
 exact WH ?_
 cbv
 exists ik O X.rings
 exists cV O K.KL rfl rfl d B
 exact((Nu O K X q).mono (Q6 λs a0 G=>?_)).call
 cbv
 exact qI (jP nj (l:=s) (b:=[]) rfl (by simp[YJ]) ⟨_,rfl,?_⟩)
 by_cases k:s=[]
 exact eU (by(rw[k];rfl)) (VM ?_);cbv;exists ik O X.rings;exists cV O K.KL rfl rfl (N _) D;exact((Nu O K X E).mono (Q6 λw a1 I=>?_)).call;cbv;exact qI (jP nj (l:=w) (b:=[]) rfl (by simp[YJ]) ⟨_,rfl,_,_,av _ _ _,fE.pure rfl,?_⟩);have Q:¬Zj g n:=λ⟨x,a,b⟩=>by have:=(G x).mpr ⟨a,b⟩;rw[k] at this;cases this
 congr 1;rw[decide_eq_decide];constructor;intro h;show E11 ((r w).mp (decide_eq_true h)) λx y=>.inr ⟨x,(I x).mp y⟩;rintro(h|⟨x,h⟩);show absurd h Q;show of_decide_eq_true ((r w).mpr ⟨x,(I x).mpr h⟩)
 exact fY (decide_eq_true k) ⟨_,rfl,_,_,rfl,fE.pure rfl,E11 ((r s).mp (decide_eq_true k)) (λx y=>?_)⟩;have:Zj g n:=⟨x,(G x).mp y⟩;simp[this]
end
theorem zZ{g:Gr}{i:Nat}(a:i<aa g.owners):g.item (g.owner i) (g.dot i+1)=i+1:=by exact E16 (Gr.ee a) λr c b d e f h=>?_;unfold Gr.item Gr.dot;show Sv b
theorem nP{l:List Nat}{n:Nat}(h:l.Nodup)(a:∀x∈l,x<n):aa l<=n:=cY h a
noncomputable def xS(g:Gr)(a l:List Nat):Prop:=l.Pairwise (· <·)/\∀r,r∈l↔r≠0/\∃i∈a,g.after i=Zt/\g.owner i=r
theorem IG{g:Gr}{i j:Nat}(d:i<aa g.owners)(f:j<aa g.owners)(a:g.after i=Zt)(b:g.after j=Zt)(h:g.owner i=g.owner j):i=j:=by
 walk_at "@g i j|d f a b h";exact E16 (Gr.ee d) λr k l m y z p=>E16 (Gr.ee f) λq c s n A B t=>?_;unfold Gr.after at a b;rw[p] at a;rw[t] at b;have e:r=q:=by rw[h] at k;rw[k] at c;have u:=Option.some.inj c;clear c;subst u;rfl
 subst e;have v:=gD.mp a;have w:=gD.mp b;unfold Rl.len at m n;have o:g.dot i=i - g.off (g.owner i):=rfl;have x:g.dot j=j - g.off (g.owner j):=rfl;rw[h] at o l;show Xk m n o x l s v w
section
variable{H:Hp}
variable(O:fy C mg mb)(K:Cs C mg)(X:Fx C mg mb){g:Gr}
include O K X
theorem tA(c:mw g)(b:i<aa g.owners):dq C 2 (.ref (404:Addr)) H [cO g,.Zn i] λu d=>u= .Zn (i+1)/\d=H:=by exact gT O X.advanced.f ["grammar","item"] (λf h L=>?_) (jx λa a a a a a a a a=>rfl);exact((E16 (Gr.ee b) (λr j k l m e n=>?_)):gM C 1 _ [("grammar",cO g),("item",.Zn i)] H _ _);cbv;exists iL O K.KG X.item.m;exists oL (bU _ _) rfl;exists iL O K.KG X.oX.m;exists oL (bU _ _) rfl;exact((lP O K X.oX c b).mono (pV ?_)).call;cbv;exists iL O K.KG X.zH.m;exists oL (bU _ _) rfl;exact((rD O K X.zH c b).mono (pV ?_)).call;cbv;exact jy ?_;cbv;exact((vw O K X.item c e).mono (pV ?_)).call;show fP _ rfl (by rw[zZ b]) rfl
theorem sX(n:mw g){c:List Nat}(x:c.Nodup)(o:∀i∈c,i<aa g.owners):
  dq C 2 (.ref (418:Addr)) H [cO g,.Zo .list (c.map .Zn)] λu y=>(∃l:List Nat,u= .Zo .list (l.map V.Zn)/\xS g c l)/\y=H:=by
 walk_at "@H g c|O K X n x o"
 exact ot (gT O X.complete.f ["grammar","items"] (λI J L=>?_) (jx λf f f f f f f f f=>rfl))
 exact(?_:gM C 1 _ [("grammar",cO g),("items",.Zo .list (c.map .Zn))] H _ _)
 have z:=n.items
 have D:aa c<=101000:=af (nP x o) z
 let d:List Nat->List Nat:=λl=>(l.filter λi=>decide (g.after i=Zt)&&decide (g.owner i≠0)).map g.owner
 have j:∀l,d l=(l.filter λi=>decide (g.after i=Zt)&&decide (g.owner i≠0)).map g.owner:=λf=>rfl
 clear_value d
 cbv
 exact qI ?_
 cbv
 exact v3 V.Zn c (λk A y=>y=H++[.list ((d (c.take k)).map .Zn)]/\A=[("grammar",cO g),("items",.Zo .list (c.map .Zn)),("found",.ref (aa H))]) ?_ ?_ ?_
 cbv;exact⟨⟨_,?_,by rw[j];rfl,rfl⟩,λf _b _c _d=>rfl⟩;walk_at "q sub"
 intro k i A _ p;apply ja;walk_at "@I J L d k i|j p";have q:=o i (ai p);have v:(d (c.take k)).length<=101000:=by rw[j,aq];have:=fc (λi=>decide (g.after i=Zt)&&decide (g.owner i≠0)) (c.take k);rw[bP] at this;show af (af this (dX _ _)) D
 have B:d (c.take (k+1))=d (c.take k)++(if decide (g.after i=Zt)&&decide (g.owner i≠0) then[g.owner i] else[]):=by rw[j,j,YG p,iF,bo];congr 1;rw[jo];split<;>rfl
 generalize d (c.take k)=Fk at v B⊢;cbv;exact tS ?_;cbv;exists iL O K.KG X.after.m;exists oL (bU _ _) rfl;exact((t6 O K X.after X.jm n q).mono (pV ?_)).call;cbv;have skip:∀Q':Prop,(¬(g.after i=Zt/\g.owner i≠0))->∃E,Sub E (YV [("grammar",cO g),("items",.Zo .list (c.map .Zn)),("found",.ref (aa H))] "item" (.Zn i))/\H++[YF.list (Fk.map V.Zn)]=H++[.list ((d (c.take (k+1))).map .Zn)]/\
   E=[("grammar",cO g),("items",.Zo .list (c.map .Zn)),("found",.ref (aa H))]:=λf M=>by
  exact fP _ ?_ ?_ rfl
  walk_at "q sub"
  rw[B,if_neg (by simpa using M),dY]
 cases N:g.after i with
 |some s=>exact qC (a:=(s:Int)) (b:=0) (lD (eU (decide_eq_false (qw _)) (eU rfl ?_)));cbv;show skip True (by simp[N])
 |none=>exact qC (a:= -1) (b:=0) (lD (fY rfl (p8 ?_)));cbv;exists iL O K.KG X.oX.m;exists oL (bU _ _) rfl;exact((lP O K X.oX n q).mono (pV ?_)).call;cbv;exact xk (a:=(g.owner i:Int)) (b:=0) (lD ?_);by_cases w:g.owner i=0;exists eU (decide_eq_false (not_not_intro (congrArg Bz w)));show skip True (by simp[w]);exists fY (decide_eq_true (qB.mpr w));exists jd O;exists jl (cZ (l:=Fk.map V.Zn) fB) rfl;exists iL O K.KG X.oX.m;exists oL (bU _ _) rfl;exact((lP O K X.oX n q).mono (pV ?_)).call;cbv;apply c9 fB (by rw[aq];show Kj v);rw[mE];cbv;exact fP _ ?_ ?_ rfl;walk_at "q sub";rw[B,if_pos (My (decide_eq_true ∅) (decide_eq_true ∅)),bo];rfl
 intro A _;apply ja;rw[bJ];have Q:∀r,r∈d c↔r≠0/\∃i∈c,g.after i=Zt/\g.owner i=r:=λr=>by rw[j,ay];constructor;intro T;exact E12 T λi q U=>?_;subst U;exact E02 (dj.mp q) λt m=>?_;simp at m;show⟨m.2,i,t,m.1,rfl⟩;intro Y;exact E02 Y λw a0=>E13 a0 λi t m a1=>?_;subst a1;show cU i (dj.mpr ⟨t,My (decide_eq_true ∅) (decide_eq_true ∅)⟩) rfl
 have a2:(d c).Nodup:=by rw[j];exact cK.mpr (d_ (λ{a b} p z h e=>E02 (dj.mp p) (λt m=>E02 (dj.mp z) (λh3 G=>?_))) (x.sublist hO));simp at m G;show h (IG (o a t) (o b h3) m.1 G.1 e)
 have v:(d c).length<=101000:=by rw[j,aq];have:=fc (λi=>decide (g.after i=Zt)&&decide (g.owner i≠0)) c;show af this D
 cbv;exists eF O X.jF;exact tj (l:=d c) Cg a2 (Kj v) λl' hp hs=>⟨_,rfl,_,_,av _ _ _,.list (by simp) dc (dQ.pure (c_ _)),l',rfl,hs,λr=>?_⟩;rw[hp.mem_iff];show Q r
end
structure KB(g:Gr)(its:List Nat)(fd:List (Nat×List Nat)):Prop where
 nd:(fd.map (·.1)).Nodup
 val:∀p∈fd,p.2=(its.filter λi=>decide (g.after i=Zs p.1)).map (· +1)
 key:∀s,s∈fd.map (·.1)↔∃i∈its,g.after i=Zs s
theorem KB.nil{g:Gr}:KB g [] []:=⟨by show .nil,by show λa h=>nm h,by simp⟩
theorem rE{b:Type}{p:b->Bool}{l:List b}{a:b}:(l++[a]).filter p=l.filter p++if p a then[a] else[]:=by rw[iF,jo];split<;>rfl
theorem KB.skip{g:Gr}{b:List Nat}{c:List (Nat×List Nat)}{i:Nat}(h:KB g b c)(d:g.after i=Zt):KB g (b++[i]) c:=by
 exact⟨h.nd,λp e=>?_,λs=>?_⟩;rw[rE,if_neg (by simp[d]),dY];show h.val p e;rw[h.key s];constructor;ext _⟨j⟩a h2;show cU j (p5 ∅) h2;ext _⟨j⟩a h2;rcases aE.mp a with a|a
 show cU j a h2;rw[au.mp a,d] at h2;cases h2
theorem KB.new{g:Gr}{k:List Nat}{l:List (Nat×List Nat)}{i s:Nat}(h:KB g k l)(m:g.after i=Zs s)(n:s∉l.map (·.1)):KB g (k++[i]) (l++[(s,[i+1])]):=by
 walk_at "@g k l i s|h m n";exact⟨?_,λp d=>?_,λt=>?_⟩;rw[bo,cz];exact⟨h.nd,by simp,λa q b o=>?_⟩;simp at o;subst o;show λe=>n (e▸q);rw[rE];rcases aE.mp d with d|d
 have r:p.1≠s:=λe=>n (e▸bY d);rw[if_neg (by rw[m];simp;show λe=>r e.symm),dY];show h.val p d;rw[au.mp d];dsimp only;rw[if_pos (decide_eq_true ∅)];have:k.filter (λi=>decide (g.after i=Zs s))=[]:=by rw[Eh];intro j u v;show n ((h.key s).mpr ⟨j,u,by simpa using v⟩)
 exact(?_:[i+1]=_);rw[this];rfl;rw[bo,aE,h.key t];constructor;rintro(⟨j,c,f⟩|c);show cU j (p5 ∅) f;simp at c;subst c;show cU i vQ m;ext _⟨j⟩c f;rcases aE.mp c with c|c
 show .inl ⟨j,c,f⟩;rw[au.mp c,m] at f;have w:=Option.some.inj f;clear f;subst w;show .inr (.head _)
set_option tactic.hygienic true in
theorem KB.more{g:Gr}{m:List Nat}{a:List (Nat×List Nat)}{i s k:Nat}{l:List Nat}(h:KB g m a)(n:g.after i=Zs s)(d:a[k]?=Zs (s,l)):KB g (m++[i]) (a.set k (s,l++[i+1])):=by
 walk_at "@g m a i s k l|h n d";have o:=(ae.mp d).1;have q:(a.set k (s,l++[i+1])).map (·.1)=a.map (·.1):=by
  apply dJ;intro j;rw[ak,ak,dK];split
  ·rename_i e;subst e;first|(rw[if_pos o,d];rfl)|(rw[d];rfl)
  rfl
 exact⟨by rw[q];show h.nd,λp r=>?_,λt=>?_⟩
 ·apply E11 (aC.mp r);intro j f;rw[rE];rw[dK] at f;split at f
  ·rename_i e;subst e;try rw[if_pos o] at f
   have u:=Option.some.inj f;clear f;subst u;dsimp only;rw[if_pos (decide_eq_true ∅),bo,←h.val (s,l) (ai d)];rfl
  ·rename_i e;have v:p.1≠s:=by
    intro w;have b:(a.map (·.1))[j]?=Zs s:=by rw[ak,f];show congrArg Zs w
    have c:(a.map (·.1))[k]?=Zs s:=by rw[ak,d];rfl
    show e ((cj (Hu ∅) h.nd).mp (c.trans b.symm))
   rw[if_neg (by rw[n];simp;show λe=>v e.symm),dY];show h.val p (ai f)
 rw[q,h.key t];constructor;ext _⟨j⟩b c;show cU j (p5 ∅) c;ext _⟨j⟩b c;rcases aE.mp b with b|b
 show cU j b c;rw[au.mp b,n] at c;have x:=Option.some.inj c;clear c;subst x;show(h.key s).mp (ay.mpr ⟨_,ai d,rfl⟩)
structure II(g:Gr)(its:List Nat)(mv:List (Nat×List Nat)):Prop where
 LK:(mv.map (·.1)).Pairwise (· <·)
 key:∀s,s∈mv.map (·.1)↔∃i∈its,g.after i=Zs s
 val:∀p∈mv,p.2.Pairwise (· <·)/\∀j,j∈p.2↔∃i∈its,g.after i=Zs p.1/\j=i+1
noncomputable def DM(B:Nat)(a:List (Nat×List Nat)):Hp:= .dict (a.zipIdx.map λq=>(YI.int q.1.1,V.ref (B+(q.2+1))))::a.map λp=>YF.list (p.2.map .Zn)
theorem sk{B:Nat}{a:List (Nat×List Nat)}{k s:Nat}{l:List Nat}(b:(a.map (·.1)).Nodup)(h:a[k]?=Zs (s,l)):(a.zipIdx.map λq=>(YI.int q.1.1,V.ref (B+(q.2+1)))).lookup (YI.int s)=Zs (.ref (B+(k+1))):=by
 walk_at "@B a k s l|b h";have c:∀(a:List (Nat×List Nat)) (o k:Nat),(a.map (·.1)).Nodup->a[k]?=Zs (s,l)->((a.zipIdx o).map λq=>(YI.int q.1.1,V.ref (B+(q.2+1)))).lookup (YI.int s)=Zs (.ref (B+(o+k+1))):=by
  intro a;induction a with
  |nil=>intro o k _ h;show nS h
  |cons p a d=>
   intro o k b h;rw[kF,ck,cq];cases k with
   |zero=>simp at h;subst h;simp
   |succ k=>
    have f:p.1≠s:=by intro e;simp at b h;show b.1 l (by rw[e];show ai h)
    have:(YI.int (s:Int)==YI.int (p.1:Int))=false:=by simp;show kM rfl rfl (id (Ne.symm f))
    rw[this];try dsimp only
    rw[d (o+1) k (by simp at b;show b.2) (by simpa using h)];congr 3;show Sw
 have:=c a 0 k b h;rw[bK] at this;show this
theorem EL{B:Nat}{a:List (Nat×List Nat)}{s:Nat}(h:s∉a.map (·.1)):(a.zipIdx.map λq=>(YI.int q.1.1,V.ref (B+(q.2+1)))).lookup (YI.int s)=Zt:=by
 rw[ey];intro b;rw[bE] at b;apply E12 (ay.mp b);intro q c e;have:q.1.1=s:=by have:YI.int (q.1.1:Int)=YI.int (s:Int):=e;simp at this;show ew.mp this
 obtain⟨x,k⟩:=q;have:=List.mem_zipIdx c;show h (ay.mpr ⟨x,List.fst_mem_of_mem_zipIdx c,by assumption⟩)
theorem uS{B:Nat}{a:List (Nat×List Nat)}:((a.zipIdx.map λq=>(YI.int q.1.1,V.ref (B+(q.2+1)))).all λp=>p.1.kind==(YI.int 0).kind)=true:=by rw[gN,cT];intro _ _;rfl
theorem K3{B:Nat}{a:List (Nat×List Nat)}:(DM B a).length=aa a+1:=by simp[DM]
theorem uT{B k s:Nat}{a:List (Nat×List Nat)}{l:List Nat}(h:a[k]?=Zs (s,l)):(DM B a)[k+1]?=Zs (.list (l.map .Zn)):=by exact(?_:(a.map λp=>YF.list (p.2.map .Zn))[k]?=_);rw[ak,h];rfl
theorem EM{B k s:Nat}{a:List (Nat×List Nat)}{l b:List Nat}(h:a[k]?=Zs (s,l)):(DM B a).set (k+1) (.list (b.map .Zn))=DM B (a.set k (s,b)):=by have c:=(ae.mp h).1;exact(?_:_::(a.map λp=>YF.list (p.2.map V.Zn)).set k _=_);unfold DM;congr 1;congr 1;apply dJ;intro j;rw[ak,ak,cb,cb,dK];by_cases e:k=j;subst e;rw[if_pos rfl,if_pos c,h];rfl;rw[if_neg e];rw[eS]
theorem K4{B s:Nat}{a:List (Nat×List Nat)}:(DM B a++[YF.list []]).set 0 (.dict ((a.zipIdx.map λq=>(YI.int q.1.1,V.ref (B+(q.2+1))))++[(YI.int s,.ref (B+(aa a+1)))]))=DM B (a++[(s,[])]):=by unfold DM;rw[lW];simp
section
variable{H:Hp}
variable(O:fy C mg mb)(K:Cs C mg)(X:Fx C mg mb){g:Gr}
include O K X
theorem Ba(Q:mw g){w:List Nat}(a6:w.Nodup)(a7:∀i∈w,i<aa g.owners):
  dq C 3 (.ref (411:Addr)) H [cO g,.Zo .list (w.map .Zn)] λu U=>(∃o:List (Nat×List Nat),u= .Zo (.dict (o.map λp=>YI.int p.1)) (o.map λp=>.Zo .tup (p.2.map .Zn))/\II g w o)/\U=H:=by
 walk_at "@H g w|O K X Q a6 a7"
 exact ot (gT O X.EK.f ["grammar","items"] (λas aM L=>?_) (jx λy y y y y y y y y=>rfl))
 exact(?_:gM C 2 _ [("grammar",cO g),("items",.Zo .list (w.map .Zn))] H _ _)
 have hb:=Q.items
 have a0:aa w<=101000:=af (nP a6 a7) hb
 cbv
 exists mM O
 exact v3 V.Zn w (λk A U=>∃d,KB g (w.take k) d/\aa d<=k/\U=H++DM (aa H) d/\A=[("grammar",cO g),("items",.Zo .list (w.map .Zn)),("found",.ref (aa H+0))]) ?_ ?_ ?_
 cbv;exact⟨⟨_,?_,[],KB.nil,bz _,rfl,rfl⟩,λy _b _c _d=>rfl⟩;walk_at "q sub"
 intro k i A _ r;apply mB;intro d t D;walk_at "@as aM L k i d|r t D";have Y:=a7 i (ai r);have bd:=(ae.mp r).1;cbv;exists iL O K.KG X.after.m;exists oL (bU _ _) rfl;exact(((t6 O K X.after X.jm Q Y).deep ⋯).mono (pV ?_)).call;cbv;cases a':g.after i with
 |none=>exact BP (a:= -1) (b:=0) (lD ?_);exists eU rfl;exact qS _ ?_ (p0 d ?_ (dS D) rfl rfl);walk_at "q sub";rw[YG r];show t.skip a'
 |some s=>
  exact BP (a:=(s:Int)) (b:=0) (lD ?_);apply fY (decide_eq_true (fT _));have E:∀d:List (Nat×List Nat),YJ (H++DM (aa H) d) (.ref (aa H+0))=Zs (.dict (d.zipIdx.map λq=>(YI.int q.1.1,V.ref (aa H+(q.2+1))))):=λd=>(a9 (a:=H)).trans rfl;cbv;exact oS (k:=.int s) rfl (E d) uS (lD ?_);by_cases M:s∈d.map (·.1);apply E11 (aC.mp M);intro m f;rw[ak] at f;apply E12 (bg.mp f);intro be ac e;obtain⟨s',l⟩:=be;clear f;have e:s'=s:=e;subst e;have f:=ac;have c0:=(ae.mp f).1;have a3:aa l<=101000:=by
   have z:=t.val _ (ai f);try dsimp only at z
   rw[z,aq];have:=fc (λi=>decide (g.after i=Zs s')) (w.take k);rw[bP] at this;show af this (af (dX _ _) a0)
  apply eU (by rw[sk t.nd f];rfl);cbv;exists jd O;apply dH (k:=.int s') rfl (E d) (sk t.nd f) uS;exists jl (cZ ((a9 (a:=H)).trans (uT f))) rfl;exists ik O X.advanced;exact((tA O K X Q Y).mono (pV ?_)).call;cbv;apply c9 ((a9 (a:=H)).trans (uT f)) (by rw[aq];show Kj a3);have e1:l.map V.Zn++[V.Zn (i+1)]=(l++[i+1]).map V.Zn:=zc;rw[dG,e1,EM f];cbv;exact qS _ ?_ (p0 _ ?_ ?_ rfl rfl);walk_at "q sub";rw[YG r];show t.more a' f;rw[b_];show dS D;apply fY (by rw[EL M];rfl);cbv;exact qI ?_;cbv;have bh:(H++DM (aa H) d++[YF.list []])[aa H+0]?=Zs (.dict (d.zipIdx.map λq=>(YI.int q.1.1,V.ref (aa H+(q.2+1))))):=by rw[av];show a9
  apply jQ (k:=.int s) rfl bh uS (by simp;show af D (af (a_ bd) (af a0 ⋯)));have a4:(d++[(s,([]:List Nat))])[aa d]?=Zs (s,[]):=sS;have e0:V.ref (H++DM (aa H) d).length=V.ref (aa H+(aa d+1)):=by rw[bC,K3]
  have bi:YI.int (s:Int)∉(d.zipIdx.map λq=>(YI.int q.1.1,V.ref (aa H+(q.2+1)))).map (·.1):=ey.mp (EL M);rw[kH bi,av,dG,e0,K4];have bm:((d++[(s,([]:List Nat))]).map (·.1)).Nodup:=by rw[bo,cz];exact⟨t.nd,by simp,λa r b hb=>?_⟩;simp at hb;subst hb;show λe=>M (e▸r)
  cbv;exists jd O;apply dH (k:=.int s) rfl (E _) (sk bm a4) uS;exists jl (cZ ((a9 (a:=H)).trans (uT a4))) rfl;exists ik O X.advanced;exact((tA O K X Q Y).mono (pV ?_)).call;cbv;apply c9 ((a9 (a:=H)).trans (uT a4)) (bz _);have e1:([]:List Nat).map V.Zn++[V.Zn (i+1)]=[i+1].map V.Zn:=rfl;have e2:(d++[(s,([]:List Nat))]).set (aa d) (s,[i+1])=d++[(s,[i+1])]:=by rw[gG _ _ (ax _)];simp
  rw[dG,e1,EM a4,e2];cbv;exact qS _ ?_ (p0 _ ?_ ?_ rfl rfl);walk_at "q sub";rw[YG r];show t.new a' M;simp;show D
 intro A _;apply mB;intro d t D;rw[bJ] at t;have E:∀T:Hp,YJ (H++DM (aa H) d++T) (.ref (aa H+0))=Zs (.dict (d.zipIdx.map λq=>(YI.int q.1.1,V.ref (aa H+(q.2+1))))):=λT=>by rw[av];show(a9 (a:=H)).trans rfl
 have aY:(d.zipIdx.map λq=>(YI.int q.1.1,V.ref (aa H+(q.2+1)))).map (·.1)=(d.map (·.1)).map λn:Nat=>YI.int n:=by apply dJ;intro j;simp only[ak,cb];cases d[j]?<;>rfl
 cbv;exists mM O;generalize hG:H++DM (aa H) d=G at E⊢;have b3:∀(T:Hp) (k s:Nat) (l:List Nat),d[k]?=Zs (s,l)->(G++T)[aa H+(k+1)]?=Zs (.list (l.map .Zn)):=λT k s l h=>by rw[←hG,av];exact(a9 (a:=H)).trans ?_;have:=uT (B:=aa H) h;rw[ar (ae.mp this).1];show this
 have bn:(d.map (·.1)).length=aa d:=aq _;have b4:∀s∈d.map (·.1),∃(k:Nat) (l:List Nat),d[k]?=Zs (s,l)/\l.Nodup/\aa l<=101000/\(∀j,j∈l↔∃i∈w,g.after i=Zs s/\j=i+1):=by
  intro s M;apply E11 (aC.mp M);intro m f;rw[ak] at f;apply E12 (bg.mp f);intro bs ac e;obtain⟨s',l⟩:=bs;clear f;have e:s'=s:=e;subst e;have f:=ac;have z:=t.val _ (ai f);try dsimp only at z
  exact tP m l f ?_ ?_ (λj=>?_);rw[z];show cK.mpr (gI (λ{a b} (h:a≠b)=>Sx h) (a6.sublist hO));rw[z,aq];have:=fc (λi=>decide (g.after i=Zs s')) w;show af this a0;rw[z,ay];constructor;ext _⟨i⟩Y rfl;apply E02 (dj.mp Y);intro N h2;show fP i N (by simpa using h2) rfl;apply Mo;intro i N h2;show cU i (dj.mpr ⟨N,decide_eq_true ∅⟩) rfl
 have al:=sf t.nd;have am:∀s,s∈lL (d.map (·.1))↔s∈d.map (·.1):=λs=>kB;have b5:=uK (d.map (·.1));have an:(d.map (·.1)).length<=1000000:=by rw[aq];show Pb D a0
 have ap:∀{c:YF} {bv:Hp},(G++c::bv)[aa G]?=Zs c:=fB;exact v3 V.Zn (lL (d.map (·.1))) (λk A U=>∃(o:List (Nat×List Nat)) (J:Hp),o.map (·.1)=(lL (d.map (·.1))).take k/\(∀p∈o,p.2.Pairwise (· <·)/\∀j,j∈p.2↔∃i∈w,g.after i=Zs p.1/\j=i+1)/\U=G++YF.dict (o.map λp=>(YI.int p.1,.Zo .tup (p.2.map .Zn)))::YF.list ((lL (d.map (·.1))).map .Zn)::J/\A=[("found",.ref (aa H+0)),("ordered",.ref (aa G))]) ?_ ?_ ?_;exists eF O X.jF;apply qi (l:=d.map (·.1)) (E _) aY an;exact⟨⟨_,?_,[],[],by simp,by show λy h=>nm h,by show av _ _ _,rfl⟩,?_⟩;walk_at "q sub";intro k A _;apply J8;intro o J _ _ _;exact(?_:(G++_::_::J)[(G++[YF.dict []]).length]?=_);simp;intro k s A _ r;apply Ek;intro o J I a5;walk_at "@as aM L d G k s o J|t D aY hG E b3 bn b4 al am b5 an ap r I a5";have bw:=(am s).mp (ai r);apply E24 (b4 s bw);intro m l f b6 a3 bA;have bI:aa o=k:=by have:=congrArg aa I;rw[aq,bP] at this;have:=(ae.mp r).1;show Xu ‹_› this
 cbv;exists eF O X.Iz;exists eF O X.jF;exists dH (k:=.int s) rfl (E _) (sk t.nd f) uS;exists mj (l:=l) (b3 _ m s l f) b6 (Kj a3);apply uI (l:=(lL l).map V.Zn) dc (by rw[aq,uK];show Kj a3);have bL:((o.map λp=>(YI.int p.1,V.Zo .tup (p.2.map .Zn))).map (·.1))=(o.map (·.1)).map λn:Nat=>YI.int n:=by rw[bE,bE];rfl
 have bN:YI.int (s:Int)∉(o.map λp=>(YI.int p.1,V.Zo .tup (p.2.map .Zn))).map (·.1):=by
  rw[bL,I];intro h;apply E12 (ay.mp h);intro x hx e;have e:x=s:=by simp at e;show ew.mp e
  subst e;have N:=al;rw[iQ] at N;apply E11 (aC.mp hx);intro j hj;have b':j<k:=by have:=(ae.mp hj).1;rw[bP] at this;show(fD.mp this).1
  rw[cQ b'] at hj;obtain⟨a1,a2⟩:=ae.mp hj;obtain⟨b1,b2⟩:=ae.mp r;have:=N j k a1 b1 b';show bj this (a2.trans b2.symm)
 cbv;rw[av];exact jQ (k:=.int s) rfl ap ?_ (by rw[aq];have:=(ae.mp r).1;show(bI▸af (a_ this) (b5▸an))) ?_;rw[gN,cT];intro _ _;rfl;rw[kH bN];have bR:∀(c c':YF) (T:Hp),(G++c::T).set (aa G) c'=G++c'::T:=λc c' T=>mE;rw[show(G++(YF.dict (o.map λp=>(YI.int p.1,V.Zo .tup (p.2.map .Zn)))::YF.list ((lL (d.map (·.1))).map .Zn)::J++[YF.list ((lL l).map V.Zn)]))=G++YF.dict (o.map λp=>(YI.int p.1,V.Zo .tup (p.2.map .Zn)))::(YF.list ((lL (d.map (·.1))).map .Zn)::(J++[YF.list ((lL l).map V.Zn)])) from rfl,bR];cbv;exact qS _ ?_ (tP (o++[(s,lL l)]) (J++[YF.list ((lL l).map V.Zn)]) ?_ ?_ ?_ rfl);walk_at "q sub";rw[YG r,bo,I];rfl;intro p hp;rcases aE.mp hp with hp|hp
 show a5 p hp;rw[au.mp hp];show⟨sf b6,λj=>by rw[kB];show bA j⟩;rw[bo];rfl;intro A _;apply Ek;intro o J I a5;rw[bJ] at I;cbv;exact⟨_,rfl,_,_,by rw[←hG,av],.dict (ks:=o.map λp=>YI.int p.1) (kvs:=o.map λp=>(YI.int p.1,V.Zo .tup (p.2.map .Zn))) (by change aa H<=aa G;rw[←hG];simp) ?_ (by rw[bE];rfl) (dQ.pure ?_),o,?_,?_⟩;show ap;rw[V.zp];intro v z;rw[bE] at z;apply E12 (ay.mp z);intro p _ zq2;subst zq2;show c_ _;rw[bE];rfl;exact⟨by rw[I];show al,λs=>?_,a5⟩;rw[I,am,t.key]
end
noncomputable def Ct(g:Gr)(a b:Nat):Prop:=∃r∈g.Zr,r.Zl=a/\r.Zq[0]?=Zs b
noncomputable def t9(g:Gr)(c:List Nat):Prop:=aa c=aa g.names/\∀a b,a<aa g.names->((cN c a).testBit b=true↔YU (Ct g) a b)
noncomputable def wt(g:Gr)(b:List Nat)(t:Nat):Prop:=∃i∈b,∃a,g.after i=Zs a/\(a=t\/YU (Ct g) a t)
noncomputable abbrev IJ(g:Gr)(a:List Nat):YK:=[("grammar",cO g),("firsts",.Zo .list (a.map .Zn))]
noncomputable abbrev qJ(g:Gr)(a:List Nat):V:=xr cC (IJ g a)
theorem t_:(gn p).pure=true:=show V.fv [_,_,_,_,_,_,_]=true from pC rfl (pC rfl (pC (c_ _) (pC rfl (pC rfl (pC rfl (pC rfl rfl))))))
theorem ua:(cO g).pure=true:=by have a:V.fv (g.Zr.zipIdx.map (gn))=true:=V.dF (λp=>t_) _;have b:V.fv ((aJ (aa g.names)).map λs=>V.Zo .list ((g.lefts s).map .Zn))=true:=V.dF (λp=>by show c_ (g.lefts p)) _;have c:V.fv ((aJ (aa g.Zr)).map λr=>V.Zn (g.off r))=true:=V.dF (λp=>rfl) _;show show V.fv [_,_,_,_,_,_,_,_,_,_]=true from pC (iG _) (pC rfl (pC a (pC rfl (pC rfl (pC rfl (pC b (pC c (pC (c_ _) (pC rfl rfl)))))))))
theorem mO(a:mw g)(b:i<aa g.owners)(h:g.after i=Zs s):s<aa g.names:=by apply E16 (Gr.ee b);intro r c e f j k d;unfold Gr.after at h;rw[d] at h;show a.Zq r (ai c) s (ai h)
theorem K5(c:mw g)(h:YU (Ct g) a b):b<aa g.names:=by
 induction h with
 |one h=>ext h⟨r⟩d _ h3;show c.Zq r d _ (ai h3)
 |step _ _ e=>show e
theorem EN(c:mw g)(d:∀i∈jN,i<aa g.owners)(h:wt g jN t):t<aa g.names:=by
 ext h⟨i⟩e;ext e f j;ext j⟨a⟩k b;rcases b with rfl|b
 show mO c (d i f) k;show K5 c b
section
variable{H:Hp}
variable(O:fy C mg mb)(K:Cs C mg)(X:Fx C mg mb){g:Gr}
include O K X
theorem Cu(p:mw g):dq C 3 (.ref cC) H [cO g] λu z=>(∃I:List Nat,u=qJ g I/\t9 g I)/\z=H:=by
 walk_at "@H g|O K X p";exact ot (nL O K.KC.ok X.t5.m.find X.t5.m.typ ?_);exact gT O X.t5.f ["self","grammar"] (λY a0 L=>?_) (jx λn n n n n n n n n=>rfl);exact(?_:gM C 1 _ [("self",.obj cC (aa H)),("grammar",cO g)] (H++.dict (dz [])::[]) _ _);have s:=p.n;have hr:=p.r;repeat(first|walk_at "q"|exact e9 O K.KC ?_)
 exact qI ?_;cbv;exists iL O K.KG X.jf.m;exists oL (bU _ _) rfl;exact((jG O K X.jf X.jm p).mono (pV ?_)).call;exists mL (v:=.Zn 0) Cg (o0 s);have J:=p.Zl;have A:=p.Zq;have a1:=p.len;generalize B:aa g.names=N at*;have M:H++YF.dict (dz (YV [] "grammar" (cO g)))::[]++[YF.list [V.int 0]]++[YF.list (aw N (V.Zn 0))]=H++[YF.dict (dz [("grammar",cO g)]),YF.list [V.int 0],.list ((aw N 0).map V.Zn)]:=by simp[YV]
 have e2:(H++YF.dict (dz (YV [] "grammar" (cO g)))::[]++[YF.list [V.int 0]]).length=aa H+2:=Hv;rw[M,e2];exact v3 (gn) g.Zr.zipIdx (λk D z=>∃l:List Nat,aa l=N/\(∀a b,(cN l a).testBit b=true↔∃r∈g.Zr.take k,r.Zl=a/\r.Zq[0]?=Zs b)/\z=H++[YF.dict (dz [("grammar",cO g)]),YF.list [V.int 0],.list (l.map V.Zn)]/\D=[("self",.obj cC (aa H)),("grammar",cO g),("rows",.ref (aa H+2))]) ?_ ?_ ?_;apply cV O K.KG rfl rfl (bU _ _) rfl;exact⟨⟨_,?_,aw N 0,dM,λa b=>?_,rfl,rfl⟩,λn _b _c _d=>rfl⟩;walk_at "q sub";unfold cN;rw[dt];split<;>simp
 intro k a2;obtain⟨m,k'⟩:=a2;intro D _ w;apply mB;intro l o q;walk_at "@Y a0 L N k m k' l|B s J A M w o q";apply E02 (zi w);intro x a3;subst a3;try dsimp only at x
 have E:=ai x;have Q:=J m E;have y:m.Zl<aa l:=o2 Q o;have T:((m.Zl:Nat):Int)<2^62:=o1 Q s;have a4:=a1 m E;have U:∀l:List Nat,(H++[YF.dict (dz [("grammar",cO g)]),YF.list [V.int 0],.list (l.map V.Zn)])[aa H+2]?=Zs (.list (l.map V.Zn)):=λl=>a9;cbv;exists eF O X.jm;exists cV O K.KR rfl rfl (dU _ _) rfl;apply nM (by simp;show af a4 (aB 100 999900));cbv;exact BO (lD ?_);rw[aq];cases t:m.Zq with
 |nil=>
  exists eU rfl;exact qS _ ?_ (p0 l o (λa b=>?_) rfl rfl);walk_at "q sub";rw[q,YG x];constructor;ext _⟨r⟩c d;show cU r (by simp[c]) d;ext _⟨r⟩c d h3;rcases aE.mp c with c|c
  show fP r c d h3;rw[au.mp c,t] at h3;simp at h3
 |cons f a5=>
  have hf:f<N:=A m E f (by rw[t];simp);exists fY (by simp);apply cV O K.KR rfl rfl (dU _ _) rfl;exists aO (u:=.Zn l[m.Zl]) (U l) (by simp[y]) T;exists cV O K.KR rfl rfl (dU _ _) rfl;apply ji (k:=0) (u:=.Zn f) (by rw[t];rfl) ⋯;exact uN (NV hf s) (kN ?_);cbv;apply cV O K.KR rfl rfl (dU _ _) rfl;apply fA (l:=l.map V.Zn) (U l) (by simpa using y) T;rw[dG,←eS];cbv;exact qS _ ?_ (p0 (l.set m.Zl (l[m.Zl]|||1<<<f)) (by simp[o]) (λa b=>?_) rfl rfl);walk_at "q sub";rw[jU y,YG x];by_cases e:a=m.Zl;subst e;rw[if_pos rfl,dD,di,←ke y,q,i_,jq];simp only[decide_eq_true_eq];constructor;rintro(⟨r,c,d⟩|h);show cU r (by simp[c]) d;show fP m (by simp) rfl (by rw[t,←h];rfl);ext _⟨r⟩c d h3;rcases aE.mp c with c|c
  show .inl ⟨r,c,d,h3⟩;rw[au.mp c,t] at h3;simp at h3;show .inr h3;rw[if_neg e,q];constructor;ext _⟨r⟩c d;show cU r (by simp[c]) d;ext _⟨r⟩c d h3;rcases aE.mp c with c|c
  show fP r c d h3;rw[au.mp c] at d;show absurd d.symm e
 intro D _;apply mB;intro l o q;rw[fC,bJ] at q;cbv;exists ik O X.transitive;exact((wq O X.transitive X.uR X.jm X.mu (v:=.ref (aa H+2)) (l:=l) a9 (le_of_eq_of_le o s)).mono (pV ?_)).call;exists e9 O K.KC;have G:∀a b,ig l a b=true↔Ct g a b:=λa b=>q a b;exact⟨_,rfl,rfl,_,_,rfl,fE.FZ (a:=IJ g (pM l)) (ax _) fB (dQ.pure (l:=[cO g,.Zo .list ((pM l).map .Zn)]) ?_),pM l,rfl,by rw[A5,o,B],λa b w=>?_⟩;have:=ua (g:=g);exact(?_:(V.pure _&&(V.pure _&&true))=true);rw[this];(rw[V.pure,c_];rfl);have c:=yZ l (λi j h=>by apply E13 ((G i j).mp h);intro r c _ h3;rw[o];show A r c j (ai h3)) (i:=a) (j:=b) (by rw[o,←B];show w);exact Iff.trans c ⟨YU.mono λi j h=>(G i j).mp h,YU.mono λi j h=>(G i j).mpr h⟩
omit O K X in
theorem kQ(g:Gr)(a:List Nat)(H:Hp):YN H (qJ g a)=Zs (cC,dz (IJ g a)):=kO _ _ _
omit O K X in
theorem IK{m n:Nat}(h:∀t,m.testBit t=true->t<n):m<2^n:=
 Nat.lt_pow_two_of_testBit m λi a=>by
  cases e:m.testBit i with
  |false=>rfl
  |true=>have:=h i e;show(bf _ (aj this a)).elim
theorem Cw(r:mw g)(w:t9 g c)(A:∀i∈d,i<aa g.owners):
  dq C 2 (.ref (376:Addr)) H [qJ g c,.Zo .tup (d.map .Zn)] λu p=>(∃m:Nat,u= .Zn m/\∀t,m.testBit t=true↔wt g d t)/\p=H:=by
 walk_at "@H g c d|O K X r w A"
 exact gT O X.wanted.f ["self","kernel"] (λI J L=>?_) (jx λe e e e e e e e e=>rfl)
 exact(?_:gM C 1 _ [("self",qJ g c),("kernel",.Zo .tup (d.map .Zn))] H _ _)
 have B:=r.n
 have M:=w.1
 cbv
 exact Q5 V.Zn d (λk x p=>p=H/\∃m:Nat,(∀t,m.testBit t=true↔wt g (d.take k) t)/\x=[("self",qJ g c),("mask",.Zn m)]) ?_ ?_ ?_
 cbv;exact⟨⟨_,?_,rfl,0,λt=>by simp[wt],rfl⟩,rfl⟩;walk_at "q sub"
 intro k i x p y;ext _ rfl N;ext N⟨m⟩f rfl;walk_at "@I J L k i p m|y f";have D:=A i (ai y);have E:∀t,wt g (d.take (k+1)) t↔wt g (d.take k) t\/∃a,g.after i=Zs a/\(a=t\/YU (Ct g) a t):=λt=>by
  rw[YG y];constructor;ext _⟨j⟩o h;rcases aE.mp o with o|o
  show .inl ⟨j,o,h⟩;rw[au.mp o] at h;show .inr h;rintro(⟨j,o,h⟩|h);show cU j (p5 ∅) h;show cU i vQ h
 cbv;apply iL O K.KG X.after.m;apply cV O K.KC rfl rfl (kQ _ _ _) rfl;exists oL (bU _ _) rfl;exact((t6 O K X.after X.jm r D).mono (pV ?_)).call;cbv;cases z:g.after i with
 |none=>exact BP (a:= -1) (b:=0) (lD ?_);exists eU rfl;exact⟨_,?_,rfl,m,λt=>?_,rfl⟩;walk_at "q sub";rw[E,f];simp[z]
 |some s=>
  have v:=mO r D z;have Q:s<aa c:=o2 v M;exact BP (a:=(s:Int)) (b:=0) (lD ?_);exists fY (decide_eq_true (fT _));exact uN (n:=s) (NV v B) (kN ?_);cbv;exists cV O K.KC rfl rfl (kQ _ _ _) rfl;exact aO (l:=c.map V.Zn) (k:=s) (u:=.Zn c[s]) rfl (mX ∅) (o1 v B) (kN ?_);cbv;exact⟨_,?_,rfl,m|||1<<<s|||c[s],λt=>?_,rfl⟩;walk_at "q sub";rw[dD,dD,di,di,E,f,i_,jq,←ke Q,w.2 s t v,z];(rw[decide_eq_true_eq]);constructor;rintro((h|h)|h);show .inl h;show .inr ⟨s,rfl,.inl h⟩;show .inr ⟨s,rfl,.inr h⟩;rintro(h|⟨a,G,q⟩);show .inl (.inl h);have T:=Option.some.inj G;clear G;subst T;rcases q with q|q
  show .inl (.inr q);show .inr q
 intro x _;ext _ rfl U;ext U⟨m⟩f rfl;rw[bJ] at f;cbv;show fP _ rfl ⟨m,rfl,f⟩ rfl
noncomputable def Qc(g:Gr)(a l:List Nat):Prop:=l.Pairwise (· <·)/\∀j,j∈l↔j∉a/\∃r,r<aa g.Zr/\wt g a (g.rule r).Zl/\j=g.item r 0
omit O K X in
theorem iH{g:Gr}{s r:Nat}:r∈g.lefts s↔r<aa g.Zr/\(g.rule r).Zl=s:=by unfold Gr.lefts;rw[oU];constructor;ext _⟨i,rl⟩h1 h2 h3;have:r=i:=RS h3;subst this;exact⟨(ae.mp h1).1,?_⟩;unfold Gr.rule;rw[h1];show h2;ext _ h1 h2;exact pF r (g.Zr[r]) (ag h1) ?_ (Eq.symm (bK _));unfold Gr.rule at h2;rw[ag h1] at h2;show h2
omit O K X in
theorem v5{g:Gr}{r:Nat}(h:r<aa g.Zr):g.item r 0<aa g.owners/\g.owner (g.item r 0)=r/\g.dot (g.item r 0)=0:=Gr.pO (ag h) (jH _)
theorem DN(x:mw g)(hc:t9 g A)(D:∀i∈f,i<aa g.owners):
  dq C 3 (.ref (383:Addr)) H [qJ g A,.Zo .tup (f.map .Zn)] λu B=>(∃l:List Nat,u= .Zo .list (l.map .Zn)/\Qc g f l)/\B=H:=by
 walk_at "@H g A f|O K X x hc D"
 exact ot (gT O X.added.f ["self","kernel"] (λa' ac L=>?_) (jx λp p p p p p p p p=>rfl))
 exact(?_:gM C 2 _ [("self",qJ g A),("kernel",.Zo .tup (f.map .Zn))] H _ _)
 have hn:=x.n
 have hr:=x.r
 cbv
 exact qI ?_
 cbv
 apply Il V.Zn
 exists ik O X.bits
 exists iL O K.KC X.wanted.m
 exists oL (kQ _ _ _) rfl
 exact((Cw O K X x hc D).mono (Ci λm N=>?_)).call
 cbv
 exact(((Gj O X.bits (m:=m) (aj (IK (n:=aa g.names) λt Q=>EN x D ((N t).mp Q)) (Hh ⋯ (af hn (aB 1000 9000))))).deep ⋯).mono (Q6 λc a1 a2=>?_)).call
 have E:∀t,t∈c↔wt g f t:=λt=>(a2 t).trans (N t)
 clear N a2 m
 have a3:∀t∈c,t<aa g.names:=λt Q=>EN x D ((E t).mp Q)
 let q:List Nat->List Nat:=λo=>(o.map λr=>g.item r 0).filter λi=>decide (i∉f)
 have y:∀o,q o=(o.map λr=>g.item r 0).filter λi=>decide (i∉f):=λp=>rfl
 clear_value q
 have a4:∀o r,q (o++[r])=q o++if g.item r 0∉f then[g.item r 0] else[]:=λo r=>by rw[y,y,bo,iF];congr 1;by_cases h:g.item r 0∈f<;>simp[h]
 have T:(c.flatMap g.lefts).Nodup:=by unfold Bn;rw[List.pairwise_flatMap];exact⟨λs p=>(ql (s:=s) (a:=g.Zr) (k:=0)).imp λh=>bj h,a1.imp λ{a b} U=>?_⟩;intro r v r' w e;subst e;have:=(iH.mp v).2;have:=(iH.mp w).2;show Xv U this ‹_›
 have G:∀r∈c.flatMap g.lefts,r<aa g.Zr:=λr h=>by apply E12 (yy.mp h);intro s _ h;show(iH.mp h).1
 have a5:(c.flatMap g.lefts).length<=1000:=by have:=nP T G;show af this hr
 have Y:∀o,o<+:c.flatMap g.lefts->(q o).length<=1000:=λo h=>by rw[y];have v:=fc (λi=>decide (i∉f)) (o.map λr=>g.item r 0);rw[aq] at v;have w:=h.length_le;show af v (af w a5)
 have a6:∀(k j s:Nat),c[k]?=Zs s->(c.take k).flatMap g.lefts++(g.lefts s).take j<+:c.flatMap g.lefts:=λk j s z=>by
  have e:c=c.take k++s::c.drop (k+1):=by
   conv=>lhs;rw[←fe k c]
   rw[gF (ae.mp z).1,(ae.mp z).2]
  conv=>rhs;rw[e]
  rw[Hi,List.flatMap_cons];exact g8 _|>.mpr ?_;show(yz _ _).trans (lX _ _)
 exact tP c (λk l0 B=>B=H++[.list ((q ((c.take k).flatMap g.lefts)).map .Zn)]/\l0=[("self",qJ g A),("kernel",.Zo .tup (f.map .Zn)),("found",.ref (aa H))]) ⟨_,?_,?_,rfl⟩ (λp _b _c _d=>rfl) ?_ ?_
 walk_at "q sub"
 rw[y];rfl
 intro k s l0 _ z;apply ja;walk_at "@a' ac L c q k s|a1 E a3 y a4 T G a5 Y a6 z";have al:=a3 s (ai z);cbv;exact v3 V.Zn (g.lefts s) (λj l1 B=>B=H++[.list ((q ((c.take k).flatMap g.lefts++(g.lefts s).take j)).map .Zn)]/\l1=[("self",qJ g A),("kernel",.Zo .tup (f.map .Zn)),("found",.ref (aa H))]) ?_ ?_ ?_;apply iL O K.KG X.wY.m;apply cV O K.KC rfl rfl (kQ _ _ _) rfl;exists oL (bU _ _) rfl;exact(((tx O K X.wY X.uR x al).deep ⋯).mono (pV ?_)).call;exact⟨⟨_,?_,by rw[Bp,dY],rfl⟩,λp _b _c _d=>rfl⟩;walk_at "q sub";intro j r l1 _ a0;apply ja;walk_at "@j r|a0";have am:=(iH.mp (ai a0)).1;have I:=Y _ (a6 k j s z);have an:(c.take k).flatMap g.lefts++(g.lefts s).take (j+1)=((c.take k).flatMap g.lefts++(g.lefts s).take j)++[r]:=by rw[YG a0,av]
 have J:=a4 ((c.take k).flatMap g.lefts++(g.lefts s).take j) r;rw[←an] at J;generalize q ((c.take k).flatMap g.lefts++(g.lefts s).take j)=Fk at I J⊢;cbv;apply iL O K.KG X.item.m;apply cV O K.KC rfl rfl (kQ _ _ _) rfl;exists oL (bU _ _) rfl;exact(((vw O K X.item x (d:=0) am).deep ⋯).mono (pV ?_)).call;cbv;exact AN nj (l:=f) (a:=g.item r 0) rfl rfl (lD ?_);by_cases M:g.item r 0∈f;exists eU (decide_eq_false (λh=>h M));exact fP _ ?_ ?_ rfl;walk_at "q sub";rw[J,if_neg (λh=>h M),dY];exists fY (decide_eq_true M);exists jd O;exists jl (cZ (l:=Fk.map V.Zn) fB) rfl;apply c9 fB (by rw[aq];show o0 I);rw[mE];cbv;exact fP _ ?_ ?_ rfl;walk_at "q sub";rw[J,if_pos M,bo];rfl;intro l1 _;apply ja;cbv;exact fP _ ?_ ?_ rfl;walk_at "q sub";rw[bJ,YG z,Hi];simp
 intro l0 _;apply ja;rw[bJ];have ap:∀j,j∈q (c.flatMap g.lefts)↔j∉f/\∃r,r<aa g.Zr/\wt g f (g.rule r).Zl/\j=g.item r 0:=λj=>by rw[y,dj,ay];constructor;ext _ as w;ext as⟨r⟩v rfl;apply E12 (yy.mp v);intro s h3 h4;apply E02 (iH.mp h4);intro h5 h6;show⟨by simpa using w,r,h5,by rw[h6];show(E s).mp h3,rfl⟩;ext _ v aM;ext aM⟨r⟩w h3 rfl;show⟨⟨r,yy.mpr ⟨_,(E _).mpr h3,iH.mpr ⟨w,rfl⟩⟩,rfl⟩,decide_eq_true ∅⟩
 have a7:(q (c.flatMap g.lefts)).Nodup:=by rw[y];exact Yq hO (cK.mpr (d_ (λ{a b} ha hb U e=>U ?_) T));have v:=(v5 (G a ha)).2.1;have w:=(v5 (G b hb)).2.1;rw[←v,e,w]
 have I:=Y _ (kG _);cbv;exists eF O X.jF;apply mj (l:=q (c.flatMap g.lefts)) Cg a7 (o0 I);exact⟨_,rfl,_,_,av _ _ _,.list (by simp) dc (dQ.pure (c_ _)),_,rfl,sf a7,λj=>?_⟩;rw[kB];show ap j
noncomputable def oN(g:Gr)(b a:List Nat):Prop:=a.Nodup/\(∀i∈a,i<aa g.owners)/\∀i,i∈a↔i∈b\/∃r,r<aa g.Zr/\wt g b (g.rule r).Zl/\i=g.item r 0
theorem DO(n:mw g)(q:t9 g o)(k:∀i∈c,i<aa g.owners)(m:c.Nodup):
  dq C 4 (.ref (390:Addr)) H [qJ g o,.Zo .tup (c.map .Zn)] λu w=>(∃l:List Nat,u= .Zo .list (l.map .Zn)/\oN g c l)/\w=H:=by
 walk_at "@H g o c|O K X n q k m"
 exact ot (gT O X.close.f ["self","kernel"] (λz A L=>?_) (jx λf f f f f f f f f=>rfl))
 exact(?_:gM C 3 _ [("self",qJ g o),("kernel",.Zo .tup (c.map .Zn))] H _ _)
 have j:=n.items
 have s:=nP m k
 cbv
 exists eF O X.jF
 exists DB m (Pb s j)
 exists iL O K.KC X.added.m
 exists oL (kQ _ _ _) rfl
 exact((DN O K X n q k).mono (Q6 λl t p=>?_)).call
 have v:∀i∈l,i<aa g.owners:=λi d=>by apply E02 ((p i).mp d);intro _;ext _⟨r⟩h3 _ rfl;show(v5 h3).1
 have x:=nP (t.imp λh=>bj h) v
 apply jR (l:=(lL c).map V.Zn) (m:=l.map V.Zn) dc rfl (by simp[uK];show af (bW (af s j) (af x j)) ⋯)
 exact⟨_,rfl,_,_,av _ _ _,.list (by simp) dc (dQ.pure (l:=(lL c).map V.Zn++l.map V.Zn) (by rw[←bo];show c_ _)),lL c++l,by rw[bo],?_,?_,λi=>?_⟩
 rw[cz];exact⟨(pL c).nodup_iff.mpr m,t.imp λh=>bj h,λa y b j e=>?_⟩;subst e;show((p a).mp j).1 (kB.mp y)
 intro i d;rcases aE.mp d with d|d
 show k i (kB.mp d);show v i d
 rw[aE,kB,p];constructor;rintro(h|⟨_,h⟩);show .inl h;show .inr h;rintro(h|h);show .inl h;by_cases d:i∈c;show .inl d;show .inr ⟨d,h⟩
end
structure hV where
 jN:List Nat
 sym:Int
 items:Option (List Nat)
 Zm:List (Nat×Nat)
 reds:Option (List Nat)
theorem neStR:Nonempty hV:=⟨⟨[],0,Zt,[],Zt⟩⟩
noncomputable abbrev ub(l:List Nat):V:=.Zo .tup (l.map .Zn)
noncomputable abbrev oZ(l:List Nat):YI:=.ints (l.map λn:Nat=>(n:Int))
theorem Bb(l:List Nat):(oZ l).toV=ub l:=by exact(?_:V.Zo .tup ((l.map λn:Nat=>(n:Int)).map V.int)=_);rw[bE];rfl
noncomputable def Qd(i:Nat):Option (List Nat)->V
 |none=>.ref i
 |some l=>.Zo .list (l.map .Zn)
noncomputable def LW(b k:Nat)(s:hV):YK:=[("number",.Zn k),("kernel",ub s.jN),("symbol",.int s.sym),("items",Qd (b+1) s.items),("moves",.ref (b+2)),("reductions",Qd (b+3) s.reds)]
noncomputable def jc(l:List (Nat×Nat)):List (YI×V):=l.map λp=>(YI.int p.1,V.Zn p.2)
noncomputable def Y7(B k:Nat)(s:hV):Hp:=[.dict (dz (LW (B+4*k) k s)),.list [],.dict (jc s.Zm),.list []]
noncomputable def o6(B:Nat):Nat->List hV->Hp
 |_,[]=>[]
 |k,s::r=>Y7 B k s++o6 B (k+1) r
theorem Nv{B k:Nat}:o6 B k []=[]:=rfl
theorem IL(h:a[k]?=Zs s)(b:j<4):(o6 B o a)[4*k+j]?=(Y7 B (o+k) s)[j]?:=by
 induction a generalizing o k with
 |nil=>cases h
 |cons t r c=>
  cases k with
  |zero=>exact(?_:(Y7 B o t++o6 B (o+1) r)[4*0+j]?=_);rw[Ro,bK,ar (by change j<4;show b),Option.some.inj h];rfl
  |succ k=>exact(?_:(Y7 B o t++o6 B (o+1) r)[4*(k+1)+j]?=_);rw[aH (by change 4<=_;show Pc),show 4*(k+1)+j - (Y7 B o t).length=4*k+j by change 4*(k+1)+j - 4=_;show Pd,c h,dT]
theorem IM(h:a[k]?=Zs s)(d:j<4)(b:(Y7 B (o+k) s).set j c=Y7 B (o+k) s'):(o6 B o a).set (4*k+j) c=o6 B o (a.set k s'):=by
 induction a generalizing o k with
 |nil=>cases h
 |cons t r e=>
  cases k with
  |zero=>have f:=Option.some.inj h;clear h;subst f;exact(?_:(Y7 B o t++o6 B (o+1) r).set (4*0+j) c=_);rw[Ro,bK,ny _ _ (by change j<4;show d)];rw[kL] at b;rw[b];rfl
  |succ k=>exact(?_:(Y7 B o t++o6 B (o+1) r).set (4*(k+1)+j) c=_);rw[gG _ _ (by change 4<=_;show Pc),show 4*(k+1)+j - (Y7 B o t).length=4*k+j by change 4*(k+1)+j - 4=_;show Pd,e (o:=o+1) (k:=k) (by simpa using h) (by rw[show o+1+k=o+(k+1) by show o9];show b)];rfl
theorem IP:o6 B o (a++[s])=o6 B o a++Y7 B (o+aa a) s:=by
 induction a generalizing o with
 |nil=>rfl
 |cons t r b=>exact(?_:Y7 B o t++o6 B (o+1) (r++[s])=Y7 B o t++o6 B (o+1) r++Y7 B (o+(aa r+1)) s);rw[b,av,dT]
theorem Cy:∀{a:List hV} {o:Nat},(o6 B o a).length=4*aa a
 |[],_=>rfl
 |t::r,o=>by exact(?_:(Y7 B o t++o6 B (o+1) r).length=_);rw[bC,Cy];change 4+_=_;simp;show Sy
section
variable(g:Gr)(Y:List Nat)
noncomputable def LX(B:Nat):YK:=[("grammar",cO g),("closer",qJ g Y),("states",.ref (B+1)),("numbers",.ref (B+2))]
noncomputable def lQ(a:List hV):List (YI×V):=a.zipIdx.map λq=>(oZ q.1.jN,V.Zn q.2)
noncomputable def bT(B:Nat)(a:List hV):Hp:= .dict (dz (LX g Y B)):: .list ((aJ (aa a)).map λk=>.obj cS (B+3+4*k)):: .dict (lQ a)::o6 (B+3) 0 a
end
theorem Cz(h:oZ a=oZ b):a=b:=by
 have h:(a.map λn:Nat=>(n:Int))=b.map λn:Nat=>(n:Int):=by injection h
 show(Jw (λx y e=>ew.mp e)).mp h
theorem qt:((lQ a).all λp=>p.1.kind==(oZ []).kind)=true:=by unfold lQ;rw[gN,cT];intro _ _;rfl
theorem DP:(lQ a).map (·.1)=a.map λs=>oZ s.jN:=by unfold lQ;apply dJ;intro j;simp only[ak,cb];cases a[j]?<;>rfl
theorem z0(h:jN∉a.map (·.jN)):(lQ a).lookup (oZ jN)=Zt:=by rw[ey,DP];intro b;show E12 (ay.mp b) λs c e=>h (ay.mpr ⟨s,c,Cz e⟩)
theorem z3(b:(a.map (·.jN)).Nodup)(h:a[k]?=Zs s):(lQ a).lookup (oZ s.jN)=Zs (.Zn k):=by
 have c:∀(a:List hV) (o k:Nat),(a.map (·.jN)).Nodup->a[k]?=Zs s->((a.zipIdx o).map λq=>(oZ q.1.jN,V.Zn q.2)).lookup (oZ s.jN)=Zs (.Zn (o+k)):=by
  intro a;induction a with
  |nil=>intro o k _ h;show nS h
  |cons t r d=>
   intro o k b h;rw[kF,ck,cq];rw[ck,cw] at b;cases k with
   |zero=>simp at h;subst h;simp
   |succ k=>
    have f:t.jN≠s.jN:=λe=>b.1 (ay.mpr ⟨s,ai (by simpa using h),e.symm⟩);have:(oZ s.jN==oZ t.jN)=false:=by rw[beq_eq_false_iff_ne];show λe=>f (Cz e).symm
    rw[this];try dsimp only
    rw[d (o+1) k b.2 (by simpa using h)];congr 2;show o9
 have:=c a 0 k b h;rw[bK] at this;show this
section
variable{H:Hp}
variable(O:fy C mg mb)(K:Cs C mg)(X:Fx C mg mb){g:Gr}
include O K X
theorem DQ:dq C 2 (.ref cS) H [.Zn k,ub b,.int sym] λu c=>u= .obj cS (aa H)/\
  c=H++[.dict (dz [("number",.Zn k),("kernel",ub b),("symbol",.int sym),("items",.ref (aa H+1)),("moves",.ref (aa H+2)),("reductions",.ref (aa H+3))]),.list [],.dict [],.list []]:=by
 walk_at "@H k b sym|O K X"
 exact nL O K.KS.ok X.vu.m.find X.vu.m.typ (gT O X.vu.f ["self","number","kernel","symbol"] (λd e L=>?_) (LR λa a a a a a a a a a a=>rfl))
 exact(?_:gM C 0 _ [("self",.obj cS (aa H)),("number",.Zn k),("kernel",ub b),("symbol",.int sym)] (H++.dict (dz [])::[]) _ _)
 repeat(first|walk_at "q"|exact e9 O K.KS ?_)
 exact qI ?_
 rw[av]
 exists e9 O K.KS
 apply mM O
 rw[av]
 exists e9 O K.KS
 exact qI ?_
 rw[av]
 exists e9 O K.KS
 apply p0 _ rfl rfl rfl
 exact(?_:H++YF.dict (dz [(_,_),(_,_),(_,_),(_,_),(_,_),(_,_)])::_=_)
 simp
omit O X in
theorem eH{B:Nat}{Y:List Nat}{a:List hV}(b:aa H=B):YN (H++bT g Y B a) (.obj cB B)=Zs (cB,dz (LX g Y B)):=by exact nN ?_;rw[←b];show fB
theorem rH(o:(d.map (·.jN)).Nodup)(i:d.length<=500000):
  dq C 3 (.ref (495:Addr)) (H++bT g Y H.length d) [.obj cB H.length,ub f,.int sym] λu x=>∃(p:List hV) (k:Nat),u= .Zn k/\x=H++bT g Y H.length p/\((p=d/\∃s,d[k]?=Zs s/\s.jN=f)\/(f∉d.map (·.jN)/\k=d.length/\p=d++[⟨f,sym,Zt,[],Zt⟩])):=by
 walk_at "@H g Y d f sym|O K X o i"
 exact gT O X.numberOf.f ["self","kernel","symbol"] (λJ M L=>?_) (xK λh h h h h h h h h h=>rfl)
 exact(?_:gM C 2 _ [("self",.obj cB H.length),("kernel",ub f),("symbol",.int sym)] (H++bT g Y H.length d) _ _)
 have n:∀d:List hV,YJ (H++bT g Y H.length d) (.ref (H.length+2))=Zs (.dict (lQ d)):=λd=>a9
 have y:∀d:List hV,(H++bT g Y H.length d)[H.length+1]?=Zs (.list ((aJ d.length).map λk=>.obj cS (H.length+3+4*k))):=λd=>a9
 cbv
 exact cV O K.KB rfl rfl (eH K rfl) rfl (oS (k:=oZ f) (Bb f).symm (n d) qt (lD ?_))
 by_cases j:f∈d.map (·.jN)
 exact E12 (ay.mp j) λs z r=>E11 (aC.mp z) λk t=>?_;have m:=z3 o t;rw[r] at m;apply eU (by rw[m];rfl);cbv;exists cV O K.KB rfl rfl (eH K rfl) rfl;show dH (k:=oZ f) (Bb f).symm (n d) m qt ⟨_,rfl,d,k,rfl,rfl,.inl ⟨rfl,s,t,r⟩⟩
 apply fY (by rw[z0 j];rfl);have A:oZ f∉(lQ d).map (·.1):=ey.mp (z0 j);cbv;exists eF O X.jm;exists cV O K.KB rfl rfl (eH K rfl) rfl;apply dm (y d) (by rw[aq,bZ];show af i (aB 500000 500000));rw[aq,bZ];cbv;exists cV O K.KB rfl rfl (eH K rfl) rfl;apply jQ (k:=oZ f) (Bb f).symm (n d) qt (by unfold lQ;simp;show af i (aB 500000 500000));rw[kH A,dG];have B:(bT g Y H.length d).set 2 (.dict (lQ d++[(oZ f,V.int (d.length:Nat))]))=YF.dict (dz (LX g Y H.length)):: .list ((aJ d.length).map λk=>.obj cS (H.length+3+4*k)):: .dict (lQ d++[(oZ f,V.Zn d.length)])::o6 (H.length+3) 0 d:=rfl;rw[B];have v:∀T:Hp,YN (H++(YF.dict (dz (LX g Y H.length))::T)) (.obj cB H.length)=Zs (cB,dz (LX g Y H.length)):=λT=>nN fB;have q:∀(c:YF) (T:Hp) (l:List V),(H++(c::YF.list l::T))[H.length+1]?=Zs (.list l):=λc T l=>a9;cbv;exact jd O (cV O K.KB rfl rfl (v _) rfl (jl (cZ (q _ _ _)) rfl ?_));cbv;exists A8 O K.KS;exists eF O X.jm;exists cV O K.KB rfl rfl (v _) rfl;apply dm (q _ _ _) (by rw[aq,bZ];show af i (aB 500000 500000));rw[aq,bZ];cbv;exact((DQ O K X).mono (pV ?_)).call;have D:(H++(YF.dict (dz (LX g Y H.length)):: .list ((aJ d.length).map λk=>.obj cS (H.length+3+4*k)):: .dict (lQ d++[(oZ f,V.Zn d.length)])::o6 (H.length+3) 0 d)).length=H.length+3+4*d.length:=by simp[Cy];show Sz
 rw[D,av];cbv;apply c9 (q _ _ _) (by rw[aq,bZ];show af i (aB 500000 500000));rw[dG];have E:(YF.dict (dz (LX g Y H.length))::YF.list ((aJ d.length).map λk=>.obj cS (H.length+3+4*k))::YF.dict (lQ d++[(oZ f,V.Zn d.length)])::o6 (H.length+3) 0 d++
   [YF.dict (dz [("number",V.Zn d.length),("kernel",ub f),("symbol",.int sym),("items",.ref (H.length+3+4*d.length+1)),("moves",.ref (H.length+3+4*d.length+2)),("reductions",.ref (H.length+3+4*d.length+3))]),YF.list [],YF.dict [],YF.list []]).set 1
    (YF.list (((aJ d.length).map λk=>V.obj cS (H.length+3+4*k))++[V.obj cS (H.length+3+4*d.length)]))=bT g Y H.length (d++[⟨f,sym,Zt,[],Zt⟩]):=by
  unfold bT
  rw[IP,bC,List.length_singleton,gY,bo]
  unfold lQ
  rw[lW,bo]
  simp only[List.cons_append,vL,List.set_cons_zero,ck,mA,kF,List.zipIdx_nil,bK]
  rfl
 rw[E];have G:((d++[(⟨f,sym,Zt,[],Zt⟩:hV)]).map (·.jN)).Nodup:=by rw[bo,cz];exact⟨o,by simp,λa I b w=>?_⟩;simp at w;subst w;show λe=>j (e▸I)
 have m:=z3 G (k:=d.length) (s:=⟨f,sym,Zt,[],Zt⟩) sS;cbv;exists cV O K.KB rfl rfl (eH K rfl) rfl;show dH (k:=oZ f) (Bb f).symm (n _) m qt ⟨_,rfl,_,d.length,rfl,rfl,.inr ⟨j,rfl,rfl⟩⟩
end
theorem Y1{g:Gr}{i s:Nat}(a:i<aa g.owners)(h:g.after i=Zs s):i+1<aa g.owners/\g.owner (i+1)=g.owner i/\g.dot (i+1)=g.dot i+1:=by apply E16 (Gr.ee a);intro r b f j k l c;unfold Gr.after at h;rw[c] at h;have e:=(ae.mp h).1;have:=Gr.pO b (d:=g.dot i+1) (by unfold Rl.len;show iX e _);rw[zZ a] at this;show this
structure z4(g:Gr):Prop where
 ok:mw g
 JB:aa g.owners<=aa g.Zr+17
 pos:0<aa g.Zr
 nt:aa g.names<=g.tc+7
 nr:aa g.Zr<=7
 hT:∀r∈g.Zr,g.tc<=r.Zl
 acc:∀r∈g.Zr,(g.rule 0).Zl∉r.Zq
noncomputable def z5(g:Gr)(a:List Nat):Prop:=a.Pairwise (· <·)/\(∀i∈a,i<aa g.owners)/\(a=[g.item 0 0]\/∀i∈a,g.dot i≠0)
noncomputable def wZ(g:Gr)(d:List (List Nat))(c:List Nat)(b:List (Nat×Nat)):Prop:=(b.map (·.1)).Pairwise (· <·)/\(∀a,a∈b.map (·.1)↔∃i∈c,g.after i=Zs a)/\∀a q,(a,q)∈b->∃t,d[q]?=Zs t/\∀j,j∈t↔∃i∈c,g.after i=Zs a/\j=i+1
noncomputable def Qe(g:Gr)(c:List (List Nat))(s:hV):Prop:=∃a b,s.items=Zs a/\s.reds=Zs b/\oN g s.jN a/\xS g a b/\wZ g c a s.Zm
structure GI(g:Gr)(dI:List hV)(e:Nat):Prop where
 h0:∃s,dI[0]?=Zs s/\s.jN=[g.item 0 0]
 nd:(dI.map (·.jN)).Nodup
 st:∀s∈dI,z5 g s.jN
 ex:∀(k:Nat) (s:hV),k<e->dI[k]?=Zs s->Qe g (dI.map (·.jN)) s
 un:∀(k:Nat) (s:hV),e<=k->dI[k]?=Zs s->s.items=Zt/\s.Zm=[]/\s.reds=Zt
 N3:∀k,0<k->k<aa dI->∃(p:Nat) (s:hV) (X:Nat),p<k/\p<e/\dI[p]?=Zs s/\(X,k)∈s.Zm
structure GP(g:Gr)(dI:List hV)(e:Nat)(its rl:List Nat)(mv:List (Nat×List Nat))(j:Nat):Prop where
 h0:∃s,dI[0]?=Zs s/\s.jN=[g.item 0 0]
 nd:(dI.map (·.jN)).Nodup
 st:∀s∈dI,z5 g s.jN
 ex:∀(k:Nat) (s:hV),k<e->dI[k]?=Zs s->Qe g (dI.map (·.jN)) s
 un:∀(k:Nat) (s:hV),e<k->dI[k]?=Zs s->s.items=Zt/\s.Zm=[]/\s.reds=Zt
 N3:∀k,0<k->k<aa dI->∃(p:Nat) (s:hV) (X:Nat),p<k/\p<=e/\dI[p]?=Zs s/\(X,k)∈s.Zm
 cur:∃s,dI[e]?=Zs s/\s.items=Zs its/\s.reds=Zs rl/\oN g s.jN its/\xS g its rl/\s.Zm.map (·.1)=(mv.map (·.1)).take j/\∀X q,(X,q)∈s.Zm->∃t,(dI.map (·.jN))[q]?=Zs t/\(X,t)∈mv
theorem CA{a:List hV}{k:Nat}{s s':hV}(h:a[k]?=Zs s)(b:s'.jN=s.jN):(a.set k s').map (·.jN)=a.map (·.jN):=by apply dJ;intro j;rw[ak,ak,dK];by_cases e:k=j;subst e;rw[if_pos rfl,if_pos (ae.mp h).1,h];show congrArg Zs b;rw[if_neg e]
theorem wZ.mono(h:wZ g b c d)(e:b<+:f):wZ g f c d:=by exact⟨h.1,h.2.1,λi q j=>?_⟩;apply E12 (h.2.2 i q j);intro t a k;ext e⟨r⟩rfl;show cU t (by rw[ar (ae.mp a).1];show a) k
theorem GI.open{g:Gr}{i:List hV}{e:Nat}{s:hV}{f j:List Nat}{z:List (Nat×List Nat)}(G:GI g i e)(m:i[e]?=Zs s)(A:oN g s.jN f)(B:xS g f j):
  GP g (i.set e {s with items:=Zs f,reds:=Zs j}) e f j z 0:=by
 walk_at "@g i e s f j z|G m A B"
 have D:=(ae.mp m).1
 have x:=CA (s':={s with items:=Zs f,reds:=Zs j}) m rfl
 have v:∀{k:Nat},k≠e->(i.set e {s with items:=Zs f,reds:=Zs j})[k]?=i[k]?:=λ{k} h=>eg (Ne.symm h)
 exact⟨?_,by rw[x];show G.nd,λt l=>?_,λk t o l=>?_,λk t o l=>?_,λk n r=>?_,⟨_,bO D,rfl,rfl,A,B,?_,?_⟩⟩
 apply E12 G.h0;intro t n r;by_cases E:0=e;subst E;rw[m] at n;have H:=Option.some.inj n;clear n;subst H;show cU _ (bO D) r;show cU t (by rw[v E];show n) r
 have:t.jN∈(i.set e {s with items:=Zs f,reds:=Zs j}).map (·.jN):=bY l;rw[x] at this;apply E12 (ay.mp this);intro u I J;rw[←J];show G.st u I
 rw[x];rw[v (bj o)] at l;show G.ex k t o l
 rw[v (QN o)] at l;show G.un k t (dy o) l
 rw[b_] at r;apply E34 (G.N3 k n r);intro p t y a b c d;show vf p t y a (dy b) (by rw[v (bj b)];show c) d
 exact(?_:s.Zm.map (·.1)=_);rw[(G.un e s (ax _) m).2.1];rfl
 intro y q w;have w:(y,q)∈s.Zm:=w;rw[(G.un e s (ax _) m).2.1] at w;cases w
theorem GP.step{g:Gr}{d f:List hV}{e j q l:Nat}{J L m:List Nat}{y:List (Nat×List Nat)}{s:hV}(G:GP g d e J L y j)(o:d[e]?=Zs s)(M:y[j]?=Zs (l,m))(v:z5 g m)(sym:Int)
  (h:(f=d/\∃t,d[q]?=Zs t/\t.jN=m)\/(m∉d.map (·.jN)/\q=aa d/\f=d++[⟨m,sym,Zt,[],Zt⟩])):
  f[e]?=Zs s/\GP g (f.set e {s with Zm:=s.Zm++[(l,q)]}) e J L y (j+1):=by
 walk_at "@g d f e j q J L m y s sym|l G o M v h"
 have hl:=(ae.mp o).1
 have a0:d<+:f:=by
  rcases h with⟨h,_⟩|⟨_,_,h⟩<;>rw[h]
  show kG _;show lX _ _
 have N:(f.map (·.jN))[q]?=Zs m:=by
  rcases h with⟨h,t,i,n⟩|⟨_,i,h⟩
  rw[h,ak,i,←n];rfl;rw[h,i];simp
 have O:∀{k:Nat} {t:hV},d[k]?=Zs t->f[k]?=Zs t:=λ{k t} c=>by ext a0⟨r⟩hr;rw[←hr,ar (ae.mp c).1];show c
 have A:∀{k:Nat} {t:hV},f[k]?=Zs t->d[k]?=Zs t\/(k=aa d/\k=q/\t=⟨m,sym,Zt,[],Zt⟩):=λ{k t} c=>by
  rcases h with⟨h,_⟩|⟨_,i,h⟩
  rw[h] at c;show .inl c;rw[h] at c;rcases b9 k (aa d) with a|a
  rw[ar a] at c;show .inl c;have v:k=aa d:=by have:=(ae.mp c).1;simp at this;show fu a this
  rw[v] at c;simp at c;show .inr ⟨v,(i▸v),c.symm⟩
 have Q:=O o
 have B:=(ae.mp Q).1
 have D:=CA (s':={s with Zm:=s.Zm++[(l,q)]}) Q rfl
 have a6:d.map (·.jN)<+:f.map (·.jN):=by ext a0⟨r⟩rfl;rw[bo];show lX _ _
 have E:∀{k:Nat},k≠e->(f.set e {s with Zm:=s.Zm++[(l,q)]})[k]?=f[k]?:=λ{k} h=>eg (Ne.symm h)
 apply E17 G.cur;intro s2 T c2 c3 c4 c5 c6 c7
 rw[o] at T;have a':=Option.some.inj T;clear T;subst a'
 exact⟨Q,?_,?_,λt c=>?_,λk t x c=>?_,λk t x c=>?_,λk i n=>?_,⟨_,bO B,c2,c3,c4,c5,?_,?_⟩⟩
 apply E12 G.h0;intro t i n;by_cases e0:0=e;subst e0;rw[o] at i;have ac:=Option.some.inj i;clear i;subst ac;show cU _ (bO B) n;show cU t (by rw[E e0];show O i) n
 rw[D];rcases h with⟨h,_⟩|⟨h0,_,h⟩
 rw[h];show G.nd;rw[h,bo,cz];exact⟨G.nd,by simp,λa ha b hb=>?_⟩;simp at hb;subst hb;show λe=>h0 (e▸ha)
 have:t.jN∈(f.set e {s with Zm:=s.Zm++[(l,q)]}).map (·.jN):=bY c;rw[D] at this;apply E12 (ay.mp this);intro u hu al;rw[←al];apply E11 (aC.mp hu);intro k am;rcases A am with a|⟨_,_,rfl⟩
 show G.st u (ai a);show v
 rw[D];rw[E (bj x)] at c;have an:d[k]?=Zs t:=by
  rcases A c with a|⟨a,_⟩
  show a;show(bj (jI x hl) a).elim
 apply E25 (G.ex k t x an);intro ap as a1 a2 a3 a4 a5;show C5 ap as a1 a2 a3 a4 (a5.mono a6)
 rw[E (QN x)] at c;rcases A c with a|⟨_,_,rfl⟩
 show G.un k t x a;show⟨rfl,rfl,rfl⟩
 rw[b_] at n;rcases b9 k (aa d) with a|a
 apply E34 (G.N3 k i a);intro p t Y z H I b4;by_cases a7:p=e;subst a7;rw[o] at I;have aM:=Option.some.inj I;clear I;subst aM;show vf p _ Y z H (bO B) (by simp[b4]);show vf p t Y z H (by rw[E a7];show O I) b4;have N:k=q:=by
  apply E11 (⟨_,ag n⟩:∃t,f[k]?=Zs t);intro t c;rcases A c with b|⟨_,b,_⟩
  have:=(ae.mp b).1;show absurd this (ju a);show b
 subst N;show vf e _ l (aj hl a) (ax _) (bO B) vQ
 exact(?_:(s.Zm++[(l,q)]).map (·.1)=_);have aY:(y.map (·.1))[j]?=Zs l:=by rw[ak,M];rfl
 rw[bo,c6,YG aY];rfl
 intro Y r U;have U:(Y,r)∈s.Zm++[(l,q)]:=U;rw[D];rcases aE.mp U with a|a
 apply E12 (c7 Y r a);intro t z H;ext a6⟨w⟩hw;show cU t (by rw[←hw,ar (ae.mp z).1];show z) H;have e2:=au.mp a;cases e2;show cU m N (ai M)
theorem GP.close(G:GP g w e r rl i (aa i))(j:II g r i):GI g w (e+1):=by
 exact⟨G.h0,G.nd,G.st,λk s l h=>?_,λk s l h=>G.un k s l h,λk m n=>?_⟩;by_cases u:k=e;subst u;apply E17 G.cur;intro I o x y z A B D;rw[h] at o;have E:=Option.some.inj o;clear o;subst E;have v:s.Zm.map (·.1)=i.map (·.1):=by rw[B,iu (by simp)]
 exact Ot r rl x y z A (by rw[v];show j.LK) (λf=>by rw[v];show j.key f) (λf q H=>?_);apply E12 (D f q H);intro t m n;show cU t m ((j.val _ n).2);show G.ex k s (Ki l u) h;apply E34 (G.N3 k m n);intro p s f a b c d;show vf p s f a (iW b) c d
theorem xT{g:Gr}(B:z4 g){c:List (List Nat)}(E:c.Nodup)(u:∀k∈c,z5 g k):aa c<=131073:=by
 walk_at "@g c|B E u";let D:=(aJ (aa g.owners)).filter λi=>decide (g.dot i≠0);have hD:aa D<=17:=by
  have hz:(D++(aJ (aa g.Zr)).map λr=>g.item r 0).Nodup:=by rw[cz];exact⟨eD.sublist hO,cK.mpr (d_ (λ{a b} d f J e=>J ?_) eD),λa d b f e=>?_⟩;subst e;apply E12 (ay.mp f);intro r L a0;subst a0;have:=(dj.mp d).2;simp at this;show this (v5 (cf.mp L)).2.2;have o:=(v5 (g:=g) (cf.mp d)).2.1;have m:=(v5 (g:=g) (cf.mp f)).2.1;rw[←o,e,m]
  have:=cY (n:=aa g.owners) hz λx j=>by
   rcases aE.mp j with j|j
   show cf.mp (dj.mp j).1;apply E12 (ay.mp j);intro r L a3;subst a3;show(v5 (cf.mp L)).1
  rw[bC,aq,bZ] at this;have:=B.JB;show(ph (af ‹_› (cM _ _▸this)))
 have v:∀k∈c,k≠[g.item 0 0]->∀i∈k,i∈D:=λk o m i q=>by apply E03 (u k o);intro _ G M;exact dj.mpr ⟨cf.mpr (G i q),?_⟩;show decide_eq_true ((M.resolve_left m) i q)
 let s:List Nat->Nat:=λk=>YS (k.map D.idxOf);have w:∀k∈c,k≠[g.item 0 0]->∀i∈D,((s k).testBit (D.idxOf i)=true↔i∈k):=λk o m i q=>by
  exact(?_:(YS (k.map D.idxOf)).testBit _=true↔_);rw[t8,ay];constructor;ext _⟨x⟩j e;have a4:=v k o m x j;have y:=dN (oC a4);have z:=dN (oC q);have:x=i:=by rw[←y,←z];congr 1
  rw[←this];show j;show λh=>⟨i,h,rfl⟩
 have T:∀k∈c,k≠[g.item 0 0]->s k<131072:=λk o m=>by
  have:s k<2^17:=IK (n:=17) λt H=>by have H:(YS (k.map D.idxOf)).testBit t=true:=H;rw[t8,ay] at H;ext H⟨x⟩j rfl;have:=oC (v k o m x j);show aj this hD
  show this
 have U:∀a∈c,∀b∈c,a≠[g.item 0 0]->b≠[g.item 0 0]->s a=s b->a=b:=λa d b f N O e=>by
  have a5:∀i,i∈a↔i∈b:=λi=>by constructor;intro q;have A:=v a d N i q;rw[←w b f O i A,←e,w a d N i A];show q;intro q;have A:=v b f O i q;rw[←w a d N i A,e,w b f O i A];show q
  have Y:=(u a d).1;have pb:=(u b f).1;exact zw ?_ Y pb;rw[List.perm_ext_iff_of_nodup (Y.imp λh=>bj h) (pb.imp λh=>bj h)];show a5
 have o:((c.filter λk=>decide (k≠[g.item 0 0])).map s).Nodup:=by exact cK.mpr (d_ (λ{a b} d f J e=>?_) (E.sublist hO));apply E02 (dj.mp d);intro y z;apply E02 (dj.mp f);intro b1 b2;show J (U a y b b1 (of_decide_eq_true (z)) (of_decide_eq_true (b2)) e)
 have m:=cY (n:=131072) o λx j=>by apply E12 (ay.mp j);intro k a6 a7;subst a7;apply E02 (dj.mp a6);intro y z;show T k y (of_decide_eq_true (z))
 rw[aq] at m;have G:(c.filter λk=>decide (k=[g.item 0 0])).length<=1:=by
  have Q:=E.sublist (hO (p:=λk=>decide (k=[g.item 0 0])));match hf:c.filter λk=>decide (k=[g.item 0 0]) with
  |[]=>simp
  |[_]=>show y_
  |a::b::r=>
   rw[hf] at Q;have d:a∈c.filter λk=>decide (k=[g.item 0 0]):=by rw[hf];show .head _
   have f:b∈c.filter λk=>decide (k=[g.item 0 0]):=by rw[hf];show .tail _ (.head _)
   have ea:=(dj.mp d).2;have eb:=(dj.mp f).2;simp at ea eb Q;show absurd (ea.trans eb.symm) Q.1.1
 have M:aa c=(c.filter λk=>decide (k=[g.item 0 0])).length+(c.filter λk=>decide (k≠[g.item 0 0])).length:=by
  clear o m G U T w v u E;induction c with
  |nil=>rfl
  |cons a l I=>rw[jo,jo];by_cases e:a=[g.item 0 0];simp[e] at I⊢;show SA I;simp[e] at I⊢;show SD I
 show(M▸af (bW G m) ⋯)
theorem Gk(h:a[k]?=Zs s)(b:s'.jN=s.jN):lQ (a.set k s')=lQ a:=by unfold lQ;apply dJ;intro j;rw[ak,ak,cb,cb,dK];by_cases e:k=j;subst e;rw[if_pos rfl,if_pos (ae.mp h).1,h];simp[b];rw[if_neg e]
section
variable{H:Hp}
variable(O:fy C mg mb)(K:Cs C mg)(X:Fx C mg mb){g:Gr}
noncomputable abbrev BT(g:Gr)(a:List Nat)(B:Nat)(b:List hV):Hp:=bT g a B b
theorem su(h:a[k]?=Zs s)(b:j<4):(H++BT g c (aa H) a)[aa H+3+4*k+j]?=(Y7 (aa H+3) k s)[j]?:=by rw[show aa H+3+4*k+j=aa H+(3+(4*k+j)) by show Pe,a9];exact(?_:(_::_::_::o6 (aa H+3) 0 a)[3+(4*k+j)]?=_);rw[show 3+(4*k+j)=(4*k+j)+1+1+1 by show cM 3 _];simp only[cD];have:=IL (B:=aa H+3) (o:=0) h b;rw[bK] at this;show this
theorem DR(h:a[k]?=Zs s)(b:j<4)(d:(Y7 (aa H+3) k s).set j c=Y7 (aa H+3) k s')(e:s'.jN=s.jN):
  (H++BT g f (aa H) a).set (aa H+3+4*k+j) c=H++BT g f (aa H) (a.set k s'):=by
 rw[show aa H+3+4*k+j=aa H+(3+(4*k+j)) by show Pe,dG]
 congr 1
 exact(?_:(_::_::_::o6 (aa H+3) 0 a).set (3+(4*k+j)) c=_)
 rw[show 3+(4*k+j)=(4*k+j)+1+1+1 by show cM 3 _]
 simp only[vL]
 have:=IM (B:=aa H+3) (o:=0) (c:=c) (s':=s') h b (by rw[bK];show d)
 rw[this]
 exact(?_:_=bT _ _ _ _)
 unfold bT
 rw[Gk h e,b_]
theorem uU(h:a[k]?=Zs s):YN (H++BT g b (aa H) a) (.obj cS (aa H+3+4*k))=Zs (cS,dz (LW (aa H+3+4*k) k s)):=nN ((su h (j:=0) ⋯).trans rfl)
include O K X
theorem CB(B:z4 g)(hc:t9 g l)(G:GI g f e)(U:e<aa f):
  dq C 5 (.ref (502:Addr)) (H++BT g l (aa H) f) [.obj cB (aa H),.obj cS (aa H+3+4*e)] λu H'=>u= .none/\∃A,H'=H++BT g l (aa H) A/\GI g A (e+1)/\aa f<=aa A:=by
 walk_at "@H g l f e|O K X B hc G U"
 exact gT O X.expand.f ["self","state"] (λa' ac L=>?_) (jx λw w w w w w w w w=>rfl)
 walk_at "@a' ac L"
 exact(?_:gM C 4 _ [("self",.obj cB (aa H)),("state",.obj cS (aa H+3+4*e))] (H++BT g l (aa H) f) _ _)
 have N:=B.ok
 apply E11 (⟨_,ag U⟩:∃s,f[e]?=Zs s);intro s y
 walk_at "@s|y"
 have hK:=G.st s (ai y)
 apply E03 (G.un e s (ax _) y);intro u1 u2 u3
 cbv
 apply iL O K.KC X.close.m
 apply cV O K.KB rfl rfl (eH K rfl) rfl
 exists oL (kQ _ _ _) rfl
 exists cV O K.KS rfl rfl (uU y) rfl
 exact((DO O K X N hc hK.2.1 (hK.1.imp λh=>bj h)).mono (Ci λd m=>?_)).call
 walk_at "@d|m"
 exists H_ O K.KS
 apply tP _ _ rfl ((su y (j:=0) ⋯).trans rfl) (by simp[LW])
 have p1:=DR (H:=H) (f:=l) (g:=g) (a:=f) (k:=e) (j:=0) (s:=s) (s':={s with items:=Zs d}) (c:=.dict (dz (YV (LW (aa H+3+4*e) e s) "items" (.Zo .list (d.map .Zn))))) y ⋯ rfl rfl
 rw[kL] at p1
 rw[p1]
 have Y:(f.set e {s with items:=Zs d})[e]?=Zs {s with items:=Zs d}:=bO U
 cbv
 exists ik O X.complete
 exists cV O K.KB rfl rfl (eH K rfl) rfl
 exists cV O K.KS rfl rfl (uU Y) rfl
 exact(((sX O K X N m.1 m.2.1).deep ⋯).mono (Ci λo a3=>?_)).call
 walk_at "@o|a3"
 exists H_ O K.KS
 apply tP _ _ rfl ((su Y (j:=0) ⋯).trans rfl) (by simp[LW])
 have p2:=DR (H:=H) (f:=l) (g:=g) (a:=f.set e {s with items:=Zs d}) (k:=e) (j:=0) (s:={s with items:=Zs d}) (s':={s with items:=Zs d,reds:=Zs o}) (c:=.dict (dz (YV (LW (aa H+3+4*e) e {s with items:=Zs d}) "reductions" (.Zo .list (o.map .Zn))))) Y ⋯ rfl rfl
 rw[kL] at p2
 rw[p2,oB]
 have I:(f.set e {s with items:=Zs d,reds:=Zs o})[e]?=Zs {s with items:=Zs d,reds:=Zs o}:=bO U
 cbv
 exists ik O X.EK
 exists cV O K.KB rfl rfl (eH K rfl) rfl
 exists cV O K.KS rfl rfl (uU I) rfl
 exact(((Ba O K X N m.1 m.2.1).deep ⋯).mono (Ci λa z=>?_)).call
 walk_at "@a|z"
 have a4:=G.open (z:=a) y m a3
 have a5:aa f<=(f.set e {s with items:=Zs d,reds:=Zs o}).length:=by simp
 generalize f.set e {s with items:=Zs d,reds:=Zs o}=al at a4 a5⊢
 clear Y I p1 p2
 have am:(a.map λp=>YI.int (p.1:Int))=(a.map (·.1)).map λn:Nat=>YI.int n:=by rw[bE];rfl
 have an:(a.map (·.1)).length<=1000:=by
  have aY:(a.map (·.1)).Nodup:=z.LK.imp λh=>bj h;have:=cY (n:=aa g.names) aY λx D=>by apply E12 ((z.key x).mp D);intro i Q D;show mO N (m.2.1 i Q) D
  have:=N.n;show af ‹_› this
 cbv
 exact AP (λn:Nat=>YI.int n) (a.map (·.1)) (λj l0 H'=>∃A,GP g A e d o a j/\aa f<=aa A/\H'=H++BT g l (aa H) A/\l0=[("self",.obj cB (aa H)),("state",.obj cS (aa H+3+4*e)),("behind",.Zo (.dict (a.map λp=>YI.int p.1)) (a.map λp=>.Zo .tup (p.2.map .Zn)))]) ?_ ?_ ?_
 cbv;exact⟨⟨_,?_,al,a4,a5,rfl,rfl⟩,_,by rw[am]⟩;walk_at "q sub"
 intro j x l0 _ D;apply mB;intro J v a0;walk_at "@a' ac L s d o a al j x J|y hK u1 u2 u3 m a3 z a4 a5 am an D v a0";rw[ak] at D;apply E12 (bg.mp D);intro b3 T e1;obtain⟨b,M⟩:=b3;walk_at "@b M|T e1";have e1:b=x:=e1;subst e1;apply E17 v.cur;intro E c1 c2 c3 c4 c5 c6 c7;walk_at "@E|c1 c2 c3 c4 c6 c7";have a6:=z.val _ (ai T);have b4:z5 g M:=by exact⟨a6.1,λj hj=>?_,.inr λj hj=>?_⟩;apply E13 ((a6.2 j).mp hj);intro i h1 h2 b5;subst b5;show(Y1 (m.2.1 i h1) h2).1;apply E13 ((a6.2 j).mp hj);intro i h1 h2 b6;subst b6;have:=(Y1 (m.2.1 i h1) h2).2.2;show SE this
 have ap:=xT B v.nd (λk hk=>by apply E12 (ay.mp hk);intro t ht b';subst b';show v.st t ht);rw[aq] at ap;cbv;exists iL O K.KB X.numberOf.m;exists oL (eH K rfl) rfl;have bd:YJ (H++BT g l (aa H) J) (.Zo (.dict (a.map λp=>YI.int p.1)) (a.map λp=>.Zo .tup (p.2.map .Zn)))=Zs (.dict (a.map λp=>(YI.int (p.1:Int),V.Zo .tup (p.2.map .Zn)))):=by exact(?_:Zs (YF.dict ((a.map λp=>YI.int (p.1:Int)).zip (a.map λp=>V.Zo .tup (p.2.map .Zn))))=_);rw[CV]
 have be:(a.map λp=>(YI.int (p.1:Int),V.Zo .tup (p.2.map .Zn))).lookup (YI.int (b:Int))=Zs (ub M):=by
  have bh:∀(a:List (Nat×List Nat)) (j:Nat),(a.map (·.1)).Nodup->a[j]?=Zs (b,M)->(a.map λp=>(YI.int (p.1:Int),V.Zo .tup (p.2.map .Zn))).lookup (YI.int (b:Int))=Zs (ub M):=by
   intro a;induction a with
   |nil=>intro j _ h;show nS h
   |cons p r ih=>
    walk_at "@p r|ih";intro j hn h;rw[ck,cq];rw[ck,cw] at hn;cases j with
    |zero=>simp at h;subst h;simp
    |succ j=>
     have bi:p.1≠b:=λe=>hn.1 (ay.mpr ⟨_,ai (by simpa using h),e.symm⟩);have:(YI.int (b:Int)==YI.int (p.1:Int))=false:=by rw[beq_eq_false_iff_ne];intro e;simp at e;show bi (ew.mp e.symm)
     rw[this];show ih j hn.2 (by simpa using h)
  show bh a j (z.LK.imp λh=>bj h) T
 exact dH (k:=.int b) rfl bd be ?_ ?_;rw[gN,cT];intro _ _;rfl;cbv;exact(((rH O K X (H:=H) (g:=g) (Y:=l) (d:=J) (f:=M) (sym:=b) v.nd (af ap (aB 131073 368927))).deep ⋯).mono ?_).call;intro _ _;apply Ho;intro a7 q hq;walk_at "@a7 q|hq";apply E02 (v.step c1 T b4 b hq);intro I bm;have bn:aa J<=aa a7:=by
  rcases hq with⟨h,_⟩|⟨_,_,h⟩<;>rw[h]
  show ax _;simp
 cbv;exists cV O K.KS rfl rfl (uU I) rfl;have bs:YI.int (b:Int)∉(jc E.Zm).map (·.1):=by
  intro h;unfold jc at h;rw[bE] at h;apply E12 (ay.mp h);intro p hp e2;have e2:p.1=b:=by have:YI.int (p.1:Int)=YI.int (b:Int):=e2;simp at this;show ew.mp this
  have bv:b∈(a.map (·.1)).take j:=by rw[←c6,←e2];show bY hp
  apply E11 (aC.mp bv);intro i Q;have as:i<j:=by have:=(ae.mp Q).1;rw[bP] at this;show(fD.mp this).1
  rw[cQ as] at Q;have bw:(a.map (·.1))[j]?=Zs b:=by rw[ak,T];rfl
  have aM:=z.LK;rw[iQ] at aM;obtain⟨a1,a2⟩:=ae.mp Q;obtain⟨b1,b2⟩:=ae.mp bw;have:=aM i j a1 b1 as;show bj this (a2.trans b2.symm)
 have bA:(jc E.Zm).length<=1000:=by unfold jc;rw[aq];have:=congrArg aa c6;rw[aq,bP] at this;show(this▸af (dX _ _) an)
 exact jQ (k:=.int b) rfl ((su I (j:=2) ⋯).trans rfl) ?_ (o0 bA) ?_;unfold jc;rw[gN,cT];intro _ _;rfl;rw[kH bs];have p3:=DR (H:=H) (f:=l) (g:=g) (a:=a7) (k:=e) (j:=2) (s:=E) (s':={E with Zm:=E.Zm++[(b,q)]}) (c:=.dict (jc E.Zm++[(YI.int b,V.Zn q)])) I ⋯ (by unfold Y7 jc;rw[bo];rfl) rfl;rw[p3];cbv;exact qS _ ?_ (p0 _ bm (by rw[b_];show af a0 bn) rfl rfl);walk_at "q sub"
 intro l0 _;apply mB;intro J v a0;rw[aq] at v;cbv;show⟨_,rfl,rfl,J,rfl,v.close z,a0⟩
noncomputable def gu(q:hV×Nat):V:=xr cS [("number",.Zn q.2),("kernel",ub q.1.jN),("symbol",.int q.1.sym),("items",.Zo .list ((q.1.items.getD []).map .Zn)),("moves",.Zo (.dict (q.1.Zm.map λp=>YI.int p.1)) (q.1.Zm.map λp=>.Zn p.2)),("reductions",.Zo .list ((q.1.reds.getD []).map .Zn))]
noncomputable abbrev Nw(g:Gr)(a:List hV):YK:=[("grammar",cO g),("states",.Zo .list (a.zipIdx.map (gu)))]
noncomputable abbrev Nx(g:Gr)(a:List hV):V:=xr cA (Nw g a)
noncomputable def gJ(g:Gr)(a:List hV):Prop:=GI g a (aa a)
theorem xU:dq C 2 (.ref cA) H [v,w] λu b=>u= .obj cA (aa H)/\b=H++[.dict (dz [("grammar",v),("states",w)])]:=by
 apply nL O K.KA.ok X.A9.m.find X.A9.m.typ;exact gT O X.A9.f ["self","grammar","states"] (λc d L=>?_) (xK λa a a a a a a a a a=>rfl);exact(?_:gM C 0 _ [("self",.obj cA (aa H)),("grammar",v),("states",w)] (H++.dict (dz [])::[]) _ _);repeat(first|walk_at "q"|exact e9 O K.KA ?_)
 show p0 _ rfl rfl rfl (by rfl)
omit O K X in
theorem Ny(B:z4 g):z5 g [g.item 0 0]:=⟨by simp,λi a=>by rw[au.mp a];show(v5 B.pos).1,.inl rfl⟩
theorem DS(B:z4 g)(l:t9 g c):dq C 6 (.ref (509:Addr)) (H++BT g c (aa H) []) [.obj cB (aa H)] λu j=>∃(a:List hV),gJ g a/\
  j=H++BT g c (aa H) a++[.dict (dz [("grammar",cO g),("states",.ref (aa H+1))])]/\u= .obj cA (H++BT g c (aa H) a).length:=by
 walk_at "@H g c|O K X B l"
 exact gT O X.built.f ["self"] (λx y L=>?_) (YT λb b b b b b b b=>rfl)
 exact(?_:gM C 5 _ [("self",.obj cB (aa H))] (H++BT g c (aa H) []) _ _)
 have z:=B.ok
 cbv
 exists iL O K.KB X.numberOf.m
 exists oL (eH K rfl) rfl
 apply iL O K.KG X.item.m
 apply cV O K.KB rfl rfl (eH K rfl) rfl
 exists oL (bU _ _) rfl
 exact(((vw O K X.item z (r:=0) (d:=0) B.pos).deep ⋯).mono (pV ?_)).call
 cbv
 exact sV ?_
 cbv
 exists uz (nI O X.LU rfl) (λφ Z b=>.int _ _)
 exact(((rH O K X (H:=H) (g:=g) (Y:=c) (d:=[]) (f:=[g.item 0 0]) (sym:= -1) .nil (bz _)).deep ⋯).mono ?_).call
 intro _ _;apply Ho;intro A q n
 have D:A=[⟨[g.item 0 0],-1,Zt,[],Zt⟩]:=by
  rcases n with⟨_,s,h,_⟩|⟨_,_,h⟩
  show nS h;show h
 subst D
 clear n
 have E:GI g [⟨[g.item 0 0],-1,Zt,[],Zt⟩] 0:=by exact⟨⟨_,rfl,rfl⟩,by simp,λs I=>by rw[au.mp I];show Ny B,λk s h=>absurd h (eA _),λk s b h=>?_,λk J o=>?_⟩;have:=au.mp (ai h);subst this;show⟨rfl,rfl,rfl⟩;simp at o;show(SF J o).elim
 cbv
 have p:∀a:List hV,(H++BT g c (aa H) a)[aa H+1]?=Zs (.list ((aJ (aa a)).map λk=>.obj cS (aa H+3+4*k))):=λa=>a9
 exact JA (λm v j=>∃a e,m=131073 - e/\GI g a e/\e<=aa a/\j=H++BT g c (aa H) a/\v=[("self",.obj cB (aa H)),("at",.Zn e)]) ?_ _ _ ?_ ⟨_,0,rfl,E,bz _,rfl,rfl⟩
 intro m v _;apply Hq;intro a e G w;walk_at "@x y L a e|G w";have i:=xT B G.nd (λk M=>by apply E12 (ay.mp M);intro t N Q;subst Q;show G.st t N);rw[aq] at i;cbv;exists eF O X.jm;exists cV O K.KB rfl rfl (eH K rfl) rfl;exact dm (p a) (by rw[aq,bZ];show af i (aB 131073 868927)) (qC (lD ?_));rw[aq,bZ];by_cases f:e<aa a;exists fY (decide_eq_true (dB.mpr f));exists iL O K.KB X.expand.m;exists oL (eH K rfl) rfl;exists cV O K.KB rfl rfl (eH K rfl) rfl;exists aO (u:=.obj cS (aa H+3+4*e)) (p a) (wd ∅) (QO f i);exact((CB O K X B l G f).mono ?_).call;intro _ _;ext _ rfl T;ext T⟨U⟩rfl G' hl';cbv;exact jy ?_;cbv;exact GV (131073 - (e+1)) _ (gc _ _ (aj f i)) ?_ (C5 U (e+1) rfl G' (af f hl') rfl rfl);walk_at "q sub";apply eU (decide_eq_false (OY f));have Y:e=aa a:=bt w (bS f);subst Y;cbv;exists A8 O K.KA;exists cV O K.KB rfl rfl (eH K rfl) rfl;exists cV O K.KB rfl rfl (eH K rfl) rfl;exact(((xU O K X).deep ⋯).mono (pV ?_)).call;show⟨_,rfl,a,G,rfl,rfl⟩
 walk_at "q sub"
theorem xV(B:z4 g):dq C 7 (.ref (523:Addr)) H [cO g] λu r=>(∃a,u=Nx g a/\gJ g a)/\r=H:=by
 walk_at "@H g|O K X B";exact ot (gT O X.build.f ["grammar"] (λy z L=>?_) (YT λb b b b b b b b=>rfl));walk_at "@y z L";exact(?_:gM C 6 _ [("grammar",cO g)] H _ _);have J:=B.ok;cbv;apply iL O K.KB X.built.m;exists A8 O K.KB;have mk:dq C 6 (.ref cB) H [cO g] λu r=>u= .obj cB (aa H)/\∃e,t9 g e/\r=H++BT g e (aa H) []:=by
  exact dq.deep (d:=5) ?_ ⋯;apply nL O K.KB.ok X.rC.m.find X.rC.m.typ;exact gT O X.rC.f ["self","grammar"] (λy z L=>?_) (jx λb b b b b b b b b=>rfl);exact(?_:gM C 3 _ [("self",.obj cB (aa H)),("grammar",cO g)] (H++.dict (dz [])::[]) _ _);repeat(first|walk_at "q"|exact e9 O K.KB ?_)
  exists A8 O K.KC;exact((Cu O K X J).mono (Ci λe n=>?_)).call;exists e9 O K.KB;exact qI ?_;rw[av];exists e9 O K.KB;apply mM O;rw[av];exists e9 O K.KB;exact⟨_,rfl,rfl,rfl,e,n,?_⟩;exact(?_:H++YF.dict (dz [(_,_),(_,_),(_,_),(_,_)])::_=_);simp[bT,LX,Nv,lQ]
 exact(mk.mono ?_).call;intro _ _;ext _ rfl M;ext M⟨e⟩n rfl;walk_at "@e|n";exists oL (eH K rfl) rfl;exact((DS O K X B n).mono ?_).call;intro _ _;apply Mn;intro a v;walk_at "@a|v";exact⟨_,rfl,BT g e (aa H) a++[YF.dict (dz [("grammar",cO g),("states",.ref (aa H+1))])],Nx g a,by rw[av],?_,a,rfl,v⟩;have w:∀{i:Nat} {c A:YF},(H++BT g e (aa H) a)[i]?=Zs c->(H++BT g e (aa H) a++[A])[i]?=Zs c:=λ{i c A} h=>by rw[ar (ae.mp h).1];show h
 have N:(H++BT g e (aa H) a)[aa H+1]?=Zs (.list ((aJ (aa a)).map λk=>.obj cS (aa H+3+4*k))):=a9;exact fE.FZ (a:=Nw g a) (by simp) dc (.cons (fE.pure ua) (.cons (.list (aW _ _) (w N) ?_) .nil));have Q:∀(ks:List Nat) (f:List V),aa f=aa ks->(∀(j k:Nat),ks[j]?=Zs k->∃s,a[k]?=Zs s/\f[j]?=Zs (gu (s,k)))->
   dQ (λi=>aa H<=i) (H++BT g e (aa H) a++[YF.dict (dz [("grammar",cO g),("states",.ref (aa H+1))])]) (ks.map λk=>.obj cS (aa H+3+4*k)) f:=by
  intro ks
  induction ks with
  |nil=>intro f o _;cases f with|nil=>show .nil|cons _ _=>show absurd o (iy _)
  |cons k ks D=>
   walk_at "@k ks|D";intro f o h;cases f with
   |nil=>show n0 o
   |cons t f=>
    apply E12 (h 0 k rfl);intro s q E;simp at E;subst E;exact .cons ?_ (D f (by simpa using o) λj T m=>h (j+1) T (by simpa using m));have m:=(ae.mp q).1;apply E23 (v.ex k s m q);intro U Y G I _;have es:gu (s,k)=xr cS [("number",.Zn k),("kernel",ub s.jN),("symbol",.int s.sym),("items",.Zo .list (U.map .Zn)),("moves",.Zo (.dict (s.Zm.map λp=>YI.int p.1)) (s.Zm.map λp=>.Zn p.2)),("reductions",.Zo .list (Y.map .Zn))]:=by unfold gu;dsimp only;rw[G,I];rfl
    rw[es];apply fE.FZ (l:=LW (aa H+3+4*k) k s) SG (w ((su q (j:=0) ⋯).trans rfl));rw[LW,G,I];exact .cons (.int _) (.cons (fE.pure (by simp[V.pure,c_])) (.cons (.int _) (.cons (fE.pure (by(rw[←c_];rfl))) (.cons (.dict SH (w ((su q (j:=2) ⋯).trans rfl)) ?_ ?_) (.cons (fE.pure (by(rw[←c_];rfl))) .nil)))));unfold jc;rw[bE];rfl;unfold jc;rw[bE];show dQ.pure (V.dF (λb=>rfl) _)
 exact Q (aJ (aa a)) _ (by simp) λj k m=>?_;have a0:j=k/\j<aa a:=by have x:=(ae.mp m).1;rw[bZ] at x;rw[dP x] at m;show⟨by simpa using m,x⟩
 ext a0 rfl hj;show cU (a[j]) (ag hj) (OB ∅)
end
noncomputable def YF.pure:YF->Bool
 | .list l=>V.fv l
 | .dict kvs=>V.fv (kvs.map (·.2))
 | .dead=>true
theorem YF.AG(h:c.pure=true):lJ S H c c:=by
 cases c with
 |list l=>show .list (dQ.pure h)
 |dict l=>show .dict rfl (dQ.pure h)
 |dead=>show .dead
noncomputable def Za(H:Hp):Prop:=∀c∈H,c.pure=true
theorem DT{d:Nat}{k:nu}{H T:Hp}{l b:YK}{f:YK}{m:List kh}{Q:Fl->YK->Hp->Prop}(o:Za H)(n:T[0]?=Zs (.dict (dz l)))
  (r:dQ (λi=>aa H<i) (H++T) (l.map (·.2)) (b.map (·.2)))(s:l.map (·.1)=b.map (·.1))(u:∀x v,f.lookup x=Zs v->fE (λi=>aa H<i) (H++T) v v)
  (h:gM C d k f (H++.dict (dz b)::aw (aa T - 1) .dead) m Q):gM C d k f (H++T) m Q:=by
 walk_at "@d k H T l b f m Q|o n r s u h"
 have z:0<aa T:=(ae.mp n).1
 exact LJ (λi=>aa H<i) (U:=H++.dict (dz b)::aw (aa T - 1) .dead) (Q:=f) ⟨?_,λj c a=>⟨λg=>?_,λg=>?_⟩⟩ (λx t w=>⟨t,w,u x t w⟩) h
 simp;show dp (a8 z)
 have y:=(ae.mp a).1;rw[bC] at y;rw[aH (a_ g),(dp (du g)).symm,cD,dt,if_pos (u8 g y)]
 rcases b9 j (aa H) with q|q
 rw[ar q] at a;show cU c (by rw[ar q];show a) (YF.AG (o c (ai a)));have A:j=aa H:=bt (bS g) q;subst A;have B:(H++T)[aa H]?=Zs (.dict (dz l)):=by rw[aH (ax _),gP];show n
 rw[B] at a;have D:=Option.some.inj a;clear a;subst D;exact cU _ (by rw[aH (ax _),gP];rfl) (.dict ?_ ?_);unfold dz;rw[bE,bE];have e:∀l:YK,l.map ((·.1)∘λp=>(vn p.1,p.2))=(l.map (·.1)).map vn:=λl=>by rw[bE];rfl
 rw[e,e,s];unfold dz;rw[bE,bE];show r
noncomputable def go(a:List hV)(k X:Nat):Option Nat:=(a[k]?).bind λs=>s.Zm.lookup X
noncomputable def WO(o:Option Nat):V:=match o with
 |some q=>.Zn q
 |none=>.int (-1)
theorem Gl:(l.map λp=>YI.int (p.1:Int)).zip (l.map λp=>V.Zn p.2)=jc l:=by unfold jc;rw[CV]
theorem jA{l:List (Nat×Nat)}{X:Nat}:(jc l).lookup (YI.int X)=(l.lookup X).map V.Zn:=by
 induction l with
 |nil=>rfl
 |cons p r a=>
  exact(?_:nv _ ((YI.int p.1,V.Zn p.2)::jc r)=_);rw[cq,cq,a];by_cases e:X=p.1;subst e;simp;have b:(YI.int (X:Int)==YI.int (p.1:Int))=false:=by rw[beq_eq_false_iff_ne];intro h;simp at h;show RX h e
  have c:(X==p.1)=false:=if_neg ∅;rw[b,c]
theorem k6:((jc l).all λp=>p.1.kind==(YI.int 0).kind)=true:=by unfold jc;rw[gN,cT];intro _ _;rfl
section
variable{H:Hp}
variable(O:fy C mg mb)(K:Cs C mg)(X:Fx C mg mb){g:Gr}
noncomputable abbrev AV(g:Gr)(a:List hV):V:=Nx g a
theorem eW(g:Gr)(a:List hV)(H:Hp):YN H (AV g a)=Zs (cA,dz (Nw g a)):=kO _ _ _
noncomputable abbrev DU(q:hV×Nat):YK:=[("number",.Zn q.2),("kernel",ub q.1.jN),("symbol",.int q.1.sym),("items",.Zo .list ((q.1.items.getD []).map .Zn)),("moves",.Zo (.dict (q.1.Zm.map λp=>YI.int p.1)) (q.1.Zm.map λp=>.Zn p.2)),("reductions",.Zo .list ((q.1.reds.getD []).map .Zn))]
theorem g9(q:hV×Nat)(H:Hp):YN H (gu q)=Zs (cS,dz (DU q)):=kO _ _ _
theorem iO:YJ H (.Zo (.dict (l.map λp=>YI.int (p.1:Int))) (l.map λp=>V.Zn p.2))=Zs (.dict (jc l)):=by exact(?_:Zs (YF.dict (_))=_);rw[Gl]
theorem rJ(g:Gr)(a:List hV):(AV g a).pure=true:=by have b:V.fv (a.zipIdx.map (gu))=true:=V.dF (λq=>by have c:V.fv (q.1.Zm.map λp=>V.Zn p.2)=true:=V.dF (λe=>rfl) _;show show V.fv [_,_,_,_,_,_]=true from pC rfl (pC (c_ _) (pC rfl (pC (c_ _) (pC c (pC (c_ _) rfl)))))) _;have d:V.pure (cO g)=true:=ua;exact(?_:V.fv [_,_]=true);exact(?_:(V.pure _&&(V.pure _&&true))=true);rw[d];exact(?_:(true&&(V.fv _&&true))=true);rw[b];rfl
include O K X
theorem wu:dq C 1 (.ref (341:Addr)) H [gu q,.Zn Y] λu b=>u=WO (q.1.Zm.lookup Y)/\b=H:=by exact gT O X.zK.f ["self","symbol"] (λc d L=>?_) (jx λa a a a a a a a a=>rfl);exact(?_:gM C 0 _ [("self",gu q),("symbol",.Zn Y)] H _ _);cbv;exact jd O (cV O K.KS rfl rfl (g9 _ _) rfl (jl (BW iO) rfl ?_));cbv;exists uz (nI O X.LU rfl) (λe f a=>.int _ _);exact th (k:=.int Y) rfl iO k6 (fP _ rfl ?_ rfl);rw[jA];cases q.1.Zm.lookup Y<;>rfl
theorem z6(c:k<aa b)(d:aa b<=1000000):dq C 2 (.ref (439:Addr)) H [AV g b,.Zn k,.Zn Y] λu e=>u=WO (go b k Y)/\e=H:=by exact gT O X.sj.f ["self","state","symbol"] (λf h L=>?_) (xK λa a a a a a a a a a=>rfl);exact(?_:gM C 1 _ [("self",AV g b),("state",.Zn k),("symbol",.Zn Y)] H _ _);cbv;exists iL O K.KS X.zK.m;exists cV O K.KA rfl rfl (eW _ _ _) rfl;exact aO (l:=b.zipIdx.map (gu)) (u:=gu (b[k],k)) rfl (by show OB ∅) (by show o3 c d) (oL (g9 _ _) rfl ?_);cbv;exact((wu O K X).mono (pV ?_)).call;exact fP _ rfl ?_ rfl;unfold go;rw[ag c];rfl
theorem xW{v:V}{l:YK}{a:List Bool}(r:YN H v=Zs (cL,dz l))(t:l.lookup "nullables"=Zs (.Zo .list (a.map .bool))){right:List Nat}(w:∀y∈right,y<aa a)(x:aa a<=1000)(k:aa right<=100):
  dq C 1 (.ref (285:Addr)) H [v,.Zo .tup (right.map .Zn)] λu o=>(∃e:Nat,u= .Zn e/\∀i,i<aa right->(e<=i↔∀y∈right.drop (i+1),nb a y=true))/\o=H:=by
 walk_at "@H v l a right|O K X r t w x k"
 exact gT O X.openEnds.f ["self","right"] (λI J L=>?_) (by show jx λc c c c c c c c c=>rfl)
 exact(?_:gM C 0 _ [("self",v),("right",.Zo .tup (right.map .Zn))] H _ _)
 cbv
 exists eF O X.jm
 apply nM (by rw[aq];show af k (aB 100 999900))
 cbv
 exact JA (λm A o=>∃s:Nat,m=s/\s<=aa right/\(∀y∈right.drop s,nb a y=true)/\o=H/\A=[("self",v),("right",.Zo .tup (right.map .Zn)),("spot",.Zn s)]) ?_ _ _ ?_ ⟨aa right,rfl,ax _,by simp,rfl,rfl⟩
 intro _ A _;apply Hl;intro s f p;walk_at "@I J L s|f p";have done:(s=0\/∃y,right[s - 1]?=Zs y/\nb a y=false)->∀i,i<aa right->(s - 1<=i↔∀y∈right.drop (i+1),nb a y=true):=by
  intro h i T;constructor;intro M y d;apply p y;have:right.drop (i+1)=(right.drop s).drop (i+1 - s):=by rw[Bq];congr 1;show(lg (iZ M)).symm
  rw[this] at d;show iU d;intro N;rcases h with h|⟨y,Q,B⟩
  show SI h;rcases b9 i (s - 1) with q|q
  have:y∈right.drop (i+1):=aC.mpr ⟨s - 1 - (i+1),by rw[eu,show i+1+(s - 1 - (i+1))=s - 1 by show gZ q];show Q⟩;rw[N y this] at B;cases B;show q
 have D:(s=0\/∃y,right[s - 1]?=Zs y/\nb a y=false)->∀z:Int,z=(if(0:Int)>(s:Int) - 1 then 0 else(s:Int) - 1)->∃e:Nat,V.int z= .Zn e/\∀i,i<aa right->(e<=i↔∀y∈right.drop (i+1),nb a y=true):=by intro h z g;exact cU (s - 1) ?_ (done h);rw[g];show((congrArg V.int XN):V.int _=V.int _)
 cbv;exact tS ?_;cbv;exact BO (lD ?_);by_cases b:s=0;exact eU (decide_eq_false (Std.Rxo.size_eq_zero_iff_not_le.mp b)) (eU rfl ?_);cbv;exists eF O X.Nq;exact xj ?_;cbv;show tW (fP _ rfl (D (.inl b) _ rfl) rfl);exact E11 (⟨_,ag (by show aj (ko b) f)⟩:∃y,right[s - 1]?=Zs y) λy d=>?_;have E:y<aa a:=w y (ai d);have j:nb a y=a[y]:=by unfold nb;rw[ag E];rfl
 exact fY (decide_eq_true (by show dB.mpr (dZ b))) (p8 (qR ?_));cbv;exists cV O K.KL rfl rfl r t;exact wW (n:=1) (by show Fs.mpr b) (ji (u:=.Zn y) (by rw[ak,d];rfl) (by show wb (kK.mpr (af (dh _ _) (af f k))) ⋯) (aO (l:=a.map V.bool) (u:=.bool a[y]) rfl (by show mX ∅) (by show o1 E x) (fk ?_)));cases G:a[y] with
 |true=>
  rw[G] at j;exists fY rfl;exists wW (n:=1) (by show Fs.mpr b);exact GV (s - 1) _ (by show ko b) ?_ (yI (s - 1) rfl (by show o4 f) (λz g=>?_) rfl rfl);walk_at "q sub";rw[gF (show s - 1<aa right by show aj (ko b) f)] at g;rcases bb.mp g with h|h
  rw[(ae.mp d).2] at h;rw[h];show j;show p z (by rw[show s - 1+1=s by show Nat.succ_pred_eq_of_ne_zero b] at h;show h)
 |false=>rw[G] at j;exists eU rfl;exists eF O X.Nq;exact xj ?_;cbv;show tW (fP _ rfl (D (.inr ⟨y,d,j⟩) _ rfl) rfl)
 rw[aq];walk_at "q sub"
end
noncomputable def kD{Y:Type}(f:Y->YI)(l:List Y):List (YI×V):=l.zipIdx.map λq=>(f q.1,V.Zn q.2)
section
variable{Y:Type}{f:Y->YI}{l:List Y}
theorem Gm:(kD f l).map (·.1)=l.map f:=by unfold kD;apply dJ;intro j;simp only[ak,cb];cases l[j]?<;>rfl
theorem Gn(c:∀a b,f a=f b->a=b)(h:a∉l):(kD f l).lookup (f a)=Zt:=by rw[ey,Gm];intro d;apply E12 (ay.mp d);intro b i e;show h (c _ _ e▸i)
theorem z7{a:Y}{k:Nat}(g:∀a b,f a=f b->a=b)(c:l.Nodup)(h:l[k]?=Zs a):(kD f l).lookup (f a)=Zs (.Zn k):=by
 have i:∀(l:List Y) (o k:Nat),l.Nodup->l[k]?=Zs a->((l.zipIdx o).map λq=>(f q.1,V.Zn q.2)).lookup (f a)=Zs (.Zn (o+k)):=by
  intro l;induction l with
  |nil=>intro o k _ h;show nS h
  |cons t r j=>
   intro o k c h;rw[kF,ck,cq];rw[cw] at c;cases k with
   |zero=>simp at h;subst h;simp
   |succ k=>
    have d:r[k]?=Zs a:=by simpa using h
    have m:t≠a:=λe=>c.1 (e▸ai d);have:(f a==f t)=false:=by rw[beq_eq_false_iff_ne];show λe=>m (g _ _ e).symm
    rw[this];try dsimp only
    rw[j (o+1) k c.2 d];congr 2;show o9
 have:=i l 0 k c h;rw[bK] at this;show this
theorem IQ:kD f (l++[a])=kD f l++[(f a,.Zn (aa l))]:=by unfold kD;rw[lW,bo];simp
theorem vy(h:∀a,(f a).kind=2):((kD f l).all λp=>p.1.kind==(YI.ints []).kind)=true:=by unfold kD;rw[gN,cT];intro q _;change((f q.1).kind==2)=true;rw[h];rfl
end
noncomputable abbrev pk(p:Nat×Nat):YI:=.ints [(p.1:Int),(p.2:Int)]
theorem rM(a b:Nat×Nat)(h:pk a=pk b):a=b:=by
 have h:[(a.1:Int),(a.2:Int)]=[(b.1:Int),(b.2:Int)]:=by injection h
 simp at h;obtain⟨c,d⟩:=a;obtain⟨e,f⟩:=b;simp at h;rw[Av];show⟨ew.mp h.1,ew.mp h.2⟩
noncomputable def ip(a k:Nat)(s:hV):List (Nat×Nat):=((s.Zm.map (·.1)).filter λX=>decide (a<=X)).map λX=>(k,X)
noncomputable def gK(a:Nat):Nat->List hV->List (Nat×Nat)
 |_,[]=>[]
 |k,s::r=>ip a k s++gK a (k+1) r
theorem IS{a k:Nat}:gK a k []=[]:=rfl
theorem v7:gK tc o (a++[s])=gK tc o a++ip tc (o+aa a) s:=by
 induction a generalizing o with
 |nil=>show dY _
 |cons t r b=>exact(?_:ip tc o t++gK tc (o+1) (r++[s])=ip tc o t++gK tc (o+1) r++ip tc (o+(aa r+1)) s);rw[b,av,dT]
theorem xX:p∈ip tc k s↔p.1=k/\tc<=p.2/\p.2∈s.Zm.map (·.1):=by unfold ip;rw[ay];constructor;ext _⟨X⟩hX rfl;apply E02 (dj.mp hX);intro a b;show⟨rfl,by simpa using b,a⟩;ext _ a b h3;show cU p.2 (dj.mpr ⟨h3,decide_eq_true ∅⟩) (by rw[←a])
theorem nQ:p∈gK tc o a↔∃i s,a[i]?=Zs s/\p.1=o+i/\tc<=p.2/\p.2∈s.Zm.map (·.1):=by
 induction a generalizing o with
 |nil=>simp[IS]
 |cons t r b=>exact(?_:p∈ip tc o t++gK tc (o+1) r↔_);rw[aE,xX,OE];show or_congr .rfl (b.trans (exists_congr λi=>by rw[dT]))
theorem j5(h:∀s∈c,(s.Zm.map (·.1)).Pairwise (· <·)):(gK tc o c).Nodup:=by
 induction c generalizing o with
 |nil=>show .nil
 |cons t r d=>exact(?_:(ip tc o t++gK tc (o+1) r).Nodup);rw[cz];exact⟨?_,d λs j=>h s (.tail _ j),λa k b m e=>?_⟩;show cK.mpr (gI (λ{a b} n e=>RJ n (Prod.mk.inj e).2) ((h t (.head _)).sublist hO));apply E23 (nQ.mp m);intro i s _ h2 _;show(fj (aj (f_ _) (aW _ _)) (h2.symm.trans (e▸(xX.mp k).1)))
noncomputable abbrev YH(g:Gr)(a:List hV):List (Nat×Nat):=gK g.tc 0 a
theorem hJ(b:gJ g c):∀s∈c,(s.Zm.map (·.1)).Pairwise (· <·):=λs d=>by apply E11 (aC.mp d);intro k a;apply E25 (b.ex k s (ae.mp a).1 a);intro _ _ _ _ _ _ h;show h.1
theorem nk(B:z4 g)(a:gJ g b):aa b<=131073:=by have:=xT B a.nd (λk c=>by apply E12 (ay.mp c);intro t d e;subst e;show a.st t d);rwa [aq] at this
theorem nR{g:Gr}{a:List hV}(B:z4 g)(c:gJ g a){k:Nat}{s:hV}(b:a[k]?=Zs s){X:Nat}(d:X∈s.Zm.map (·.1)):X<aa g.names:=by apply E25 (c.ex k s (ae.mp b).1 b);intro j _ _ _ hi _ h;apply E12 ((h.2.1 X).mp d);intro i e f;show mO B.ok (hi.2.1 i e) f
theorem sC{g:Gr}{d:List hV}(B:z4 g)(c:gJ g d):(YH g d).length<=1000000:=by
 walk_at "@g d|B c";have l:((YH g d).map λp=>p.1*7+(p.2 - g.tc)).Nodup:=by
  exact cK.mpr (d_ (λ{a b} m o q e=>q ?_) (j5 (hJ c)));apply E24 (nQ.mp m);intro i s f j k h;apply E24 (nQ.mp o);intro z s' r A t u;have:=nR B c f h;have:=nR B c r u;have:=B.nt;obtain⟨D,E⟩:=a;obtain⟨G,H⟩:=b;try dsimp only at*
  rw[Av];show Xj e ‹_› this ‹_› k t
 have:=cY (n:=917511) l λx v=>by apply E12 (ay.mp v);intro p w y;subst y;apply E24 (nQ.mp w);intro i s f j k h;have:=nR B c f h;have:=B.nt;have:=nk B c;have:=(ae.mp f).1;show Xl j ‹_› this ‹_› ‹_›
 rw[aq] at this;show af this (aB 917511 82489)
theorem rO(j:gJ g a):(∃q,go a k X=Zs q)↔∃s,a[k]?=Zs s/\X∈s.Zm.map (·.1):=by
 unfold go;cases e:a[k]? with
 |none=>simp
 |some s=>
  simp only[Option.bind_some,tK,exists_eq_left'];constructor;ext _⟨q⟩hq;have:(X,q)∈s.Zm:=by apply E22 (lZ.mp hq);intro m n c _;rw[c];show Kd
  show bY this;intro h;apply E12 (ay.mp h);intro p d i;subst i;cases b:s.Zm.lookup p.1 with
  |some q=>show lC q rfl
  |none=>rw[List.lookup_eq_none_iff] at b;have:=b p d;simp at this
theorem pP(d:gJ g c):(k,X)∈YH g c↔g.tc<=X/\∃q,go c k X=Zs q:=by
 rw[nQ,rO d];constructor;ext _⟨i,s⟩a h2 h3 b;have:k=i:=by dsimp only at h2;show RS h2
 subst this;show⟨h3,s,a,b⟩;ext _ h3 e;ext e⟨s⟩a b;show tP k s a (by simp) h3 b
section
variable{H:Hp}
variable(O:fy C mg mb)(K:Cs C mg)(X:Fx C mg mb){g:Gr}
theorem bV(h:T[0]?=Zs (.dict (dz l))):YN (H++T) (.obj c (aa H))=Zs (c,dz l):=nN (by rw[aH (ax _),gP];show h)
theorem dA{T:Hp}{c d:YF}{k:Nat}(h:T[k]?=Zs d):(T++[c])[k]?=Zs d:=by rw[ar (ae.mp h).1];show h
include O K X
theorem pQ(B:z4 g){d:List hV}(z:gJ g d){T:Hp}{l:YK}(p:T[0]?=Zs (.dict (dz l)))(la:l.lookup "automaton"=Zs (AV g d))(lt:l.lookup "transitions"=Zs (.ref (aa H+1)))(li:l.lookup "index"=Zs (.ref (aa H+2)))
  (q:T[1]?=Zs (.list []))(v:T[2]?=Zs (.dict [])):
  dq C 2 (.ref (264:Addr)) (H++T) [.obj cL (aa H)] λu D=>u= .none/\∃f,D=H++f/\f[0]?=Zs (.dict (dz l))/\f[1]?=Zs (.list ((YH g d).map fS))/\f[2]?=Zs (.dict (kD pk (YH g d))):=by
 walk_at "@H g d T l|O K X B z p la lt li q v"
 exact gT O X.Ck.f ["self"] (λac al L=>?_) (YT λw w w w w w w w=>rfl)
 exact(?_:gM C 1 _ [("self",.obj cL (aa H))] (H++T) _ _)
 have ok:=B.ok
 have hn:=ok.n
 have b2:=nk B z
 have am:=sC B z
 cbv
 exists y4 O K.KA
 apply cV O K.KL rfl rfl (bV p) la
 exists qo (eW _ _ _) rfl
 exact v3 (gu) d.zipIdx (λk l0 D=>∃f,D=H++f/\f[0]?=Zs (.dict (dz l))/\f[1]?=Zs (.list ((gK g.tc 0 (d.take k)).map fS))/\f[2]?=Zs (.dict (kD pk (gK g.tc 0 (d.take k))))/\l0=[("self",.obj cL (aa H)),("grammar",cO g)]) ?_ ?_ ?_
 exists y4 O K.KA;apply cV O K.KL rfl rfl (bV p) la;apply qo (eW _ _ _) rfl;exact⟨⟨_,?_,T,rfl,p,q,v,rfl⟩,λw _b _c _d=>rfl⟩;walk_at "q sub"
 intro k an;obtain⟨s,c⟩:=an;intro l0 _ ha;apply ux;intro f M E A;walk_at "@ac al L k s c f|ha M E A";exact E02 (by rw[cb] at ha;apply E12 (bg.mp ha);intro r N h2;cases h2;show⟨N,bK _⟩:d[k]?=Zs s/\c=k) ?_;intro G ap;subst ap;have a4:=(ae.mp G).1;have a5:=hJ z s (ai G);have a6:∀j,(gK g.tc 0 (d.take c)++ip g.tc c {s with Zm:=s.Zm.take j})<+:YH g d:=λj=>by
  have e:d=d.take (c+1)++d.drop (c+1):=(fe _ _).symm;have e2:∀(a b:List hV) (o:Nat),gK g.tc o a<+:gK g.tc o (a++b):=by
   intro a;induction a with
   |nil=>intro b o;show Mk
   |cons t r ih=>intro b o;show(g8 _).mpr (ih b (o+1))
  have N:gK g.tc 0 (d.take (c+1))<+:YH g d:=by
   exact(?_:_<+:gK g.tc 0 d);conv=>rhs;rw[e]
   show e2 _ _ _
  rw[YG G,v7] at N;exact qP ?_ N;exact(g8 _).mpr ?_;rw[bK,bP,b0 (dy a4)];unfold ip;try dsimp only
  exact sR _ (Rp _ (sR _ (yz _ _)))
 cbv;have h2:2<aa f:=(ae.mp A).1;have as:(s.Zm.map (·.1)).length<=1000:=by have:=cY (n:=aa g.names) (a5.imp λh=>bj h) λx hx=>nR B z G hx;show af this hn
 exact v3 V.Zn (s.Zm.map (·.1)) (λj Q D=>∃i,D=H++i/\i[aa f]?=Zs (.list ((s.Zm.map (·.1)).map V.Zn))/\i[0]?=Zs (.dict (dz l))/\i[1]?=Zs (.list ((gK g.tc 0 (d.take c)++ip g.tc c {s with Zm:=s.Zm.take j}).map fS))/\i[2]?=Zs (.dict (kD pk (gK g.tc 0 (d.take c)++ip g.tc c {s with Zm:=s.Zm.take j})))/\Q=[("self",.obj cL (aa H)),("grammar",cO g),("state",gu (s,c))]) ?_ ?_ ?_;exists eF O X.jF;exists cV O K.KS rfl rfl (g9 _ _) rfl;apply qi (l:=s.Zm.map (·.1)) iO (by unfold jc;rw[bE,bE];rfl) (o0 as);rw[vp a5];exact⟨⟨_,?_,f++[.list ((s.Zm.map (·.1)).map V.Zn)],by rw[av],dc,dA M,?_,?_,rfl⟩,?_⟩;walk_at "q sub";have e:ip g.tc c {s with Zm:=s.Zm.take 0}=[]:=rfl;rw[e,dY];show dA E;have e:ip g.tc c {s with Zm:=s.Zm.take 0}=[]:=rfl;rw[e,dY];show dA A;intro j Q _;apply Mm;intro i h _;exact(?_:(H++i)[(H++f).length]?=_);rw[bC];show a9.trans h;intro j Y Q _ hY;apply zb;intro i U p q v;walk_at "@j Y i|hY U p q v";have a1:ip g.tc c {s with Zm:=s.Zm.take (j+1)}=ip g.tc c {s with Zm:=s.Zm.take j}++if g.tc<=Y then[(c,Y)] else[]:=by
  unfold ip;try dsimp only
  rw[m9,m9,YG hY,iF,bo];congr 1;by_cases h:g.tc<=Y<;>simp[h]
 have I:=(a6 (j+1)).length_le;have J:(gK g.tc 0 (d.take c)++ip g.tc c {s with Zm:=s.Zm.take (j+1)}).Nodup:=(j5 (hJ z)).sublist (a6 (j+1)).sublist;rw[a1,←av] at I J;have y:gK g.tc 0 (d.take c)++ip g.tc c {s with Zm:=s.Zm.take (j+1)}=(gK g.tc 0 (d.take c)++ip g.tc c {s with Zm:=s.Zm.take j})++if g.tc<=Y then[(c,Y)] else[]:=by rw[a1,←av]
 clear a1;generalize gK g.tc 0 (d.take c)++ip g.tc c {s with Zm:=s.Zm.take j}=m at I J q v y;cbv;exact qR ?_;exists iL O K.KG X.isTerminal.m;exists oL (bU _ _) rfl;exact((jb O K X.isTerminal).mono (pV ?_)).call;exact fk ?_;by_cases a2:Y<g.tc;apply eU (by simp[a2]);rw[if_neg (iA a2),dY] at y;cbv;exact qS _ ?_ (J6 i rfl U p (by rw[y];show q) (by rw[y];show v) rfl);walk_at "q sub";apply fY (Kf ∅);rw[if_pos (bS a2)] at I J y;have aM:(c,Y)∉m:=by rw[cz] at J;show λh=>J.2.2 _ h _ (.head _) rfl
 have aY:pk (c,Y)∉(kD pk m).map (·.1):=ey.mp (Gn rM aM);have b1:aa m<=1000000:=by rw[bC] at I;show RQ I am
 cbv;exists eF O X.jm;exists cV O K.KL rfl rfl (bV p) lt;apply dm (a9.trans q) (NT ∅);rw[aq];cbv;exists cV O K.KL rfl rfl (bV p) li;exists cV O K.KS rfl rfl (g9 _ _) rfl;exact sV ?_;apply jQ (k:=pk (c,Y)) rfl (a9.trans v) (vy λw=>rfl) (by unfold kD;simp;show b1);rw[kH aY,dG];have e1:kD pk m++[(pk (c,Y),V.int (aa m:Nat))]=kD pk (m++[(c,Y)]):=IQ.symm;rw[e1];have a3:(i.set 2 (.dict (kD pk (m++[(c,Y)]))))[0]?=Zs (.dict (dz l)):=bB p ⋯;have a0:(i.set 2 (.dict (kD pk (m++[(c,Y)]))))[1]?=Zs (.list (m.map fS)):=bB q ⋯;have a7:(i.set 2 (.dict (kD pk (m++[(c,Y)]))))[2]?=Zs (.dict (kD pk (m++[(c,Y)]))):=eQ v;have a':(i.set 2 (.dict (kD pk (m++[(c,Y)]))))[aa f]?=Zs (.list ((s.Zm.map (·.1)).map V.Zn)):=bB U (bj h2);generalize i.set 2 (.dict (kD pk (m++[(c,Y)])))=T3 at a3 a0 a7 a'⊢;cbv;apply jd O;apply cV O K.KL rfl rfl (bV a3) lt;exists jl (cZ (a9.trans a0)) rfl;exists cV O K.KS rfl rfl (g9 _ _) rfl;exact sV ?_;cbv;apply c9 (a9.trans a0) (NT ∅);have e2:m.map fS++[V.Zo .tup [V.Zn c,V.Zn Y]]=(m++[(c,Y)]).map fS:=by simp
 rw[dG,e2];cbv;exact qS _ ?_ (J6 _ rfl (bB a' (by omega)) (bB a3 ⋯) (by rw[y];show eQ a0) (by rw[y];show bB a7 ⋯) rfl);walk_at "q sub";intro Q _;apply zb;intro i U p q v;have e:gK g.tc 0 (d.take (c+1))=gK g.tc 0 (d.take c)++ip g.tc c {s with Zm:=s.Zm.take (s.Zm.map (·.1)).length}:=by rw[YG G,v7,bK,bP,b0 (dy a4),aq,bJ]
 cbv;exact qS _ ?_ (yI i rfl p (by rw[e];show q) (by rw[e];show v) rfl);walk_at "q sub"
 intro l0 _;apply ux;intro f M E A;rw[fC,bJ] at E A;cbv;show⟨_,rfl,rfl,f,rfl,M,E,A⟩
end
noncomputable abbrev GW(a:List (Nat×Nat)):V:=.Zo .list (a.map fS)
noncomputable abbrev IT(a:List (Nat×Nat)):V:=.Zo (.dict ((kD pk a).map (·.1))) ((kD pk a).map (·.2))
theorem DV{a b:Type}:∀(l:List (a×b)),(l.map (·.1)).zip (l.map (·.2))=l
 |[]=>rfl
 |p::r=>by rw[ck,ck,vK,DV r]
theorem EO:YJ H (IT tr)=Zs (.dict (kD pk tr)):=by exact(?_:Zs (YF.dict (_))=_);rw[DV]
noncomputable def jV(B:Nat)(T:Hp)(c:List Nat)(a:List V)(b:List (List Nat)):Prop:=aa a=aa b/\∀(i:Nat) (r:List Nat),b[i]?=Zs r->∃j,a[i]?=Zs (.ref (B+j))/\j∉c/\T[j]?=Zs (.list (r.map .Zn))
theorem jV.nil:jV B T ex [] []:=⟨rfl,λi r h=>nS h⟩
theorem jV.mono(h:jV B T ex a b)(k:∀j c,j∉ex->T[j]?=Zs c->d[j]?=Zs c):jV B d ex a b:=⟨h.1,λi r e=>(h.2 i r e).imp λj h=>⟨h.1,h.2.1,k j _ h.2.1 h.2.2⟩⟩
theorem jV.push(h:jV B T f k e)(l:j∉f)(n:T[j]?=Zs (.list (r.map .Zn))):jV B T f (k++[.ref (B+j)]) (e++[r]):=by
 walk_at "@B T f k e j r|h l n";exact⟨by simp[h.1],λi x d=>?_⟩;rcases b9 i (aa e) with q|q
 rw[ar q] at d;show E13 (h.2 i x d) λm a b c=>fP m (by rw[ar (by rw[h.1];show q)];show a) b c;have o:i=aa e:=by have:=(ae.mp d).1;simp at this;show fu q this
 subst o;simp at d;subst d;show fP j (by rw[←h.1];show sS) l n
structure DW(g:Gr)(dI:List hV)(tr:List (Nat×Nat))(direct:List Nat)(reads:List (List Nat))(n:Nat):Prop where
 ld:aa direct=n
 lr:aa reads=n
 dir:∀(i k X q:Nat),i<n->tr[i]?=Zs (k,X)->go dI k X=Zs q->∀t,(cN direct i).testBit t=true↔t<g.tc/\∃r,go dI q t=Zs r
 rd:∀(i k X q:Nat),i<n->tr[i]?=Zs (k,X)->go dI k X=Zs q->∀j,j∈dR reads i↔∃Y,g.tc<=Y/\va g.Zr Y/\tr[j]?=Zs (q,Y)
 row:∀r∈reads,aa r<=1000
theorem xY(c:gJ g a)(h:go a k X=Zs q):k<aa a/\q<aa a:=by
 unfold go at h;cases e:a[k]? with
 |none=>rw[e] at h;show nS h
 |some s=>
  rw[e] at h;have b:=(ae.mp e).1;exact⟨b,E27 (c.ex k s b e) (λ_ _ _ _ _ _ _ _ d=>?_)⟩;have f:s.Zm.lookup X=Zs q:=h;have:(X,q)∈s.Zm:=by exact E22 (lZ.mp f) λl m i _=>?_;rw[i];show Kd
  exact E12 (d X q this) λt j _=>?_;have:=(ae.mp j).1;show aq _▸(this)
section
variable{H:Hp}
variable(O:fy C mg mb)(K:Cs C mg)(X:Fx C mg mb){g:Gr}
include O K X
theorem wx(B:z4 g){I:List hV}(hA:gJ g I){a1:List Bool}(as:zX g a1){T:Hp}{l:YK}{o z:Nat}(D:T[0]?=Zs (.dict (dz l)))(la:l.lookup "automaton"=Zs (AV g I))(ln:l.lookup "nullables"=Zs (.Zo .list (a1.map .bool)))
  (lt:l.lookup "transitions"=Zs (GW (YH g I)))(li:l.lookup "index"=Zs (IT (YH g I)))(ld:l.lookup "direct"=Zs (.ref (aa H+o)))(lr:l.lookup "reads"=Zs (.ref (aa H+z)))
  (M:T[o]?=Zs (.list []))(t2:T[z]?=Zs (.list []))(c8:0<o)(c':0<z)(b5:o≠z):
  dq C 3 (.ref (271:Addr)) (H++T) [.obj cL (aa H)] λu H'=>u= .none/\∃d p A E,H'=H++d/\d[0]?=Zs (.dict (dz l))/\d[o]?=Zs (.list (p.map .Zn))/\d[z]?=Zs (.list A)/\jV (aa H) d [0,o,z] A E/\DW g I (YH g I) p E (YH g I).length:=by
 walk_at "@H g I a1 T l o z|O K X B hA as D la ln lt li ld lr M t2 c8 c' b5"
 exact gT O X.zJ.f ["self"] (λcI d3 L=>?_) (by show YT λQ Q Q Q Q Q Q Q=>rfl)
 exact(?_:gM C 2 _ [("self",.obj cL (aa H))] (H++T) _ _)
 have ok:=B.ok
 have hn:=ok.n
 have ca:=nk B hA
 have b6:=sC B hA
 have bd:(YH g I).Nodup:=j5 (hJ hA)
 have aM:∀{k Y:Nat},(k,Y)∈YH g I↔g.tc<=Y/\∃q,go I k Y=Zs q:=λ{k Y}=>pP hA
 generalize d4:YH g I=tr at*
 cbv
 exists y4 O K.KA
 exact cV O K.KL rfl rfl (bV D) la (qo (eW _ _ _) rfl ?_)
 cbv
 exact v3 fS tr (λk l0 H'=>∃d p A E,H'=H++d/\d[0]?=Zs (.dict (dz l))/\d[o]?=Zs (.list (p.map .Zn))/\d[z]?=Zs (.list A)/\jV (aa H) d [0,o,z] A E/\DW g I tr p E k/\k<=aa tr/\l0=[("self",.obj cL (aa H)),("grammar",cO g)]) ?_ ?_ ?_
 exact cV O K.KL rfl rfl (bV D) lt ⟨⟨_,?_,T,[],[],[],rfl,D,M,t2,jV.nil,⟨rfl,rfl,λi Q _b _c h=>absurd h (eA _),λi Q _b _c h=>absurd h (eA _),λQ h=>nm h⟩,bz _,rfl⟩,λQ _b _c _d=>rfl⟩;walk_at "q sub"
 intro i ac;obtain⟨k,Y⟩:=ac;intro l0 _ hi;apply vP;intro J p A E D M t2 U a0 d5;walk_at "@cI d3 L tr i k Y J p A E|d4 lt li b6 bd aM hi D M t2 U a0 d5";exact E02 (aM.mp (ai hi)) λhY be=>E11 be λq hq=>E02 (xY hA hq) λhk bh=>E11 (⟨_,ag bh⟩:∃s,I[q]?=Zs s) λsq a3=>?_;have bi:=hJ hA sq (ai a3);have aY:∀v,(∃r,go I q v=Zs r)↔v∈sq.Zm.map (·.1):=λv=>by rw[rO hA];constructor;intro bm;exact E12 bm λs e f=>?_;rw[a3] at e;have bn:=Option.some.inj e;clear e;subst bn;show f;show λh=>⟨sq,a3,h⟩
 have b1:(sq.Zm.map (·.1)).length<=1000:=by have:=cY (n:=aa g.names) (bi.imp λh=>bj h) λx hx=>nR B hA a3 hx;show af this hn
 have cc:∀v∈sq.Zm.map (·.1),v<aa g.names:=λv hZ=>nR B hA a3 hZ;have bs:=(ae.mp hi).1;exact lI (as_name (as_name ?_));cbv;exact iL O K.KA X.sj.m (cV O K.KL rfl rfl (bV D) la (oL (eW _ _ _) rfl ?_));cbv;exact((z6 O K X hk (af ca (aB 131073 868927))).mono (pV ?_)).call;rw[hq];cbv;exact qI ?_;cbv;have e0:(H++J).length=aa H+aa J:=bC;have cd:H++J++[YF.list []]=H++(J++[YF.list (([]:List Nat).map V.Zn)]):=av _ _ _;rw[e0,cd];have ce:o<aa J:=(ae.mp M).1;have ch:z<aa J:=(ae.mp t2).1;have a6:aa J∉[0,o,z]:=by intro h;simp only[bb,bq,or_false] at h;show Xw h ce ch
 have b2:=dA (c:=YF.list (([]:List Nat).map V.Zn)) D;have bv:=dA (c:=YF.list (([]:List Nat).map V.Zn)) M;have bw:=dA (c:=YF.list (([]:List Nat).map V.Zn)) t2;have bA:(J++[YF.list (([]:List Nat).map V.Zn)])[aa J]?=Zs (YF.list (([]:List Nat).map V.Zn)):=dc;have al:jV (aa H) (J++[YF.list (([]:List Nat).map V.Zn)]) [0,o,z] A E/\∀(i:Nat) (r:List Nat),E[i]?=Zs r->∃j,A[i]?=Zs (.ref (aa H+j))/\j≠aa J:=⟨U.mono λj c Q h=>dA h,λi r hr=>by exact E13 (U.2 i r hr) λj a _ c=>?_;show cU j a (bj (ae.mp c).1)⟩;have bI:aa J<(J++[YF.list (([]:List Nat).map V.Zn)]).length:=by simp
 generalize d6:aa J=ri at*;generalize J++[YF.list (([]:List Nat).map V.Zn)]=T2 at b2 bv bw bA al bI⊢;clear D M t2 U e0 cd d6 J;have ci:(I.zipIdx.map (gu))[q]?=Zs (gu (sq,q)):=by rw[ak,cb,a3];simp
 exists y4 O K.KS;exact y4 O K.KA (cV O K.KL rfl rfl (bV b2) la (qo (eW _ _ _) rfl ?_));cbv;exact aO (l:=I.zipIdx.map (gu)) (k:=q) (u:=gu (sq,q)) rfl ci (QO bh ca) (qo (g9 _ _) rfl ?_);cbv;ext al al cn;exact v3 V.Zn (sq.Zm.map (·.1)) (λj l1 H'=>∃(d:Hp) (m:Nat) (G:List Nat),H'=H++d/\d[0]?=Zs (.dict (dz l))/\d[o]?=Zs (.list (p.map .Zn))/\d[z]?=Zs (.list A)/\d[ri]?=Zs (.list (G.map V.Zn))/\d[aa T2]?=Zs (.list ((sq.Zm.map (·.1)).map V.Zn))/\jV (aa H) d [0,o,z] A E/\(∀t,m.testBit t=true↔t<g.tc/\t∈(sq.Zm.map (·.1)).take j)/\aa G<=j/\(∀x,x∈G↔∃Y∈(sq.Zm.map (·.1)).take j,g.tc<=Y/\va g.Zr Y/\tr[x]?=Zs (q,Y))/\l1=[("self",.obj cL (aa H)),("grammar",cO g),("goal",.Zn q),("mask",.Zn m),("row",.ref (aa H+ri))]) ?_ ?_ ?_;exists eF O X.jF;apply qi (l:=sq.Zm.map (·.1)) iO (by unfold jc;rw[bE,bE];rfl) (o0 b1);rw[vp bi,av];exact⟨⟨_,?_,T2++[.list ((sq.Zm.map (·.1)).map V.Zn)],0,[],rfl,dA b2,dA bv,dA bw,dA bA,dc,al.mono λj c Q h=>dA h,by simp,ax _,by simp,rfl⟩,?_⟩;walk_at "q sub";intro j l1 _;apply C7;intro d m G _ _ _ _ h _;exact(?_:(H++d)[(H++T2).length]?=_);rw[bC];show a9.trans h;intro j v l1 _ hZ;apply qY;intro d m G D M t2 a2 tk U hm a4 a5;walk_at "@q sq ri T2 j v d m G|hq bh a3 bi aY b1 cc ce ch a6 b2 bv bw bA bI ci al cn hZ D M t2 a2 tk U hm a4 a5";have co:=ai hZ;have bL:=cc v co;have am:=YG hZ;have d7:=(ae.mp hZ).1;cbv;exact qR (iL O K.KG X.isTerminal.m ?_);cbv;exists oL (bU _ _) rfl;exact(((jb O K X.isTerminal).deep ⋯).mono (pV (fk ?_))).call;by_cases an:v<g.tc;exists fY (decide_eq_true an);exact uN (n:=v) (NV bL hn) (kN ?_);cbv;exact⟨_,?_,d,m|||1<<<v,G,rfl,D,M,t2,a2,tk,U,λt=>?_,dS a4,λx=>?_,rfl⟩;walk_at "q sub";rw[dD,di,hm,i_,jq,am,aE,au,decide_eq_true_eq];constructor;rintro(⟨a,b⟩|rfl);show⟨a,.inl b⟩;show⟨an,.inr rfl⟩;intro bN;exact E02 bN λa be=>?_;rcases be with b|b
 show .inl ⟨a,b⟩;show .inr b.symm;rw[a5,am];constructor;intro bm;show E12 bm λN e f=>cU N (p5 ∅) f;intro bn;exact E13 bn λN e f w=>?_;rcases aE.mp e with e|e
 show fP N e f w;rw[au.mp e] at f;show(bf _ (aj an f)).elim;have bR:g.tc<=v:=by show bS an
 have d':v<aa a1:=by rw[as.1];show bL
 have b3:nb a1 v=a1[v]:=by unfold nb;rw[ag d'];rfl
 have cp:∀t,m.testBit t=true↔t<g.tc/\t∈(sq.Zm.map (·.1)).take (j+1):=λt=>by
  rw[hm,am,aE,au];constructor;intro c0;show E02 c0 λa b=>⟨a,.inl b⟩;intro c1;exact E02 c1 λa ac=>?_;rcases ac with b|b
  show⟨a,b⟩;show(RL a b bR).elim
 exists eU (decide_eq_false an);exact qR ?_;cbv;exists cV O K.KL rfl rfl (bV D) ln;exact aO (l:=a1.map V.bool) (u:=.bool a1[v]) rfl (mX ∅) (o1 bL hn) (fk ?_);cases cr:a1[v] with
 |false=>
  rw[cr] at b3;exists eU rfl;exact⟨_,?_,d,m,G,rfl,D,M,t2,a2,tk,U,cp,dS a4,λx=>?_,rfl⟩;walk_at "q sub";rw[a5,am];constructor;intro c2;show E12 c2 λN e f=>cU N (p5 ∅) f;intro c3;exact E14 c3 λN e f w h4=>?_;rcases aE.mp e with e|e
  show p0 N e f w h4;rw[au.mp e,←as.test,b3] at w;cases w
 |true=>
  rw[cr] at b3;have da:va g.Zr v:=(as.test v).mp b3;have db:(q,v)∈tr:=aM.mpr ⟨bR,(aY v).mpr co⟩;exact E11 (aC.mp db) λx hx=>fY rfl ?_;cbv;exists jd O;exists jl (cZ (a9.trans a2)) rfl;exists cV O K.KL rfl rfl (bV D) li;exact sV (dH (k:=pk (q,v)) rfl EO (z7 rM bd hx) (vy λQ=>rfl) ?_);cbv;apply c9 (a9.trans a2) (by rw[aq];show af a4 (af (a_ d7) (af b1 ⋯)));have e2:G.map V.Zn++[V.Zn x]=(G++[x]).map V.Zn:=zc;rw[dG,e2];have a7:ri≠0/\ri≠o/\ri≠z:=by simp only[bb,bq,or_false] at a6;show OJ a6
  cbv;exact⟨_,?_,d.set ri (.list ((G++[x]).map V.Zn)),m,G++[x],rfl,bB D (SK a7),bB M (SN a7),bB t2 (SO a7),eQ a2,bB tk (bj bI),⟨U.1,λi r hr=>?_⟩,cp,by simp;show a4,λy=>?_,rfl⟩;walk_at "q sub";exact E13 (U.2 i r hr) λj a b c=>E12 (cn i r hr) λj' a' b'=>?_;rw[a] at a';have:j=j':=by simp at a';show a'
  subst this;show fP j a b (bB c (Ne.symm b'));rw[aE,au,a5,am];constructor;rintro(⟨N,e,f⟩|rfl);show cU N (p5 ∅) f;show p0 v vQ bR da hx;intro bN;exact E14 bN λN e f w h4=>?_;rcases aE.mp e with e|e
  show .inl ⟨N,e,f,w,h4⟩;rw[au.mp e] at h4;show .inr ((cj (ae.mp h4).1 bd).mp (h4.trans hx.symm))
 intro l1 _;apply qY;intro d m G D M t2 a2 tk U hm a4 a5;rw[bJ] at hm a5;have a7:ri≠0/\ri≠o/\ri≠z:=by simp only[bb,bq,or_false] at a6;show OJ a6
 have c4:aa p=i:=a0.ld;have dk:aa A=i:=by rw[U.1];show a0.lr
 cbv;exact jd O (cV O K.KL rfl rfl (bV D) ld (jl (cZ (a9.trans M)) rfl ?_));cbv;apply c9 (a9.trans M) (by rw[aq];show(c4▸a_ (aj bs b6)));have e2:p.map V.Zn++[V.Zn m]=(p++[m]).map V.Zn:=zc;rw[dG,e2];have c5:(d.set o (.list ((p++[m]).map V.Zn)))[0]?=Zs (.dict (dz l)):=bB D (QN c8);have cs:(d.set o (.list ((p++[m]).map V.Zn)))[o]?=Zs (.list ((p++[m]).map V.Zn)):=eQ M;have b4:(d.set o (.list ((p++[m]).map V.Zn)))[z]?=Zs (.list A):=bB t2 b5;have ct:(d.set o (.list ((p++[m]).map V.Zn)))[ri]?=Zs (.list (G.map V.Zn)):=bB a2 (Xx a7);have cv:jV (aa H) (d.set o (.list ((p++[m]).map V.Zn))) [0,o,z] A E:=U.mono λj c hj h=>bB h (by simp at hj;show Xy hj);generalize d.set o (.list ((p++[m]).map V.Zn))=T3 at c5 cs b4 ct cv⊢;cbv;exact jd O (cV O K.KL rfl rfl (bV c5) lr (jl (cZ (a9.trans b4)) rfl ?_));cbv;apply c9 (a9.trans b4) (dk▸a_ (aj bs b6));rw[dG];have dn:jV (aa H) (T3.set z (.list (A++[.ref (aa H+ri)]))) [0,o,z] A E:=cv.mono λj c hj h=>bB h (by simp at hj;show Xz hj);cbv;exact qS _ ?_ (Ox (T3.set z (.list (A++[.ref (aa H+ri)]))) (p++[m]) (A++[.ref (aa H+ri)]) (E++[G]) rfl (bB c5 (by show QN c')) (bB cs (by show id (Ne.symm b5))) (eQ b4) (dn.push a6 (bB ct (by show XA a7))) ⟨by show Hw ∅,by show Hw a0.lr,λi' k' X' q' e f w t=>?_,λi' k' X' q' e f w j=>?_,λr hr=>?_⟩ (by show bs) rfl);walk_at "q sub";rcases b9 i' i with ap|c6
 have:cN (p++[m]) i'=cN p i':=by unfold cN;rw[ar (o2 ap c4)]
 rw[this];show a0.dir i' k' X' q' ap f w t;have c7:i'=i:=by show Wr e c6
 subst c7;rw[hi] at f;cases f;rw[hq] at w;have c0:=Option.some.inj w;clear w;subst c0;have:cN (p++[m]) i'=m:=by unfold cN;rw[←c4];show Hs
 rw[this,hm];show and_congr_right λQ=>(aY t).symm;rcases b9 i' i with ap|c6
 have:dR (E++[G]) i'=dR E i':=by unfold dR;rw[ar (by rw[a0.lr];show ap)]
 rw[this];show a0.rd i' k' X' q' ap f w j;have c7:i'=i:=by show Wr e c6
 subst c7;rw[hi] at f;cases f;rw[hq] at w;have c1:=Option.some.inj w;clear w;subst c1;have:dR (E++[G]) i'=G:=by unfold dR;rw[←a0.lr];show Hs
 rw[this,a5];constructor;intro ac;show E14 ac λN _ e f w=>fP N e f w;intro c2;show E13 c2 λN e f w=>E02 (aM.mp (ai w)) λ_ c3=>E11 c3 λr hr=>p0 N ((aY N).mp ⟨r,hr⟩) e f w;rcases aE.mp hr with hr|hr
 show a0.row r hr;rw[au.mp hr];show af a4 b1
 intro l0 _;apply vP;intro d p A E dr ds dv U a0 _;cbv;show⟨_,rfl,rfl,d,p,A,E,rfl,dr,ds,dv,U,a0⟩
end
noncomputable def k8(a:List hV):Nat->List Nat->Option Nat
 |p,[]=>Zs p
 |p,b::r=>(go a p b).bind λq=>k8 a q r
theorem xZ:k8 a p (l++[X])=(k8 a p l).bind λq=>go a q X:=by
 induction l generalizing p with
 |nil=>change(go a p X).bind (λq=>Zs q)=go a p X;cases go a p X<;>rfl
 |cons b l d=>
  exact(?_:(go a p b).bind (λq=>k8 a q (l++[X]))=((go a p b).bind λq=>k8 a q l).bind _);cases go a p b with
  |none=>rfl
  |some q=>show d
theorem nT{g:Gr}{r s:Nat}(b:r<aa g.Zr)(c:s<=(g.rule r).Zq.length):g.item r s<aa g.owners/\g.after (g.item r s)=(g.rule r).Zq[s]?/\g.owner (g.item r s)=r:=by
 have e:g.Zr[r]?=Zs (g.rule r):=by unfold Gr.rule;rw[ag b];rfl
 apply E03 (Gr.pO e (d:=s) (by unfold Rl.len;show iW c));intro f a h;exact⟨f,?_,a⟩;unfold Gr.after;rw[a,h]
theorem rR(o:gJ g b)(h:go b k X=Zs q):∃s a t,b[k]?=Zs s/\s.items=Zs a/\oN g s.jN a/\b[q]?=Zs t/\(∃i∈a,g.after i=Zs X)/\∀j,j∈t.jN↔∃i∈a,g.after i=Zs X/\j=i+1:=by
 unfold go at h;cases e:b[k]? with
 |none=>rw[e] at h;show nS h
 |some s=>
  rw[e] at h;apply E27 (o.ex k s (ae.mp e).1 e);intro a A d D p E G r v;have w:s.Zm.lookup X=Zs q:=h;have f:(X,q)∈s.Zm:=by apply E22 (lZ.mp w);intro H I d _;rw[d];show Kd
  apply E12 (v X q f);intro t m x;rw[ak] at m;apply E12 (bg.mp m);intro u y z;subst z;show J9 s a u rfl d p y ((r X).mp (bY f)) x
theorem rS{g:Gr}{a:List hV}(d:gJ g a){k b:Nat}{s:hV}{e:List Nat}(c:a[k]?=Zs s)(f:s.items=Zs e){i:Nat}(h:i∈e)(j:g.after i=Zs b):∃q t,go a k b=Zs q/\a[q]?=Zs t/\i+1∈t.jN:=by walk_at "@g a k s e i|d b c f h j";apply E27 (d.ex k s (ae.mp c).1 c);intro p A l B D E G r H;rw[f] at l;have u:=Option.some.inj l;clear l;subst u;have v:b∈s.Zm.map (·.1):=(r b).mpr ⟨i,h,j⟩;apply E11 ((rO d).mpr ⟨s,c,v⟩);intro q o;apply E36 (rR d o);intro s' p t m n I w J x;rw[c] at m;have y:=Option.some.inj m;clear m;subst y;rw[f] at n;have z:=Option.some.inj n;clear n;subst z;show pF q t o w ((x _).mpr ⟨i,h,j,rfl⟩)
theorem gx{g:Gr}{c:List hV}(e:gJ g c){k:Nat}{s:hV}(d:c[k]?=Zs s):∃b a,s.items=Zs b/\s.reds=Zs a/\oN g s.jN b/\xS g b a:=by apply E25 (e.ex k s (ae.mp d).1 d);intro f a h i j l m;show tP f a h i j l
theorem EP{g:Gr}{c:List hV}(k:gJ g c){p d x r:Nat}(y:go c p d=Zs x)(z:r∈g.lefts d):∀s,s<=(g.rule r).Zq.length->
  ∃q t f,k8 c p ((g.rule r).Zq.take s)=Zs q/\c[q]?=Zs t/\t.items=Zs f/\g.item r s∈f:=by
 walk_at "@g c p x r|k d y z"
 apply E02 (iH.mp z);intro A L
 intro s
 induction s with
 |zero=>
  intro _;apply E36 (rR k y);intro M f t m n l B N D;ext N⟨i⟩o b;apply vf p M f (by first|rfl|simp[k8]) m n;exact(l.2.2 _).mpr (.inr ⟨r,A,?_,rfl⟩);rw[L];rcases(l.2.2 i).mp o with h|⟨E,j,⟨O,G,a,u,v⟩,rfl⟩
  show⟨i,h,d,b,.inl rfl⟩;exact⟨O,G,a,u,.inr ?_⟩;have H:Ct g (g.rule E).Zl d:=by exact fP (g.rule E) ?_ rfl ?_;unfold Gr.rule;rw[ag j];show dw j;rw[(nT j (bz _)).2.1] at b;show b
  rcases v with rfl|v
  show .one H;show v.trans (.one H)
 |succ s Q=>
  intro w;apply E34 (Q (aV w));intro q t f m n l B;have I:(g.rule r).Zq[s]?=Zs (g.rule r).Zq[s]:=ag w;have J:=(nT A (s:=s) (aV w)).2.1;rw[I] at J;apply E23 (rS k n l B J);intro T U o b D;apply E24 (gx k b);intro Y a0 j G u _;exact vf T U Y ?_ b j ?_;rw[YG I,xZ,m];show o;exact(u.2.2 _).mpr (.inl ?_);have e:g.item r (s+1)=g.item r s+1:=by unfold Gr.item;show Eq.symm (bu _ _ _)
  rw[e];show D
theorem IU{g:Gr}{a:List hV}(B:z4 g)(b:gJ g a){p d k r:Nat}(e:go a p d=Zs k)(f:r∈g.lefts d):∃q t c,k8 a p (g.rule r).Zq=Zs q/\a[q]?=Zs t/\t.reds=Zs c/\r∈c:=by walk_at "@g a p k r|B b d e f";apply E02 (iH.mp f);intro l o;apply E34 (EP b e f _ (ax _));intro q t I m n s u;rw[bJ] at m;apply E24 (gx b n);intro J c h v L w;rw[s] at h;have x:=Option.some.inj h;clear h;subst x;exact vf q t c m n v ((w.2 r).mpr ⟨?_,_,u,?_,(nT l (ax _)).2.2⟩);rintro rfl;apply E36 (rR b e);intro M N O Q T y U z _;ext z⟨i⟩A j;have D:=y.2.1 i A;apply E16 (Gr.ee D);intro E G Y c3 c4 c5 H;unfold Gr.after at j;rw[H] at j;have:=B.acc E (ai G);rw[o] at this;show this (ai j);rw[(nT l (ax _)).2.1];simp
noncomputable def d8:Nat->List hV->List (Nat×Nat)
 |_,[]=>[]
 |k,s::r=>((s.reds.getD []).map λx=>(k,x))++d8 (k+1) r
theorem K6{k:Nat}:d8 k []=[]:=rfl
theorem x_:d8 o (a++[s])=d8 o a++(s.reds.getD []).map λx=>(o+aa a,x):=by
 induction a generalizing o with
 |nil=>show dY _
 |cons t r b=>exact(?_:(t.reds.getD []).map (λx=>(o,x))++d8 (o+1) (r++[s])=(t.reds.getD []).map (λx=>(o,x))++d8 (o+1) r++(s.reds.getD []).map λx=>(o+(aa r+1),x));rw[b,av,dT]
theorem sD:p∈d8 o a↔∃i s,a[i]?=Zs s/\p.1=o+i/\p.2∈s.reds.getD []:=by
 induction a generalizing o with
 |nil=>simp[K6]
 |cons t r b=>exact(?_:p∈(t.reds.getD []).map (λx=>(o,x))++d8 (o+1) r↔_);rw[aE,ay,OE];show or_congr ⟨λh=>Exists.elim h λx h=>h.2▸⟨rfl,h.1⟩,λh=>⟨p.2,h.2,Prod.ext h.1.symm rfl⟩⟩ (b.trans (exists_congr λi=>by rw[dT]))
theorem jW(h:∀s∈d,(s.reds.getD []).Pairwise (· <·)):(d8 o d).Nodup:=by
 induction d generalizing o with
 |nil=>show .nil
 |cons t r f=>exact(?_:((t.reds.getD []).map (λx=>(o,x))++d8 (o+1) r).Nodup);rw[cz];exact⟨?_,f λs g=>h s (.tail _ g),λa j b k e=>?_⟩;show cK.mpr (gI (λ{a b} m e=>RJ m (Prod.mk.inj e).2) (h t (.head _)));apply E12 (ay.mp j);intro x _ e1;apply E23 (sD.mp k);intro i s _ h2 _;show bj (aj (f_ _) (aW _ _)) ((congrArg GC (e1.trans e)).trans h2)
theorem nU{g:Gr}{a:List hV}(b:gJ g a):∀s∈a,(s.reds.getD []).Pairwise (· <·):=λs c=>by apply E11 (aC.mp c);intro k d;apply E24 (gx b d);intro h i j e l f;rw[e];show f.1
noncomputable def vz(g:Gr)(b:List hV)(a:List (Nat×Nat))(c x r i:Nat):Prop:=∃p Y A q,a[x]?=Zs (p,Y)/\r∈g.lefts Y/\(g.rule r).Zq[i]?=Zs A/\g.tc<=A/\(∀y∈(g.rule r).Zq.drop (i+1),va g.Zr y)/\k8 b p ((g.rule r).Zq.take i)=Zs q/\a[c]?=Zs (q,A)
noncomputable def VW(g:Gr)(a:List hV)(b:List (Nat×Nat))(k r x:Nat):Prop:=∃p Y,b[x]?=Zs (p,Y)/\r∈g.lefts Y/\k8 a p (g.rule r).Zq=Zs k
structure Bu(g:Gr)(dI:List hV)(tr Y:List (Nat×Nat))(O Q U:List (List Nat))(dn:Nat->Nat->Nat->Prop)(dl:Nat->Nat->Prop):Prop where
 IV:∀inner x,x∈dR O inner↔∃r i,dn x r i/\vz g dI tr inner x r i
 z8:∀inner x,x∈dR Q inner↔∃r,dn x r 0/\vz g dI tr inner x r 0
 N4:∀(i k r:Nat),Y[i]?=Zs (k,r)->∀x,x∈dR U i↔dl x r/\VW g dI tr k r x
 nd:(∀r∈O,r.Nodup)/\(∀r∈Q,r.Nodup)/\∀r∈U,r.Nodup
 lt:(∀r∈O,∀x∈r,x<aa tr)/\(∀r∈Q,∀x∈r,x<aa tr)/\∀r∈U,∀x∈r,x<aa tr
theorem pR:x∈sW l n↔x∈l\/x=n:=by unfold sW;split;show⟨.inl,λh=>h.elim id λe=>by rw[e];assumption⟩;simp
set_option tactic.hygienic true in
theorem uc{l:List Nat}{n:Nat}(h:l.Nodup):(sW l n).Nodup:=by
 unfold sW;split;show h
 ·rename_i d;rw[cz];show⟨h,by simp,λa f b c e=>d (by simp at c;subst c;show e▸f)⟩
theorem vA(h:i<aa a)(j:Nat):dR (a.set i r) j=if j=i then r else dR a j:=by unfold dR;rw[dK];by_cases e:i=j;subst e;rw[if_pos rfl,if_pos h,if_pos rfl];rfl;rw[if_neg e,if_neg (Ne.symm e)]
theorem k9(h:i<aa a):dR a i∈a:=by unfold dR;rw[ag h];show dw h
theorem sE(h:i<aa a):a[i]?=Zs (dR a i):=by unfold dR;rw[ag h];rfl
theorem j6{a:List (List Nat)}{i:Nat}{r x:List Nat}(h:x∈a.set i r):x∈a\/x=r:=List.mem_or_eq_of_mem_set h
theorem Bu.same{h j:Nat->Nat->Nat->Prop}{m o:Nat->Nat->Prop}(L:Bu g e tr Y O Q U h m)
  (d:∀f x r i,vz g e tr f x r i->(j x r i↔h x r i))(p:∀k x r,VW g e tr k r x->(o x r↔m x r)):Bu g e tr Y O Q U j o:=by
 exact⟨λf x=>?_,λf x=>?_,λi k r q x=>?_,L.nd,L.lt⟩
 rw[L.IV];show⟨λ⟨r,i,a,b⟩=>⟨r,i,(d _ _ _ _ b).mpr a,b⟩,λ⟨r,i,a,b⟩=>⟨r,i,(d _ _ _ _ b).mp a,b⟩⟩
 rw[L.z8];show⟨λ⟨r,a,b⟩=>⟨r,(d _ _ _ _ b).mpr a,b⟩,λ⟨r,a,b⟩=>⟨r,(d _ _ _ _ b).mp a,b⟩⟩
 rw[L.N4 i k r q];show⟨λ⟨a,b⟩=>⟨(p _ _ _ b).mpr a,b⟩,λ⟨a,b⟩=>⟨(p _ _ _ b).mp a,b⟩⟩
theorem Bu.mark{g:Gr}{l:List hV}{k Y:List (Nat×Nat)}{O Q u U:List (List Nat)}{p q:Nat->Nat->Nat->Prop}{w:Nat->Nat->Prop}{d x r i:Nat}(L:Bu g l k Y O Q U p w)(J:k.Nodup)
  (z:vz g l k d x r i)(A:d<aa O)(B:x<aa k)(n:∀D c f,q D c f↔p D c f\/(D=x/\c=r/\f=i))
  (E:∀j,(x,r,i)=(x,r,i)->vz g l k j x r i->j=d)(v:(i=0/\d<aa Q/\u=Q.set d (sW (dR Q d) x))\/(i≠0/\u=Q)):
  Bu g l k Y (O.set d (sW (dR O d) x)) u U q w:=by
 walk_at "@g l k Y O Q u U p q w d|x r i L J z A B n E v"
 have I:=k9 A
 exact⟨λj y=>?_,λj y=>?_,L.N4,⟨λs m=>?_,?_,L.nd.2.2⟩,⟨λs m=>?_,?_,L.lt.2.2⟩⟩
 rw[vA A];have G:(∃c f,q y c f/\vz g l k j y c f)↔(∃c f,p y c f/\vz g l k j y c f)\/(y=x/\j=d):=by
  constructor;ext _⟨c,f⟩a b;rcases(n _ _ _).mp a with a|⟨rfl,rfl,rfl⟩
  show .inl ⟨c,f,a,b⟩;show .inr ⟨rfl,E j rfl b⟩;rintro(⟨c,f,a,b⟩|⟨rfl,rfl⟩);show Hm c f ((n _ _ _).mpr (.inl a)) b;show Hm r i ((n _ _ _).mpr (.inr ⟨rfl,rfl,rfl⟩)) z
 rw[G];by_cases e:j=d;subst e;rw[if_pos rfl,pR,L.IV];simp;rw[if_neg e,L.IV];simp[e]
 have G:(∃c,q y c 0/\vz g l k j y c 0)↔(∃c,p y c 0/\vz g l k j y c 0)\/(i=0/\y=x/\j=d):=by
  constructor;ext _⟨c⟩a b;rcases(n _ _ _).mp a with a|⟨rfl,rfl,rfl⟩
  show .inl ⟨c,a,b⟩;show .inr ⟨rfl,rfl,E j rfl b⟩;rintro(⟨c,a,b⟩|⟨rfl,rfl,rfl⟩);show cU c ((n _ _ _).mpr (.inl a)) b;show cU r ((n _ _ _).mpr (.inr ⟨rfl,rfl,rfl⟩)) z
 rw[G];rcases v with⟨rfl,t,rfl⟩|⟨H,rfl⟩
 rw[vA t];by_cases e:j=d;subst e;rw[if_pos rfl,pR,L.z8];simp;rw[if_neg e,L.z8];simp[e];rw[L.z8];simp[H]
 rcases j6 m with h|h
 show L.nd.1 s h;rw[h];show uc (L.nd.1 _ I)
 intro s m;rcases v with⟨rfl,t,rfl⟩|⟨H,rfl⟩
 rcases j6 m with h|h
 show L.nd.2.1 s h;rw[h];show uc (L.nd.2.1 _ (k9 t));show L.nd.2.1 s m
 rcases j6 m with h|h
 show L.lt.1 s h;rw[h];intro y o;rcases pR.mp o with o|rfl
 show L.lt.1 _ I y o;show B
 intro s m;rcases v with⟨rfl,t,rfl⟩|⟨H,rfl⟩
 rcases j6 m with h|h
 show L.lt.2.1 s h;rw[h];intro y o;rcases pR.mp o with o|rfl
 show L.lt.2.1 _ (k9 t) y o;show B;show L.lt.2.1 s m
theorem Bu.ends{g:Gr}{l:List hV}{j Y:List (Nat×Nat)}{O Q U:List (List Nat)}{o:Nat->Nat->Nat->Prop}{q t:Nat->Nat->Prop}{m k x r:Nat}(L:Bu g l j Y O Q U o q)(D:Y.Nodup)(E:aa U=aa Y)
  (c:Y[m]?=Zs (k,r))(n:VW g l j k r x)(u:x<aa j)(v:∀w d,t w d↔q w d\/(w=x/\d=r)):Bu g l j Y O Q (U.set m (sW (dR U m) x)) o t:=by
 walk_at "@g l j Y O Q U o q t m k|x r L D E c n u v"
 have G:m<aa U:=by rw[E];show(ae.mp c).1
 have H:=k9 G
 exact⟨L.IV,L.z8,λi I d f y=>?_,⟨L.nd.1,L.nd.2.1,λs z=>?_⟩,⟨L.lt.1,L.lt.2.1,λs z=>?_⟩⟩
 walk_at "@x r i I d y|c n u v f";rw[vA G,v];by_cases e:i=m;subst e;rw[c] at f;cases f;rw[if_pos rfl,pR,L.N4 i k r c];constructor;rintro(⟨a,b⟩|rfl);show⟨.inl a,b⟩;show⟨.inr ⟨rfl,rfl⟩,n⟩;ext _ zq2 b;rcases zq2 with a|⟨rfl,_⟩
 show .inl ⟨a,b⟩;show .inr rfl;rw[if_neg e,L.N4 i I d f];constructor;ext _ a b;show⟨.inl a,b⟩;ext _ zq5 b;rcases zq5 with a|⟨rfl,rfl⟩
 show⟨a,b⟩;exfalso;ext n⟨p,Y⟩M h2 N;ext b⟨p',Y'⟩J a0 A;rw[M] at J;cases J;rw[N] at A;have T:=Option.some.inj A;clear A;subst T;show e ((cj (ae.mp f).1 D).mp (f.trans c.symm))
 rcases j6 z with h|h
 show L.nd.2.2 s h;rw[h];show uc (L.nd.2.2 _ H)
 rcases j6 z with h|h
 show L.lt.2.2 s h;rw[h];intro y B;rcases pR.mp B with B|rfl
 show L.lt.2.2 _ H y B;show u
theorem vz.uniq(h:d.Nodup)(j:vz g k d a x r i)(m:vz g k d b x r i):a=b:=by walk_at "@g k d a b x r i|h j m";ext j⟨p,D,A,q⟩t E u G H v o;ext m⟨I,J,L,M⟩s N e d4 d5 f w;rw[t] at s;cases s;rw[u] at e;have y:=Option.some.inj e;clear e;subst y;rw[v] at f;have z:=Option.some.inj f;clear f;subst z;show(cj (ae.mp o).1 h).mp (o.trans w.symm)
noncomputable def ER(B o:Nat)(Y:List (Nat×Nat)):List (YI×V):=Y.zipIdx.map λq=>(pk q.1,V.ref (B+(o+q.2)))
structure IH(B c n:Nat)(T:Hp)(l:YK)(O Q:List (List Nat))(Y:List (Nat×Nat))(U:List (List Nat)):Prop where
 t0:T[0]?=Zs (.dict (dz l))
 il:T[c]?=Zs (.list ((aJ n).map λi=>.ref (B+(c+1+i))))
 ir:∀(i:Nat) (r:List Nat),O[i]?=Zs r->T[c+1+i]?=Zs (.list (r.map .Zn))
 tl:T[c+n+1]?=Zs (.list ((aJ n).map λi=>.ref (B+(c+n+2+i))))
 tr:∀(i:Nat) (r:List Nat),Q[i]?=Zs r->T[c+n+2+i]?=Zs (.list (r.map .Zn))
 ld:T[c+2*n+2]?=Zs (.dict (ER B (c+2*n+3) Y))
 lr:∀(i:Nat) (r:List Nat),U[i]?=Zs r->T[c+2*n+3+i]?=Zs (.list (r.map .Zn))
 c0:0<c
 li:aa O=n
 lt:aa Q=n
 ll:aa U=aa Y
 lT:aa T=c+2*n+3+aa Y
section
variable{B c n:Nat}{T:Hp}{l:YK}{O Q U:List (List Nat)}{Y:List (Nat×Nat)}
set_option tactic.hygienic true in
theorem oO{a:List (List Nat)}{k i:Nat}{s r:List Nat}(h:(a.set k s)[i]?=Zs r):(i=k/\r=s)\/(i≠k/\a[i]?=Zs r):=by
 walk_at "@a k i s r|h";rw[dK] at h;split at h
 ·rename_i e;split at h;have b:=Option.some.inj h;clear h;subst b;show .inl ⟨e.symm,rfl⟩;cases h
 ·rename_i e;show .inr ⟨Ne.symm e,h⟩
theorem IH.VX(I:IH B c n T l O Q Y U)(a:k<n)(s:List Nat):IH B c n (T.set (c+1+k) (.list (s.map .Zn))) l (O.set k s) Q Y U:=by
 have d:=I.c0;have b:T[c+1+k]?=Zs (.list (O[k]'(by rw[I.li];show a)|>.map .Zn)):=I.ir k _ (ag (by rw[I.li];show a));exact⟨bB I.t0 (by show SP),bB I.il (by show SQ),λi r h=>?_,bB I.tl (by show XB a),λi r h=>bB (I.tr i r h) (by show XC a),bB I.ld (by show XD a),λi r h=>bB (I.lr i r h) (by show U8 a),I.c0,by show b_.trans I.li,I.lt,I.ll,by show b_.trans I.lT⟩;rcases oO h with⟨rfl,rfl⟩|⟨e,h⟩
 show eQ b;show bB (I.ir i r h) (by show QL e)
theorem IH.VY(I:IH B c n T l O Q Y U)(a:k<n)(s:List Nat):IH B c n (T.set (c+n+2+k) (.list (s.map .Zn))) l O (Q.set k s) Y U:=by
 have d:=I.c0;have b:T[c+n+2+k]?=Zs (.list (Q[k]'(by rw[I.lt];show a)|>.map .Zn)):=I.tr k _ (ag (by rw[I.lt];show a));exact⟨bB I.t0 (by show SR),bB I.il (by show SS),λi r h=>bB (I.ir i r h) (fj (XE (I.li▸(ae.mp h).1))),bB I.tl (by show SU),λi r h=>?_,bB I.ld (bj (QT a)),λi r h=>bB (I.lr i r h) (bj (aj (QT a) VB)),I.c0,I.li,by show b_.trans I.lt,I.ll,by show b_.trans I.lT⟩;rcases oO h with⟨rfl,rfl⟩|⟨e,h⟩
 show eQ b;show bB (I.tr i r h) (by show QL e)
theorem IH.VZ(I:IH B c n T l O Q Y U)(a:k<aa Y)(s:List Nat):IH B c n (T.set (c+2*n+3+k) (.list (s.map .Zn))) l O Q Y (U.set k s):=by
 have d:=I.c0;have b:T[c+2*n+3+k]?=Zs (.list (U[k]'(by rw[I.ll];show a)|>.map .Zn)):=I.lr k _ (ag (by rw[I.ll];show a));exact⟨bB I.t0 (by show SV),bB I.il (by show SW),λi r h=>bB (I.ir i r h) (fj (aj (Wv (I.li▸(ae.mp h).1)) VB)),bB I.tl (by show SX),λi r h=>bB (I.tr i r h) (fj (aj (QT (I.lt▸(ae.mp h).1)) VB)),bB I.ld (by show SY),λi r h=>?_,I.c0,I.li,I.lt,by show b_.trans I.ll,by show b_.trans I.lT⟩;rcases oO h with⟨rfl,rfl⟩|⟨e,h⟩
 show eQ b;show bB (I.lr i r h) (QL e)
theorem K7:ER B o (Y++[p])=ER B o Y++[(pk p,.ref (B+(o+aa Y)))]:=by unfold ER;rw[lW,bo];simp
theorem CC:(ER B o Y).map (·.1)=Y.map pk:=by unfold ER;apply dJ;intro j;simp only[ak,cb];cases Y[j]?<;>rfl
theorem CD:((ER B o Y).all λp=>p.1.kind==(YI.ints []).kind)=true:=by unfold ER;rw[gN,cT];intro _ _;rfl
theorem IW{o k:Nat}{p:Nat×Nat}(a:Y.Nodup)(h:Y[k]?=Zs p):(ER B o Y).lookup (pk p)=Zs (.ref (B+(o+k))):=by
 walk_at "@B Y o k p|a h";have d:∀(l:List (Nat×Nat)) (w k:Nat),l.Nodup->l[k]?=Zs p->((l.zipIdx w).map λq=>(pk q.1,V.ref (B+(o+q.2)))).lookup (pk p)=Zs (.ref (B+(o+(w+k)))):=by
  intro l;induction l with
  |nil=>intro w k _ h;show nS h
  |cons t r b=>
   intro w k a h;walk_at "@t r w k|b a h";rw[kF,ck,cq];rw[cw] at a;cases k with
   |zero=>simp at h;subst h;simp
   |succ k=>
    have c:r[k]?=Zs p:=by simpa using h
    have f:t≠p:=λe=>a.1 (e▸ai c);have:(pk p==pk t)=false:=by rw[beq_eq_false_iff_ne];show λe=>f (rM _ _ e).symm
    rw[this];try dsimp only
    rw[b (w+1) k a.2 c];congr 4;show o9
 have:=d Y 0 k a h;rw[bK] at this;show this
theorem IH.V0(I:IH B c n T l O Q Y U)(p:Nat×Nat):IH B c n ((T++[YF.list []]).set (c+2*n+2) (.dict (ER B (c+2*n+3) (Y++[p])))) l O Q (Y++[p]) (U++[[]]):=by
 have d:=I.c0;have a:=I.lT;exact⟨bB (dA I.t0) (Ne.symm (gz (_+1))),bB (dA I.il) S9,λi r h=>bB (dA (I.ir i r h)) (fj (Wv (I.li▸(ae.mp h).1))),bB (dA I.tl) S_,λi r h=>bB (dA (I.tr i r h)) (fj (QT (I.lt▸(ae.mp h).1))),eQ (dA I.ld),λi r h=>?_,I.c0,I.li,I.lt,by simp[I.ll],by simp[I.lT];show bu _ _ _⟩;rcases b9 i (aa U) with q|q
 rw[ar q] at h;show bB (dA (I.lr i r h)) Pf;have b:i=aa U:=by have:=(ae.mp h).1;simp at this;show fu q this
 subst b;simp at h;subst h;exact bB ?_ Pf;rw[show c+2*n+3+aa U=aa T by rw[a,I.ll]];show dc
end
theorem ES{T:List Nat}{x r s b c i:Nat}:(b<x\/(b=x/\(c∈T\/(c=r/\i<s+1))))↔(b<x\/(b=x/\(c∈T\/(c=r/\i<s))))\/(b=x/\c=r/\i=s):=by walk_at "@T x r s b c i";constructor;rintro(h|⟨e,h|⟨d,h⟩⟩);show .inl (.inl h);show .inl (.inr ⟨e,.inl h⟩);show(C4.mp h).elim (λa=>.inl (.inr ⟨e,.inr ⟨d,a⟩⟩)) λa=>.inr ⟨e,d,a⟩;rintro((h|⟨e,h|⟨d,h⟩⟩)|⟨e,d,h⟩);show .inl h;show .inr ⟨e,.inl h⟩;show .inr ⟨e,.inr ⟨d,qA h⟩⟩;show .inr ⟨e,.inr ⟨d,h▸f_ i⟩⟩
theorem K8{T:List Nat}{x r s b c i:Nat}(h:b=x->c=r->i=s->False):(b<x\/(b=x/\(c∈T\/(c=r/\i<s+1))))↔(b<x\/(b=x/\(c∈T\/(c=r/\i<s)))):=ES.trans ⟨λa=>a.elim id λ⟨e,d,f⟩=>(h e d f).elim,.inl⟩
theorem K9{T c:List Nat}{x r a b:Nat}(h:c=T++[r]):(a<x\/(a=x/\b∈c))↔(a<x\/(a=x/\b∈T))\/(a=x/\b=r):=by rw[h,aE,au,or_assoc,and_or_left]
theorem K_{T c:List Nat}{x r n a b i:Nat}(h:c=T++[r])(d:b=r->i<n):(a<x\/(a=x/\b∈c))↔(a<x\/(a=x/\(b∈T\/(b=r/\i<n)))):=by rw[h,aE,au,and_iff_left_of_imp d]
theorem ET(h:a=x->p):a<x+1↔a<x\/(a=x/\p):=by rw[C4,and_iff_left_of_imp h]
theorem uV(B:z4 g)(d:gJ g f):(d8 0 f).length<=1000000:=by
 have h:∀p∈d8 0 f,p.1<131073/\p.2<7:=λp k=>by exact E23 (sD.mp k) λi s c l m=>E24 (gx d c) λI J L o q r=>?_;rw[o] at m;exact E02 ((r.2 p.2).mp m) λ_ t=>E13 t λj u M v=>E16 (Gr.ee (q.2.1 j u)) λN Q T U Y w c6=>?_;have:=nk B d;have:=(ae.mp c).1;have:=B.nr;show UL l w ‹_› v ‹_› this
 have y:((d8 0 f).map λp=>p.1*7+p.2).Nodup:=by
  exact cK.mpr (d_ (λ{a b} z A D e=>D ?_) (jW (nU d)));have c:=h a z;have l:=h b A;obtain⟨a1,a2⟩:=a;obtain⟨b1,b2⟩:=b;try dsimp only at*
  rw[Av];show m7 e c.2 l.2
 have:=cY (n:=917511) y λx E=>by exact E12 (ay.mp E) λp k G=>?_;subst G;have:=h p k;show Wu this.1 this.2
 rw[aq] at this;show af this (aB 917511 82489)
section
variable{H:Hp}
variable(O:fy C mg mb)(K:Cs C mg)(X:Fx C mg mb){g:Gr}
include O K X
noncomputable abbrev LY(H:Hp)(g:Gr):YK:=[("self",.obj cL (aa H)),("grammar",cO g)]
theorem ud(B:z4 g){d:List hV}(hA:gJ g d){ac:List Bool}(al:zX g ac){T:Hp}{l:YK}{c n:Nat}(hn:n=(YH g d).length)(la:l.lookup "automaton"=Zs (AV g d))(ln:l.lookup "nullables"=Zs (.Zo .list (ac.map .bool)))
  (lt:l.lookup "transitions"=Zs (GW (YH g d)))(li:l.lookup "index"=Zs (IT (YH g d)))(lc:l.lookup "includes"=Zs (.ref (H.length+c)))(cd:l.lookup "turns"=Zs (.ref (H.length+(c+n+1))))(lo:l.lookup "open_ends"=Zt)(bw:l.lookup "lookback"=Zs (.ref (H.length+(c+2*n+2))))
  (I0:IH H.length c n T l (aw n []) (aw n []) [] []):
  dq C 3 (.ref (278:Addr)) (H++T) [.obj cL H.length] λu H'=>u= .none/\∃T' z w f,H'=H++T'/\IH H.length c n T' l z w (d8 0 d) f/\Bu g d (YH g d) (d8 0 d) z w f (λG _b _c=>True) (λG _b=>True):=by
 walk_at "@H g d ac T l c n|O K X B hA al hn la ln lt li lc cd lo bw I0"
 exact gT O X.uQ.f ["self"] (λce ch L=>?_) (YT λG G G G G G G G=>rfl)
 exact(?_:gM C 2 _ [("self",.obj cL H.length)] (H++T) _ _)
 have ok:=B.ok
 have hN:=ok.n
 have hR:=ok.r
 have dk:=nk B hA
 have a3:=sC B hA
 have a4:(YH g d).Nodup:=j5 (hJ hA)
 have b1:∀{k Y:Nat},(k,Y)∈YH g d↔g.tc<=Y/\∃q,go d k Y=Zs q:=λ{k Y}=>pP hA
 have b2:(d8 0 d).Nodup:=jW (nU hA)
 have ci:=uV B hA
 generalize cn:YH g d=tr at*
 cbv
 exists y4 O K.KA
 apply cV O K.KL rfl rfl (bV I0.t0) la
 exists qo (eW _ _ _) rfl
 have em:∀i r,(aw n ([]:List Nat))[i]?=Zs r->r=[]:=λi r h=>by rw[dt] at h;split at h;show(Option.some.inj h).symm;cases h
 have co:∀j,dR (aw n ([]:List Nat)) j=[]:=λj=>by unfold dR;rw[dt];split<;>rfl
 exact v3 (gu) d.zipIdx (λk l0 H'=>∃T' f,H'=H++T'/\IH H.length c n T' l (aw n []) (aw n []) (d8 0 (d.take k)) f/\(∀r∈f,r=[])/\l0=LY H g) ?_ ?_ ?_
 ·exists y4 O K.KA;apply cV O K.KL rfl rfl (bV I0.t0) la;apply qo (eW _ _ _) rfl;exact⟨⟨_,?_,T,[],rfl,I0,λG=>nm,rfl⟩,λG _b _c _d=>rfl⟩;walk_at "q sub"
 ·intro k dr;obtain⟨s,J⟩:=dr;intro l0 _ ha;apply r9;intro T1 f I cp;walk_at "@ce ch L tr k s J T1 f|cn hn lt li a3 a4 b1 ha I cp";exact E02 (by rw[cb] at ha;apply E12 (bg.mp ha);intro r N h2;cases h2;show⟨N,bK _⟩:d[k]?=Zs s/\J=k) ?_;intro hs ds;subst ds;have cr:=(ae.mp hs).1;apply E24 (gx hA hs);intro dv Q e1 e2 cs a5;have dx:Q.length<=1000:=by
   have:=cY (n:=g.Zr.length) (a5.1.imp λh=>bj h) λr E=>by apply E02 ((a5.2 r).mp E);intro _;ext _⟨i⟩N h2 rfl;apply E16 (Gr.ee (cs.2.1 i N));intro rr c1 c2 c3 c4 c5 c6;show c5
   show af this hR
  have bA:∀j,d8 0 (d.take J)++(Q.take j).map (λx=>(J,x))<+:d8 0 d:=λj=>by
   have e:d=d.take (J+1)++d.drop (J+1):=(fe _ _).symm;have dL:∀(a b:List hV) (o:Nat),d8 o a<+:d8 o (a++b):=by
    intro a;induction a with
    |nil=>intro b o;show Mk
    |cons t r ih=>intro b o;show(g8 _).mpr (ih b (o+1))
   have N:d8 0 (d.take (J+1))<+:d8 0 d:=by
    conv=>rhs;rw[e]
    show dL _ _ _
   rw[YG hs,x_,e2,bK,bP,b0 (dy cr)] at N;show qP ((g8 _).mpr (sR _ (yz _ _))) N
  cbv;exact v3 V.Zn Q (λj l1 H'=>∃T' f,H'=H++T'/\IH H.length c n T' l (aw n []) (aw n []) (d8 0 (d.take J)++(Q.take j).map (λx=>(J,x))) f/\(∀r∈f,r=[])/\l1=[("self",.obj cL H.length),("grammar",cO g),("state",gu (s,J))]) ?_ ?_ ?_
  ·apply cV O K.KS rfl rfl (g9 _ _) rfl;exact⟨⟨_,?_,T1,f,rfl,by simpa using I,cp,rfl⟩,λG _b _c _d=>by rw[e2];rfl⟩;walk_at "q sub"
  ·intro j r l1 _ E;apply r9;intro T2 bI I2 b3;walk_at "@dv Q j r T2 bI|e1 e2 cs a5 dx bA E I2 b3";have b4:=(bA (j+1)).length_le;have b5:(d8 0 (d.take J)++(Q.take (j+1)).map (λx=>(J,x))).Nodup:=b2.sublist (bA (j+1)).sublist;rw[YG E,bo,←av] at b4 b5;have ct:d8 0 (d.take J)++(Q.take (j+1)).map (λx=>(J,x))=(d8 0 (d.take J)++(Q.take j).map (λx=>(J,x)))++[(J,r)]:=by rw[YG E,bo,←av];rfl
   generalize d8 0 (d.take J)++(Q.take j).map (λx=>(J,x))=a1 at I2 b4 b5 ct;have dV:pk (J,r)∉(ER H.length (c+2*n+3) a1).map (·.1):=by rw[CC];intro h;apply E12 (ay.mp h);intro b hb e;rw[rM _ _ e] at hb;rw[cz] at b5;show b5.2.2 _ hb _ (.head _) rfl
   cbv;exact qI ?_;rw[av];cbv;exists cV O K.KL rfl rfl (bV (dA I2.t0)) bw;exists cV O K.KS rfl rfl (g9 _ _) rfl;exact sV ?_;apply jQ (k:=pk (J,r)) rfl (a9.trans (dA I2.ld)) CD (by unfold ER;simp;simp at b4;show RQ b4 ci);have er:V.ref (H++T2).length=V.ref (H.length+(c+2*n+3+a1.length)):=by rw[bC,I2.lT]
   rw[kH dV,dG,er,←K7];cbv;exact qS _ ?_ (tP _ _ rfl (by rw[ct];show I2.V0 (J,r)) (λx hx=>?_) rfl)
   ·walk_at "q sub"
   ·rcases aE.mp hx with hx|hx
    ·show b3 x hx
    ·show au.mp hx
  ·intro l1 _;apply r9;intro T2 bI I2 b3;cbv;exact qS _ ?_ (tP T2 bI rfl ?_ b3 rfl)
   ·walk_at "q sub"
   ·rw[YG hs,x_,e2,bK,bP,b0 (dy cr)];rw[bJ] at I2;show I2
 ·intro l0 _;apply r9;intro T1 am I1 b6;rw[fC,bJ] at I1;have L1:Bu g d tr (d8 0 d) (aw n []) (aw n []) am (λx r i=>x<0) (λx r=>x<0):=by
   exact⟨λj y=>?_,λj y=>?_,λi k r hi y=>?_,⟨λr E=>?_,λr E=>?_,λr E=>by rw[b6 r E];simp⟩,⟨λr E=>?_,λr E=>?_,λr E=>by rw[b6 r E];show λG=>nm⟩⟩
   ·rw[co];simp
   ·rw[co];simp
   ·have:dR am i=[]:=by
     unfold dR;cases e:am[i]? with
     |none=>rfl
     |some r=>show b6 r (ai e)
    rw[this];simp
   all_goals(rw[List.eq_of_mem_replicate E];simp)
  have cv:∀{p Y r q0:Nat},go d p Y=Zs q0->r∈g.lefts Y->∃q m,k8 d p (g.rule r).Zq=Zs q/\(d8 0 d)[m]?=Zs (q,r):=λ{p Y r q0} hp E=>by apply E34 (IU B hA hp E);intro q t Q N h2 h3 h4;have:(q,r)∈d8 0 d:=sD.mpr ⟨q,t,h2,by rw[bK],by rw[h3];show h4⟩;apply E11 (aC.mp this);intro m hm;show Hm q m N hm
  generalize cI:d8 0 d=a1 at*;have b':∀{z w f dn dl},Bu g d tr a1 z w f dn dl->(∀r∈z,r.length<=1000000)/\(∀r∈w,r.length<=1000000)/\∀r∈f,r.length<=1000000:=λ{z w f dn dl} L=>⟨λr E=>by have:=cY (L.nd.1 r E) (L.lt.1 r E);show af this a3,λr E=>by have:=cY (L.nd.2.1 r E) (L.lt.2.1 r E);show af this a3,λr E=>by have:=cY (L.nd.2.2 r E) (L.lt.2.2 r E);show af this a3⟩;cbv;exact N2 n (λk l0 H'=>∃T' z w f,H'=H++T'/\IH H.length c n T' l z w a1 f/\Bu g d tr a1 z w f (λx r i=>x<k) (λx r=>x<k)/\l0=LY H g) ?_ ?_ ?_
  ·exists eF O X.mu;exists eF O X.jm;exists cV O K.KL rfl rfl (bV I1.t0) lt;apply dm (l:=tr.map fS) rfl (NT ∅);rw[aq,←hn];cbv;exact gi ⟨⟨_,?_,T1,_,_,am,rfl,I1,L1,rfl⟩,le_of_eq_of_le hn a3,rfl⟩;walk_at "q sub"
  ·intro x l0 _ hx;apply uy;intro T2 z w f I2 L2;walk_at "@ce ch L tr T1 am a1 x T2 z w f|cn hn lt li a3 a4 b1 b6 cI b2 ci I1 L1 cv b' hx I2 L2";have an:x<tr.length:=cJ hx hn;apply E11 (⟨_,ag an⟩:∃q,tr[x]?=Zs q);intro bL a6;obtain⟨p,Y⟩:=bL;apply E02 (b1.mp (ai a6));intro e0;ext _⟨q0⟩ap;have e4:=(xY hA ap).1;have d1:Y<g.names.length:=by apply E12 ((rO hA).mp ⟨q0,ap⟩);intro s N h2;show nR B hA N h2
   cbv;exists cV O K.KL rfl rfl (bV I2.t0) lt;apply aO (l:=tr.map fS) (u:=fS (p,Y)) rfl (by rw[ak,a6];rfl) (o3 an a3);exact lI ?_;exact as_name ?_;exact as_name ?_;cbv;exact v3 V.Zn (g.lefts Y) (λm l1 H'=>∃T' z w f,H'=H++T'/\IH H.length c n T' l z w a1 f/\Bu g d tr a1 z w f (λD r i=>D<x\/(D=x/\r∈(g.lefts Y).take m)) (λD r=>D<x\/(D=x/\r∈(g.lefts Y).take m))/\l1=[("self",.obj cL H.length),("grammar",cO g),("x",.Zn x),("first",.Zn p)]) ?_ ?_ ?_
   ·exists iL O K.KG X.wY.m;exists oL (bU _ _) rfl;exact(((tx O K X.wY X.uR ok d1).deep ⋯).mono (pV ?_)).call;exact⟨⟨_,?_,T2,z,w,f,rfl,I2,L2.same (λG _b _c _d _e=>by simp) (λG _b _c _d=>by simp),rfl⟩,λG _b _c _d=>rfl⟩;walk_at "q sub"
   ·intro m r l1 _ E;apply uy;intro T3 z w f I3 L3;walk_at "@p Y q0 m r T3 z w f|a6 e0 ap e4 d1 E I3 L3";clear I2 L2;have as:=ai E;exact E02 (iH.mp as) λa5 e5=>?_;have bN:g.Zr[r]?=Zs (g.rule r):=by unfold Gr.rule;rw[ag a5];rfl
    have bR:=ai bN;have aM:=ok.len _ bR;have c0:=ok.Zq _ bR;have e6:(g.lefts Y).Nodup:=(ql (s:=Y) (a:=g.Zr) (k:=0)).imp λh=>bj h;have en:r∉(g.lefts Y).take m:=λh=>by
     exact E11 (aC.mp h) λj hj=>?_;have d2:j<m:=by have:=(ae.mp hj).1;rw[bP] at this;show(fD.mp this).1
     rw[cQ d2] at hj;have:=(cj (ae.mp hj).1 e6).mp (hj.trans E.symm);show(bf _ (this▸d2))
    have d3:=EP hA ap as;exact E22 (cv ap as) λqe me c8 bd=>?_;have d4:=YG E;cbv;exists y4 O K.KR;exists cV O K.KG rfl rfl (bU _ _) rfl;exact aO (l:=g.Zr.zipIdx.map (gn)) (u:=gn (g.rule r,r)) rfl (by rw[ak,cb,bN];simp) (o1 a5 hR) (qo (dU _ _) rfl ?_);generalize a2:g.rule r=Q at*;cbv;exists iL O K.KL X.openEnds.m;exists oL (bV I3.t0) lo;exact(((xW O K X (v:=.obj cL H.length) (l:=l) (a:=ac) (right:=Q.Zq) (bV I3.t0) ln (λy hy=>by rw[al.1];show c0 y hy) (by rw[al.1];show hN) aM).deep ⋯).mono (Ci λbe d5=>?_)).call;cbv;exact N2 Q.Zq.length (λs l2 H'=>∃T' z w f q,H'=H++T'/\IH H.length c n T' l z w a1 f/\k8 d p (Q.Zq.take s)=Zs q/\Bu g d tr a1 z w f (λD U i=>D<x\/(D=x/\(U∈(g.lefts Y).take m\/(U=r/\i<s)))) (λD r=>D<x\/(D=x/\r∈(g.lefts Y).take m))/\l2=[("self",.obj cL H.length),("grammar",cO g),("x",.Zn x),("first",.Zn p),("rule",.Zn r),("right",.Zo .tup (Q.Zq.map .Zn)),("ends",.Zn be),("at",.Zn q)]) ?_ ?_ ?_
    ·exists eF O X.mu;exists eF O X.jm;apply nM (by simp;show af aM (aB 100 999900));rw[aq];cbv;exact gi ⟨⟨_,?_,T3,z,w,f,p,rfl,I3,by first|rfl|simp[k8],L3.same (λG _b _c _d _e=>by simp) (λG _b _c _d=>by simp),rfl⟩,af aM (aB 100 999900),rfl⟩;walk_at "q sub"
    ·intro s l2 _ hs;apply BB;intro T4 z w f q M hq L4;walk_at "@qe me Q be s T4 z w f q|bd a2 e5 bN bR aM c0 d3 c8 d5 hs M hq L4";clear I3 L3;exact E34 (d3 s (dy hs)) λq1 t1 ep c' e7 e' ea=>?_;rw[hq] at c';have eb:=Option.some.inj c';clear c';subst eb;exact E11 (⟨_,ag hs⟩:∃A,Q.Zq[s]?=Zs A) λA a7=>?_;have es:=c0 A (ai a7);have ef:g.after (g.item r s)=Zs A:=by rw[(nT a5 (s:=s) (by rw[a2];show dy hs)).2.1,a2];show a7
     exact E23 (rS hA e7 e' ea ef) λq2 t2 bh ev _=>?_;have eh:=(xY hA bh).1;have bi:k8 d p (Q.Zq.take (s+1))=Zs q2:=by rw[YG a7,xZ,hq];show bh
     have d6:=d5 s hs;have d7:(∀y∈Q.Zq.drop (s+1),nb ac y=true)↔∀y∈Q.Zq.drop (s+1),va g.Zr y:=⟨λh y hy=>(al.test y).mp (h y hy),λh y hy=>(al.test y).mpr (h y hy)⟩;have skip:¬(be<=s/\g.tc<=A)->Bu g d tr a1 z w f (λD U i=>D<x\/(D=x/\(U∈(g.lefts Y).take m\/(U=r/\i<s+1)))) (λD r=>D<x\/(D=x/\r∈(g.lefts Y).take m)):=λei=>L4.same (λj D U i hI=>K8 λG e2 e3=>by exact E47 hI λp' Y' A' q' c1 c2 c3 c4 c5 c6 c7=>?_;rw[e2,e3,a2,a7] at c3;rw[e2,e3,a2] at c5;have bL:=Option.some.inj c3;clear c3;subst bL;show ei ⟨d6.mpr (d7.mpr c5),c4⟩) (λG _b _c _d=>Iff.rfl);have bm:∀(T5:Hp) (z w:List (List Nat)) (l9:YK),IH H.length c n T5 l z w a1 f->Bu g d tr a1 z w f (λD U i=>D<x\/(D=x/\(U∈(g.lefts Y).take m\/(U=r/\i<s+1)))) (λD r=>D<x\/(D=x/\r∈(g.lefts Y).take m))->
       gh C 2 (.ref (439:Addr)) (H++T5) [AV g d,.Zn q,.Zn A] λu H'=>H'=H++T5/\u= .Zn q2:=by
      intro T5 z w l9 _ _
      exact((z6 O K X eh (af dk (aB 131073 868927))).mono (pV ?_)).call
      rw[bh]
      show⟨rfl,rfl⟩
     cbv;apply ji (u:=.Zn A) (by rw[ak,a7];rfl) (yK (af (a_ hs) (af aM ⋯)));cbv;exact tS ?_;cbv;exact BP (lD ?_);by_cases he:be<=s;rotate_left
     ·exact eU (decide_eq_false (Ta he)) (eU rfl ?_);cbv;exact iL O K.KA X.sj.m (cV O K.KL rfl rfl (bV M.t0) la (oL (eW _ _ _) rfl ?_));cbv;exact j4.mono (bm T4 z w [] M (skip λh=>he h.1)) λ_ _=>?_;apply ja;cbv;exact qS _ ?_ (Kb T4 z w f q2 rfl M bi (skip λh=>he h.1) rfl);walk_at "q subs"
     exact fY (decide_eq_true (kK.mpr he)) (p8 ?_);cbv;exact qR (iL O K.KG X.isTerminal.m ?_);cbv;exists oL (bU _ _) rfl;exact(((jb O K X.isTerminal).deep ⋯).mono (pV (fk ?_))).call;by_cases aY:A<g.tc
     ·exists eU (by simp[aY]);exact iL O K.KA X.sj.m (cV O K.KL rfl rfl (bV M.t0) la (oL (eW _ _ _) rfl ?_));cbv;exact j4.mono (bm T4 z w [] M (skip λh=>Pg h aY)) λ_ _=>?_;apply ja;cbv;exact qS _ ?_ (Kb T4 z w f q2 rfl M bi (skip λh=>Pg h aY) rfl);walk_at "q subs"
     apply fY (Kf ∅);have ej:(q,A)∈tr:=b1.mpr ⟨bS aY,q2,bh⟩;exact E11 (aC.mp ej) λa0 ca=>?_;have a':a0<n:=by rw[hn];show(ae.mp ca).1
     have bn:a0<z.length:=by rw[M.li];show a'
     have cc:a0<w.length:=by rw[M.lt];show a'
     have bs:vz g d tr a0 x r s:=⟨p,Y,A,q,a6,as,by rw[a2];show a7,by show bS aY,by rw[a2];show d7.mp (d6.mp he),by rw[a2];show hq,ca⟩;have d':∀D U i',(D<x\/(D=x/\(U∈(g.lefts Y).take m\/(U=r/\i'<s+1))))↔(D<x\/(D=x/\(U∈(g.lefts Y).take m\/(U=r/\i'<s))))\/(D=x/\U=r/\i'=s):=λG _b _c=>ES;cbv;exists cV O K.KL rfl rfl (bV M.t0) li;exact sV (dH (k:=pk (q,A)) rfl EO (z7 rM a4 ca) (vy λG=>rfl) ?_);cbv;exists ik O X.si;exists cV O K.KL rfl rfl (bV M.t0) lc;exists aO (u:=.ref (H.length+(c+1+a0))) (a9.trans M.il) (wd ∅) ((fU (dB.mpr (aj a' (hn▸a3))) (by decide:((1000000:Nat):Int)<=2^62)));exact(((oY O X.si (a9.trans (M.ir a0 _ (sE bn))) ((b' L4).1 _ (k9 bn))).deep ⋯).mono (pV ?_)).call;rw[dG];have I5:=M.VX a' (sW (dR z a0) x);generalize T4.set (c+1+a0) (.list ((sW (dR z a0) x).map V.Zn))=T5 at I5⊢;cbv;exact rh (lD ?_);by_cases bv:s=0
     ·exists fY (decide_eq_true (congrArg Bz bv));exists ik O X.si;exists cV O K.KL rfl rfl (bV I5.t0) cd;exists aO (u:=.ref (H.length+(c+n+2+a0))) (a9.trans I5.tl) (wd ∅) ((fU (dB.mpr (aj a' (hn▸a3))) (by decide:((1000000:Nat):Int)<=2^62)));exact(((oY O X.si (a9.trans (I5.tr a0 _ (sE cc))) ((b' L4).2.1 _ (k9 cc))).deep ⋯).mono (pV ?_)).call;rw[dG];have I6:=I5.VY a' (sW (dR w a0) x);have L6:=L4.mark (u:=w.set a0 (sW (dR w a0) x)) a4 bs bn an d' (λj G h=>h.uniq a4 bs) (.inl ⟨bv,cc,rfl⟩);generalize T5.set (c+n+2+a0) (.list ((sW (dR w a0) x).map V.Zn))=T6 at I6⊢;cbv;exact iL O K.KA X.sj.m (cV O K.KL rfl rfl (bV I6.t0) la (oL (eW _ _ _) rfl ?_));cbv;exact j4.mono (bm T6 _ _ [] I6 L6) λ_ _=>?_;apply ja;cbv;exact qS _ ?_ (Kb T6 _ _ f q2 rfl I6 bi L6 rfl);walk_at "q subs"
     ·apply eU (decide_eq_false (qB.mpr bv));have L5:=L4.mark (u:=w) a4 bs bn an d' (λj G h=>h.uniq a4 bs) (.inr ⟨bv,rfl⟩);cbv;exact iL O K.KA X.sj.m (cV O K.KL rfl rfl (bV I5.t0) la (oL (eW _ _ _) rfl ?_));cbv;exact j4.mono (bm T5 _ _ [] I5 L5) λ_ _=>?_;apply ja;cbv;exact qS _ ?_ (Kb T5 _ _ f q2 rfl I5 bi L5 rfl);walk_at "q subs"
    ·intro l2 _;apply BB;intro T4 z w f q M hq L4;rw[bJ] at hq;have ek:q=qe:=by rw[hq] at c8;show Option.some.inj c8
     subst ek;have da:=(ae.mp bd).1;have db:me<f.length:=by rw[M.ll];show da
     cbv;exists ik O X.si;exists cV O K.KL rfl rfl (bV M.t0) bw;exact sV (dH (k:=pk (q,r)) rfl (a9.trans M.ld) (IW b2 bd) CD ?_);cbv;exact(((oY O X.si (a9.trans (M.lr me _ (sE db))) ((b' L4).2.2 _ (k9 db))).deep ⋯).mono (pV ?_)).call;rw[dG];have I5:=M.VZ da (sW (dR f me) x);have L5:=L4.ends (t:=λD U=>D<x\/(D=x/\U∈(g.lefts Y).take (m+1))) b2 M.ll bd ⟨p,Y,a6,as,by rw[a2];show hq⟩ an (λD U=>K9 d4);cbv;exact qS _ ?_ (Ms _ z w _ rfl I5 (L5.same (λj D U i hI=>?_) (λG _b _c _d=>Iff.rfl)) rfl)
     ·walk_at "q sub"
     ·show E47 hI λp' Y' A' q' c1 c2 c3 c4 c5 c6 c7=>K_ d4 λe=>by rw[e,a2] at c3;show(ae.mp c3).1
   ·intro l1 _;apply uy;intro T3 z w f I3 L3;rw[bJ] at L3;cbv;exact qS _ ?_ (Ms T3 z w f rfl I3 (L3.same (λj D r i h=>?_) (λk D r h=>?_)) rfl)
    ·walk_at "q sub"
    ·show E43 h λp' Y' A q N h2 _=>ET λe=>by rw[e,a6] at N;cases N;show h2
    ·show E23 h λp' Y' N h2 _=>ET λe=>by rw[e,a6] at N;cases N;show h2
  ·intro l0 _;apply uy;intro T2 z w f I2 L2;subst cI;cbv;exact⟨_,rfl,rfl,T2,z,w,f,rfl,I2,L2.same (λj D r i h=>?_) (λk D r h=>?_)⟩
   ·exact E42 h λp' Y' A q N _=>?_;have:=(ae.mp N).1;show⟨λG=>o2 this hn,λG=>trivial⟩
   ·exact E22 h λp' Y' N _=>?_;have:=(ae.mp N).1;show⟨λG=>o2 this hn,λG=>trivial⟩
end
theorem mF(e:H1=a)(h:gM C d b c a f Q):gM C d b c H1 f Q:=e▸h
noncomputable abbrev IX(r:List Nat):V:=.Zo .list (r.map .Zn)
noncomputable abbrev V1(a:List (Nat×Nat))(b:List (List Nat)):V:=.Zo (.dict (a.map pk)) (b.map IX)
theorem ue{g:Type}{f:g->V}{b:List (Nat×Nat)}{l:List g}{i:Nat}{p:Nat×Nat}{a:g}(d:b.Nodup)(c:b[i]?=Zs p)(h:l[i]?=Zs a):((b.map pk).zip (l.map f)).lookup (pk p)=Zs (f a):=by
 induction b generalizing l i with
 |nil=>cases c
 |cons k b j=>
  cases l with
  |nil=>cases h
  |cons x l=>
   have d:=cw.mp d;exact(?_:nv (pk p) ((pk k,f x)::(b.map pk).zip (l.map f))=_);rw[cq];cases i with
   |zero=>rw[Option.some.inj c,beq_self_eq_true,Option.some.inj h]
   |succ i=>have c:b[i]?=Zs p:=c;rw[show(pk p==pk k)=false from beq_eq_false_iff_ne.mpr λe=>d.1 (rM _ _ e▸ai c)];show j d.2 c h
theorem ya{c:List (Nat×Nat)}{d:List V}:(((c.map pk).zip d).all λp=>p.1.kind==(YI.ints []).kind)=true:=by rw[cT];intro p f;have:=(Ml (a:=p.1) (b:=p.2) f).1;apply E12 (ay.mp this);intro q _ e;rw[←e];rfl
noncomputable def Ze(a:List (Nat×Nat))(c:List (List Nat))(d b:List Nat):Prop:=aa b=aa a/\∀i,i<aa a->∀t,(cN b i).testBit t=true↔∃x∈dR c i,(cN d x).testBit t=true
section
variable{H:Hp}
variable(O:fy C mg mb)(K:Cs C mg)(X:Fx C mg mb){g:Gr}
include O K X
theorem CE{v:V}{l:YK}{b:List (Nat×Nat)}{c:List (List Nat)}{d:List Nat}(hv:YN H v=Zs (cL,dz l))(z:∀T,YN (H++T) v=Zs (cL,dz l))(G:l.lookup "lookback"=Zs (V1 b c))(Q:l.lookup "follow_masks"=Zs (.Zo .list (d.map .Zn)))(I:b.Nodup)(J:aa c=aa b)(U:aa b<=1000000)
  (Y:∀r∈c,∀x∈r,x<aa d)(a0:aa d<=1000000):dq C 1 (.ref (292:Addr)) H [v] λu o=>(∃a:List Nat,u= .Zo (.dict (b.map pk)) (a.map .Zn)/\Ze b c d a)/\o=H:=by
 walk_at "@H v l b c d|O K X hv z G Q I J U Y a0"
 exact ot (gT O X.joined.f ["self"] (λa3 a4 L=>?_) (YT λg g g g g g g g=>rfl))
 exact(?_:gM C 0 _ [("self",v)] H _ _)
 cbv
 exists mM O
 exact AP pk b (λk M o=>∃a:List Nat,o=H++[.dict (((b.take k).map pk).zip (a.map V.Zn))]/\aa a=k/\k<=aa b/\(∀i,i<k->∀t,(cN a i).testBit t=true↔∃x∈dR c i,(cN d x).testBit t=true)/\M=[("self",v),("masks",.ref (aa H))]) ?_ ?_ ?_
 apply cV O K.KL rfl rfl (z _) G;exact⟨⟨_,?_,[],rfl,rfl,bz _,λi h=>absurd h (eA _),rfl⟩,_,rfl⟩;walk_at "q sub"
 intro k p M _ s;apply ux;intro a f hk A;walk_at "@a3 a4 L k p a|s f hk A";have B:=(ae.mp s).1;have a5:=sE (a:=c) (i:=k) (o2 B J);have a6:=k9 (a:=c) (i:=k) (o2 B J);cbv;exact v3 V.Zn (dR c k) (λj N o=>o=H++[.dict (((b.take k).map pk).zip (a.map V.Zn))]/\∃m:Nat,(∀t,m.testBit t=true↔∃x∈(dR c k).take j,(cN d x).testBit t=true)/\N=[("self",v),("masks",.ref (aa H)),("pair",(pk p).toV),("mask",.Zn m)]) ?_ ?_ ?_;cbv;exists cV O K.KL rfl rfl (z _) G;apply dH (k:=pk p) (kvs:=(b.map pk).zip (c.map IX)) rfl rfl (ue I s a5) ya;exact⟨⟨_,?_,rfl,0,by simp,rfl⟩,λg _b _c _d=>rfl⟩;walk_at "q sub";intro j x N _ hx;ext _ rfl a7;ext a7⟨m⟩D rfl;have a1:=Y _ a6 x (ai hx);cbv;exists cV O K.KL rfl rfl (z _) Q;exact aO (l:=d.map V.Zn) (u:=.Zn d[x]) rfl (mX ∅) (o3 a1 a0) (kN ?_);cbv;exact⟨_,?_,rfl,m|||d[x],λt=>?_,rfl⟩;walk_at "q sub";rw[dD,di,D,←ke a1,YG hx];constructor;rintro(⟨y,n,w⟩|h);show cU y (p5 ∅) w;show cU x vQ h;ext _⟨y⟩n w;rcases aE.mp n with n|n
 show .inl ⟨y,n,w⟩;rw[au.mp n] at w;show .inr w;intro N _;ext _ rfl a';ext a'⟨m⟩D rfl;rw[bJ] at D;cbv;apply jQ (k:=pk p) rfl fB ya (by simp;show af (dX _ _) (af (fF _ _) U));have ac:pk p∉(((b.take k).map pk).zip (a.map V.Zn)).map (·.1):=by
  rw[kE (by simp;show(f▸fF _ _))];intro h;apply E12 (ay.mp h);intro q hq e;rw[rM _ _ e] at hq;apply E11 (aC.mp hq);intro j E;have a2:j<k:=by have:=(ae.mp E).1;rw[bP] at this;show(fD.mp this).1
  rw[cQ a2] at E;have:=(cj (ae.mp E).1 I).mp (E.trans s.symm);show(bf _ (this▸a2))
 rw[kH ac,mE];cbv;exact qS _ ?_ (yI (a++[m]) ?_ (by simp[f]) B (λi hi t=>?_) rfl);walk_at "q sub";rw[YG s,bo,bo,List.zip_append (by simp;show(b0 (a_ B)).trans f.symm)];rfl;rcases b9 i k with h|h
 have:cN (a++[m]) i=cN a i:=by unfold cN;rw[ar (o2 h f)]
 rw[this];show A i h t;have:i=k:=by show fu h hi
 subst this;have:cN (a++[m]) i=m:=by unfold cN;rw[←f];show Hs
 rw[this];show D t
 intro M _;apply ux;intro a f hk A;rw[bJ];cbv;have hz:(b.map pk).length=(a.map V.Zn).length:=by simp[f]
 exact⟨_,rfl,_,_,rfl,.dict (ax _) fB (ks:=b.map pk) ?_ ?_,a,rfl,f,A⟩;rw[kE (aX hz)];rw[qV (by show aX (id (Eq.symm hz)))];show dQ.pure (c_ _)
omit O K X in
theorem nV{d:Nat->Prop}{e:Hp}{b:List V}{a:List (List Nat)}(c:aa b=aa a)(h:∀(i:Nat) (r:List Nat),a[i]?=Zs r->∃j,b[i]?=Zs (.ref j)/\d j/\e[j]?=Zs (.list (r.map .Zn))):dQ d e b (a.map IX):=by
 induction b generalizing a with
 |nil=>rw[gV c.symm];show .nil
 |cons v b f=>
  cases a with
  |nil=>cases c
  |cons r a=>apply E13 (h 0 r rfl);intro j g k l;rw[Option.some.inj g];show .cons (.list k l (dQ.pure (c_ _))) (f (Nat.succ.inj c) λi r m=>h (i+1) r m)
omit O K X in
theorem jV.AG{T:Hp}{d:List Nat}{f:List V}{g:List (List Nat)}(h:jV (aa H) T d f g)(k:0∈d):dQ (λi=>aa H<i) (H++T) f (g.map IX):=nV h.1 λi r l=>by apply E13 (h.2 i r l);intro j a b c;exact fP _ a ?_ (a9.trans c);have:j≠0:=λe=>b (e▸k);show eE (dZ this)
omit O K X in
theorem Qf{B:Nat}{c:YF}{a:Hp}(h:B=aa H):(H++c::a).length=B+(aa a+1):=by simp[h]
omit O K X in
theorem La{B n:Nat}{D:Hp}{l:YK}:IH B (aa D+1) n (YF.dict (dz l)::(D++YF.list ((aJ n).map λi=>.ref (B+(aa D+1+1+i)))::aw n (YF.list [])++YF.list ((aJ n).map λi=>.ref (B+(aa D+1+n+2+i)))::aw n (YF.list [])++[YF.dict []]))
  l (aw n []) (aw n []) [] []:=by
 walk_at "@B n D l"
 generalize m:YF.dict (dz l)=o at*
 generalize p:YF.list ((aJ n).map λi=>.ref (B+(aa D+1+1+i)))=a at*
 generalize q:YF.list ((aJ n).map λi=>.ref (B+(aa D+1+n+2+i)))=b at*
 have e:∀{s:Type} {x:s} {i:Nat},i<n->(aw n x)[i]?=Zs x:=λh=>by simp[h]
 have k:∀{i:Nat} {r:List Nat},(aw n ([]:List Nat))[i]?=Zs r->i<n/\r=[]:=λ{i r} h=>by have f:=(ae.mp h).1;rw[dM] at f;rw[e f] at h;show⟨f,by cases h;rfl⟩
 have c:∀j,(o::(D++a::aw n (YF.list [])++b::aw n (YF.list [])++[YF.dict []]))[aa D+1+j]?=(a::(aw n (YF.list [])++(b::(aw n (YF.list [])++[YF.dict []]))))[j]?:=λj=>by rw[show aa D+1+j=(aa D+j)+1 by show bM _ _ _,cD,av,av,aH (by show aW _ _),show aa D+j - aa D=j by show fh _ _];simp
 have t:∀i,i<n->(a::(aw n (YF.list [])++(b::(aw n (YF.list [])++[YF.dict []]))))[i+1]?=Zs (YF.list []):=λi h=>by rw[cD,ar (by simp[h]),e h]
 have g:∀j,(a::(aw n (YF.list [])++(b::(aw n (YF.list [])++[YF.dict []]))))[n+1+j]?=(b::(aw n (YF.list [])++[YF.dict []]))[j]?:=λj=>by rw[show n+1+j=(n+j)+1 by show bM _ _ _,cD,aH (by simp),dM,show n+j - n=j by show fh _ _]
 exact⟨by rw[m];rfl,?_,λi r h=>?_,?_,λi r h=>?_,?_,λi r h=>by show nS h,by show m_ _,by show dM,by show dM,rfl,by simp;show Tb⟩
 have:=c 0;rw[p];show this
 apply E02 (k h);intro d u;subst u;rw[show aa D+1+1+i=aa D+1+(i+1) by show o9,c,t i d];rfl
 rw[show aa D+1+n+1=aa D+1+(n+1+0) by show bu _ _ _,c,g,q];rfl
 apply E02 (k h);intro d v;subst v;rw[show aa D+1+n+2+i=aa D+1+(n+1+(i+1)) by show Tc,c,g,cD,ar (by simp[d]),e d];rfl
 rw[show aa D+1+2*n+2=aa D+1+(n+1+(n+1)) by show Td,c,g,cD,aH (by simp),dM,gP];rfl
structure Bc(g:Gr)(dI:List hV)(nul:List Bool)(direct:List Nat)(reads inc turn lb:List (List Nat))(rm fm ms:List Nat):Prop where
 Ya:zX g nul
 LZ:DW g dI (YH g dI) direct reads (YH g dI).length
 Q8:Bu g dI (YH g dI) (d8 0 dI) inc turn lb (λ_a _b _c=>True) (λ_a _b=>True)
 Yb:EH (dR reads) direct (YH g dI).length rm
 Yc:EH (dR inc) rm (YH g dI).length fm
 Q9:Ze (d8 0 dI) lb fm ms
 rr:xR reads (YH g dI).length
 rt:xR turn (YH g dI).length
noncomputable abbrev yb(g:Gr)(a:List hV)(b:List Bool)(c:List Nat)(d e f h:List (List Nat))(i j k:List Nat):YK:=[("automaton",AV g a),("nullables",.Zo .list (b.map .bool)),("transitions",GW (YH g a)),("index",IT (YH g a)),("direct",.Zo .list (c.map .Zn)),("reads",l7 d),("includes",l7 e),("turns",l7 f),("lookback",V1 (d8 0 a) h),("read_masks",.Zo .list (i.map .Zn)),("follow_masks",.Zo .list (j.map .Zn)),("masks",.Zo (.dict ((d8 0 a).map pk)) (k.map .Zn))]
omit O X in
theorem Gp{a:List hV}{d:List Bool}{e:List Nat}{f h i j:List (List Nat)}{k m n:List Nat}:V.fv ((yb g a d e f h i j k m n).map (·.2))=true:=by
 have o:V.fv (d.map V.bool)=true:=mq _;have b:∀l:List Nat,V.fv (l.map V.Zn)=true:=λl=>c_ l;have c:∀l:List (List Nat),V.fv (l.map λr=>V.Zo .list (r.map .Zn))=true:=λl=>V.dF (λr=>by simp[V.pure,c_]) _;have p:V.fv ((YH g a).map fS)=true:=V.dF (λq=>rfl) _;have s:V.fv ((kD pk (YH g a)).map (·.2))=true:=by unfold kD;rw[bE];show V.dF (λq=>rfl) _
 have t:=rJ g a;exact(?_:(V.pure _&&(V.fv _&&(V.fv _&&(V.fv _&&(V.fv _&&(V.fv _&&(V.fv _&&(V.fv _&&(V.fv _&&(V.fv _&&(V.fv _&&(V.fv _&&true))))))))))))=true);rw[t,o,b,b,b,b,c,c,c,p,s,c];rfl
theorem z9(B:z4 g)(s:gJ g a)(U:Za H):dq C 5 (.ref cL) H [AV g a] λu H'=>(∃d h j z A D E M N,u=xr cL (yb g a d h j z A D E M N)/\Bc g a d h j z A D E M N)/\H'=H:=by
 walk_at "@H g a|O K X B s U";exact ot (nL O K.KL.ok X.xP.m.find X.xP.m.typ ?_);exact gT O X.xP.f ["self","automaton"] (λal am L=>?_) (jx λf f f f f f f f f=>rfl);exact(?_:gM C 3 _ [("self",.obj cL (aa H)),("automaton",AV g a)] (H++.dict (dz [])::[]) _ _);have ok:=B.ok;have p:=sC B s;have an:=uV B s;have b4:(YH g a).Nodup:=j5 (hJ s);have ap:(d8 0 a).Nodup:=jW (nU s);have a1:∀HH:Hp,∀x v,nv x [("self",V.obj cL (aa H)),("automaton",AV g a)]=Zs v->fE (λi=>aa H<i) HH v v:=λHH x v o=>by rw[cq] at o;split at o;have as:=Option.some.inj o;clear o;subst as;show .HP (bf _);rw[cq] at o;split at o;have a2:=Option.some.inj o;clear o;subst a2;show fE.pure (rJ g a);cases o
 repeat(first|walk_at "q"|exact e9 O K.KL ?_)
 exists ik O X.nullable;exists cV O K.KA rfl rfl (eW _ _ _) rfl;exact(((kC O K X ok).deep ⋯).mono (Ci λd a0=>?_)).call;exists e9 O K.KL;exact qI ?_;rw[av];exists e9 O K.KL;apply mM O;rw[av];apply e9 O K.KL;apply mF (a:=H++[YF.dict (dz [("automaton",AV g a),("nullables",.Zo .list (d.map .bool)),("transitions",.ref (aa H+1)),("index",.ref (aa H+2))]),YF.list [],YF.dict []]) (by change H++YF.dict (dz [(_,_),(_,_),(_,_),(_,_)])::_=_;simp);cbv;exists iL O K.KL X.Ck.m;exists oL (bV rfl) rfl;exact(((pQ O K X B s (H:=H) (l:=[("automaton",AV g a),("nullables",.Zo .list (d.map .bool)),("transitions",.ref (aa H+1)),("index",.ref (aa H+2))]) rfl rfl rfl rfl rfl rfl).deep ⋯).mono ?_).call;intro _ _;ext _ rfl aM;ext aM⟨t⟩rfl t0 t1 t2;exact DT (b:=[("automaton",AV g a),("nullables",.Zo .list (d.map .bool)),("transitions",GW (YH g a)),("index",IT (YH g a))]) U t0 (.cons (fE.pure (rJ g a)) (.cons (fE.pure (by simp[V.pure,mq])) (.cons (.list (Bv _) (a9.trans t1) (dQ.pure (V.dF (λf=>rfl) _))) (.cons (.dict (eE ⋯) (a9.trans t2) rfl (dQ.pure ?_)) .nil)))) rfl (a1 _) ?_;unfold kD;rw[bE];show V.dF (λf=>rfl) _;generalize aw (aa t - 1) YF.dead=w;clear t0 t1 t2 t;walk_at "@al am L d w|a0";cbv;exact qI ?_;rw[av];exists e9 O K.KL;exact qI ?_;rw[av];apply e9 O K.KL;apply mF (a:=H++(YF.dict (dz [("automaton",AV g a),("nullables",.Zo .list (d.map .bool)),("transitions",GW (YH g a)),("index",IT (YH g a)),("direct",.ref (aa H+(aa w+1))),("reads",.ref (aa H+(aa w+2)))])::(w++[YF.list [],YF.list []]))) (by change H++YF.dict (dz [(_,_),(_,_),(_,_),(_,_),(_,_),(_,_)])::_=_;simp);cbv;exists iL O K.KL X.zJ.m;exists oL (bV rfl) rfl;exact((wx O K X B s a0 (H:=H) (o:=aa w+1) (z:=aa w+2) (l:=[("automaton",AV g a),("nullables",.Zo .list (d.map .bool)),("transitions",GW (YH g a)),("index",IT (YH g a)),("direct",.ref (aa H+(aa w+1))),("reads",.ref (aa H+(aa w+2)))]) rfl rfl rfl rfl rfl rfl rfl
  Mv LC (m_ _) Te (Oq (_+1))).mono ?_).call
 intro _ _;ext _ rfl a2;ext a2⟨t,h,aY,j⟩rfl t0 t1 t2 hR G;exact DT (b:=[("automaton",AV g a),("nullables",.Zo .list (d.map .bool)),("transitions",GW (YH g a)),("index",IT (YH g a)),("direct",.Zo .list (h.map .Zn)),("reads",l7 j)]) U t0
  (.cons (fE.pure (rJ g a)) (.cons (fE.pure (by simp[V.pure,mq])) (.cons (fE.pure (V.dF (λf=>rfl) _)) (.cons (fE.pure ?_) (.cons (.list RP (a9.trans t1) (dQ.pure (c_ _))) (.cons (.list Ph (a9.trans t2) (hR.AG (.head _))) .nil)))))) rfl (a1 _) ?_
 exact(?_:V.fv ((kD pk (YH g a)).map (·.2))=true);unfold kD;rw[bE];show V.dF (λf=>rfl) _;generalize aw (aa t - 1) YF.dead=m;clear t0 t1 t2 t w hR aY;generalize e:(YH g a).length=n at*;have J:((YH g a).map fS).length=n:=by rw[aq,e]
 walk_at "@h j m n|e p G J";cbv;exact gv [] [] (iK (y4 O K.KL (ev_name rfl (qo (bV rfl) rfl ⟨⟨_,rfl⟩,AQ trivial (ie fH) (by rw[J];show p) ?_⟩)))) trivial;rw[J,av];exists e9 O K.KL;exact gv [] [] (iK (y4 O K.KL (ev_name rfl (qo (bV rfl) rfl ⟨⟨_,rfl⟩,AQ trivial (ie fH) (by rw[J];show p) ?_⟩)))) trivial;rw[J,av];exists e9 O K.KL;apply mM O;rw[av];apply e9 O K.KL;generalize hc:aa m+1=c;exact mF (a:=H++(YF.dict (dz [("automaton",AV g a),("nullables",.Zo .list (d.map .bool)),("transitions",GW (YH g a)),("index",IT (YH g a)),("direct",.Zo .list (h.map .Zn)),("reads",l7 j),("includes",.ref (aa H+c)),("turns",.ref (aa H+(c+n+1))),("lookback",.ref (aa H+(c+2*n+2)))])::
  (m++YF.list ((aJ n).map λi=>.ref (aa H+(c+1+i)))::aw n (YF.list [])++YF.list ((aJ n).map λi=>.ref (aa H+(c+n+2+i)))::aw n (YF.list [])++[YF.dict []]))) ?_ ?_
 subst hc;have f1:(λi=>V.ref (aa H+(aa m+1)+1+i))=λi=>V.ref (aa H+(aa m+1+1+i)):=by funext i;congr 1;show Tf
 have f2:(λi=>V.ref (aa H+(aa m+1+n+1)+1+i))=λi=>V.ref (aa H+(aa m+1+n+2+i)):=by funext i;congr 1;show Tg
 have g1:aa m+(n+1)+1=aa m+1+n+1:=Th;have g2:aa m+(n+(n+1)+1)+1=aa m+1+2*n+2:=Ti;exact(?_:H++YF.dict (dz [(_,_),(_,_),(_,_),(_,_),(_,_),(_,_),(_,_),(_,_),(_,_)])::_=_);simp[f1,f2,g1,g2];cbv;exists iL O K.KL X.uQ.m;exists oL (bV rfl) rfl;exact((ud O K X B s a0 (H:=H) (c:=c) (n:=n) (l:=[("automaton",AV g a),("nullables",.Zo .list (d.map .bool)),("transitions",GW (YH g a)),("index",IT (YH g a)),("direct",.Zo .list (h.map .Zn)),("reads",l7 j),("includes",.ref (aa H+c)),("turns",.ref (aa H+(c+n+1))),("lookback",.ref (aa H+(c+2*n+2)))]) e.symm rfl rfl rfl rfl rfl rfl rfl rfl
  (hc▸La)).mono ?_).call
 intro _ _;ext _ rfl b1;ext b1⟨t,z,A,D⟩rfl I L;have a3:=I.c0;exact DT (b:=[("automaton",AV g a),("nullables",.Zo .list (d.map .bool)),("transitions",GW (YH g a)),("index",IT (YH g a)),("direct",.Zo .list (h.map .Zn)),("reads",l7 j),("includes",l7 z),("turns",l7 A),("lookback",V1 (d8 0 a) D)]) U I.t0
  (.cons (fE.pure (rJ g a)) (.cons (fE.pure (by simp[V.pure,mq])) (.cons (fE.pure (V.dF (λf=>rfl) _)) (.cons (fE.pure ?_) (.cons (fE.pure (by simp[V.pure,c_])) (.cons (fE.pure ?_)
   (.cons (.list (eE (a8 a3)) (a9.trans I.il) ?_) (.cons (.list RP (a9.trans I.tl) ?_) (.cons (.dict Ph (a9.trans I.ld) CC ?_) .nil))))))))) rfl (a1 _) ?_
 exact(?_:V.fv ((kD pk (YH g a)).map (·.2))=true);unfold kD;rw[bE];show V.dF (λf=>rfl) _;show V.dF (λr=>by simp[V.pure,c_]) _;exact nV (by simp[I.li]) λi r b=>⟨aa H+(c+1+i),?_,Tj,a9.trans (I.ir i r b)⟩;have:=(ae.mp b).1;rw[I.li] at this;show wd ∅;exact nV (by simp[I.lt]) λi r b=>⟨aa H+(c+n+2+i),?_,Tn,a9.trans (I.tr i r b)⟩;have:=(ae.mp b).1;rw[I.lt] at this;show wd ∅;exact nV (by simp[ER,I.ll]) λi r b=>⟨aa H+(c+2*n+3+i),?_,To,a9.trans (I.lr i r b)⟩;have:=(ae.mp b).1;rw[I.ll] at this;unfold ER;rw[bE,ak,cb,ag this];simp;generalize aw (aa t - 1) YF.dead=D3;have a6:=I.ll;have a7:=I.li;have a':=I.lt;walk_at "@c t z A D D3|hc I L a3 a6 a7 a'";have rr:xR j n:=⟨G.lr,p,λr b y Q=>?_,λr b=>by have:=G.row r b;show o0 this⟩;rotate_left;apply E11 (aC.mp b);intro i hi;have a4:=(ae.mp hi).1;rw[G.lr] at a4;apply E11 (⟨_,ag (by rw[e];show a4)⟩:∃q,(YH g a)[i]?=Zs q);intro b2 hk;obtain⟨k,Y⟩:=b2;apply E02 ((pP s).mp (ai hk));intro _;ext _⟨q⟩hq;have:y∈dR j i:=by unfold dR;rw[hi];show Q
 apply E13 ((G.rd i k Y q a4 hk hq y).mp this);intro Z _ _ hz;rw[←e];show(ae.mp hz).1;have ri:xR z n:=⟨a7,p,λr b y Q=>by rw[←e];show L.lt.1 r b y Q,λr b=>by have:=cY (L.nd.1 r b) (L.lt.1 r b);show(af this (e▸p))⟩;have rt:xR A n:=⟨a',p,λr b y Q=>by rw[←e];show L.lt.2.1 r b y Q,λr b=>by have:=cY (L.nd.2.1 r b) (L.lt.2.1 r b);show(af this (e▸p))⟩;clear I t m hc a3;cbv;exists eF O X.jm;exists cV O K.KL rfl rfl (bV rfl) rfl;apply dm (l:=(YH g a).map fS) rfl (by rw[J];show p);rw[J];cbv;exists ik O X.digraph;exists cV O K.KL rfl rfl (bV rfl) rfl;exists cV O K.KL rfl rfl (bV rfl) rfl;exact(((qr O K X rr (v:=.Zo .list (h.map .Zn)) (ms:=h) rfl G.ld).deep ⋯).mono (Ci λE ac=>?_)).call;exact e9 O K.KL ?_ (n:=rfl);cbv;exists ik O X.digraph;exists cV O K.KL rfl rfl (bV rfl) rfl;exists cV O K.KL rfl rfl (bV rfl) rfl;exact(((qr O K X ri (v:=.Zo .list (E.map .Zn)) (ms:=E) rfl ac.1).deep ⋯).mono (Ci λM a5=>?_)).call;exact e9 O K.KL ?_ (n:=rfl);cbv;exists iL O K.KL X.joined.m;exists oL (bV rfl) rfl;exact(((CE O K X (v:=.obj cL (aa H)) (b:=d8 0 a) (c:=D) (d:=M) (bV rfl) (λT=>by rw[av];show bV rfl) rfl rfl ap a6 an (λr b x o=>by rw[a5.1,←e];show L.lt.2.2 r b x o) (by rw[a5.1];show p)).deep ⋯).mono (Ci λN b3=>?_)).call;exact e9 O K.KL ?_ (n:=rfl);cbv;exact⟨_,rfl,rfl,_,_,rfl,fE.FZ (a:=yb g a d h j z A D E M N) (ax _) fB (dQ.pure ?_),d,h,j,z,A,D,E,M,N,rfl,⟨a0,by rw[e];show G,L,by rw[e];show ac,by rw[e];show a5,b3,by rw[e];show rr,by rw[e];show rt⟩⟩;show Gp K
end
theorem DX:dg s (l++[r]) k=dg s l k++if r.Zl=s then[k+aa l] else[]:=by
 induction l generalizing k with
 |nil=>rfl
 |cons t l a=>exact(?_:(if t.Zl=s then k::dg s (l++[r]) (k+1) else dg s (l++[r]) (k+1))=(if t.Zl=s then k::dg s l (k+1) else dg s l (k+1))++(if r.Zl=s then[k+(aa l+1)] else[]));rw[a,dT];by_cases h:t.Zl=s;rw[if_pos h,if_pos h];rfl;rw[if_neg h,if_neg h]
theorem CF:ez (l++[r]) k=ez l k++aw r.len (k+aa l):=by
 induction l generalizing k with
 |nil=>show dY _
 |cons t l a=>exact(?_:aw t.len k++ez (l++[r]) (k+1)=aw t.len k++ez l (k+1)++aw r.len (k+(aa l+1)));rw[a,av,dT]
theorem yc:∀{l:List Rl} {k:Nat},k<=aa l->kZ (l.take k) k=kZ l k
 |_,0,_=>by simp[EF]
 |[],k+1,h=>by rfl
 |r::l,k+1,h=>by exact(?_:r.len+kZ (l.take k) k=r.len+kZ l k);rw[yc (by simpa using h)]
structure GH(B N:Nat)(T:Hp)(l:YK)(Y:List (List Nat))(U Q:List Nat):Prop where
 t0:T[0]?=Zs (.dict (dz l))
 t1:T[1]?=Zs (.list ((aJ N).map λi=>.ref (B+(2+i))))
 tr:∀(i:Nat) (r:List Nat),Y[i]?=Zs r->T[2+i]?=Zs (.list (r.map .Zn))
 t2:T[N+2]?=Zs (.list (U.map .Zn))
 t3:T[N+3]?=Zs (.list (Q.map .Zn))
 ln:aa Y=N
section
variable{B N:Nat}{T:Hp}{l:YK}{Y:List (List Nat)}{U Q:List Nat}
theorem GH.row(G:GH B N T l Y U Q)(a:k<N)(s:List Nat):GH B N (T.set (2+k) (.list (s.map .Zn))) l (Y.set k s) U Q:=by
 have b:=G.tr k _ (ag (by rw[G.ln];show a));exact⟨bB G.t0 (Ne.symm (y6 (2+_))),bB G.t1 Tp,λi r h=>?_,bB G.t2 (bj (Wx a)),bB G.t3 (bj (qA (Wx a))),by simp[G.ln]⟩;rcases oO h with⟨rfl,rfl⟩|⟨e,h⟩
 show eQ b;show bB (G.tr i r h) (QL e)
theorem GH.off(G:GH B N T l Y U Q)(s:List Nat):GH B N (T.set (N+2) (.list (s.map .Zn))) l Y s Q:=⟨bB G.t0 (by show(Ne.symm (gz (_+1)))),bB G.t1 (by show Ne.symm (sL rfl)),λi r h=>bB (G.tr i r h) (by have:=(ae.mp h).1;have:=G.ln;show(cM _ _▸fj (br (this▸‹_›) _))),eQ G.t2,bB G.t3 (by show(Oq (_+2))),G.ln⟩
theorem GH.own(G:GH B N T l Y U Q)(s:List Nat):GH B N (T.set (N+3) (.list (s.map .Zn))) l Y U s:=⟨bB G.t0 (by show Tq),bB G.t1 (by show Ne.symm (sL rfl)),λi r h=>bB (G.tr i r h) (by have:=(ae.mp h).1;have:=G.ln;show U9 ‹_› this),bB G.t2 (by show Tr),eQ G.t3,G.ln⟩
theorem GH.self(G:GH B N T l Y U Q)(a:YK):GH B N (T.set 0 (.dict (dz a))) a Y U Q:=⟨eQ G.t0,bB G.t1 (by show NS),λi r h=>bB (G.tr i r h) (by show(y6 (2+_))),bB G.t2 (by show(gz (_+1))),bB G.t3 (by show Ts),G.ln⟩
theorem GH.tl(G:GH B N T l Y U Q)(c:YF):GH B N (T++[c]) l Y U Q:=⟨dA G.t0,dA G.t1,λi r h=>dA (G.tr i r h),dA G.t2,dA G.t3,G.ln⟩
theorem GH.init:GH B N (YF.dict (dz l)::YF.list ((aJ N).map λi=>.ref (B+(2+i)))::(aw N (YF.list [])++[YF.list [],YF.list []])) l (aw N []) [] []:=by
 exact⟨rfl,rfl,λi r h=>?_,?_,?_,by simp⟩;have a:=(ae.mp h).1;rw[dM] at a;have:(aw N ([]:List Nat))[i]?=Zs []:=by simp[a]
 rw[this] at h;have b:=Option.some.inj h;clear h;subst b;rw[show 2+i=i+1+1 by show cM 2 _,cD,cD,ar (by simp[a])];simp[a];rw[show N+2=N+1+1 by show rfl,cD,cD,aH (by simp)];simp;rw[show N+3=N+1+1+1 by show rfl,cD,cD,aH (by simp)];simp
end
section
variable{H:Hp}
variable(O:fy C mg mb)(K:Cs C mg)(X:Fx C mg mb){g:Gr}
include O K X
noncomputable abbrev CG(g:Gr)(N B:Nat)(a:V):YK:=[("names",.Zo .list (g.names.map .str)),("terminal_count",.Zn g.tc),("rules",.Zo .list (g.Zr.zipIdx.map (gn))),("levels",a),("expect",.none),("start",.Zn g.start),
 ("by_left",.ref (B+1)),("offsets",.ref (B+(N+2))),("owners",.ref (B+(N+3)))]
set_option tactic.hygienic true in
theorem Gq(o:mw g){f:V}:dq C 3 (.ref cG) H [.Zo .list (g.names.map .str),.Zn g.tc,.Zo .list (g.Zr.zipIdx.map (gn)),f,.none,.Zn g.start] λu D=>u= .obj cG (aa H)/\∃T,D=H++T/\
  GH (aa H) (aa g.names) T (CG g (aa g.names) (aa H) f++[("item_count",.Zn (aa g.owners))]) ((aJ (aa g.names)).map g.lefts) ((aJ (aa g.Zr)).map g.off) g.owners:=by
 walk_at "@H g f|O K X o"
 exact nL O K.KG.ok X.xO.m.find X.xO.m.typ (gT O X.xO.f ["self","names","terminal_count","rules","levels","expect","start"] (λa' ac L=>?_) (PU λb b b b b b b b b b b b b b=>rfl))
 exact(?_:gM C 1 _ [("self",.obj cG (aa H)),("names",.Zo .list (g.names.map .str)),("terminal_count",.Zn g.tc),("rules",.Zo .list (g.Zr.zipIdx.map (gn))),("levels",f),("expect",.none),("start",.Zn g.start)] (H++.dict (dz [])::[]) _ _)
 have hn:=o.n
 have E:=o.r
 repeat(first|walk_at "q"|exact e9 O K.KG ?_)
 have a0:aa g.names<=1000000:=o0 hn
 exact gv [] [] (iK (y4 O K.KG (ev_name rfl (qo (bV rfl) rfl ⟨⟨_,rfl⟩,AQ trivial (xs:=g.names.map V.str) (ie fH) (NT ∅) ?_⟩)))) trivial
 rw[aq,av]
 exists e9 O K.KG
 exact qI ?_
 rw[av]
 exists e9 O K.KG
 exact qI ?_
 rw[av]
 apply e9 O K.KG
 generalize z:aa g.names=N at*
 exact mF (a:=H++(YF.dict (dz (CG g N (aa H) f))::YF.list ((aJ N).map λi=>.ref (aa H+(2+i)))::(aw N (YF.list [])++[YF.list [],YF.list []]))) ?_ ?_
 have f1:(λi=>V.ref (aa H+1+1+i))=λi=>V.ref (aa H+(2+i)):=by funext i;congr 1;show Tt
 have g1:N+1+1=N+2:=rfl;exact(?_:H++YF.dict (dz [(_,_),(_,_),(_,_),(_,_),(_,_),(_,_),(_,_),(_,_),(_,_)])::_=_);simp[f1,z,CG]
 have I:=o.Zl
 rw[z] at I
 have a1:=o.len
 have al:∀k,k<=aa g.Zr->(ez (g.Zr.take k) 0).length=g.off k:=λk d=>by rw[qk,bP,b0 d,yc d];rfl
 have am:∀k,k<=aa g.Zr->g.off k<=101000:=λk d=>by have p:=Nh d (ax (aa g.Zr));have h2:=Cn (a:=g.Zr) a1;have:g.off k=kZ g.Zr k:=rfl;show U_ this h2 E p
 cbv
 exact v3 (gn) g.Zr.zipIdx (λk J D=>∃T,D=H++T/\GH (aa H) N T (CG g N (aa H) f) ((aJ N).map λs=>dg s (g.Zr.take k) 0) ((aJ k).map g.off) (ez (g.Zr.take k) 0)/\k<=aa g.Zr/\J=[("self",.obj cG (aa H)),("names",.Zo .list (g.names.map .str)),("terminal_count",.Zn g.tc),("rules",.Zo .list (g.Zr.zipIdx.map (gn))),("levels",f),("expect",.none),("start",.Zn g.start)]) ?_ ?_ ?_
 exact cV O K.KG rfl rfl (bV rfl) rfl ⟨⟨_,?_,_,rfl,?_,bz _,rfl⟩,λb _b _c _d=>rfl⟩;walk_at "q sub";have e:(aJ N).map (λs=>dg s (g.Zr.take 0) 0)=aw N []:=by rw[show(λs=>dg s (g.Zr.take 0) 0)=λb=>[] from rfl,List.map_const'];rw[bZ]
 rw[e];show GH.init
 ·intro k' M;obtain⟨a,k⟩:=M;intro J _ ha;apply Ej;intro T G d;walk_at "@a' ac L N k' a k T|z hn a0 I ha G d";exact E02 (zi ha) λt an=>?_;subst an;try dsimp only at t d G
  have a2:=ai t;have q:=I a a2;have Q:=a1 a a2;have w:=(ae.mp t).1;have a3:((aJ N).map λs=>dg s (g.Zr.take k) 0)[a.Zl]?=Zs (dg a.Zl (g.Zr.take k) 0):=by rw[ak,dP q];rfl
  have ap:(dg a.Zl (g.Zr.take k) 0).length<=1000:=by
   have:=cY (n:=k) ((ql (s:=a.Zl) (a:=g.Zr.take k) (k:=0)).imp λh=>bj h) λx U=>by exact E23 (oU.mp U) λi r p _ h3=>?_;have:=(ae.mp p).1;rw[bP] at this;show UQ h3 this
   show af this (af (a_ w) E)
  have as:((a.Zl:Nat):Int)<2^62:=o3 q a0;cbv;exists jd O;exists cV O K.KG rfl rfl (bV G.t0) rfl;exact cV O K.KR rfl rfl (dU _ _) rfl (aO (l:=(aJ N).map λi=>.ref (aa H+(2+i))) (k:=a.Zl) (u:=.ref (aa H+(2+a.Zl))) (a9.trans G.t1) (by rw[ak,dP q];rfl) as (jl (cZ (a9.trans (G.tr _ _ a3))) rfl ?_));cbv;exists cV O K.KR rfl rfl (dU _ _) rfl;apply c9 (a9.trans (G.tr _ _ a3)) (by simp;show o0 ap);have e1:(dg a.Zl (g.Zr.take k) 0).map V.Zn++[V.Zn k]=(dg a.Zl (g.Zr.take k) 0++[k]).map V.Zn:=by simp
  rw[dG,e1];have m:=G.row (k:=a.Zl) q (dg a.Zl (g.Zr.take k) 0++[k]);generalize T.set (2+a.Zl) _=T1 at m⊢;clear G;cbv;exact jd O (cV O K.KG rfl rfl (bV m.t0) rfl (jl (cZ (a9.trans m.t2)) rfl ?_));cbv;exists eF O X.jm;exists cV O K.KG rfl rfl (bV m.t0) rfl;have Y:=al k (dy w);have a4:=am k (dy w);apply dm (a9.trans m.t3) (by rw[aq];show Pj Y a4);cbv;apply c9 (a9.trans m.t2) (by simp;show NV w E);have e2:((aJ k).map g.off).map V.Zn++[V.int (((ez (g.Zr.take k) 0).map V.Zn).length:Nat)]=((aJ (k+1)).map g.off).map V.Zn:=by rw[aq,Y,gY];simp
  rw[dG,e2];have A:=m.off ((aJ (k+1)).map g.off);generalize T1.set (N+2) _=y at A⊢;clear m;cbv;exact jd O (cV O K.KG rfl rfl (bV A.t0) rfl (jl (BV (a9.trans A.t3)) rfl ?_));cbv;exists cV O K.KR rfl rfl (dU _ _) rfl;exact qI ?_;cbv;exists eF O X.jm;exists cV O K.KR rfl rfl (dU _ _) rfl;apply nM (l:=a.Zq.map .Zn) (by simp;show af Q (aB 100 999900));cbv;exact jy (mL (v:=.Zn k) (n:=(a.Zq.map V.Zn).length+1) Cg (by simp;show af Q (aB 100 999899)) ?_);have G3:=(A.tl (.list [.Zn k])).tl (.list (aw ((a.Zq.map V.Zn).length+1) (.Zn k)));have hv:YJ (H++y++[YF.list [V.Zn k]]++[.list (aw ((a.Zq.map V.Zn).length+1) (.Zn k))]) (.ref (H++y++[YF.list [V.Zn k]]).length)=Zs (.list ((aw a.len k).map V.Zn)):=by simp[YJ,Rl.len]
  have e3:H++y++[YF.list [V.Zn k]]++[.list (aw ((a.Zq.map V.Zn).length+1) (.Zn k))]=H++(y++[YF.list [V.Zn k]]++[.list (aw ((a.Zq.map V.Zn).length+1) (.Zn k))]):=by simp
  rw[e3] at hv⊢;generalize y++[YF.list [V.Zn k]]++[.list (aw ((a.Zq.map V.Zn).length+1) (.Zn k))]=T3 at G3 hv⊢;cbv;apply BY (a9.trans G3.t3) hv (by simp[Rl.len];show(af (bW (Y▸a4) (bp Q 1)) ⋯));have e4:(ez (g.Zr.take k) 0).map V.Zn++(aw a.len k).map V.Zn=(ez (g.Zr.take (k+1)) 0).map V.Zn:=by rw[YG t,CF,bo,bP,b0 d,bK]
  rw[dG,e4];have G4:=G3.own (ez (g.Zr.take (k+1)) 0);cbv;exact qS _ ?_ (p0 _ rfl ?_ w rfl);walk_at "q sub"
  ·have e5:((aJ N).map λs=>dg s (g.Zr.take k) 0).set a.Zl (dg a.Zl (g.Zr.take k) 0++[k])=(aJ N).map λs=>dg s (g.Zr.take (k+1)) 0:=by
    apply dJ;intro j;rw[dK,ak,ak];have a5:∀s,dg s (g.Zr.take (k+1)) 0=dg s (g.Zr.take k) 0++if a.Zl=s then[k] else[]:=λs=>by rw[YG t,DX,bP,b0 d,bK]
    split
    ·rename_i e;subst e;rw[if_pos (by simp;show q),dP q];simp[a5]
    ·rename_i e;cases B:(aJ N)[j]? with
     |none=>rfl
     |some x=>
      have U:x=j:=by have p:=(ae.mp B).1;rw[bZ] at p;rw[dP p] at B;have aM:=Option.some.inj B;clear B;subst aM;rfl
      subst U;simp[a5,e]
   rw[e5] at G4;show G4
 intro J _;apply Ej;intro T G d;rw[fC,bJ] at G;have aY:aa g.owners<=101000:=o.items;have a6:(ez g.Zr 0).length=aa g.owners:=rfl;cbv;exists eF O X.jm;exists cV O K.KG rfl rfl (bV G.t0) rfl;apply dm (a9.trans G.t3) (by rw[aq];show Pj a6 aY);exact E11 (by
  cases T with
  |nil=>have:=G.t0;show nS this
  |cons c r=>have:=G.t0;simp at this;show lC r (by rw[this]):∃a7,T=YF.dict (dz (CG g N (aa H) f))::a7) ?_;intro a7 M;subst M
 exists e9 O K.KG;rw[aq,a6];subst z;show⟨_,rfl,rfl,rfl,_,rfl,G.self _⟩
end
noncomputable abbrev PP:=Str×List Str
noncomputable def rU(l:List Str)(x:Str):List Str:=if x∈l then l else l++[x]
noncomputable def b7(Y:List PP):List Str:=Y.foldl (λl p=>rU l p.1) []
noncomputable def l5(a l:List Str)(x:Str):List Str:=if x∈a\/x∈l then l else l++[x]
noncomputable abbrev qu:Str:=ah "$accept"
noncomputable def wy:List Str:=[xM,Nn,Np]
noncomputable def ec(a:List Str)(Y:List PP):List Str:=Y.foldl (λl p=>p.2.foldl (l5 a) l) wy
noncomputable def cy(Y:List PP):List Str:=ec (b7 Y) Y++[qu]++b7 Y
structure eL(Y:List PP)(b:Str):Prop where
 Nz:Y.length<=6
 nm:∀p∈Y,p.1.length=1/\p.1≠ah "$"/\p.1≠ah "'"
 pt:∀p∈Y,∀x∈p.2,x.length=1
 JB:(Y.map (·.2.length)).sum<=15
 st:b∈Y.map (·.1)
 lf:(b7 Y).length<=3
structure NA(Y:List PP)(b:Str)(g:Gr):Prop where
 names:g.names=cy Y
 tc:g.tc=(ec (b7 Y) Y).length
 Zr:g.Zr.map (λr=>(r.Zl,r.Zq))=(g.tc,[g.names.idxOf b,0])::Y.map λp=>(g.names.idxOf p.1,p.2.map g.names.idxOf)
 start:g.start=g.names.idxOf b
theorem IY:y∈rU l x↔y∈l\/y=x:=by unfold rU;split;show⟨.inl,λh=>h.elim id λe=>by rw[e];assumption⟩;simp
set_option tactic.hygienic true in
theorem IZ{b l:List Str}{x y:Str}:y∈l5 b l x↔y∈l\/(y=x/\x∉b):=by
 unfold l5;split
 ·rename_i h;exact⟨.inl,λa=>a.elim id λ⟨e,c⟩=>?_⟩;rcases h with h|h
  show absurd h c;rw[e];show h
 ·rename_i h;have h:=not_or.mp h;(rw[aE,au]);show⟨λa=>a.elim .inl λe=>.inr ⟨e,h.1⟩,λa=>a.elim .inl λe=>.inr e.1⟩
theorem Gs{Y:List PP}{y:Str}:∀{l:List Str},y∈Y.foldl (λl p=>rU l p.1) l↔y∈l\/y∈Y.map (·.1):=by
 induction Y with
 |nil=>simp
 |cons p r a=>intro l;rw[e8,a,IY,ck,bb,or_assoc]
theorem fq{Y:List PP}{y:Str}:y∈b7 Y↔y∈Y.map (·.1):=by unfold b7;rw[Gs];simp
set_option tactic.hygienic true in
theorem DY{l:List Str}{x:Str}(h:l.Nodup):(rU l x).Nodup:=by
 unfold rU;split;show h
 ·rename_i d;rw[cz];show⟨h,by simp,λa f b c e=>d (by simp at c;subst c;show e▸f)⟩
theorem CH{Y:List PP}:∀{l:List Str},l.Nodup->(Y.foldl (λl p=>rU l p.1) l).Nodup:=by
 induction Y with
 |nil=>show λh=>h
 |cons p r a=>intro l h;show a (DY h)
theorem Gu{Y:List PP}:∀{l:List Str},(Y.foldl (λl p=>rU l p.1) l).length<=aa l+aa Y:=by
 induction Y with
 |nil=>show ax _
 |cons p r a=>
  intro l;have:=a (l:=rU l p.1);have:(rU l p.1).length<=aa l+1:=by unfold rU;split<;>simp
  simp only[e8,jn];show OV ‹_› this
theorem DZ{Y:List PP}:(b7 Y).length<=aa Y:=by have:=Gu (Y:=Y) (l:=[]);unfold b7;rw[sO] at this;show U' this
theorem Gv{b xs:List Str}{y:Str}:∀{l:List Str},y∈xs.foldl (l5 b) l↔y∈l\/(y∈xs/\y∉b):=by
 induction xs with
 |nil=>simp
 |cons x r c=>intro l;rw[e8,c,IZ,bb];constructor;rintro((h|⟨rfl,h⟩)|⟨h,a⟩);show .inl h;show .inr ⟨.inl rfl,h⟩;show .inr ⟨.inr h,a⟩;rintro(h|⟨rfl|h,a⟩);show .inl (.inl h);show .inl (.inr ⟨rfl,a⟩);show .inr ⟨h,a⟩
theorem D4{c:List Str}{Y:List PP}{y:Str}:∀{l:List Str},y∈Y.foldl (λl p=>p.2.foldl (l5 c) l) l↔y∈l\/(y∉c/\∃p∈Y,y∈p.2):=by
 induction Y with
 |nil=>simp
 |cons p r d=>
  intro l;rw[e8,d,Gv];constructor;rintro((h|⟨h,e⟩)|⟨h,q,a,b⟩);show .inl h;show .inr ⟨e,p,.head _,h⟩;show .inr ⟨h,q,.tail _ a,b⟩;rintro(h|⟨h,q,a,b⟩);show .inl (.inl h);rcases bb.mp a with rfl|a
  show .inl (.inr ⟨b,h⟩);show .inr ⟨h,q,a,b⟩
theorem jX{a:List Str}{Y:List PP}{y:Str}:y∈ec a Y↔y∈wy\/(y∉a/\∃p∈Y,y∈p.2):=D4
set_option tactic.hygienic true in
theorem D5{f l:List Str}{x:Str}(h:l.Nodup):(l5 f l x).Nodup:=by
 unfold l5;split;show h
 ·rename_i c;have c:=(not_or.mp c).2;rw[cz];show⟨h,by simp,λa g b d e=>c (by simp at d;subst d;show e▸g)⟩
theorem CI{a xs:List Str}:∀{l:List Str},l.Nodup->(xs.foldl (l5 a) l).Nodup:=by
 induction xs with
 |nil=>show λh=>h
 |cons x r b=>intro l h;show b (D5 h)
theorem Bd{a:List Str}{Y:List PP}:∀{l:List Str},l.Nodup->(Y.foldl (λl p=>p.2.foldl (l5 a) l) l).Nodup:=by
 induction Y with
 |nil=>show λh=>h
 |cons p r b=>intro l h;show b (CI h)
theorem I7:(l5 a l x).length<=aa l+1:=by unfold l5;split<;>simp
theorem Gw{a xs:List Str}:∀{l:List Str},(xs.foldl (l5 a) l).length<=aa l+aa xs:=by
 induction xs with
 |nil=>show ax _
 |cons x r b=>intro l;have:=b (l:=l5 a l x);have:=I7 (a:=a) (l:=l) (x:=x);simp only[e8,jn];show OV ‹_› this
theorem D6{a:List Str}{Y:List PP}:∀{l:List Str},(Y.foldl (λl p=>p.2.foldl (l5 a) l) l).length<=aa l+(Y.map (·.2.length)).sum:=by
 induction Y with
 |nil=>show ax _
 |cons p r b=>intro l;have:=b (l:=p.2.foldl (l5 a) l);have:=Gw (a:=a) (xs:=p.2) (l:=l);simp only[e8,ck,fO];show(bu _ _ _▸af ‹_› (bp this _))
theorem CJ{a xs:List Str}:∀{l:List Str},l<+:xs.foldl (l5 a) l:=by
 induction xs with
 |nil=>show kG _
 |cons x r b=>intro l;exact qP ?_ (b (l:=l5 a l x));unfold l5;split;show kG _;show lX _ _
theorem z_{a:List Str}{Y:List PP}:∀{l:List Str},l<+:Y.foldl (λl p=>p.2.foldl (l5 a) l) l:=by
 induction Y with
 |nil=>show kG _
 |cons p r b=>intro l;show(CJ (xs:=p.2)).trans b
theorem yf:wy<+:ec a Y:=z_
theorem Be:∀{l:List Nat} {x:Nat},x∈l->x<=l.sum
 |y::l,x,h=>by
  rw[fO];rcases bb.mp h with rfl|h
  show aW _ _;have:=Be h;show Nat.le_add_left_of_le this
theorem D7:wy.Nodup:=by decide
theorem qv{a:List Str}{Y:List PP}:(ec a Y).Nodup:=Bd D7
theorem lR{Y:List PP}:(b7 Y).Nodup:=CH (by simp)
theorem Bf(h:x∈wy):x.length≠1:=by
 have:∀x∈wy,x.length≠1:=by decide
 show this x h
theorem sG:qu.length≠1:=by decide
theorem Lb:qu∉wy:=by decide
section
variable{Y:List PP}{b:Str}
theorem eL.V2(a:eL Y b)(h:x∈b7 Y):x.length=1:=by exact E12 (ay.mp (fq.mp h)) λp c d=>?_;subst d;show(a.nm p c).1
theorem eL.V3(a:eL Y b)(h:x∈ec (b7 Y) Y):x∉b7 Y/\x≠qu:=by
 rcases jX.mp h with h|⟨h,p,c,d⟩
 ·show⟨λf=>Bf h (a.V2 f),λe=>Lb (e▸h)⟩
 ·show⟨h,λe=>sG (e▸a.pt p c x d)⟩
theorem eL.nodup(a:eL Y b):(cy Y).Nodup:=by
 unfold cy;rw[av,cz];exact⟨qv,?_,λx c y d e=>?_⟩;rw[Ft,cw];show⟨λh=>sG (a.V2 h),lR⟩;subst e;have:=a.V3 c;rcases aE.mp d with h|h
 show this.2 (au.mp h);show this.1 h
theorem eL.Qg(a:eL Y b):(ec (b7 Y) Y).length<=18:=by have:=D6 (a:=b7 Y) (Y:=Y) (l:=wy);have h:wy.length=3:=rfl;have:=a.JB;unfold ec;show af ‹_› (af (bW (aX h) this) ⋯)
theorem eL.Qh(a:eL Y b):(cy Y).length=(ec (b7 Y) Y).length+1+(b7 Y).length:=by unfold cy;simp;show O7
theorem eL.part(d:eL Y b)(a:p∈Y)(c:x∈p.2):x∈cy Y:=by unfold cy;by_cases h:x∈b7 Y;show Fw ∅;have:x∈ec (b7 Y) Y:=jX.mpr (.inr ⟨h,p,a,c⟩);show Ht ∅
theorem eL.Zl(c:eL Y b)(a:p∈Y):p.1∈cy Y:=by unfold cy;have:p.1∈b7 Y:=fq.mpr (bY a);show Fw ∅
theorem eL.Qi(a:eL Y b):b∈cy Y:=by unfold cy;have:b∈b7 Y:=fq.mpr a.st;show Fw ∅
theorem EU:∀{a:List Rl} {k:Nat},(ez a k).length=aa a+(a.map (·.Zq.length)).sum
 |[],_=>rfl
 |r::a,k=>by exact(?_:(aw r.len k++ez a (k+1)).length=_);rw[bC,EU,dM,ck,fO,jn];unfold Rl.len;show Tu
theorem eL.WQ(a:eL Y b)(h:x∈b7 Y):(ec (b7 Y) Y).length+1<=(cy Y).idxOf x:=by
 unfold cy;have c:x∉ec (b7 Y) Y++[qu]:=by rw[aE,au];rintro(d|rfl);show(a.V3 d).1 h;show sG (a.V2 h)
 rw[pZ,if_neg c];simp
theorem eL.Yd(g:eL Y b)(h:x∈cy Y)(d:x≠qu):(cy Y).idxOf x≠(ec (b7 Y) Y).length:=by
 intro e;have a:=bD.mpr h;have f:=dN a;have c:(cy Y)[(cy Y).idxOf x]?=Zs qu:=by rw[e];unfold cy;show Mw
 rw[ag a,f] at c;show d (by injection c)
theorem NA.Qj(d:eL Y b)(G:NA Y b g):z4 g:=by
 walk_at "@Y b g|d G";have m:=G.names;have y:=d.Qh;have z:=d.Qg;have u:=d.lf;have v:=d.Nz;have q:g.Zr.length=1+Y.length:=by have:=congrArg aa G.Zr;simp at this;show Tv this
 have k:∀r∈g.Zr,(r.Zl=g.tc/\r.Zq=[g.names.idxOf b,0])\/∃p∈Y,r.Zl=g.names.idxOf p.1/\r.Zq=p.2.map g.names.idxOf:=λr k=>by
  have:(r.Zl,r.Zq)∈g.Zr.map (λr=>(r.Zl,r.Zq)):=bY k;rw[G.Zr] at this;rcases bb.mp this with e|e
  injection e with c a;show .inl ⟨c,a⟩
  exact E12 (ay.mp e) λp i e=>?_;injection e with c a;show .inr ⟨p,i,c.symm,a.symm⟩
 have l:=G.tc;have A:3<=g.tc:=by rw[l];show(yf (a:=b7 Y) (Y:=Y)).length_le
 have t:∀{x:Str},x∈cy Y->g.names.idxOf x<g.names.length:=λh=>by rw[m];show bD.mpr h
 have n:g.names.length=(ec (b7 Y) Y).length+1+(b7 Y).length:=by rw[m];show y
 have B:∀p∈Y,p.2.length<=15:=λp i=>by have:=Be (bY (f:=(·.2.length)) i);have:=d.JB;show af ‹_› this
 have D:(g.rule 0).Zl=g.tc:=by
  have h:=G.Zr;unfold Gr.rule;cases w:g.Zr with
  |nil=>rw[w] at h;show nC h
  |cons r H=>rw[w] at h;simp at h;show h.1.1
 exact⟨⟨by show(n▸af (bW (bp z 1) u) ⋯),by show(l▸n▸af (aW _ _) (aW _ _)),by show(q▸af (aA v 1) ⋯),λr h=>?_,λr h s j=>?_,λr h=>?_⟩,?_,by show Tw q,XF u l n,by show(q▸aA v 1),λr h=>?_,λr h j=>?_⟩;rcases k r h with⟨c,a⟩|⟨p,i,c,a⟩
 show U2 c n l;rw[c];show t (d.Zl i);rcases k r h with⟨c,a⟩|⟨p,i,c,a⟩
 rw[a] at j;simp only[bb,bq,or_false] at j;rcases j with rfl|rfl
 show t d.Qi;show Tx n;rw[a] at j;exact E12 (ay.mp j) λx o E=>?_;subst E;show t (d.part i o);rcases k r h with⟨c,a⟩|⟨p,i,c,a⟩
 rw[a];show aB _ _;rw[a,aq];have:=B p i;show af this (aB 15 85);unfold Gr.owners;rw[EU];have e:g.Zr.map (·.Zq.length)=(g.Zr.map (λr=>(r.Zl,r.Zq))).map (·.2.length):=by rw[bE];rfl
 rw[e,G.Zr];have:=d.JB;have a:((Y.map λp=>(g.names.idxOf p.1,p.2.map g.names.idxOf)).map (·.2.length))=Y.map (·.2.length):=by rw[bE];apply oo;intro p _;show aq _
 rw[ck,a,fO];simp;show Tz this;rcases k r h with⟨c,a⟩|⟨p,i,c,a⟩
 show aX (id (Eq.symm c));rw[c,m,l];have:=d.WQ (fq.mpr (bY (f:=(·.1)) i));show aV this;rw[D] at j;rcases k r h with⟨c,a⟩|⟨p,i,c,a⟩
 rw[a] at j;simp only[bb,bq,or_false] at j;rcases j with e|e
 have:=d.WQ (fq.mpr d.st);rw[m,l] at e;show(bf _ (e▸this));show(uv 2 (e▸A));rw[a] at j;exact E12 (ay.mp j) λx o e=>?_;rw[m,l] at e;show d.Yd (d.part i o) (λe=>sG (e▸d.pt p i x o)) e
end
theorem D8(g:Za H)
  (k:∀x t,e.lookup x=Zs t->∃v,l.lookup x=Zs v/\fE (λi=>aa H<=i) (H++T) v t)
  (h:gM C d m e (H++aw (aa T) .dead) n Q):gM C d m l (H++T) n Q:=by
 exact LJ (λi=>aa H<=i) (U:=H++aw (aa T) .dead) (Q:=e) ⟨?_,λj c a=>⟨λb=>?_,λb=>?_⟩⟩ k h
 simp
 have f:=(ae.mp a).1;rw[bC] at f;rw[aH b,dt,if_pos (dd b f)]
 have q:j<aa H:=ed b;rw[ar q] at a;show cU c (by rw[ar q];show a) (YF.AG (g c (ai a)))
theorem Bg{a:Nat->Prop}{b:Hp}{c:YK}:∀x t,([]:YK).lookup x=Zs t->∃v,c.lookup x=Zs v/\fE a b v t:=λx t h=>nS h
set_option tactic.hygienic true in
theorem jY{b:Nat->Prop}{c:Hp}{d g:YK}{n:String}{i f:V}(h:d.lookup n=Zs f)(j:fE b c f i)(k:∀x t,g.lookup x=Zs t->∃v,d.lookup x=Zs v/\fE b c v t):
  ∀x t,((n,i)::g).lookup x=Zs t->∃v,d.lookup x=Zs v/\fE b c v t:=by
 show λx t a=>by
  rw[cq] at a;split at a
  ·rename_i e;have e:=beq_iff_eq.mp e;subst e;have l:=Option.some.inj a;clear a;subst l;show cU f h j
  show k x t a
theorem oP(a:List PP):(V.Zo .list (a.map λp:PP=>V.Zo .tup [.str p.1,.Zo .list (p.2.map .str)])).pure=true:=V.dF (λp=>by simp[V.pure,V.fv,iG]) _
theorem CK(k:Nat):ec a (b.take k)<+:ec a b:=by
 have e:ec a b=(b.drop k).foldl (λl p=>p.2.foldl (l5 a) l) (ec a (b.take k)):=by unfold ec;rw[←eJ,fe]
 rw[e];show z_
theorem yg{L:Hp}{c a:YF}:(L++[c]).set (aa L) a=L++[a]:=OD
noncomputable abbrev j7(p:PP):V:=.Zo .tup [.str p.1,.Zo .list (p.2.map .str)]
noncomputable abbrev kR(a:List PP):V:=.Zo .list (a.map j7)
section
variable{H:Hp}
variable(O:fy C mg mb)(K:Cs C mg)(X:Fx C mg mb)(W:K2 C mg)
include O K X W
theorem yh(A:eL a b)(hP:Za H)(ha:(args=[kR a]/\(b7 a)[0]?=Zs b)\/args=[kR a,.str b]):
  dq C 5 (.ref (226:Addr)) H args λu q=>(∃g,u=cO g/\NA a b g)/\q=H:=by
 walk_at "@H a b args|O K X W A hP ha"
 have aM:∀(sv:V) (M:Str) (a0:Value) (L:Addr),(sv= .none/\(b7 a)[0]?=Zs b)\/sv= .str b->gM C 4 (Y8 (lN (Zf 18)) M a0 L (226:Addr)) [("pairs",kR a),("start",sv)] H (uM (Zf 18)) λf U q=>∃v,PF f v/\(λu q=>∃ext t,q=H++ext/\fE (λi=>H.length<=i) q u t/\∃g,t=cO g/\NA a b g) v q:=by
  intro sv M a0 L aY;walk_at "@sv M a0 L|aY";change gM C 4 _ _ H _ _;cbv;exact qI ?_;cbv;let Iv:Nat->YK->Hp->Prop:=λk J q=>q=H++[.list ((b7 (a.take k)).map .str)]/\J=[("pairs",kR a),("start",sv),("lefts",.ref H.length)];exact v3 j7 a Iv ?_ ?_ ?_;cbv;exact⟨⟨_,?_,rfl,rfl⟩,λU _b _c _d=>rfl⟩;walk_at "q sub";intro k bn;obtain⟨x,xs⟩:=bn;intro J _ w;apply ja;have a1:=ai w;apply E03 (A.nm _ a1);intro n1 n2 n3;try dsimp only at n1 n2 n3
  exact lI ?_;exact as_name ?_;exact as_name ?_;cbv;exact BH ?_;cbv;exact FW (lD ?_);rw[decide_eq_false (show¬x=ah "error" from λe=>by rw[e] at n1;show absurd n1 ⋯)];apply eU (by simp);exact AD ?_;exact tCmp ?_;exact Kx ?_;cbv;exists fP x rfl n1;exact sV ?_;exact FV jE (l:=[ah "",ah "$",ah "'"]) rfl rfl (lD ?_);rw[decide_eq_false (show¬x∈[ah "",ah "$",ah "'"] by simp only[bb,bq,or_false,not_or];show⟨λe=>by rw[e] at n1;show absurd n1 ⋯,n2,n3⟩)];exists eU (by simp);have bs:(b7 (a.take k)).length<=1000:=by have:=DZ (Y:=a.take k);have:=A.Nz;have h2:=List.length_take_le' k a;show af ‹_› (af h2 (af this ⋯))
  exact kz jE (l:=b7 (a.take k)) rfl Cg (lD ?_);have b1:b7 (a.take (k+1))=rU (b7 (a.take k)) x:=by rw[YG w];unfold b7;rw[eJ];rfl
  by_cases E:x∈b7 (a.take k);exists eU (by simpa using E);exact fP _ ?_ (by rw[b1];unfold rU;rw[if_pos E]) rfl;walk_at "q sub";exists fY (decide_eq_true ∅);exists jd O;exists jl (cZ (l:=(b7 (a.take k)).map .str) Cg) rfl;apply c9 (l:=(b7 (a.take k)).map .str) sS (by rw[aq];show o0 bs);cbv;exact fP _ ?_ ?_ rfl;walk_at "q sub";rw[b1];unfold rU;rw[if_neg E];simp;intro J _;apply ja;rw[bJ];have b2:=A.lf;walk_at "c";exact sAs ?_;exact fL.mono (Q:=λv q=>v= .str b/\∃G,q=H++YF.list ((b7 a).map .str)::G) ?_ ?_;rcases aY with⟨rfl,a3⟩|rfl
  exact wIf ?_;exact BH ?_;cbv;exact tf (lD ?_);apply eU rfl;exact AD ?_;cbv;exact qI ?_;exact Dj jE (l:=b7 a) (c:=[]) WM Cg (lD ?_);have bv:b7 a≠[]:=by rintro e;rw[e] at a3;show nS a3
  exists eU (decide_eq_false bv);exact aO (l:=(b7 a).map .str) (k:=0) (u:=.str b) WM (by rw[ak,a3];rfl) ⋯ ⟨rfl,[.list []],av _ _ _⟩;exact wIf ?_;exact BH ?_;cbv;exact tf (lD ?_);apply fY rfl;exists fY rfl;show⟨rfl,[],by simp⟩;intro _ _;ext _ rfl bw;ext bw⟨G⟩rfl;walk_at "@G";cbv;exact kz jE (l:=b7 a) rfl Cg (lD ?_);apply eU (by simpa using fq.mpr A.st);exact ex_nil ?_;exact D8 (T:=YF.list ((b7 a).map .str)::G) (e:=[("pairs",kR a),("lefts",.Zo .list ((b7 a).map .str)),("begin",.str b)]) hP ?_ ?_;show jY rfl (fE.pure (oP a)) (jY rfl (.list (ax _) fB (dQ.pure (iG _))) (jY rfl (.str _) Bg));generalize aw (YF.list ((b7 a).map V.str)::G).length YF.dead=D;clear G;cbv;exists eF O X.uR;apply E11 W.ex;intro ow;ext _⟨on,ot0,ot1,ot2⟩hog hob;exists uz (v:=.Zo .tup (wy.map .str)) (nI O hog rfl) (λφ Z hz=>.Zo (.tup (hz _ _ hob)) (.cons (.str _ _) (.cons (.str _ _) (.cons (.str _ _) .nil))));exists BS (l:=wy.map .str) ⋯;have hD:(H++D).length=H.length+D.length:=bC;rw[hD];have a4:=A.Qg;let Iv:Nat->YK->Hp->Prop:=λk J q=>q=H++D++[.list ((ec (b7 a) (a.take k)).map .str)]/\J=[("pairs",kR a),("lefts",.Zo .list ((b7 a).map .str)),("begin",.str b),("names",.ref (H.length+D.length))];exact v3 j7 a Iv ?_ ?_ ?_;cbv;exact⟨⟨_,?_,rfl,rfl⟩,λU _b _c _d=>rfl⟩;walk_at "q sub";intro k a5;obtain⟨x,xs⟩:=a5;intro J _ w;apply ja;have a1:=ai w;exact lI ?_;exact as_name ?_;exact as_name ?_;cbv;let Iv:Nat->YK->Hp->Prop:=λj l1 q=>q=H++D++[.list (((xs.take j).foldl (l5 (b7 a)) (ec (b7 a) (a.take k))).map .str)]/\l1=[("pairs",kR a),("lefts",.Zo .list ((b7 a).map .str)),("begin",.str b),("names",.ref (H.length+D.length))];exact v3 V.str xs Iv ?_ ?_ ?_;cbv;exact⟨⟨_,?_,rfl,rfl⟩,λU _b _c _d=>rfl⟩;walk_at "q sub";intro j y l1 _ hy;apply ja;generalize hc:(xs.take j).foldl (l5 (b7 a)) (ec (b7 a) (a.take k))=N;have bA:N.length<=18:=by
   have Y:N<+:ec (b7 a) (a.take (k+1)):=by
    have e:ec (b7 a) (a.take (k+1))=(xs.drop j).foldl (l5 (b7 a)) N:=by rw[←hc,←eJ,fe,YG w];unfold ec;rw[eJ];rfl
    rw[e];show CJ
   have:=(Y.trans (CK (k+1))).length_le;show af this a4
  have ap:(xs.take (j+1)).foldl (l5 (b7 a)) (ec (b7 a) (a.take k))=l5 (b7 a) N y:=by rw[YG hy,eJ,hc];rfl
  cbv;exact tS ?_;cbv;exact kz jE (l:=b7 a) rfl rfl (lD ?_);by_cases Y:y∈b7 a;apply eU (by simpa using Y);exists eU rfl;exact fP _ ?_ (by rw[ap];unfold l5;rw[if_pos (.inl Y)]) rfl;walk_at "q sub";apply fY (decide_eq_true ∅);exact p8 ?_;cbv;exact kz jE (l:=N) rfl (by rw[av];simp[YJ]) (lD ?_);by_cases h2:y∈N;exists eU (by simpa using h2);exact fP _ ?_ (by rw[ap];unfold l5;rw[if_pos (.inr h2)]) rfl;walk_at "q sub";exists fY (decide_eq_true ∅);exists jd O;have b3:(H++D++[YF.list (N.map V.str)])[H.length+D.length]?=Zs (.list (N.map V.str)):=by rw[←hD];show dc
  exists jl (cZ (l:=N.map .str) b3) rfl;apply c9 b3 (by rw[aq];show af bA (aB 18 999982));cbv;exact fP _ ?_ ?_ rfl;walk_at "q sub";rw[ap];unfold l5;rw[if_neg (by rintro(h|h);show Y h;show h2 h)];rw[←hD,yg];simp;intro l1 _;apply ja;rw[bJ];cbv;exact fP _ ?_ ?_ rfl;walk_at "q sub";rw[YG w];unfold ec;rw[eJ];rfl;intro J _;apply ja;rw[bJ];have as:(H++D++[YF.list ((ec (b7 a) a).map V.str)])[H.length+D.length]?=Zs (.list ((ec (b7 a) a).map V.str)):=by rw[←hD];show dc
  cbv;exists eF O X.jm;apply dm as (by rw[aq];show af a4 (aB 18 999982));rw[aq];cbv;exact qI ?_;generalize b4:ec (b7 a) a=m at*;generalize b5:b7 a=ls at*;have ac:(H++D++[YF.list (m.map V.str)]).length=H.length+D.length+1:=by simp;show Eq.symm (bu _ _ _)
  rw[ac];exact jR (l:=m.map .str) (m:=[V.str qu]) (by
   have:(H++D++[YF.list (m.map V.str)]++[YF.list [V.str (ah "$accept")]])[H.length+D.length]?=Zs (.list (m.map V.str)):=by rw[ar (TA ac)];show as
   show this) (by rw[←ac];show dc) (by simp;show af a4 (aB 18 999981)) ?_
  cbv;apply jR (l:=m.map .str++[V.str qu]) (m:=ls.map .str) dc rfl (by simp;show af (bW (bp a4 1) b2) ⋯);exact as_name ?_;have b6:cy a=m++[qu]++ls:=by unfold cy;rw[b5,b4]
  have b':YF.list (m.map V.str++[V.str qu]++ls.map V.str)=YF.list ((cy a).map .str):=by rw[b6];simp
  rw[b'];apply mF (a:=H++(D++[YF.list (m.map V.str),YF.list [V.str (ah "$accept")],YF.list (m.map V.str++[V.str qu]),YF.list ((cy a).map .str)])) (by simp);exact D8 (e:=[("pairs",kR a),("begin",.str b),("names",.Zo .list ((cy a).map .str)),("count",.Zn m.length)]) hP ?_ ?_;exact jY rfl (fE.pure (oP a)) (jY rfl (.str _) (jY rfl (.list ?_ ?_ (dQ.pure (iG _))) (jY rfl (.int _) Bg)));simp;rw[show H++(D++[YF.list (m.map V.str),YF.list [V.str (ah "$accept")],YF.list (m.map V.str++[V.str qu]),YF.list ((cy a).map .str)])=(H++D++[YF.list (m.map V.str)]++[YF.list [V.str (ah "$accept")]]++[YF.list (m.map V.str++[V.str qu])])++[YF.list ((cy a).map .str)] by simp];show dc;have a6:(cy a).length<=22:=by rw[b6];simp;show bW a4 (bp b2 1)
  have bd:=A.Qi;have c5:∀{x:Str},x∈cy a->(cy a).idxOf x<22:=λh=>by have:=bD.mpr h;show aj this a6
  have bI:=λp (w:p∈a) x (E:x∈p.2)=>A.part w E;have bL:=λp (w:p∈a)=>A.Zl w;have be:=A.Nz;clear as ac hD b';generalize aw _ YF.dead=D;generalize bN:cy a=d at*;cbv;exists A8 O K.KR;exists jd O;exists jl (md (l:=d.map .str) rfl) rfl;exists mf jE (l:=d) rfl rfl bd (af a6 (aB 22 999978));exists uz (nI O X.PW rfl) (λφ Z U=>.int _ _);exact sV ?_;cbv;exists uz (nI O X.PW rfl) (λφ Z U=>.int _ _);exact(((zQ O K X.Cj (i:=0) (l:=m.length) (r:=[d.idxOf b,0]) (a:=0)).deep ⋯).mono (pV ?_)).call;cbv;exact qI ?_;cbv;have R0:[gn (⟨m.length,[d.idxOf b,0],0⟩,0)]=([⟨m.length,[d.idxOf b,0],0⟩]:List Rl).zipIdx.map (gn):=rfl;rw[R0];have a7:∀(o:List Rl) (G:Hp),(H++D++YF.list (o.zipIdx.map (gn))::G)[(H++D).length]?=Zs (.list (o.zipIdx.map (gn))):=λo G=>fB;let Iv:Nat->YK->Hp->Prop:=λk J q=>∃(o:List Rl) (G:Hp),q=H++D++YF.list (o.zipIdx.map (gn))::G/\o.map (λr=>(r.Zl,r.Zq))=(m.length,[d.idxOf b,0])::(a.take k).map (λp=>(d.idxOf p.1,p.2.map d.idxOf))/\k<=a.length/\J=[("pairs",kR a),("begin",.str b),("names",.Zo .list (d.map .str)),("count",.Zn m.length),("rules",.ref (H++D).length)];exact v3 j7 a Iv ?_ ?_ ?_;cbv;exact⟨⟨_,?_,_,[],rfl,rfl,bz _,rfl⟩,λU _b _c _d=>rfl⟩;walk_at "q sub";intro k bR;obtain⟨x,xs⟩:=bR;intro J _ w;apply r9;intro o G a2 hk;have a1:=ai w;have al:=(ae.mp w).1;have am:o.length=k+1:=by have:=congrArg aa a2;simp at this;show U1 this al
  have bh:xs.length<=15:=by
   have:=Be (bY (f:=(·.2.length)) a1);have:=A.JB;try dsimp only at*
   show af ‹_› this
  have bi:=bI _ a1;have bm:=bL _ a1;try dsimp only at bi bm
  exact lI ?_;exact as_name ?_;exact as_name ?_;cbv;exists eF O X.Iz;exact gv [(ah "names",L+1)] [("names",.Zo .list (d.map .str))] (iK (ev_name rfl ⟨⟨_,rfl⟩,mY trivial (f:=(xs.map d.idxOf).map V.Zn) (ie fH) (by simp) (by simp;show af bh (aB 15 999985)) (λk x y E hy c6 Cl=>?_) ?_⟩)) ⟨⟨rfl,rfl,rfl,rfl⟩,trivial⟩ (M:=CW);rw[ak] at E hy;rw[ak] at hy;apply E12 (bg.mp E);intro r Y c0;subst c0;rw[Y] at hy;have a5:=Option.some.inj hy;clear hy;subst a5;exists jd O;exists jl (md (l:=d.map .str) rfl) rfl;show mf jE (l:=d) rfl rfl (bi r (ai Y)) (af a6 (aB 22 999978)) ⟨rfl,rfl⟩;cbv;apply uI (l:=(xs.map d.idxOf).map V.Zn) Cg (by rw[aq,aq];show af bh (aB 15 999985));cbv;have e0:∀c:YF,H++D++YF.list (o.zipIdx.map (gn))::G++[c]=H++D++YF.list (o.zipIdx.map (gn))::(G++[c]):=λc=>av _ _ _;rw[e0];generalize G++[_]=G2;exists jd O;exists jl (cZ (a7 o G2)) rfl;exists A8 O K.KR;exists eF O X.jm;cbv;apply dm (a7 o G2) (by simp;show(am▸af al (af be ⋯)));have e1:(o.zipIdx.map (gn)).length=k+1:=by simp[am]
  rw[e1];cbv;exists jd O;exists jl (md (l:=d.map .str) rfl) rfl;exists mf jE (l:=d) rfl rfl bm (af a6 (aB 22 999978));exists ik O X.uO;cbv;exact(((t7 O X.uO (l:=xs.map d.idxOf) (t:=m.length)).deep ⋯).mono (XZ λz=>?_)).call;cbv;exact(((zQ O K X.Cj (i:=k+1) (l:=d.idxOf x) (r:=xs.map d.idxOf) (a:=z)).deep ⋯).mono (pV ?_)).call;cbv;exists c9 (a7 o G2) ((e1▸af al (af be ⋯)));exact qS _ ?_ (tP (o++[⟨d.idxOf x,xs.map d.idxOf,z⟩]) G2 ?_ ?_ al rfl);walk_at "q sub";rw[mE,lW,bo,am];simp;rw[bo,a2,YG w];simp;intro J _;apply r9;intro o G a2 hk;rw[bJ] at a2;have am:o.length=a.length+1:=by have:=congrArg aa a2;simp at this;show this
  apply mF (a:=H++(D++YF.list (o.zipIdx.map (gn))::G)) (av _ _ _);exact D8 (e:=[("begin",.str b),("names",.Zo .list (d.map .str)),("count",.Zn m.length),("rules",.Zo .list (o.zipIdx.map (gn)))]) hP ?_ ?_;exact jY rfl (.str _) (jY rfl (fE.pure (iG _)) (jY rfl (.int _) (jY rfl (.list ?_ ?_ (dQ.pure ?_)) Bg)));simp;rw[←av];show a7 o G;show V.dF (λp=>t_) _;clear a7;generalize aw _ YF.dead=I;cbv;exists A8 O K.KG;exists mM O;exists jd O;exists jl (md (l:=d.map .str) rfl) rfl;exists mf jE (l:=d) rfl rfl bd (af a6 (aB 22 999978));apply E11 (⟨_,rfl⟩:∃g:Gr,g=⟨d,m.length,o,d.idxOf b⟩);intro g hg;have GO:NA a b g:=by subst hg;show⟨bN.symm,by rw[b5,b4],a2,rfl⟩
  have B:=GO.Qj A;have e1:d=g.names:=by rw[hg]
  have e2:m.length=g.tc:=by rw[hg]
  have e3:o=g.Zr:=by rw[hg]
  have e4:d.idxOf b=g.start:=by rw[hg]
  rw[e4,e1,e2,e3];exact(((Gq O K X (H:=H++I++[YF.dict []]) (g:=g) B.ok (f:=.ref (H++I).length)).deep ⋯).mono ?_).call;intro _ _;ext _ rfl c1;ext c1⟨T⟩rfl GG;exact⟨_,rfl,I++[YF.dict []]++T,cO g,by simp,?_,g,rfl,GO⟩;have c2:(H++I++[YF.dict []]).length=H.length+I.length+1:=by simp;show Eq.symm (bu _ _ _)
  have a':∀j,H.length<=(H++I++[YF.dict []]).length+j:=λj=>TB c2;apply fE.FZ (a' 0) ((a9 (a:=H++I++[YF.dict []])).trans GG.t0);exact .cons (fE.pure (iG _)) (.cons (.int _) (.cons (fE.pure ?_) (.cons (.dict (kvs:=[]) ?_ ?_ rfl .nil) (.cons .none (.cons (.int _) (.cons (.list (a' 1) ((a9 (a:=H++I++[YF.dict []])).trans GG.t1) ?_) (.cons (.list (a' _) ((a9 (a:=H++I++[YF.dict []])).trans GG.t2) ?_) (.cons (.list (a' _) ((a9 (a:=H++I++[YF.dict []])).trans GG.t3) (dQ.pure (c_ _))) (.cons (.int _) .nil)))))))));show V.dF (λp=>t_) _;simp;rw[av,av,←av];show fB;have hh:(aJ g.names.length).map (λs=>V.Zo .list ((g.lefts s).map .Zn))=((aJ g.names.length).map g.lefts).map IX:=by rw[bE];rfl
  rw[hh];exact nV (by rw[aq,aq]) λi r hr=>⟨(H++I++[YF.dict []]).length+(2+i),?_,a' _,(a9 (a:=H++I++[YF.dict []])).trans (GG.tr i r hr)⟩;have:=(ae.mp hr).1;rw[aq,bZ] at this;rw[ak,dP this];rfl;rw[bE];show dQ.pure (V.dF (λp=>rfl) _)
 rcases ha with⟨rfl,a3⟩|rfl
 exact ot ?_;exact uE (j:=["pairs","start"]) (J:=[.none]) (B:=[.none]) O X.plain.f ?_ (λU _b=>.cons .none .nil) rfl ⋯ ⋯ rfl rfl rfl ⋯ λM a0 L=>aM _ M a0 L (.inl ⟨rfl,a3⟩);intro s name M dV doc pm an cdv ct xs E hd;apply E22 (d0 (n:=0) E);intro x0 r1 a5 e1;subst a5;obtain rfl:=gV e1;apply E22 hd.tup;intro T n hT e;rw[hT];show tO rfl e rfl rfl rfl
 exact ot ?_;exact uE (j:=["pairs","start"]) (J:=[]) (B:=[]) O X.plain.f ?_ (λU _b=>.nil) rfl ⋯ ⋯ rfl rfl rfl ⋯ λM a0 L=>aM _ M a0 L (.inr rfl);intro s name M dV doc pm an cdv ct xs E hd;apply E22 (d0 (n:=1) E);intro x0 r1 c3 e1;subst c3;apply E22 (d0 e1);intro x1 r2 c4 e2;subst c4;obtain rfl:=gV e2;apply E22 hd.tup;intro T n hT e;rw[hT];show tO rfl e rfl rfl rfl
end
section
variable{d:Nat}
theorem D9{g:Addr->nu}{r:YK}{s t:e_}{u:mC}{H1:Hp}{xs:List V}{i j M:Nat}{l:V->Prop}{Q:Hp->Prop}(N:i<aa H1)(B:∀n c,rp u (H1.set i (fM n c)) xs)(D:aa xs<=1000000)
  (h:∀(k:Nat) (x:V),xs[k]?=Zs x->∀n c a Cl,c<=j+k->∃m,td (g Cl) r s x m/\fL C d (g Cl) m (H1.set i (fM n c)++[.list a]) t λy E=>l y/\∃o b,b<=c+1/\E=H1.set i (fM o b)++[.list a])
  (w:∀n c a,aa a=aa xs->(∀v∈a,l v)->c<=j+aa xs->Q (H1.set i (fM n c)++[.list a])):
  tT C d g r s t [] u (aa H1) (aa xs) (λk a G=>k<=aa xs/\aa a=k/\(∀v∈a,l v)/\∃n c,c<=j+k/\G=H1.set i (fM n c)++[.list a]) Q:=by
 walk_at "@d g r s t u H1 xs i j M l|Q N B D h w"
 intro k a G;ext _ p O;ext O z T;ext T A U;ext U⟨n,c⟩q rfl
 walk_at "@Q k a n c|w p z A q"
 apply E02 (B n c [.list a] k);intro Y H
 have I:∀(n c:Nat) (a:List V),(H1.set i (fM n c)++[YF.list a])[aa H1]?=Zs (.list a):=λn c a=>by have e:(H1.set i (fM n c)).length=aa H1:=b_;rw[←e];show dc
 exact⟨I _ _ _,af (aX z) (af p (af D ⋯)),Y,λJ=>?_,λv f=>?_⟩
 rw[H] at J;have:aa xs<=k:=by simpa using J
 show w n c a (z.trans (bt p this)) A (af q (bW (ax _) p))
 rw[H] at f;have L:=(ae.mp f).1;exact⟨L,λCl=>E12 (h k v f n c a Cl q) (λm hb he=>cU m hb ?_)⟩;exact((he.mono λy' E ⟨e1,o,b,a0,e2⟩=>?_):fL _ _ _ _ _ _ _);subst e2;exact⟨I _ _ _,by show L,by show Hw ∅,λv f=>?_,o,b,by show(bu _ _ _▸af a0 (bp q _)),?_⟩;rcases aE.mp f with h|h
 show A v h;rw[au.mp h];show e1;have e:(H1.set i (fM o b)).length=aa H1:=b_;rw[←e,yg]
theorem I8
  (h:fL C d g i H j λv H1=>∃(n:Nat) (Inv:Nat->YK->Hp->Prop),v= .Zo (.wI n) []/\n<=1000000/\(∃a,Sub a i/\Inv 0 a H1)/\(∀k a c,k<n->Inv k a c->tR C d g a c l (.int k) λq r=>gM C d g q r m (oJ Inv k Q))/\∀a c,Inv n a c->Q .next a c)
  (o:autoParam (∀x,de j g x=pure x) aP):pd C d g i H (.For l j m [] s) Q:=by
 walk_at "@d g i H l j m s Q|h o"
 exact qj (vk (h.mono λv H1 h=>E25 h (λn Inv t b u w y=>E12 u (λa z A=>⟨n,t,af b (aB 1000000 15777216),trivial,n,Inv,⟨a,z,A⟩,λk a c B p=>⟨trivial,λb=>?_,λE b=>?_⟩⟩)))) o
 simp only[mC.next] at b;have:¬k<n:=λf=>by rw[if_pos f] at b;cases b
 have e:k=n:=bt B (bS this);subst e;show y _ _ p
 simp only[mC.next] at b;by_cases f:k<n;rw[if_pos f] at b;have D:=Option.some.inj b;clear b;subst D;show⟨f,w k a c f p⟩;rw[if_neg f] at b;cases b
theorem q8.mono(h:q8 C d c f H e Q)(k:∀b a,Q b a->g b a):q8 C d c f H e g:=by unfold q8 at*;show λA i j s l E m n L o=>h A i j s l E m n L λb a p r s' q=>o b a p r s' (k b a q)
theorem Lc{H T:Hp}{i:Nat}(h:i<aa H)(p:YF):(H++T).set i p=H.set i p++T:=ny _ _ h
theorem sH{H T:Hp}{i:Nat}(h:i<aa H)(p:YF):(H.set i p++T)[i]?=Zs p:=by rw[ar (by simpa using h)];show LD ∅
theorem I9{H T:Hp}{i:Nat}{p:YF}(h:H[i]?=Zs p):(H++T)[i]?=Zs p:=by rw[ar (ae.mp h).1];show h
theorem rV{H T:Hp}{i:Nat}(h:i<aa H)(p q:YF):(H.set i p++T).set i q=H.set i q++T:=by rw[ny _ _ (by simpa using h),oB]
theorem jO.pen{H T Y:Hp}{i n c a b:Nat}(d:H[i]?=Zs (fM n c)):jO (H++T) (H.set i (fM a b)++T++Y) (H.set i (fM a b)++T):=by
 walk_at "@H T Y i n c a b|d";have f:=(ae.mp d).1;exact⟨by simp,λj h=>?_⟩;have k:(H.set i (fM a b)++T++Y)[j]?=(H.set i (fM a b)++T)[j]?:=by rw[ar (by simpa using h)]
 rw[k];by_cases e:j=i;subst e;show .inr ⟨_,_,sH f _,sH f _,YF.AG rfl⟩;have g:(H.set i (fM a b)++T)[j]?=(H++T)[j]?:=by
  rcases b9 j (aa H) with q|q
  rw[ar (by simpa using q),ar q,eg (Ne.symm e)];rw[aH (by simpa using q),aH q,b_]
 show .inl ⟨g,g⟩
end
noncomputable abbrev sg:List Str:=[ah "S",ah "T",ah "U"]
noncomputable abbrev ab:List Str:=[ah "a",ah "b"]
structure kJ(ps:List PP)(m:Nat):Prop where
 m3:m<3
 lf:b7 ps=sg.take (1+m)
 pt:∀p∈ps,∀x∈p.2,x∈ab++sg.take (1+m)
 Nz:aa ps<=6
 JB:(ps.map (·.2.length)).sum<=15
section
variable{H:Hp}
variable(O:fy C mg mb)(K:Cs C mg)(X:Fx C mg mb)
include O K X
theorem yi{i n c:Nat}(hi:H[i]?=Zs (fM n c))(hc:c<=1000):dq C 3 (.ref (542:Addr)) H [.ref i] λu f=>∃a m n' E,u=kR a/\kJ a m/\E<=c+100/\f=H.set i (fM n' E):=by
 walk_at "@H i n c|O K X hi hc";exact A7 ?_;exact gT O X.Zr.f ["pen"] (λbR c8 L=>?_) (YT λs s s s s s s s=>rfl);exact(?_:gM C 2 _ [("pen",.ref i)] H _ _);have G:=(ae.mp hi).1;walk_at "c";exact sAs ?_;exact uD (AO ?_);cbv;exact⟨by simp,?_⟩;cbv;exists ik O X.draw;cbv;exact(((jz O X.draw (i:=i) (n:=n) (c:=c) (b:=3) (I9 hi) ⋯ ⋯ (af hc (aB 1000 99000))).deep ⋯).mono ?_).call;intro _ _;apply oD;intro m n1 c1 o aY;rw[Lc G];apply oI (m:=1);have e1:[V.str (ah "S"),V.str (ah "T"),V.str (ah "U")]=sg.map V.str:=rfl;rw[e1];have bh:(H.set i (fM n1 c1)).length=aa H:=b_;exact⟨sg.map .str,(1+m:Nat),by rw[←bh];show fB,rfl,fT _,by simp,.Zo .list ((sg.take (1+m)).map .str),H.set i (fM n1 c1),?_,?_,?_⟩;apply .list (by simp) dc;rw[gw,←m9];show dQ.pure (iG _);have:=jO.pen (T:=[]) (Y:=[.list (sg.map .str),.list ((sg.map V.str).take ((1+m:Nat):Int).toNat)]) (a:=n1) (b:=c1) hi;simpa using this;cbv;exists ik O X.draw;cbv;exact(((jz O X.draw (i:=i) (n:=n1) (c:=c1) (b:=4) (LD ∅) ⋯ ⋯ (af aY (aZ hc (aB (w5 1000) 98999)))).deep ⋯).mono ?_).call;intro _ _;apply oD;intro pl n2 c2 ca bi;rw[oB];cbv;exact BO ?_;cbv;exact qI ?_;generalize cc:decide (((pl:Nat):Int)>0)=b1;cbv;rw[b_];apply E11 (⟨_,rfl⟩:∃M,M=max 2 (3 - m));intro M hM;have cd:(1+m)*M<=6/\(1+m)*(2+3*(M - 1))<=15/\2<=M/\M<=3:=by have:m=0\/m=1\/m=2:=Va o;rcases this with rfl|rfl|rfl<;>simp at hM<;>subst hM<;>decide
 ext cd b2 bm bn a0;exact v3 V.str (sg.take (1+m)) (λk l0 f=>∃a n E,f=H.set i (fM n E)++[.list (a.map j7)]/\E<=c+2+k*15/\k<=1+m/\b7 a=sg.take k/\(∀p∈a,∀x∈p.2,x∈ab++sg.take (1+m))/\aa a<=k*M/\(a.map (·.2.length)).sum<=k*(2+3*(M - 1))/\l0=[("pen",.ref i),("names",.Zo .list ((sg.take (1+m)).map .str)),("is_plain",.bool b1),("pairs",.ref (aa H))]) ?_ ?_ ?_;cbv;exact⟨⟨_,?_,[],n2,c2,rfl,by show Vb bi aY,bz _,rfl,by show λs h=>nm h,by show bz _,by show bz _,rfl⟩,λs _b _c _d=>rfl⟩;walk_at "q sub";intro k nm l0 _ an;apply vO;intro a A w B hk a2 a6 a1 a3;revert a A w;walk_at "@bR c8 L m n1 c1 pl c2 b1 M k nm|o aY bh ca bi cc hM b2 bm bn a0 an hk";intro a A w B a2 a6 a1 a3;walk_at "@a A w|B a2 a6 a1 a3";have a7:k<1+m:=by have:=(ae.mp an).1;rw[bP] at this;show(fD.mp this).1
 have b3:sg[k]?=Zs nm:=by rw[cQ a7] at an;show an
 have ce:nm∉sg.take k:=by
  intro h;apply E11 (aC.mp h);intro j D;have bs:j<k:=by have:=(ae.mp D).1;rw[bP] at this;show(fD.mp this).1
  rw[cQ bs] at D;have:=(cj (ae.mp D).1 (show sg.Nodup by decide)).mp (D.trans b3.symm);show(bf _ (this▸bs))
 have ap:(sg.take (1+m)).length=1+m:=by rw[bP];change min (1+m) 3=1+m;show(b0 (Wl _▸o))
 have ch:(if((4:Int) - ((1+m:Nat):Int))>2 then(4:Int) - ((1+m:Nat):Int) else 2)=(M:Int):=by rw[hM];show XG m o
 cbv;exact I8 ?_;exists eF O X.mu;exists ik O X.draw;cbv;exists eF O X.Nq;cbv;exists eF O X.jm;cbv;apply dm (l:=(sg.take (1+m)).map .str) rfl (by simp;show af (dX _ 3) ⋯);rw[aq,ap];exact xj ?_;cbv;exact tW ?_;rw[ch];cbv;exact(((jz O X.draw (i:=i) (n:=A) (c:=w) (b:=M) (sH G _) (aj ⋯ bn) (af a0 ⋯) (af B (af (bW (bp hc 2) (gW 15 (af (a_ a7) (aA (bG o) 1)))) ⋯))).deep ⋯).mono ?_).call;intro _ _;apply oD;intro g n4 c4 I bv;rw[rV G];exists oI (m:=1);exact gi ⟨1+g,(λj l1 f=>∃b n E,f=H.set i (fM n E)++[.list (b.map j7)]/\E<=w+1+j*4/\b7 b=sg.take (if j=0 then k else k+1)/\(∀p∈b,∀x∈p.2,x∈ab++sg.take (1+m))/\aa b<=aa a+j/\
  (b.map (·.2.length)).sum<=(a.map (·.2.length)).sum+(if j=0 then 0 else 2+3*(j - 1))/\
  l1=[("pen",.ref i),("names",.Zo .list ((sg.take (1+m)).map .str)),("is_plain",.bool b1),("pairs",.ref (aa H)),("name",.str nm)]),rfl,af (aX (cM 1 g)) (af I (af a0 ⋯)),⟨_,?_,a,n4,c4,rfl,by show dS bv,by rw[if_pos rfl];show a2,a6,by show aW _ _,by show ax _,rfl⟩,?_,?_⟩
 walk_at "q sub";intro j l1 _ D;apply p4;intro b n5 c5 a4 a' as ac J;walk_at "@g c4 j b n5 c5|I bv D a4 a' as ac J";have ci:aa b<=10:=by show XH b2 a1 (gW _ hk) ac D I a0
 exact as_name ?_;exact E11 (⟨_,rfl⟩:∃q,q=H.set i (fM n5 c5)++[YF.list (b.map j7)]) λq b4=>?_;rw[←b4];walk_at "c";exact sAs ?_;exact fL.mono (Q:=λv f=>(∃z:List Str,v= .Zo .list (z.map .str)/\(∀x∈z,x∈ab++sg.take (1+m))/\2<=aa z/\aa z<=5)/\f=q) ?_ ?_;exact uD ?_;exact wIf (q8.mono (Q:=λs f=>f=q) ?_ ?_);exact tS ?_;cbv;exact rh (lD ?_);by_cases d:((j:Nat):Int)=0;apply fY (decide_eq_true d);exact p8 (qR ?_);cbv;show fk rfl;show eU (decide_eq_false d) rfl;rintro t q rfl;cases t with
 |true=>exists fY rfl;exact⟨by simp,.Zo .list (ab.map .str),q,.list (ax _) dc (dQ.pure (iG ab)),jO.pure,⟨ab,rfl,?_,by decide,by decide⟩,rfl⟩;intro x hx;show cE _ hx
 |false=>exists eU rfl;exact qI ?_;cbv;apply jR (l:=ab.map .str) (m:=(sg.take (1+m)).map .str) dc rfl (by simp;show af (aA (dX _ 3) 2) ⋯);exact tP (.Zo .list ((ab++sg.take (1+m)).map .str)) q (.list (by simp) dc (by rw[bo];show dQ.pure (by rw[←bo];show iG _))) (by rw[av];show jO.pure) ⟨_,rfl,λx hx=>hx,?_,?_⟩ rfl;show aB _ _;rw[bC,ap];change 2+(1+m)<=5;show aA (aA (bG o) 1) 2
 rintro _ q;ext _ zq8 zq0;exact E14 zq8 λz b5 cn co b6=>?_;subst b5;subst zq0;exact as_name ?_;cbv;apply ik O X.draw;exact aCons ?_;apply ev_name rfl;exact aCons (fL.mono (Q:=λv f=>v= .Zn (if j=0 then 3 else 4)/\f=q) ?_ ?_);exact wIf ?_;cbv;exact BO (lD ?_);by_cases d:j=0;subst d;exists eU ⋯;show⟨rfl,rfl⟩;exists fY (decide_eq_true (dB.mpr (dZ d)));show⟨by rw[if_neg d];rfl,rfl⟩;rintro _ q;ext _ rfl rfl;cbv;rw[b4];clear b4 q;have a5:0<(if j=0 then 3 else 4)/\(if j=0 then 3 else 4)<=4:=by split<;>decide
 exact(((jz O X.draw (i:=i) (n:=n5) (c:=c5) (b:=if j=0 then 3 else 4) (sH G _) a5.1 (af a5.2 ⋯) (af (Ww hc a7 o B D I a0 a4) ⋯)).deep ⋯).mono (λ_ _=>?_)).call;apply oD;intro sz n6 c6 N bw;rw[rV G];cbv;have bA:∀n c,(H.set i (fM n c)++[YF.list (b.map j7)])[aa H]?=Zs (.list (b.map j7)):=λn c=>by have:(H.set i (fM n c)).length=aa H:=b_;rw[←this];show dc
 exists jd O;exact jl (cZ (bA n6 c6)) rfl (aCons (uD ?_));cbv;exact E11 (⟨_,rfl⟩:∃H1,H1=H.set i (fM n6 c6)++[YF.list (b.map j7)]) λH1 al=>?_;have bI:∀n c,H1.set i (fM n c)=H.set i (fM n c)++[YF.list (b.map j7)]:=λn c=>by rw[al,rV G]
 have b':i<aa H1:=by rw[al];simp;show jt _ G
 rw[←al];exact gv [(ah "some",L+2),(ah "pen",L+1)] [("pen",.ref i),("some",.Zo .list (z.map .str))] (vk (eF O X.mu ?_)) ⟨⟨rfl,rfl,rfl,rfl⟩,⟨rfl,rfl,rfl,rfl⟩,trivial⟩ (M:=by change[ah "some",ah "pen"].Nodup;decide);cbv;exact gi ⟨sz,rfl,by show af (a_ N) (af a5.2 ⋯),trivial,_,_,?_,D9 (j:=c6) (M:=0) (l:=λv=>∃x,v= .str x/\x∈ab++sg.take (1+m)) b' (λn c=>wN) (by simp;show af (a_ N) (af a5.2 ⋯)) (λk x hx n c bd Cl cp=>?_) ?_⟩;show⟨bz _,rfl,by simp,n6,c6,ax _,by rw[bI,al]⟩;apply cU _ (.name rfl);have bL:=(ae.mp hx).1;rw[aq,bZ] at bL;cbv;exists ik O X.draw;cbv;exists eF O X.jm;cbv;apply dm (l:=z.map .str) rfl (by simp;show af b6 (aB 5 999995));rw[aq];cbv;exact(((jz O X.draw (i:=i) (n:=n) (c:=c) (b:=aa z) (sH b' _) (a8 co) (af b6 (aB 5 995)) (XK (Ww hc a7 o B D I a0 a4) bw cp bL N a5.2)).deep ⋯).mono (λ_ _=>?_)).call;apply oD;intro g' U c7 be aM;rw[rV b'];show aO (l:=z.map .str) (k:=g') (u:=.str z[g']) rfl (by simp[be]) (yK (af (a_ be) (af b6 ⋯))) ⟨⟨_,rfl,cn _ (dw be)⟩,U,c7,aM,rfl⟩;rintro U c7 bd am bN aM;rw[aq,bZ] at am aM;exact E12 (by
  clear am;induction bd with
  |nil=>show cU [] rfl (by simp)
  |cons v r ih=>exact E12 (bN v (.head _)) λx cr cs=>E12 (ih λv hv=>bN v (.tail _ hv)) λxs h1 h2=>?_;show cU (x::xs) (by rw[cr,h1];rfl) (λy hy=>by rcases bb.mp hy with rfl|hy;show cs;show h2 y hy):∃xs:List Str,bd=xs.map .str/\∀x∈xs,x∈ab++sg.take (1+m)) ?_;intro xs b5 ct;subst b5
 rw[aq] at am;cbv;exact⟨by simp,j7 (nm,xs),H.set i (fM U c7)++[YF.list (b.map j7)],?_,?_,?_⟩;exact .Zo (.cons (.str _) (.cons (.list (ax _) ?_ (dQ.pure (iG _))) .nil));have:(H1.set i (fM U c7)).length=aa H1:=by simp
 rw[←this];show dc;rw[bI,al];have:=jO.pen (T:=[YF.list (b.map j7)]) (Y:=[.list (xs.map .str)]) (a:=U) (b:=c7) (H:=H.set i (fM n6 c6)) (i:=i) (n:=n6) (c:=c6) (by simp[G]);rw[oB] at this;show this;cbv;apply c9 (bA U c7) (by simp;show af ci (aB 10 999990));cbv;have cv:(H.set i (fM U c7)).length=aa H:=by simp
 exact qS _ ?_ (Mr (b++[(nm,xs)]) U c7 ?_ ?_ ?_ ?_ ?_ ?_ rfl);walk_at "q sub";rw[←cv,yg];simp;have:sz<4:=aj N a5.2;show af aM (af (bW (af bw (bp a4 1)) (bG this)) (aX (by rw[bu,bu,Nat.succ_mul])));have e:b7 (b++[(nm,xs)])=rU (b7 b) nm:=by unfold b7;rw[eJ];rfl
 rw[e,a',if_neg (Ju _:¬j+1=0)];by_cases d:j=0;rw[if_pos d];unfold rU;rw[if_neg ce,YG b3];rw[if_neg d];unfold rU;rw[if_pos (by rw[YG b3];simp)];intro p hp;rcases aE.mp hp with h|h
 show as p h;rw[au.mp h];show ct;simp;show TC ac;rw[bo,n9];simp only[ck,mA,fO,r8];by_cases d:j=0;subst d;simp at J N⊢;show(am▸bW J (bG N));rw[if_neg d] at J N;rw[if_neg RZ];show Vc J am N d;intro l1 _;apply p4;intro b n5 c5 a4 a' as ac J;rw[if_neg (NeZero.ne (1+_))] at a' J;cbv;exact qS _ ?_ (Ov b n5 c5 rfl ?_ a7 a' as ?_ ?_ rfl);walk_at "q sub";rw[Hj];show XM B a4 I a0;rw[Hj];show af ac (af (bW a1 (af (aX (cM 1 _)) I)) (aA (aX (Hc _).symm) _));rw[Hj];show af J (bW a3 (af (aA (gy 3 (af (aX (gX _ _)) (cF I))) _) (aX (Hc _).symm)));intro l0 _;apply vO;intro a A w B hk a2 a6 a1 a3;have ap:(sg.take (1+m)).length=1+m:=by rw[bP];change min (1+m) 3=1+m;show(b0 (Wl _▸o))
 rw[ap] at a2 B a1 a3;cbv;exact⟨_,rfl,kR a,H.set i (fM A w),.list (ax _) ?_ (dQ.pure (oP a)),?_,a,m,A,w,rfl,⟨o,a2,a6,by show af a1 b2,by show af a3 bm⟩,by show(af B (af (aA (gW 15 (aA (bG o) 1)) (_+2)) (af (aX (bu _ 2 45)) (aA (by decide:2+45<=100) _)))),rfl⟩;have:(H.set i (fM A w)).length=aa H:=by simp
 rw[←this];show dc;have:=jO.pen (T:=[]) (Y:=[.list (a.map j7)]) (a:=A) (b:=w) hi;simpa using this
end
structure Gx:Type 1 where
 α:Type
 i:DecidableEq α
 f:α->V
noncomputable def WR(a:Gx->Prop):Gx:=@Ed Gx ⟨⟨Nat,inferInstance,V.Zn⟩⟩ λp=>¬a p
theorem Ye{a:Gx->Prop}(h:a (WR a))(x:Gx):a x:=yq λb=>Ag (p:=λp=>¬a p) ⟨x,b⟩ h
section
theorem yj(O:fy C mg mb)(K:Cs C mg)(w:Fx C mg mb):∀(B:Gx) {H:Hp} (N:@Y9 C B.α B.i B.f) (Q:∀a,(B.f a).pure=true) {i n c:Nat} (A:H[i]?=Zs (fM n c)) (U:c<=1000) {v:V} {l:List B.α} (e:aa l<=100)
  (hv:gh C 2 (.type "list") H [v] λu D=>u= .ref (aa H)/\D=H++[.list (l.map B.f)]),
  dq C 3 (.ref (549:Addr)) H [.ref i,v] λu D=>∃(l':List B.α) (n' E:Nat),u= .Zo .list (l'.map B.f)/\l'.Perm l/\E<=c+100/\D=H.set i (fM n' E):=by
 exact Ye ?_
 generalize WR _=B
 intro H N Q i n c A U v l e hv
 walk_at "@H i n c v l|O K w N Q A U e hv"
 exact A7 (gT O w.uP.f ["pen","some"] (λal am L=>?_) (jx λo o o o o o o o o=>rfl))
 exact(?_:gM C 2 _ [("pen",.ref i),("some",v)] H _ _)
 have a2:=(ae.mp A).1
 walk_at "c"
 exists uA (names:=["rest","found"])
 exists eF O w.uR
 cbv
 exact hv.mono λ_ _=>?_;apply ja
 cbv
 exact qI ?_
 cbv
 exact⟨by simp,_,rfl,rfl,?_⟩
 walk_at "c"
 have e0:(H++[YF.list (l.map B.f)]).length=aa H+1:=Em
 rw[e0,av]
 let Iv:Nat->YK->Hp->Prop:=λr l0 D=>∃(T:Hp) (b d:List B.α) (j n' E:Nat),D=H.set i (fM n' E)++T/\T[1]?=Zs (.list (d.map B.f))/\T[j]?=Zs (.list (b.map B.f))/\j≠1/\(d++b).Perm l/\r=aa b/\E<=c+aa d/\l0=[("pen",.ref i),("found",.ref (aa H+1)),("rest",.ref (aa H+j))]
 exact JA Iv ?_ (aa l) [("pen",.ref i),("found",.ref (aa H+1)),("rest",.ref (aa H+0))] ?_ ⟨[.list (l.map B.f),.list []],l,[],0,n,c,?_,rfl,rfl,by decide,by simp,rfl,ax _,rfl⟩
 rotate_left
 walk_at "q sub"
 rw[vq A];rfl
 intro r l0 _;apply BC;intro T b d j y z hF hR hj hp a0
 have a3:∀n c,(H.set i (fM n c)).length=aa H:=λn c=>b_
 have p:∀{n c:Nat} {T:Hp} {k:Nat} {x:YF},T[k]?=Zs x->(H.set i (fM n c)++T)[aa H+k]?=Zs x:=λ{n c T k x} h=>by rw[←a3 n c];show a9.trans h
 have f:=hp.length_eq
 rw[bC] at f
 cbv
 exact qI ?_
 have e1:YJ (H.set i (fM y z)++T++[YF.list []]) (.ref (aa H+j))=Zs (.list (b.map B.f)):=by exact(?_:(H.set i (fM y z)++T++[YF.list []])[aa H+j]?=_);rw[av];show p (dA hR)
 exact(letI:=B.i;jP N (l:=b) (b:=[]) e1 dc (lD ?_))
 have G:=dA (c:=YF.list []) hF
 have I:=dA (c:=YF.list []) hR
 rw[av]
 generalize T++[YF.list []]=q at G I⊢
 clear hF hR T e1
 by_cases a4:b=[]
 subst a4;exists eU (by rfl);exact⟨_,rfl,.Zo .list (d.map B.f),H.set i (fM y z),.list o7 (p G) (dQ.pure (V.dF Q _)),?_,d,y,z,rfl,by simpa using hp,?_,rfl⟩;have:=jO.pen (T:=[]) (Y:=q) (a:=y) (b:=z) A;simpa using this;rw[sO] at f;show(af a0 (aA (af (f▸aW _ _) e) _))
 apply fY (decide_eq_true ∅);have a5:0<aa b:=List.length_pos_iff.mpr a4;cbv;exists ik O w.draw;cbv;exists eF O w.jm;cbv;apply dm (p I) (by rw[aq];show(af (af (aB _ _) (f▸e)) ⋯));rw[aq];cbv;exact(((jz O w.draw (i:=i) (n:=y) (c:=z) (b:=aa b) (sH a2 _) a5 ((af (af (aB _ _) (f▸e)) ⋯)) ((af a0 (af (bW U (af (f▸aW _ _) e)) ⋯)))).deep ⋯).mono (λ_ _=>?_)).call;apply oD;intro g s t J a6;rw[rV a2];cbv;exists jd O;exists jl (cZ (p G)) rfl;have a7:((g:Nat):Int)<2^62:=(o1 J (af (af (aB _ _) (f▸e)) ⋯));exists aO (l:=b.map B.f) (k:=g) (u:=B.f b[g]) (p I) (by simp[J]) a7;apply c9 (p G) (by simp;show af (aV (aX f)) (af e ⋯));have e2:∀x,(H.set i (fM s t)++q).set (aa H+1) x=H.set i (fM s t)++q.set 1 x:=λx=>by rw[←a3 s t,dG]
 rw[e2];have a1:(q.set 1 (.list (d.map B.f++[B.f b[g]])))[1]?=Zs (.list ((d++[b[g]]).map B.f)):=by rw[eQ G];simp
 have M:(q.set 1 (.list (d.map B.f++[B.f b[g]])))[j]?=Zs (.list (b.map B.f)):=bB I (Ne.symm hj);have a':1<(q.set 1 (.list (d.map B.f++[B.f b[g]]))).length:=(ae.mp a1).1;have ac:j<(q.set 1 (.list (d.map B.f++[B.f b[g]]))).length:=(ae.mp M).1;generalize q.set 1 _=m at a1 M a' ac⊢;walk_at "c";exact sAs (wBin (AO ?_));cbv;exact C5 (b.map B.f) g (p M) rfl Jy (by simp;show Wo f e) (Kw ?_);cbv;exact jy (C5 (b.map B.f) (g+1:Nat) ?_ rfl Jy (by simp;show Wo f e) ?_);exact(?_:(H.set i (fM s t)++m++_)[aa H+j]?=_);rw[av];show p (dA M);exact jR (l:=(b.map B.f).take g) (m:=(b.map B.f).drop (g+1)) ?_ ?_ (by simp;show Ut f e) ?_;exact(?_:(H.set i (fM s t)++m++[_]++[_])[(H.set i (fM s t)++m).length]?=_);rw[av];show fB;show dc;have e3:YF.list ((b.map B.f).take g++(b.map B.f).drop (g+1))=YF.list ((b.take g++b.drop (g+1)).map B.f):=by simp
 rw[e3];cbv;exact GV ((b.take g++b.drop (g+1)).length) [("pen",.ref i),("found",.ref (aa H+1)),("rest",.ref (aa H+(aa m+2)))] (by rw[bC,bP,Ls];show UP J) ?_ (Rv (m++[YF.list (Lz ((g:Nat):Int).toNat (b.map B.f))]++[YF.list (List.drop ((g+1:Nat):Int).toNat (b.map B.f))]++[YF.list ((b.take g++b.drop (g+1)).map B.f)]) (b.take g++b.drop (g+1)) (d++[b[g]]) (aa m+2) s t ?_ ?_ ?_ RY ?_ rfl (by simp;show Wm a6 a0) rfl);have e4:(H.set i (fM s t)++m++[YF.list (Lz ((g:Nat):Int).toNat (b.map B.f))]++[YF.list (List.drop ((g+1:Nat):Int).toNat (b.map B.f))]).length=aa H+(aa m+2):=by simp
 rw[e4];walk_at "q sub";simp only[av];show dA (dA (dA a1));have e5:(m++[YF.list (Lz ((g:Nat):Int).toNat (b.map B.f))]++[YF.list (List.drop ((g+1:Nat):Int).toNat (b.map B.f))]).length=aa m+2:=by simp
 rw[←e5];show dc;exact YC ?_ hp;rw[av];apply qO d;have e6:b=b.take g++b[g]::b.drop (g+1):=by have:=(fe g b).symm;rw[gF J] at this;show this
 conv=>rhs;rw[e6]
 rw[Ft];show List.perm_middle.symm
theorem o8(O:fy C mg mb)(h:Cs C mg)(j:Fx C mg mb){b:Type}[DecidableEq b]{f:b->V}(k:Y9 C f)(m:∀a,(f a).pure=true){H:Hp}{i n c:Nat}(o:H[i]?=Zs (fM n c))(p:c<=1000){v:V}{l:List b}(q:aa l<=100)
  (r:gh C 2 (.type "list") H [v] λu d=>u= .ref (aa H)/\d=H++[.list (l.map f)]):
  dq C 3 (.ref (549:Addr)) H [.ref i,v] λu d=>∃(e:List b) (s g:Nat),u= .Zo .list (e.map f)/\e.Perm l/\g<=c+100/\d=H.set i (fM s g):=yj O h j ⟨b,_,f⟩ k m o p q r
end
theorem CL(i x t:Nat)(h:x.testBit i=false):(x+2^i).testBit t=(x.testBit t||decide (t=i)):=by
 induction i generalizing x t with
 |zero=>
  have a:x % 2=0:=by rw[nc] at h;show Nat.mod_two_ne_one.mp (of_decide_eq_false h)
  cases t with
  |zero=>rw[nc,nc];simp;show Vd a
  |succ t=>rw[nh,nh,show(x+2^0) / 2=x / 2 from Ve a];simp
 |succ i b=>
  rw[nh] at h;have e:2^(i+1)=2*2^i:=Ra _ 2;cases t with
  |zero=>rw[nc,nc,e];simp
  |succ t=>rw[nh,nh,e,show(x+2*2^i) / 2=x / 2+2^i from Nat.add_mul_div_left _ _ ⋯,b _ t h];simp
noncomputable def EV(a:List Nat)(m z:Nat):Prop:=∀t,z.testBit t=true↔∃i:Nat,a[i]?=Zs t/\m.testBit i=true
section
variable{H:Hp}
variable(O:fy C mg mb)(K:Cs C mg)(X:Fx C mg mb)
include O K X
theorem tD(s:d.Nodup)(A:aa d<=1000)(v:∀p∈d,p<=1000):dq C 1 (.ref (556:Addr)) H [.Zo .list (d.map .Zn),.Zn m] λu g=>(∃z:Nat,u= .Zn z/\EV d m z)/\g=H:=by
 walk_at "@H d m|O K X s A v";exact gT O X.mask.f ["places","mask"] (λB D L=>?_) (jx λe e e e e e e e e=>rfl);exact(?_:gM C 0 _ [("places",.Zo .list (d.map .Zn)),("mask",.Zn m)] H _ _);cbv;exact KN O V.Zn d (λk o g=>g=H/\∃z:Nat,(∀t,z.testBit t=true↔∃i:Nat,i<k/\d[i]?=Zs t/\m.testBit i=true)/\o=[("places",.Zo .list (d.map .Zn)),("mask",.Zn m),("found",.Zn z)]) (wK O X.qq.g X.qq.b rfl) ?_ ?_ ?_;cbv;exact⟨⟨_,?_,rfl,0,by simp,rfl⟩,λe T U Y=>rfl⟩;walk_at "q sub";intro k p o g f;ext _ rfl E;ext E⟨z⟩j rfl;walk_at "@B D L k p g z|f j";have G:=v p (ai f);have a0:=(ae.mp f).1;exact lI ?_;exact as_name ?_;exact as_name ?_;cbv;exact uG ?_;cbv;exists EJ (n:=2) ⋯;exact rh (lD ?_);have I:decide (((m>>>k % 2:Nat):Int)=1)=m.testBit k:=by rw[Hg,Nat.and_comm,J3];have w:m>>>k % 2<2:=Xa _ ⋯;generalize m>>>k % 2=y at w⊢;rw[nY];simp;show Vf w
 rw[I];have x:∀r:Nat,(∀t,r.testBit t=true↔(z.testBit t=true\/(t=p/\m.testBit k=true)))->∀t,r.testBit t=true↔∃i:Nat,i<k+1/\d[i]?=Zs t/\m.testBit i=true:=λr h t=>by
  rw[h,j];constructor;rintro(⟨i,a,b⟩|⟨rfl,b⟩);show cU i (jt _ a) b;show fP k Ws f b;ext _⟨i⟩a b c;rcases b9 i k with q|q
  show .inl ⟨i,q,b,c⟩;have:i=k:=fu q a;subst this;rw[f] at b;have J:=Option.some.inj b;clear b;subst J;show .inr ⟨rfl,c⟩
 by_cases l:m.testBit k=true;exists fY l;apply HT (b:=(p:Int)) Jy (Vg G) ⋯;rw[gw];have M:V.int ((2:Int)^p)= .Zn (2^p):=by rfl
 rw[M];exact oI ?_;have N:z.testBit p=false:=by rw[pY];intro h;apply E13 ((j p).mp h);intro i a b _;have:=(cj (ae.mp b).1 s).mp (b.trans f.symm);show(bf _ (this▸a))
 cbv;exact⟨_,?_,rfl,z+2^p,x _ λt=>?_,rfl⟩;walk_at "q sub";rw[CL p z t N,di,decide_eq_true_eq];simp[l];exists eU (by simpa using l);exact⟨_,?_,rfl,z,x _ λt=>?_,rfl⟩;walk_at "q sub";simp[l];intro o _;ext _ rfl Q;ext Q⟨z⟩j rfl;cbv;exact fP _ rfl ⟨z,rfl,λt=>?_⟩ rfl;rw[j];show⟨λ⟨i,_,b⟩=>⟨i,b⟩,λ⟨i,b,c⟩=>⟨i,(ae.mp b).1,b,c⟩⟩
end
structure qT(g h:Gr)(U Y:Nat->Nat):Prop where
 JC:mw g
 tm:∀s,s<g.tc->U s<h.tc
 nt:∀s,s<aa g.names->g.tc<=s->h.tc<=U s
 rl:∀r,r<aa g.Zr->Y r<aa h.Zr/\(h.rule (Y r)).Zl=U (g.rule r).Zl/\(h.rule (Y r)).Zq=(g.rule r).Zq.map U
 r0:Y 0=0
 ne:∀r,r<aa g.Zr->r≠0->Y r≠0
theorem CM{g:Gr}{r:Nat}(h:r<aa g.Zr):g.rule r∈g.Zr:=by unfold Gr.rule;rw[ag h];show dw h
theorem uW{g:Gr}{r:Nat}(h:r<aa g.Zr):g.Zr[r]?=Zs (g.rule r):=by unfold Gr.rule;rw[ag h];rfl
theorem I_{g:Gr}{r:Rl}(h:r∈g.Zr):∃i,i<aa g.Zr/\r=g.rule i:=by exact E11 (aC.mp h) λi a=>?_;have b:=(ae.mp a).1;rw[uW b] at a;show cU i b (by have c:=Option.some.inj a;clear a;subst c;rfl)
section
variable{g h:Gr}{U Y:Nat->Nat}(M:qT g h U Y)
include M
theorem qT.rule{r:Rl}(e:r∈g.Zr):∃d∈h.Zr,d.Zl=U r.Zl/\d.Zq=r.Zq.map U:=by exact E12 (I_ e) λi f j=>?_;subst j;show E03 (M.rl i f) λa b c=>fP _ (CM a) b c
theorem qT.nul(a:va g.Zr s):va h.Zr (U s):=by
 induction a with
 |@mk r b _ c=>exact E13 (M.rule b) λk d e f=>?_;rw[←e];exact .mk d λs a=>?_;rw[f] at a;exact E12 (ay.mp a) λx i j=>?_;subst j;show c x i
theorem qT.first(c:mn g.Zr g.tc s t):mn h.Zr h.tc (U s) (U t):=by
 induction c with
 |term h=>show .term (M.tm _ h)
 |@rule r i x t d e f _ j=>exact E13 (M.rule d) λo k l a=>?_;rw[←l];exact .rule (i:=i) (x:=U x) k (by rw[a,ak,e];rfl) (λy b=>?_) j;rw[a,←m9] at b;exact E12 (ay.mp b) λz m n=>?_;subst n;show M.nul (f z m)
theorem qT.I'(v:kI g.Zr g.tc s t):kI h.Zr h.tc (U s) (U t):=by
 induction v with
 |@first r i j a x t c d f hij hx l hf=>exact E13 (M.rule c) λm n u b=>?_;have o:=M.JC.Zq r c a (ai d);exact .first (r:=m) (i:=i) (j:=j) (x:=U x) n (by rw[b,ak,d];rfl) (M.nt a o f) hij (by rw[b,ak,hx];rfl) (λk y p w e=>?_) (M.first hf);rw[b,ak] at e;exact E12 (bg.mp e) λz q A=>?_;subst A;show M.nul (l k z p w q)
 |@Zl r i a t c d f l _ B=>exact E13 (M.rule c) λm n u b=>?_;have o:=M.JC.Zq r c a (ai d);exact .Zl (r:=m) (i:=i) n (by rw[b,ak,d];rfl) (M.nt a o f) (λk y p e=>?_) (by rw[u];show B);rw[b,ak] at e;exact E12 (bg.mp e) λz q D=>?_;subst D;show M.nul (l k z p q)
theorem qT.lefts{r d:Nat}(e:r∈g.lefts d):Y r∈h.lefts (U d):=by show E02 (iH.mp e) λf i=>E03 (M.rl r f) λa b c=>iH.mpr ⟨a,by rw[b,i]⟩
theorem qT.fst(c:Ct g a b):Ct h (U a) (U b):=by show E13 c λr d e f=>E13 (M.rule d) λi j k l=>fP i j (by rw[k,e]) (by rw[l,ak,f];rfl)
end
noncomputable def ug(g h:Gr)(Y:Nat->Nat)(i:Nat):Nat:=h.item (Y (g.owner i)) (g.dot i)
section
variable{g h:Gr}{U Y:Nat->Nat}(M:qT g h U Y)
include M
theorem qT.ug{i:Nat}(f:i<aa g.owners):ug g h Y i<aa h.owners/\h.owner (ug g h Y i)=Y (g.owner i)/\h.dot (ug g h Y i)=g.dot i/\h.after (ug g h Y i)=(g.after i).map U:=by walk_at "@g h U Y i|M f";exact E16 (Gr.ee f) λr p q l s m n=>E03 (M.rl _ m) λa b c=>?_;have e:=uW a;exact E03 (Gr.pO e (d:=g.dot i) (by unfold Rl.len at*;rw[c,aq,n];show l)) λo j k=>⟨o,j,k,?_⟩;unfold Gr.after;exact(?_:(h.rule (h.owner (h.item _ _))).Zq[h.dot (h.item _ _)]?=_);rw[j,k,c,ak]
theorem qT.CN(a:i<aa g.owners)(b:g.after i=Zs s):Internal.ug g h Y (i+1)=Internal.ug g h Y i+1:=by exact E03 (Y1 a b) λ_ c d=>?_;unfold Internal.ug;rw[c,d];unfold Gr.item;show Eq.symm (bu _ _ _)
theorem qT.yk{r d:Nat}(a:r<aa g.Zr)(b:d<=(g.rule r).Zq.length):Internal.ug g h Y (g.item r d)=h.item (Y r) d:=by exact E03 (Gr.pO (uW a) (d:=d) (by unfold Rl.len;show iW b)) λf c e=>?_;unfold Internal.ug;rw[c,e]
theorem qT.want{b d:List Nat}(j:∀i∈b,i<aa g.owners)(k:∀i∈b,Internal.ug g h Y i∈d){t:Nat}(l:wt g b t):wt h d (U t):=by
 ext l⟨i⟩m;ext m e n;ext n⟨a⟩f c;exact⟨_,k i e,U a,by rw[(M.ug (j i e)).2.2.2,f];rfl,?_⟩;rcases c with rfl|c
 show .inl rfl;right;clear f;induction c with
 |one h=>show .one (M.fst h)
 |step h _ o=>show .step (M.fst h) o
theorem qT.items(k:∀i∈jN,i<aa g.owners)(e:∀i∈jN,Internal.ug g h Y i∈l)(m:oN g jN n)(f:oN h l o)(d:i∈n):Internal.ug g h Y i∈o:=by
 rcases(m.2.2 i).mp d with d|⟨r,j,p,rfl⟩
 show(f.2.2 _).mpr (.inl (e i d));exact E03 (M.rl r j) λa b c=>(f.2.2 _).mpr (.inr ⟨Y r,a,by rw[b];show M.want k e p,M.yk j (bz _)⟩)
end
structure D_(g h:Gr)(M Y L U:Nat->Nat):Prop where
 a:qT g h M Y
 b:qT h g L U
 pl:∀s,s<aa g.names->L (M s)=s
 pr:∀s,s<aa h.names->M (L s)=s
 rl:∀r,r<aa g.Zr->U (Y r)=r
 rr:∀r,r<aa h.Zr->Y (U r)=r
theorem D_.symm(I:D_ g h M Y L U):D_ h g L U M Y:=⟨I.b,I.a,I.pr,I.pl,I.rr,I.rl⟩
theorem rW{g:Gr}{i:Nat}(a:i<aa g.owners):g.item (g.owner i) (g.dot i)=i:=by exact E16 (Gr.ee a) λr c b d e f h=>?_;unfold Gr.item Gr.dot at*;show gZ b
section
variable{g h:Gr}{M Y L U:Nat->Nat}(I:D_ g h M Y L U)
include I
theorem D_.EW{i:Nat}(a:i<aa g.owners):ug h g U (ug g h Y i)=i:=by exact E04 (I.a.ug a) λe b c f=>E16 (Gr.ee a) λr _ _ _ _ d _=>?_;exact(?_:g.item (U (h.owner (ug g h Y i))) (h.dot (ug g h Y i))=i);rw[b,c,I.rl _ d];show rW a
end
noncomputable def KM(g h:Gr)(Y U:Nat->Nat)(a b:List Nat):Prop:=(∀i∈a,ug g h Y i∈b)/\∀j∈b,ug h g U j∈a
noncomputable def SM(g h:Gr)(Y U:Nat->Nat)(T Q:List hV)(k a:Nat):Prop:=∃s s',T[k]?=Zs s/\Q[a]?=Zs s'/\KM g h Y U s.jN s'.jN
theorem SM.symm(e:SM g h Y U T Q k f):SM h g U Y Q T f k:=by show E24 e λs s' a b c d=>tP s' s b a d c
theorem D'{l a:List Nat}(h:l.Pairwise (· <·))(d:a.Pairwise (· <·))(b:∀x,x∈l↔x∈a):l=a:=by
 induction l generalizing a with
 |nil=>
  cases a with
  |nil=>rfl
  |cons y r=>have:=(b y).mpr (.head _);cases this
 |cons x r j=>
  cases a with
  |nil=>have:=(b x).mp (.head _);cases this
  |cons y m=>
   rw[lV] at h d;have k:x=y:=by
    have f:=(b x).mp (.head _);have g:=(b y).mpr (.head _);rcases bb.mp f with e|f
    show e;rcases bb.mp g with e|g
    show e.symm;have:=d.1 x f;have:=h.1 y g;show R6 this ‹_›
   subst k;congr 1;exact j h.2 d.2 λz=>⟨λc=>?_,λc=>?_⟩;rcases bb.mp ((b z).mp (.tail _ c)) with e|i
   subst e;show absurd (h.1 z c) (bf _);show i;rcases bb.mp ((b z).mpr (.tail _ c)) with e|i
   subst e;show absurd (d.1 z c) (bf _);show i
section
variable{g h:Gr}{M Y L U:Nat->Nat}{T Q:List hV}(I:D_ g h M Y L U)(N:gJ g T)(O:gJ h Q)
include I N O
theorem EX(d:0<aa g.Zr)(e:0<aa h.Zr):SM g h Y U T Q 0 0:=by exact E12 N.h0 λs f b=>E12 O.h0 λs' j c=>tP s s' f j ?_ ?_;rw[b,c];intro i a;rw[au.mp a,I.a.yk d (bz _),I.a.r0];show au.mpr rfl;rw[b,c];intro i a;rw[au.mp a,I.b.yk e (bz _),I.b.r0];show au.mpr rfl
theorem nW(m:SM g h Y U T Q k n)(e:T[k]?=Zs s)(l:Q[n]?=Zs s')(o:s.items=Zs p)(q:s'.items=Zs r)(u:i∈p):ug g h Y i∈r:=by exact E24 m λt B a b c d=>?_;rw[e] at a;have v:=Option.some.inj a;clear a;subst v;rw[l] at b;have w:=Option.some.inj b;clear b;subst w;exact E24 (gx N e) λD E f _ x _=>E24 (gx O l) λG H j _ y _=>?_;rw[o] at f;have z:=Option.some.inj f;clear f;subst z;rw[q] at j;have A:=Option.some.inj j;clear j;subst A;show I.a.items (N.st s (ai e)).2.1 c x y u
theorem CO(l:SM g h Y U T Q k B)(D:go T k f=Zs q):∃p,go Q B (M f)=Zs p/\SM g h Y U T Q q p:=by
 walk_at "@g h M Y L U T Q k B q|I N O f l D";exact E36 (rR N D) λs ac t r v h3 h4 a0 E=>E12 a0 λi w G=>E24 (id l) λs0 s' a b c d=>?_;rw[r] at a;have a1:=Option.some.inj a;clear a;subst a1;exact E24 (gx O b) λal am m f2 f3 f4=>?_;have u:=h3.2.1;have H:=f3.2.1;have a2:=nW I N O l r b v m w;have a3:h.after (ug g h Y i)=Zs (M f):=by rw[(I.a.ug (u i w)).2.2.2,G];rfl
 exact E23 (rS O b m a2 a3) λp t' J g2 g3=>E36 (rR O J) λs1 an t1 x y k3 z k5 k7=>?_;rw[b] at x;have a4:=Option.some.inj x;clear x;subst a4;rw[m] at y;have a5:=Option.some.inj y;clear y;subst a5;rw[g2] at z;have a6:=Option.some.inj z;clear z;subst a6;exact⟨p,J,t,t',h4,g2,?_,?_⟩;intro j A;exact E13 ((E j).mp A) λn e o a7=>?_;subst a7;rw[I.a.CN (u n e) o];show(k7 _).mpr ⟨_,nW I N O l r b v m e,by rw[(I.a.ug (u n e)).2.2.2,o];rfl,rfl⟩;intro j A;exact E13 ((k7 j).mp A) λn e o a'=>?_;subst a';rw[I.b.CN (H n e) o];have hX:f<aa g.names:=mO I.a.JC (u i w) G;exact(E _).mpr ⟨_,nW I.symm O N l.symm b r m v e,?_,rfl⟩;rw[(I.b.ug (H n e)).2.2.2,o];exact(?_:Zs (L (M f))=_);rw[I.pl f hX]
theorem vB{k l m:Nat}(u:SM g h Y U T Q k l)(v:SM g h Y U T Q k m):l=m:=by
 exact E24 u λs i a b c d=>E24 v λA o n p w x=>?_;rw[a] at n;have y:=Option.some.inj n;clear n;subst y;have q:=O.st i (ai b);have r:=O.st o (ai p);have e:i.jN=o.jN:=D' q.1 r.1 λj=>⟨λf=>by
   have:=w _ (d j f);rwa [I.symm.EW (q.2.1 j f)] at this,λf=>by
   have:=c _ (x j f);rwa [I.symm.EW (r.2.1 j f)] at this⟩
 have t:(Q.map (·.jN))[l]?=Zs i.jN:=by rw[ak,b];rfl
 have z:(Q.map (·.jN))[m]?=Zs i.jN:=by rw[ak,p,e];rfl
 show(cj (ae.mp t).1 O.nd).mp (t.trans z.symm)
theorem Bh(c:T[k]?=Zs s)(a:(X,q)∈s.Zm):go T k X=Zs q:=by
 have d:=hJ N s (ai c);unfold go;rw[c];exact(?_:s.Zm.lookup X=Zs q);have b:(s.Zm.map (·.1)).Nodup:=d.imp λh=>bj h;clear c d;generalize s.Zm=l at a b;induction l with
 |nil=>cases a
 |cons p r e=>
  rw[cq];rw[ck,cw] at b;rcases bb.mp a with rfl|a
  simp;have:(X==p.1)=false:=by rw[beq_eq_false_iff_ne];rintro rfl;show b.1 (bY (f:=(·.1)) a)
  rw[this];show e a b.2
theorem CP(a:0<aa g.Zr)(b:0<aa h.Zr):∀k,k<aa T->∃c,SM g h Y U T Q k c:=by
 intro k;induction k using Au with
 |ind k d=>
  intro e;rcases lY k with rfl|f
  show lC 0 (EX I N O a b);show E34 (N.N3 k f e) λp s r i j l m=>E11 (d p i j) λt n=>E12 (CO I N O n (Bh I N O l m)) λo _ q=>lC o q
end
noncomputable abbrev PN:=Nat×Nat
class inductive yl(e:PN->PN->Prop):PN->PN->Prop
 |one {x y:PN}:e x y->yl e x y
 |step {x y z:PN}:e x y->yl e y z->yl e x z
noncomputable def CQ(e:PN->PN->Prop)(x y:PN):Prop:=x=y\/yl e x y
theorem yl.map{e b:PN->PN->Prop}{f:PN->PN}(h:∀x y,e x y->b (f x) (f y)){x y:PN}(p:yl e x y):yl b (f x) (f y):=by
 induction p with
 |one a=>show .one (h _ _ a)
 |step a _ c=>show .step (h _ _ a) c
theorem CQ.map{e a:PN->PN->Prop}{f:PN->PN}(h:∀x y,e x y->a (f x) (f y)){x y:PN}(p:CQ e x y):CQ a (f x) (f y):=by
 rcases p with rfl|p
 show .inl rfl;show .inr (p.map h)
noncomputable def JE(g:Gr)(Y:List hV)(x:PN):Prop:=g.tc<=x.2/\∃q,go Y x.1 x.2=Zs q
noncomputable def Ld(g:Gr)(Y:List hV)(x:PN)(t:Nat):Prop:=t<g.tc/\∃q r,go Y x.1 x.2=Zs q/\go Y q t=Zs r
noncomputable def N5(g:Gr)(Y:List hV)(x z:PN):Prop:=go Y x.1 x.2=Zs z.1/\va g.Zr z.2/\JE g Y z
noncomputable def Gy(g:Gr)(Y:List hV)(i:Nat)(x z:PN):Prop:=JE g Y z/\JE g Y x/\∃r,r∈g.lefts z.2/\(g.rule r).Zq[i]?=Zs x.2/\(∀y∈(g.rule r).Zq.drop (i+1),va g.Zr y)/\k8 Y z.1 ((g.rule r).Zq.take i)=Zs x.1
noncomputable def NB(g:Gr)(Y:List hV)(x z:PN):Prop:=∃i,Gy g Y i x z
noncomputable def V4(g:Gr)(Y:List hV)(k r:Nat)(x:PN):Prop:=JE g Y x/\r∈g.lefts x.2/\k8 Y x.1 (g.rule r).Zq=Zs k
noncomputable def RM(g:Gr)(Y:List hV)(x:PN)(t:Nat):Prop:=∃z,CQ (N5 g Y) x z/\Ld g Y z t
noncomputable def FM(g:Gr)(Y:List hV)(x:PN)(t:Nat):Prop:=∃z,CQ (NB g Y) x z/\RM g Y z t
noncomputable def LA(g:Gr)(Y:List hV)(k r t:Nat):Prop:=∃x,V4 g Y k r x/\FM g Y x t
noncomputable def CR(g:Gr)(Y:List hV):Prop:=(∃x,JE g Y x/\yl (N5 g Y) x x)\/∃x,JE g Y x/\yl (Gy g Y 0) x x
structure vC(g h:Gr)(Y Q:List hV)(f T N:Nat->Nat):Prop where
 m:qT g h T N
 hA:gJ g Y
 Qk:∀k X q,go Y k X=Zs q->go Q (f k) (T X)=Zs (f q)
section
variable{g h:Gr}{Y Q:List hV}{f T N:Nat->Nat}(A:vC g h Y Q f T N)
include A
theorem vC.walk{l:List Nat}{p k:Nat}(h:k8 Y p l=Zs k):k8 Q (f p) (l.map T)=Zs (f k):=by
 induction l generalizing p with
 |nil=>rw[show p=k from Option.some.inj h];rfl
 |cons a l b=>exact E12 (Option.bind_eq_some_iff.mp (show(go Y p a).bind (λq=>k8 Y q l)=Zs k from h)) λq c d=>?_;exact(?_:(go Q (f p) (T a)).bind (λq=>k8 Q q (l.map T))=_);rw[A.Qk _ _ _ c];show b d
theorem vC.sym(a:go Y k X=Zs q):X<aa g.names:=by show E36 (rR A.hA a) λs l t m n b o c p=>E12 c λi d j=>mO A.m.JC (b.2.1 i d) j
theorem vC.tr(b:JE g Y x):JE h Q (f x.1,T x.2):=by show E02 b λc d=>E11 d λq a=>⟨A.m.nt _ (A.sym a) c,f q,A.Qk _ _ _ a⟩
theorem vC.dir(a:Ld g Y x t):Ld h Q (f x.1,T x.2) (T t):=by show E02 a λb c=>E22 c λq r d i=>⟨A.m.tm _ b,f q,f r,A.Qk _ _ _ d,A.Qk _ _ _ i⟩
theorem vC.rd(a:N5 g Y x z):N5 h Q (f x.1,T x.2) (f z.1,T z.2):=⟨A.Qk _ _ _ a.1,A.m.nul a.2.1,A.tr a.2.2⟩
theorem vC.rule{r Y:Nat}(a:r∈g.lefts Y):(h.rule (N r)).Zq=(g.rule r).Zq.map T:=(A.m.rl r (iH.mp a).1).2.2
theorem vC.inc(a:Gy g Y i x z):Gy h Q i (f x.1,T x.2) (f z.1,T z.2):=by walk_at "@g h Y Q f T N i x z|A a";exact E02 a λd j=>E02 j λk l=>E14 l λr b m n o=>?_;have e:=A.rule b;exact⟨A.tr d,A.tr k,N r,A.m.lefts b,by rw[e,ak,m];rfl,λy c=>?_,?_⟩;rw[e,←List.map_drop] at c;exact E12 (ay.mp c) λw p q=>?_;subst q;show A.m.nul (n w p);rw[e,←m9];show A.walk o
theorem vC.lb(b:V4 g Y k r x):V4 h Q (f k) (N r) (f x.1,T x.2):=by show E03 b λc a d=>⟨A.tr c,A.m.lefts a,by rw[A.rule a];show A.walk d⟩
theorem vC.la(O:LA g Y k r t):LA h Q (f k) (N r) (T t):=by show E11 O λx b=>E02 b λc d=>E11 d λz j=>E02 j λl m=>E12 m λw n o=>⟨_,A.lb c,_,l.map (f:=λx=>(f x.1,T x.2)) λx y ⟨i,a⟩=>⟨i,A.inc a⟩,_,n.map (f:=λx=>(f x.1,T x.2)) λx y a=>A.rd a,A.dir o⟩
theorem vC.ring(d:CR g Y):CR h Q:=by
 rcases d with⟨x,b,c⟩|⟨x,b,c⟩
 show .inl ⟨_,A.tr b,c.map (f:=λx=>(f x.1,T x.2)) λx y a=>A.rd a⟩;show .inr ⟨_,A.tr b,c.map (f:=λx=>(f x.1,T x.2)) λx y a=>A.inc a⟩
end
section
variable{U:List PN}{M:Nat->List Nat}{e:PN->PN->Prop}(O:∀i x j,U[i]?=Zs x->(j∈M i↔∃z,U[j]?=Zs z/\e x z))
include O
theorem vD(p:YU (λa b=>b∈M a) i j):∀{x:PN},U[i]?=Zs x->∃z,U[j]?=Zs z/\yl e x z:=by
 induction p with
 |one a=>intro x c;apply E12 ((O _ _ _ c).mp a);intro z d k;show cU z d (.one k)
 |step a _ l=>intro x c;show E12 ((O _ _ _ c).mp a) λy d k=>E12 (l d) λz m n=>cU z m (.step k n)
theorem vE(o:U.Nodup)(l:∀x z,e x z->∃j:Nat,U[j]?=Zs z)(p:yl e x z):∀{i j:Nat},U[i]?=Zs x->U[j]?=Zs z->YU (λa b=>b∈M a) i j:=by
 induction p with
 |one a=>intro i j c d;show .one ((O _ _ _ c).mpr ⟨_,d,a⟩)
 |step a _ n=>intro i j c d;show E11 (l _ _ a) λm k=>.step ((O _ _ _ c).mpr ⟨_,k,a⟩) (n k d)
theorem EY(p:Rs M i j)(a:U[i]?=Zs x):∃z,U[j]?=Zs z/\CQ e x z:=by
 rcases p with rfl|p
 show cU x a (.inl rfl);show E12 (vD O p a) λz b c=>cU z b (.inr c)
theorem EZ(b:U.Nodup)(d:∀x z,e x z->∃j:Nat,U[j]?=Zs z)(p:CQ e x z)(a:U[i]?=Zs x)(c:U[j]?=Zs z):Rs M i j:=by
 rcases p with rfl|p
 show .inl ((cj (ae.mp a).1 b).mp (a.trans c.symm));show .inr (vE O b d p a c)
theorem CS(c:∀x z,e x z->∃j:Nat,U[j]?=Zs z){x z:PN}(p:CQ e x z){i:Nat}(b:U[i]?=Zs x):∃j:Nat,U[j]?=Zs z:=by
 rcases p with rfl|p
 show lC i b;clear b;induction p with
 |one a=>show c _ _ a
 |step a _ d=>show d
end
section
variable{g:Gr}{U:List hV}{H:List Bool}{O:List Nat}{T N Q G:List (List Nat)}{M J I:List Nat}
variable(Y:gJ g U)(L:Bc g U H O T N Q G M J I)
include Y L
omit L in
theorem tE{i:Nat}{x:PN}(h:(YH g U)[i]?=Zs x):JE g U x:=(pP (k:=x.1) (X:=x.2) Y).mp (ai h)
omit L in
theorem Aa{x:PN}(h:JE g U x):∃i:Nat,(YH g U)[i]?=Zs x:=aC.mp ((pP (k:=x.1) (X:=x.2) Y).mpr h)
omit L in
theorem uX:(YH g U).Nodup:=j5 (hJ Y)
theorem nX(i:Nat)(x:PN)(j:Nat)(f:(YH g U)[i]?=Zs x):j∈dR T i↔∃z,(YH g U)[j]?=Zs z/\N5 g U x z:=by obtain⟨k,e⟩:=x;revert j k e;walk_at "@g U H O T N Q G M J I i|Y L";intro j k e f;walk_at "@j k e|f";exact E02 (tE Y f) λu m=>E11 m λq h=>?_;have n:=(ae.mp f).1;rw[L.LZ.rd i k e q n f h j];constructor;intro o;show E13 o λl a b c=>p0 (q,l) c h b (tE Y c);intro p;exact E14 p λr a b c d=>?_;obtain⟨s,l⟩:=r;have b:go U k e=Zs s:=b;have h:go U k e=Zs q:=h;rw[h] at b;have t:=Option.some.inj b;clear b;subst t;show fP l d.1 c a
theorem ym(i:Nat)(x:PN)(j:Nat)(b:(YH g U)[i]?=Zs x):j∈dR N i↔∃z,(YH g U)[j]?=Zs z/\NB g U x z:=by walk_at "@g U H O T N Q G M J I i|Y L x j b";rw[L.Q8.IV];constructor;ext _⟨r⟩l;exact E11 l λm n=>E02 n λ_ t=>E47 t λp d A q c e f s h k o=>?_;rw[b] at o;have u:=Option.some.inj o;clear o;subst u;show⟨(p,d),c,m,tE Y c,tE Y b,r,e,f,h,k⟩;walk_at "@x j|b";ext _⟨zq3⟩v;obtain⟨p,d⟩:=zq3;ext v c w;ext w⟨m⟩y;ext y a l;ext l s n;ext n⟨r⟩e f h k;walk_at "@p d m r|c a e f h k";show⟨r,m,trivial,p,d,x.2,x.1,c,e,f,s.1,h,k,b⟩
theorem Ab(i:Nat)(x:PN)(j:Nat)(a:(YH g U)[i]?=Zs x):j∈dR Q i↔∃z,(YH g U)[j]?=Zs z/\Gy g U 0 x z:=by revert x j;walk_at "@g U H O T N Q G M J I i|Y L";intro x j a;walk_at "@x j|a";rw[L.Q8.z8];constructor;intro c;exact E11 c λr n=>E02 n λ_ o=>E47 o λp d A q b e f m h k l=>?_;rw[a] at l;have s:=Option.some.inj l;clear l;subst s;show⟨(p,d),b,tE Y b,tE Y a,r,e,f,h,k⟩;intro t;exact E11 t λu v=>?_;obtain⟨p,d⟩:=u;show E02 v λb w=>E02 w λ_ y=>E02 y λm c=>E14 c λr e f h k=>⟨r,trivial,p,d,x.2,x.1,b,e,f,m.1,h,k,a⟩
omit L in
theorem Ea(x z:PN)(h:N5 g U x z):∃j:Nat,(YH g U)[j]?=Zs z:=Aa Y h.2.2
omit L in
theorem E0(x z:PN)(h:NB g U x z):∃j:Nat,(YH g U)[j]?=Zs z:=Exists.elim h λb a=>Aa Y a.1
omit L in
theorem Ja(x z:PN)(h:Gy g U 0 x z):∃j:Nat,(YH g U)[j]?=Zs z:=Aa Y h.1
theorem E1(f:(YH g U)[i]?=Zs x)(t:Nat):(cN M i).testBit t=true↔RM g U x t:=by
 have n:=(ae.mp f).1;rw[L.Yb.2 i n t];have l:∀{j:Nat} {z:PN},(YH g U)[j]?=Zs z->((cN O j).testBit t=true↔Ld g U z t):=λ{j z} e=>by exact E02 (tE Y e) λm o=>E11 o λq d=>?_;have p:=(ae.mp e).1;obtain⟨k,h⟩:=z;rw[L.LZ.dir j k h q p e d t];constructor;intro s;show E02 s λa u=>E11 u λr b=>⟨a,q,r,d,b⟩;intro v;exact E02 v λa w=>E22 w λy r b c=>?_;have b:go U k h=Zs y:=b;have d:go U k h=Zs q:=d;rw[d] at b;have A:=Option.some.inj b;clear b;subst A;show⟨a,r,c⟩
 constructor;intro B;show E12 B λj a b=>E12 (EY (nX Y L) a f) λz m d=>cU z d ((l m).mp b);intro D;show E12 D λz a b=>E11 (CS (nX Y L) (Ea Y) a f) λj e=>cU j (EZ (nX Y L) (uX Y) (Ea Y) a f e) ((l e).mpr b)
theorem E2(c:(YH g U)[i]?=Zs x)(t:Nat):(cN J i).testBit t=true↔FM g U x t:=by have e:=(ae.mp c).1;rw[L.Yc.2 i e t];constructor;intro f;show E12 f λj a b=>E12 (EY (ym Y L) a c) λz h k=>cU z k ((E1 Y L h t).mp b);intro l;show E12 l λz a b=>E11 (CS (ym Y L) (E0 Y) a c) λj d=>cU j (EZ (ym Y L) (uX Y) (E0 Y) a c d) ((E1 Y L d t).mpr b)
theorem Bi(c:(d8 0 U)[i]?=Zs (k,r))(t:Nat):(cN I i).testBit t=true↔LA g U k r t:=by revert k r t;walk_at "@g U H O T N Q G M J I i|Y L";intro k r c t;walk_at "@k r t|c";have l:=(ae.mp c).1;rw[L.Q9.2 i l t];constructor;intro m;show E12 m λx a b=>E02 ((L.Q8.N4 i k r c x).mp a) λ_ n=>E23 n λp e d f h=>cU (p,e) ⟨tE Y d,f,h⟩ ((E2 Y L d t).mp b);intro o;exact E12 o λq s b=>?_;obtain⟨p,e⟩:=q;show E03 s λd f h=>E11 (Aa Y d) λx j=>cU x ((L.Q8.N4 i k r c x).mpr ⟨trivial,p,e,j,f,h⟩) ((E2 Y L j t).mpr b)
theorem Ac:(Zj T (YH g U).length\/Zj Q (YH g U).length)↔CR g U:=by walk_at "@g U H O T N Q G M J I|Y L";constructor;rintro(⟨x,c,d⟩|⟨x,c,d⟩);have e:=ag c;exact E12 (vD (nX Y L) d e) λz a b=>?_;rw[e] at a;have h:=Option.some.inj a;clear a;subst h;show .inl ⟨_,tE Y e,b⟩;have e:=ag c;exact E12 (vD (Ab Y L) d e) λz a b=>?_;rw[e] at a;have j:=Option.some.inj a;clear a;subst j;show .inr ⟨_,tE Y e,b⟩;rintro(⟨x,c,d⟩|⟨x,c,d⟩);show E11 (Aa Y c) λi f=>.inl ⟨i,(ae.mp f).1,vE (nX Y L) (uX Y) (Ea Y) d f f⟩;show E11 (Aa Y c) λi f=>.inr ⟨i,(ae.mp f).1,vE (Ab Y L) (uX Y) (Ja Y) d f f⟩
end
section
variable{d:Nat}{T:nu}{Q:YK}{H:Hp}
theorem Jb{j:Type}(f:j->V)
  (h:fL C d T Q H m λv H1=>∃(l:List j) (Inv:Nat->YK->Hp->Prop),v= .Zo .tup (l.map f)/\(∃b,Sub b Q/\Inv 0 b H1)/\(∀k a b c,l[k]?=Zs a->Inv k b c->tR C d T b c q (f a) λr s=>gM C d T r s t (oJ Inv k n))/\∀b c,Inv (aa l) b c->n .next b c)
  (u:autoParam (∀x,de m T x=pure x) aP):pd C d T Q H (.For q m t [] pos) n:=by
 exact qj (HM (h.mono λv H1 h=>E24 h (λl Inv w y z A=>E12 y (λb B D=>⟨_,w,trivial,aa l,Inv,⟨b,B,D⟩,λk b c E o=>⟨trivial,λi=>?_,λI i=>?_⟩⟩)))) u
 simp only[mC.next] at i;have:aa l<=k:=by simpa using i
 have e:k=aa l:=bt E this;subst e;show A _ _ o
 simp only[mC.next] at i;rw[ak] at i;exact E12 (bg.mp i) λa p G=>?_;subst G;show⟨(ae.mp p).1,z k a b c p o⟩
end
noncomputable def jg(Y:List Nat)(s:Nat):Nat:=Y[s]?.getD 0
theorem nq(h:s<aa Y):Y[s]?=Zs (jg Y s):=by unfold jg;rw[ag h];rfl
structure yA(g h:Gr)(Y U:List Nat):Prop where
 iso:D_ g h (jg Y) (jg U) Y.idxOf U.idxOf
 pp:Y.Perm (aJ (aa g.names))
 pr:U.Perm (aJ (aa g.Zr))
 hn:aa h.names=aa g.names
 hr:aa h.Zr=aa g.Zr
 tc:h.tc=g.tc
section
variable{g h:Gr}{Y U:List Nat}(R:yA g h Y U)
include R
theorem yA.len:aa Y=aa g.names:=by rw[R.pp.length_eq,bZ]
theorem yA.nodup:Y.Nodup:=R.pp.nodup_iff.mpr eD
theorem yA.lt(a:p∈Y):p<aa g.names:=cf.mp (R.pp.mem_iff.mp a)
theorem yA.mem(a:p<aa g.names):p∈Y:=R.pp.mem_iff.mpr (cf.mpr a)
theorem yA.NC:aa U=aa g.Zr:=by rw[R.pr.length_eq,bZ]
theorem yA.V5:U.Nodup:=R.pr.nodup_iff.mpr eD
theorem yA.lt'(a:p∈U):p<aa g.Zr:=cf.mp (R.pr.mem_iff.mp a)
theorem yA.Yf(a:p<aa g.Zr):p∈U:=R.pr.mem_iff.mpr (cf.mpr a)
theorem yA.idx(b:p<aa g.names):Y[Y.idxOf p]?=Zs p:=by have a:=bD.mpr (R.mem b);rw[ag a,dN a]
theorem yA.V6(a:s<aa g.names):jg Y s<aa g.names:=R.lt (ai (nq (by rw[R.len];show a)))
theorem yA.mask{c d:Nat->Nat->Prop}(l:∀s t,c s t->d (jg Y s) (jg Y t))(m:∀s t,d s t->c (Y.idxOf s) (Y.idxOf t)){f h:List Nat}
  (j:∀s t,(cN f s).testBit t=true↔c s t)(n:∀s t,(cN h s).testBit t=true↔d s t)(v:∀s t,c s t->t<aa g.names)(o:∀s t,d s t->t<aa g.names){s:Nat}(p:s<aa g.names){z:Nat}(q:EV Y (cN f s) z):z=cN h (jg Y s):=by
 apply Hk
 intro t
 rw[nY,q t,n]
 constructor
 intro r;exact E12 r λi a b=>?_;have:=l _ _ ((j _ _).mp b);have e:jg Y i=t:=by unfold jg;rw[a];rfl
 rwa [e] at this
 intro k;have u:=o _ _ k;exact cU (Y.idxOf t) (R.idx u) ((j _ _).mpr ?_);have:=m _ _ k;have e:=R.iso.pl s p;rwa [e] at this
end
section
variable{H:Hp}
variable(O:fy C mg mb)(K:Cs C mg)(X:Fx C mg mb)
include O K X
noncomputable def uf(Y:List Nat)(N:Nat)(p:List Nat×List Nat):Prop:=p.1.length=N/\p.2.length=N/\∀s z,s<N->EV Y (cN p.1 s) z->z=cN p.2 (jg Y s)
noncomputable abbrev Ql(p:List Nat×List Nat):V:=.Zo .tup [.Zo .list (p.1.map .Zn),.Zo .list (p.2.map .Zn)]
theorem wz(R:yA g h Y U)(B:z4 g)(B':z4 h):dq C 6 (.ref (561:Addr)) H [cO g,cO h,.Zo .list (Y.map .Zn)] λu H'=>u= .bool true/\H'=H:=by
 walk_at "@H g h Y U|O K X R B B'";exact ot (gT O X.sets.f ["one","other","places"] (λb6 b' L=>?_) (xK λc c c c c c c c c c=>rfl));walk_at "@b6 b' L";exact(?_:gM C 5 _ [("one",cO g),("other",cO h),("places",.Zo .list (Y.map .Zn))] H _ _);have a0:=R.len;have hN:=B.ok.n;walk_at "c";exact sAs ?_;cbv;exists ik O X.nullable;cbv;exact(((kC O K X B.ok).deep ⋯).mono (Ci λo as=>?_)).call;walk_at "@o|as";cbv;exists ik O X.nullable;cbv;exact(((kC O K X B'.ok).deep ⋯).mono (Ci λj aM=>?_)).call;walk_at "@j|aM";cbv;exact sV ?_;exact lI ?_;exact as_name (as_name ?_);have E:aa Y<=1000:=le_of_eq_of_le a0 hN;have bd:aa o=aa g.names:=as.1;have be:aa j=aa g.names:=by rw[aM.1,R.hn]
 have bh:∀p∈Y,p<aa j:=λp a=>by rw[be];show R.lt a
 apply E11 (⟨_,rfl⟩:∃i:List Bool,i=(aJ (aa Y)).map (nb o));intro i a4;walk_at "@i|a4";apply E11 (⟨_,rfl⟩:∃i:List Bool,i=Y.map (nb j));intro r a5;walk_at "@r|a5";have bi:i=r:=by
  rw[a4,a5];apply dJ;intro s;rw[ak,ak];rcases b9 s (aa Y) with q|q
  rw[dP q,nq q];exact(?_:Zs _=Zs _);congr 1;rw[nY,as.test,aM.test];exact⟨R.iso.a.nul,λhn=>?_⟩;have:=R.iso.b.nul hn;rwa [R.iso.pl s (cJ q a0)] at this;rw[cH (by simpa using q),cH q];rfl
 walk_at "c";exact sIf ?_;exact tCmp ?_;exact gv [(ah "empties",L+2)] [("empties",.Zo .list (o.map .bool))] (vk (eF O X.mu ?_)) ⟨⟨rfl,rfl,rfl,rfl⟩,trivial⟩ (M:=CW);cbv;exists eF O X.jm;cbv;apply dm (l:=Y.map .Zn) rfl (by rw[aq];show o0 E);rw[aq];cbv;exact gi ⟨aa Y,rfl,af E (aB 1000 16776216),mY trivial (f:=i.map V.bool) wN (by simp[a4]) (by rw[aq,bZ];show o0 E) (λk x y f b b2 Cl=>?_) ?_⟩;have v:=(ae.mp f).1;rw[aq,bZ] at v;have bn:x= .Zn k:=by rw[ak,dP v] at f;have bs:=Option.some.inj f;clear f;subst bs;rfl
 subst bn;rw[ak,a4,ak,dP v] at b;have a6:=Option.some.inj b;clear b;subst a6;cbv;exact aO (l:=o.map .bool) (k:=k) (u:=.bool o[k]) rfl (by simp) (o1 v E) ⟨?_,rfl⟩;unfold nb;rw[ag ((bd▸a0▸v))];rfl;exact gv [(ah "others",L+3)] [("others",.Zo .list (j.map .bool))] (iK (ev_name rfl ⟨⟨_,rfl⟩,mY trivial (f:=r.map V.bool) (ie fH) (by simp[a5]) (by rw[aq];show o0 E) (λk x y f b b2 Cl=>?_) ?_⟩)) ⟨⟨rfl,rfl,rfl,rfl⟩,trivial⟩ (M:=CW);rw[ak] at f;apply E12 (bg.mp f);intro p n a7;subst a7;rw[ak,a5,ak,n] at b;have b3:=Option.some.inj b;clear b;subst b3;have a:=bh p (ai n);cbv;exact aO (l:=j.map .bool) (k:=p) (u:=.bool j[p]) rfl (mX ∅) (by have:=R.lt (ai n);show o1 this hN) ⟨?_,rfl⟩;unfold nb;rw[ag a];rfl;exact jP HU (l:=i) (b:=r) (by rw[av];show fB) dc (lD ?_);rw[decide_eq_false (by rw[bi];simp)];apply eU rfl;exact ex_nil ?_;have e0:H++[YF.list (i.map V.bool)]++[YF.list (r.map V.bool)]=H++([YF.list (i.map V.bool),YF.list (r.map V.bool)]:Hp):=av _ _ _;rw[e0];generalize([YF.list (i.map V.bool),YF.list (r.map V.bool)]:Hp)=G0;clear e0;cbv;exists Jb Ql;exists ik O X.qp;cbv;exact(((mx O K X B.ok).deep ⋯).mono ?_).call;rintro _ HG;ext _ a' zq0;ext a'⟨w⟩rfl ac;subst zq0;cbv;exists ik O X.qp;cbv;exact(((mx O K X B'.ok).deep ⋯).mono ?_).call;rintro _ HG;ext _ bv zq3;ext bv⟨b4⟩rfl al;subst zq3;cbv;exact sV ?_;cbv;exists ik O X.rB;cbv;exact(((oM O K X B.ok B.hT).deep ⋯).mono ?_).call;rintro _ HG;ext _ a6 a7;ext a6⟨ws⟩rfl am;subst a7;cbv;exists ik O X.rB;cbv;exact(((oM O K X B'.ok B'.hT).deep ⋯).mono ?_).call;rintro _ HG;ext _ a' bm;ext a'⟨an⟩rfl J;cbv;exact sV ?_;cbv;exact⟨by simp,?_⟩;have aY:∀{w:List Nat} {N s t:Nat},(∀s m:Nat,w[s]?=Zs m->m<2^N)->(cN w s).testBit t=true->t<N:=λ{w N s t} hb I=>by
  unfold cN at I;cases e:w[s]? with
  |none=>rw[e] at I;simp at I
  |some m=>
   rw[e] at I;rcases b9 t N with q|q
   show q;have hm:=hb s m e;have:=Nat.testBit_lt_two_pow (aj hm (Hh ⋯ q));rw[show((Zs m).getD 0)=m from rfl] at I;rw[this] at I;cases I
 revert an;walk_at "@b6 b' L o j i r G0 w b4 ws HG|as aM bd be bh a4 a5 bi ac al am bm";intro an J;walk_at "@an|J";have A1:uf Y (aa g.names) (w,b4):=⟨ac.1,by rw[←R.hn];show al.1,λs z hs M=>R.mask (c:=mn g.Zr g.tc) (d:=mn h.Zr h.tc) (λc _b=>R.iso.a.first) (λc _b=>R.iso.b.first) ac.2.1 al.2.1
  (λs t a=>aY ac.2.2 ((ac.2.1 s t).mpr a)) (λs t a=>by rw[←R.hn];show aY al.2.2 ((al.2.1 s t).mpr a)) hs M⟩
 have A2:uf Y (aa g.names) (ws,an):=⟨am.1,by rw[←R.hn];show J.1,λs z hs M=>R.mask (c:=kI g.Zr g.tc) (d:=kI h.Zr h.tc) (λc _b=>R.iso.a.I') (λc _b=>R.iso.b.I') am.2.1 J.2.1
  (λs t a=>aY am.2.2 ((am.2.1 s t).mpr a)) (λs t a=>by rw[←R.hn];show aY J.2.2 ((J.2.1 s t).mpr a)) hs M⟩
 subst bm;exact tP [(w,b4),(ws,an)] (λk l0 H'=>∃G,H'=H++G/\l0=[("one",cO g),("other",cO h),("places",.Zo .list (Y.map .Zn)),("empties",.Zo .list (o.map .bool)),("others",.Zo .list (j.map .bool))]) rfl ⟨_,?_,G0,rfl,rfl⟩ ?_ ?_;walk_at "q sub";intro k bw;obtain⟨ms,ap⟩:=bw;intro l0 _ a;apply Ei;intro G;have A:uf Y (aa g.names) (ms,ap):=by have:=ai a;simp only[bb,bq,or_false] at this;rcases this with e|e<;>rw[e]<;>assumption
 exact E03 A λa1 a2 a3=>?_;try dsimp only at a1 a2 a3
 exact lI (as_name ?_);exact as_name (E11 (⟨_,rfl⟩:∃D:List Nat,D=Y.map (cN ap)) (λD b1=>?_));walk_at "c";exact sIf (tCmp (gv [(ah "places",L+1)] [("places",.Zo .list (Y.map .Zn))] (iK (ev_name rfl ⟨⟨_,rfl⟩,mY trivial (f:=D.map V.Zn) (ie fH) (by simp[b1];show(a1▸a0)) (by simp;show MC a1 hN) (λk x y f b b2 Cl=>?_) ?_⟩)) ⟨⟨rfl,rfl,rfl,rfl⟩,trivial⟩ (M:=CW)));rw[ak] at f;exact E12 (bg.mp f) λm n a6=>?_;subst a6;have v:k<aa ms:=(ae.mp n).1;rw[ak,b1,ak,nq ((a0▸a1▸v))] at b;have a7:=Option.some.inj b;clear b;subst a7;exists ik O X.mask;cbv;exact(((tD O K X R.nodup E (λp a=>by have:=R.lt a;show a_ (aj this hN)) (m:=m)).deep ⋯).mono (Ci λz M=>⟨?_,rfl⟩)).call;have hm:cN ms k=m:=by unfold cN;rw[n];rfl
 rw[←hm] at M;rw[a3 k z (cJ v a1) M];exact gv [(ah "yours",L+4)] [("yours",.Zo .list (ap.map .Zn))] (iK (ev_name rfl ⟨⟨_,rfl⟩,mY trivial (f:=D.map V.Zn) (ie fH) (by simp[b1]) (by rw[aq];show o0 E) (λk x y f b b2 Cl=>?_) ?_⟩)) ⟨⟨rfl,rfl,rfl,rfl⟩,trivial⟩ (M:=CW);rw[ak] at f;exact E12 (bg.mp f) λp n b3=>?_;subst b3;rw[ak,b1,ak,n] at b;have a':=Option.some.inj b;clear b;subst a';have b5:=R.lt (ai n);cbv;exact aO (l:=ap.map .Zn) (k:=p) (u:=.Zn (ap[p]'(o2 b5 a2))) rfl (by rw[ak,ag (o2 b5 a2)];rfl) (o1 b5 hN) ⟨?_,rfl⟩;rw[ke];exact jP nj (l:=D) (b:=D) (by rw[av];show fB) dc (lD ?_);rw[decide_eq_false (by simp)];exact eU rfl (ex_nil ?_);cbv;exact qS _ ?_ (cU (G++[.list (D.map .Zn)]++[.list (D.map .Zn)]) (by simp) rfl);walk_at "q sub";intro l0 _;apply Ei;intro G;cbv;show⟨_,rfl,G,_,rfl,.bool _,rfl⟩
end
theorem iI{c d:Type}{f:c->d}{l:List c}(g:l.Nodup)(h:∀a∈l,∀b∈l,f a=f b->a=b):(l.map f).Nodup:=cK.mpr (d_ (λ{a b} i j k e=>k (h a i b j e)) g)
theorem iM{d:Type}[DecidableEq d]{l c:List d}(h:l.Nodup)(e:c.Nodup)(f:∀a,a∈l↔a∈c):l.Perm c:=by rw[List.perm_iff_count];intro a;by_cases b:a∈l;rw[h.count,e.count,if_pos b,if_pos ((f a).mp b)];rw[h.count,e.count,if_neg b,if_neg (λh=>b ((f a).mpr h))]
noncomputable def Le(p:Nat×Nat):Nat:=p.1*1000000+p.2
theorem Zb{l c:List (Nat×Nat)}(h:l.Perm c)(d:l.Pairwise (λp q=>Le p<Le q))(e:c.Pairwise (λp q=>Le p<Le q)):l=c:=by
 induction l generalizing c with
 |nil=>show h.symm.eq_nil.symm
 |cons a l f=>
  cases c with
  |nil=>show h.eq_nil
  |cons b c=>have d:=lV.mp d;have e:=lV.mp e;have g:a=b:=(bb.mp (h.mem_iff.mp (.head _))).elim id λi=>(bb.mp (h.mem_iff.mpr (.head _))).elim Eq.symm λj=>(Rk (d.1 b j) (e.1 a i)).elim;rw[g] at h⊢;show congrArg _ (f h.cons_inv d.2 e.2)
section
variable{g h:Gr}{M Y:List Nat}{U Q:List hV}(R:yA g h M Y)(T:gJ g U)(O:gJ h Q)
include R T O
noncomputable abbrev L0(g h:Gr)(Y:List Nat)(U Q:List hV):Nat->Nat->Prop:=SM g h (jg Y) Y.idxOf U Q
theorem Jc{k x:Nat}(y:L0 g h Y U Q k x){s s':hV}(o:U[k]?=Zs s)(q:Q[x]?=Zs s'){l m:List Nat}(r:s.items=Zs l)(t:s'.items=Zs m):
  (l.map λi=>(jg Y (g.owner i),g.dot i)).Nodup/\(m.map λj=>(h.owner j,h.dot j)).Nodup/\(l.map λi=>(jg Y (g.owner i),g.dot i)).Perm (m.map λj=>(h.owner j,h.dot j)):=by
 walk_at "@g h M Y U Q k x s s' l m|R T O y o q r t"
 have I:=R.iso
 exact E24 (gx T o) λa2 a3 c _ d _=>E24 (gx O q) λa4 a5 z _ D _=>?_
 rw[r] at c;have H:=Option.some.inj c;clear c;subst H
 rw[t] at z;have J:=Option.some.inj z;clear z;subst J
 have n:=d.2.1
 have u:=D.2.1
 have E:(m.map λj=>(h.owner j,h.dot j)).Nodup:=iI D.1 λa v b w e=>by
  injection e with c d
  rw[←rW (u a v),←rW (u b w),c,d]
 have G:(l.map λi=>(jg Y (g.owner i),g.dot i)).Nodup:=iI d.1 λa v b w e=>by
  injection e with c d
  exact E16 (Gr.ee (n a v)) λ_ _ _ _ _ L _=>E16 (Gr.ee (n b w)) λ_ _ _ _ _ M _=>?_;have:g.owner a=g.owner b:=by rw[←I.rl _ L,←I.rl _ M,c]
  rw[←rW (n a v),←rW (n b w),this,d]
 exact⟨G,E,iM G E λp=>⟨λN=>?_,λN=>?_⟩⟩
 exact E12 (ay.mp N) λi f a0=>?_;subst a0;show E04 (I.a.ug (n i f)) λx1 A B x4=>ay.mpr ⟨_,nW I T O y o q r t f,by rw[A,B]⟩
 exact E12 (ay.mp N) λj f a1=>?_;subst a1;show E04 (I.b.ug (u j f)) λx1 A B x4=>E16 (Gr.ee (u j f)) λ_ _ _ _ _ oj _=>ay.mpr ⟨_,nW I.symm O T y.symm q o t r f,by rw[A,B,I.rr _ oj]⟩
theorem w3{k u:Nat}(v:L0 g h Y U Q k u){s s':hV}(n:U[k]?=Zs s)(o:Q[u]?=Zs s'){d m:List Nat}(f:s.reds=Zs d)(E:s'.reds=Zs m):
  (d.map (jg Y)).Nodup/\lL (d.map (jg Y))=m/\(∀r∈d,r<aa g.Zr)/\∀r,jg Y r∈m->r<aa g.Zr->r∈d:=by
 walk_at "@g h M Y U Q k u s s' d m|R T O v n o f E"
 have I:=R.iso
 exact E24 (gx T n) λa7 a' G w e2 p=>E24 (gx O o) λac al H y f2 z=>?_
 rw[f] at w;have a0:=Option.some.inj w;clear w;subst a0
 rw[E] at y;have a1:=Option.some.inj y;clear y;subst a1
 have J:=e2.2.1
 have L:=f2.2.1
 have q:∀r∈d,r<aa g.Zr:=λr f=>by show E02 ((p.2 r).mp f) λ_ a2=>E13 a2 λi c _ l=>E16 (Gr.ee (J i c)) λ_ _ _ _ _ oi _=>Pk oi l
 have fw:∀r∈d,jg Y r∈m:=λr f=>by exact E02 ((p.2 r).mp f) λA a3=>E13 a3 λi c l t=>E04 (I.a.ug (J i c)) λx1 B x3 D=>(z.2 _).mpr ⟨I.a.ne r (q r f) A,_,nW I T O v n o G H c,by rw[D,l];rfl,by rw[B,t]⟩
 have M:∀r∈m,Y.idxOf r∈d/\jg Y (Y.idxOf r)=r:=λr f=>by exact E02 ((z.2 r).mp f) λA a4=>E13 a4 λj c l t=>E04 (I.b.ug (L j c)) λx1 B x3 D=>E16 (Gr.ee (L j c)) λ_ _ _ _ _ oj _=>?_;have N:r<aa h.Zr:=Pk oj t;show⟨(p.2 _).mpr ⟨I.b.ne r N A,_,nW I.symm O T v.symm o n H G c,by rw[D,l];rfl,by rw[B,t]⟩,I.rr r N⟩
 have hn:(d.map (jg Y)).Nodup:=iI (p.1.imp λh=>bj h) λa ha b hb e=>by rw[←I.rl a (q a ha),←I.rl b (q b hb),e]
 exact⟨hn,D' (sf hn) z.1 λx=>?_,q,λr c l=>?_⟩
 rw[kB,ay];constructor;intro a5;exact E12 a5 λr c a6=>?_;subst a6;show fw r c;intro hx;show lC _ (M x hx)
 have:=(M _ c).1;rwa [I.rl r l] at this
theorem Jd{k o:Nat}(p:L0 g h Y U Q k o){s s':hV}(j:U[k]?=Zs s)(l:Q[o]?=Zs s'):
  ((s.Zm.map (·.1)).map (jg M)).Nodup/\lL ((s.Zm.map (·.1)).map (jg M))=s'.Zm.map (·.1)/\∀c∈s.Zm.map (·.1),c<aa g.names:=by
 walk_at "@g h M Y U Q k o s s'|R T O p j l"
 have I:=R.iso
 have A:=hJ T s (ai j)
 have B:=hJ O s' (ai l)
 have w:∀c∈s.Zm.map (·.1),∃q,go U k c=Zs q:=λc r=>(rO T).mpr ⟨s,j,r⟩
 have u:∀c∈s.Zm.map (·.1),c<aa g.names:=λc r=>by show E11 (w c r) λq f=>E36 (rR T f) λ_ _ _ y m d n D h7=>E12 D λi E G=>mO I.a.JC (d.2.1 i E) G
 have z:((s.Zm.map (·.1)).map (jg M)).Nodup:=iI (A.imp λh=>bj h) λa H b J e=>by rw[←I.pl a (u a H),←I.pl b (u b J),e]
 exact⟨z,D' (sf z) B λx=>?_,u⟩
 rw[kB,ay]
 constructor
 intro L;exact E12 L λc y N=>?_;subst N;exact E11 (w c y) λq f=>E12 (CO I T O p f) λv m _=>E12 ((rO O).mp ⟨v,m⟩) λt d n=>?_;rw[l] at d;have a0:=Option.some.inj d;clear d;subst a0;show n
 intro hx;exact E11 ((rO O).mpr ⟨s',l,hx⟩) λq f=>E12 (CO I.symm O T p.symm f) λv m _=>E12 ((rO T).mp ⟨v,m⟩) λt d n=>?_;rw[j] at d;have a1:=Option.some.inj d;clear d;subst a1;show cU _ n (E36 (rR O f) (λ_ _ _ g1 g2 g3 g4 a2 g7=>E12 a2 (λi g5 g6=>I.pr x (mO I.b.JC (g3.2.1 i g5) g6))))
end
noncomputable def V7(a:Nat->Nat->Prop)(k:Nat):Nat:=open Classical in if h:∃b,a k b then choose h else 0
theorem CT{a:Nat->Nat->Prop}{k:Nat}(h:∃b,a k b):a k (V7 a k):=by unfold V7;rw[dif_pos h];show YD h
section
variable{g h:Gr}{M Y:List Nat}{U Q:List hV}(R:yA g h M Y)(T:gJ g U)(O:gJ h Q)(N:0<aa g.Zr)
include R T O N
noncomputable abbrev sF(g h:Gr)(Y:List Nat)(U Q:List hV):Nat->Nat:=V7 (L0 g h Y U Q)
theorem sI(a:k<aa U):L0 g h Y U Q k (sF g h Y U Q k):=CT (CP R.iso T O N (by rw[R.hr];show N) k a)
theorem Je(a:L0 g h Y U Q k b):sF g h Y U Q k=b:=vB R.iso T O (CT ⟨b,a⟩) a
theorem Qm(a:k<aa U):sF g h Y U Q k<aa Q:=by show E23 (sI R T O N a) λs s' _ b _=>(ae.mp b).1
theorem L7(a:go U k X=Zs q):go Q (sF g h Y U Q k) (jg M X)=Zs (sF g h Y U Q q):=by exact E12 (CO R.iso T O (sI R T O N (xY T a).1) a) λd b c=>?_;rw[Je R T O N c];show b
theorem ND(c:k<aa U)(d:a<aa U)(e:sF g h Y U Q k=sF g h Y U Q a):k=a:=by have f:=(sI R T O N c).symm;have b:=(sI R T O N d).symm;rw[←e] at b;show vB R.iso.symm O T f b
theorem Lf(c:a<aa Q):∃k,k<aa U/\sF g h Y U Q k=a:=by exact E11 (CP R.iso.symm O T (by rw[R.hr];show N) N a c) λk d=>?_;have b:=d.symm;show E22 (id b) λs _ e _=>cU k ((ae.mp e).1) (Je R T O N b)
end
noncomputable def gU(a:Nat->Nat)(b:List Nat):List (YI×V):=b.map λk:Nat=>(YI.int (k:Int),V.Zn (a k))
theorem iP{b:Nat->Nat}{k:Nat}{a:List Nat}:(gU b a).lookup (YI.int (k:Int))=if k∈a then Zs (V.Zn (b k)) else Zt:=by
 induction a with
 |nil=>rfl
 |cons x a c=>change nv _ ((YI.int (x:Int),V.Zn (b x))::gU b a)=_;rw[cq];by_cases e:k=x;rw[e,beq_self_eq_true,if_pos (.head _)];rw[show(YI.int (k:Int)==YI.int (x:Int))=false from beq_eq_false_iff_ne.mpr λh=>e (ew.mp (YI.int.inj h)),c];show ite_congr (propext ⟨.tail _,λh=>(bb.mp h).resolve_left e⟩) (λd=>rfl) (λd=>rfl)
theorem k_:((gU F ln).all λp=>p.1.kind==(YI.int 0).kind)=true:=by unfold gU;rw[gN,cT];intro _ _;rfl
noncomputable abbrev pe(l:List (Nat×Nat)):List (List Int):=l.map λp=>[(p.1:Int),(p.2:Int)]
theorem Jf:l.map fS=(pe l).map λl:List Int=>V.Zo .tup (l.map .int):=by rw[bE];rfl
section
variable{H:Hp}
variable(O:fy C mg mb)(K:Cs C mg)(X:Fx C mg mb)
include O K X
theorem wA(N:yA g h D o)(B:z4 g)(B':z4 h)(E:gJ g t)(hB:gJ h a0):
  dq C 4 (.ref (566:Addr)) H [AV g t,AV h a0,.Zo .list (D.map .Zn),.Zo .list (o.map .Zn)] λu H'=>(∃z:List Nat,z.Perm (aJ t.length)/\u= .Zo (.dict (z.map λk:Nat=>YI.int (k:Int))) (z.map λk=>V.Zn (sF g h o t a0 k)))/\H'=H:=by
 walk_at "@H g h D o t a0|O K X N B B' E hB"
 exact ot (gT O X.states.f ["one","other","places","rules"] (λcv cI L=>?_) (by show LR λ_a _a _a _a _a _a _a _a _a _a _a=>rfl))
 change gM C 3 _ [("one",AV g t),("other",AV h a0),("places",.Zo .list (D.map .Zn)),("rules",.Zo .list (o.map .Zn))] H _ _
 have hp:=B.pos
 have d1:=B'.pos
 have F1:=λ{k:Nat} (G:k<t.length)=>sI N E hB hp G
 have F2:=λ{k X q:Nat} (hg:go t k X=Zs q)=>L7 N E hB hp hg
 have F0:sF g h o t a0 0=0:=Je N E hB hp (EX N.iso E hB hp d1)
 generalize sF g h o t a0=A at*
 have an:=nk B E
 have d2:=nk B' hB
 walk_at "c"
 exists uA (names:=["found","line","at"])
 exists Ik O
 exact qI ?_
 cbv
 exact⟨by simp,_,rfl,rfl,?_⟩
 walk_at "c"
 have e0:(H++[YF.dict [(YI.int 0,V.int 0)]]).length=H.length+1:=Em
 have e1:H++[YF.dict [(YI.int 0,V.int 0)]]++[YF.list [V.int 0]]=H++([.dict (gU A [0]),.list ([0].map V.Zn)]:Hp):=by unfold gU;simp[F0]
 rw[e0,e1]
 exact JA (λn l0 H'=>∃(T:Hp) (z:List Nat) (i:Nat),H'=H++T/\T[0]?=Zs (.dict (gU A z))/\T[1]?=Zs (.list (z.map V.Zn))/\z.Nodup/\(∀k∈z,k<t.length)/\0∈z/\i<=z.length/\(∀k∈z.take i,∀X q,go t k X=Zs q->q∈z)/\n=t.length - i/\l0=[("one",AV g t),("other",AV h a0),("places",.Zo .list (D.map .Zn)),("rules",.Zo .list (o.map .Zn)),("at",.Zn i),("line",.ref (H.length+1)),("found",.ref H.length)]) ?_ (t.length - 0) [("one",AV g t),("other",AV h a0),("places",.Zo .list (D.map .Zn)),("rules",.Zo .list (o.map .Zn)),("at",.Zn 0),("line",.ref (H.length+1)),("found",.ref H.length)] ?_ ?_
 rotate_left
 ·walk_at "q sub"
 ·exact⟨_,[0],0,rfl,rfl,rfl,by show CW,E12 E.h0 (λs I _=>λk G=>?_),by show .head _,by show bz _,by show λ_a h=>nm h,rfl,rfl⟩;rw[au.mp G];show(ae.mp I).1
 intro n l0 _;apply yJ;intro T z i J Q b3 aY bm hi b4
 walk_at "@cv cI L A T z i|F1 F2 F0 e1 J Q b3 aY bm hi b4"
 have c6:z.length<=t.length:=cY b3 aY
 cbv
 exists eF O X.jm
 cbv
 apply dm (a9.trans Q) (by rw[aq];show QR c6 an)
 rw[aq]
 cbv
 exact qC (lD ?_)
 by_cases a7:i<z.length
 ·exact fY (decide_eq_true (dB.mpr a7)) (E11 (⟨_,ag a7⟩:∃k,z[i]?=Zs k) (λk G=>?_));walk_at "@k|G";have bn:=ai G;have ap:=aY k bn;exact E23 (id (F1 ap)) λs s' hs a3 c7=>?_;walk_at "@s s'|hs a3 c7";have c8:=(ae.mp a3).1;exact E24 (gx E hs) λa1 rd b5 b6 as bs=>?_;walk_at "@a1 rd|b5 b6 as bs";exact E24 (gx hB a3) λa4 a5 b' bd aM c'=>?_;walk_at "@a4 a5|b' bd aM c'";exact E03 (Jc N E hB (F1 ap) hs a3 b5 b') λp1 p2 p3=>E04 (w3 N E hB (F1 ap) hs a3 b6 bd) λq1 q2 q3 q4=>E03 (Jd N E hB (F1 ap) hs a3) λm1 m2 m3=>?_;have sA:∀H,YN H (gu (s,k))=Zs (cS,dz [("number",.Zn k),("kernel",ub s.jN),("symbol",.int s.sym),("items",.Zo .list (a1.map .Zn)),("moves",.Zo (.dict (s.Zm.map λp=>YI.int p.1)) (s.Zm.map λp=>.Zn p.2)),("reductions",.Zo .list (rd.map .Zn))]):=λH=>by have:=g9 (s,k) H;rw[this];unfold DU;dsimp only;rw[b5,b6];rfl
  have sB:∀H,YN H (gu (s',A k))=Zs (cS,dz [("number",.Zn (A k)),("kernel",ub s'.jN),("symbol",.int s'.sym),("items",.Zo .list (a4.map .Zn)),("moves",.Zo (.dict (s'.Zm.map λp=>YI.int p.1)) (s'.Zm.map λp=>.Zn p.2)),("reductions",.Zo .list (a5.map .Zn))]):=λH=>by have:=g9 (s',A k) H;rw[this];unfold DU;dsimp only;rw[b',bd];rfl
  have bv:a1.length<=101000:=af (nP as.1 as.2.1) B.ok.items;have bw:a4.length<=101000:=af (nP aM.1 aM.2.1) B'.ok.items;walk_at "c";exists uA (names:=["state","at"]);apply aO (l:=z.map V.Zn) (k:=i) (u:=.Zn k) (a9.trans Q) (by rw[ak,G];rfl) (yK (af (a_ a7) (af c6 (af an ⋯))));cbv;exact jy ?_;cbv;exact⟨by simp,_,rfl,rfl,?_⟩;walk_at "c";exists uA (names:=["mine","yours"]);exists cV O K.KA rfl rfl (eW _ _ _) rfl;apply aO (l:=t.zipIdx.map (gu)) (k:=k) (u:=gu (s,k)) rfl (by rw[ak,cb,hs];simp) (QO ap an);cbv;exists cV O K.KA rfl rfl (eW _ _ _) rfl;exact dH (k:=.int k) rfl (a9.trans J) (by rw[iP,if_pos bn]) k_ (aO (l:=a0.zipIdx.map (gu)) (k:=A k) (u:=gu (s',A k)) rfl (by rw[ak,cb,a3];simp) (QO c8 d2) ?_);cbv;exact⟨by simp,_,rfl,rfl,?_⟩;walk_at "c";exact sAs (eF O X.jF ?_);cbv;exact gv [(ah "rules",L+4),(ah "one",L+1)] [("rules",.Zo .list (o.map .Zn)),("one",AV g t)] (iK (y4 O K.KS (ev_name rfl (qo (sA _) rfl ⟨⟨_,rfl⟩,mY trivial (f:=(a1.map λi=>(jg o (g.owner i),g.dot i)).map fS) (ie fH) (by simp) (by rw[aq];show Kj bv) (λj x y v M bA Cl=>?_) ?_⟩)))) ⟨⟨rfl,rfl,rfl,rfl⟩,⟨rfl,rfl,rfl,rfl⟩,trivial⟩ (M:=by change[ah "rules",ah "one"].Nodup;decide)
  ·rw[ak] at v;exact E12 (bg.mp v) λa I b1=>?_;subst b1;rw[ak,ak,I] at M;have bI:=Option.some.inj M;clear M;subst bI;have U:=as.2.1 a (ai I);exact E16 (Gr.ee U) λ_ _ _ _ _ oa _=>?_;have d3:g.owner a<o.length:=by rw[N.NC];show oa
   have d4:=B.nr;cbv;exact iL O K.KG X.oX.m (cV O K.KA rfl rfl (eW _ _ _) rfl (oL (bU _ _) rfl ?_));cbv;exact(((lP O K X.oX B.ok U).deep ⋯).mono (pV (aO (l:=o.map .Zn) (k:=g.owner a) (u:=.Zn (jg o (g.owner a))) rfl (by rw[ak,nq d3];rfl) (Pl oa d4) ?_))).call;cbv;exact iL O K.KG X.zH.m (cV O K.KA rfl rfl (eW _ _ _) rfl (oL (bU _ _) rfl ?_));cbv;exact(((rD O K X.zH B.ok U).deep ⋯).mono (pV ?_)).call;cbv;show⟨by simp,rfl,rfl⟩
  cbv;have ca:∀(g:Gr) (B:z4 g) (i:Nat),i<g.owners.length->g.dot i<1000000:=λg B i hi=>by have:=B.ok.items;unfold Gr.dot;show aZ (dh _ _) (aj hi (af this ⋯))
  exact tu (l:=a1.map λi=>(jg o (g.owner i),g.dot i)) dc p1 (λp hp=>by exact E12 (ay.mp hp) λj hj d5=>?_;subst d5;show ca g B j (as.2.1 j hj)) (by rw[aq];show Kj bv) ?_;intro L1 bL bN;walk_at "@L1|bL bN";exact as_name ?_;have u0:=dA (c:=YF.list (L1.map fS)) (dA (c:=YF.list ((a1.map λi=>(jg o (g.owner i),g.dot i)).map fS)) J);have u1:=dA (c:=YF.list (L1.map fS)) (dA (c:=YF.list ((a1.map λi=>(jg o (g.owner i),g.dot i)).map fS)) Q);have u2:(T++[YF.list ((a1.map λi=>(jg o (g.owner i),g.dot i)).map fS)]++[YF.list (L1.map fS)])[T.length+1]?=Zs (.list (L1.map fS)):=by have e:(T++[YF.list ((a1.map λi=>(jg o (g.owner i),g.dot i)).map fS)]).length=T.length+1:=Em;rw[←e];show dc
  have hj:(H++T++[YF.list ((a1.map λi=>(jg o (g.owner i),g.dot i)).map fS)]).length=H.length+(T.length+1):=Hv;rw[hj];apply mF (a:=H++(T++[YF.list ((a1.map λi=>(jg o (g.owner i),g.dot i)).map fS)]++[YF.list (L1.map fS)])) Mx;generalize T++[YF.list ((a1.map λi=>(jg o (g.owner i),g.dot i)).map fS)]++[YF.list (L1.map fS)]=T1 at u0 u1 u2⊢;generalize T.length+1=j1 at u2 hj⊢;clear J Q hj;walk_at "c";exact sIf (tCmp ?_);cbv;exists eF O X.jF;exact gv [(ah "other",L+2)] [("other",AV h a0)] (iK (y4 O K.KS (ev_name rfl (qo (sB _) rfl ⟨⟨_,rfl⟩,mY trivial (f:=(a4.map λi=>(h.owner i,h.dot i)).map fS) (ie fH) (by simp) (by rw[aq];show Kj bw) (λj x y v M bA Cl=>?_) ?_⟩)))) ⟨⟨rfl,rfl,rfl,rfl⟩,trivial⟩ (M:=CW)
  ·rw[ak] at v;exact E12 (bg.mp v) λa I d6=>?_;subst d6;rw[ak,ak,I] at M;have d7:=Option.some.inj M;clear M;subst d7;have U:=aM.2.1 a (ai I);cbv;exact iL O K.KG X.oX.m (cV O K.KA rfl rfl (eW _ _ _) rfl (oL (bU _ _) rfl ?_));cbv;exact(((lP O K X.oX B'.ok U).deep ⋯).mono (pV ?_)).call;cbv;exact iL O K.KG X.zH.m (cV O K.KA rfl rfl (eW _ _ _) rfl (oL (bU _ _) rfl ?_));cbv;exact(((rD O K X.zH B'.ok U).deep ⋯).mono (pV ?_)).call;cbv;show⟨by simp,rfl,rfl⟩
  cbv;exact tu (l:=a4.map λi=>(h.owner i,h.dot i)) dc p2 (λp hp=>by exact E12 (ay.mp hp) λj hj bR=>?_;subst bR;show ca h B' j (aM.2.1 j hj)) (by rw[aq];show Kj bw) ?_;intro L2 cc cd;have d':L1=L2:=Zb ((bL.trans p3).trans cc.symm) bN cd;subst d';exact jP Kv (l:=pe L1) (b:=pe L1) ?_ ?_ (lD ?_)
  ·rw[←Jf,av,av,←av T1];show a9.trans (dA (dA u2))
  ·rw[←Jf];show dc
  rw[decide_eq_false (by simp)];exact eU rfl (ex_nil ?_);have v0:=dA (c:=YF.list (L1.map fS)) (dA (c:=YF.list ((a4.map λi=>(h.owner i,h.dot i)).map fS)) u0);have v1:=dA (c:=YF.list (L1.map fS)) (dA (c:=YF.list ((a4.map λi=>(h.owner i,h.dot i)).map fS)) u1);apply mF (a:=H++(T1++[YF.list ((a4.map λi=>(h.owner i,h.dot i)).map fS)]++[YF.list (L1.map fS)])) Mx;generalize T1++[YF.list ((a4.map λi=>(h.owner i,h.dot i)).map fS)]++[YF.list (L1.map fS)]=T2 at v0 v1⊢;clear u0 u1 u2 T1 bL bN cc cd;walk_at "c";exact sIf (tCmp (eF O X.jF ?_));cbv;have c0:rd.length<=1000:=by have:=cY (n:=g.Zr.length) (bs.1.imp λh=>bj h) q3;have:=B.nr;show af ‹_› (af this (aB 7 993))
  exact gv [(ah "rules",L+4)] [("rules",.Zo .list (o.map .Zn))] (iK (y4 O K.KS (ev_name rfl (qo (sA _) rfl ⟨⟨_,rfl⟩,mY trivial (f:=(rd.map (jg o)).map V.Zn) (ie fH) (by simp) (by rw[aq];show o0 c0) (λj x y v M bA Cl=>?_) ?_⟩)))) ⟨⟨rfl,rfl,rfl,rfl⟩,trivial⟩ (M:=CW)
  ·rw[ak] at v;exact E12 (bg.mp v) λa I da=>?_;subst da;rw[ak,ak,I] at M;have db:=Option.some.inj M;clear M;subst db;have U:=q3 a (ai I);have dk:=B.nr;cbv;show aO (l:=o.map .Zn) (k:=a) (u:=.Zn (jg o a)) rfl (by rw[ak,nq (by rw[N.NC];show U)];rfl) (Pl U dk) ⟨rfl,rfl⟩
  cbv;apply mj (l:=rd.map (jg o)) dc q1 (by rw[aq];show o0 c0);rw[q2];exact cV O K.KS rfl rfl (sB _) rfl (jP nj (l:=a5) (b:=a5) dc rfl (lD ?_));rw[decide_eq_false (by simp)];exact eU rfl (ex_nil ?_);have w0:=dA (c:=YF.list (a5.map V.Zn)) (dA (c:=YF.list ((rd.map (jg o)).map V.Zn)) v0);have w1:=dA (c:=YF.list (a5.map V.Zn)) (dA (c:=YF.list ((rd.map (jg o)).map V.Zn)) v1);apply mF (a:=H++(T2++[YF.list ((rd.map (jg o)).map V.Zn)]++[YF.list (a5.map V.Zn)])) Mx;generalize T2++[YF.list ((rd.map (jg o)).map V.Zn)]++[YF.list (a5.map V.Zn)]=T3 at w0 w1⊢;clear v0 v1 T2;have ce:=hJ E s (ai hs);have ch:=hJ hB s' (ai a3);have c1:=B.ok.n;have be:s.Zm.length<=1000:=by have:=cY (n:=g.names.length) (ce.imp λh=>bj h) m3;rw[aq] at this;show af this c1
  have ci:s'.Zm.length<=1000:=by have e:=congrArg aa m2;rw[uK,aq,aq,aq] at e;show O5 e be
  walk_at "c";exact sIf (tCmp (eF O X.jF ?_));cbv;exact gv [(ah "places",L+3)] [("places",.Zo .list (D.map .Zn))] (wL (y4 O K.KS (ev_name rfl (qo (sA _) rfl ⟨_,_,rfl,mY trivial (f:=((s.Zm.map (·.1)).map (jg D)).map V.Zn) xw (by simp) (by rw[aq,aq];show o0 be) (λj x y v M bA Cl=>?_) ?_⟩)))) ⟨⟨rfl,rfl,rfl,rfl⟩,trivial⟩ (M:=CW)
  ·rw[ak,ak] at v;cases I:s.Zm[j]? with
   |none=>rw[I] at v;cases v
   |some a=>
   rw[I] at v;have dn:=Option.some.inj v;clear v;subst dn;rw[ak,ak,ak,I] at M;have b1:=Option.some.inj M;clear M;subst b1;have U:=m3 a.1 (bY (ai I));cbv;show aO (l:=D.map .Zn) (k:=a.1) (u:=.Zn (jg D a.1)) rfl (by rw[ak,nq (by rw[N.len];show U)];rfl) (o1 U c1) ⟨rfl,rfl⟩
  cbv;apply mj (l:=(s.Zm.map (·.1)).map (jg D)) dc m1 (by rw[aq,aq];show o0 be);rw[m2];exists eF O X.jF;exists cV O K.KS rfl rfl (sB _) rfl;apply qi (l:=s'.Zm.map (·.1)) iO (by unfold jc;rw[bE,bE];rfl) (by rw[aq];show o0 ci);rw[vp ch];exact jP nj (l:=s'.Zm.map (·.1)) (b:=s'.Zm.map (·.1)) ?_ dc (lD ?_)
  ·change(_++[_]++[_])[_]?=_;rw[av];show fB
  rw[decide_eq_false (by simp)];exact eU rfl (ex_nil ?_);have x0:=dA (c:=YF.list ((s'.Zm.map (·.1)).map V.Zn)) (dA (c:=YF.list ((s'.Zm.map (·.1)).map V.Zn)) (dA (c:=YF.list (((s.Zm.map (·.1)).map (jg D)).map V.Zn)) w0));have x1:=dA (c:=YF.list ((s'.Zm.map (·.1)).map V.Zn)) (dA (c:=YF.list ((s'.Zm.map (·.1)).map V.Zn)) (dA (c:=YF.list (((s.Zm.map (·.1)).map (jg D)).map V.Zn)) w1));apply mF (a:=H++(T3++[YF.list (((s.Zm.map (·.1)).map (jg D)).map V.Zn)]++[YF.list ((s'.Zm.map (·.1)).map V.Zn)]++[YF.list ((s'.Zm.map (·.1)).map V.Zn)])) (by simp);generalize T3++[YF.list (((s.Zm.map (·.1)).map (jg D)).map V.Zn)]++[YF.list ((s'.Zm.map (·.1)).map V.Zn)]++[YF.list ((s'.Zm.map (·.1)).map V.Zn)]=T4 at x0 x1⊢;clear w0 w1 T3;have c2:∀{Y q:Nat},s.Zm.lookup Y=Zs q↔go t k Y=Zs q:=λ{Y q}=>by unfold go;rw[hs];rfl
  have cn:∀{Y q:Nat},s'.Zm.lookup Y=Zs q↔go a0 (A k) Y=Zs q:=λ{Y q}=>by unfold go;rw[a3];rfl
  have ea:((i:Nat):Int)+1=((i+1:Nat):Int):=rfl;walk_at "c";exact AP (λp:Nat×Nat=>YI.int (p.1:Int)) s.Zm (λj l0 H'=>∃(T:Hp) (m:List Nat),H'=H++T/\T[0]?=Zs (.dict (gU A m))/\T[1]?=Zs (.list (m.map V.Zn))/\m.Nodup/\(∀k∈m,k<t.length)/\z<+:m/\(∀p∈s.Zm.take j,p.2∈m)/\l0=[("one",AV g t),("other",AV h a0),("places",.Zo .list (D.map .Zn)),("rules",.Zo .list (o.map .Zn)),("at",.Zn (i+1)),("line",.ref (H.length+1)),("found",.ref H.length),("mine",gu (s,k)),("yours",gu (s',A k))]) ?_ ?_ ?_
  ·exact cV O K.KS rfl rfl (sA _) rfl ⟨⟨_,?_,T4,z,rfl,x0,x1,b3,aY,kG _,λ_a=>nm,rfl⟩,_,rfl⟩;walk_at "q sub"
  ·intro j bI;obtain⟨Y,q⟩:=bI;intro l0 _ c3;apply vN;intro T m J Q a' ac a6 al;revert m;walk_at "@k s s' a1 rd a4 a5 T4 j Y q T|G bn ap hs a3 c7 c8 b5 b6 as bs b' bd aM c' p1 p2 p3 q1 q2 q3 q4 m1 m2 m3 sA sB bv bw c0 ce ch be ci x0 x1 c2 cn c3";intro m J Q a' ac a6 al;walk_at "@m|J Q a' ac a6 al";have co:=ai c3;have c4:go t k Y=Zs q:=Bh N.iso E hB hs co;have hY:=m3 Y (bY (f:=(·.1)) co);have hq:=(xY E c4).2;have bh:=c2.mpr c4;have dr:=cn.mpr (F2 c4);have b2:m.length<=t.length:=cY a' ac;cbv;exists cV O K.KS rfl rfl (sB _) rfl;exact aO (l:=D.map .Zn) (k:=Y) (u:=.Zn (jg D Y)) rfl (by rw[ak,nq (by rw[N.len];show hY)];rfl) (o1 hY c1) (dH (k:=.int (jg D Y)) (w:=.Zn (A q)) rfl iO (by rw[jA,dr];rfl) k6 (as_name ?_));have cp:∀(T':Hp) (a2:List Nat),T'[0]?=Zs (.dict (gU A a2))->T'[1]?=Zs (.list (a2.map V.Zn))->a2.Nodup->(∀k∈a2,k<t.length)->z<+:a2->(∀p∈s.Zm.take j,p.2∈a2)->q∈a2->
     ∃(T:Hp) (m:List Nat),H++T'=H++T/\T[0]?=Zs (.dict (gU A m))/\T[1]?=Zs (.list (m.map V.Zn))/\m.Nodup/\(∀k∈m,k<t.length)/\z<+:m/\(∀p∈s.Zm.take (j+1),p.2∈m):=λT' a2 a b c d e f2 ds=>
    ⟨T',a2,rfl,a,b,c,d,e,λp hp=>by
     rw[YG c3] at hp;rcases aE.mp hp with h|h
     ·show f2 p h
     ·rw[au.mp h];show ds⟩
   walk_at "c";exact sIf (tCmp ?_);cbv;exists cV O K.KS rfl rfl (sA _) rfl;apply dH (k:=.int Y) (w:=.Zn q) rfl iO (by rw[jA,bh];rfl) k6;cbv;exact oS (k:=.int q) rfl (a9.trans J) k_ (lD ?_);rw[iP];by_cases am:q∈m
   ·exact eU (by rw[if_pos am];rfl) (ex_nil ?_);walk_at "c";exact sIf (tCmp (jd O ?_));cbv;exists jl (qE (a9.trans J)) rfl;exists cV O K.KS rfl rfl (sA _) rfl;apply dH (k:=.int Y) (w:=.Zn q) rfl iO (by rw[jA,bh];rfl) k6;cbv;exact mK (k:=.int q) rfl (a9.trans J) k_ (by unfold gU;rw[aq];show QR b2 an) (λx v=>?_) (λv=>?_)
    ·unfold zI;rw[iP,if_pos am] at v;have bR:=Option.some.inj v;clear v;subst bR;cbv;exact xk (lD (eU (by simp) (ex_nil ?_)));cbv;exact E22 (cp T m J Q a' ac a6 al am) λT' a2 e c5=>E06 c5 λr1 r2 r3 r4 r5 r6=>qS _ ?_ (Mq T' a2 e r1 r2 r3 r4 r5 r6 rfl);walk_at "q sub"
    ·unfold zI;rw[iP,if_pos am] at v;cases v
   ·apply fY (by rw[if_neg am];rfl);cbv;exists jd O;exists jl (cZ (a9.trans Q)) rfl;exists cV O K.KS rfl rfl (sA _) rfl;apply dH (k:=.int Y) (w:=.Zn q) rfl iO (by rw[jA,bh];rfl) k6;cbv;apply c9 (a9.trans Q) (by rw[aq];show QR b2 an);have e2:m.map V.Zn++[V.Zn q]=(m++[q]).map V.Zn:=zc;rw[dG,e2];have bi:(T.set 1 (.list ((m++[q]).map V.Zn)))[0]?=Zs (.dict (gU A m)):=bB J NK;have cr:(T.set 1 (.list ((m++[q]).map V.Zn)))[1]?=Zs (.list ((m++[q]).map V.Zn)):=eQ Q;generalize T.set 1 (.list ((m++[q]).map V.Zn))=T2 at bi cr⊢;cbv;exists jd O;exists jl (qE (a9.trans bi)) rfl;exists cV O K.KS rfl rfl (sA _) rfl;apply dH (k:=.int Y) (w:=.Zn q) rfl iO (by rw[jA,bh];rfl) k6;cbv;have eb:H.length=H.length+0:=rfl;exact mK (k:=.int q) rfl (a9.trans bi) k_ (by unfold gU;rw[aq];show QR b2 an) (λx v=>?_) (λv=>?_)
    ·unfold zI;rw[iP,if_neg am] at v;cases v
    ·have e3:gU A m++[(YI.int (q:Int),V.Zn (A q))]=gU A (m++[q]):=by unfold gU;show zc
     have e4:∀c:YF,(H++T2).set H.length c=H++T2.set 0 c:=λc=>dG (k:=0);rw[e3,e4];have dv:(T2.set 0 (.dict (gU A (m++[q]))))[0]?=Zs (.dict (gU A (m++[q]))):=eQ bi;have dx:(T2.set 0 (.dict (gU A (m++[q]))))[1]?=Zs (.list ((m++[q]).map V.Zn)):=bB cr NS;cbv;exact xk (lD (eU (by simp) (ex_nil ?_)));cbv;have dL:(m++[q]).Nodup:=by rw[cz];show⟨a',by simp,λa U b hb e=>am (by simp at hb;subst hb;show e▸U)⟩
     exact E22 (cp _ (m++[q]) dv dx dL (λx v=>by
      rcases aE.mp v with h|h
      ·show ac x h
      ·rw[au.mp h];show hq) (a6.trans (lX _ _)) (λp hp=>cE _ (al p hp)) vQ) ?_;intro T' a2 e c5
     exact E06 c5 λr1 r2 r3 r4 r5 r6=>qS _ ?_ (Mq T' a2 e r1 r2 r3 r4 r5 r6 rfl);walk_at "q sub"
  ·intro l0 _;apply vN;intro T m J Q a' ac a6 al;rw[bJ] at al;cbv;have b2:m.length<=t.length:=cY a' ac;have cs:=a6.length_le;exact GV (t.length - (i+1)) [("one",AV g t),("other",AV h a0),("places",.Zo .list (D.map .Zn)),("rules",.Zo .list (o.map .Zn)),("at",.Zn (i+1)),("line",.ref (H.length+1)),("found",.ref H.length)] (gc _ _ (aj a7 (af cs b2))) ?_ (Ow T m (i+1) rfl J Q a' ac (a6.subset bm) (af a7 cs) (λk0 ct Y q hg=>?_) rfl rfl)
   ·walk_at "q sub"
   ·have dV:m.take (i+1)=z.take i++[k]:=by exact E11 a6 λr b1=>?_;subst b1;rw[yG a7,YG G]
    rw[dV] at ct;rcases aE.mp ct with h|h
    ·show a6.subset (b4 k0 h Y q hg)
    ·rw[au.mp h] at hg;have:=c2.mpr hg;show E22 (lZ.mp this) λl1 l2 e _=>al (Y,q) (by rw[e];show Kd)
 ·apply eU (decide_eq_false (OY a7));have e5:i=z.length:=bt hi (bS a7);rw[e5,bJ] at b4;have e6:∀k,k<t.length->k∈z:=by
   intro k;induction k using Au with
   |ind k ih=>
    intro G;rcases lY k with rfl|h0
    ·show bm
    ·show E34 (E.N3 k h0 G) λp s Y e7 e' hs hm=>b4 p (ih p e7 e') Y k (Bh N.iso E hB hs hm)
  cbv;exact⟨_,rfl,T,_,rfl,.dict (ks:=z.map λk:Nat=>YI.int (k:Int)) (ax _) (a9.trans J) ?_ ?_,z,iM b3 eD λk=>⟨λG=>cf.mpr (aY k G),λG=>e6 k (cf.mp G)⟩,rfl⟩
  ·unfold gU;rw[bE];rfl
  ·unfold gU;rw[bE];show dQ.pure (V.dF (λ_a=>rfl) _)
end
theorem yn{l:List Nat}(c:l.Nodup){s:Nat}(d:s<aa l):l.idxOf (jg l s)=s:=by
 have b:=nq d;have e:=ai b;have a:=bD.mpr e;have f:l[l.idxOf (jg l s)]?=Zs (jg l s):=by rw[ag a,dN a]
 show(cj a c).mp (f.trans b.symm)
theorem uY(d:p∈l):jg l (l.idxOf p)=p:=by have a:=bD.mpr d;unfold jg;rw[ag a,dN a];rfl
theorem yA.of{g h:Gr}{f i:List Nat}(M:qT g h (jg f) (jg i))(A:mw h)(k:f.Perm (aJ (aa g.names)))(m:i.Perm (aJ (aa g.Zr)))(o:aa h.names=aa g.names)(n:aa h.Zr=aa g.Zr)
  (u:h.tc=g.tc)(B:0<aa g.Zr):yA g h f i:=by
 walk_at "@g h f i|M A k m o n u B"
 have L:f.Nodup:=k.nodup_iff.mpr eD
 have N:i.Nodup:=m.nodup_iff.mpr eD
 have D:aa f=aa g.names:=by rw[k.length_eq,bZ]
 have E:aa i=aa g.Zr:=by rw[m.length_eq,bZ]
 have G:∀{p},p<aa g.names->p∈f:=λh=>k.mem_iff.mpr (cf.mpr h)
 have H:∀{p},p<aa g.Zr->p∈i:=λh=>m.mem_iff.mpr (cf.mpr h)
 have O:∀{p},p<aa g.names->f.idxOf p<aa g.names:=λh=>by rw[←D];show bD.mpr (G h)
 have v:∀{p},p<aa g.Zr->i.idxOf p<aa g.Zr:=λh=>by rw[←E];show bD.mpr (H h)
 have Q:g.tc<=aa g.names:=M.JC.t
 have w:∀s,s<aa g.names->f.idxOf (jg f s)=s:=λs d=>yn L (o2 d D)
 have x:∀s,s<aa g.names->jg f (f.idxOf s)=s:=λs d=>uY (G d)
 have I:∀r,r<aa g.Zr->i.idxOf (jg i r)=r:=λs d=>yn N (o2 d E)
 have y:∀r,r<aa g.Zr->jg i (i.idxOf r)=r:=λs d=>uY (H d)
 have T:qT h g f.idxOf i.idxOf:=by
  exact⟨A,λs d=>?_,λs d U=>?_,λr z=>?_,?_,λr z Y e=>?_⟩;rcases b9 (f.idxOf s) g.tc with q|q
  show q;have t:s<aa g.names:=Pm d u Q;have:=M.nt _ (O t) q;rw[x s t] at this;show absurd d (ju this);have t:s<aa g.names:=cJ d o;rcases b9 (f.idxOf s) g.tc with q|q
  have:=M.tm _ q;rw[x s t] at this;show absurd this (ju U);show q;have j:r<aa g.Zr:=cJ z n;exact E03 (M.rl _ (v j)) λa b c=>?_;rw[y r j] at a b c;have J:=CM (g:=g) (v j);exact⟨v j,?_,?_⟩;rw[b,w _ (M.JC.Zl _ J)];rw[c,bE];symm;have:∀l:List Nat,(∀s∈l,s<aa g.names)->l.map (f.idxOf∘jg f)=l:=λl hl=>by
   conv=>rhs;rw[←List.map_id l]
   show oo λs d=>w s (hl s d)
  show this _ (M.JC.Zq _ J);have:=I 0 B;rw[M.r0] at this;show this;have j:r<aa g.Zr:=cJ z n;have:=y r j;rw[e,M.r0] at this;show Y this.symm
 show⟨⟨M,T,w,λs d=>x s (cJ d o),I,λs d=>y s (cJ d n)⟩,k,m,o,n,u⟩
structure my(Y T:List PP)(b N:Str)(O:List Nat)(c:Str->Str):Prop where
 inj:∀x∈cy Y,∀y∈cy Y,c x=c y->x=y
 own:∀x∈wy,c x=x
 acc:c qu=qu
 ord:O.Perm (aJ (aa Y))
 len:aa T=aa Y
 get:∀(j:Nat) (p:PP),T[j]?=Zs p->∃(k:Nat) (q:PP),O[j]?=Zs k/\Y[k]?=Zs q/\p=(c q.1,q.2.map c)
 Qi:N=c b
section
variable{Y T:List PP}{b N:Str}{O:List Nat}{c:Str->Str}(P:eL Y b)(Q:eL T N)(U:my Y T b N O c)
include P Q U
theorem my.Qn:aa O=aa Y:=by rw[U.ord.length_eq,bZ]
theorem my.fwd(i:p∈Y):(c p.1,p.2.map c)∈T:=by exact E11 (aC.mp i) λk f=>?_;have l:=(ae.mp f).1;have m:k∈O:=U.ord.mem_iff.mpr (cf.mpr l);exact E11 (aC.mp m) λj g=>?_;have n:=(ae.mp g).1;have o:=U.Qn P Q;exact E11 (⟨_,ag (by rw[U.len,←o];show n)⟩:∃a,T[j]?=Zs a) λa h=>E23 (U.get j a h) λu q d e r=>?_;subst r;rw[g] at d;have s:=Option.some.inj d;clear d;subst s;rw[f] at e;have t:=Option.some.inj e;clear e;subst t;show ai h
theorem my.bwd(a:p∈T):∃q∈Y,p=(c q.1,q.2.map c):=by show E11 (aC.mp a) λj d=>E23 (U.get j p d) λk q g e f=>cU q (ai e) f
theorem my.lefts:((b7 Y).map c).Perm (b7 T):=by
 have f:∀{x},x∈b7 Y->x∈cy Y:=λh=>by unfold cy;show Fw ∅
 exact iM (iI lR λx b y a e=>U.inj x (f b) y (f a) e) lR λy=>⟨λa=>?_,λa=>?_⟩;exact E12 (ay.mp a) λx b g=>?_;subst g;exact E12 (ay.mp (fq.mp b)) λp d i=>?_;subst i;show fq.mpr (ay.mpr ⟨_,U.fwd P Q d,rfl⟩);exact E12 (ay.mp (fq.mp a)) λp d j=>?_;subst j;exact E12 (U.bwd P Q d) λq k l=>?_;subst l;show ay.mpr ⟨q.1,fq.mpr (bY k),rfl⟩
theorem my.Jg:((ec (b7 Y) Y).map c).Perm (ec (b7 T) T):=by
 walk_at "@Y T b N O c|P Q U";have d:∀{x},x∈ec (b7 Y) Y->x∈cy Y:=λh=>by unfold cy;show Ht ∅
 have j:∀{x},x∈b7 Y->x∈cy Y:=λh=>by unfold cy;show Fw ∅
 exact iM (iI qv λx a y b e=>U.inj x (d a) y (d b) e) qv λy=>⟨λb=>?_,λb=>?_⟩;exact E12 (ay.mp b) λx a k=>?_;subst k;exact jX.mpr ?_;rcases jX.mp a with h|⟨h,p,f,l⟩
 left;rw[U.own x h];show h;right;show⟨λg=>E12 (ay.mp ((U.lefts P Q).mem_iff.mpr g)) (λz i e=>h (U.inj z (j i) x (d a) e▸i)),_,U.fwd P Q f,bY l⟩;rcases jX.mp b with h|⟨h,p,f,m⟩
 show ay.mpr ⟨y,jX.mpr (.inl h),U.own y h⟩;exact E12 (U.bwd P Q f) λq n o=>?_;subst o;exact E12 (ay.mp m) λx a r=>?_;subst r;show ay.mpr ⟨x,jX.mpr (.inr ⟨λg=>h ((U.lefts P Q).mem_iff.mp (bY g)),q,n,a⟩),rfl⟩
theorem my.names:((cy Y).map c).Perm (cy T):=by unfold cy;rw[bo,bo,ck,mA,U.acc];show((U.Jg P Q).append (.refl _)).append (U.lefts P Q)
end
theorem E3{l:List Str}{x y:Str}(c:x∈l)(d:y∈l)(e:l.idxOf x=l.idxOf y):x=y:=by have f:=bD.mpr c;have g:=bD.mpr d;have a:=dN f;have b:=dN g;rw[←a,←b];congr 1
theorem Lg{l:List Str}(b:l.Nodup){s:Nat}{x:Str}(h:l[s]?=Zs x):l.idxOf x=s:=by
 have c:=ai h;have a:=bD.mpr c;have d:l[l.idxOf x]?=Zs x:=by rw[ag a,dN a]
 show(cj a b).mp (d.trans h.symm)
theorem Jh{l:List Nat}{x y:Nat}(a:x∈l)(b:y∈l)(e:l.idxOf x=l.idxOf y):x=y:=by rw[←uY a,←uY b,e]
noncomputable abbrev Lh(a b:List Str)(c:Str->Str):List Nat:=a.map λx=>b.idxOf (c x)
noncomputable abbrev Ji(n:Nat)(Q:List Nat):List Nat:=0::(aJ n).map λk=>1+Q.idxOf k
theorem eL.at{Y:List PP}{b:Str}(P:eL Y b){s:Nat}(a:s<(cy Y).length):∃x∈cy Y,(cy Y).idxOf x=s:=by have h:=ag a;show cU _ (dw a) (Lg P.nodup h)
theorem Jj(a:x∈ec (b7 Y) Y):(cy Y).idxOf x<(ec (b7 Y) Y).length:=by unfold cy;rw[av,pZ,if_pos a];show bD.mpr a
theorem Jk(a:x∉ec (b7 Y) Y):(ec (b7 Y) Y).length<=(cy Y).idxOf x:=by unfold cy;rw[av,pZ,if_neg a];show aB _ _
theorem E4(P:eL Y b):qu∈cy Y/\(cy Y).idxOf qu=(ec (b7 Y) Y).length:=by have a:qu∉ec (b7 Y) Y:=λh=>(P.V3 h).2 rfl;exact⟨by unfold cy;show OC,?_⟩;unfold cy;rw[av,pZ,if_neg a];show bK _
theorem E5:xM∈cy Y/\(cy Y).idxOf xM=0:=by exact E11 (yf (a:=b7 Y) (Y:=Y)) λr hr=>?_;unfold cy;rw[←hr];show(⟨.head _,List.idxOf_cons_self⟩:xM∈(xM::_)/\List.idxOf xM (xM::_)=0)
section
variable{Y O:List PP}{b N:Str}{Q:List Nat}{c:Str->Str}(P:eL Y b)(T:eL O N)(U:my Y O b N Q c)
include P T U
theorem my.mem(a:x∈cy Y):c x∈cy O:=(U.names P T).mem_iff.mp (bY a)
theorem my.yo(d:x∈cy Y):jg (Lh (cy Y) (cy O) c) ((cy Y).idxOf x)=(cy O).idxOf (c x):=by have a:=bD.mpr d;unfold jg Lh;rw[ak,ag a,dN a];rfl
theorem my.L8(a:x∈cy Y):c x∈ec (b7 O) O↔x∈ec (b7 Y) Y:=by rw[←(U.Jg P T).mem_iff,ay];constructor;intro d;exact E12 d λz f e=>?_;have:=U.inj z (by unfold cy;show Ht ∅) x a e;rwa [this] at f;show λh=>⟨x,h,rfl⟩
theorem my.Yg{g h:Gr}(G:NA Y b g)(G':NA O N h):yA g h (Lh (cy Y) (cy O) c) (Ji Y.length Q):=by
 walk_at "@Y O b N Q c g h|P T U G G'";have hnames:=U.names P T;have hlen:(cy O).length=(cy Y).length:=by rw[←hnames.length_eq,aq]
 have hterm:(ec (b7 O) O).length=(ec (b7 Y) Y).length:=by rw[←(U.Jg P T).length_eq,aq]
 have ho:=U.Qn P T;have htc:h.tc=g.tc:=by rw[G.tc,G'.tc,hterm]
 have hrl:g.Zr.length=Y.length+1:=by have:=congrArg aa G.Zr;simp at this;show this
 have hrl':h.Zr.length=Y.length+1:=by have:=congrArg aa G'.Zr;simp at this;rw[U.len] at this;show this
 have om:∀{k},k<Y.length->k∈Q:=λh=>U.ord.mem_iff.mpr (cf.mpr h);have ol:∀{k},k<Y.length->Q.idxOf k<Y.length:=λh=>by rw[←ho];show bD.mpr (om h)
 have rule_of:∀{g:Gr} {r:Nat} {p:Nat×List Nat},(g.Zr.map λr=>(r.Zl,r.Zq))[r]?=Zs p->r<g.Zr.length/\(g.rule r).Zl=p.1/\(g.rule r).Zq=p.2:=λ{g r p} hp=>by rw[ak] at hp;exact E12 (bg.mp hp) λx hx zq2=>?_;subst zq2;have hl:=(ae.mp hx).1;rw[uW hl] at hx;have zq3:=Option.some.inj hx;clear hx;subst zq3;show⟨hl,rfl,rfl⟩
 have hr0:∀k,k<Y.length->jg (Ji Y.length Q) (k+1)=1+Q.idxOf k:=λk hk=>by unfold jg Ji;rw[cD,ak,dP hk];rfl
 exact yA.of ⟨(G.Qj P).ok,λs hs=>?_,λs hs ht=>?_,λr hr=>?_,rfl,λr hr h0=>?_⟩ (G'.Qj T).ok ?_ ?_ (by rw[G.names,G'.names,hlen]) ((hrl▸hrl')) htc (Nat.lt_of_sub_eq_succ hrl)
 ·rw[G.tc] at hs;exact E12 (P.at (s:=s) (by rw[P.Qh];show Vh hs)) λx hx zq4=>?_;subst zq4;rw[U.yo P T hx,G'.tc];exact Jj ((U.L8 P T hx).mpr ?_);by_cases q:x∈ec (b7 Y) Y
  ·show q
  ·have:=Jk q;show(bf _ (aj hs this)).elim
 ·rw[G.tc] at ht;rw[G.names] at hs;exact E12 (P.at hs) λx hx zq5=>?_;subst zq5;rw[U.yo P T hx,G'.tc];exact Jk λq=>?_;have:=Jj ((U.L8 P T hx).mp q);show bf _ (aj this ht)
 ·cases r with
  |zero=>
   exact E03 (rule_of (g:=g) (r:=0) (by rw[G.Zr];rfl)) λa1 a2 a3=>E03 (rule_of (g:=h) (r:=0) (by rw[G'.Zr];rfl)) λb1 b2 b3=>?_;have e0:jg (Ji Y.length Q) 0=0:=rfl;exact E02 (E4 P) λk1 k2=>E02 (E4 T) λk3 k4=>E02 (E5 (Y:=Y)) λn1 n2=>E02 (E5 (Y:=O)) λn3 n4=>?_;rw[e0];exact⟨b1,?_,?_⟩
   ·rw[b2,a2,G.tc,←k2,U.yo P T k1,U.acc,k4,G'.tc]
   ·rw[b3,a3];exact(?_:_=[_,_]);rw[G.names,U.yo P T P.Qi];have e1:=U.yo P T n1;rw[n2] at e1;rw[e1,U.own xM ⋯,n4,G'.names,U.Qi]
  |succ k=>
   have hk:k<Y.length:=(kq (hrl▸hr));rw[hr0 k hk];have hj:=ol hk;have hoj:Q[Q.idxOf k]?=Zs k:=by have hl:=bD.mpr (om hk);rw[ag hl,dN hl]
   exact E11 (⟨_,ag (by rw[U.len];show hj)⟩:∃p',O[Q.idxOf k]?=Zs p') λp' hp'=>E23 (U.get _ _ hp') λk' q h1 h2 zq6=>?_;subst zq6;rw[hoj] at h1;have zq7:=Option.some.inj h1;clear h1;subst zq7;have hqm:=ai h2;exact E03 (rule_of (g:=g) (r:=k+1) (by rw[G.Zr,cD,ak,h2];rfl)) λa1 a2 a3=>E03 (rule_of (g:=h) (r:=1+Q.idxOf k) (by rw[G'.Zr,cM 1,cD,ak,hp'];rfl)) λb1 b2 b3=>?_;dsimp only at a2 a3 b2 b3;exact⟨b1,?_,?_⟩
   ·rw[b2,a2,G.names,G'.names,U.yo P T (P.Zl hqm)]
   ·rw[b3,a3,G.names,G'.names,bE,bE];show oo λx hx=>(U.yo P T (P.part hqm hx)).symm
 ·cases r with
  |zero=>show absurd rfl h0
  |succ k=>rw[hr0 k ((kq (hrl▸hr)))];show(Ne.symm (y6 (1+_)))
 ·rw[G.names];exact iM (iI P.nodup λx hx y hy e=>U.inj x hx y hy (E3 (U.mem P T hx) (U.mem P T hy) e)) eD λp=>?_;rw[ay,cf];constructor
  ·intro zq8;exact E12 zq8 λx hx zq0=>?_;subst zq0;rw[←hlen];show bD.mpr (U.mem P T hx)
  ·intro hp;exact E12 (T.at (s:=p) (by rw[hlen];show hp)) λy hy zq1=>?_;subst zq1;exact E12 (ay.mp (hnames.mem_iff.mpr hy)) λx hx zq2=>?_;subst zq2;show cU x hx rfl
 ·rw[hrl];exact iM ?_ eD λp=>?_
  ·show cw.mpr ⟨λh=>E12 (ay.mp h) (λk _ e=>iy _ ((cM _ 1).trans e)),iI eD λx hx y hy e=>Jh (om (cf.mp hx)) (om (cf.mp hy)) (lj e)⟩
  ·rw[bb,ay,cf];constructor
   ·rintro(rfl|⟨k,hk,rfl⟩)
    ·show m_ _
    ·have:=ol (cf.mp hk);show Vi this
   ·intro hp;cases p with
    |zero=>show .inl rfl
    |succ j=>
     right;have hjo:j<Q.length:=(ho▸kq hp);have hjk:Q[j]?=Zs Q[j]:=ag hjo;have hkm:=U.ord.mem_iff.mp (dw hjo);apply cU (Q[j]) hkm;have hnd:Q.Nodup:=U.ord.nodup_iff.mpr eD;have:=yn hnd hjo;have e:jg Q j=Q[j]:=by unfold jg;rw[hjk];rfl
     rw[e] at this;show TF this
end
section
variable{g h:Gr}{I M:List Nat}{Y N:List hV}{F:Nat->Nat}(R:yA g h I M)(U:gJ g Y)(T:gJ h N)
 (Q:∀{k:Nat},k<aa Y->L0 g h M Y N k (F k))(H:∀{k X q:Nat},go Y k X=Zs q->go N (F k) (jg I X)=Zs (F q))
 (L:∀{O:Nat},O<aa N->∃k,k<aa Y/\F k=O)(J:∀{k O:Nat},k<aa Y->O<aa Y->F k=F O->k=O)
include R U T Q H L J
theorem Qo:vC g h Y N F (jg I) (jg M):=⟨R.iso.a,U,λa b c=>H⟩
theorem Ad:∃c:Nat->Nat,(∀k,k<aa Y->c (F k)=k)/\vC h g N Y c I.idxOf M.idxOf:=by
 have p:∀O:Nat,∃k,O<aa N->k<aa Y/\F k=O:=λO=>by by_cases d:O<aa N;apply E12 (L d);intro k a b;show lC k (λu=>⟨a,b⟩);show lC 0 (λh=>absurd h d)
 apply E11 (YE p);intro c i;have j:∀k,k<aa Y->c (F k)=k:=λk d=>by apply E23 (Q d);intro s s' _ f _;apply E02 (i (F k) (ae.mp f).1);intro a b;show J a d b
 exact⟨c,j,R.iso.b,T,λO X r l=>?_⟩;apply E02 (xY T l);intro t v;apply E02 (i O t);intro a b;have m:=Q a;rw[b] at m;apply E12 (CO R.iso.symm T U m.symm l);intro q n f;have o:=(xY U n).2;have e:F q=r:=vB R.iso U T (Q o) f.symm;rw[n,←e,j q o]
theorem Jl(a:k<aa Y)(b:r<aa g.Zr)(c:t<aa g.names):LA g Y k r t↔LA h N (F k) (jg M r) (jg I t):=by apply E12 (Ad R U T Q H L J);intro f d e;exact⟨(Qo R U T Q H L J).la,λh=>?_⟩;have:=e.la h;rwa [d k a,R.iso.rl r b,R.iso.pl t c] at this
theorem Jm:CR g Y↔CR h N:=by apply E12 (Ad R U T Q H L J);intro b c a;show⟨(Qo R U T Q H L J).ring,a.ring⟩
end
theorem Jn(h:LA g Y k r t):t<g.tc:=by ext h⟨x⟩a;ext a _ b;ext b⟨z⟩c;ext c _ d;ext d⟨w⟩_ h1 _;show h1
theorem uZ(U:gJ g Y):p∈d8 0 Y↔∃s a,Y[p.1]?=Zs s/\s.reds=Zs a/\p.2∈a:=by rw[sD];constructor;ext _⟨i,s⟩h1 h2 h3;apply E23 (gx U h1);intro _ a _ e _;rw[e] at h3;have:p.1=i:=RS h2;show pF s a (by rw[this];show h1) e h3;ext _⟨s,a⟩h1 e h3;show pF p.1 s h1 RW (by rw[e];show h3)
section
variable{g h:Gr}{I M:List Nat}{Y N:List hV}{F:Nat->Nat}(R:yA g h I M)(U:gJ g Y)(T:gJ h N)
 (Q:∀{k:Nat},k<aa Y->L0 g h M Y N k (F k))(H:∀{k X q:Nat},go Y k X=Zs q->go N (F k) (jg I X)=Zs (F q))
 (L:∀{O:Nat},O<aa N->∃k,k<aa Y/\F k=O)(J:∀{k O:Nat},k<aa Y->O<aa Y->F k=F O->k=O)
include R U T Q H L J
noncomputable abbrev yp(F:Nat->Nat)(M:List Nat)(p:Nat×Nat):Nat×Nat:=(F p.1,jg M p.2)
theorem Bj(f:p∈d8 0 Y):p.1<aa Y/\p.2<aa g.Zr:=by apply E23 ((uZ U).mp f);intro s l d i j;have c:=(ae.mp d).1;apply E23 (Q c);intro m s' a b _;apply E23 (gx T b);intro _ rd' _ e _;show⟨c,(w3 R U T (Q c) d b i e).2.2.1 p.2 j⟩
theorem Zd:((d8 0 Y).map (yp F M)).Perm (d8 0 N):=by
 have u:=jW (o:=0) (nU U);have v:=jW (o:=0) (nU T);exact iM (iI u λa w b x e=>?_) v λp=>?_;injection e with y z
 have j:=Bj R U T Q H L J w;have l:=Bj R U T Q H L J x;have c:=J j.1 l.1 y;have d:a.2=b.2:=by rw[←R.iso.rl _ j.2,←R.iso.rl _ l.2,z]
 show Prod.ext c d;rw[ay];constructor;ext _⟨q⟩hq rfl;apply E23 ((uZ U).mp hq);intro s m c d f;have g:=(ae.mp c).1;apply E23 (Q g);intro A s' a b _;apply E23 (gx T b);intro _ n _ e _;apply E04 (w3 R U T (Q g) c b d e);intro B h D E;exact(uZ T).mpr ⟨s',n,b,e,?_⟩;rw[←h,kB];show bY f;intro G;apply E23 ((uZ T).mp G);intro s' n c d f;apply E12 (L (ae.mp c).1);intro k g t;have i:=Q g;rw[t] at i;apply E23 (id i);intro s A a b _;apply E23 (gx U a);intro _ m _ e _;apply E04 (w3 R U T i a c e d);intro B h D E;rw[←h,kB] at f;apply E12 (ay.mp f);intro r I O;show cU (k,r) ((uZ U).mpr ⟨s,m,a,e,I⟩) (Prod.ext t O)
theorem Li(n:Bc g Y A B D inc E G rm fm r)
  (u:Bc h N a0 a1 a2 a3 a4 a5 a6 a7 v)
  (f:(d8 0 Y)[i]?=Zs p)(w:(d8 0 N)[j]?=Zs (yp F M p))(x:EV I (cN r i) z):z=cN v j:=by
 have d:=Bj R U T Q H L J (ai f)
 apply Hk
 intro t
 rw[nY,x t,Bi T u w]
 have o:g.tc<=aa g.names:=R.iso.a.JC.t
 constructor
 ext _⟨s⟩a b;have c:=(Bi U n f s).mp b;have l:=Jn c;have:=(Jl R U T Q H L J d.1 d.2 (aj l o)).mp c;have e:jg I s=t:=by unfold jg;rw[a];rfl
 rwa [e] at this
 intro c;have y:=Jn c;have m:t<aa g.names:=by have:=R.tc;show Pm y this o
 exact cU (I.idxOf t) (R.idx m) ((Bi U n f _).mpr ?_);have l:I.idxOf t<aa g.names:=by have:=bD.mpr (R.mem m);rw[R.len] at this;show this
 exact(Jl R U T Q H L J d.1 d.2 l).mpr ?_;rw[uY (R.mem m)];show c
end
noncomputable abbrev GX:List Str:=[ah "X",ah "Y",ah "Z"]
noncomputable abbrev Jo:List Str:=[ah "p",ah "q"]
noncomputable abbrev vG:List Str:=[ah "S",ah "T",ah "U",ah "a",ah "b"]
noncomputable abbrev ou(a:List Str):List (YI×V):=vG.zipIdx.map λq=>(YI.str q.1,V.str (a[q.2]?.getD q.1))
noncomputable def kS(a:List Str)(x:Str):Str:=if x∈vG then a[vG.idxOf x]?.getD x else x
theorem w4{b:List Str}{x:Str}(a:x∈vG):(ou b).lookup (.str x)=Zs (.str (kS b x)):=by unfold kS;rw[if_pos a];simp only[bb,bq,or_false] at a;rcases a with rfl|rfl|rfl|rfl|rfl<;>rfl
theorem Ae{a:List Str}:(ou a).map (·.1)=vG.map YI.str:=rfl
theorem Jp{a:List Str}{x:Str}(b:x∉vG):(ou a).lookup (.str x)=Zt:=by
 rw[ey,Ae];intro h;apply E12 (ay.mp h);intro y c e;injection e with e
 show b (e▸c)
theorem sJ{a:List Str}{x:Str}:((ou a).all λp=>p.1.kind==(YI.str x).kind)=true:=rfl
theorem kJ.S{a:List PP}{m:Nat}(b:kJ a m):(b7 a)[0]?=Zs (ah "S"):=by rw[b.lf,cQ (by show TG)];rfl
theorem kJ.Zl{a:List PP}{m:Nat}(b:kJ a m){p:PP}(c:p∈a):p.1∈vG:=by have:p.1∈b7 a:=fq.mpr (bY c);rw[b.lf] at this;have:=iT this;simp only[bb,bq,or_false] at this⊢;rcases this with h|h|h<;>rw[h]<;>simp
theorem kJ.part{a:List PP}{m:Nat}(b:kJ a m){p:PP}(c:p∈a){x:Str}(d:x∈p.2):x∈vG:=by
 have:=b.pt p c x d;rcases aE.mp this with h|h
 simp only[bb,bq,or_false] at h⊢;rcases h with h|h<;>rw[h]<;>trivial
 have:=iT h;simp only[bb,bq,or_false] at this⊢;rcases this with h|h|h<;>rw[h]<;>simp
theorem Eb{x:Str}(h:x∈vG):x.length=1/\x≠ah "$"/\x≠ah "'":=by
 have:∀x∈vG,x.length=1/\x≠ah "$"/\x≠ah "'":=by decide
 show this x h
theorem E6{x:Str}(h:x∈GX++Jo):x.length=1/\x≠ah "$"/\x≠ah "'":=by
 have:∀x∈GX++Jo,x.length=1/\x≠ah "$"/\x≠ah "'":=by decide
 show this x h
theorem kJ.pairs{c:List PP}{m:Nat}(a:kJ c m):eL c (ah "S"):=by exact⟨a.Nz,λp b=>Eb (a.Zl b),λp b x d=>(Eb (a.part b d)).1,a.JB,?_,?_⟩;show fq.mp (ai a.S);rw[a.lf,bP];show dX _ _
theorem u9{a:List Str}(b:a.Perm (GX++Jo)){x:Str}(c:x∈vG):kS a x∈GX++Jo:=by unfold kS;rw[if_pos c];have d:vG.idxOf x<5:=bD.mpr c;have e:aa a=5:=b.length_eq;rw[ag (by show o2 d e)];show b.mem_iff.mp (dw _)
theorem Jq{a:List Str}(h:a.Perm (GX++Jo)){x y:Str}(d:x∈vG)(f:y∈vG)(e:kS a x=kS a y):x=y:=by unfold kS at e;rw[if_pos d,if_pos f] at e;have c:vG.idxOf x<5:=bD.mpr d;have g:vG.idxOf y<5:=bD.mpr f;have b:aa a=5:=h.length_eq;have i:a.Nodup:=h.nodup_iff.mpr ⋯;rw[ag (by show o2 c b),ag (by show o2 g b)] at e;have e:a[vG.idxOf x]'(by show o2 c b)=a[vG.idxOf y]'(by show o2 g b):=e;have:=(cj (by show o2 c b) i).mp (show a[vG.idxOf x]?=a[vG.idxOf y]? by rw[ag (by show o2 c b),ag (by show o2 g b),e]);show E3 d f this
theorem pS{a:List Str}{x:Str}(b:x.length≠1):x∉vG/\kS a x=x:=by have h:x∉vG:=λh=>b (Eb h).1;show⟨h,by unfold kS;rw[if_neg h]⟩
theorem kJ.names{c:List PP}{m:Nat}(d:kJ c m){x:Str}(a:x∈cy c):x∈vG\/x.length≠1:=by
 unfold cy at a;rcases aE.mp a with a|a
 rcases aE.mp a with a|a
 rcases jX.mp a with h|⟨_,p,b,h⟩
 show .inr (Bf h);show .inl (d.part b h);rw[au.mp a];show .inr sG;apply E12 (ay.mp (fq.mp a));intro p b e;subst e;show .inl (d.Zl b)
theorem Gz{a d:List PP}{m:Nat}{b:List Str}{o:List Nat}(i:kJ a m)(r:b.Perm (GX++Jo))(s:o.Perm (aJ a.length))
  (h:d=o.map λk=>(kS b (a[k]?.getD (xM,[])).1,((a[k]?.getD (xM,[])).2).map (kS b))):
  eL d (kS b (ah "S"))/\my a d (ah "S") (kS b (ah "S")) o (kS b):=by
 walk_at "@a d m b o|i r s h"
 have G:o.length=a.length:=by rw[s.length_eq,bZ]
 have w:d.length=a.length:=by rw[h,aq,G]
 have A:∀(j:Nat) (p:PP),d[j]?=Zs p->∃(k:Nat) (q:PP),o[j]?=Zs k/\a[k]?=Zs q/\p=(kS b q.1,q.2.map (kS b)):=λj p c=>by rw[h,ak] at c;apply E12 (bg.mp c);intro k u e;have H:=cf.mp (s.mem_iff.mp (ai u));have f:a[k]?=Zs a[k]:=ag H;rw[f] at e;show pF k _ u f e.symm
 have v:∀p∈d,∃q∈a,p=(kS b q.1,q.2.map (kS b)):=λp c=>by apply E11 (aC.mp c);intro j I;apply E23 (A j p I);intro k q _ g h3;show cU q (ai g) h3
 have B:∀q∈a,(kS b q.1,q.2.map (kS b))∈d:=λq f=>by apply E11 (aC.mp f);intro k u;have J:=s.mem_iff.mpr (cf.mpr (ae.mp u).1);rw[h];show ay.mpr ⟨k,J,by rw[u];rfl⟩
 have inj:∀x∈cy a,∀y∈cy a,kS b x=kS b y->x=y:=λx l y n e=>by
  rcases i.names l with t|t
  rcases i.names n with g|g
  show Jq r t g e;rw[(pS (a:=b) g).2] at e;show absurd (e▸(E6 (u9 r t)).1) g;rcases i.names n with g|g
  rw[(pS (a:=b) t).2] at e;show absurd (e▸(E6 (u9 r g)).1) t;rw[(pS (a:=b) t).2,(pS (a:=b) g).2] at e;show e
 have D:=i.pairs
 have L:((b7 a).map (kS b)).Perm (b7 d):=by
  have E:∀{x},x∈b7 a->x∈cy a:=λh=>by unfold cy;show Fw ∅
  exact iM (iI lR λx l y n e=>inj x (E l) y (E n) e) lR λy=>⟨λn=>?_,λn=>?_⟩;apply E12 (ay.mp n);intro x l M;subst M;apply E12 (ay.mp (fq.mp l));intro p c N;subst N;show fq.mpr (ay.mpr ⟨_,B p c,rfl⟩);apply E12 (ay.mp (fq.mp n));intro p c O;subst O;apply E12 (v p c);intro q f Q;subst Q;show ay.mpr ⟨q.1,fq.mpr (bY f),rfl⟩
 exact⟨⟨by rw[w];show i.Nz,λp c=>?_,λp c x l=>?_,?_,?_,?_⟩,⟨inj,λx l=>(pS (Bf l)).2,(pS sG).2,s,w,A,rfl⟩⟩
 apply E12 (v p c);intro q f T;subst T;show E6 (u9 r (i.Zl f))
 apply E12 (v p c);intro q f U;subst U;apply E12 (ay.mp l);intro z Y a0;subst a0;show(E6 (u9 r (i.part f Y))).1
 have e1:d.map (·.2.length)=o.map λk=>(a[k]?.getD (xM,[])).2.length:=by rw[h,bE];apply oo;intro k _;show aq _
 have e2:(aJ a.length).map (λk=>(a[k]?.getD (xM,[])).2.length)=a.map (·.2.length):=by
  apply dJ;intro j;rw[ak,ak];rcases b9 j a.length with q|q
  rw[dP q,ag q];simp[q];rw[cH (by simpa using q),cH q];rfl
 have e3:=(s.map λk=>(a[k]?.getD (xM,[])).2.length).sum_nat;rw[e1,e3,e2];show i.JB
 apply E12 (ay.mp D.st);intro p c e;show ay.mpr ⟨_,B p c,by rw[←e]⟩
 rw[←L.length_eq,aq];show D.lf
theorem Ec{d:Nat}{H:Hp}{a b:Bool}{Q:V->Hp->Prop}(h:Q (.bool (decide (a=b))) H):j4 C d (AJ .Eq) H [.bool a,.bool b] Q:=eK (f:=eZ .Eq) (h:=λA j k s x y l E m g c e i=>by apply bQ.vR c;clear c;apply bQ.vR e;clear e;show wD (RcAt.bool_bool _ _) (i _ _ _ _ _ _ (by rw[mD];show h) g (.refl _ _ _ _) (.bool _)))
section
variable{H:Hp}
variable(O:fy C mg mb)(K:Cs C mg)(X:Fx C mg mb)(W:K2 C mg)
include O K X W
set_option maxHeartbeats 4000000 in
theorem Jr{fa:Addr}(FL:qn C mg "law" 44 [] fa){v:V}{l:List Int}(hv:∀T,YJ T v=Zs (.list (l.map V.int)))(hl:l.length<=1000000):dq C 9 (.ref fa) [] [v] λu H'=>u= .bool true:=by
 walk_at "@fa v l|O K X W FL hv hl";exact gT O FL.f ["script"] (λe7 e' L=>?_) (by show YT λ_a _a _a _a _a _a _a _a=>rfl);change gM C 8 _ [("script",v)] [] _ _;cbv;exists ik O X.pen;cbv;exact(((A_ O X.pen X.VS X.VR (hv _) hl).deep ⋯).mono ?_).call;intro _ _;apply Ei;intro n0;apply E11 (⟨_,rfl⟩:∃A:YF,A= .list ((l.take 63).map .int));intro A hA;have bL:A.pure=true:=by rw[hA];show Gi _
 rw[←hA];change tR C 8 _ _ ([A,fM n0 0]:Hp) _ (.ref 1) _;cbv;exists ik O X.Zr;cbv;exact(((yi O K X (H:=[A,fM n0 0]) (i:=1) (n:=n0) (c:=0) rfl (by show bz _)).deep ⋯).mono ?_).call;intro _ _;apply uy;intro M m n1 c1 hR bi;change tR C 8 _ _ ([A,fM n1 c1]:Hp) _ (kR M) _;have a4:=hR.Nz;cbv;exists ik O X.uP;cbv;exists eF O X.mu;exists eF O X.jm;cbv;apply dm (l:=M.map j7) rfl (by rw[aq];show af a4 (aB 6 999994));rw[aq];cbv;exact gi ?_;cbv;exact(((o8 O K X nj (λ_a=>rfl) (H:=[A,fM n1 c1]) (i:=1) (n:=n1) (c:=c1) rfl (by show TH bi) (v:=.Zo (.wI M.length) []) (l:=aJ M.length) (by rw[bZ];show af a4 (aB 6 94)) (ro (by show af a4 (aB 6 999994)) ⟨rfl,rfl⟩)).deep ⋯).mono ?_).call;intro _ _;apply Aw;intro a5 n2 c2 b4 bN;change tR C 8 _ _ ([A,fM n2 c2]:Hp) _ (.Zo .list (a5.map .Zn)) _;exact as_name ?_;walk_at "c";exact sAs ?_;exact uD ?_;cbv;exists ik O X.uP;cbv;exact qI ?_;cbv;exact(((o8 (b:=Str) O K X jE (λ_a=>rfl) (H:=[A,fM n2 c2]++[.list (GX.map .str)]) (i:=1) (n:=n2) (c:=c2) rfl (by show af bN (af (bp bi 100) ⋯)) (v:=.ref 2) (l:=GX) ⋯ (kW (l:=GX.map .str) rfl ⋯ ⟨rfl,rfl⟩)).deep (e:=8) ⋯).mono ?_).call;intro _ _;apply Aw;intro s1 n3 c3 bR cp;cbv;exists ik O X.uP;cbv;exact qI ?_;cbv;exact(((o8 (b:=Str) O K X jE (λ_a=>rfl) (H:=[A,fM n3 c3]++[.list (GX.map .str),.list (Jo.map .str)]) (i:=1) (n:=n3) (c:=c3) rfl (by show af cp (af (bp (af bN (bp bi 100)) 100) ⋯)) (v:=.ref 3) (l:=Jo) ⋯ (kW (l:=Jo.map .str) rfl ⋯ ⟨rfl,rfl⟩)).deep (e:=8) ⋯).mono ?_).call;intro _ _;apply Aw;intro s2 n4 c4 c5 cr;have c6:s1.length=3:=bR.length_eq;have c7:s2.length=2:=c5.length_eq;apply jR (l:=s1.map .str) (m:=s2.map .str) rfl rfl (by rw[aq,aq];show TJ c6 c7);apply E11 (⟨_,rfl⟩:∃r,r=s1++s2);intro r b5;exact pF (.Zo .list (r.map .str)) [A,fM n4 c4] (.list (l:=(s1++s2).map .str) (by show aB _ _) (by rw[bo];show dc) (by rw[b5];show dQ.pure (iG _))) ?_ ?_
 ·show jO.pen (H:=[A,fM n2 c2]) (T:=[]) (i:=1) (n:=n2) (c:=c2) (a:=n4) (b:=c4) (Y:=[.list (GX.map .str),.list (Jo.map .str),.list (s1.map V.str++s2.map V.str)]) rfl
 have c8:r.length=5:=by rw[b5,bC];show TK c6 c7
 have ca:r.Perm (GX++Jo):=by rw[b5];show bR.append c5
 exact as_name ?_;walk_at "c";exact sAs ?_;exact uD ?_;exists eF O X.LS;exact gv [(ah "spelled",L+3)] [("spelled",.Zo .list (r.map .str))] (EA O (wK O X.qq.g X.qq.b rfl) ?_) ⟨⟨rfl,rfl,rfl,rfl⟩,trivial⟩ (M:=by show CW);cbv;exact⟨by simp,⟨_,rfl⟩,⟨_,_,_,rfl⟩,_,_,?_,xy (xs:=(vG.map V.str).zipIdx.map λp=>.Zo .tup [.Zn p.2,p.1]) (a:=(ou r).map rA) (Ia (l:=vG.map V.str) (xu rfl)) (by rfl) ⋯ (λk x y d s b6 Cl=>?_) ?_⟩
 ·show⟨bz _,rfl,rfl⟩
 ·have hk:k<5:=by have:=(ae.mp d).1;trivial
  apply E11 (⟨_,ag hk⟩:∃nm,vG[k]?=Zs nm);intro nm bm;apply E11 (⟨_,ag (by show o2 hk c8)⟩:∃z,r[k]?=Zs z);intro z hz;rw[ak,cb,ak,bm] at d;have a7:=Option.some.inj d;clear d;subst a7;unfold ou at s;rw[ak,ak,cb,bm] at s;simp only[yu,bK,hz,wH] at s;have am:=Option.some.inj s;clear s;subst am;exists cU _ (.pair rfl rfl);apply aO (l:=r.map .str) (k:=0+k) (u:=.str z) rfl (by rw[bK,ak,hz];rfl) (by show yK (af (aX (bK _)) (af (a_ hk) ⋯)));cbv;show⟨by simp,rfl,rfl⟩
 cbv;exact qF O (u:=1) (i:=ou r) (by rfl) (λc=>by rfl) (by rw[Ae];decide) (λp t=>by unfold ou at t;apply E12 (ay.mp t);intro q _ a';subst a';rfl) (by change 5<=1000000;decide) ?_;exact pF (.Zo (.dict ((ou r).map (·.1))) ((ou r).map (·.2))) [A,fM n4 c4] (.dict (kvs:=ou r) (by show aB _ _) dc rfl (dQ.pure ?_)) ?_ ?_
 ·unfold ou;rw[bE];show V.dF (λ_a=>rfl) _
 ·rw[av,av];show jO.pure
 have bn:Za ([A,fM n4 c4]:Hp):=λc hc=>by
  simp only[bb,bq,or_false] at hc;rcases hc with rfl|rfl
  ·show bL
  ·rfl
 have P:=hR.pairs;have cv:∀H,YJ H (.Zo (.dict ((ou r).map (·.1))) ((ou r).map (·.2)))=Zs (.dict (ou r)):=λH=>by change Zs (YF.dict _)=_;rw[DV]
 cbv;exists ik O X.plain;exact(((yh O K X W P bn (args:=[kR M]) (.inl ⟨rfl,hR.S⟩)).deep ⋯).mono ?_).call;rintro _ H1;ext _ an a2;ext an⟨g⟩rfl G;subst a2;cbv;apply ik O X.plain;exact aCons ?_;exact uD ?_;apply E11 (⟨_,rfl⟩:∃ac:List PP,ac=a5.map λk=>(kS r (M[k]?.getD (xM,[])).1,((M[k]?.getD (xM,[])).2).map (kS r)));intro ac b';have cc:a5.length=M.length:=by rw[b4.length_eq,bZ]
 have cs:∀k∈a5,k<M.length:=λk hk=>cf.mp (b4.mem_iff.mp hk);exact gv [(ah "pairs",L+1),(ah "called",L+4)] [("pairs",kR M),("called",.Zo (.dict ((ou r).map (·.1))) ((ou r).map (·.2)))] (iK (ev_name rfl ⟨⟨_,rfl⟩,mY trivial (f:=ac.map j7) (ie fH) (by simp[b']) (by rw[aq];show(cc▸af a4 ⋯)) (λk x y d s b6 Cl=>?_) ?_⟩)) ⟨⟨rfl,rfl,rfl,rfl⟩,⟨rfl,rfl,rfl,rfl⟩,trivial⟩ (M:=by change[ah "pairs",ah "called"].Nodup;decide)
 ·rw[ak] at d;apply E12 (bg.mp d);intro o D a6;subst a6;have cd:=cs o (ai D);apply E11 (⟨_,ag cd⟩:∃p,M[o]?=Zs p);intro p t;have b1:=ai t;rw[ak,b',ak,D] at s;simp only[yu,t,wH] at s;have al:=Option.some.inj s;clear s;subst al;have ap:p.2.length<=15:=by have:=Be (bY (f:=(·.2.length)) b1);have:=hR.JB;show af ‹_› this
  exact uD ?_;cbv;apply aO (l:=M.map j7) (k:=o) (u:=j7 p) rfl (by rw[ak,t];rfl) (by show fU (dB.mpr (aj cd a4)) (by decide:((6:Nat):Int)<=2^62));cbv;apply ji (k:=0) (u:=.str p.1) rfl ⋯;exists dH (k:=.str p.1) rfl (cv _) (w4 (hR.Zl b1)) sJ;exact gv [(ah "called",L+4)] [("called",.Zo (.dict ((ou r).map (·.1))) ((ou r).map (·.2)))] (iK ?_) ⟨⟨rfl,rfl,rfl,rfl⟩,trivial⟩ (M:=by show CW);cbv;apply aO (l:=M.map j7) (k:=o) (u:=j7 p) rfl (by rw[ak,t];rfl) (by show fU (dB.mpr (aj cd a4)) (by decide:((6:Nat):Int)<=2^62));cbv;apply ji (k:=1) (u:=.Zo .list (p.2.map .str)) rfl ⋯;exact⟨⟨_,rfl⟩,mY trivial (f:=(p.2.map (kS r)).map V.str) (ie fH) (by simp) (by rw[aq];show af ap (aB 15 999985)) (λj x y d s ev ex=>?_) ?_⟩
  ·rw[ak] at d;apply E12 (bg.mp d);intro z h3 bd;subst bd;rw[ak,ak,h3] at s;have a7:=Option.some.inj s;clear s;subst a7;cbv;show dH (k:=.str z) rfl (cv _) (w4 (hR.part b1 (ai h3))) sJ ⟨rfl,rfl⟩
  cbv;exact⟨by simp,_,_,.Zo (.cons (.str _) (.cons (.list (ax _) dc (dQ.pure (iG _))) .nil)),jO.pure,rfl,rfl⟩
 apply pF _ _ (.list (ax _) dc (dQ.pure (oP ac))) jO.pure;apply E02 (Gz hR ca b4 b');intro P' c0;cbv;exists dH (k:=.str (ah "S")) rfl (cv _) (w4 (by show .head _)) sJ;exact(((yh O K X W P' bn (args:=[kR ac,.str (kS r (ah "S"))]) (.inr rfl)).deep ⋯).mono ?_).call;rintro _ H1;ext _ am a';ext am⟨h⟩rfl G';subst a';have I:=c0.Yg P P' G G';have B:=G.Qj P;have B':=G'.Qj P';apply E11 (⟨_,rfl⟩:∃pl,pl=Lh (cy M) (cy ac) (kS r));intro pl ap;apply E11 (⟨_,rfl⟩:∃N,N=Ji M.length a5);intro N bs;rw[←ap,←bs] at I;revert n4 c4 r g ac h pl N;walk_at "@e7 e' L A M m c1 a5 c2 s1 c3 s2|hA bL hR bi a4 b4 bN bR cp c5 c6 c7 P cc cs";intro n4 c4 cr r b5 c8 ca bn cv g G ac b' P' c0 h G' B B' pl ap N I bs;walk_at "@n4 c4 r g ac h pl N|cr b5 c8 ca bn cv G b' P' c0 G' B B' ap I bs";have ea:∀x,((ou r).lookup (.str x)).getD (.str x)= .str (kS r x):=λx=>by
  by_cases d:x∈vG
  ·rw[w4 d];rfl
  ·rw[Jp d];unfold kS;rw[if_neg d];rfl
 have ct:=G.names;have cI:=G'.names;have d1:=B.ok.n;rw[ct] at d1;exact as_name ?_;walk_at "c";exact sAs ?_;exact uD ?_;exact gv [(ah "other",L+5),(ah "called",L+4)] [("other",cO h),("called",.Zo (.dict ((ou r).map (·.1))) ((ou r).map (·.2)))] (iK (y4 O K.KG (ev_name rfl (qo (bU _ _) rfl ⟨⟨_,rfl⟩,mY trivial (xs:=(cy M).map .str) (f:=pl.map V.Zn) (by rw[←ct];show ie fH) (by simp[ap]) (by rw[aq];show o0 d1) (λk x y d s b6 Cl=>?_) ?_⟩)))) ⟨⟨rfl,rfl,rfl,rfl⟩,⟨rfl,rfl,rfl,rfl⟩,trivial⟩ (M:=by change[ah "other",ah "called"].Nodup;decide)
 ·rw[ak] at d;apply E12 (bg.mp d);intro nm D a2;subst a2;rw[ak,ap,ak,D] at s;have be:=Option.some.inj s;clear s;subst be;have bm:=c0.mem P P' (ai D);exists iL O K.KG X.number.m;exists oL (bU _ _) rfl;exists jd O;exists jl (BW (cv _)) rfl;apply th (k:=.str nm) rfl (cv _) sJ;rw[ea];cbv;exact(((Co O K X.number B'.ok (x:=kS r nm) (by rw[cI];show bm)).deep ⋯).mono (pV ?_)).call;show⟨by rw[cI],rfl⟩
 apply pF _ _ (.list (ax _) dc (dQ.pure (c_ pl))) jO.pure;exact as_name ?_;walk_at "c";exact sAs ?_;exact uD ?_;cbv;exact qI ?_;exact gv [(ah "order",L+2)] [("order",.Zo .list (a5.map .Zn))] (vk ?_) ⟨⟨rfl,rfl,rfl,rfl⟩,trivial⟩ (M:=by show CW);exists eF O X.mu;exists eF O X.jm;cbv;apply dm (l:=M.map j7) rfl (by rw[aq];show af a4 (aB 6 999994));rw[aq];cbv;exact gi ⟨M.length,rfl,by show af a4 (aB 6 16777210),mY trivial (f:=((aJ M.length).map λk=>1+a5.idxOf k).map V.Zn) wN (by simp) (by rw[aq,bZ];show af a4 (aB 6 999994)) (λk x y d s b6 Cl=>?_) ?_⟩
 ·rw[ak] at d s;rw[ak] at s;apply E12 (bg.mp d);intro o D a6;subst a6;rw[D] at s;have al:=Option.some.inj s;clear s;subst al;have eb:o∈a5:=b4.mem_iff.mpr (ai D);cbv;exists jd O;exists jl (md (l:=a5.map .Zn) rfl) rfl;apply mf nj (l:=a5) rfl rfl eb (by show(cc▸af a4 ⋯));show oI (m:=1) ⟨rfl,rfl⟩
 exact jR (l:=[V.Zn 0]) (m:=((aJ M.length).map λk=>1+a5.idxOf k).map V.Zn) ?_ dc (by simp;show af (aA a4 1) ⋯) ?_
 ·change([A,fM n4 c4]++[_]++[_])[2]?=_;rfl
 apply pF (.Zo .list (N.map .Zn)) _ (.list (l:=N.map .Zn) (by simp) (by rw[bs];show dc) (dQ.pure (c_ N))) (by rw[av,av];show jO.pure);have hN:g.names.length<=1000:=B.ok.n;have d2:=I.len;have ef:lL pl=aJ g.names.length:=(kY I.pp.symm (rZ)).symm;exact as_name ?_;walk_at "c";exact sIf ?_;exact BH ?_;exact tCmp ?_;exists eF O X.jF;cbv;apply mj (l:=pl) rfl I.nodup (by show MC d2 hN);rw[ef];exists eF O X.uR;exists eF O X.mu;exists eF O X.jm;exists cV O K.KG rfl rfl (bU _ _) rfl;apply dm (l:=h.names.map .str) rfl (by simp;rw[I.hn];show o0 hN);rw[aq,I.hn];cbv;exact gi ?_;cbv;apply ro (by show o0 hN);exact jP nj (l:=aJ g.names.length) (b:=aJ g.names.length) rfl dc (lD ?_);rw[decide_eq_false (by simp)];apply eU rfl;exact AD ?_;exact tNot ?_;exact qR ?_;exists ik O X.sets;cbv;exact(((wz O K X I B B').deep (e:=8) ⋯).mono ?_).call;rintro _ H1;ext _ rfl hH1;exact fk ?_;apply eU rfl;exact ex_nil ?_;have ce:Za H1:=by
  rw[hH1];intro c hc;simp only[aE,bb,bq,or_false] at hc;rcases hc with((rfl|rfl)|rfl)|rfl
  ·show bL
  ·rfl
  ·show c_ _
  ·show c_ _
 clear hH1;walk_at "c";exists uA (names:=["one","two"]);exists ik O X.build;cbv;exact(((xV O K X B).deep (e:=8) ⋯).mono ?_).call;rintro _ H1;ext _ a7 am;ext a7⟨U⟩rfl a0;subst am;cbv;exists ik O X.build;cbv;exact(((xV O K X B').deep (e:=8) ⋯).mono ?_).call;rintro _ H1;ext _ an a2;ext an⟨E⟩rfl a1;subst a2;cbv;exact⟨by simp,_,rfl,rfl,?_⟩;cbv;exists ik O X.states;cbv;exact(((wA O K X I B B' a0 a1).deep (e:=8) ⋯).mono ?_).call;rintro _ H1;ext _ a6 al;ext a6⟨Q⟩bv rfl;subst al;have t:=B.pos;have F1:=λ{k:Nat} (hk:k<U.length)=>Qm I a0 a1 t hk;have F2:=λ{k k':Nat} (hk:k<U.length) (eh:k'<U.length)=>ND I a0 a1 t hk eh;have F3:=λ{k':Nat} (hk:k'<E.length)=>Lf I a0 a1 t hk;have F4:=λ{k X q:Nat} (hg:go U k X=Zs q)=>L7 I a0 a1 t hg;have F5:=λ{k:Nat} (hk:k<U.length)=>sI I a0 a1 t hk;generalize sF g h N U E=J at*;walk_at "@U E H1 Q J|a0 a1 bv ce F1 F2 F3 F4 F5";have bw:=nk B a0;have d3:=nk B' a1;have ei:Q.Nodup:=bv.nodup_iff.mpr eD;have bh:∀{k},k∈Q↔k<U.length:=λ{k}=>by rw[bv.mem_iff,cf]
 have bA:Q.length=U.length:=by rw[bv.length_eq,bZ]
 have sv:∀H,YJ H (.Zo (.dict (Q.map λk:Nat=>YI.int (k:Int))) (Q.map λk=>V.Zn (J k)))=Zs (.dict (gU J Q)):=λH=>by change Zs (YF.dict _)=_;rw[CV];rfl
 have d4:(Q.map J).Nodup:=iI ei λa ha b hb e=>F2 (bh.mp ha) (bh.mp hb) e;have ej:lL (Q.map J)=aJ E.length:=(kY (iM eD d4 λk=>by
  rw[cf,ay];constructor
  ·intro hk;apply E12 (F3 hk);intro j D h2;show cU j (bh.mpr D) h2
  ·ext _⟨j⟩D rfl;show F1 (bh.mp D)) (rZ)).symm
 exact as_name ?_;walk_at "c";exact sIf ?_;exact BH ?_;cbv;exact Dl (lD ?_);apply eU rfl;exact AD ?_;exact tCmp ?_;exists eF O X.jF;exact gv [(ah "states",L+8)] [("states",.Zo (.dict (Q.map λk:Nat=>YI.int (k:Int))) (Q.map λk=>V.Zn (J k)))] (wL (ev_name rfl ⟨_,_,rfl,mY trivial (f:=(Q.map J).map V.Zn) xw (by simp) (by simp;show MD bA bw) (λk x y d s b6 Cl=>?_) ?_⟩)) ⟨⟨rfl,rfl,rfl,rfl⟩,trivial⟩ (M:=by simp)
 ·rw[ak,ak] at d;cases D:Q[k]? with
  |none=>rw[D] at d;cases d
  |some a=>
  rw[D] at d;have a':=Option.some.inj d;clear d;subst a';rw[ak,ak,D] at s;have an:=Option.some.inj s;clear s;subst an;have ek:=ai D;cbv;show dH (k:=.int a) (kvs:=gU J Q) rfl (sv _) (by rw[iP,if_pos ek]) k_ ⟨rfl,rfl⟩
 cbv;apply mj (l:=Q.map J) (by show dc) d4 (by rw[aq];show MD bA bw);rw[ej];exists eF O X.uR;exists eF O X.mu;exists eF O X.jm;exists cV O K.KA rfl rfl (eW _ _ _) rfl;apply dm (l:=E.zipIdx.map (gu)) rfl (by simp;show af d3 (aB 131073 868927));rw[aq,fC];cbv;exact gi ?_;cbv;apply ro (by show af d3 (aB 131073 868927));exact jP nj (l:=aJ E.length) (b:=aJ E.length) ?_ dc (lD ?_)
 ·change(_++[_]++[_])[_]?=_;rw[av];show fB
 rw[decide_eq_false (by simp)];apply eU rfl;exact ex_nil ?_;have ch:Za (H1++[YF.list ((Q.map J).map V.Zn)]++[YF.list ((aJ E.length).map V.Zn)]++[YF.list ((aJ E.length).map V.Zn)]):=by
  intro c hc;simp only[aE,bb,bq,or_false] at hc;rcases hc with((hc|rfl)|rfl)|rfl
  ·show ce c hc
  ·show c_ _
  ·show c_ _
  ·show c_ _
 generalize H1++[YF.list ((Q.map J).map V.Zn)]++[YF.list ((aJ E.length).map V.Zn)]++[YF.list ((aJ E.length).map V.Zn)]=H2 at ch⊢;clear ce H1;walk_at "c";exact sAs ?_;cbv;exists A8 O K.KL;exact(((z9 O K X B a0 ch).deep (e:=8) ⋯).mono ?_).call;rintro _ H2;ext _ a2 be;ext a2⟨d5⟩al;ext al⟨d6⟩a7;ext a7⟨d7⟩a';ext a'⟨d'⟩a2;ext a2⟨da⟩a6;ext a6⟨lb,rm,fm,ms⟩rfl LO;subst be;cbv;exists A8 O K.KL;exact(((z9 O K X B' a1 ch).deep (e:=8) ⋯).mono ?_).call;rintro _ H2;ext _ bd a7;ext bd⟨db⟩a';ext a'⟨dr⟩a2;ext a2⟨ds⟩a6;ext a6⟨dx⟩bd;ext bd⟨dL⟩am;ext am⟨dV,e0,e1,b2⟩rfl LO';subst a7;cbv;exact sV ?_;exact lI ?_;exact as_name ?_;exact as_name ?_;apply E11 (⟨_,rfl⟩:∃vM,vM=xr cL (yb g U d5 d6 d7 d' da lb rm fm ms));intro vM ci;apply E11 (⟨_,rfl⟩:∃vY,vY=xr cL (yb h E db dr ds dx dL dV e0 e1 b2));intro vY cn;have aM:∀H,YN H vM=Zs (cL,dz (yb g U d5 d6 d7 d' da lb rm fm ms)):=λH=>by rw[ci];show kO _ _ _
 have aY:∀H,YN H vY=Zs (cL,dz (yb h E db dr ds dx dL dV e0 e1 b2)):=λH=>by rw[cn];show kO _ _ _
 rw[←ci,←cn];clear ci cn;have em:=jW (o:=0) (nU a0);have e2:=jW (o:=0) (nU a1);have bI:=Zd I a0 a1 F5 F4 F3 F2;have en:=λ{p:Nat×Nat} (t:p∈d8 0 U)=>Bj I a0 a1 F5 F4 F3 F2 t;have e3:=uV B a0;have eB:=uV B' a1;apply E11 (⟨_,rfl⟩:∃val:Nat×Nat->Nat,val=λp=>cN b2 ((d8 0 E).idxOf (yp J N p)));intro val e4;apply E11 (⟨_,rfl⟩:∃a3:List (YI×V),a3=(d8 0 U).map λp=>(pk (yp J N p),V.Zn (val p)));intro a3 as;walk_at "c";exact sAs ?_;exists eF O X.LS;exact gv [(ah "states",L+8),(ah "rules",L+7),(ah "places",L+6),(ah "mine",L+9)] [("states",.Zo (.dict (Q.map λk:Nat=>YI.int (k:Int))) (Q.map λk=>V.Zn (J k))),("rules",.Zo .list (N.map .Zn)),("places",.Zo .list (pl.map .Zn)),("mine",vM)] (wL (y4 O K.KL (ev_name rfl (qo (aM _) rfl ⟨_,_,rfl,mY trivial (f:=a3.map rA) xw (by simp[as]) (by simp;show e3) (λk x y d s b6 Cl=>?_) ?_⟩)))) ⟨⟨rfl,rfl,rfl,rfl⟩,⟨rfl,rfl,rfl,rfl⟩,⟨rfl,rfl,rfl,rfl⟩,⟨rfl,rfl,rfl,rfl⟩,trivial⟩ (M:=by change[ah "states",ah "rules",ah "places",ah "mine"].Nodup;decide)
 ·rw[ak,ak] at d;cases D:(d8 0 U)[k]? with
  |none=>rw[D] at d;cases d
  |some p=>
  rw[D] at d;have an:=Option.some.inj d;clear d;subst an;rw[ak,as,ak,D] at s;have a2:=Option.some.inj s;clear s;subst a2;have b1:=ai D;have kp:=en b1;have ep:=B.nr;have er:=(ae.mp D).1;cbv;apply ji (k:=0) (u:=.int p.1) rfl ⋯;exists dH (k:=.int p.1) (kvs:=gU J Q) rfl (sv _) (by rw[iP,if_pos (bh.mpr kp.1)]) k_;apply ji (k:=1) (u:=.int p.2) rfl ⋯;apply aO (l:=N.map .Zn) (k:=p.2) (u:=.Zn (jg N p.2)) rfl (by rw[ak,nq (by rw[I.NC];show kp.2)];rfl) (by show yK (af (a_ kp.2) (af ep ⋯)));cbv;exact sV ?_;cbv;exists ik O X.mask;exists cV O K.KL rfl rfl (aM _) rfl;apply dH (k:=pk p) (kvs:=((d8 0 U).map pk).zip (ms.map V.Zn)) (w:=.Zn (cN ms k)) rfl rfl (ue em D (by unfold cN;rw[ag (by rw[LO.Q9.1];show er)];rfl)) ya;cbv;exact(((tD O K X I.nodup (by show le_of_eq_of_le d2 hN) (λp t=>by have:=I.lt t;show a_ (aj this hN)) (m:=cN ms k)).deep (e:=8) ⋯).mono (Ci λz hz=>?_)).call;have co:yp J N p∈d8 0 E:=bI.mem_iff.mp (bY b1);have b3:=bD.mpr co;have hj:(d8 0 E)[(d8 0 E).idxOf (yp J N p)]?=Zs (yp J N p):=by rw[ag b3,dN b3]
  have es:=Li I a0 a1 F5 F4 F3 F2 LO LO' D hj hz;cbv;show⟨by simp,by rw[es,e4];rfl,rfl⟩
 cbv;have dl:a3.length=(d8 0 U).length:=by rw[as,aq]
 have dk:a3.map (·.1)=((d8 0 U).map (yp J N)).map pk:=by rw[as,bE,bE];rfl
 have dn:(a3.map (·.1)).Nodup:=by rw[dk];show iI (bI.nodup_iff.mpr e2) λa _a b _b e=>rM a b e
 have e5:∀p∈a3,p.1.kind=2:=λp t=>by rw[as] at t;apply E12 (ay.mp t);intro q _ be;subst be;rfl
 apply qF O (u:=2) (i:=a3) (by show dc) (λc=>by change(_++[_]++[c])[_]?=_;rw[av];show fB) dn e5 (by show le_of_eq_of_le dl e3);cbv;apply E11 (⟨_,rfl⟩:∃H3,H3=H2++[YF.list (a3.map rA)]++[YF.dict a3]);intro H3 e6;have dv:YJ H3 (.ref (H2++[YF.list (a3.map rA)]).length)=Zs (.dict a3):=by rw[e6];show dc
 rw[←e6];exact Ij ?_;cbv;apply cV O K.KL rfl rfl (aY _) rfl;have zl:((d8 0 E).map pk).length=(b2.map V.Zn).length:=by rw[aq,aq,LO'.Q9.1]
 exact wo (kvs:=a3) (c:=((d8 0 E).map pk).zip (b2.map V.Zn)) dv rfl ?_ e5 ?_ ?_ ?_ ⟨_,rfl,?_⟩
 ·rw[List.length_zip,←zl,Rh,aq,dl,←bI.length_eq,aq]
 ·intro p t;have:=(Ml (a:=p.1) (b:=p.2) t).1;apply E12 (ay.mp this);intro q _ e;rw[←e];rfl
 ·intro p t;rw[as] at t;apply E12 (ay.mp t);intro q hq a6;subst a6;have co:yp J N q∈d8 0 E:=bI.mem_iff.mp (bY hq);have b3:=bD.mpr co;have hj:(d8 0 E)[(d8 0 E).idxOf (yp J N q)]?=Zs (yp J N q):=by rw[ag b3,dN b3]
  show ue e2 hj (by rw[e4];change _=Zs (cN b2 _);unfold cN;rw[ag (by rw[LO'.Q9.1];show b3)];rfl)
 ·intro p t;rw[as] at t;apply E12 (ay.mp t);intro q hq al;subst al;show lC _ rfl
 apply fY rfl;exact Ij ?_;cbv;exists ik O X.WN;cbv;exact(((Js O K X (aM _) (o:=GW (YH g U)) rfl rfl (n:=(YH g U).length) (by simp) rfl rfl LO.rr LO.rt).deep (e:=8) ⋯).mono ?_).call;rintro _ H4;ext _ rfl rfl;cbv;exists ik O X.WN;cbv;exact(((Js O K X (aY _) (o:=GW (YH h E)) rfl rfl (n:=(YH h E).length) (by simp) rfl rfl LO'.rr LO'.rt).deep (e:=8) ⋯).mono ?_).call;rintro _ H4;ext _ rfl rfl;exact Ec ⟨_,rfl,?_⟩;exact fY ?_ ?_
 ·rw[decide_eq_true_eq,decide_eq_decide,Ac a0 LO,Ac a1 LO'];show Jm I a0 a1 F5 F4 F3 F2
 exact KX ?_;cbv;exists eF O X.jm;cbv;exact DD (sv _) (l:=Q) ?_ (by show MD bA bw) ?_
 ·unfold gU;rw[bE];rfl
 cbv;exists eF O X.jm;exists cV O K.KA rfl rfl (eW _ _ _) rfl;apply dm (l:=U.zipIdx.map (gu)) rfl (by simp;show af bw (aB 131073 868927));rw[aq,fC];exact rh ?_;apply cU _ rfl;rw[bA,decide_eq_true rfl]
end
noncomputable def GY(K:N_)(a:Addr):FuncData:=match K.lookup a with|some ⟨_,_,.func b,_⟩=>b|_=>default
noncomputable def V8(K:N_)(a:Addr):Obj:=match K.lookup a with|some o=>o|_=>⟨.none,Zt,.plain,#[]⟩
noncomputable def N6(K:N_)(b:kh)(a:Addr):=(K.lookup a,codeIn K (GY K a).code (GY K a).qualname,(GY K a).defaults)
noncomputable def N7(K:N_)(b:kh)(a:Addr)(v:Value):=(Zs (Obj.mk (V8 K a).cls (V8 K a).dict (.func (fnOf (GY K a).name (GY K a).qualname (EI b) (uM b) (lN b) (GY K a).defaults .none (GY K a).doc (GY K a).pyModule (GY K a).annotations (GY K a).code (GY K a).closureTuple)) (V8 K a).slots),true,v)
theorem E7{b c:Type}{f g:b->c}{l:List b}(h:l.map f=l.map g){i:Nat}{a:b}(e:l[i]?=Zs a):f a=g a:=by have:=congrArg (λl=>l[i]?) h;simpa[ak,e] using this
noncomputable def tG:List (String×Nat×Addr):=[("spread",2,26),("nullable",3,33),("first_of",4,40),("first_masks",5,47),("follow_masks",6,54),("transitive",7,61),("bits",11,108),("last_terminal",17,220),("digraph",20,233),("rings",21,238),("mask_behind",22,245),("add_once",24,313),("is_lr_k_none",25,320),("advanced",30,404),("kernels_behind",31,411),("complete_rules",32,418),("build",35,523),("_law_pen",37,530),("_law_draw",38,537),("_law_rules",39,542),("_law_shuffled",40,549),("_law_mask",41,556),("_law_sets_agree",42,561),("_law_states",43,566),("law",44,571)]
noncomputable def tM:List (String×Addr×Nat×Nat×Addr):=[("__init__",cG,16,0,143),("symbol_count",cG,16,1,150),("is_terminal",cG,16,2,157),("number",cG,16,4,171),("rules_of",cG,16,5,178),("item",cG,16,6,185),("rule_of",cG,16,7,192),("dot_of",cG,16,8,199),("after",cG,16,9,206),("__init__",cL,23,0,257),("number_transitions",cL,23,1,264),("find_reads",cL,23,2,271),("find_includes",cL,23,3,278),("open_ends",cL,23,4,285),("joined_masks",cL,23,5,292),("__init__",cS,28,0,334),("goto",cS,28,1,341),("__init__",cC,29,0,369),("wanted",cC,29,1,376),("added",cC,29,2,383),("close",cC,29,3,390),("__init__",cA,33,0,432),("goto",cA,33,1,439),("__init__",cB,34,0,488),("number_of",cB,34,1,495),("expand",cB,34,2,502),("built",cB,34,3,509)]
noncomputable def tB:List (String×Value):=[("list",(.type "list")),("tuple",(.type "tuple")),("int",(.type "int")),("range",(.type "range")),("reversed",(.type "reversed")),("enumerate",(.type "enumerate")),("dict",(.type "dict")),("len",(.builtin "len")),("abs",(.builtin "abs")),("max",(.builtin "max")),("sorted",(.builtin "sorted"))]
noncomputable def tC:List (String×Addr×List String):=[("Rule",cR,["number","left","right","level_of","action","line","before"]),("Grammar",cG,["names","terminal_count","rules","levels","expect","start","by_left","offsets","owners","item_count"]),("Lookaheads",cL,["automaton","nullables","transitions","index","direct","reads","includes","turns","lookback","read_masks","follow_masks","masks"]),("LrState",cS,["number","kernel","symbol","items","moves","reductions"]),("Closer",cC,["grammar","firsts"]),("Automaton",cA,["grammar","states"]),("Builder",cB,["grammar","closer","states","numbers"])]
structure Qp(K:N_):Prop where
 eG:tG.map (λr=>(Xb K iN (ah r.1),yD K (.ref r.2.2),N6 K (Zf r.2.1) r.2.2))=tG.map λr=>(Zs (Zs (.ref r.2.2)),true,N7 K (Zf r.2.1) r.2.2 .none)
 eM:tM.map (λr=>(oe K (.ref r.2.1) (ah r.1),Oi K (.ref r.2.2.2.2),yD K (.ref r.2.2.2.2),N6 K (sub r.2.2.1 r.2.2.2.1) r.2.2.2.2))=tM.map λr=>(Zs (Zs (.ref r.2.2.2.2)),Zs (.type "function"),true,N7 K (sub r.2.2.1 r.2.2.2.1) r.2.2.2.2 .none)
 eB:tB.map (λr=>(Xb K iN (ah r.1),J4 (ah r.1),ah r.1=="__name__"))=tB.map λr=>(Zs Zt,Zs r.2,false)
 eC:tC.map (λr=>(Xb K iN (ah r.1),makesIn K r.2.1,oe K (.ref r.2.1) "__getattribute__",oe K (.ref r.2.1) "__getattr__",oe K (.ref r.2.1) "__setattr__",plainOver K r.2.1,hasDictIn K r.2.1,yD K (.ref r.2.1),r.2.2.map λf=>oe K (.ref r.2.1) (ah f)))=tC.map λr=>(Zs (Zs (.ref r.2.1)),true,Zs (Zs (.builtin "object.__getattribute__")),Zs Zt,Zs (Zs (.builtin "object.__setattr__")),true,true,true,r.2.2.map λ_=>Zs Zt)
 eP:(Xb K iN (ah "plain_grammar"),yD K (.ref 226),N6 K (Zf 18) 226,K.lookup 221)=(Zs (Zs (.ref 226)),true,N7 K (Zf 18) 226 (.ref 221),Zs (gR [.none] 0))
 eR:(oe K (.ref cR) (ah "__init__"),Oi K (.ref 124),yD K (.ref 124),N6 K (sub 15 0) 124,K.lookup 117)=(Zs (Zs (.ref 124)),Zs (.type "function"),true,N7 K (sub 15 0) 124 (.ref 117),Zs (gR [.int (-1) 344,.none,.int 0 345,.int 0 346] 0))
 eV:(Xb K iN (ah "END"),Xb K iN (ah "NONE"),Xb K iN (ah "OWN_TERMINALS"),K.lookup 109)=(Zs (Zs (.int 0 325)),Zs (Zs (.int (-1) 666)),Zs (Zs (.ref 109)),Zs (gR [.str xM 327,.str Nn 328,.str Np 329] 0))
section
variable{K:N_}{T:ox}{w:gp}{h:yB}{Q:Array GenState}{o0:OsState}{mg mb:Str->Option Value}
theorem V9{b:kh}{a:Addr}{v:Value}{c:List Value}(e:N6 K b a=N7 K b a v)(d:oQ h v c):N1 ⟨T,w,K,h,Q,o0⟩ b c a:=⟨_,_,_,_,_,_,_,_,_,_,_,congrArg (·.1) e,congrArg (·.2.1) e,(show(GY K a).defaults=v from congrArg (·.2.2) e)▸d⟩
variable(Y:Qp K)
include Y
theorem mt(i:Nat){n:String}{c:Addr}{k l:Nat}{a:Addr}(e:tM[i]?=Zs (n,c,k,l,a)):qH ⟨T,w,K,h,Q,o0⟩ c n k l [] a:=
 have e:=E7 Y.eM e
 ⟨⟨congrArg (·.1) e,congrArg (·.2.1) e,congrArg (·.2.2.1) e⟩,V9 (v:=.none) (congrArg (·.2.2.2) e) rfl⟩
variable(X:K.In h)
include X
omit Y in
theorem WS{b:kh}{a d:Addr}{c:List Value}{n:Nat}(e:N6 K b a=N7 K b a (.ref d))(f:K.lookup d=Zs (gR c n))(g:c≠[]):N1 ⟨T,w,K,h,Q,o0⟩ b c a:=V9 e ⟨g,n,X _ _ f⟩
variable(G:h.Ns iN mg)
include G
theorem gf(i:Nat){n:String}{k:Nat}{a:Addr}(e:tG[i]?=Zs (n,k,a)):qn ⟨T,w,K,h,Q,o0⟩ mg n k [] a:=
 have e:=E7 Y.eG e
 ⟨QJ X G (congrArg (·.1) e),congrArg (·.2.1) e,V9 (v:=.none) (congrArg (·.2.2) e) rfl⟩
theorem cl(i:Nat){n:String}{a:Addr}{b:List String}(e:tC[i]?=Zs (n,a,b)):Bt ⟨T,w,K,h,Q,o0⟩ mg n a b:=
 have e:=E7 Y.eC e
 ⟨QJ X G (congrArg (·.1) e),⟨congrArg (·.2.1) e,congrArg (·.2.2.1) e,congrArg (·.2.2.2.1) e,congrArg (·.2.2.2.2.1) e,congrArg (·.2.2.2.2.2.1) e,congrArg (·.2.2.2.2.2.2.1) e,congrArg (·.2.2.2.2.2.2.2.1) e⟩,JR.mp (congrArg (·.2.2.2.2.2.2.2.2) e)⟩
theorem Qq:Cs ⟨T,w,K,h,Q,o0⟩ mg:=⟨cl Y X G 0 rfl,cl Y X G 1 rfl,cl Y X G 2 rfl,cl Y X G 3 rfl,cl Y X G 4 rfl,cl Y X G 5 rfl,cl Y X G 6 rfl⟩
theorem NF:K2 ⟨T,w,K,h,Q,o0⟩ mg:=⟨109,0,327,328,329,QJ X G (congrArg (·.2.2.1) Y.eV),X _ _ (congrArg (·.2.2.2) Y.eV)⟩
variable(U:∀x:Str,x≠"__name__"->mb x=J4 x)
include U
theorem bl(i:Nat){n:String}{v:Value}(e:tB[i]?=Zs (n,v)):wV mg mb n v:=
 have e:=E7 Y.eB e
 ⟨mg_none_of X G (congrArg (·.1) e),(U _ (beq_eq_false_iff_ne.mp (congrArg (·.2.2) e))).trans (congrArg (·.2.1) e)⟩
theorem Qr:Fx ⟨T,w,K,h,Q,o0⟩ mg mb:=⟨gf Y X G 0 rfl,gf Y X G 1 rfl,gf Y X G 2 rfl,gf Y X G 3 rfl,gf Y X G 4 rfl,gf Y X G 5 rfl,gf Y X G 6 rfl,gf Y X G 7 rfl,⟨QJ X G (congrArg (·.1) Y.eP),congrArg (·.2.1) Y.eP,WS X (a:=226) (congrArg (·.2.2.1) Y.eP) (congrArg (·.2.2.2) Y.eP) (by simp)⟩,gf Y X G 8 rfl,gf Y X G 9 rfl,gf Y X G 10 rfl,gf Y X G 11 rfl,gf Y X G 12 rfl,gf Y X G 13 rfl,gf Y X G 14 rfl,gf Y X G 15 rfl,gf Y X G 16 rfl,gf Y X G 17 rfl,gf Y X G 18 rfl,gf Y X G 19 rfl,gf Y X G 20 rfl,gf Y X G 21 rfl,gf Y X G 22 rfl,gf Y X G 23 rfl,⟨⟨congrArg (·.1) Y.eR,congrArg (·.2.1) Y.eR,congrArg (·.2.2.1) Y.eR⟩,WS X (a:=124) (congrArg (·.2.2.2.1) Y.eR) (congrArg (·.2.2.2.2) Y.eR) (by simp)⟩,mt Y 0 rfl,mt Y 1 rfl,mt Y 2 rfl,mt Y 3 rfl,mt Y 4 rfl,mt Y 5 rfl,mt Y 6 rfl,mt Y 7 rfl,mt Y 8 rfl,mt Y 9 rfl,mt Y 10 rfl,mt Y 11 rfl,mt Y 12 rfl,mt Y 13 rfl,mt Y 14 rfl,mt Y 15 rfl,mt Y 16 rfl,mt Y 17 rfl,mt Y 18 rfl,mt Y 19 rfl,mt Y 20 rfl,mt Y 21 rfl,mt Y 22 rfl,mt Y 23 rfl,mt Y 24 rfl,mt Y 25 rfl,mt Y 26 rfl,bl Y X G U 0 rfl,bl Y X G U 1 rfl,bl Y X G U 2 rfl,bl Y X G U 3 rfl,bl Y X G U 4 rfl,bl Y X G U 5 rfl,bl Y X G U 6 rfl,bl Y X G U 7 rfl,bl Y X G U 8 rfl,bl Y X G U 9 rfl,bl Y X G U 10 rfl,QJ X G (congrArg (·.1) Y.eV),QJ X G (congrArg (·.2.1) Y.eV)⟩
end
theorem Af{g:Params}{h:yB}:∀{c:List Int} {f:List Value},WellAll g h f (ofPys (c.map QK))->∀w d e,bF w d e (c.map V.int) f
 |[],_,x=>by cases x;show λ_ _ _=>.nil
 |n::c,_,x=>by
  cases x with
  |cons a b=>cases a;show λw d e=>.cons (.int _ _) (Af b w d e)
theorem Q_{j:N_}(g:Qp j){k:ox}{w:gp}{s:bc}{m n:Str->Option Value}{p q:Addr}{t:List Int}{A:Params}{u:Of->bc->Prop}(d:j.In s.heap)(G:s.heap.Ns iN m)(B:s.heap.Ns E_ n)
  (D:s.heap.NoLimit)(H:∀x:Str,x≠"__name__"->n x=J4 x)(I:m (ah "law")=Zs (.ref p))(J:Well A s.heap (.ref q) (ofPy (.list (t.map QK))))(y:aa t<=1000000)
  (L:∀s',(∀b o,s.heap.get? b=Zs o->s'.heap.get? b=Zs o)->s'.gens=s.gens->s'.os=s.os->u (.ok (.ret (.bool true))) s'):wC (cX k w) callerA (.call (.ref p) ⟨[.ref q],[]⟩) u s:=by
 have f:=gf g (T:=k) (w:=w) (Q:=s.gens) (o0:=s.os) d G 24 rfl
 have e:=f.g
 rw[I] at e
 cases e
 cases J with
 |list M z=>
 have O:fy ⟨k,w,j,s.heap,s.gens,s.os⟩ m n:=⟨d,G,B,D,f.f.at_.elim λ_ h=>h.elim λ_ h=>h.elim λ_ h=>h.elim λ_ h=>h.elim λ_ h=>h.elim λ_ h=>h.elim λ_ h=>h.elim λ_ h=>h.elim λ_ h=>h.elim λ_ h=>h.elim λ_ h=>⟨571,_,by decide,d _ _ h.1⟩⟩
 focus
  apply IA.all (λO N d Q p v l f z y=>Jr O N d Q f z y) _ _ _ O (Qq g d G) (Qr g d G H) (NF g d G) _ (.Zo .list (t.map .int)) _ f (λ_=>rfl) y callerA [] (λa=>s.heap.get? a) s [.ref q] u ⟨rfl,by decide,by decide⟩ ⟨rfl,.nil,λi c a h=>by simp at h,λa h=>by simp at h,λ_ _ e=>e,λ_ _ e=>e,rfl,rfl⟩ (.cons (.Zo (.list M) (Af z _ _ _)) .nil)
 rintro v H' CX Z' x s' rfl S E r
 cases r
 show L s' (λb o=>E.frame b o (by simp) (by simp)) S.gens S.os
end Mine.Internal
namespace Mine.Internal.main
-- names that the head's helper definitions would take: kept, so that it goes on without them
local macro_rules (kind:=Lean.Parser.Command.include)|s=>mSe s
include tw2163206078188398977 tw13918071982505514521 tw15813965126469659277 tw9149475249158978189 tw6976077943530628749 tw7548181410930959757 tw4462190400977132941 tw7630305487558755245 tw4878024195029292589 tw11443288096424721517 tw8074177808019917933 tw17065865279493038221 tw12953558148630380205 tw3059808732461744397 tw10385684711634392909 tw1745101480760909229 tw1596678615197881325 tw2928028564007261197 tw15744198569236010029 tw6020624907299633524 tw12127353596698212756 tw5840107092408520212 tw9439839186583959700 tw3752198329057647284 tw15595226529075892 tw15119470463916845940 tw1283526657002427284 tw12254554216366044628 tw16747871750915486772 tw15340121470348793460 tw13783381036380690036 tw2178821199819612820 tw3958915594437787476 tw833366181672599839 tw14227087324130724127 tw12866327798292885407 tw15349743947800654751 tw11299022181482971071 tw11547382934132139519 tw571647785228454943 tw15525705244753957535 tw294303095251978911 tw8372432500344545951 tw13612386364232354495 tw10871293036084005087 tw13580096092930110239 tw3306849197303780159 tw11391020510418979679 tw17189560309898352479 tw5818237970382791039 tw9639872857315793279 tw5134070450405915007 tw12235109030325827999 tw6387438950001232582 tw6756261132437940486 tw8066810042505994534 tw9369852123599154598 tw9493952402113393094 tw17145312859027392966 tw7740549551543926822 tw13977479495569725478 tw7898563742332601926 tw8776703023565459014 tw8262367462955680934 tw8132178498146976934 tw10938402098977778470 tw1112963673480286534 tw6186417409476823366 tw18277887891688102822 tw9612118164168700870 tw14852706074398868582 tw14627560896615758001 tw1391527577248789681 tw15268511505221204785 tw7002617117321725329 tw14279578667054351857 tw1897650600844092497 tw8889909036490683537 tw11807584938254393009 tw16203443089297424273 tw2689936240190302673 tw1426165739836719336 tw1623195853881501448 tw14368548984795427624 tw17489628448806820680 tw2072994404298036584 tw7896732557465485704 tw7821556884541040040 tw13435976712825821128 tw5942491169022655432 tw2673703584191709704 tw9272406366132598344 tw15073143240194224712 tw225424674734612040 tw8440722530245238888 tw17009848309113948296 tw4156003519774020744 tw4159460275628221608 tw10440920105907014920 tw14070985297238078344 tw2069051144779121576 tw177207074890175080 tw7462917681035090600 tw15421647720072513859 tw3678926922749915011 tw16863226246277440387 tw3379733461541436291 tw6991051906849787811 tw4094807246124668419 tw17393246987506242659 tw9432906754913100419 tw3822345752796464803 tw15443453874323421859 tw10309699142624141507 tw8810294567309271235 tw8055458335546875267 tw395290525875149763 tw5197162745757122531 tw5053277156089862147 tw16891615732304830211 tw8674768394056432931 tw783142212168057530 tw12967587422831333594 tw13866156564276429082 tw8019843255630367578 tw17775395293607656282 tw5063651115755842970 tw5054592681714628026 tw12112399904496239578 tw18350620168412646394 tw12266321265796822618 tw2509485771696236314 tw18270773166306141978 tw10492438308582190394 tw17169949028938715514 tw12985563455672729498 tw10278875301165399962 tw4357975833179775930 tw4433602467837400570 tw6271459789768422213 tw15939135216810644357 tw11601682451327219109 tw15823801904750430661 tw15641333041124299813 tw8330850380621890597 tw6402511320088929861 tw11913848286851280485 tw15743930626855181957 tw14417502097949002917 tw8624647050476810405 tw1038547464879363397 tw5022756136425776485 tw17391922875715332485 tw9420458945464693125 tw10443595952217078693 tw15272384756033816549 tw13670416772910508549 tw17045747750064514181 tw17781153961316730533 tw1031765399252574917 tw10678755418281806533 tw12793961455207843180 tw4239280963099970540 tw12028935686920467596 tw738249695139976460 tw9271713227684663596 tw5460128486308123532 tw88892504447777676 tw4335910966286959084 tw15193263178978695244 tw15252723141234360556 tw18288797166873144076 tw13432973819337260183 tw7670179019842844407 tw2352082045080494391 tw15993153912089643319 tw17861241424289171767 tw14537450019153051991 tw6771591437671112567 tw867116294927962039 tw8512846599769640567 tw16136933308854893207 tw6958343538655003287 tw12405428267636687703 tw12246392102278154071 tw16308858863361778103 tw903066247759688247 tw3121664453712097879 tw16822983415644169815 tw14953484359197247582 tw14116783088108353342 tw12529423308544993278 tw5328005690235735774 tw2142373446539770622 tw1835169261126040926 tw17442377672721089886 tw14131743086799626953 tw11915975209450370505 tw8809643391664033257 tw7387095368875260393 tw18356235372429024265 tw15502279438172492361 tw3434899946491226729 tw10444647068345236073 tw2214159020210753129 tw7659538399061980777 tw13517744194886268553 tw5008847014415012073 tw14263429483411347241 tw9482223327213914921 tw2553129172841505705 tw10565047445652189705 tw14120260080095136841 tw17210249984954947657 tw13278140520634309705 tw8028819869400628128 tw18142968816848271808 tw1419027338852513248 tw7250014487561225280 tw3970840511108476544 tw16288059979852645152 tw8211863448347881248 tw13234269625008490304 tw17411139357740151808 tw8595304795500500992 tw16035636102840645184 tw15521857191610671232 tw17900695361700684923 tw16103328417691970683 tw16238430190936666235 tw1554912440253531867 tw9440510433579211515 tw7133214772809181467 tw12186387220061091099 tw4328267247735480603 tw17677493551680049499 tw4703118583338301787 tw12158052936666111867 tw2008451683862899579 tw17210058121205660539 tw12917821375779496827 tw1792248080742510491 tw7495849268563445211 tw6542570496510093371 tw6020760485785902299 tw9844532520808570107 tw14773280460464934747 tw3394368681878965627 tw3008196657469156795 tw10583265868896537019 tw13791738579797958002 tw2619486844233121682 tw1825977663594718130 tw10196920075564382162 tw798814199508267506 tw10525884347156782610 tw17008886415857585682 tw17344839780428942418 tw16191586338647638674 tw6312091815898468018 tw4351411162792525490 tw10046727809161031378 tw14766382537209830674 tw10328587823670452498 tw6524254272908164914 tw11646022107631321490 tw17557205499575929874 tw10560464971613371954 tw10021318391393745522 tw12968591962578011314 tw17924518473618601469 tw6093991748022998109 tw6795767014284890813 tw8571558186958321949 tw7784495168435344669 tw7118179723604996413 tw117865787843134301 tw6601557695192066909 tw5013185972428660573 tw11509008894443506685 tw6178081710517948605 tw12685957366688819421 tw6658326349803785021 tw18108192847358647101 tw8386956399160234941 tw5458665417225551837 tw2737031353948269604 tw14706854907117038628 tw4304834178718691396 tw11998975423125869188 tw8736997241775733956 tw11295647669604800740 tw5145756777116517348 tw6990565588677296644 tw7397454978930948644 tw7934319655989777988 tw17179648164711320676 tw14891094757345406116 tw6912118498763487492 tw16741365473365742500 tw11605412728090389508 tw4177671621994559311 tw18337712513834754415 tw15460443108094267759 tw3412744423601906063 tw18382997825090318735 tw9767782249887908399 tw3267506352983639151 tw7840089511392720015 tw3221814372556705519 tw16672347593970394415 tw16614730806028959055 tw12456801561626644367 tw14494904676204802095 tw8547835018877277807 tw7074714167717794031 tw16218993716828157846 tw17079325164956456438 tw5963143147677444598 tw268157518901931542 tw2436066020837621398 tw17180643386855433878 tw16210668033245960438 tw1303870235021155574 tw7249698444530863382 tw5103255586642191990 tw16204744479138647222 tw17616163897125503702 tw6663807924280617270 tw1062289972186488545 tw14458546566710942977 tw12608305039502615393 tw2853208382243579297 tw12453483116619877857 tw14589399786222633985 tw1687537637806219265 tw3718984994144165473 tw15469547988786640481 tw16438527106512547009 tw13119030871068887809 tw3055327740479581089 tw16229319474554376097 tw5362711270585421761 tw3087296514247745505 tw6408195481249254913 tw3441466919426651201 tw12681416834507466817 tw3917075563684514712 tw15593932114248601048 tw8511639783363027448 tw16662339119036317176 tw17797862391227879448 tw12097270978576341016 tw13087847357843552312 tw17531500886901724792 tw14332694767430785208 tw1130109773739384056 tw11888923222419618904 tw9202362961687656120 tw7679138261593991859 tw18022016729943910643 tw11579708991523040051 tw15643031011164770099 tw18301661331662831443 tw1251932400071406003 tw7929639667017200051 tw17142218151182921267 tw10322969633853836883 tw2379418587039239955 tw15124233344536562547 tw4798913882091802099 tw16238369109891383347 tw5746062570634479219 tw8402233074735576723 tw13560165558294956042 tw11175315845038103690 tw14492489044821966026 tw3898492766431878890 tw6498212960163673866 tw16405295038616099146 tw10434708572517896522 tw15065305084719027114 tw13178111602982621130 tw9335689295537598954 tw5600465124246279690 tw6744150564754420234 tw3088077927293614186 tw5445273990271448714 tw1227082755455209162 tw5667051821671876906 tw12719230891847962442 tw11527100260467649386 tw5714297817612945589 tw14030950449259988181 tw8628463995273589525 tw12853263043071137589 tw4125460202920646613 tw727201121964547221 tw9620926646237751989 tw18027279399861113557 tw13525269375820829941 tw17342739349943993621 tw16195250350033146165 tw9248355606524233013 tw7904360318250872725 tw11343223855656382485 tw7033201789201947253 tw5172733860109081237 tw10799424930603608796 tw2650101136147908316 tw8729215753904597756 tw5039935704646711612 tw13535308556146904540 tw16536999046426117148 tw1496641351508231228 tw18184679981460683836 tw9558001594617236124 tw11126551447899587804 tw8561292540247648604 tw13898727854132262300 tw11005193663938795516 tw13261660738576256540 tw4187923210075081884 tw13538414902891089991 tw8874004035559458439 tw6759289808592882343 tw6467666160085547207 tw4711006893311753447 tw6498197727744454919 tw12428166251546661703 tw3146979741847770951 tw17023186693513284007 tw18004917794731790759 tw17122517981654190023 tw7945186787910683591 tw6471150222350279623 tw16525614771705244615 tw111125614747484135 tw2525166076998268935 tw4173450901292332615 tw3965608284049720903 tw6258868486430859879 tw9687061429480002727 tw5739019924288605895 tw4091930637953755879 tw362101514219434311 tw7366966349755769390 tw2978360442360904238 tw12812171766507625038 tw8361807879002779246 tw17293040134813132398 tw16381980959767241870 tw2633100523294567566 tw15320287906085699310 tw4952695281440224590 tw10695546567524401486 tw13934254615512129870 tw10303968668570466222 tw16772482149012073998 tw13227965105119015438 tw2540495820296734350 tw1382604328053016238 tw3695579603394428622 tw7667626759038709582 tw5561763199174522734 tw6109326565077728654 tw14347226246240139161 tw14292037427810857913 tw111231791877217785 tw2992056685137445369 tw9776540465710201401 tw1578325641788532441 tw12872673566709696761 tw14775469409186757945 tw11827359447094427065 tw2184172125623563289 tw1284967617690943513 tw4615647095033124473 tw16152042100665958553 tw14006705621855905977 tw15468000139907181785 tw9257701769616213584 tw9386645067147707984 tw6520672519035416240 tw16838189389307913904 tw16028392598184163056 tw2613873015034283888 tw9002507580857799536 tw11638875634453789168 tw1863683800879511184 tw13155686724948042960 tw4331608280046720368 tw17222532714639596944 tw8858540271125762992 tw3884352726974036912 tw8872105718554685360 tw4300612742597636624 tw9537812907215041040 tw4960754326464356880 tw18398800829542192811 tw12820903949589551787 tw99894942109057259 tw6357531908561853707 tw13685464850760795979 tw1976350527869358923 tw2864606846018454059 tw5760789257564444811 tw7257662411179477739 tw12566714432673101547 tw469107726730205931 tw12425137391138224907 tw9881309371292612907 tw8307029076902094731 tw15146226633581336011 tw1845388188213433419 tw16264370154056066 tw17771075682854026626 tw1855208217236249986 tw8913700696889443298 tw11573176164066078722 tw8737412656630864066 tw925267241579179362 tw4130779263140762978 tw11543472635058493794 tw2737750725896957826 tw6046914484701750178 tw6773626534007703490 tw432037875751373314 tw12144329760196138050 tw11034916536091838146 tw11148867138117186242 tw14084985943505131202 tw5791107954587784898 tw5800097197477307618 tw18238190117704969506 tw3531981540585742146
end Mine.Internal.main
open PySem PySem.W PyProof.Rows
set_option Elab.async true in
set_option maxRecDepth 100000 in
set_option maxHeartbeats 8000000 in
theorem Mine.Internal.main:PySem.Challenge.rw_pq0559_01.Holds:=by
 w_on;o_law;k_head;(case hw=>w_witness2)
 k_fill
 intro w s0 s1 mg mb G Y fa o pm cd doc dV kV ho hd' hcd hD hmg hg args vals as hpre hlay hrd hwl hlo
 have KX:=kIn_of Y
 refine Ground.open G ?_
 intro T B D TE TW
 wrow_args hpre hlay hrd hwl hlo
 clear ho hd' hcd hD B D TE TW
 rename_i ns _ _ _ _ _ _ _ la vs _ _ _ w1 _ _ _ hc _
 refine enter_call ?_
 refine Q_ ⟨by kernel_rfl,by kernel_rfl,by kernel_rfl,by kernel_rfl,by kernel_rfl,by kernel_rfl,by kernel_rfl⟩ KX T.g T.b T.nolimit T.builtins hmg w1 (by omega) fun s' k1 k2 k3=>GoodW.toG ?_
 exact ⟨.inl ⟨_,_,_,rfl,raisesW_false (by wrow_none_raised),.bool true,postW_of (by wrow_shape) (by wtm_val) (by w_fin),fun _=>⟨.nil,fun a h=>by simp at h⟩⟩,k1,k3,k2.trans hg⟩
theorem PySem.Challenge.cw_pq0559_01_holds : PySem.Challenge.rw_pq0559_01.Holds :=
  Mine.Internal.main
