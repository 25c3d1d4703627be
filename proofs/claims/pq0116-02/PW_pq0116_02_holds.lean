import PyProof.Rows.All
import Wide.All
import OpenK.AllK
import Wide.FinOn
import Lean
import PySem.Challenge.RW_pq0116_02
set_option Elab.async false
set_option linter.all false
set_option tactic.hygienic false
set_option genSizeOf false
set_option compiler.extract_closed false
set_option genInjectivity false
set_option bootstrap.genMatcherCode false
open And renaming intro→Ip
open Array renaming forIn_toList→aac,getD_eq_getD_getElem?→C7,getD→adA,getElem?_eq_getElem→mD,getElem?_eq_none_iff→N3,getElem?_eq_none→ux,getElem?_eq_some_iff→wG,getElem?_mapIdx→ZG,getElem?_toList→lR,length_toList→eV,mem_toList_iff→Dh,perm_iff_toList_perm→N2,toList_eraseIdxIfInBounds→Y',toList_inj→Dr,toList_push→G0,toList→Hk
open Bool renaming and_eq_true_iff→oi,and_eq_true→cm,and_false→O7,and_true→DA,eq_iff_iff→O2,false_eq_true→nw,false_ne_true→wM,noConfusion→aQ,not_eq_true'→wP,or_eq_false_iff→ZV,or_eq_true→lU,true_and→Pj
open Classical renaming not_imp→pI,not_not→pJ
open Decidable renaming decide→OP
open Except renaming ok→aeJ
open Int renaming add_comm→Hj,add_sub_cancel→Ou,compare_eq_eq→aan,compare_eq_lt→OB,ediv_one→Px,le_of_lt→zr,le_trans→sK,lt_of_le_of_lt→GW,lt_of_lt_of_le→Z',lt_trans→DD,min_eq_left→G7,natCast_add→aaW,natCast_emod→G3,natCast_pow→aaY,not_le→QG,not_lt→xj,ofNat_lt→DC,one_mul→PV,sub_add_cancel→aab,sub_eq_add_neg→aaa,sub_le_self→aaO,sub_zero→abH,toNat_natCast→sH,toNat_of_nonpos→Z3
open List renaming Pairwise→abo,all_eq_true→hU,all_map→PA,any_cons→w7,any_eq_false→OD,any_eq_true→uC,any_map→DG,any→Eo,append_assoc→lm,append_nil→gU,cons_append→wU,contains_iff_mem→zc,countP_le_length→ZT,countP_map→aaS,dropLast_concat_getLast→Ze,dropLast_concat→Z2,dropLast_eq_take→Oh,drop_eq_getElem_cons→C8,drop_length→wS,eq_nil_of_length_eq_zero→GA,eraseIdx_eq_take_drop_succ→Y9,ext_getElem?→ON,ext_getElem→Dt,filterMap_cons→Oo,filterMap_map→Ox,filter_congr→aaz,filter_cons→OS,filter_sublist→GU,find?_cons→wW,find?_eq_none→aaj,find?_map→aa9,find?_some→O0,findIdx?_eq_none_iff→Zl,findIdx?_eq_some_iff_getElem→Y8,flatMap_append→Z9,flatMap_cons→eK,flatMap_nil→uD,flatMap→PB,foldl_cons→OW,foldl→DR,forIn_cons→OV,forIn_nil→O6,getD_eq_getElem?_getD→uu,getElem?_cons_succ→N',getElem?_cons_zero→Oa,getElem?_eq_getElem→y',getElem?_eq_none→ZS,getElem?_eq_some_iff→GH,getElem?_map→ll,getElem?_set_ne→Di,getElem?_set_self→Og,getElem?_set→Dp,getElem_mem→kz,length_append→cS,length_cons→bL,length_eq_one_iff→ZE,length_eq_zero_iff→Da,length_eraseIdx→Z0,length_filter_le→zb,length_map→aw,length_nil→dO,length_range'→aak,length_range→G2,length_replicate→Oj,length_reverse→GS,length_take→G4,length→pR,lookup_append→Oy,lookup_cons→lT,lookup→acs,lt_irrefl→aa8,map_append→fk,map_congr_left→mG,map_cons→bE,map_eq_nil_iff→Dk,map_flatMap→G5,map_id→HC,map_map→dW,map_nil→uF,map_reverse→OT,map→z9,mem_append_left→pH,mem_append_right→wI,mem_append→ln,mem_cons_of_mem→ZZ,mem_cons_self→aah,mem_cons→bK,mem_filter→kE,mem_flatMap→jr,mem_map→fQ,mem_of_find?_eq_some→Zm,mem_of_getElem?→Dg,mem_range→zh,mem_singleton→bY,nil_append→kC,nil_perm→Pc,nodup_append→Dq,nodup_cons→lW,nodup_nil→Ha,not_lt→ack,not_mem_nil→mH,of_mem_zip→O1,pairwise_cons→wL,perm_ext_iff_of_nodup→N4,perm_middle→G6,range'→P0,range→lr,rec→Tl,replicate_succ→GR,replicate→ii,reverse_cons→OE,set_comm→Ph,set_set→qU,size_toArray→aap,take_of_length_le→Od,toArray→zt,zip_cons_cons→GY
open List.Nodup renaming sublist→Oz
open List.Pairwise renaming nil→aar,of_map→arX,sublist→arW
open List.Perm renaming cons_inv→Dn,flatMap_right→Zy
open List.cons renaming injEq→gT
open Nat renaming add_add_add_comm→zd,add_assoc→Dy,add_comm→xb,add_le_add_left→Dj,add_le_add_right→Df,add_le_add→wZ,add_left_cancel→Z8,add_left_comm→aay,add_right_comm→GV,add_sub_of_le→aao,add_zero→Pw,beq→uV,ble→EP,div_le_self→aaZ,div_lt_of_lt_mul→ZU,le_add_right→kx,le_antisymm→bR,le_max_left→mI,le_max_right→oo,le_mul_of_pos_right→Db,le_of_ble_eq_true→ZF,le_of_eq→aA,le_of_lt_succ→OA,le_of_lt→fA,le_of_not_lt→kw,le_of_succ_le_succ→Ob,le_of_succ_le→wO,le_refl→a8,le_sub_one_of_lt→Ol,le_succ_of_le→aat,le_succ→sR,le_total→eN,le_trans→aB,lt_add_of_pos_right→C9,lt_asymm→abI,lt_irrefl→pN,lt_of_le_of_lt→wK,lt_of_le_of_ne→Dl,lt_of_lt_of_eq→Ot,lt_of_lt_of_le→Dm,lt_of_not_le→uB,lt_of_succ_lt_succ→ZC,lt_or_ge→pO,lt_succ_iff→aaX,lt_succ_of_le→aal,lt_succ_of_lt→G1,lt_succ_self→wR,lt_trans→abK,min_le_left→nA,mod_lt→DV,mul_assoc→zj,mul_comm→zp,mul_le_mul_left→GQ,mul_le_mul_right→lS,mul_le_mul→Hd,ne_of_gt→lX,ne_of_lt→dH,not_lt_zero→OU,not_lt→sT,one_mul→sQ,pos_of_ne_zero→Ov,pow_add→PZ,pow_le_pow_right→kr,pow_pos→sS,pow_succ→zv,sub_le→qY,succ_le_succ→pK,succ_mul→sO,succ_ne_self→OR,succ_ne_zero→aaC,succ_pos→zo,succ→xw,two_pos→DL,zero_add→js,zero_le→dn,zero_lt_of_lt→aam,zero_mul→Pu
open Nat.succ renaming inj→zq
open Ne renaming symm→oH
open Option renaming bind_eq_some_iff→sG,bind_some→iC,bind→Hy,getD_some→aaG,getD→acr,isSome_some→aae,map_eq_some_iff→GN,map_map→O9,map_some→uE,map→QF,none→acn
open Option.some renaming injEq→dj,inj→gS
open Or renaming elim→a9
open Ordering renaming gt→Hz,noConfusion→oj
open Prod renaming fst→q8,snd→IY
open Prod.mk renaming injEq→iS,inj→acu
open PyProof.Rows renaming IntsAre→ER,IsTup→vN,MethodCall_→zy,Subscript_→QH,callWith_builtin1→y8,callWith_method0→Zc,callWith_method1→N0,get?_update_seq→wV,getElem?_mirror_all→Z4,getMethod_list_of→aas,len_tuple→arV,listUpdate_at→Hf,lt_str→arY,neg_int→ZX,seqEpoch_at→HA,slot_tuple_getitem→Ow,spliced_more→f8,spliced_none→iU,tail_any→tb
open PyProof.Rows.F renaming entry_set_update_loop→Y5,plain_set_update_loop→NX
open PySem renaming Addr→az,Around→bV,Builtin→hY,DictEntry→zO,Heap→aG,IsPair→rn,IsPart→kO,IsZip→yj,ItemsOf→EQ,Meets→rJ,Moved→acw,NameKind→jv,Params→vd,Program→eE,PyData→ah,ReadsAll→lu,Reads→jj,Result→x5,Scope→jA,SetTable→nF,Shared→aJ,Stmt→lI,Value→ao,Walks→vO,World→dg,builtinLookup_eq_fast→ZQ,call_meetsIn→Py,call_meets→qX,codeAny_builtin→lV,codeAny_compStart_list→Oe,codeAny_mono→zu,codeAny_of_tree→OY,concat_meets→Hl,getMethod_builtin→OM,isSubtype_stop→O4,isSubtype_type→O8,noFill_tuple_add→OQ,pairTrees_cons_walk→Z7,plainId_quiet→nB,richCompare_meets_room→ZB,seqSlot_of→aaE,seq_tuple_add→Pd,sizeLine_eq→HB,slot_dict_getitem→OF,slot_list_getitem→OC,strKind_is→mM,strKind→w8,sub_AttributeError→aai,wpAny_Assign_Subscript→Of,wpAny_Assign_stores→wJ,wpAny_Call_NameR→kA,wpAny_Constant_int→zf,wpAny_Constant_none→Z5,wpAny_Constant_str→GX,wpAny_Dict_empty→aaI,wpAny_List→DS,wpAny_Name→zE,wpAny_Tuple→PX,wpAny_askSetting→wT,wpAny_assign_Name→OJ,wpAny_assign_Tuple→aag,wpAny_attempt→Dz,wpAny_bind→am,wpAny_callSpecial?_slot→uw,wpAny_call_entry→ny,wpAny_call→QJ,wpAny_dictEntries→OH,wpAny_dictEpoch→OX,wpAny_execs_cons→jT,wpAny_execs_nil→OZ,wpAny_fieldsOf→Hb,wpAny_field→pQ,wpAny_forIn_list→aaD,wpAny_getItem_of→aaF,wpAny_handled→Pg,wpAny_holding→jU,wpAny_isInstance→Ds,wpAny_isOneOf_keyiter→ZL,wpAny_isTrue_Compare1→De,wpAny_ite_split→wX,wpAny_loadName_local→GP,wpAny_loadPart'→hV,wpAny_load→DT,wpAny_mono→cn,wpAny_newList→Pe,wpAny_newObj_type→lh,wpAny_newTuple→G',wpAny_notOrdered_dict→ZJ,wpAny_of_eq→DM,wpAny_pure→aH,wpAny_pyIter_enum→aau,wpAny_pyIter_keyiter→ZY,wpAny_pyIter_list→OL,wpAny_pyIter_slot→OG,wpAny_pyIter_tuple→wN,wpAny_pyIter_zip→aaK,wpAny_rule→uI,wpAny_runValue→O5,wpAny_seqItems→sI,wpAny_setEntries_of→Oq,wpAny_setField_rec→GZ,wpAny_setField→qT,wpAny_setItem_pairs→Z6,wpAny_setState_of→uA,wpAny_standAt→zl,wpAny_storeName_local→Oi,wpAny_storeSet_of→aaw,wpAny_throw→PY,wpAny_truthy_bool→wQ,wpAny_typeNameOfWhole_keyiter→GB,wpAny_typeNameOf_keyiter→GK,wpAny_typeOf→DF,wpAny_updateSeq_pair→Z1,wpAny_updateSeq→Dv
open PySem.Around renaming under_plainId→mF
open PySem.AutoSeq1 renaming sub_list_list→ZA,sub_tuple_tuple→Zo
open PySem.Builtin.Dict renaming dictSlotNone→arT,showsAll→ZK
open PySem.Builtin.Dict_items renaming ownsTuple→GC
open PySem.Builtin.Frozenset renaming updateFrom→arQ
open PySem.Builtin.List renaming listExtendWith→arR,listLengthHint→N1,listSameRef→Zu,listTooLong→N7
open PySem.Builtin.Range renaming rangeSize→arU,small→ar0
open PySem.Builtin.Slice renaming sliceAdjust→uv,sliceApplied→arS,slicePartIndex→arP,slicePlaces→y9
open PySem.Builtin.SmallTypes renaming nextOf→GI,ownedTupleHandOut→Y6,ownedTupleIsFree→Y7
open PySem.Builtin.Tuple renaming tupleExact→GJ,tupleHashOf→Zk,tupleItemsOf→Zh,tupleTooMany→Zi
open PySem.Calls renaming Name_function_global→ZW
open PySem.Data renaming noConfusion→zg
open PySem.ExcName renaming means→abn
open PySem.F renaming args_dict_keyiterator_next_1→Za,args_tuple_add_2→N5,args_tuple_iterator_next_1→Zd,args_tuple_mul_2→N6,args_zip_next_1→aax,called_set→uz,entry_dict_keyiterator_next→Zb,entry_list_iadd→aaq,entry_proto_collect→ZM,entry_tuple_add→N8,entry_tuple_iterator_next→Zg,entry_tuple_mul→N9,entry_zip_next→aaJ,plainAttrs_dict→Zw,plain_extend_loop→Zn,plain_list_iadd→GL,plain_proto_collect→Zf,plain_set_new→ZP,slot_dict_get→ZO,slot_dict_items→Zx,slot_dict_iter→aaH,slot_dict_keyiterator_next→C6,slot_int_rmul→ZI,slot_list_append→Zr,slot_list_extend→Zq,slot_list_getattribute→NZ,slot_list_pop→ZN,slot_list_remove→Zs,slot_set_iter→ZR,slot_str_getitem→aad,slot_tuple_add→Oc,slot_tuple_count→Zt,slot_tuple_getattribute→NY,slot_tuple_iterator_next→GG,slot_tuple_mul→Dd,slot_tuple_rmul→Zv,slot_zip_next→G8
open PySem.Flow renaming next→RT,ret→Tn
open PySem.Heap renaming ExtBut→zA,IsTuple→abJ,SameBut→jV,get?_none_of_le→om,get?_push_of_some→bT,get?_push_size→cJ,get?_update_ne→On,get?_update_other→ZD,get?_update_self→wH,lt_size→dI,size_push→kF
open PySem.Heap.DictOf renaming new→aaU
open PySem.Heap.DictOfH renaming new→ar1,typeIs→arZ
open PySem.Heap.IsSliceOf renaming new→aaf
open PySem.Heap.SameBut renaming refl→aav,update→ku
open PySem.IsRange renaming new→acx
open PySem.MeetsSeq renaming entry_remove_loop→Zj,plain_remove_loop→GF
open PySem.NameKind renaming cell→w9,free→Hg,noConfusion→GD
open PySem.Obj renaming cls_mapFields→OI,data_mapFields→uy,isFreed_of_fields→GO,mapFields→Pf,mapSeq→f9,putSet→DU
open PySem.Pv renaming callWith_type1→mE
open PySem.PyData renaming canLay0→mJ,canLayAll0→eA,depthAll→eM,depth→gV,eqvAll→He,eqv→cA,int→kG,list→jW,none→PW,strOk→sN,str→eB,tuple→sL
open PySem.PyData.bool renaming injEq→Do
open PySem.PyData.str renaming injEq→aaL
open PySem.PyData.tuple renaming injEq→ze
open PySem.SeqAt renaming canLay_of_shaped→za,depth_of_shaped→ZH,notIn_list_reads→Zz,shaped→DE
open PySem.SetTable renaming below→w6,grown→w4
open PySem.SetTable.below renaming go→OO
open PySem.Shared renaming TypeIs→abm,heap→acv
open PySem.Str renaming cps→Jx,length→HQ,ofString→bl
open PySem.Value renaming bool→adz,builtin→abl,isStrOf→zk,isStr→acp,noConfusion→C',none→ju,notImplemented→Om,ref→kI,str→RS,type→mL
open PySem.W renaming callWith_K→QI,kas_rev→Jy
open PySem.W.KTurns renaming ofWalks→Hc
open PySem.W.RowW renaming records→abM
open PySem.Walks renaming list→QK,tuple→acq
open PySem.pickOrder renaming go→Pz
noncomputable section
namespace bh
section
variable{G:Prop}{A as6 C D E F as4 I as3:Sort _}
variable{J p1 p2 p3 p4 p5 p6 p7 p8 p9 F6 XQ:Prop}{q0 q1 q2 q3 q4 q5 q6:A->Prop}{r0 r1 r2 r3 r4 r5 r6:A->as6->Prop}{s0 s1 s2 s3 s4 s5 s6:A->as6->C->Prop}{t0 t1 t2 t3 t4:A->as6->C->D->Prop}{u0 u1 u2 u3:A->as6->C->D->E->Prop}{B v1 v2 v3:A->as6->C->D->E->F->Prop}{w0 w1:A->as6->C->D->E->F->as4->Prop}{x0 x1:A->as6->C->D->E->F->as4->I->Prop}{y0:A->as6->C->D->E->F->as4->I->as3->Prop}
theorem xa(h:J/\p1)(k:J->p1->G):G:=k h.1 h.2
theorem xe(h:∃a,q0 a)(k:∀a,q0 a->G):G:=h.elim k
theorem cj(h:J/\p1/\p2)(k:J->p1->p2->G):G:=xa h.2 (k h.1)
theorem bO(h0:J)(H:p1)(O:p2):J/\p1/\p2:=⟨h0,H,O⟩
theorem qG(h:J/\∃a,q0 a)(k:J->∀a,q0 a->G):G:=xe h.2 (k h.1)
theorem XR(h0:J)(a:A)(H:q0 a):J/\∃a,q0 a:=⟨h0,a,H⟩
theorem ar(h:∃a,q0 a/\q1 a)(k:∀a,q0 a->q1 a->G):G:=h.elim λa h=>xa h (k a)
theorem ai(a:A)(h0:q0 a)(H:q1 a):∃a,q0 a/\q1 a:=⟨a,h0,H⟩
theorem iz(h:∃a b,r0 a b)(k:∀a b,r0 a b->G):G:=h.elim λa h=>xe h (k a)
theorem ie(a:A)(b:as6)(h0:r0 a b):∃a b,r0 a b:=⟨a,b,h0⟩
theorem fU(h:J/\p1/\p2/\p3)(k:J->p1->p2->p3->G):G:=cj h.2 (k h.1)
theorem fb(h0:J)(H:p1)(O:p2)(h3:p3):J/\p1/\p2/\p3:=⟨h0,bO H O h3⟩
theorem rK(h:J/\p1/\∃a,q0 a)(k:J->p1->∀a,q0 a->G):G:=qG h.2 (k h.1)
theorem vP(h0:J)(H:p1)(a:A)(O:q0 a):J/\p1/\∃a,q0 a:=⟨h0,XR H a O⟩
theorem vQ(h:J/\∃a,q0 a/\q1 a)(k:J->∀a,q0 a->q1 a->G):G:=ar h.2 (k h.1)
theorem oY(h0:J)(a:A)(H:q0 a)(O:q1 a):J/\∃a,q0 a/\q1 a:=⟨h0,ai a H O⟩
theorem cq(h:∃a,q0 a/\q1 a/\q2 a)(k:∀a,q0 a->q1 a->q2 a->G):G:=h.elim λa h=>cj h (k a)
theorem bQ(a:A)(h0:q0 a)(H:q1 a)(O:q2 a):∃a,q0 a/\q1 a/\q2 a:=⟨a,bO h0 H O⟩
theorem cP(h:∃a b,r0 a b/\r1 a b)(k:∀a b,r0 a b->r1 a b->G):G:=h.elim λa h=>ar h (k a)
theorem gq(a:A)(b:as6)(h0:r0 a b)(H:r1 a b):∃a b,r0 a b/\r1 a b:=⟨a,ai b h0 H⟩
theorem Me(h:∃a b c,s0 a b c)(k:∀a b c,s0 a b c->G):G:=h.elim λa h=>iz h (k a)
theorem Mf(a:A)(b:as6)(c:C)(h0:s0 a b c):∃a b c,s0 a b c:=⟨a,ie b c h0⟩
theorem j3(h:J/\p1/\p2/\p3/\p4)(k:J->p1->p2->p3->p4->G):G:=fU h.2 (k h.1)
theorem md(h0:J)(H:p1)(O:p2)(h3:p3)(h4:p4):J/\p1/\p2/\p3/\p4:=⟨h0,fb H O h3 h4⟩
theorem aju(h:J/\p1/\p2/\∃a,q0 a)(k:J->p1->p2->∀a,q0 a->G):G:=rK h.2 (k h.1)
theorem J0(h:J/\p1/\∃a,q0 a/\q1 a)(k:J->p1->∀a,q0 a->q1 a->G):G:=vQ h.2 (k h.1)
theorem VC(h0:J)(H:p1)(a:A)(O:q0 a)(h3:q1 a):J/\p1/\∃a,q0 a/\q1 a:=⟨h0,oY H a O h3⟩
theorem J3(h:J/\∃a,q0 a/\q1 a/\q2 a)(k:J->∀a,q0 a->q1 a->q2 a->G):G:=cq h.2 (k h.1)
theorem J4(h0:J)(a:A)(H:q0 a)(O:q1 a)(h3:q2 a):J/\∃a,q0 a/\q1 a/\q2 a:=⟨h0,bQ a H O h3⟩
theorem J5(h:J/\∃a b,r0 a b/\r1 a b)(k:J->∀a b,r0 a b->r1 a b->G):G:=cP h.2 (k h.1)
theorem VD(h0:J)(a:A)(b:as6)(H:r0 a b)(O:r1 a b):J/\∃a b,r0 a b/\r1 a b:=⟨h0,gq a b H O⟩
theorem jg(h:∃a,q0 a/\q1 a/\q2 a/\q3 a)(k:∀a,q0 a->q1 a->q2 a->q3 a->G):G:=h.elim λa h=>fU h (k a)
theorem nL(a:A)(h0:q0 a)(H:q1 a)(O:q2 a)(h3:q3 a):∃a,q0 a/\q1 a/\q2 a/\q3 a:=⟨a,fb h0 H O h3⟩
theorem mX(h:∃a,q0 a/\q1 a/\∃b,r0 a b)(k:∀a,q0 a->q1 a->∀b,r0 a b->G):G:=h.elim λa h=>rK h (k a)
theorem iY(a:A)(h0:q0 a)(H:q1 a)(b:as6)(O:r0 a b):∃a,q0 a/\q1 a/\∃b,r0 a b:=⟨a,vP h0 H b O⟩
theorem Fj(h:∃a,q0 a/\∃b,r0 a b/\r1 a b)(k:∀a,q0 a->∀b,r0 a b->r1 a b->G):G:=h.elim λa h=>vQ h (k a)
theorem gC(a:A)(h0:q0 a)(b:as6)(H:r0 a b)(O:r1 a b):∃a,q0 a/\∃b,r0 a b/\r1 a b:=⟨a,oY h0 b H O⟩
theorem bZ(h:∃a b,r0 a b/\r1 a b/\r2 a b)(k:∀a b,r0 a b->r1 a b->r2 a b->G):G:=h.elim λa h=>cq h (k a)
theorem eY(a:A)(b:as6)(h0:r0 a b)(H:r1 a b)(O:r2 a b):∃a b,r0 a b/\r1 a b/\r2 a b:=⟨a,bQ b h0 H O⟩
theorem gE(h:∃a b c,s0 a b c/\s1 a b c)(k:∀a b c,s0 a b c->s1 a b c->G):G:=h.elim λa h=>cP h (k a)
theorem tE(a:A)(b:as6)(c:C)(h0:s0 a b c)(H:s1 a b c):∃a b c,s0 a b c/\s1 a b c:=⟨a,gq b c h0 H⟩
theorem x6(h:∃a b c d,t0 a b c d)(k:∀a b c d,t0 a b c d->G):G:=h.elim λa h=>Me h (k a)
theorem AJ(a:A)(b:as6)(c:C)(d:D)(h0:t0 a b c d):∃a b c d,t0 a b c d:=⟨a,Mf b c d h0⟩
theorem ES(h:J/\p1/\p2/\p3/\p4/\p5)(k:J->p1->p2->p3->p4->p5->G):G:=j3 h.2 (k h.1)
theorem Au(h0:J)(H:p1)(O:p2)(h3:p3)(h4:p4)(h5:p5):J/\p1/\p2/\p3/\p4/\p5:=⟨h0,md H O h3 h4 h5⟩
theorem aim(h:J/\p1/\p2/\p3/\∃a,q0 a)(k:J->p1->p2->p3->∀a,q0 a->G):G:=aju h.2 (k h.1)
theorem ET(h:J/\p1/\∃a,q0 a/\q1 a/\q2 a)(k:J->p1->∀a,q0 a->q1 a->q2 a->G):G:=J3 h.2 (k h.1)
theorem ain(h0:J)(H:p1)(a:A)(O:q0 a)(h3:q1 a)(h4:q2 a):J/\p1/\∃a,q0 a/\q1 a/\q2 a:=⟨h0,J4 H a O h3 h4⟩
theorem nJ(h:J/\p1/\∃a b,r0 a b/\r1 a b)(k:J->p1->∀a b,r0 a b->r1 a b->G):G:=J5 h.2 (k h.1)
theorem xO(h0:J)(H:p1)(a:A)(b:as6)(O:r0 a b)(h3:r1 a b):J/\p1/\∃a b,r0 a b/\r1 a b:=⟨h0,VD H a b O h3⟩
theorem aio(h:J/\∃a,q0 a/\q1 a/\q2 a/\q3 a)(k:J->∀a,q0 a->q1 a->q2 a->q3 a->G):G:=jg h.2 (k h.1)
theorem aip(h0:J)(a:A)(H:q0 a)(O:q1 a)(h3:q2 a)(h4:q3 a):J/\∃a,q0 a/\q1 a/\q2 a/\q3 a:=⟨h0,nL a H O h3 h4⟩
theorem UI(h0:J)(a:A)(H:q0 a)(b:as6)(O:r0 a b)(h3:r1 a b):J/\∃a,q0 a/\∃b,r0 a b/\r1 a b:=⟨h0,gC a H b O h3⟩
theorem EU(h:J/\∃a b,r0 a b/\r1 a b/\r2 a b)(k:J->∀a b,r0 a b->r1 a b->r2 a b->G):G:=bZ h.2 (k h.1)
theorem uW(h0:J)(a:A)(b:as6)(H:r0 a b)(O:r1 a b)(h3:r2 a b):J/\∃a b,r0 a b/\r1 a b/\r2 a b:=⟨h0,eY a b H O h3⟩
theorem UJ(h0:J)(a:A)(b:as6)(c:C)(d:D)(H:t0 a b c d):J/\∃a b c d,t0 a b c d:=⟨h0,AJ a b c d H⟩
theorem EV(h:∃a,q0 a/\q1 a/\q2 a/\q3 a/\q4 a)(k:∀a,q0 a->q1 a->q2 a->q3 a->q4 a->G):G:=h.elim λa h=>j3 h (k a)
theorem Av(a:A)(h0:q0 a)(H:q1 a)(O:q2 a)(h3:q3 a)(h4:q4 a):∃a,q0 a/\q1 a/\q2 a/\q3 a/\q4 a:=⟨a,md h0 H O h3 h4⟩
theorem UK(h:∃a,q0 a/\q1 a/\∃b,r0 a b/\r1 a b)(k:∀a,q0 a->q1 a->∀b,r0 a b->r1 a b->G):G:=h.elim λa h=>J0 h (k a)
theorem UL(a:A)(h0:q0 a)(H:q1 a)(b:as6)(O:r0 a b)(h3:r1 a b):∃a,q0 a/\q1 a/\∃b,r0 a b/\r1 a b:=⟨a,VC h0 H b O h3⟩
theorem xP(h:∃a,q0 a/\∃b,r0 a b/\r1 a b/\r2 a b)(k:∀a,q0 a->∀b,r0 a b->r1 a b->r2 a b->G):G:=h.elim λa h=>J3 h (k a)
theorem EW(a:A)(h0:q0 a)(b:as6)(H:r0 a b)(O:r1 a b)(h3:r2 a b):∃a,q0 a/\∃b,r0 a b/\r1 a b/\r2 a b:=⟨a,J4 h0 b H O h3⟩
theorem uX(h:∃a b,r0 a b/\r1 a b/\r2 a b/\r3 a b)(k:∀a b,r0 a b->r1 a b->r2 a b->r3 a b->G):G:=h.elim λa h=>jg h (k a)
theorem Aw(a:A)(b:as6)(h0:r0 a b)(H:r1 a b)(O:r2 a b)(h3:r3 a b):∃a b,r0 a b/\r1 a b/\r2 a b/\r3 a b:=⟨a,nL b h0 H O h3⟩
theorem uY(h:∃a b c,s0 a b c/\s1 a b c/\s2 a b c)(k:∀a b c,s0 a b c->s1 a b c->s2 a b c->G):G:=h.elim λa h=>bZ h (k a)
theorem EX(a:A)(b:as6)(c:C)(h0:s0 a b c)(H:s1 a b c)(O:s2 a b c):∃a b c,s0 a b c/\s1 a b c/\s2 a b c:=⟨a,eY b c h0 H O⟩
theorem xQ(h:∃a b c d,t0 a b c d/\t1 a b c d)(k:∀a b c d,t0 a b c d->t1 a b c d->G):G:=h.elim λa h=>gE h (k a)
theorem fS(a:A)(b:as6)(c:C)(d:D)(h0:t0 a b c d)(H:t1 a b c d):∃a b c d,t0 a b c d/\t1 a b c d:=⟨a,tE b c d h0 H⟩
theorem oI(h:∃a b c d e,u0 a b c d e)(k:∀a b c d e,u0 a b c d e->G):G:=h.elim λa h=>x6 h (k a)
theorem uZ(a:A)(b:as6)(c:C)(d:D)(e:E)(h0:u0 a b c d e):∃a b c d e,u0 a b c d e:=⟨a,AJ b c d e h0⟩
theorem nG(h:J/\p1/\p2/\p3/\p4/\p5/\p6)(k:J->p1->p2->p3->p4->p5->p6->G):G:=ES h.2 (k h.1)
theorem mO(h0:J)(H:p1)(O:p2)(h3:p3)(h4:p4)(h5:p5)(h6:p6):J/\p1/\p2/\p3/\p4/\p5/\p6:=⟨h0,Au H O h3 h4 h5 h6⟩
theorem ago(h0:J)(H:p1)(a:A)(O:q0 a)(b:as6)(h3:r0 a b)(h4:r1 a b):J/\p1/\∃a,q0 a/\∃b,r0 a b/\r1 a b:=⟨h0,UI H a O b h3 h4⟩
theorem agp(h:J/\p1/\∃a b,r0 a b/\r1 a b/\r2 a b)(k:J->p1->∀a b,r0 a b->r1 a b->r2 a b->G):G:=EU h.2 (k h.1)
theorem agq(h0:J)(H:p1)(a:A)(b:as6)(O:r0 a b)(h3:r1 a b)(h4:r2 a b):J/\p1/\∃a b,r0 a b/\r1 a b/\r2 a b:=⟨h0,uW H a b O h3 h4⟩
theorem agr(h:J/\∃a,q0 a/\q1 a/\q2 a/\q3 a/\q4 a)(k:J->∀a,q0 a->q1 a->q2 a->q3 a->q4 a->G):G:=EV h.2 (k h.1)
theorem To(h:J/\∃a b,r0 a b/\r1 a b/\r2 a b/\r3 a b)(k:J->∀a b,r0 a b->r1 a b->r2 a b->r3 a b->G):G:=uX h.2 (k h.1)
theorem IZ(h0:J)(a:A)(b:as6)(H:r0 a b)(O:r1 a b)(h3:r2 a b)(h4:r3 a b):J/\∃a b,r0 a b/\r1 a b/\r2 a b/\r3 a b:=⟨h0,Aw a b H O h3 h4⟩
theorem ags(h0:J)(a:A)(b:as6)(c:C)(d:D)(e:E)(H:u0 a b c d e):J/\∃a b c d e,u0 a b c d e:=⟨h0,uZ a b c d e H⟩
theorem I0(h:∃a,q0 a/\q1 a/\q2 a/\q3 a/\q4 a/\q5 a)(k:∀a,q0 a->q1 a->q2 a->q3 a->q4 a->q5 a->G):G:=h.elim λa h=>ES h (k a)
theorem Tp(a:A)(h0:q0 a)(H:q1 a)(O:q2 a)(h3:q3 a)(h4:q4 a)(h5:q5 a):∃a,q0 a/\q1 a/\q2 a/\q3 a/\q4 a/\q5 a:=⟨a,Au h0 H O h3 h4 h5⟩
theorem agt(h:∃a,q0 a/\q1 a/\q2 a/\q3 a/\∃b,r0 a b)(k:∀a,q0 a->q1 a->q2 a->q3 a->∀b,r0 a b->G):G:=h.elim λa h=>aim h (k a)
theorem Tq(a:A)(h0:q0 a)(H:q1 a)(b:as6)(O:r0 a b)(h3:r1 a b)(h4:r2 a b):∃a,q0 a/\q1 a/\∃b,r0 a b/\r1 a b/\r2 a b:=⟨a,ain h0 H b O h3 h4⟩
theorem agu(a:A)(h0:q0 a)(b:as6)(H:r0 a b)(c:C)(O:s0 a b c)(h3:s1 a b c):∃a,q0 a/\∃b,r0 a b/\∃c,s0 a b c/\s1 a b c:=⟨a,UI h0 b H c O h3⟩
theorem Ep(a:A)(h0:q0 a)(b:as6)(c:C)(H:s0 a b c)(O:s1 a b c)(h3:s2 a b c):∃a,q0 a/\∃b c,s0 a b c/\s1 a b c/\s2 a b c:=⟨a,uW h0 b c H O h3⟩
theorem agv(a:A)(h0:q0 a)(b:as6)(c:C)(d:D)(e:E)(H:u0 a b c d e):∃a,q0 a/\∃b c d e,u0 a b c d e:=⟨a,UJ h0 b c d e H⟩
theorem Ts(h:∃a b,r0 a b/\r1 a b/\r2 a b/\r3 a b/\r4 a b)(k:∀a b,r0 a b->r1 a b->r2 a b->r3 a b->r4 a b->G):G:=h.elim λa h=>EV h (k a)
theorem Tt(a:A)(b:as6)(h0:r0 a b)(H:r1 a b)(O:r2 a b)(h3:r3 a b)(h4:r4 a b):∃a b,r0 a b/\r1 a b/\r2 a b/\r3 a b/\r4 a b:=⟨a,Av b h0 H O h3 h4⟩
theorem mP(h:∃a b c,s0 a b c/\s1 a b c/\s2 a b c/\s3 a b c)(k:∀a b c,s0 a b c->s1 a b c->s2 a b c->s3 a b c->G):G:=h.elim λa h=>uX h (k a)
theorem jX(a:A)(b:as6)(c:C)(h0:s0 a b c)(H:s1 a b c)(O:s2 a b c)(h3:s3 a b c):∃a b c,s0 a b c/\s1 a b c/\s2 a b c/\s3 a b c:=⟨a,Aw b c h0 H O h3⟩
theorem oE(h:∃a b c d,t0 a b c d/\t1 a b c d/\t2 a b c d)(k:∀a b c d,t0 a b c d->t1 a b c d->t2 a b c d->G):G:=h.elim λa h=>uY h (k a)
theorem Tu(a:A)(b:as6)(c:C)(d:D)(h0:t0 a b c d)(H:t1 a b c d)(O:t2 a b c d):∃a b c d,t0 a b c d/\t1 a b c d/\t2 a b c d:=⟨a,EX b c d h0 H O⟩
theorem agw(h:∃a b c d e,u0 a b c d e/\u1 a b c d e)(k:∀a b c d e,u0 a b c d e->u1 a b c d e->G):G:=h.elim λa h=>xQ h (k a)
theorem I3(a:A)(b:as6)(c:C)(d:D)(e:E)(h0:u0 a b c d e)(H:u1 a b c d e):∃a b c d e,u0 a b c d e/\u1 a b c d e:=⟨a,fS b c d e h0 H⟩
theorem xx(h:∃a b c d e f,B a b c d e f)(k:∀a b c d e f,B a b c d e f->G):G:=h.elim λa h=>oI h (k a)
theorem Aa(a:A)(b:as6)(c:C)(d:D)(e:E)(f:F)(h0:B a b c d e f):∃a b c d e f,B a b c d e f:=⟨a,uZ b c d e f h0⟩
theorem aeK(h:J/\p1/\p2/\p3/\p4/\p5/\p6/\p7)(k:J->p1->p2->p3->p4->p5->p6->p7->G):G:=nG h.2 (k h.1)
theorem aeL(h0:J)(H:p1)(O:p2)(h3:p3)(h4:p4)(h5:p5)(h6:p6)(h7:p7):J/\p1/\p2/\p3/\p4/\p5/\p6/\p7:=⟨h0,mO H O h3 h4 h5 h6 h7⟩
theorem RU(h:J/\p1/\p2/\∃a b,r0 a b/\r1 a b/\r2 a b)(k:J->p1->p2->∀a b,r0 a b->r1 a b->r2 a b->G):G:=agp h.2 (k h.1)
theorem aeM(h0:J)(H:p1)(O:p2)(a:A)(b:as6)(h3:r0 a b)(h4:r1 a b)(h5:r2 a b):J/\p1/\p2/\∃a b,r0 a b/\r1 a b/\r2 a b:=⟨h0,agq H O a b h3 h4 h5⟩
theorem aeN(h:J/\p1/\∃a b,r0 a b/\r1 a b/\r2 a b/\r3 a b)(k:J->p1->∀a b,r0 a b->r1 a b->r2 a b->r3 a b->G):G:=To h.2 (k h.1)
theorem RV(h0:J)(H:p1)(a:A)(b:as6)(O:r0 a b)(h3:r1 a b)(h4:r2 a b)(h5:r3 a b):J/\p1/\∃a b,r0 a b/\r1 a b/\r2 a b/\r3 a b:=⟨h0,IZ H a b O h3 h4 h5⟩
theorem RW(h:J/\∃a b,r0 a b/\r1 a b/\r2 a b/\r3 a b/\r4 a b)(k:J->∀a b,r0 a b->r1 a b->r2 a b->r3 a b->r4 a b->G):G:=Ts h.2 (k h.1)
theorem RX(h0:J)(a:A)(b:as6)(H:r0 a b)(O:r1 a b)(h3:r2 a b)(h4:r3 a b)(h5:r4 a b):J/\∃a b,r0 a b/\r1 a b/\r2 a b/\r3 a b/\r4 a b:=⟨h0,Tt a b H O h3 h4 h5⟩
theorem RY(h0:J)(a:A)(b:as6)(c:C)(H:s0 a b c)(O:s1 a b c)(h3:s2 a b c)(h4:s3 a b c):J/\∃a b c,s0 a b c/\s1 a b c/\s2 a b c/\s3 a b c:=⟨h0,jX a b c H O h3 h4⟩
theorem aeO(h0:J)(a:A)(b:as6)(c:C)(d:D)(e:E)(f:F)(H:B a b c d e f):J/\∃a b c d e f,B a b c d e f:=⟨h0,Aa a b c d e f H⟩
theorem Ea(h:∃a,q0 a/\q1 a/\q2 a/\q3 a/\q4 a/\q5 a/\q6 a)(k:∀a,q0 a->q1 a->q2 a->q3 a->q4 a->q5 a->q6 a->G):G:=h.elim λa h=>nG h (k a)
theorem Eb(a:A)(h0:q0 a)(H:q1 a)(O:q2 a)(h3:q3 a)(h4:q4 a)(h5:q5 a)(h6:q6 a):∃a,q0 a/\q1 a/\q2 a/\q3 a/\q4 a/\q5 a/\q6 a:=⟨a,mO h0 H O h3 h4 h5 h6⟩
theorem RZ(h:∃a,q0 a/\∃b,r0 a b/\r1 a b/\r2 a b/\r3 a b/\r4 a b)(k:∀a,q0 a->∀b,r0 a b->r1 a b->r2 a b->r3 a b->r4 a b->G):G:=h.elim λa h=>agr h (k a)
theorem aeP(a:A)(h0:q0 a)(b:as6)(c:C)(H:s0 a b c)(O:s1 a b c)(h3:s2 a b c)(h4:s3 a b c):∃a,q0 a/\∃b c,s0 a b c/\s1 a b c/\s2 a b c/\s3 a b c:=⟨a,IZ h0 b c H O h3 h4⟩
theorem xq(a:A)(h0:q0 a)(b:as6)(c:C)(d:D)(e:E)(f:F)(H:B a b c d e f):∃a,q0 a/\∃b c d e f,B a b c d e f:=⟨a,ags h0 b c d e f H⟩
theorem aeQ(h:∃a b,r0 a b/\r1 a b/\r2 a b/\r3 a b/\r4 a b/\r5 a b)(k:∀a b,r0 a b->r1 a b->r2 a b->r3 a b->r4 a b->r5 a b->G):G:=h.elim λa h=>I0 h (k a)
theorem aeR(a:A)(b:as6)(h0:r0 a b)(H:r1 a b)(O:r2 a b)(h3:r3 a b)(h4:r4 a b)(h5:r5 a b):∃a b,r0 a b/\r1 a b/\r2 a b/\r3 a b/\r4 a b/\r5 a b:=⟨a,Tp b h0 H O h3 h4 h5⟩
theorem aeS(h:∃a b,r0 a b/\r1 a b/\r2 a b/\r3 a b/\∃c,s0 a b c)(k:∀a b,r0 a b->r1 a b->r2 a b->r3 a b->∀c,s0 a b c->G):G:=h.elim λa h=>agt h (k a)
theorem xr(h:∃a b c,s0 a b c/\s1 a b c/\s2 a b c/\s3 a b c/\s4 a b c)(k:∀a b c,s0 a b c->s1 a b c->s2 a b c->s3 a b c->s4 a b c->G):G:=h.elim λa h=>Ts h (k a)
theorem Ec(a:A)(b:as6)(c:C)(h0:s0 a b c)(H:s1 a b c)(O:s2 a b c)(h3:s3 a b c)(h4:s4 a b c):∃a b c,s0 a b c/\s1 a b c/\s2 a b c/\s3 a b c/\s4 a b c:=⟨a,Tt b c h0 H O h3 h4⟩
theorem oz(h:∃a b c d,t0 a b c d/\t1 a b c d/\t2 a b c d/\t3 a b c d)(k:∀a b c d,t0 a b c d->t1 a b c d->t2 a b c d->t3 a b c d->G):G:=h.elim λa h=>mP h (k a)
theorem Iq(a:A)(b:as6)(c:C)(d:D)(h0:t0 a b c d)(H:t1 a b c d)(O:t2 a b c d)(h3:t3 a b c d):∃a b c d,t0 a b c d/\t1 a b c d/\t2 a b c d/\t3 a b c d:=⟨a,jX b c d h0 H O h3⟩
theorem R0(h:∃a b c d e f,B a b c d e f/\v1 a b c d e f)(k:∀a b c d e f,B a b c d e f->v1 a b c d e f->G):G:=h.elim λa h=>agw h (k a)
theorem aeT(a:A)(b:as6)(c:C)(d:D)(e:E)(f:F)(h0:B a b c d e f)(H:v1 a b c d e f):∃a b c d e f,B a b c d e f/\v1 a b c d e f:=⟨a,I3 b c d e f h0 H⟩
theorem aeU(h:∃a b c d e f i,w0 a b c d e f i)(k:∀a b c d e f i,w0 a b c d e f i->G):G:=h.elim λa h=>xx h (k a)
theorem aeV(a:A)(b:as6)(c:C)(d:D)(e:E)(f:F)(i:as4)(h0:w0 a b c d e f i):∃a b c d e f i,w0 a b c d e f i:=⟨a,Aa b c d e f i h0⟩
theorem QL(h:J/\p1/\p2/\p3/\p4/\p5/\p6/\p7/\p8)(k:J->p1->p2->p3->p4->p5->p6->p7->p8->G):G:=aeK h.2 (k h.1)
theorem QM(h0:J)(H:p1)(O:p2)(h3:p3)(h4:p4)(h5:p5)(h6:p6)(h7:p7)(h8:p8):J/\p1/\p2/\p3/\p4/\p5/\p6/\p7/\p8:=⟨h0,aeL H O h3 h4 h5 h6 h7 h8⟩
theorem adB(a:A)(h0:q0 a)(b:as6)(c:C)(d:D)(e:E)(f:F)(i:as4)(H:w0 a b c d e f i):∃a,q0 a/\∃b c d e f i,w0 a b c d e f i:=⟨a,aeO h0 b c d e f i H⟩
theorem QN(h:∃a b,r0 a b/\r1 a b/\r2 a b/\r3 a b/\r4 a b/\r5 a b/\r6 a b)(k:∀a b,r0 a b->r1 a b->r2 a b->r3 a b->r4 a b->r5 a b->r6 a b->G):G:=h.elim λa h=>Ea h (k a)
theorem QO(a:A)(b:as6)(h0:r0 a b)(H:r1 a b)(O:r2 a b)(h3:r3 a b)(h4:r4 a b)(h5:r5 a b)(h6:r6 a b):∃a b,r0 a b/\r1 a b/\r2 a b/\r3 a b/\r4 a b/\r5 a b/\r6 a b:=⟨a,Eb b h0 H O h3 h4 h5 h6⟩
theorem pU(h:∃a b c,s0 a b c/\s1 a b c/\s2 a b c/\s3 a b c/\s4 a b c/\s5 a b c)(k:∀a b c,s0 a b c->s1 a b c->s2 a b c->s3 a b c->s4 a b c->s5 a b c->G):G:=h.elim λa h=>aeQ h (k a)
theorem sU(a:A)(b:as6)(c:C)(h0:s0 a b c)(H:s1 a b c)(O:s2 a b c)(h3:s3 a b c)(h4:s4 a b c)(h5:s5 a b c):∃a b c,s0 a b c/\s1 a b c/\s2 a b c/\s3 a b c/\s4 a b c/\s5 a b c:=⟨a,aeR b c h0 H O h3 h4 h5⟩
theorem adC(h:∃a b c,s0 a b c/\s1 a b c/\s2 a b c/\s3 a b c/\∃d,t0 a b c d)(k:∀a b c,s0 a b c->s1 a b c->s2 a b c->s3 a b c->∀d,t0 a b c d->G):G:=h.elim λa h=>aeS h (k a)
theorem ja(h:∃a b c d,t0 a b c d/\t1 a b c d/\t2 a b c d/\t3 a b c d/\t4 a b c d)(k:∀a b c d,t0 a b c d->t1 a b c d->t2 a b c d->t3 a b c d->t4 a b c d->G):G:=h.elim λa h=>xr h (k a)
theorem zF(a:A)(b:as6)(c:C)(d:D)(h0:t0 a b c d)(H:t1 a b c d)(O:t2 a b c d)(h3:t3 a b c d)(h4:t4 a b c d):∃a b c d,t0 a b c d/\t1 a b c d/\t2 a b c d/\t3 a b c d/\t4 a b c d:=⟨a,Ec b c d h0 H O h3 h4⟩
theorem adD(h:∃a b c d e,u0 a b c d e/\u1 a b c d e/\u2 a b c d e/\u3 a b c d e)(k:∀a b c d e,u0 a b c d e->u1 a b c d e->u2 a b c d e->u3 a b c d e->G):G:=h.elim λa h=>oz h (k a)
theorem adE(a:A)(b:as6)(c:C)(d:D)(e:E)(h0:u0 a b c d e)(H:u1 a b c d e)(O:u2 a b c d e)(h3:u3 a b c d e):∃a b c d e,u0 a b c d e/\u1 a b c d e/\u2 a b c d e/\u3 a b c d e:=⟨a,Iq b c d e h0 H O h3⟩
theorem adF(h:∃a b c d e f i,w0 a b c d e f i/\w1 a b c d e f i)(k:∀a b c d e f i,w0 a b c d e f i->w1 a b c d e f i->G):G:=h.elim λa h=>R0 h (k a)
theorem adG(a:A)(b:as6)(c:C)(d:D)(e:E)(f:F)(i:as4)(h0:w0 a b c d e f i)(H:w1 a b c d e f i):∃a b c d e f i,w0 a b c d e f i/\w1 a b c d e f i:=⟨a,aeT b c d e f i h0 H⟩
theorem adH(h:∃a b c d e f i j,x0 a b c d e f i j)(k:∀a b c d e f i j,x0 a b c d e f i j->G):G:=h.elim λa h=>aeU h (k a)
theorem adI(a:A)(b:as6)(c:C)(d:D)(e:E)(f:F)(i:as4)(j:I)(h0:x0 a b c d e f i j):∃a b c d e f i j,x0 a b c d e f i j:=⟨a,aeV b c d e f i j h0⟩
theorem acy(h:J/\p1/\p2/\p3/\p4/\p5/\p6/\p7/\p8/\p9)(k:J->p1->p2->p3->p4->p5->p6->p7->p8->p9->G):G:=QL h.2 (k h.1)
theorem P4(h:J/\∃a b,r0 a b/\r1 a b/\r2 a b/\r3 a b/\r4 a b/\r5 a b/\r6 a b)(k:J->∀a b,r0 a b->r1 a b->r2 a b->r3 a b->r4 a b->r5 a b->r6 a b->G):G:=QN h.2 (k h.1)
theorem P5(h0:J)(a:A)(b:as6)(H:r0 a b)(O:r1 a b)(h3:r2 a b)(h4:r3 a b)(h5:r4 a b)(h6:r5 a b)(h7:r6 a b):J/\∃a b,r0 a b/\r1 a b/\r2 a b/\r3 a b/\r4 a b/\r5 a b/\r6 a b:=⟨h0,QO a b H O h3 h4 h5 h6 h7⟩
theorem P6(h:∃a b c,s0 a b c/\s1 a b c/\s2 a b c/\s3 a b c/\s4 a b c/\s5 a b c/\s6 a b c)(k:∀a b c,s0 a b c->s1 a b c->s2 a b c->s3 a b c->s4 a b c->s5 a b c->s6 a b c->G):G:=h.elim λa h=>QN h (k a)
theorem acz(a:A)(b:as6)(c:C)(h0:s0 a b c)(H:s1 a b c)(O:s2 a b c)(h3:s3 a b c)(h4:s4 a b c)(h5:s5 a b c)(h6:s6 a b c):∃a b c,s0 a b c/\s1 a b c/\s2 a b c/\s3 a b c/\s4 a b c/\s5 a b c/\s6 a b c:=⟨a,QO b c h0 H O h3 h4 h5 h6⟩
theorem P7(h:∃a b c d,t0 a b c d/\t1 a b c d/\t2 a b c d/\t3 a b c d/\∃e,u0 a b c d e)(k:∀a b c d,t0 a b c d->t1 a b c d->t2 a b c d->t3 a b c d->∀e,u0 a b c d e->G):G:=h.elim λa h=>adC h (k a)
theorem P8(h:∃a b c d e f,B a b c d e f/\v1 a b c d e f/\v2 a b c d e f/\v3 a b c d e f)(k:∀a b c d e f,B a b c d e f->v1 a b c d e f->v2 a b c d e f->v3 a b c d e f->G):G:=h.elim λa h=>adD h (k a)
theorem acA(a:A)(b:as6)(c:C)(d:D)(e:E)(f:F)(h0:B a b c d e f)(H:v1 a b c d e f)(O:v2 a b c d e f)(h3:v3 a b c d e f):∃a b c d e f,B a b c d e f/\v1 a b c d e f/\v2 a b c d e f/\v3 a b c d e f:=⟨a,adE b c d e f h0 H O h3⟩
theorem P9(h:∃a b c d e f i j,x0 a b c d e f i j/\x1 a b c d e f i j)(k:∀a b c d e f i j,x0 a b c d e f i j->x1 a b c d e f i j->G):G:=h.elim λa h=>adF h (k a)
theorem acB(a:A)(b:as6)(c:C)(d:D)(e:E)(f:F)(i:as4)(j:I)(h0:x0 a b c d e f i j)(H:x1 a b c d e f i j):∃a b c d e f i j,x0 a b c d e f i j/\x1 a b c d e f i j:=⟨a,adG b c d e f i j h0 H⟩
theorem Qa(h:∃a b c d e f i j l,y0 a b c d e f i j l)(k:∀a b c d e f i j l,y0 a b c d e f i j l->G):G:=h.elim λa h=>adH h (k a)
theorem acC(a:A)(b:as6)(c:C)(d:D)(e:E)(f:F)(i:as4)(j:I)(l:as3)(h0:y0 a b c d e f i j l):∃a b c d e f i j l,y0 a b c d e f i j l:=⟨a,adI b c d e f i j l h0⟩
theorem abN(h:J/\p1/\p2/\p3/\p4/\p5/\p6/\p7/\p8/\p9/\F6)(k:J->p1->p2->p3->p4->p5->p6->p7->p8->p9->F6->G):G:=acy h.2 (k h.1)
theorem abp(h:J/\p1/\p2/\p3/\p4/\p5/\p6/\p7/\p8/\p9/\F6/\XQ)(k:J->p1->p2->p3->p4->p5->p6->p7->p8->p9->F6->XQ->G):G:=abN h.2 (k h.1)
end
theorem aP{α β:Type _}{o:Option α}{f:α->Option β}{b:β}{G:Prop}(h:o.bind f=some b)(k:∀a,o=some a->f a=some b->G):G:=by
 obtain⟨a,H,O⟩:=sG.mp h
 exact k a H O
end bh
namespace bh
open Nat.Internal.Linear (Expr)
noncomputable def m8(c:List Nat)(e:Expr):Nat:=Expr.rec (λn=>n) (λv=>c.getD v 0) (λzz zz x y=>x+y) (λk zz x=>k*x) (λzz k x=>x*k) e
noncomputable def co(i:Nat)(e:Expr):Nat:=Expr.rec (λn=>cond (uV i 0) n 0) (λv=>cond (uV i (v+1)) 1 0) (λzz zz x y=>x+y) (λk zz x=>k*x) (λzz k x=>x*k) e
noncomputable abbrev B:Expr:= .var 0
noncomputable abbrev v1:Expr:= .var 1
noncomputable abbrev v2:Expr:= .var 2
noncomputable abbrev v3:Expr:= .var 3
noncomputable abbrev v4:Expr:= .var 4
noncomputable abbrev v5:Expr:= .var 5
noncomputable abbrev v6:Expr:= .var 6
noncomputable abbrev v7:Expr:= .var 7
noncomputable abbrev v8:Expr:= .var 8
noncomputable abbrev v9:Expr:= .var 9
noncomputable abbrev k0:Expr:= .num 0
noncomputable abbrev k1:Expr:= .num 1
noncomputable abbrev J(a b:Expr):Expr:= .add a b
def rY(c:List Nat)(g:Expr×Expr)(r:List (Expr×Expr)):Prop:=Tl (m8 c g.1<=m8 c g.2) (λa zz x=>m8 c a.1<=m8 c a.2->x) r
def sm(i:Nat)(r:List (Expr×Expr))(s:Nat×Nat):Nat×Nat:=Tl (λs=>s) (λa zz x s=>x (s.1+co i a.1,s.2+co i a.2)) r s
def wi(n:Nat)(g:Expr×Expr)(r:List (Expr×Expr)):Bool:=Nat.rec (motive:=λzz=>Nat->Bool) (λzz=>true) (λzz x i=>EP ((sm i r (0,0)).2+co i g.1) ((sm i r (0,0)).1+co i g.2) && x (i+1)) n 0
noncomputable def dt(f:Nat->Nat)(c:List Nat)(i:Nat):Nat:=Tl (λzz=>0) (λa zz x i=>f i*a+x (i+1)) c i
theorem Ax(f g:Nat->Nat)(c:List Nat):∀i,dt (λj=>f j+g j) c i=dt f c i+dt g c i:=by
 induction c with
 |nil=>intro i;rfl
 |cons a c ih=>intro i;show(f i+g i)*a+dt _ c (i+1)=(f i*a+dt f c (i+1))+(g i*a+dt g c (i+1));rw[ih,Nat.add_mul,zd]
theorem UM(k:Nat)(f:Nat->Nat)(c:List Nat):∀i,dt (λj=>k*f j) c i=k*dt f c i:=by
 induction c with
 |nil=>intro i;rfl
 |cons a c ih=>intro i;show(k*f i)*a+dt _ c (i+1)=k*(f i*a+dt f c (i+1));rw[ih,Nat.mul_add,zj]
theorem Tv(f:Nat->Nat)(c:List Nat):∀i,(∀j,i<=j->f j=0)->dt f c i=0:=by
 induction c with
 |nil=>intro i _;rfl
 |cons a c ih=>intro i h;show f i*a+dt f c (i+1)=0;rw[ih _ λj hj=>h j (wO hj),h i (a8 _),Pu]
theorem VE{a b:Nat}:uV a b=false↔a≠b:=by
 rw[<- Bool.not_eq_true,Nat.beq_eq]
theorem aiq(c:List Nat):∀i v,dt (λj=>cond (uV j (v+i)) 1 0) c i=c.getD v 0:=by
 induction c with
 |nil=>intro i v;rfl
 |cons a c ih=>
  intro i v
  show cond (uV i (v+i)) 1 0*a+dt _ c (i+1)=_
  cases v with
  |zero=>
   rw[js,Nat.beq_refl,Tv _ c (i+1) λj hj=>?_]
   .show 1*a+0=a;rw[sQ,Pw]
   .have:uV j i=false:=by
     rw[VE];exact lX hj
    rw[this];rfl
  |succ v=>
   have:uV i (v+1+i)=false:=by
    rw[VE];exact dH (Nat.lt_add_of_pos_left (zo v))
   rw[this]
   have:=ih (i+1) v
   rw[show v+1+i=v+(i+1) by rw[Dy,xb 1]]
   show 0*a+_=c.getD v 0
   rw[Pu,js,this]
theorem Fk(c:List Nat)(e:Expr):m8 c e=co 0 e+dt (λi=>co i e) c 1:=by
 induction e with
 |num n=>
  show n=n+dt _ c 1
  rw[Tv _ c 1 λj hj=>?_]
  .rfl
  .cases j with|zero=>cases hj|succ j=>rfl
 |var v=>
  show c.getD v 0=0+dt (λj=>cond (uV j (v+1)) 1 0) c 1
  rw[aiq,js]
 |add a b ha V=>
  show m8 c a+m8 c b=(co 0 a+co 0 b)+dt (λi=>co i a+co i b) c 1
  rw[ha,V,Ax,zd]
 |mulL k a ha=>
  show k*m8 c a=(k*co 0 a)+dt (λi=>k*co i a) c 1
  rw[ha,UM,Nat.mul_add]
 |mulR a k ha=>
  show m8 c a*k=(co 0 a*k)+dt (λi=>co i a*k) c 1
  rw[ha,show(λi=>co i a*k)=(λi=>k*co i a) from funext λi=>zp ..,UM,Nat.add_mul,zp k]
theorem ajv{f g:Nat->Nat}{c:List Nat}:∀i,(∀j,i<=j->j<i+c.length->f j<=g j)->dt f c i<=dt g c i:=by
 induction c with
 |nil=>intro i _;exact a8 _
 |cons a c ih=>
  intro i h
  show f i*a+dt f c (i+1)<=g i*a+dt g c (i+1)
  exact wZ (lS _ (h i (a8 _) (by simp))) (ih _ λj H O=>h j (wO H) (show j<i+c.length+1 from GV i 1 c.length▸O))
theorem lgo(c:List Nat)(g:Expr×Expr)(r:List (Expr×Expr)):∀(f1 f2:Nat->Nat),f1 0+dt f1 c 1<=f2 0+dt f2 c 1->
 (∀i,i<=c.length->(sm i r (f1 i,f2 i)).2+co i g.1<=(sm i r (f1 i,f2 i)).1+co i g.2)->rY c g r:=by
 induction r with
 |nil=>
  intro f1 f2 h k
  show m8 c g.1<=m8 c g.2
  rw[Fk,Fk]
  have h0:f2 0+co 0 g.1<=f1 0+co 0 g.2:=k 0 (dn _)
  have H:dt (λi=>f2 i+co i g.1) c 1<=dt (λi=>f1 i+co i g.2) c 1:=ajv 1 λj H O=>k j (OA (Ot O (xb 1 _)))
  rw[Ax,Ax] at H
  have O:=wZ h0 H
  rw[zd,zd (f1 0)] at O
  exact Nat.le_of_add_le_add_left (aB (Df h _) O)
 |cons a r ih=>
  intro f1 f2 h k
  show m8 c a.1<=m8 c a.2->rY c g r
  intro ha
  rw[Fk,Fk] at ha
  refine ih (λi=>f1 i+co i a.1) (λi=>f2 i+co i a.2) ?_ k
  rw[Ax,Ax,zd,zd (f2 0)]
  exact wZ h ha
theorem air{g:Expr×Expr}{r:List (Expr×Expr)}(n:Nat):∀j,Nat.rec (motive:=λzz=>Nat->Bool) (λzz=>true) (λzz x i=>EP ((sm i r (0,0)).2+co i g.1) ((sm i r (0,0)).1+co i g.2) && x (i+1)) n j=true->
 ∀i,j<=i->i<j+n->(sm i r (0,0)).2+co i g.1<=(sm i r (0,0)).1+co i g.2:=by
 induction n with
 |zero=>intro j _ i H O;exact absurd O (sT.mpr H)
 |succ n ih=>
  intro j h i H O
  obtain⟨h3,h4⟩:=oi.mp h
  rcases Nat.eq_or_lt_of_le H with rfl|H
  .exact ZF h3
  .exact ih (j+1) h4 i H (GV j n 1▸O)
theorem lg(c:List Nat)(r:List (Expr×Expr))(g:Expr×Expr)(h:wi (c.length+1) g r=true):rY c g r:=by
 refine lgo c g r (λzz=>0) (λzz=>0) (aA rfl) λi hi=>?_
 exact air _ 0 h i (dn _) (by rw[js];exact aal hi)
theorem be{a:Nat}(r:List (Expr×Expr))(g:Expr×Expr)(h:wi 2 g r=true):rY [a] g r:=lg [a] r g h
theorem aM{a b:Nat}(r:List (Expr×Expr))(g:Expr×Expr)(h:wi 3 g r=true):rY [a,b] g r:=lg [a,b] r g h
theorem aO{a b c:Nat}(r:List (Expr×Expr))(g:Expr×Expr)(h:wi 4 g r=true):rY [a,b,c] g r:=lg [a,b,c] r g h
theorem bM{a b c d:Nat}(r:List (Expr×Expr))(g:Expr×Expr)(h:wi 5 g r=true):rY [a,b,c,d] g r:=lg [a,b,c,d] r g h
theorem eH{a b c d e:Nat}(r:List (Expr×Expr))(g:Expr×Expr)(h:wi 6 g r=true):rY [a,b,c,d,e] g r:=lg [a,b,c,d,e] r g h
theorem pg{a b c d e f:Nat}(r:List (Expr×Expr))(g:Expr×Expr)(h:wi 7 g r=true):rY [a,b,c,d,e,f] g r:=lg [a,b,c,d,e,f] r g h
theorem bj(a b:Nat):a<=a - b+b:=Nat.sub_le_iff_le_add.mp (a8 _)
theorem aU{a b:Nat}(h:b<=a):a - b+b<=a:=aA (Nat.sub_add_cancel h)
theorem wj{a b:Nat}(h:a<=b):a - b<=0:=aA (Nat.sub_eq_zero_of_le h)
end bh
namespace bh
theorem nz(h:1<=0):False:=Nat.not_succ_le_zero 0 h
theorem gO{α β γ:Type _}{o:Option (α×β)}{f:α×β->Option γ}{b:γ}{G:Prop}(h:o.bind f=some b)(k:∀x y,o=some (x,y)->f (x,y)=some b->G):G:=by
 refine aP h λa H O=>?_
 obtain⟨x,y⟩:=a
 exact k x y H O
theorem i5{α β:Type _}{a c:α}{b d:β}{G:Prop}(h:some (a,b)=some (c,d))(k:a=c->b=d->G):G:=by
 injection h with h;injection h with H O;exact k H O
theorem aC{α:Type _}{a:α}{G:Prop}(h:none=some a):G:=nomatch h
theorem ft{α:Type _}{a:α}{G:Prop}(h:some a=none):G:=nomatch h
theorem nol{α:Type _}{a:α}{l:List α}{G:Prop}(h:[]=a::l):G:=nomatch h
theorem WQ{α:Type _}{a:α}{l:List α}{G:Prop}(h:a::l=[]):G:=nomatch h
theorem opx{α β:Type _}{a c:α}{b d:β}{P:α->β->Prop}(h:some (a,b)=some (c,d))(k:P a b):P c d:=
 i5 h λH O=>H▸O▸k
end bh
namespace bh
open PySem
@[elab_as_elim] theorem Fl{h:aG}{v:ao}{i:Int}{as:List az}{G:ao->Prop}(r:jj h v (.int i) as)(k:∀t,G (.int i t)):G v:=by cases r;exact k _
@[elab_as_elim] theorem x7{h:aG}{v:ao}{i:Str}{as:List az}{G:ao->Prop}(r:jj h v (.str i) as)(k:∀t,G (.str i t)):G v:=by cases r;exact k _
@[elab_as_elim] theorem Fn{h:aG}{v:ao}{xs:List ah}{as:List az}{G:ao->Prop}(r:jj h v (.tuple xs) as)
 (k:∀a o vs n as,h.get? a=some o->o.cls= .type "tuple"->o.data= .seq vs n->lu h vs.toList xs as->G (.ref a)):G v:=by
  cases r with|tuple H O h3 h4=>exact k _ _ _ _ _ H O h3 h4
@[elab_as_elim] theorem VF{h:aG}{v:ao}{xs:List ah}{as:List az}{G:ao->Prop}(r:jj h v (.list xs) as)
 (k:∀a o vs n as,h.get? a=some o->o.cls= .type "list"->o.data= .seq vs n->lu h vs.toList xs as->G (.ref a)):G v:=by
  cases r with|list H O h3 h4=>exact k _ _ _ _ _ H O h3 h4
@[elab_as_elim] theorem ri{h:aG}{vs:List ao}{as:List az}{G:List ao->Prop}(r:lu h vs [] as)(k:G []):G vs:=by cases r;exact k
@[elab_as_elim] theorem oF{h:aG}{vs:List ao}{d:ah}{ds:List ah}{as:List az}{G:List ao->Prop}(r:lu h vs (d::ds) as)
 (k:∀v vs a b,jj h v d a->lu h vs ds b->G (v::vs)):G vs:=by
  cases r with|cons H O=>exact k _ _ _ _ H O
theorem ajw{P:List ao->Prop}(h:P []):∀l:List ao,l.length=0->P l:=λl e=>(GA e)▸h
theorem AK{P:List ao->Prop}{n:Nat}(h:∀a l,l.length=n->P (a::l)):∀l:List ao,l.length=n+1->P l:=λl=>List.casesOn (motive:=λl=>l.length=n+1->P l) l (λe=>Nat.noConfusion e) λa l e=>h a l (zq e)
theorem vals1{P:List ao->Prop}(h:∀a,P [a]):∀l:List ao,l.length=1->P l:=AK λa=>ajw (h a)
theorem vals2{P:List ao->Prop}(h:∀a b,P [a,b]):∀l:List ao,l.length=2->P l:=AK λa=>vals1 (h a)
theorem vals3{P:List ao->Prop}(h:∀a b c,P [a,b,c]):∀l:List ao,l.length=3->P l:=AK λa=>vals2 (h a)
theorem vals4{P:List ao->Prop}(h:∀a b c d,P [a,b,c,d]):∀l:List ao,l.length=4->P l:=AK λa=>vals3 (h a)
theorem VG{P:List ao->Prop}(h:∀a b c d e,P [a,b,c,d,e]):∀l:List ao,l.length=5->P l:=AK λa=>vals4 (h a)
end bh
namespace bh
theorem fN{a b:Nat}(h:b<=a):max a b<=a:=Nat.max_le.mpr ⟨a8 _,h⟩
theorem fY{a b:Nat}(h:a<=b):max a b<=b:=Nat.max_le.mpr ⟨h,a8 _⟩
theorem mn1{a b:Nat}(h:b<=a):b<=min a b:=Nat.le_min.mpr ⟨h,a8 _⟩
theorem mn2{a b:Nat}(h:a<=b):a<=min a b:=Nat.le_min.mpr ⟨a8 _,h⟩
theorem cr{α β:Type _}{f:α->β}{l:List α}{y:β}{G:Prop}(h:y∈l.map f)(k:∀x,x∈l->f x=y->G):G:=by
 obtain⟨x,H,O⟩:=fQ.mp h
 exact k x H O
theorem fD{α β:Type _}{f:α->List β}{l:List α}{y:β}{G:Prop}(h:y∈l.flatMap f)(k:∀x,x∈l->y∈f x->G):G:=by
 obtain⟨x,H,O⟩:=jr.mp h
 exact k x H O
theorem iK{α β:Type _}{o:Option α}{f:α->β}{y:β}{G:Prop}(h:o.map f=some y)(k:∀a,o=some a->f a=y->G):G:=by
 obtain⟨x,H,O⟩:=GN.mp h
 exact k x H O
theorem ua{α:Type _}{o:Option α}{G:Prop}(h:o.isSome=true)(k:∀a,o=some a->G):G:=by
 obtain⟨x,H⟩:=Option.isSome_iff_exists.mp h
 exact k x H
@[elab_as_elim] theorem Y{α:Sort _}{a b:α}{P:α->Prop}(h:a=b)(k:P b):P a:=h▸k
@[elab_as_elim] theorem sl{α:Sort _}{a b:α}{P:α->Prop}(h:a=b)(k:P a):P b:=h▸k
@[elab_as_elim] theorem si{a b:Prop}{P:Prop->Prop}(h:a↔b)(k:P b):P a:=propext h▸k
@[elab_as_elim] theorem sj{a b:Prop}{P:Prop->Prop}(h:a↔b)(k:P a):P b:=propext h▸k
end bh
namespace bh
open PySem
theorem i0(n:Nat):(0:Int)<=n:=Int.natCast_nonneg n
theorem XS{n:Nat}:¬(n:Int)<0:=xj.mpr (i0 n)
theorem n3{a b:Nat}(h:a<=b):(a:Int)<=b:=Int.ofNat_le.mpr h
theorem mr{a b:Nat}(h:a<b):(a:Int)<b:=DC.mpr h
theorem yC{a b:Nat}(h:¬a<b):¬(a:Int)<b:=λq=>h (DC.mp q)
theorem inj{a b:Nat}(h:(a:Int)=b):a=b:=Int.ofNat.inj h
theorem XT{k:Int}(h: -(2^ 40)<k/\k<2^ 40): -(2^ 63)<=k/\k<2^ 63:=⟨sK (by decide) (zr h.1),DD h.2 (by decide)⟩
theorem XU{k:Int}(h: -(2^ 40)<k/\k<2^ 40): -(2^ 64)<k/\k<2^ 64:=⟨DD (by decide) h.1,DD h.2 (by decide)⟩
theorem F7{k:Int}(a: -(2^ 40)<k)(b:k<2^ 40): -(2^ 62)<=k/\k<2^ 62:=⟨sK (by decide) (zr a),DD b (by decide)⟩
theorem M3{n m:Nat}(h:n<=m)(hm:(m:Int)<2^ 40): -(2^ 40)<(n:Int)/\(n:Int)<2^ 40:=⟨Z' (by decide) (i0 n),GW (n3 h) hm⟩
theorem inl{k:Int}{n:Nat}(h:0<=k+n): -(n:Int)<=k:=by omega
theorem iad{k:Int}{n:Nat}(h:k<0):k+n<n:=by omega
theorem ajx{a:Nat}{k:Int}(h:a<=1)(h0:0<=k)(H:k<=1000):(a:Int)*k<=1000:=
 sK (Int.mul_le_mul_of_nonneg_right (n3 h) h0) (sK (Int.le_of_eq (PV k)) H)
theorem ajy{a:Nat}{k:Int}(h:a<=1)(H:k<=1000):k.toNat*a<=1000:=
 aB (GQ _ h) (aB (aA (Nat.mul_one _)) (Int.toNat_le.mpr H))
theorem XV{u n c k:Nat}(h:u+ 16*n+400<c)(hk:k<=400):u+k<c:=by omega
theorem Mg{u n c k:Nat}(h:u+n<c)(hk:k<=n):u+k<c:=wK (Dj hk u) h
theorem FE{a b:Nat}(h:b<=a):(a:Int) - b=((a - b:Nat):Int):=(Int.natCast_sub h).symm
theorem tL{n:Nat}(h:1<=n):(n:Int) - 1=((n - 1:Nat):Int):=FE h
theorem imx(n:Nat):max (-1:Int) (min (-2+(n:Int)) ((n:Int) - 1))=((n - 1:Nat):Int) - 1:=by
 cases n with
 |zero=>rfl
 |succ n=>
  have e:((n+1:Nat):Int) - 1=n:=Ou n 1
  rw[e,Hj (-2),show((n+1:Nat):Int)+ -2=n - 1 by rw[<- e,Int.sub_sub];rfl]
  rw[G7 (aaO _ (by decide)),Int.max_eq_right (show(-1:Int)<=(n:Int) - 1 from Int.sub_le_sub_right (i0 n) 1)];rfl
theorem idn(m:Nat):(if (m:Int) - 1> -1 then((m:Int) - 1 - -1 - -1 - 1) / 1 else 0).toNat=m:=by
 cases m with
 |zero=>rfl
 |succ m=>
  have e:((m+1:Nat):Int) - 1=m:=Ou m 1
  rw[e,if_pos (Z' (by decide) (i0 m)),Px,Int.sub_neg,Int.sub_neg,Ou];rfl
theorem idk{m k:Nat}(h:k<m):((m:Int) - 1+ -1*k).toNat=m - 1 - k:=by
 rw[tL (aam h),Int.neg_mul,PV,<- aaa,FE (Ol h)];rfl
theorem ifr{n:Nat}(h:1<=n):(if (1:Int)<n then(n:Int) - 1 - 1+1 else 0).toNat=n - 1:=by
 cases n with
 |zero=>exact absurd h (by decide)
 |succ n=>
  cases n with
  |zero=>rfl
  |succ n=>
   rw[if_pos (show(1:Int)<((n+1+1:Nat):Int) from mr (a:=1) (Nat.succ_lt_succ (zo n))),aab,tL h];rfl
theorem ifz{n:Nat}(h:1<=n):(if (n:Int) - 1>0 then(n:Int) - 1 - 0 - 1+1 else 0).toNat=n - 1:=by
 rw[tL h]
 generalize n - 1=m
 cases m with
 |zero=>rfl
 |succ m=>rw[if_pos (show((m+1:Nat):Int)>0 from mr (a:=0) (zo m)),aab,abH];rfl
theorem itn{n j:Nat}(h:j<n - 1):((n:Int) - 1+(j:Int)* -1).toNat=1+(n - 1 - 1 - j):=by
 rw[Int.mul_comm,tL (Ov λe=>by rw[e] at h;exact OU _ h)]
 generalize n - 1=m at h⊢
 rw[Int.neg_mul,PV,<- aaa,FE (fA h)]
 show m - j=_
 rw[Nat.sub_right_comm,Nat.add_sub_cancel' (Nat.sub_pos_of_lt h)]
theorem iab(a:Int):((a.natAbs:Nat):Int)=if a<0 then -a else a:=by
 split
 .rename_i h;exact Int.ofNat_natAbs_of_nonpos (zr h)
 .rename_i h;exact Int.natAbs_of_nonneg (xj.mp h)
theorem imi{r:Nat}:min (1:Int) ((r+1+1:Nat):Int)=1:=G7 (n3 (a:=1) (pK (dn _)))
theorem ine{k:Nat}:¬(((k+1+1:Nat):Int)=1):=λe=>by have:=inj (b:=1) e;exact absurd (zq this) (aaC _)
theorem XW:¬(0:Int)<= -1:=by decide
theorem XX(n:Nat):(0:Int)<= -1+((n+(0+1):Nat):Int):=by rw[Hj];show(0:Int)<=((n+1:Nat):Int) - 1;rw[tL (zo n)];exact i0 _
theorem XY(n:Nat):(-1+((n+(0+1):Nat):Int)).toNat=n:=by rw[Hj];show(((n+1:Nat):Int) - 1).toNat=n;rw[tL (zo n)];rfl
theorem iud(u b:Int):(if u<b then b - u else 0)=(((b - u).toNat:Nat):Int):=by
 split
 .rename_i h;exact(Int.toNat_of_nonneg (Int.sub_nonneg_of_le (zr h))).symm
 .rename_i h;rw[Z3 (Int.sub_nonpos_of_le (xj.mp h))];rfl
theorem an0{l r:Nat}(h:l<r):(l+r) / 2<r:=ZU (Nat.two_mul r▸Nat.add_lt_add_right h r)
theorem an1{l r:Nat}(h:l<=r):l<=(l+r) / 2:=(Nat.le_div_iff_mul_le DL).mpr (Nat.mul_two l▸Dj h l)
theorem od1(m:Nat):(2*m+1) % 2=1:=by rw[xb,Nat.add_mul_mod_self_left]
theorem od2(m:Nat):(2*m+1) / 2=m:=by rw[xb,Nat.add_mul_div_left _ _ DL];exact js m
theorem od3(m:Nat):¬ 2*m % 2=1:=by rw[Nat.mul_mod_right];decide
theorem od4(m:Nat):2*m / 2=m:=Nat.mul_div_cancel_left m DL
theorem XZ{n:Nat}:2<=n↔(2:Int)<((n+1:Nat):Int):=⟨λh=>mr (a:=2) (pK h),λh=>Ob (DC.mp h)⟩
theorem ic1{n:Nat}:((n+1:Nat):Int)=1↔n=0:=⟨λh=>zq (inj (b:=1) h),λh=>h▸rfl⟩
end bh
namespace bh
theorem aV{a n m:Nat}(h:a<=n)(d:EP n m=true):a<=m:=aB h (ZF d)
theorem cN{a b n m:Nat}(h:a<=b)(k:b<=n)(d:EP n m=true):a<=m:=aB h (aV k d)
theorem mu{a n m:Nat}(h:a<n)(d:EP n m=true):a<=m:=aV (fA h) d
theorem iL{a b:Nat}(h0:a+1<=b):1<=b:=aM [((J B k1),v1)] (k1,v1) rfl h0
theorem lJ{a:Nat}:0<=a:=be [] (k0,B) rfl
theorem kX{a b c:Nat}(h0:a+(b+1)<=c):a+1<=c:=aO [((J B (J v1 k1)),v2)] ((J B k1),v2) rfl h0
theorem n4{a b:Nat}(h0:a+1<=b+1):a<=b:=aM [((J B k1),(J v1 k1))] (B,v1) rfl h0
theorem ph{a b c:Nat}(h0:a<=b)(H:c<=a):c<=b:=aO [(B,v1),(v2,B)] (v2,v1) rfl h0 H
theorem qH{a b:Nat}(h0:a+1<=b):a<=b:=aM [((J B k1),v1)] (B,v1) rfl h0
theorem ub{a b c:Nat}(h0:a+1<=b)(H:b<=c+1):a<=c:=aO [((J B k1),v1),(v1,(J v2 k1))] (B,v2) rfl h0 H
theorem uc{a:Nat}:1<=a+1:=be [] (k1,(J B k1)) rfl
theorem ud{a:Nat}(h0:1+1<=a):1<=a:=be [((J k1 k1),B)] (k1,B) rfl h0
theorem tM{a b:Nat}(h0:a<=b)(H:b+1<= 64):a<=100000:=aM [(B,v1),((J v1 k1),(.num 64))] (B,(.num 100000)) rfl h0 H
theorem vR{a b c:Nat}(h0:a+1<=b)(H:b+1<=c):a+1<=c:=aO [((J B k1),v1),((J v1 k1),v2)] ((J B k1),v2) rfl h0 H
theorem vS{a b c:Nat}(h0:a+1<=b)(H:c+1<=a):c+1<=b:=aO [((J B k1),v1),((J v2 k1),B)] ((J v2 k1),v1) rfl h0 H
theorem vT{a b c d:Nat}(h0:a+(b+1)<=c)(H:d+1<=a):d+1<=c:=bM [((J B (J v1 k1)),v2),((J v3 k1),B)] ((J v3 k1),v2) rfl h0 H
theorem vU{a b:Nat}(h0:a<=b):a+1<=b+1:=aM [(B,v1)] ((J B k1),(J v1 k1)) rfl h0
theorem vV{a b c d:Nat}(h0:a<=b)(H:c<=d):c+a<=d+b:=bM [(B,v1),(v2,v3)] ((J v2 B),(J v3 v1)) rfl h0 H
theorem yk{a b c d:Nat}(h0:a+1<=b)(H:b+c<=d):c+1<=d:=bM [((J B k1),v1),((J v1 v2),v3)] ((J v2 k1),v3) rfl h0 H
theorem yl{a b c:Nat}(h0:a+1<=b)(H:b<=c):a+1<=c:=aO [((J B k1),v1),(v1,v2)] ((J B k1),v2) rfl h0 H
theorem ym{a b c d:Nat}(h0:a<=b)(H:c+b+1<=d):c+a+1<=d:=bM [(B,v1),((J (J v2 v1) k1),v3)] ((J (J v2 B) k1),v3) rfl h0 H
theorem yn{a b:Nat}(h0:0+1<=a)(H:a+1<=b):1<=b:=aM [((J k0 k1),B),((J B k1),v1)] (k1,v1) rfl h0 H
theorem BY{a b c:Nat}(h0:a+(b+1)<=c):a<=c:=aO [((J B (J v1 k1)),v2)] (B,v2) rfl h0
theorem BZ{a b c d:Nat}(h0:a+1<=b+c)(H:d+(c+1)<=a+1):d+1<=b:=bM [((J B k1),(J v1 v2)),((J v3 (J v2 k1)),(J B k1))] ((J v3 k1),v1) rfl h0 H
theorem B1{a b:Nat}(h0:a+1<=b):a+1<=b+1:=aM [((J B k1),v1)] ((J B k1),(J v1 k1)) rfl h0
theorem B2{a b:Nat}(h0:a+1<=b)(H:b<=0):1<=0:=aM [((J B k1),v1),(v1,k0)] (k1,k0) rfl h0 H
theorem B3{a b c:Nat}(h0:a+(b+1)<=c):a+1+b<=c:=aO [((J B (J v1 k1)),v2)] ((J (J B k1) v1),v2) rfl h0
theorem B4{a b:Nat}(h0:1<=a)(H:a<=b):1<=b:=aM [(k1,B),(B,v1)] (k1,v1) rfl h0 H
theorem FF{a b c:Nat}(h0:a<=b)(H:b<=c):a<=c:=aO [(B,v1),(v1,v2)] (B,v2) rfl h0 H
theorem FG{a b c:Nat}(h0:a<=b)(H:b+1<=c):a+1<=c:=aO [(B,v1),((J v1 k1),v2)] ((J B k1),v2) rfl h0 H
theorem FH{a b c d e:Nat}(h0:a<=b+1)(H:c<=a+d)(O:e+(d+1)<=c):e<=b:=eH [(B,(J v1 k1)),(v2,(J B v3)),((J v4 (J v3 k1)),v2)] (v4,v1) rfl h0 H O
theorem FI{a b c:Nat}(h0:a+1<=b)(H:c<=a):c+1<=b:=aO [((J B k1),v1),(v2,B)] ((J v2 k1),v1) rfl h0 H
theorem FJ{a b c:Nat}(h0:a+1<=b):1<=c+b:=aO [((J B k1),v1)] (k1,(J v2 v1)) rfl h0
theorem FK{a b:Nat}(h0:a+1<=b)(H:b<=a):1<=0:=aM [((J B k1),v1),(v1,B)] (k1,k0) rfl h0 H
theorem FL{a b c:Nat}(h0:a<=b)(H:c+1<=a+(0+1)):c<=b:=aO [(B,v1),((J v2 k1),(J B (J k0 k1)))] (v2,v1) rfl h0 H
theorem FM{a b:Nat}(h0:0+1<=a)(H:a<=b):0+1<=b:=aM [((J k0 k1),B),(B,v1)] ((J k0 k1),v1) rfl h0 H
theorem FN{a b:Nat}(h0:1<=a):1<=a+b:=aM [(k1,B)] (k1,(J B v1)) rfl h0
theorem FO{a b:Nat}(h0:500000000000<=a)(H:b<=10000):b+1<=a:=aM [((.num 500000000000),B),(v1,(.num 10000))] ((J v1 k1),B) rfl h0 H
theorem FP{a b c d:Nat}(h0:a<=b)(H:c<=d):c+a<=b+d:=bM [(B,v1),(v2,v3)] ((J v2 B),(J v1 v3)) rfl h0 H
theorem FQ{a b:Nat}(h0:a<=b):a<=b+1:=aM [(B,v1)] (B,(J v1 k1)) rfl h0
theorem FR{a b c d:Nat}(h0:a<=b)(H:c<=a)(O:b<=d):c<=d:=bM [(B,v1),(v2,B),(v1,v3)] (v2,v3) rfl h0 H O
theorem Mh{a b c:Nat}(h0:a<=0)(H:b<=a+c):b<=c:=aO [(B,k0),(v1,(J B v2))] (v1,v2) rfl h0 H
theorem Mi{a b c d e:Nat}(h0:a+1<=b)(H:c<=d+(e+1))(O:b+e<=c):a<=d:=eH [((J B k1),v1),(v2,(J v3 (J v4 k1))),((J v1 v4),v2)] (B,v3) rfl h0 H O
theorem Mj{a b c:Nat}(h0:a+ 16*b+400+1<=c):a+ 64+1<=c:=aO [((J (J (J B (.mulL 16 v1)) (.num 400)) k1),v2)] ((J (J B (.num 64)) k1),v2) rfl h0
theorem Mk{a b c d e:Nat}(h0:a<=b)(H:b<=c)(O:d+c+1<=e):d+a+1<=e:=eH [(B,v1),(v1,v2),((J (J v3 v2) k1),v4)] ((J (J v3 B) k1),v4) rfl h0 H O
theorem Ml{a:Nat}:0+1<=a+1:=be [] ((J k0 k1),(J B k1)) rfl
theorem Mm{a:Nat}(h0:0+1<=a):1<=a:=be [((J k0 k1),B)] (k1,B) rfl h0
theorem Mn{a b c:Nat}(h0:a<=b):a<=c+b:=aO [(B,v1)] (B,(J v2 v1)) rfl h0
theorem Mo{a b c:Nat}(h0:a<=b)(H:1<=c):a+1<=c+b:=aO [(B,v1),(k1,v2)] ((J B k1),(J v2 v1)) rfl h0 H
end bh
namespace bh
open PySem PySem.W PyProof.Rows PySem.Calls
noncomputable abbrev VS:=ao->aJ->Prop
def Sub(g h:aG):Prop:=∀b o,g.get? b=some o->h.get? b=some o
theorem Sub.rfl:Sub g g:=λzz zz e=>e
theorem Sub.trans(x:Sub a b)(y:Sub b c):Sub a c:=λq o e=>y q o (x q o e)
open Classical in
noncomputable def qB(h:aG)(P:az->Prop):aG:=
 ⟨h.objs.mapIdx λi o=>if P i then o else⟨.none,none, .freed,#[]⟩,h.life⟩
theorem sZ(hp:P b):(qB h P).get? b=h.get? b:=by
 unfold qB Heap.get?
 refine Y ZG ?_
 cases h.objs[b]? with
 |none=>rfl
 |some o=>simp only[uE,if_pos hp]
theorem Tw(hp:¬P b):(qB h P).get? b=none:=by
 unfold qB Heap.get?
 simp only[ZG]
 cases h.objs[b]? with
 |none=>rfl
 |some o=>simp only[uE,if_neg hp]
theorem R1:Sub (qB h P) h:=by
 intro b o e
 by_cases hp:P b
 .rwa [sZ hp] at e
 .rw[Tw hp] at e;exact aC e
theorem Ir(e:(qB h P).get? b=some o):P b/\h.get? b=some o:=by
 by_cases hp:P b
 .exact⟨hp,by rwa [sZ hp] at e⟩
 .rw[Tw hp] at e;exact aC e
def cv(g h:aG)(X:az->Prop):aG:=qB h λb=>(∃o,g.get? b=some o)\/X b
theorem q9:Sub (cv g h X) h:=R1
theorem ij(s:Sub g h):Sub g (cv g h X):=λb o e=>by
 unfold cv;rw[sZ (.inl ⟨o,e⟩)];exact s b o e
theorem nH(hx:X b)(e:h.get? b=some o):(cv g h X).get? b=some o:=by
 unfold cv;rw[sZ (.inr hx)];exact e
theorem mQ(s:Sub g h)(e:(cv g h X).get? b=some o):g.get? b=some o\/X b:=by
 refine xa (Ir e) λp q=>?_
 rcases p with⟨o',e'⟩|p
 .left;have:=s b o' e';rw[q] at this;injection this with J6;subst J6;exact e'
 .exact .inr p
def Is(g:aG)(v:ao)(d:ah):Prop:=∃as,jj g v d as
def aT(g:aG)(vs:List ao)(ds:List ah):Prop:=∃as,lu g vs ds as
section
variable{g g':aG}{v:ao}{d:ah}{vs ws:List ao}{ds es:List ah}
theorem Is.mono(h:Is g v d)(s:Sub g g'):Is g' v d:=let ⟨as,r⟩:=h;⟨as,Reads.keeps s r⟩
theorem aT.mono(h:aT g vs ds)(s:Sub g g'):aT g' vs ds:=let ⟨as,r⟩:=h;⟨as,ReadsAll.keeps s r⟩
theorem Is.none:Is g .none .none:=⟨_, .none⟩
theorem Is.bool:Is g (.bool b) (.bool b):=⟨_, .bool b⟩
theorem Is.int:Is g (.int i t) (.int i):=⟨_, .int i t⟩
theorem Is.str:Is g (.str x t) (.str x):=⟨_, .str x t⟩
theorem aT.nil:aT g [] []:=⟨_, .nil⟩
theorem aT.cons(h:Is g v d)(k:aT g vs ds):aT g (v::vs) (d::ds):=let ⟨_,r⟩:=h;let ⟨_,q⟩:=k;⟨_, .cons r q⟩
theorem aT.head(h:aT g (v::vs) (d::ds)):Is g v d:=by refine xe h λzz r=>?_;cases r with|cons a b=>exact⟨_,a⟩
theorem aT.tail(h:aT g (v::vs) (d::ds)):aT g vs ds:=by refine xe h λzz r=>?_;cases r with|cons a b=>exact⟨_,b⟩
theorem aT.nil_inv(h:aT g vs []):vs=[]:=by refine xe h λzz r=>?_;cases r;rfl
theorem aT.cons_inv(h:aT g vs (d::ds)):∃v ws,vs=v::ws/\Is g v d/\aT g ws ds:=by
 refine xe h λzz r=>?_
 cases r with
 |cons a b=>exact eY _ _ rfl (⟨_,a⟩) (⟨_,b⟩)
theorem aT.length:∀{vs:List ao} {ds:List ah},aT g vs ds->vs.length=ds.length
 |vs,[],h=>by refine Y h.nil_inv ?_;rfl
 |vs,d::ds,h=>by
  refine bZ h.cons_inv λv ws ajz zz k=>?_;subst ajz
  exact Y bL<|Y bL<|Y k.length rfl
theorem aT.append:∀{vs:List ao} {ds:List ah},aT g vs ds->aT g ws es->aT g (vs++ws) (ds++es)
 |vs,[],h,k=>by exact Y h.nil_inv<|k
 |vs,d::ds,h,k=>by
  refine bZ h.cons_inv λv ws' ajA a b=>?_;subst ajA
  exact .cons a (b.append k)
theorem aT.one(h:Is g v d):aT g [v] [d]:= .cons h .nil
theorem aT.get:∀{vs:List ao} {ds:List ah},aT g vs ds->∀{k:Nat} {d:ah},ds[k]? =some d->∃v,vs[k]? =some v/\Is g v d
 |vs,[],_,k,d,e=>by simp at e
 |vs,d'::ds,h,k,d,e=>by
  refine bZ h.cons_inv λv ws' ajB a b=>?_;subst ajB
  cases k with
  |zero=>simp at e;subst e;exact ai v rfl a
  |succ k=>exact b.get e
theorem aT.of_get:∀{vs:List ao} {ds:List ah},vs.length=ds.length->(∀(k:Nat) v d,vs[k]? =some v->ds[k]? =some d->Is g v d)->aT g vs ds
 |[],[],_,_=> .nil
 |v::vs,d::ds,hl,h=> .cons (h 0 v d rfl rfl) (aT.of_get (by simpa using hl) λk v d a b=>h (k+1) v d (by simpa using a) (by simpa using b))
 |[],_::_,hl,_=>by simp at hl
 |_::_,[],hl,_=>by simp at hl
theorem aT.agx(h:aT g vs ds)(ks:List Nat)(hk:∀k∈ks,k<ds.length)(Mp:ao)(an2:ah):aT g (ks.map λk=>vs.getD k Mp) (ks.map λk=>ds.getD k an2):=by
 induction ks with
 |nil=>exact .nil
 |cons k ks ih=>
  have jH:=hk k (.head _)
  refine ar (h.get (k:=k) (d:=ds[k]) (by simp[jH])) λv e i=> .cons ?_ (ih λj hj=>hk j (.tail _ hj))
  dsimp only
  refine Y uu<|Y e<|Y uu<|Y (y' jH) ?_
  exact i
theorem Is.tuple(ho:g.get? a=some o)(hc:o.cls= .type "tuple")(hd:o.data= .seq xs n)(h:aT g xs.toList ds):Is g (.ref a) (.tuple ds):=
 let ⟨_,r⟩:=h;⟨_, .tuple ho hc hd r⟩
theorem Is.list(ho:g.get? a=some o)(hc:o.cls= .type "list")(hd:o.data= .seq xs n)(h:aT g xs.toList ds):Is g (.ref a) (.list ds):=
 let ⟨_,r⟩:=h;⟨_, .list ho hc hd r⟩
theorem Is.kH(h:Is g v (.tuple ds)):∃a o xs n,v= .ref a/\g.get? a=some o/\o.cls= .type "tuple"/\o.data= .seq xs n/\aT g xs.toList ds:=by
 refine xe h λzz r=>?_
 cases r with
 |tuple a b c e=>exact zF _ _ _ _ rfl a b c (⟨_,e⟩)
theorem Is.s7(h:Is g v (.list ds)):∃a o xs n,v= .ref a/\g.get? a=some o/\o.cls= .type "list"/\o.data= .seq xs n/\aT g xs.toList ds:=by
 refine xe h λzz r=>?_
 cases r with
 |list a b c e=>exact zF _ _ _ _ rfl a b c (⟨_,e⟩)
theorem Is.bool_inv(h:Is g v (.bool b)):v= .bool b:=by refine xe h λzz r=>?_;cases r;rfl
theorem Is.int_inv(h:Is g v (.int i)):∃t,v= .int i t:=by refine xe h λzz r=>?_;cases r;exact⟨_,rfl⟩
theorem Is.str_inv(h:Is g v (.str x)):∃t,v= .str x t:=by refine xe h λzz r=>?_;cases r;exact⟨_,rfl⟩
end
set_option genSizeOf false
set_option genInjectivity false
set_option bootstrap.genMatcherCode false
set_option genInjectivity true in
inductive as7 where
 |d (x:ah)
 |me (x:ah)
 |feed
 |dk (kvs:List (ah×ah))
inductive aK where
 |un
 |v (x:as7)
 |own (ds:List ah)
 |cI (kvs:List (ah×ah))
noncomputable def kS:aK->Bool
 | .own _=>true
 | .cI _=>true
 |_=>false
inductive iM where
 |one (i:Nat)
 |two (i j:Nat)
inductive SK where
 |eO|s8|tN (n:Nat)|rev|rL
inductive Bi where
 |len|tuple|list|sorted|FS|B5
inductive Op where
 |str1|count|pi|tO|tP|oJ|m9|rM|jx|oK|zip2|dedup|rc|qc
inductive M4 where
 |add|sub|mul|mod|pow|shr|band
inductive M5 where
 |eq|ne|lt|gt|isIn|AL
set_option genCtorIdx false in
inductive E where
 |loc (i:Nat)|lit (d:ah)|aW (k:Nat)
 |nil|cons (e es:E)
 |tup (es:E)|lst (es:E)
 |item (e i:E)|dE (k:SK) (e:E)
 |aa (e:E)
 |call (f:Nat) (es:E)|eR (f:Nat) (e es:E)
 |bi (b:Bi) (e:E)|mk (e:E)
 |bin (o:M4) (a b:E)|cmp (o:M5) (a b:E)
 |j6 (a:E)|oZ (a b:E)|mw (a b:E)|ite (c a b:E)
 |comp (e:E) (t:iM) (it c:E)
 |gY (e:E) (WR:iM) (it₁:E) (Mq:iM) (it₂:E)
 |enum (e:E)
 |op (k:Op) (es:E)
 |ql (e:E) (i:Nat)
 |AM (e:E)
set_option genCtorIdx false in
inductive S where
 |bI
 |asg (i:Nat) (e:E) (k:S)
 |yo (i j:Nat) (a b:E) (k:S)
 |new (i:Nat) (e:E) (k:S)
 |cv (i:Nat) (k:S)
 |ext (i:Nat) (e:E) (k:S)
 |yp (i:Nat) (e:E) (k:S)
 |qC (i j:Nat) (e f:E) (k:S)
 |app (i:Nat) (e:E) (k:S)
 |rem (i:Nat) (e:E) (k:S)
 |pop (i j:Nat) (k:S)
 |xR (i:Nat) (b k:S)
 |newD (i:Nat) (k:S)
 |m0 (i:Nat) (e v:E) (k:S)
 |tQ (i:Nat) (k:S)
 |bad
 |tR (i:Nat) (key:Str) (e:E) (k:S)
 |ca (c:E) (a b k:S)
 |ed (t:iM) (it:E) (b k:S)
 |ret (e:E)
abbrev Sg:=List (Str×ah)
inductive g9 where
 |next (ρ:List aK) (σ:Sg)
 |ret (v:as7) (σ:Sg)
structure eT where
 rp:Nat
 EY:Nat
 body:S
noncomputable def J7:ah->Option Bool
 | .bool x=>some x| .none=>none| .int _=>none| .str _=>none| .tuple _=>none| .list _=>none| .dict _=>none
noncomputable def intD:ah->Option Int
 | .int x=>some x| .none=>none| .bool _=>none| .str _=>none| .tuple _=>none| .list _=>none| .dict _=>none
noncomputable def o0:ah->Option Str
 | .str x=>some x| .none=>none| .bool _=>none| .int _=>none| .tuple _=>none| .list _=>none| .dict _=>none
noncomputable def o6:ah->Option (List ah)
 | .tuple x=>some x| .none=>none| .bool _=>none| .int _=>none| .str _=>none| .list _=>none| .dict _=>none
noncomputable def tT:ah->Option (List ah)
 | .list x=>some x| .none=>none| .bool _=>none| .int _=>none| .str _=>none| .tuple _=>none| .dict _=>none
noncomputable def yq:ah->Option (List (ah×ah))
 | .dict x=>some x| .none=>none| .bool _=>none| .int _=>none| .str _=>none| .tuple _=>none| .list _=>none
noncomputable def tF:ah->Option (List ah)
 | .list xs=>some xs| .tuple xs=>some xs| .none=>none| .bool _=>none| .int _=>none| .str _=>none| .dict _=>none
noncomputable def two:List ah->Option (ah×ah)
 |[]=>none|[_]=>none|[x,y]=>some (x,y)|_::_::_::_=>none
def tx(x:ah):Option (ah×ah):=(o6 x).bind two
theorem R3(h:J7 d=some x):d= .bool x:=by cases d<;>first|exact aC h|exact congrArg _ (gS h)
theorem nI(h:intD d=some x):d= .int x:=by cases d<;>first|exact aC h|exact congrArg _ (gS h)
theorem uP(h:o0 d=some x):d= .str x:=by cases d<;>first|exact aC h|exact congrArg _ (gS h)
theorem tc(h:o6 d=some x):d= .tuple x:=by cases d<;>first|exact aC h|exact congrArg _ (gS h)
theorem xy(h:tT d=some x):d= .list x:=by cases d<;>first|exact aC h|exact congrArg _ (gS h)
theorem Ab(h:yq d=some x):d= .dict x:=by cases d<;>first|exact aC h|exact congrArg _ (gS h)
theorem ais:∀{xs:List ah} {p:ah×ah},two xs=some p->xs=[p.1,p.2]
 |[],_,h=>nomatch h
 |[_],_,h=>nomatch h
 |[_,_],_,h=>by injection h with oN;subst oN;rfl
 |_::_::_::_,_,h=>nomatch h
theorem QP(h:tx x=some p):x= .tuple [p.1,p.2]:=by
 exact aP h λxs H O=>Y (tc H)<|Y (ais O) rfl
noncomputable def lim:Nat:=1000000
noncomputable def df(i:Int):Bool:=decide (-(2:Int)^ 40<i) && decide (i<(2:Int)^ 40)
def fE(i:Int):Option ah:=if df i then some (.int i) else none
def ue(xs:List ah):Option ah:=if xs.length<=lim then some (.tuple xs) else none
def kY(xs:List ah):Option ah:=if xs.length<=lim then some (.list xs) else none
def WS(x y:ah):Option ah:=match x with
 | .int a=>(intD y).bind λb=>if df a && df b then fE (a+b) else none
 | .tuple a=>(o6 y).bind λb=>ue (a++b)
 | .list a=>(tT y).bind λb=>kY (a++b)
 | .none=>none| .bool _=>none| .str _=>none| .dict _=>none
def Mr(a b:Int):Option ah:=if df a && df b then fE (a - b) else none
def Ms(a b:Int):Option ah:=if df a && df b then fE (a*b) else none
def WT(a b:Int):Option ah:=if decide (0<b) then fE (a % b) else none
def WU(a b:Int):Option ah:=if decide (a=2) && decide (0<=b) && decide (b<= 30) then fE (2^b.toNat) else none
def WV(a b:Int):Option ah:=if decide (0<=a) && decide (a<2^ 32) && decide (0<=b) && decide (b<= 30) then fE (a / 2^b.toNat) else none
def VH(a b:Int):Option ah:=if decide (0<=a) && decide (a<2^ 32) && decide (b=1) then fE (a % 2) else none
def u4(x y:ah)(f:Int->Int->Option ah):Option ah:=(intD x).bind λa=>(intD y).bind λb=>f a b
noncomputable def qD(xs:List ah):Nat->List ah
 |0=>[]
 |n+1=>xs++qD xs n
theorem HR{xs n}:qD xs (xw n)=xs++qD xs n:=rfl
def WW(x y:ah):Option ah:=match x with
 | .int a=>(intD y).bind λb=>Ms a b
 | .tuple a=>(intD y).bind λb=>if decide (0<=b) && decide (b<=1000) && decide (a.length<=1) then some (.tuple (qD a b.toNat)) else none
 | .none=>none| .bool _=>none| .str _=>none| .list _=>none| .dict _=>none
def j7:M4->ah->ah->Option ah
 | .add,a,b=>WS a b
 | .sub,a,b=>u4 a b Mr
 | .mul,a,b=>WW a b
 | .mod,a,b=>u4 a b WT
 | .pow,a,b=>u4 a b WU
 | .shr,a,b=>u4 a b WV
 | .band,a,b=>u4 a b VH
noncomputable def ce(d:ah):Bool:=DE d
def gI(o:M5)(a b:ah):Option Bool:=match o with
 | .eq=>if ce a && ce b then some (cA a b) else none
 | .ne=>if ce a && ce b then some (!cA a b) else none
 | .lt=>(intD a).bind λx=>(intD b).map λy=>decide (x<y)
 | .gt=>(intD a).bind λx=>(intD b).map λy=>decide (y<x)
 | .isIn=>(tF b).bind λxs=>if ce a && ce b then some (xs.any λy=>cA y a) else none
 | .AL=>(tF b).bind λxs=>if ce a && ce b then some (!(xs.any λy=>cA y a)) else none
noncomputable def jI(n:Nat)(i:Int):Option Nat:=
 if 0<=i then(if i<n then some i.toNat else none) else(if 0<=i+n then some (i+n).toNat else none)
def mf(x:ah)(i:Int):Option ah:=match x with
 | .tuple xs=>(jI xs.length i).bind λk=>xs[k]?
 | .list xs=>(jI xs.length i).bind λk=>xs[k]?
 | .str x=>(jI x.cps.size i).bind λk=>x.cps[k]?.map λc=> .str ⟨#[c]⟩
 | .none=>none| .bool _=>none| .int _=>none| .dict _=>none
noncomputable def B6(k:SK)(xs:List ah):List ah:=match k with
 | .eO=>xs.drop 1
 | .s8=>xs.dropLast.reverse
 | .tN n=>xs.take n
 | .rev=>xs.reverse
 | .rL=>(xs.drop 1).reverse
noncomputable def VI:SK->Bool
 | .eO=>true| .rL=>true| .s8=>false| .tN _=>false| .rev=>false
noncomputable def J8:SK->Bool
 | .eO=>true| .rL=>false| .s8=>true| .tN _=>true| .rev=>true
def nT(k:SK)(x:ah):Option ah:=match x with
 | .tuple xs=>if VI k && decide (1<=xs.length) && decide (xs.length<=lim) then some (.tuple (B6 k xs)) else none
 | .list xs=>if J8 k && decide (xs.length<=lim) then some (.list (B6 k xs)) else none
 | .none=>none| .bool _=>none| .int _=>none| .str _=>none| .dict _=>none
mutual
def fO:ah->ah->Option Bool
 | .int a,y=>(intD y).map λb=>decide (a<b)
 | .str a,y=>(o0 y).map λb=>decide (a.cps.toList<b.cps.toList)
 | .tuple a,y=>(o6 y).bind λb=>gP a b
 | .list a,y=>(tT y).bind λb=>gP a b
 | .none,_=>none| .bool _,_=>none| .dict _,_=>none
def gP:List ah->List ah->Option Bool
 |[],[]=>some false
 |[],_::_=>some true
 |_::_,[]=>some false
 |x::xs,y::ys=>if cA x y then gP xs ys else fO x y
end
theorem aeW{x a}:fO (kG a) x=QF (λ(b:Int)=>OP (a<b)) (intD x):=rfl
theorem aeX{x a}:fO (eB a) x=QF (λ(b:Str)=>OP (Hk (Jx a)<Hk (Jx b))) (o0 x):=rfl
theorem aeY{x a}:fO (sL a) x=Hy (o6 x) λ(b:List ah)=>gP a b:=rfl
theorem aeZ{x a}:fO (jW a) x=Hy (tT x) λ(b:List ah)=>gP a b:=rfl
theorem R4:gP [] []=some false:=rfl
theorem R5{head tail}:gP [] (head::tail)=some true:=rfl
theorem R6{head tail}:gP (head::tail) []=some false:=rfl
theorem Ed{dT xs y ys}:gP (dT::xs) (y::ys)=if cA dT y=true then gP xs ys else fO dT y:=rfl
noncomputable def fc:ah->Nat
 | .none=>0| .bool _=>1| .int _=>2| .str _=>3| .tuple _=>4| .list _=>5| .dict _=>6
mutual
def cD:ah->ah->Ordering
 | .int a, .int b=>compare a b
 | .str a, .str b=>if a.cps.toList<b.cps.toList then .lt else if a=b then .eq else .gt
 | .tuple a, .tuple b=>cL a b
 | .list a, .list b=>cL a b
 |a,b=>compare (fc a) (fc b)
def cL:List ah->List ah->Ordering
 |[],[]=> .eq
 |[],_::_=> .lt
 |_::_,[]=> .gt
 |x::xs,y::ys=>(cD x y).then (cL xs ys)
end
theorem Ac{a b}:cD (kG a) (kG b)=Ord.compare a b:=rfl
theorem Ad{a b}:cD (eB a) (eB b)=if Hk (Jx a)<Hk (Jx b) then Ordering.lt else if a=b then Ordering.eq else Hz:=rfl
theorem Tx{a b}:cD (sL a) (sL b)=cL a b:=rfl
theorem Tz{a b}:cD (jW a) (jW b)=cL a b:=rfl
theorem xz{dT xs y ys}:cL (dT::xs) (y::ys)=Ordering.then (cD dT y) (cL xs ys):=rfl
mutual
noncomputable def gd:ah->Bool
 | .int _=>true
 | .str _=>true
 | .tuple xs=>fx xs
 | .list xs=>fx xs
 |_=>false
noncomputable def fx:List ah->Bool
 |[]=>true
 |x::xs=>gd x && fx xs
end
theorem ar3{i}:gd (kG i)=true:=rfl
theorem ar4{s}:gd (eB s)=true:=rfl
theorem I4{xs}:gd (sL xs)=fx xs:=rfl
theorem TB{xs}:gd (jW xs)=fx xs:=rfl
theorem pW{dv xs}:fx (dv::xs)=(gd dv && fx xs):=rfl
def rN(x:ah):List ah->List ah
 |[]=>[x]
 |y::ys=>if cD x y= .gt then y::rN x ys else x::y::ys
theorem DW{x dT xs}:rN x (dT::xs)=if cD x dT=Hz then dT::rN x xs else x::dT::xs:=rfl
def gf:List ah->List ah
 |[]=>[]
 |x::xs=>rN x (gf xs)
theorem Qb{dv xs}:gf (dv::xs)=rN dv (gf xs):=rfl
noncomputable def TC:ah->Option ah
 | .tuple (x::_)=>some x
 |_=>none
def Fo(t:Nat)(d:ah):Bool:=fc d==t
def qx(t:Nat)(d:ah):Bool:=match TC d with
 |some x=>fc x==t
 |none=>false
def rj(xs:List ah):Bool:=xs.all (Fo 3)||xs.all (qx 2)||xs.all (qx 3)||xs.all (qx 4)
def td(xs:List ah):Bool:=decide (2<=xs.length) && decide (xs.length< 64) && ce (.list xs) && fx xs && rj xs && xs.all λx=>xs.all λy=>(fO x y).isSome
def gX(xs:List ah):Bool:=decide (xs.length<2)||td xs
noncomputable def u5:List ah->Option (List Str)
 |[]=>some []
 | .str x::r=>(u5 r).map (x:: ·)
 |_::_=>none
theorem abO{dv r}:u5 (eB dv::r)=QF (λ(x:List Str)=>dv::x) (u5 r):=rfl
def an3:ah->Option ah
 | .tuple xs=>fE xs.length| .list xs=>fE xs.length| .str x=>fE x.cps.size| .none=>none| .bool _=>none| .int _=>none| .dict _=>none
def fg(b:Bi)(x:ah):Option ah:=match b with
 | .len=>an3 x
 | .tuple=>(tT x).bind λxs=>ue xs
 | .list=>(o6 x).bind λxs=>kY xs
 | .sorted=>(tT x).bind λxs=>if gX xs then some (.list (gf xs)) else none
 | .FS=>(intD x).map λi=> .int i.natAbs
 | .B5=>(J7 x).map λb=> .int (if b then 1 else 0)
noncomputable def tG(k:Str)(p:ah×ah):Bool:=match p.1 with
 | .str x=>x==k
 |_=>false
def nM(kvs:List (ah×ah))(k:Str):Option ah:=(kvs.find? (tG k)).map (·.2)
def m3(kvs:List (ah×ah))(k:Str)(v:ah):List (ah×ah):=
 if kvs.any (tG k) then kvs.map λp=>if tG k p then(p.1,v) else p else kvs++[(.str k,v)]
noncomputable def oL:ah->Bool
 | .str x=>x.cps[0]? ==some 63
 |_=>false
def iZ:List (ah×ah)->Bool
 |[]=>true
 |p::r=>oL p.1 && !(r.any λq=>cA q.1 p.1) && iZ r
theorem HD{p r}:iZ (p::r)=((oL (q8 p) && !Eo r λ(q:ah×ah)=>cA (q8 q) (q8 p)) && iZ r):=rfl
noncomputable def oO:ah×ah->ah:=λp=> .tuple [p.1,p.2]
def pairsOf:List ah->Option (List (ah×ah))
 |[]=>some []
 |x::r=>(tx x).bind λp=>(pairsOf r).map (p:: ·)
def uQ:List (ah×ah)->List (ah×ah)->Option (List (ah×ah))
 |acc,[]=>some acc
 |acc,p::r=>(o0 p.1).bind λk=>uQ (m3 acc k p.2) r
noncomputable def intsFrom(a:Int):Nat->List ah
 |0=>[]
 |n+1=> .int a::intsFrom (a+1) n
theorem zi{a n}:intsFrom a (xw n)=kG a::intsFrom (a+1) n:=rfl
noncomputable def mj:List ah->List ah->List ah
 |x::xs,y::ys=> .tuple [x,y]::mj xs ys
 |_,_=>[]
theorem HS{dT xs y ys}:mj (dT::xs) (y::ys)=sL [dT,y]::mj xs ys:=rfl
mutual
noncomputable def jJ:ah->Bool
 | .str _=>true
 | .tuple xs=>pj xs
 |_=>false
noncomputable def pj:List ah->Bool
 |[]=>true
 |x::xs=>jJ x && pj xs
end
theorem zP{xs}:jJ (sL xs)=pj xs:=rfl
theorem qZ{dv xs}:pj (dv::xs)=(jJ dv && pj xs):=rfl
def iH(d:ah):Bool:=(fc d==4) && jJ d && ce d && decide (d.depth<=8)
noncomputable def mR(k:ah)(p:ah×ah):Bool:=cA p.1 k
def ve(kvs:List (ah×ah))(k:ah):Option ah:=(kvs.find? (mR k)).map (·.2)
def ml(kvs:List (ah×ah))(k v:ah):List (ah×ah):=
 if kvs.any (mR k) then kvs.map λp=>if mR k p then(p.1,v) else p else kvs++[(k,v)]
def x8:List (ah×ah)->List (ah×ah)->Option (List (ah×ah))
 |acc,[]=>some acc
 |acc,p::r=>if iH p.1 then x8 (ml acc p.1 p.2) r else none
noncomputable def fu(zs:List Str)(k:Str):List Str:=if zs.contains k then zs else zs++[k]
def B7(xs:List ah):Option ah:=if decide (xs.length<=1000) then(pairsOf xs).bind λps=>(uQ [] ps).bind λkvs=>if iZ kvs then some (.dict kvs) else none else none
def M6(k:Op)(x:ah):Option ah:=match k with
 | .str1=>(o0 x).map λx=> .str ⟨x.cps.extract 0 1⟩
 | .oJ=>(yq x).bind λkvs=>if iZ kvs && decide (kvs.length<=1000) then some (.list (kvs.map oO)) else none
 | .m9=>(tF x).bind λxs=>if fc x==5 && xs.isEmpty then none else B7 xs
 | .jx=>(intD x).bind λn=>if df n && decide (n<=1000) then some (.list (intsFrom 0 n.toNat)) else none
 | .dedup=>(tT x).bind λxs=>if decide (xs.length<=1000) then(pairsOf xs).bind λps=>(x8 [] ps).map λkvs=> .list (kvs.map (·.1)) else none
 | .rc=>(tT x).bind λxs=>(u5 xs).bind λss=>if decide (ss.length< 60) && ss.all sN then some (.list (gf ((ss.foldl fu []).map .str))) else none
 | .qc=>some (.bool (fc x !=0))
 | .count=>none| .pi=>none| .tO=>none| .tP=>none| .rM=>none| .oK=>none| .zip2=>none
def X0(k:Op)(x y:ah):Option ah:=match k with
 | .count=>(o6 x).bind λxs=>if ce x && ce y then fE (xs.countP λx=>cA x y) else none
 | .pi=>(o0 x).bind λk=>(yq y).bind λkvs=>if iZ kvs then some (.bool (kvs.any (tG k))) else none
 | .oK=>(intD x).bind λa=>(intD y).bind λb=>if df a && df b && decide (b - a<=1000) then some (.list (intsFrom a (b - a).toNat)) else none
 | .zip2=>(o6 x).bind λxs=>(o6 y).bind λys=>if xs.length=ys.length then some (.list (mj xs ys)) else none
 | .str1=>none| .oJ=>none| .m9=>none| .jx=>none| .dedup=>none| .rc=>none| .qc=>none| .tO=>none| .tP=>none| .rM=>none
def X2(k:Op)(x y z:ah):Option ah:=match k with
 | .tO=>(yq x).bind λkvs=>(o0 y).bind λk=>if iZ kvs && decide (kvs.length<=1000) && oL y then some (.dict (m3 kvs k z)) else none
 | .tP=>(yq x).bind λkvs=>(o0 y).bind λk=>if iZ kvs then some ((nM kvs k).getD z) else none
 | .str1=>none| .oJ=>none| .m9=>none| .jx=>none| .dedup=>none| .rc=>none| .qc=>none| .count=>none| .pi=>none| .oK=>none| .zip2=>none| .rM=>none
def jK(k:Op):List ah->Option ah
 |[]=>some (.dict [])
 |[x]=>M6 k x
 |[x,y]=>X0 k x y
 |[x,y,z]=>X2 k x y z
 |_::_::_::_::_=>none
noncomputable def oP:Nat->List ah->List ah
 |_,[]=>[]
 |k,x::xs=> .tuple [.int k,x]::oP (k+1) xs
theorem zB{x dT xs}:oP x (dT::xs)=sL [kG (↑x:Int),dT]::oP (x+1) xs:=rfl
noncomputable def vD:as7->Option ah
 | .d x=>some x| .me _=>none| .feed=>none| .dk _=>none
def gF:List as7->Option (List ah)
 |[]=>some []
 |v::r=>(vD v).bind λx=>(gF r).map (x:: ·)
def cg:iM->ah->List aK->Option (List aK)
 | .one i,x,ρ=>some (ρ.set i (.v (.d x)))
 | .two i j,x,ρ=>(tx x).map λp=>(ρ.set i (.v (.d p.1))).set j (.v (.d p.2))
noncomputable def cb:iM->List aK->List aK
 | .one i,ρ=>ρ.set i .un
 | .two i j,ρ=>(ρ.set i .un).set j .un
noncomputable def WX:List as7->Option as7
 |[]=>none|[v]=>some v|_::_::_=>none
def jB(r:Option (List as7×Sg)):Option (as7×Sg):=r.bind λp=>(WX p.1).map λv=>(v,p.2)
def ba(r:Option (List as7×Sg)):Option (ah×Sg):=(jB r).bind λp=>(vD p.1).map λx=>(x,p.2)
def iu(r:Option (List as7×Sg)):Option (Bool×Sg):=(ba r).bind λp=>(J7 p.1).map λx=>(x,p.2)
def an4:as7->Option (List ah)
 | .d x=>tF x| .dk kvs=>some (kvs.map (·.1))| .me _=>none| .feed=>none
def fL(r:Option (List as7×Sg)):Option (List ah×Sg):=(jB r).bind λp=>(an4 p.1).bind λxs=>if xs.length<=lim then some (xs,p.2) else none
noncomputable def l6(f:ah->Sg->Option (List ah×Sg)):List ah->Sg->Option (List ah×Sg)
 |[],σ=>some ([],σ)
 |x::xs,σ=>(f x σ).bind λr=>(l6 f xs r.2).bind λq=>some (r.1++q.1,q.2)
theorem DH{f x}:l6 f [] x=some ([],x):=rfl
theorem zw{f x dT xs}:l6 f (dT::xs) x=Hy (f dT x) λ(r:List ah×Sg)=>Hy (l6 f xs (IY r)) λ(q:List ah×Sg)=>some (q8 r++q8 q,IY q):=rfl
def J9(x k:ah):Option ah:=match k with
 | .int i=>if df i then mf x i else none
 | .str k=>(yq x).bind λkvs=>if iZ kvs then nM kvs k else none
 | .none=>none| .bool _=>none| .tuple _=>none| .list _=>none| .dict _=>none
def J'(v:as7)(k:ah)(σ:Sg):Option ah:=match v with
 | .d x=>J9 x k
 | .feed=>(o0 k).bind λk=>σ.lookup k
 | .dk kvs=>if iH k then ve kvs k else none
 | .me _=>none
noncomputable def F8:as7->Option ah
 | .me x=>some x| .d _=>none| .feed=>none| .dk _=>none
noncomputable def M7:as7->Option (List (ah×ah))
 | .dk x=>some x| .d _=>none| .feed=>none| .me _=>none
noncomputable def cI:aK->Option (List ah)
 | .own xs=>some xs| .un=>none| .v _=>none| .cI _=>none
noncomputable def Mt:aK->Option (List (ah×ah))
 | .cI xs=>some xs| .un=>none| .v _=>none| .own _=>none
noncomputable def UN:aK->Option Unit
 | .v .feed=>some ()| .v (.d _)=>none| .v (.me _)=>none| .v (.dk _)=>none| .un=>none| .own _=>none| .cI _=>none
noncomputable def Cq:aK->Option as7
 | .v x=>some x| .un=>none| .own _=>none| .cI _=>none
theorem u6(h:b.bind cI=some xs):b=some (.own xs):=by
 refine aP h λc Ka h=>?_;clear h;subst Ka
 cases c<;>first|exact aC h|exact congrArg (λz=>some (aK.own z)) (gS h)|exact congrArg (λz=>some (aK.cI z)) (gS h)|exact congrArg (λz=>some (aK.v z)) (gS h)
theorem TD(h:b.bind Mt=some xs):b=some (.cI xs):=by
 refine aP h λc ajC h=>?_;clear h;subst ajC
 cases c<;>first|exact aC h|exact congrArg (λz=>some (aK.own z)) (gS h)|exact congrArg (λz=>some (aK.cI z)) (gS h)|exact congrArg (λz=>some (aK.v z)) (gS h)
theorem UO(h:b.bind Cq=some x):b=some (.v x):=by
 refine aP h λc Kb h=>?_;clear h;subst Kb
 cases c<;>first|exact aC h|exact congrArg (λz=>some (aK.own z)) (gS h)|exact congrArg (λz=>some (aK.cI z)) (gS h)|exact congrArg (λz=>some (aK.v z)) (gS h)
theorem adJ(h:b.bind UN=some x):b=some (.v .feed):=by
 refine aP h λc AN h=>?_;clear h;subst AN
 cases c with
 |v y=>cases y<;>cases h;rfl
 |_=>exact aC h
theorem UP(h:F8 v=some x):v= .me x:=by cases v<;>first|exact aC h|exact congrArg _ (gS h)
theorem ait(h:M7 v=some x):v= .dk x:=by cases v<;>first|exact aC h|exact congrArg _ (gS h)
theorem Kc(h:vD v=some x):v= .d x:=by cases v<;>first|exact aC h|exact congrArg _ (gS h)
section
variable(aW:Nat->Option ah)(run:Nat->List as7->Sg->Option (as7×Sg))
def ev:E->List aK->Sg->Option (List as7×Sg)
 | .loc i,ρ,σ=>(ρ[i]?.bind Cq).bind λx=>some ([x],σ)
 | .lit d,_,σ=>some ([.d d],σ)
 | .aW k,_,σ=>(aW k).bind λd=>some ([.d d],σ)
 | .nil,_,σ=>some ([],σ)
 | .cons e es,ρ,σ=>(jB (ev e ρ σ)).bind λr=>(ev es ρ r.2).bind λq=>some (r.1::q.1,q.2)
 | .tup es,ρ,σ=>(ev es ρ σ).bind λr=>(gF r.1).bind λxs=>(ue xs).bind λd=>some ([.d d],r.2)
 | .lst es,ρ,σ=>(ev es ρ σ).bind λr=>(gF r.1).bind λxs=>(kY xs).bind λd=>some ([.d d],r.2)
 | .item e i,ρ,σ=>(jB (ev e ρ σ)).bind λr=>(ba (ev i ρ r.2)).bind λq=>(J' r.1 q.1 q.2).bind λd=>some ([.d d],q.2)
 | .dE k e,ρ,σ=>(ba (ev e ρ σ)).bind λr=>(nT k r.1).bind λd=>some ([.d d],r.2)
 | .aa e,ρ,σ=>(jB (ev e ρ σ)).bind λr=>(F8 r.1).bind λd=>some ([.d d],r.2)
 | .call f es,ρ,σ=>(ev es ρ σ).bind λr=>(run f r.1 r.2).bind λq=>some ([q.1],q.2)
 | .eR f e es,ρ,σ=>(jB (ev e ρ σ)).bind λr=>(F8 r.1).bind λd=>(ev es ρ r.2).bind λp=>(run f (.me d::p.1) p.2).bind λq=>some ([q.1],q.2)
 | .bi b e,ρ,σ=>(ba (ev e ρ σ)).bind λr=>(fg b r.1).bind λd=>some ([.d d],r.2)
 | .mk e,ρ,σ=>(ba (ev e ρ σ)).bind λr=>some ([.me r.1],r.2)
 | .bin o a b,ρ,σ=>(ba (ev a ρ σ)).bind λr=>(ba (ev b ρ r.2)).bind λq=>(j7 o r.1 q.1).bind λd=>some ([.d d],q.2)
 | .cmp o a b,ρ,σ=>(ba (ev a ρ σ)).bind λr=>(ba (ev b ρ r.2)).bind λq=>(gI o r.1 q.1).bind λt=>some ([.d (.bool t)],q.2)
 | .j6 a,ρ,σ=>(iu (ev a ρ σ)).bind λr=>some ([.d (.bool (!r.1))],r.2)
 | .oZ a b,ρ,σ=>(iu (ev a ρ σ)).bind λr=>if r.1 then(iu (ev b ρ r.2)).bind λq=>some ([.d (.bool q.1)],q.2) else some ([.d (.bool false)],r.2)
 | .mw a b,ρ,σ=>(iu (ev a ρ σ)).bind λr=>if r.1 then some ([.d (.bool true)],r.2) else(iu (ev b ρ r.2)).bind λq=>some ([.d (.bool q.1)],q.2)
 | .ite c a b,ρ,σ=>(iu (ev c ρ σ)).bind λr=>if r.1 then(jB (ev a ρ r.2)).bind λq=>some ([q.1],q.2) else(jB (ev b ρ r.2)).bind λq=>some ([q.1],q.2)
 | .comp e t it c,ρ,σ=>(fL (ev it ρ σ)).bind λr=>
  (l6 (λx σ=>(cg t x ρ).bind λaE=>(iu (ev c aE σ)).bind λq=>if q.1 then(ba (ev e aE q.2)).bind λp=>some ([p.1],p.2) else some ([],q.2)) r.1 r.2).bind λq=>
  (kY q.1).bind λd=>some ([.d d],q.2)
 | .gY e WR it₁ Mq it₂,ρ,σ=>(fL (ev it₁ ρ σ)).bind λr=>
  (l6 (λx σ=>(cg WR x (cb Mq ρ)).bind λaE=>(fL (ev it₂ aE σ)).bind λq=>
   l6 (λy σ=>(cg Mq y aE).bind λj8=>(ba (ev e j8 σ)).bind λp=>some ([p.1],p.2)) q.1 q.2) r.1 r.2).bind λq=>
  (kY q.1).bind λd=>some ([.d d],q.2)
 | .enum e,ρ,σ=>(ba (ev e ρ σ)).bind λr=>(o6 r.1).bind λxs=>some ([.d (.list (oP 0 xs))],r.2)
 | .op k es,ρ,σ=>(ev es ρ σ).bind λr=>(gF r.1).bind λxs=>(jK k xs).bind λd=>some ([.d d],r.2)
 | .ql e i,ρ,σ=>(ba (ev e ρ σ)).bind λr=>(ρ[i]?.bind cI).bind λxs=>if ce r.1 && ce (.list xs) then some ([.d (.bool (!(xs.any λy=>cA y r.1)))],r.2) else none
 | .AM e,ρ,σ=>(jB (ev e ρ σ)).bind λr=>(M7 r.1).bind λkvs=>if gX (kvs.map (·.1)) then some ([.d (.list (gf (kvs.map (·.1))))],r.2) else none
noncomputable def gh(f:ah->List aK->Sg->Option g9):List ah->List aK->Sg->Option g9
 |[],ρ,σ=>some (.next ρ σ)
 |x::xs,ρ,σ=>(f x ρ σ).bind λr=>match r with
  | .next aE av=>gh f xs aE av
  | .ret v av=>some (.ret v av)
noncomputable def AO(r:Option g9)(k:List aK->Sg->Option g9):Option g9:=r.bind λo=>match o with
 | .next ρ σ=>k ρ σ
 | .ret v σ=>some (.ret v σ)
def te(f:List aK->Sg->Option g9)(i:Nat):Nat->List aK->Sg->Option g9
 |0,_,_=>none
 |n+1,ρ,σ=>(ρ[i]?.bind cI).bind λxs=>if ce (.list xs) then
   if xs.isEmpty then some (.next ρ σ) else(f ρ σ).bind λr=>match r with
    | .next aE av=>te f i n aE av
    | .ret v av=>some (.ret v av)
  else none
def aR:S->List aK->Sg->Option g9
 | .bI,ρ,σ=>some (.next ρ σ)
 | .asg i e k,ρ,σ=>(jB (ev aW run e ρ σ)).bind λr=>aR k (ρ.set i (.v r.1)) r.2
 | .yo i j a b k,ρ,σ=>(jB (ev aW run a ρ σ)).bind λr=>(jB (ev aW run b ρ r.2)).bind λq=>aR k ((ρ.set i (.v r.1)).set j (.v q.1)) q.2
 | .new i e k,ρ,σ=>(ev aW run e ρ σ).bind λr=>(gF r.1).bind λxs=>(kY xs).bind λzz=>if (ρ.set i .un).any kS then none else aR k (ρ.set i (.own xs)) r.2
 | .cv i k,ρ,σ=>(ρ[i]?.bind cI).bind λxs=>aR k (ρ.set i (.v (.d (.list xs)))) σ
 | .ext i e k,ρ,σ=>(ρ[i]?.bind cI).bind λxs=>(ba (ev aW run e ρ σ)).bind λr=>(tF r.1).bind λys=>(kY (xs++ys)).bind λzz=>aR k (ρ.set i (.own (xs++ys))) r.2
 | .yp i e k,ρ,σ=>(ba (ev aW run e ρ σ)).bind λr=>(o6 r.1).bind λxs=>(kY xs).bind λzz=>if (ρ.set i .un).any kS then none else aR k (ρ.set i (.own xs)) r.2
 | .qC i j e f k,ρ,σ=>(ev aW run e ρ σ).bind λr=>(gF r.1).bind λxs=>(ev aW run f ρ r.2).bind λq=>(gF q.1).bind λys=>(kY xs).bind λzz=>(kY ys).bind λzz=>
  if ((ρ.set i .un).set j .un).any kS then none else aR k ((ρ.set i (.own xs)).set j (.own ys)) q.2
 | .app i e k,ρ,σ=>(ρ[i]?.bind cI).bind λxs=>(ba (ev aW run e ρ σ)).bind λr=>(kY (xs++[r.1])).bind λzz=>aR k (ρ.set i (.own (xs++[r.1]))) r.2
 | .rem i e k,ρ,σ=>(ρ[i]?.bind cI).bind λxs=>(ba (ev aW run e ρ σ)).bind λr=>if ce r.1 && ce (.list xs) && xs.any (λy=>cA y r.1) then aR k (ρ.set i (.own (xs.eraseP λy=>cA y r.1))) r.2 else none
 | .pop i j k,ρ,σ=>(ρ[i]?.bind cI).bind λxs=>xs.getLast?.bind λx=>aR k ((ρ.set i (.own xs.dropLast)).set j (.v (.d x))) σ
 | .xR i b k,ρ,σ=>AO (te (λρ σ=>aR b ρ σ) i 1000 ρ σ) λaE av=>aR k aE av
 | .newD i k,ρ,σ=>if (ρ.set i .un).any kS then none else aR k (ρ.set i (.cI [])) σ
 | .m0 i e v k,ρ,σ=>(ρ[i]?.bind Mt).bind λkvs=>(ba (ev aW run v ρ σ)).bind λq=>(ba (ev aW run e ρ q.2)).bind λr=>if iH r.1 && decide (kvs.length<=1000) then aR k (ρ.set i (.cI (ml kvs r.1 q.1))) r.2 else none
 | .tQ i k,ρ,σ=>(ρ[i]?.bind Mt).bind λkvs=>aR k (ρ.set i (.v (.dk kvs))) σ
 | .bad,_,_=>none
 | .tR i key e k,ρ,σ=>(ρ[i]?.bind UN).bind λzz=>(ba (ev aW run e ρ σ)).bind λr=>(r.2.lookup key).bind λzz=>aR k ρ (r.2.map λp=>if p.1=key then(key,r.1) else p)
 | .ca c a b k,ρ,σ=>(iu (ev aW run c ρ σ)).bind λr=>AO (if r.1 then aR a ρ r.2 else aR b ρ r.2) λaE av=>aR k aE av
 | .ed t it b k,ρ,σ=>(fL (ev aW run it ρ σ)).bind λr=>AO (gh (λx ρ σ=>(cg t x ρ).bind λaE=>aR b aE σ) r.1 ρ r.2) λaE av=>aR k aE av
 | .ret e,ρ,σ=>(jB (ev aW run e ρ σ)).bind λr=>some (.ret r.1 r.2)
end
noncomputable def an5:g9->Option (as7×Sg)
 | .ret v σ=>some (v,σ)| .next _ _=>none
def run(aW:Nat->Option ah)(fn:Nat->Option eT):Nat->Nat->List as7->Sg->Option (as7×Sg)
 |0,_,_,_=>none
 |n+1,f,vs,σ=>(fn f).bind λm=>
  if vs.length=m.rp then
   (aR aW (run aW fn n) m.body (vs.map .v++ii m.EY .un) σ).bind an5
  else none
theorem I5(h:fO (.int a) y=some r):∃b,y= .int b/\r=decide (a<b):=by
 rw[aeW,GN] at h
 exact ar h λb H O=>ai b (nI H) O.symm
theorem Er(h:fO (.str a) y=some r):∃b,y= .str b/\r=decide (a.cps.toList<b.cps.toList):=by
 rw[aeX,GN] at h
 exact ar h λb H O=>ai b (uP H) O.symm
theorem TF(h:fO (.tuple xs) y=some r):∃ys,y= .tuple ys/\gP xs ys=some r:=by
 rw[aeY,sG] at h
 exact ar h λb H O=>ai b (tc H) O
theorem TH(h:fO (.list xs) y=some r):∃ys,y= .list ys/\gP xs ys=some r:=by
 rw[aeZ,sG] at h
 exact ar h λb H O=>ai b (xy H) O
end bh
namespace bh
open PySem PySem.W PyProof.Rows PySem.Calls PySem.SeqAt
section
variable{P:ah->Prop}(h0:P .none)(H:∀b,P (.bool b))(O:∀i,P (.int i))(h3:∀x,P (.str x))
 (h4:∀xs,(∀x∈xs,P x)->P (.tuple xs)) (h5:∀xs,(∀x∈xs,P x)->P (.list xs)) (h6:∀kvs,P (.dict kvs))
include h0 H O h3 h4 h5 h6
mutual
theorem rq:∀d:ah,P d
 | .none=>h0
 | .bool b=>H b
 | .int i=>O i
 | .str x=>h3 x
 | .tuple xs=>h4 xs (Jz xs)
 | .list xs=>h5 xs (Jz xs)
 | .dict kvs=>h6 kvs
theorem Jz:∀xs:List ah,∀x∈xs,P x
 |[],_,h=>nomatch h
 |y::ys,x,h=>by
  refine a9 (bK.mp h) (λe=>?_) (λe=>?_)
  .exact e▸rq y
  .exact Jz ys x e
end
end
theorem agy{a b:Str}(h:a.cps.toList=b.cps.toList):a=b:=by
 cases a;cases b;simp only[Str.mk.injEq];exact Dr.mp h
theorem agz{a b:List Nat}(H:¬a<b)(O:a≠b):b<a:=by
 refine a9 (Classical.em (b<a)) (λh=>?_) (λh=>?_)
 .exact h
 .exact absurd (List.le_antisymm (ack.mp h) (ack.mp H)) O
theorem TJ(ih:∀x∈xs,∀y,cD y x=(cD x y).swap):∀ys,cL ys xs=(cL xs ys).swap:=by
 induction xs with
 |nil=>intro ys;cases ys<;>rfl
 |cons x xs hi=>
  intro ys
  cases ys with
  |nil=>rfl
  |cons y ys=>
   rw[xz,xz,ih x (.head _) y,hi (λz hz=>ih z (.tail _ hz)) ys,Ordering.swap_then]
theorem Ae(x:ah):∀y,cD y x=(cD x y).swap:=by
 refine rq (P:=λx=>∀y,cD y x=(cD x y).swap) ?_ ?_ ?_ ?_ ?_ ?_ ?_ x
 .intro y;cases y<;>rfl
 .intro b y;cases y<;>rfl
 .intro i y
  cases y with
  |int j=>simp only[Ac];exact(Int.compare_swap i j).symm
  |_=>rfl
 .intro a y
  cases y with
  |str b=>
   simp only[Ad]
   by_cases e:a=b
   .subst e;simp[aa8]
   .have e':¬b=a:=λq=>e q.symm
    by_cases l:a.cps.toList<b.cps.toList
    .have l':=List.lt_asymm l
     simp[e,e',l,l']
    .have l':=agz l λq=>e (agy q)
     simp[e,e',l,l']
  |_=>rfl
 .intro xs ih y
  cases y with
  |tuple ys=>exact TJ ih ys
  |_=>rfl
 .intro xs ih y
  cases y with
  |list ys=>exact TJ ih ys
  |_=>rfl
 .intro kvs y;cases y<;>rfl
theorem tf(h:fx xs=true):∀x∈xs,gd x=true:=by
 induction xs with
 |nil=>intro x hx;cases hx
 |cons y ys ih=>
  rw[pW,cm] at h
  intro x hx
  refine a9 (bK.mp hx) (λe=>?_) (λe=>?_)
  .exact e▸h.1
  .exact ih h.2 x e
theorem VJ(ih:∀x∈xs,∀y,gd x=true->gd y=true->cD x y= .eq->x=y):∀ys,fx xs=true->fx ys=true->cL xs ys= .eq->xs=ys:=by
 induction xs with
 |nil=>intro ys _ _ h;cases ys with
  |nil=>rfl
  |cons=>exact oj h
 |cons x xs hi=>
  intro ys gx gy h
  cases ys with
  |nil=>exact oj h
  |cons y ys=>
   rw[pW,cm] at gx gy
   rw[xz,Ordering.then_eq_eq] at h
   exact Y (ih x (.head _) y gx.1 gy.1 h.1)<|Y (hi (λz hz=>ih z (.tail _ hz)) ys gx.2 gy.2 h.2) rfl
theorem x9(x:ah):∀y,gd x=true->gd y=true->cD x y= .eq->x=y:=by
 refine rq (P:=λx=>∀y,gd x=true->gd y=true->cD x y= .eq->x=y) ?_ ?_ ?_ ?_ ?_ ?_ ?_ x
 .intro y g;exact aQ g
 .intro b y g;exact aQ g
 .intro i y _ g h
  cases y with
  |int j=>simp only[Ac] at h;exact Y (aan.mp h) rfl
  |none|bool _|dict _=>exact aQ g
  |_=>(exact absurd h (λe=>nomatch e))
 .intro a y _ g h
  cases y with
  |str b=>
   simp only[Ad] at h
   split at h
   .exact oj h
   .split at h
    .rename_i e;exact Y e rfl
    .exact oj h
  |none|bool _|dict _=>exact aQ g
  |_=>(exact absurd h (λe=>nomatch e))
 .intro xs ih y g g' h
  cases y with
  |tuple ys=>rw[VJ ih ys g g' h]
  |none|bool _|dict _=>exact aQ g'
  |_=>(exact absurd h (λe=>nomatch e))
 .intro xs ih y g g' h
  cases y with
  |list ys=>rw[VJ ih ys g g' h]
  |none|bool _|dict _=>exact aQ g'
  |_=>(exact absurd h (λe=>nomatch e))
 .intro kvs y g;exact aQ g
theorem TK(ih:∀x∈xs,gd x=true->cD x x= .eq)(g:fx xs=true):cL xs xs= .eq:=by
 induction xs with
 |nil=>rfl
 |cons x xs hi=>
  rw[pW,cm] at g
  rw[xz,ih x (.head _) g.1,hi (λz hz=>ih z (.tail _ hz)) g.2];rfl
theorem TL(x:ah):gd x=true->cD x x= .eq:=by
 refine rq (P:=λx=>gd x=true->cD x x= .eq) ?_ ?_ ?_ ?_ ?_ ?_ ?_ x
 .intro g;exact aQ g
 .intro b g;exact aQ g
 .intro i _;simp only[Ac];exact aan.mpr rfl
 .intro a _;simp[Ad,aa8]
 .intro xs ih g;exact TK ih g
 .intro xs ih g;exact TK ih g
 .intro kvs g;exact aQ g
theorem R7(ih:∀x∈xs,∀y z,gd x=true->gd y=true->gd z=true->cD x y= .lt->cD y z= .lt->cD x z= .lt):
 ∀ys zs,fx xs=true->fx ys=true->fx zs=true->cL xs ys= .lt->cL ys zs= .lt->cL xs zs= .lt:=by
 induction xs with
 |nil=>
  intro ys zs _ _ _ h k
  cases ys with
  |nil=>exact oj h
  |cons y ys=>cases zs with
   |nil=>exact oj k
   |cons=>rfl
 |cons x xs hi=>
  intro ys zs gx gy gz h k
  cases ys with
  |nil=>exact oj h
  |cons y ys=>cases zs with
   |nil=>exact oj k
   |cons z zs=>
    rw[pW,cm] at gx gy gz
    rw[xz,Ordering.then_eq_lt] at h k⊢
    rcases h with h|⟨h,h'⟩
    .rcases k with k|⟨k,k'⟩
     .exact .inl (ih x (.head _) y z gx.1 gy.1 gz.1 h k)
     .exact sl (x9 y z gy.1 gz.1 k)<| .inl h
    .have e:=x9 x y gx.1 gy.1 h
     subst e
     rcases k with k|⟨k,k'⟩
     .exact .inl k
     .exact .inr ⟨k,hi (λz hz=>ih z (.tail _ hz)) ys zs gx.2 gy.2 gz.2 h' k'⟩
theorem ae0(x:ah):∀y z,gd x=true->gd y=true->gd z=true->cD x y= .lt->cD y z= .lt->cD x z= .lt:=by
 refine rq (P:=λx=>∀y z,gd x=true->gd y=true->gd z=true->cD x y= .lt->cD y z= .lt->cD x z= .lt) ?_ ?_ ?_ ?_ ?_ ?_ ?_ x
 .intro y z g;exact aQ g
 .intro b y z g;exact aQ g
 .intro i y z _ gy gz h k
  cases y with
  |int j=>cases z with
   |int l=>
    simp only[Ac] at*
    rw[OB] at*;exact DD (by assumption) (by assumption)
   |none|bool _|dict _=>exact aQ gz
   |_=>rfl
  |none|bool _|dict _=>exact aQ gy
  |str _=>cases z with
   |none|bool _|dict _=>exact aQ gz
   |int _=>(exact absurd k (λe=>nomatch e))
   |_=>rfl
  |tuple _=>cases z with
   |none|bool _|dict _=>exact aQ gz
   |int _=>(exact absurd k (λe=>nomatch e))
   |_=>rfl
  |list _=>cases z with
   |none|bool _|dict _=>exact aQ gz
   |int _=>(exact absurd k (λe=>nomatch e))
   |_=>rfl
 .intro a y z _ gy gz h k
  cases y with
  |int j=>(exact absurd h (λe=>nomatch e))
  |none|bool _|dict _=>exact aQ gy
  |str b=>cases z with
   |str c=>
    simp only[Ad] at*
    split at h
    .split at k
     .rename_i l1 l2
      exact Y (if_pos (List.lt_trans l1 l2)) rfl
     .split at k<;>exact oj k
    .split at h<;>exact oj h
   |none|bool _|dict _=>exact aQ gz
   |int _=>(exact absurd k (λe=>nomatch e))
   |_=>rfl
  |tuple _=>cases z with
   |none|bool _|dict _=>exact aQ gz
   |int _=>(exact absurd k (λe=>nomatch e))
   |str _=>(exact absurd k (λe=>nomatch e))
   |_=>rfl
  |list _=>cases z with
   |none|bool _|dict _=>exact aQ gz
   |int _=>(exact absurd k (λe=>nomatch e))
   |str _=>(exact absurd k (λe=>nomatch e))
   |_=>rfl
 .intro xs ih y z gx gy gz h k
  cases y with
  |int j=>(exact absurd h (λe=>nomatch e))
  |str j=>(exact absurd h (λe=>nomatch e))
  |none|bool _|dict _=>exact aQ gy
  |tuple ys=>cases z with
   |none|bool _|dict _=>exact aQ gz
   |int _=>(exact absurd k (λe=>nomatch e))
   |str _=>(exact absurd k (λe=>nomatch e))
   |tuple zs=>
    simp only[Tx,I4] at*
    exact R7 ih ys zs gx gy gz h k
   |_=>rfl
  |list _=>cases z with
   |none|bool _|dict _=>exact aQ gz
   |int _=>(exact absurd k (λe=>nomatch e))
   |str _=>(exact absurd k (λe=>nomatch e))
   |tuple _=>(exact absurd k (λe=>nomatch e))
   |_=>rfl
 .intro xs ih y z gx gy gz h k
  cases y with
  |int j=>(exact absurd h (λe=>nomatch e))
  |str j=>(exact absurd h (λe=>nomatch e))
  |tuple j=>(exact absurd h (λe=>nomatch e))
  |none|bool _|dict _=>exact aQ gy
  |list ys=>cases z with
   |none|bool _|dict _=>exact aQ gz
   |int _=>(exact absurd k (λe=>nomatch e))
   |str _=>(exact absurd k (λe=>nomatch e))
   |tuple _=>(exact absurd k (λe=>nomatch e))
   |list zs=>
    simp only[Tz,TB] at*
    exact R7 ih ys zs gx gy gz h k
 .intro kvs y z g;exact aQ g
theorem eqvAll_eq(ih:∀x∈xs,∀y,gd x=true->gd y=true->(cA x y=true↔x=y)):∀ys,fx xs=true->fx ys=true->(He xs ys=true↔xs=ys):=by
 induction xs with
 |nil=>intro ys _ _;cases ys<;>simp[He]
 |cons x xs hi=>
  intro ys gx gy
  cases ys with
  |nil=>simp[He]
  |cons y ys=>
   rw[pW,cm] at gx gy
   simp only[He,cm,gT]
   rw[ih x (.head _) y gx.1 gy.1,hi (λz hz=>ih z (.tail _ hz)) ys gx.2 gy.2]
theorem qm(x:ah):∀y,gd x=true->gd y=true->(cA x y=true↔x=y):=by
 refine rq (P:=λx=>∀y,gd x=true->gd y=true->(cA x y=true↔x=y)) ?_ ?_ ?_ ?_ ?_ ?_ ?_ x
 .intro y g;exact aQ g
 .intro b y g;exact aQ g
 .intro i y _ g
  cases y with
  |none|bool _|dict _=>exact aQ g
  |_=>simp[cA]
 .intro a y _ g
  cases y with
  |none|bool _|dict _=>exact aQ g
  |_=>simp[cA]
 .intro xs ih y g g'
  cases y with
  |tuple ys=>simp only[cA,ze];exact eqvAll_eq ih ys g g'
  |none|bool _|dict _=>exact aQ g'
  |_=>simp[cA]
 .intro xs ih y g g'
  cases y with
  |list ys=>simp only[cA,PyData.list.injEq];exact eqvAll_eq ih ys g g'
  |none|bool _|dict _=>exact aQ g'
  |_=>simp[cA]
 .intro kvs y g;exact aQ g
theorem UQ(ih:∀x∈xs,∀y r,gd x=true->gd y=true->fO x y=some r->r=(cD x y== .lt)):∀ys r,fx xs=true->fx ys=true->gP xs ys=some r->r=(cL xs ys== .lt):=by
 induction xs with
 |nil=>intro ys r _ _ h;cases ys<;>(simp[R4,R5] at h;subst h;rfl)
 |cons x xs hi=>
  intro ys r gx gy h
  cases ys with
  |nil=>simp[R6] at h;subst h;rfl
  |cons y ys=>
   rw[pW,cm] at gx gy
   rw[Ed] at h
   rw[xz]
   split at h
   .rename_i e
    rw[qm x y gx.1 gy.1] at e
    subst e
    exact Y (TL x gx.1)<|hi (λz hz=>ih z (.tail _ hz)) ys r gx.2 gy.2 h
   .rename_i e
    rw[qm x y gx.1 gy.1] at e
    refine Y (ih x (.head _) y r gx.1 gy.1 h) ?_
    cases q:cD x y with
    |eq=>exact absurd (x9 x y gx.1 gy.1 q) e
    |lt=>rfl
    |gt=>rfl
theorem aiu(x:ah):∀y r,gd x=true->gd y=true->fO x y=some r->r=(cD x y== .lt):=by
 refine rq (P:=λx=>∀y r,gd x=true->gd y=true->fO x y=some r->r=(cD x y== .lt)) ?_ ?_ ?_ ?_ ?_ ?_ ?_ x
 .intro y r g;exact aQ g
 .intro b y r g;exact aQ g
 .intro i y r _ g h
  refine ar (I5 h) λj Kd AP=>?_;clear g h;subst Kd AP
  simp only[Ac]
  by_cases hh:i<j
  .refine Y (OB.mpr hh) ?_;simp[hh]
  .have:compare i j≠ .lt:=λq=>hh (OB.mp q)
   simp only[hh,decide_false]
   cases q:compare i j<;>first|rfl|exact absurd q this
 .intro a y r _ g h
  refine ar (Er h) λb ajD AQ=>?_;clear g h;subst ajD AQ
  simp only[Ad]
  by_cases hh:a.cps.toList<b.cps.toList
  .simp[hh]
  .simp only[hh,decide_false,if_false]
   split<;>rfl
 .intro xs ih y r g g' h
  refine ar (TF h) λys Ke h=>?_;subst Ke
  simp only[Tx,I4] at*
  exact UQ ih ys r g g' h
 .intro xs ih y r g g' h
  refine ar (TH h) λys ajE h=>?_;subst ajE
  simp only[Tz,TB] at*
  exact UQ ih ys r g g' h
 .intro kvs y r g;exact aQ g
def rZ(xs:List ah):Prop:=xs.Pairwise λx y=>cD x y≠ .gt
theorem QQ(gx:gd x=true)(gy:gd y=true)(gz:gd z=true)(h:cD x y≠ .gt)(k:cD y z≠ .gt):cD x z≠ .gt:=by
 cases q:cD x y with
 |gt=>exact absurd q h
 |eq=>exact Y (x9 x y gx gy q)<|k
 |lt=>
  cases r:cD y z with
  |gt=>exact absurd r k
  |eq=>refine sl (x9 y z gy gz r)<|Y q ?_;simp
  |lt=>refine Y (ae0 x y z gx gy gz q r) ?_;simp
theorem HT(x:ah):∀xs,(rN x xs).Perm (x::xs)
 |[]=> .refl _
 |y::ys=>by
  rw[DW]
  split
  .exact((HT x ys).cons y).trans (.swap x y ys)
  .exact .refl _
theorem mK:∀xs,(gf xs).Perm xs
 |[]=> .refl _
 |x::xs=>(HT x _).trans ((mK xs).cons x)
theorem R8(gx:gd x=true):∀{xs:List ah},(∀y∈xs,gd y=true)->rZ xs->rZ (rN x xs)
 |[],_,_=>by exact List.pairwise_singleton _ _
 |y::ys,g,h=>by
  refine xa (wL.mp h) λH O=>?_
  rw[DW]
  split
  .rename_i e
   refine wL.mpr ⟨λz hz=>?_,R8 gx (λz hz=>g z (.tail _ hz)) O⟩
   refine a9 (bK.mp ((HT x ys).mem_iff.mp hz)) (λq=>?_) (λq=>?_)
   .subst q;refine Y (Ae z y)<|Y e ?_;simp
   .exact H z q
  .rename_i e
   refine wL.mpr ⟨λz hz=>?_,h⟩
   refine a9 (bK.mp hz) (λq=>?_) (λq=>?_)
   .subst q;exact e
   .exact QQ gx (g y (.head _)) (g z (.tail _ q)) e (H z q)
theorem sV:∀{xs:List ah},(∀y∈xs,gd y=true)->rZ (gf xs)
 |[],_=> .nil
 |x::xs,g=>R8 (g x (.head _)) (λy hy=>g y (.tail _ ((mK xs).mem_iff.mp hy))) (sV λy hy=>g y (.tail _ hy))
theorem xf:∀{xs ys:List ah},(∀y∈xs,gd y=true)->xs.Perm ys->rZ xs->rZ ys->xs=ys
 |[],ys,_,p,_,_=>(Pc.mp p).symm
 |x::xs,[],_,p,_,_=>(List.Perm.eq_nil p)
 |x::xs,y::ys,g,p,hx,hy=>by
  refine xa (wL.mp hx) λhx1 yD=>xa (wL.mp hy) λhy1 Cr=>?_
  have e:x=y:=by
   refine a9 (bK.mp (p.mem_iff.mp (.head xs))) (λq=>?_) (λq=>?_)
   .exact q
   .refine a9 (bK.mp (p.mem_iff.mpr (.head ys))) (λr=>?_) (λr=>?_)
    .exact r.symm
    .have a:=hx1 y r
     have b:=hy1 x q
     rw[Ae x y] at b
     refine x9 x y (g x (.head _)) (g y (.tail _ r)) ?_
     cases z:cD x y with
     |eq=>rfl
     |gt=>exact absurd z a
     |lt=>rw[z] at b;simp at b
  subst e
  exact Y (xf (λy hy=>g y (.tail _ hy)) (List.perm_cons x |>.mp p) yD Cr) rfl
theorem agA(h:pj xs=true):∀x∈xs,jJ x=true:=by
 induction xs with
 |nil=>intro x hx;cases hx
 |cons a as ih=>
  simp only[qZ,cm] at h
  intro x hx
  rcases bK.mp hx with rfl|q
  .exact h.1
  .exact ih h.2 x q
theorem Fp(d:ah):jJ d=true->gd d=true:=by
 refine rq (P:=λd=>jJ d=true->gd d=true) ?_ ?_ ?_ ?_ ?_ ?_ ?_ d
 .intro h;exact aQ h
 .intro b h;exact aQ h
 .intro i h;exact aQ h
 .intro x h;rfl
 .intro xs ih h
  rw[zP] at h
  rw[I4]
  have m:=agA h
  clear h
  induction xs with
  |nil=>rfl
  |cons a as hi=>rw[pW,ih a (.head _) (m a (.head _)),hi (λx hx=>ih x (.tail _ hx)) λx hx=>m x (.tail _ hx)];rfl
 .intro xs ih h;exact aQ h
 .intro kvs h;exact aQ h
mutual
noncomputable def vf(w:dg):ah->Int
 | .str x=>hashStr w x
 | .tuple xs=>reduceHash (Zk (xS w xs))
 |_=>0
noncomputable def xS(w:dg):List ah->List Int
 |[]=>[]
 |x::xs=>vf w x::xS w xs
end
mutual
noncomputable def EZ:ah->Nat
 | .tuple xs=>xA xs+1
 |_=>1
noncomputable def xA:List ah->Nat
 |[]=>0
 |x::xs=>EZ x+xA xs
end
theorem abq:xA []=0:=rfl
theorem abr{dv xs}:xA (dv::xs)=EZ dv+xA xs:=rfl
section
variable{prog:eE}{w:dg}{E:VS}
mutual
theorem QR:∀(d:ah) (v:ao) (A:bV) (s:aJ) (as:List az) (Q:Int->aJ->Prop),jJ d=true->jj s.heap v d as->A.units+d.depth<cLine->
 Q (vf w d) {s with toks:=s.toks+EZ d}->wpAny (model prog w) A (pyHash v) Q E s
 | .str y,v,A,s,as,Q,_,x,_,h=>by exact x7 x λzz=>wpAny_pyHash_str h
 | .tuple xs,v,A,s,as,Q,hk,x,hu,h=>by
   refine Fn x λa o vs n zz ho hc hd hr=>pyHash_slot (T:="tuple") (ai o ho hc) F.slot_tuple_hash F.entry_tuple_hash (F.args_tuple_hash_1 _) (beq_builtin_none _) (.inr (aO [(J (J B v1) k1,v2)] (J B k1,v2) rfl hu)) ?_
   show wpAny _ _ (Zh (.ref a)>>=_) _ _ s
   refine am (wpAny_tupleItemsOf ho hd ?_)
   refine am<|sl aac<|PC xs vs.toList A.in1 s #[] _ _ hk hr (by simp only[gV] at hu⊢;exact aO [(J (J B (J v1 k1)) k1,v2)] (J (J (J B k1) v1) k1,v2) rfl hu) λb V=>?_
   show wpAny _ _ (retInt (Zk b.toList)) _ _ _
   refine Y V<|am (wpAny_mkInt (aH (gq _ _ rfl ?_)))
   exact h
 | .none,v,A,s,as,Q,hk,_,_,_=>aQ hk
 | .bool _,v,A,s,as,Q,hk,_,_,_=>aQ hk
 | .int _,v,A,s,as,Q,hk,_,_,_=>aQ hk
 | .list _,v,A,s,as,Q,hk,_,_,_=>aQ hk
 | .dict _,v,A,s,as,Q,hk,_,_,_=>aQ hk
theorem PC:∀(xs:List ah) (vs:List ao) (A:bV) (s:aJ) (b:Array Int) (as:List az) (Q:Array Int->aJ->Prop),pj xs=true->lu s.heap vs xs as->A.units+eM xs<cLine->
 (∀b',b'.toList=b.toList++xS w xs->Q b' {s with toks:=s.toks+xA xs})->
 wpAny (model prog w) A (forIn vs b λx r=>do let h <- pyHash x;pure PUnit.unit;pure (ForInStep.yield (r.push h))) Q E s
 |[],vs,A,s,b,as,Q,_,x,_,h=>by exact ri x<|aH (h b (by simp[show xS w []=[] from rfl]))
 |k::xs,vs,A,s,b,as,Q,hk,x,hu,h=>by
  refine oF x λzz zz zz zz x1 x2=>?_
  simp only[qZ,cm] at hk
  simp only[eM] at hu
  rw[OV]
  refine am (am (QR k _ A s _ _ hk.1 x1 (bM [(J (J B v1) k1,v2),(v3,v1)] (J (J B v3) k1,v2) rfl hu (mI _ _)) ?_))
  refine am (aH (aH ?_))
  exact PC xs _ A _ _ _ Q hk.2 x2 (bM [(J (J B v1) k1,v2),(v3,v1)] (J (J B v3) k1,v2) rfl hu (oo _ _)) λb' V=>by
   have:=h b' (by simp[V,show xS w (k::xs)=vf w k::xS w xs from rfl])
   simpa [abq,abr,Dy] using this
end
theorem ae1(d:ah):∀(m:Nat) (v:ao) (A:bV) (s:aJ) (as:List az) (Q:Bool->aJ->Prop),jJ d=true->d.depth<=m->jj s.heap v d as->Q true s->wpAny (model prog w) A (eqIsQuiet m v) Q E s:=by
 refine rq (P:=λd=>∀(m:Nat) (v:ao) (A:bV) (s:aJ) (as:List az) (Q:Bool->aJ->Prop),jJ d=true->d.depth<=m->jj s.heap v d as->Q true s->wpAny (model prog w) A (eqIsQuiet m v) Q E s) ?_ ?_ ?_ ?_ ?_ ?_ ?_ d
 .intro m v A s as Q h;exact aQ h
 .intro b m v A s as Q h;exact aQ h
 .intro i m v A s as Q h;exact aQ h
 .intro y m v A s as Q _ _ x h
  refine x7 x λzz=>?_;rw[eqIsQuiet_byValue _ rfl];exact aH h
 .intro xs ih m v A s as Q hk hm x h
  refine Fn x λa o vs n zz ho hc hd hr=>xe (show ∃k,m=k+1 from⟨m - 1,by (exact bR ((bj _ _)) ((aU (iL hm))))⟩) λm vg=>?_;clear x;subst vg
  have hT:s.TypeIs (.ref a) "tuple" :=ai o ho hc
  rw[zP] at hk
  unfold eqIsQuiet
  refine am (wpAny_specialOf hT F.slot_tuple_eq.lookup ?_)
  refine am (Ds hT isSubtype_tuple_tuple ?_)
  refine am (sI ho hd ?_)
  refine am<|sl aac<|aaD _ (λrest r s'=>r.1=none/\s'=s/\∃ys bs,lu s.heap rest ys bs/\pj ys=true/\eM ys<=m/\∀y∈ys,y∈xs) _ ?_ ?_ _ _ (RV rfl rfl xs _ hr hk (n4 hm) (λy hy=>hy))
  .intro u rest r s' VK;refine aeN VK λe an6 ys bs H O h3 h4=>?_;clear h ho hr hT VK;subst an6
   cases H with
   | @cons _ _ y ys _ _ r1 r2=>
     simp only[qZ,cm] at O
     simp only[eM] at h3
     refine am (ih y (h4 y (.head _)) m u A s' _ _ O.1 (ph h3 (mI _ _)) r1 ?_)
     exact aH (RV rfl rfl ys _ r2 O.2 (ph h3 (oo _ _)) (λz hz=>h4 z (.tail _ hz)))
  .intro ajF s' Fs;clear ho hr hT;obtain⟨r1,r2⟩:=ajF;refine cj Fs λe ajG zz=>?_;clear Fs;subst ajG
   simp only at e
   subst e
   exact aH h
 .intro xs ih m v A s as Q h;exact aQ h
 .intro kvs m v A s as Q h;exact aQ h
theorem adK(_:jJ d=true)(_:jJ d'=true)(r:jj h v d as)(r':jj h v d' bs):d=d':=(Reads.unique r d' bs r').1
theorem adL(ho:h.get? c=some o)(hd:o.data= .dict es ep)(hs:jV c h h')(k:jJ d=true)(r:jj h v d as):jj h' v d as:=
 Reads.rec (motive_1:=λv d as zz=>jJ d=true->jj h' v d as) (motive_2:=λvs ds as zz=>pj ds=true->lu h' vs ds as) (λk=>aQ k) (λzz k=>aQ k) (λzz zz k=>aQ k) (λzz zz zz=> .str _ _)
  (λzz zz zz zz zz k=>aQ k)
  (λ{a} zz zz zz zz zz g1 g2 g3 zz ih k=> .tuple ((hs.2 a λz=>by clear hs g2;subst z;rw[ho] at g1;injection g1 with g1;subst g1;exact zg (hd.symm.trans g3)).trans g1) g2 g3 (ih k))
  (λzz zz zz zz zz zz zz k=>aQ k) (λzz=> .nil)
  (λzz zz ih ih2 k=>by simp only[qZ,cm] at k;exact .cons (ih k.1) (ih2 k.2)) r k
theorem pP(h:iH d=true):fc d=4/\jJ d=true/\ce d=true/\d.depth<=8:=by
 unfold iH at h
 simp only[cm,beq_iff_eq,decide_eq_true_eq] at h
 exact xa h λrr h4=>xa rr λajH h3=>xa ajH λH O=>fb H O h3 h4
open Classical in
def E0(prog:eE)(w:dg):HeapKind prog w ah where
 is:=λh k a=>iH k=true/\∃as,jj h (.ref a) k as
 hash:=vf w
 draws:=EZ
 room:=λA=>A.units+ 20<cLine
 inj:=λhx hy=>by
  exact qG hx λk1 zz r1=>qG hy λk2 zz r2=>adK (pP k1).2.1 (pP k2).2.1 r1 r2
 keeps:=λx ho hd hs=>by
  exact qG x λk zz r=>XR k _ (adL ho hd hs (pP k).2.1 r)
 pyHash:=λhu hk h=>by
  exact qG hk λk zz r=>fU (pP k) λzz k2 zz k4=>QR _ _ _ _ _ _ k2 r (aO [(B,(.num 8)),(J (J v1 (.num 20)) k1,v2)] (J (J v1 B) k1,v2) rfl k4 hu) h
 eqBool:=λ{A E s x y a b Q} hu hx hy h=>by
  refine qG hx λk zz r=>qG hy λk' zz r'=>fU (pP k) λzz k2 k3 k4=>fU (pP k') λzz k2' k3' k4'=>eqBoolOverData prog w A E s _ _ _ _ _ _ _ r r' (canLay_of_shaped k3) (canLay_of_shaped k3') (by have:=nA x.depth y.depth;exact bM [(B,v1),(v1,(.num 8)),(J (J v2 (.num 20)) k1,v3)] (J (J v2 B) k1,v3) rfl this k4 hu) ?_
  have e:cA x y=decide (x=y):=by
   have:=qm x y (Fp x k2) (Fp y k2')
   by_cases F9:x=y
   .exact Y (this.mpr F9)<|Y (decide_eq_true F9) rfl
   .refine Y (decide_eq_false F9) ?_
    cases q:cA x y with
    |false=>rfl
    |true=>exact absurd (this.mp q) F9
  exact Y e<|h
 quiet:=λhk h=>by
  exact qG hk λk zz r=>fU (pP k) λzz k2 zz k4=>ae1 _ _ _ _ _ _ _ k2 k4 r h
end
open Classical in
abbrev r7(prog:eE)(w:dg)(h:aG)(a:az)(xs:List (ah×az×ao)):Prop:=h.DictOfH (E0 prog w) a xs
def r8(h:aG)(k:ah)(a:az):Prop:=iH k=true/\∃as,jj h (.ref a) k as
theorem r8.mono(x:r8 g k a)(s:Sub g h):r8 h k a:=let ⟨H,r⟩:=x;⟨H,Is.mono r s⟩
def X3(w:dg)(g h:aG)(a:az)(xs:List (ah×az×ao)):Prop:=
 ∃o es ep,h.get? a=some o/\o.ExactDict/\o.data= .dict es ep/\es.toList=xs.map (λx=>⟨vf w x.1, .ref x.2.1,x.2.2⟩)/\(∀x∈xs,r8 g x.1 x.2.1)/\(xs.map (·.1)).Nodup
theorem r7.parts(x:r7 prog w h a xs):∃o es ep,h.get? a=some o/\o.ExactDict/\o.data= .dict es ep/\es.toList=xs.map (λx=>⟨vf w x.1, .ref x.2.1,x.2.2⟩)/\(∀x∈xs,r8 h x.1 x.2.1)/\(xs.map (·.1)).Nodup:=x
theorem r7.of(x:∃o es ep,h.get? a=some o/\o.ExactDict/\o.data= .dict es ep/\es.toList=xs.map (λx=>⟨vf w x.1, .ref x.2.1,x.2.2⟩)/\(∀x∈xs,r8 h x.1 x.2.1)/\(xs.map (·.1)).Nodup):r7 prog w h a xs:=x
end bh
namespace bh
open PySem PySem.W PyProof.Rows PySem.Calls
structure eI where
 prog:eE
 w:dg
 h₀:aG
 c:az
 ax:az
 C:az
 K:Frag
 mg:Str->Option ao
 mb:Str->Option ao
def qn(G:eI)(g:aG)(v:ao)(x:ah):Prop:=
 ∃a dx n jm tk u,v= .ref a/\g.get? a=some (instObj G.C dx)/\g.get? dx=some (dictOf [⟨jm, .str "ops" tk,u⟩] n)/\handedIn u=true/\Is g u x
def KD(G:eI)(g h:aG)(a:az)(kvs:List (ah×ah)):Prop:=
 ∃xs:List (ah×az×ao),X3 G.w g h a xs/\xs.map (·.1)=kvs.map (·.1)/\aT g (xs.map λx=> .ref x.2.1) (kvs.map (·.1))/\aT g (xs.map (·.2.2)) (kvs.map (·.2))/\kvs.length<=lim
def iN(G:eI)(g:aG)(v:ao):as7->Prop
 | .d x=>Is g v x
 | .me x=>qn G g v x
 | .feed=>v= .ref G.c
 | .dk kvs=>∃a,v= .ref a/\KD G g g a kvs
structure cF where
 L:az
 f:Nat->az
def eF(G:eI)(κ:cF)(i:Nat)(g h:aG)(v:ao):aK->Prop
 | .un=>True
 | .v x=>iN G g v x
 | .own ds=>∃vs,v= .ref (κ.f i)/\h.PlainList (κ.f i) vs/\aT g vs.toList ds/\g.get? (κ.f i)=none/\κ.f i≠G.c/\κ.L<=κ.f i/\ds.length<=lim
 | .cI kvs=>v= .ref (κ.f i)/\KD G g h (κ.f i) kvs/\g.get? (κ.f i)=none/\κ.f i≠G.c/\κ.L<=κ.f i
theorem KD.step(x:KD G g h a kvs)(hg:Sub g g')(ha:∀o,h.get? a=some o->h'.get? a=some o):KD G g' h' a kvs:=by
 exact EV x λxs Kf e k v l=>pU Kf λo es ep ho H O h3 h4 h5=>Av xs ((sU o es ep (ha _ ho) H O h3 (λy hy=>(h4 y hy).mono hg) h5)) e (k.mono hg) (v.mono hg) l
theorem KD.X4(x:KD G g h a kvs)(hg:Sub g h):∃xs:List (ah×az×ao),r7 G.prog G.w h a xs/\(∀y∈xs,r8 g y.1 y.2.1)/\xs.map (·.1)=kvs.map (·.1)/\aT g (xs.map λx=> .ref x.2.1) (kvs.map (·.1))/\aT g (xs.map (·.2.2)) (kvs.map (·.2))/\kvs.length<=lim:=by
 exact ar x λxs ajI r=>pU ajI λo es ep ho H O h3 h4 h5=>bQ xs (.of (sU o es ep ho H O h3 (λy hy=>(h4 y hy).mono hg) h5)) h4 r
section
variable{G:eI}{g g' h h':aG}{v:ao}
theorem qn.mono(i:qn G g v x)(s:Sub g g'):qn G g' v x:=by
 exact xx i λa dx n jm tk u zz=>j3 zz λe H O h3 h4=>Aa a dx n jm tk u (md e (s _ _ H) (s _ _ O) h3 (h4.mono s))
theorem iN.mono(i:iN G g v x)(s:Sub g g'):iN G g' v x:=by
 cases x with
 |d x=>exact Is.mono i s
 |me x=>exact qn.mono i s
 |feed=>exact i
 |dk kvs=>
  exact ar i λa e k=>ai a e (k.step s λo e=>s _ _ e)
end
def yE(G:eI)(g:aG)(σ:Sg)(h:aG):Prop:=
 ∃kvs,h.DictOf (strKind G.prog G.w) G.c kvs/\kvs.map (·.1)=σ.map (·.1)/\aT g (kvs.map (·.2)) (σ.map (·.2))/\kvs.length<=100
def UR(v:ao):Prop:=∃x t,v= .str x t/\x.cps[0]? =some 63
structure nN(w:dg)(o:Obj):Prop where
 tab:o.cls= .type "dict"->∀es n,o.data= .dict es n->(∀e∈es.toList,UR e.key)->o.ExactDict/\∀e∈es.toList,∀x t,e.key= .str x t->e.hash=hashStr w x
 seq:o.cls= .type "tuple"\/o.cls= .type "list"->o.dict=none
theorem nN.no(h:o.cls≠ .type "dict")(O:o.dict=none):nN w o:=⟨λe=>absurd e h,λzz=>O⟩
structure Inv(G:eI)(g:aG)(σ:Sg)(s:aJ):Prop where
 base:Sub G.h₀ g
 sub:Sub g s.heap
 gc:g.get? G.c=none
 shr:yE G g σ s.heap
 tab:∀b o,g.get? b=some o->b≠G.ax->nN G.w o
structure aS(G:eI)(s:aJ)(g:aG)(av:Sg)(s':aJ)(g':aG):Prop where
 same:s'.gens=s.gens/\s'.os=s.os
 keep:∀b o,b≠G.c->s.heap.get? b=some o->s'.heap.get? b=some o
 grow:Sub g g'
 fresh:∀b o,g'.get? b=some o->g.get? b=some o\/s.heap.get? b=none
 inv:Inv G g' av s'
section
variable{G:eI}{s s' an aD:aJ}{g g' aX aN:aG}{σ av ae aF:Sg}
theorem yE.at(x:yE G g σ h)(hk:∀b o,h.get? b=some o->h'.get? b=some o)(hg:Sub g g'):yE G g' σ h':=by
 exact jg x λkvs AN e i l=>gE AN λo es ep ho r=>nL kvs ((tE o es ep (hk _ _ ho) r)) e (i.mono hg) l
theorem yE.some(x:yE G g σ h):∃o es ep,h.get? G.c=some o/\o.data= .dict es ep/\o.ExactDict:=by
 exact ar x λkvs ajJ zz=>mP ajJ λo es ep ho hx hd zz=>EX o es ep ho hd hx
theorem aS.trans(x:aS G s g ae an aX)(y:aS G an aX aF aD aN):aS G s g aF aD aN:=by
 refine⟨⟨y.same.1.trans x.same.1,y.same.2.trans x.same.2⟩,λb o V e=>y.keep b o V (x.keep b o V e),x.grow.trans y.grow,λb o e=>?_,y.inv⟩
 refine a9 (y.fresh b o e) (λe'=>?_) (λe'=>?_)
 .exact x.fresh b o e'
 .right
  by_cases V:b=G.c
  .rw[V,y.inv.gc] at e;exact aC e
  .cases q:s.heap.get? b with
   |none=>rfl
   |some o'=>rw[x.keep b o' V q] at e';exact ft e'
theorem Inv.toks(i:Inv G g σ s)(t:Nat):Inv G g σ {s with toks:=t}:=⟨i.base,i.sub,i.gc,i.shr,i.tab⟩
theorem aS.refl(i:Inv G g σ s):aS G s g σ s g:=⟨⟨rfl,rfl⟩,λzz zz zz e=>e,Sub.rfl,λzz zz e=> .inl e,i⟩
theorem aS.tok(i:Inv G g σ s)(t:Nat):aS G s g σ {s with toks:=t} g:=⟨⟨rfl,rfl⟩,λzz zz zz e=>e,Sub.rfl,λzz zz e=> .inl e,i.toks t⟩
theorem aS.all(i:Inv G g σ s)(hk:∀b o,s.heap.get? b=some o->h'.get? b=some o)(X:az->Prop)(hX:∀b,X b->s.heap.get? b=none)(hG:∀b o,X b->h'.get? b=some o->nN G.w o):
 aS G s g σ {s with heap:=h',toks:=tk} (cv g h' X):=by
 have j9:=i.sub.trans hk
 refine⟨⟨rfl,rfl⟩,λb o zz e=>hk b o e,ij j9,λb o e=>?_,?_,q9,?_,?_,λb o e=>?_⟩
 .refine a9 (mQ j9 e) (λe=>?_) (λe=>?_)
  .exact .inl e
  .exact .inr (hX b e)
 .exact i.base.trans (ij j9)
 .cases q:(cv g h' X).get? G.c with
  |none=>rfl
  |some o=>
   exfalso
   refine a9 (mQ j9 q) (λe=>?_) (λe=>?_)
   .rw[i.gc] at e;exact aC e
   .refine gE i.shr.some λo' zz zz e' zz=>?_
    rw[hX _ e] at e';exact aC e'
 .exact i.shr.at hk (ij j9)
 .intro V
  refine a9 (mQ j9 e) (λq=>?_) (λq=>?_)
  .exact i.tab b o q V
  .exact hG b o q (q9 b o e)
theorem aS.WY(i:Inv G g σ s)(hk:∀b o,s.heap.get? b=some o->s'.heap.get? b=some o)(eg:s'.gens=s.gens)(eo:s'.os=s.os)(X:az->Prop)(hX:∀b,X b->s.heap.get? b=none)(hG:∀b o,X b->s'.heap.get? b=some o->nN G.w o):
 aS G s g σ s' (cv g s'.heap X):=by
 obtain⟨H,O,h3,h4,h5⟩:=(aS.all (tk:=0) i hk X hX hG).inv
 have st:=aS.all (tk:=0) i hk X hX hG
 exact⟨⟨eg,eo⟩,st.keep,st.grow,st.fresh,H,O,h3,h4,h5⟩
theorem aS.il(i:Inv G g σ s)(hk:∀b o,s.heap.get? b=some o->h'.get? b=some o):aS G s g σ {s with heap:=h',toks:=tk} g:=by
 have j9:=i.sub.trans hk
 exact⟨⟨rfl,rfl⟩,λb o zz e=>hk b o e,Sub.rfl,λb o e=> .inl e,i.base,j9,i.gc,i.shr.at hk Sub.rfl,i.tab⟩
end
def Runs{α:Type}(G:eI)(A:bV)(s:aJ)(g:aG)(av:Sg)(t:Sem α)(P:α->aG->Prop):Prop:=
 wpAny (model G.prog G.w) A t (λa s'=>∃g',aS G s g av s' g'/\P a g') (λzz zz=>False) s
section
variable{α β:Type}{G:eI}{A:bV}{s:aJ}{g:aG}{σ ae aF:Sg}{E:VS}
theorem Runs.use(r:Runs G A s g ae t P)(h:∀a s' g',aS G s g ae s' g'->P a g'->Q a s'):wpAny (model G.prog G.w) A t Q E s:=
 cn r (λa s' FT=>ar FT λg' st p=>h a s' g' st p) λzz zz f=>f.elim
theorem Runs.mono(r:Runs G A s g ae t P)(h:∀a g',P a g'->P' a g'):Runs G A s g ae t P':=
 cn r (λa s' an7=>ar an7 λg' st p=>(ai g' st (h a g' p))) λzz zz f=>f
theorem Runs.after(st:aS G s g ae s' g')(r:Runs G A s' g' aF t P):
 wpAny (model G.prog G.w) A t (λa aD=>∃aN,aS G s g aF aD aN/\P a aN) (λzz zz=>False) s':=
 cn r (λzz zz an8=>ar an8 λaN bb q=>(ai aN (st.trans bb) q)) λzz zz f=>f
end
structure dK(A:bV)(n:Nat):Prop where
 handled:A.handled=none
 depth:A.depth+n+5<recursionLimit
 units:A.units+ 16*n+400<cLine
structure Tab where
 X5:List (Str×Nat)
 asi:List (Str×Nat)
 asj:List (Str×Nat)
 cls:Str
structure Cx where
 sc:jA
 Γ:List (Str×Nat)
noncomputable def Cx.kindOf(cx:Cx)(x:Str):Option jv:=cx.sc.names.lookup x
def Cx.var(cx:Cx)(x:Str):Bool:=cx.kindOf x==some .local||cx.kindOf x==some .cell||cx.kindOf x==some .free
abbrev dY:=kS
structure a7(G:eI)(cx:Cx)(κ:cF)(g h:aG)(env:Env)(ρ:List aK):Prop where
 sc:env.scope=cx.sc
 kind:cx.sc.kind= .function
 glob:env.globals=mainGlobals
 jL:env.builtins=builtinsNs
 above:κ.L<=env.locals
 lc:env.locals≠G.c
 lg:g.get? env.locals=none
 vars:∃m,h.Ns env.locals m/\∀x i b,cx.Γ.lookup x=some i->ρ[i]? =some b->b≠ .un->cx.kindOf x=some .local->∃v,m x=some v/\eF G κ i g h v b
 cells:∀x i b,cx.Γ.lookup x=some i->ρ[i]? =some b->b≠ .un->(cx.kindOf x=some .cell\/cx.kindOf x=some .free)->∃a v,env.cells.lookup x=some a/\h.IsCell a (some v)/\eF G κ i g h v b
 kZ:∀x,(cx.kindOf x=some .cell\/cx.kindOf x=some .free)->∃a,env.cells.lookup x=some a
 cc:∀x a,env.cells.lookup x=some a->a≠G.c/\g.get? a=none/\∃v,h.IsCell a v
 cL:∀x a,cx.kindOf x=some .cell->env.cells.lookup x=some a->κ.L<=a
 ap:∀i j b b',ρ[i]? =some b->ρ[j]? =some b'->dY b=true->dY b'=true->κ.f i=κ.f j->i=j
 n5:∀x y a,env.cells.lookup x=some a->env.cells.lookup y=some a->x=y
 od:∀x i b,cx.Γ.lookup x=some i->ρ[i]? =some b->dY b=true->κ.f i≠env.locals
section
variable{G:eI}{cx:Cx}{κ:cF}{g g' h:aG}{s s':aJ}{σ av:Sg}{env:Env}{ρ:List aK}{v:ao}
theorem aS.gone(st:aS G s g av s' g')(hg:g.get? a=none)(ho:s.heap.get? a=some o):g'.get? a=none:=by
 cases e':g'.get? a with
 |none=>rfl
 |some o'=>refine a9 (st.fresh _ _ e') (λz=>?_) (λz=>?_)<;>simp_all
theorem eF.step(st:aS G s g av s' g')(x:eF G κ i g s.heap v b):eF G κ i g' s'.heap v b:=by
 cases b with
 |un=>trivial
 |v x'=>exact iN.mono x st.grow
 |own ds=>
  exact I0 x λvs e ajK i q r t=>xe ajK λn p=>Tp vs e (⟨n,st.keep _ _ r p⟩) (i.mono st.grow) (st.gone q p) r t
 |cI kvs=>
  exact j3 x λe k q r t=>ar (id k) λxs ajL zz=>gE ajL λo es ep ho zz=>md e (k.step st.grow λo e=>st.keep _ _ r e) (st.gone q ho) r t
theorem a7.step(st:aS G s g av s' g')(x:a7 G cx κ g s.heap env ρ):a7 G cx κ g' s'.heap env ρ where
 sc:=x.sc
 kind:=x.kind
 glob:=x.glob
 jL:=x.jL
 above:=x.above
 lc:=x.lc
 lg:=by
  exact ar x.vars λm ajM zz=>gE ajM λo es ep ho zz=>st.gone x.lg ho
 vars:=by
  refine ar x.vars λm n f=>ai m (n.at' λo e=>st.keep _ _ x.lc e) (λy i b H O h3 h4=>?_)
  exact ar (f y i b H O h3 h4) λv e q=>ai v e (q.step st)
 cells:=λy i b H O h3 h4=>by
  exact bZ (x.cells y i b H O h3 h4) λa v e ajN q=>ar ajN λo ho hd=>eY a v e ((ai o (st.keep _ _ (x.cc _ _ e).1 ho) hd)) (q.step st)
 kZ:=x.kZ
 cc:=λy a e=>by
  exact nJ (x.cc y a e) λH O v o ho hd=>xO H (st.gone O ho) v o (st.keep _ _ H ho) hd
 cL:=x.cL
 ap:=x.ap
 n5:=x.n5
 od:=x.od
end
theorem fG(h:n<=lim):n<=sizeLine:=aB h (by decide)
section
variable{G:eI}{A:bV}{s:aJ}{g:aG}{σ:Sg}{E:VS}{v u:ao}{x y d:ah}{xs ys:List ah}
theorem Is.qo(i:Inv G g σ s)(h:Is g v (.tuple xs)):∃a vs,v= .ref a/\vN s.heap a vs/\aT g vs.toList xs:=by
 exact ja h.kH λa o vs n e ho hc hd r=>eY a vs e ((iY o (i.sub _ _ ho) hc n hd)) r
theorem Is.xT(i:Inv G g σ s)(h:Is g v (.list xs)):∃a vs,v= .ref a/\s.heap.IsList a vs/\aT g vs.toList xs:=by
 exact ja h.s7 λa o vs n e ho hc hd r=>eY a vs e ((iY o (i.sub _ _ ho) hc n hd)) r
theorem Is.heap(i:Inv G g σ s)(h:Is g v x):Is s.heap v x:=h.mono i.sub
theorem aS.Ay(i:Inv G g σ s)(hT:T="tuple"\/T="list")(hk:∀b o,s.heap.get? b=some o->h'.get? b=some o)(ha:s.heap.get? a=none)
 (ho:h'.get? a=some {cls:= .type T,data:= .seq vs.toArray n}) (r:aT g vs xs):
 ∃g',aS G s g σ {s with heap:=h',toks:=tk} g'/\Is g' (.ref a) (if T="tuple" then .tuple xs else .list xs):=by
 refine ai (cv g h' (·=a)) (.all i hk _ (λb e=>e▸ha) (λb o e q=>?_)) ?_
 .rw[e,ho] at q;injection q with AR;clear ho;subst AR;exact .no (by rcases hT with rfl|rfl<;>simp) rfl
 have eJ:(cv g h' (·=a)).get? a=some {cls:= .type T,data:= .seq vs.toArray n}:=nH rfl ho
 have r':aT (cv g h' (·=a)) vs.toArray.toList xs:=by exact r.mono (ij (i.sub.trans hk))
 rcases hT with rfl|rfl
 .exact Y (if_pos rfl)<|Is.tuple eJ rfl rfl r'
 .rw[if_neg (by decide)];exact Is.list eJ rfl rfl r'
theorem fq{h:aG}:h.get? h.objs.size=none:=by
 cases e:h.get? h.objs.size with
 |none=>rfl
 |some o=>exact absurd (dI e) (pN _)
theorem aS.Af(i:Inv G g σ s)(r:aT g vs xs):
 ∃g',aS G s g σ {s with heap:=s.heap.push {cls:= .type "tuple",data:= .seq vs.toArray},toks:=tk} g'/\Is g' (.ref s.heap.objs.size) (.tuple xs):=by
 have:=aS.Ay (T:="tuple") (tk:=tk) i (.inl rfl) (λb o e=>bT {cls:= .type "tuple",data:= .seq vs.toArray} e) fq (cJ _ rfl) r
 rwa [if_pos rfl] at this
theorem aS.TM(i:Inv G g σ s)(r:aT g vs xs):
 ∃g',aS G s g σ {s with heap:=s.heap.push {cls:= .type "list",data:= .seq vs.toArray},toks:=tk} g'/\Is g' (.ref s.heap.objs.size) (.list xs):=by
 have:=aS.Ay (T:="list") (tk:=tk) i (.inr rfl) (λb o e=>bT {cls:= .type "list",data:= .seq vs.toArray} e) fq (cJ _ rfl) r
 rwa [if_neg (by decide)] at this
theorem Pk(h:jI n k=some j):seqIndex? k n=some j:=by
 unfold jI at h
 unfold seqIndex?
 by_cases h0:0<=k
 .rw[if_pos h0] at h
  split at h
  .injection h with Kg;subst Kg
   have:¬k<0:=xj.mpr h0
   simp only[this,if_false]
   rw[if_pos (by simp only[cm,decide_eq_true_eq];exact⟨h0,by assumption⟩)]
  .exact aC h
 .rw[if_neg h0] at h
  split at h
  .rename_i H
   injection h with ajO;subst ajO
   have:k<0:=QG.mp h0
   simp only[this,if_true]
   rw[if_pos (by simp only[cm,decide_eq_true_eq];exact⟨H,iad this⟩)]
  .exact aC h
def zQ(sl:Expr):Prop:=∀o i,subscripted sl false o i=operate [o,i] (getItem o i)
theorem ae2(hs:zQ slice)(i:Inv G g σ s)(hv:Is g v x)(hu:Is g u (.int k))(h:mf x k=some d)(hk: -(2^ 63)<=k/\k<2^ 63):
 Runs G A s g σ (subscriptTail value slice v u) (λr g'=>Is g' r d):=by
 refine xe hu.int_inv λt Kh=>?_;clear hu;subst Kh
 cases x with
 |tuple xs=>
  refine bZ (hv.qo i) λa vs ajP ht r=>?_;clear hv;subst ajP
  refine aP h λj hj hd=>ar (r.get hd) λw hw F'=>item_tupleT (j:=j) ht hk.1 hk.2 ?_ hw (ai g (.refl i) F') (hs _ _)
  exact Y r.length<|Pk hj
 |list xs=>
  refine bZ (hv.xT i) λa vs ajQ ht r=>?_;clear hv;subst ajQ
  refine aP h λj hj hd=>ar (r.get hd) λw hw F'=>?_
  have hl:=r.length
  rw[eV] at hl
  unfold jI at hj
  clear hd;split at hj
  .rename_i h0
   refine tb ht.typeIs OC.lookup (wpAny_getItem_list ht h0 hk.2 ?_ (ai g (.refl i) F')) (hs _ _)
   split at hj
   .injection hj with ajR;subst ajR;simpa using hw
   .exact aC hj
  .split at hj
   .rename_i h0 H
    refine tb ht.typeIs OC.lookup (wpAny_getItem_list_neg ht (QG.mp h0) (inl (hl▸H)) hk.1 ?_ (ai g (.refl i) F')) (hs _ _)
    injection hj with AS;subst AS;refine Y hl ?_;simpa using hw
   .exact aC hj
 |str y=>
  refine xe hv.str_inv λtk oQ=>?_;clear hv;subst oQ
  refine aP h λj hj h=>iK h λc hc oQ=>?_;clear h;subst oQ
  refine tb (typeIs_str s y tk) aad.lookup (PySem.P.getItem_str (c:=c) ?_ ?_ (ai g (.tok i _) (.str))) (hs _ _)
  .exact si ZV<|⟨decide_eq_false (xj.mpr hk.1),decide_eq_false (QG.mpr hk.2)⟩
  .exact Y (show y.length=y.cps.size from rfl)<|Y (Pk hj)<|hc
 |none=>exact aC h
 |bool _=>exact aC h
 |int _=>exact aC h
 |dict _=>exact aC h
theorem aiv(i:Inv G g σ s)(rm:dK A n)(hv:Is g v x)(hu:Is g u y)(h:gI .eq x y=some b):
 Runs G A s g σ (compareOp .Eq v u) (λr g'=>Is g' r (.bool b)):=by
 simp only[gI] at h
 split at h
 .rename_i hk
  injection h with Ki;subst Ki
  exact xa (oi.mp hk) λH O=>xe (hv.heap i) λas r1=>xe (hu.heap i) λbs r2=>eq_dataH r1 r2 H O (by have:=rm.units;exact Mj this) (ai g (.refl i) (.bool))
 .exact aC h
theorem aiw(i:Inv G g σ s)(rm:dK A n)(hv:Is g v x)(hu:Is g u y)(h:gI .ne x y=some b):
 Runs G A s g σ (compareOp .NotEq v u) (λr g'=>Is g' r (.bool b)):=by
 simp only[gI] at h
 split at h
 .rename_i hk
  injection h with ajS;subst ajS
  exact xa (oi.mp hk) λH O=>xe (hv.heap i) λas r1=>xe (hu.heap i) λbs r2=>ne_dataH r1 r2 H O (by have:=rm.units;exact Mj this) (ai g (.refl i) (.bool))
 .exact aC h
theorem DI(h:DE (.list xs)=true):eA xs=true/\eM xs<= 63:=by
 have a:=za h
 have b:=ZH h
 exact⟨a,by (exact be [(J B k1,(.num 64))] (B,(.num 63)) rfl b)⟩
theorem Pl(h:DE (.tuple xs)=true):eA xs=true/\eM xs<= 63:=by
 have a:=za h
 have b:=ZH h
 exact⟨a,by (exact be [(J B k1,(.num 64))] (B,(.num 63)) rfl b)⟩
theorem US(i:Inv G g σ s)(rm:dK A n)(hv:Is g v x)(hu:Is g u y)(hy:tF y=some xs)(hk:(ce x && ce y)=true):
 wpAny (model G.prog G.w) A (compareOp .In v u) (λr s'=>s'=s/\r= .bool (xs.any λy=>cA y x)) (λzz zz=>False) s/\wpAny (model G.prog G.w) A (compareOp .NotIn v u) (λr s'=>s'=s/\r= .bool (!(xs.any λy=>cA y x))) (λzz zz=>False) s:=by
 refine xe (hv.heap i) λas r1=>xe (hu.heap i) λbs r2=>?_
 have ru:=rm.units
 refine xa (oi.mp hk) λH O=>?_
 have c1:=za H
 have mn:=nA (eM xs) x.depth
 cases y with
 |list ys=>
  cases hy
  refine xa (DI O) λq1 q2=>?_
  have l:A.units+1+min (eM xs) x.depth<cLine:=by exact eH [(B,(.num 63)),(v1,B),(J (J (J v2 (.mulL 16 v3)) (.num 400)) k1,v4)] (J (J (J v2 k1) v1) k1,v4) rfl q2 mn ru
  exact⟨SeqAt.in_list_reads r2 r1 q1 c1 l ⟨rfl,rfl⟩,Zz r2 r1 q1 c1 l ⟨rfl,rfl⟩⟩
 |tuple ys=>
  cases hy
  refine xa (Pl O) λq1 q2=>?_
  have l:A.units+1+min (eM xs) x.depth<cLine:=by exact eH [(B,(.num 63)),(v1,B),(J (J (J v2 (.mulL 16 v3)) (.num 400)) k1,v4)] (J (J (J v2 k1) v1) k1,v4) rfl q2 mn ru
  exact⟨SeqAt.in_tuple_reads r2 r1 q1 c1 l ⟨rfl,rfl⟩,SeqAt.notIn_tuple_reads r2 r1 q1 c1 l ⟨rfl,rfl⟩⟩
 |none=>exact aC hy
 |bool _=>exact aC hy
 |int _=>exact aC hy
 |str _=>exact aC hy
 |dict _=>exact aC hy
noncomputable def ya:M5->CmpOp
 | .eq=> .Eq| .ne=> .NotEq| .lt=> .Lt| .gt=> .Gt| .isIn=> .In| .AL=> .NotIn
theorem jY(h:(if c then some a else none)=some b):c=true/\a=b:=by
 cases c with
 |true=>injection h with vh;subst vh;exact⟨rfl,rfl⟩
 |false=>exact aC h
theorem agB(i:Inv G g σ s)(rm:dK A n)(hv:Is g v x)(hu:Is g u y)(h:gI o x y=some b):
 Runs G A s g σ (compareOp (ya o) v u) (λr g'=>Is g' r (.bool b)):=by
 have yF:∀{f:Int->Int->Bool},((intD x).bind λa=>(intD y).map λb=>f a b)=some b->∃a c t t',v= .int a t/\u= .int c t'/\f a c=b:=λ{f} h=>by
  refine aP h λa H h=>iK h λc O h3=>?_
  clear h;obtain rfl:=nI H
  clear h;obtain rfl:=nI O
  refine xe hv.int_inv λt ajT=>?_;clear hv;subst ajT
  refine xe hu.int_inv λt' ajU=>?_;clear hu;subst ajU
  exact Tu a c t t' rfl rfl h3
 cases o with
 |eq=>exact aiv i rm hv hu h
 |ne=>exact aiw i rm hv hu h
 |isIn=>
  refine aP h λxs H O=>xa (jY O) λh3 ajV=>?_;clear yF h O;subst ajV
  exact cn (US i rm hv hu H h3).1 (λr s' WZ=>xa WZ λe1 e2=>by clear WZ;subst e1 e2;exact ai g (.refl i) (.bool)) λzz zz f=>f
 |AL=>
  refine aP h λxs H O=>xa (jY O) λh3 ajW=>?_;clear yF h O;subst ajW
  exact cn (US i rm hv hu H h3).2 (λr s' B8=>xa B8 λe1 e2=>by clear B8;subst e1 e2;exact ai g (.refl i) (.bool)) λzz zz f=>f
 |lt=>
  refine oE (yF h) λa c t t' ajX ajY AT=>?_;clear yF h;clear hv;subst ajX;clear hu;subst ajY AT
  exact wpAny_lt_int (ai g (.refl i) (.bool))
 |gt=>
  refine oE (yF h) λa c t t' ajZ aj0 AU=>?_;clear yF h;clear hv;subst ajZ;clear hu;subst aj0 AU
  exact gt_int (ai g (.refl i) (.bool))
noncomputable def VL:M4->Operator
 | .add=> .Add| .sub=> .Sub| .mul=> .Mult| .mod=> .Mod| .pow=> .Pow| .shr=> .RShift| .band=> .BitAnd
theorem acD(h:df a=true):Builtin.Int.intBits a<= 64:=by
 simp only[df,cm,decide_eq_true_eq] at h
 exact intBits_le_64 (XU h).1 (XU h).2
theorem JA(h:ue xs=some d):d= .tuple xs/\xs.length<=lim:=by
 unfold ue at h;split at h
 .injection h with Kj;subst Kj;exact⟨rfl,by assumption⟩
 .exact aC h
theorem qp(h:kY xs=some d):d= .list xs/\xs.length<=lim:=by
 unfold kY at h;split at h
 .injection h with vi;subst vi;exact⟨rfl,by assumption⟩
 .exact aC h
theorem ty(h:fE i=some d):d= .int i:=by
 unfold fE at h;split at h
 .injection h with B9;subst B9;rfl
 .exact aC h
theorem acE(i:Inv G g σ s)(hv:Is g v (.tuple xs))(hu:Is g u (.tuple ys))(hl:(xs++ys).length<=lim):
 Runs G A s g σ (binaryOp .Add v u) (λr g'=>Is g' r (.tuple (xs++ys))):=by
 have yG:=hv
 have X6:=hu
 refine ja hv.kH λa Kk vs n aj1 ho hc hd r=>?_;obtain⟨cls,dd,data,sl⟩:=Kk;subst aj1
 refine ja hu.kH λb aj2 us n2 aj3 fy kf hd2 r2=>?_;clear hv;obtain⟨Mu,n6,data2,n7⟩:=aj2;subst aj3
 simp only at hc hd kf hd2
 clear hu;subst hc hd kf hd2
 have H:=i.sub _ _ ho
 have O:=i.sub _ _ fy
 have l1:=r.length
 have l2:=r2.length
 rw[cS] at hl
 simp only[eV] at l1 l2
 by_cases e1:vs.isEmpty=true
 .have:xs=[]:=GA (by rw[<- l1];simpa using e1)
  clear r yG;subst this
  exact Hl (ai _ H rfl) (ai _ O rfl) OQ Pd Oc N8 (N5 _ _)
   (tuple_addW0 _ _ _ _ _ _ _ _ _ _ e1) (bO H O ((ai g (aS.refl i) X6)))
 .by_cases e2:us.isEmpty=true
  .have:ys=[]:=GA (by rw[<- l2];simpa using e2)
   clear r2 X6;subst this
   exact Y (gU _)<|Hl (ai _ H rfl) (ai _ O rfl) OQ Pd Oc N8 (N5 _ _)
    (tuple_addW1 _ _ _ _ _ _ _ _ _ _ e1 e2) (bO H O ((ai g (aS.refl i) yG)))
  .have ap:=r.append r2
   refine ar (aS.Af (tk:=s.toks) i ap) λg' st q=>Hl (ai _ H rfl) (ai _ O rfl) OQ Pd Oc N8 (N5 _ _)
    (tuple_addW2 _ _ _ _ _ _ _ _ _ _ e1 e2 (fG (Y l1<|Y l2<|hl))) (bO H O ((ai g' ?_ q)))
   have e:(vs.toList++us.toList).toArray=vs++us:=by simp
   rwa [e] at st
theorem acF(i:Inv G g σ s)(hv:Is g v (.list xs))(hu:Is g u (.list ys))(hl:(xs++ys).length<=lim):
 Runs G A s g σ (binaryOp .Add v u) (λr g'=>Is g' r (.list (xs++ys))):=by
 refine ja hv.s7 λa aj4 vs n Kl ho hc hd r=>?_;clear hv;obtain⟨cls,dd,data,sl⟩:=aj4;subst Kl
 refine ja hu.s7 λb Km us n2 aj5 fy kf hd2 r2=>?_;clear hu;obtain⟨Mu,n6,data2,n7⟩:=Km;subst aj5
 simp only at hc hd kf hd2
 subst hc hd kf hd2
 have H:=i.sub _ _ ho
 have O:=i.sub _ _ fy
 have l1:=r.length
 have l2:=r2.length
 rw[cS] at hl
 simp only[eV] at l1 l2
 refine ar (aS.TM (tk:=s.toks) i (r.append r2)) λg' st q=>Hl (ai _ H rfl) (ai _ O rfl) noFill_list_add seq_list_add PySem.F.slot_list_add PySem.F.entry_list_add (PySem.F.args_list_add_2 _ _)
  (list_addW _ _ _ _ _ _ _ _ _ _ (fG (by exact Y l1<|Y l2<|hl))) (bO H O ((ai g' ?_ q)))
 have e:(vs.toList++us.toList).toArray=vs++us:=by simp
 rwa [e] at st
theorem aaA:fillsNumberSlot (.type "tuple") "mul"=pure false:=
 PySem.fillsNumberSlot_seq (id:="tuple.__mul__") (r:=some (.builtin "tuple.__rmul__")) Dd.lookup (by decide+kernel) Zv.lookup (by decide+kernel)
theorem abt:seqRepeat? (.type "tuple")=pure (some (.builtin "tuple.__mul__")):=by
 unfold seqRepeat?
 rw[aaE (T:="tuple") (name:="__mul__") (id:="tuple.__mul__") Dd.lookup (by decide+kernel),aaE (T:="tuple") (name:="__rmul__") (id:="tuple.__rmul__") Zv.lookup (by decide+kernel)]
 rfl
set_option maxRecDepth 100000 in
theorem acG(a:Int)(t:Tok)(l:az)(items:Array ao)(n:Nat)(d:Option az)(sl:Array (Option ao)):
 rJ (hY.«int.__rmul__» ⟨[.int a t, .ref l],[]⟩) (λzz R s=>s.heap.get? l=some {cls:= .type "tuple",dict:=d,data:= .seq items n,slots:=sl}/\R (.ok (.ret Om)) s):=
 .of_wp λprog w A R s h=>by obtain⟨hp,g,d,tk,os⟩:=s;refine xa h λhl h=>?_;wp_walk;exact ai _ rfl h
set_option maxRecDepth 100000 in
theorem aa0(l:az)(items:Array ao)(n:Nat)(d:Option az)(sl:Array (Option ao))(x:Int)(u:Tok)(hA:x<9223372036854775808)(hB: -9223372036854775808<=x)(wk:(items.isEmpty||x==1)=true):
 rJ (hY.«tuple.__mul__» ⟨[.ref l, .int x u],[]⟩) (λzz R s=>s.heap.get? l=some {cls:= .type "tuple",dict:=d,data:= .seq items n,slots:=sl}/\R (.ok (.ret (kI l))) s):=
 .of_wp λprog w A R s h=>by
  obtain⟨hp,g,d,tk,os⟩:=s;refine xa h λhl h=>?_
  wp_walk
  exact ai _ rfl h
set_option maxRecDepth 100000 in
theorem aa1(l:az)(items:Array ao)(n:Nat)(d:Option az)(sl:Array (Option ao))(x:Int)(u:Tok)(hA:x<9223372036854775808)(hB: -9223372036854775808<=x)(wk:¬(items.isEmpty||x==1)=true)(qI:(decide (x<=0)||items.isEmpty)=true):
 rJ (hY.«tuple.__mul__» ⟨[.ref l, .int x u],[]⟩) (λzz R s=>s.heap.get? l=some {cls:= .type "tuple",dict:=d,data:= .seq items n,slots:=sl}/\R (.ok (.ret (kI s.heap.objs.size))) {s with heap:=s.heap.push {cls:= .type "tuple",data:= .seq #[]}}):=
 .of_wp λprog w A R s h=>by
  obtain⟨hp,g,d,tk,os⟩:=s;refine xa h λhl h=>?_
  wp_walk
  exact ai _ rfl h
set_option maxRecDepth 100000 in
theorem aa2(l:az)(items:Array ao)(n:Nat)(d:Option az)(sl:Array (Option ao))(x:Int)(u:Tok)(hA:x<9223372036854775808)(hB: -9223372036854775808<=x)(wk:¬(items.isEmpty||x==1)=true)(qI:¬(decide (x<=0)||items.isEmpty)=true)(kf:¬((items.size:Int)*x>(2^ 63 - 1) / 8))(hc3:¬Zi ((items.size:Int)*x)=true)
 (bF:(DR (λx1 x2=>x1++x2) #[] (ii x.toNat items)).size<=sizeLine):
 rJ (hY.«tuple.__mul__» ⟨[.ref l, .int x u],[]⟩) (λzz R s=>s.heap.get? l=some {cls:= .type "tuple",dict:=d,data:= .seq items n,slots:=sl}/\R (.ok (.ret (kI s.heap.objs.size))) {s with heap:=s.heap.push {cls:= .type "tuple",data:= .seq (DR (λx1 x2=>x1++x2) #[] (ii x.toNat items))}}):=
 .of_wp λprog w A R s h=>by
  obtain⟨hp,g,d,tk,os⟩:=s;refine xa h λhl h=>?_
  wp_walk
  refine wpAny_ite_false (decide_eq_false kf) ?_
  wp_walk
  exact ai _ rfl h
theorem R9:∀k:Nat,qD [] k=[]
 |0=>rfl
 |k+1=>by rw[HR,R9 k];rfl
theorem aT.rep(r:aT g vs xs):∀k:Nat,aT g ((ii k vs).flatten) (qD xs k)
 |0=> .nil
 |k+1=>by rw[GR,List.flatten_cons,HR];exact r.append (r.rep k)
theorem HU(a:Array ao):∀(k:Nat) (b:Array ao),(DR (λx1 x2=>x1++x2) b (ii k a)).toList=b.toList++(ii k a.toList).flatten
 |0,b=>by simp
 |k+1,b=>by refine Y GR<|Y OW<|Y ((HU a k) _) ?_;simp[GR]
theorem acH(i:Inv G g σ s)(hv:Is g v (.tuple xs))(hu:Is g u (.int k))(h0:0<=k)(H:k<=1000)(hl:xs.length<=1):
 Runs G A s g σ (binaryOp .Mult v u) (λr g'=>Is g' r (.tuple (qD xs k.toNat))):=by
 have yG:=hv
 refine ja hv.kH λa aj6 vs n Kn ho hc hd r=>?_;obtain⟨cls,dd,data,sl⟩:=aj6;subst Kn
 simp only at hc hd
 subst hc hd
 have eJ:=i.sub _ _ ho
 refine xe hu.int_inv λt AV=>?_;clear hu;subst AV
 have e1:=r.length
 simp only[eV] at e1
 have hA:k<9223372036854775808:=GW H (by decide)
 have hB: -9223372036854775808<=k:=sK (by decide) h0
 refine wpAny_binaryOp_repeat_ref (T:="tuple") (U:="int") (by decide) (ai _ eJ rfl) (λs'=>typeIs_int s' k t) aaA PySem.F.fills_int_mul ZI abt PySem.F.slot_int_index.lookup<|qX ZI (typeIs_int s k t) PySem.F.entry_int_rmul (PySem.F.args_int_rmul_2 _ _) (acG k t a vs n dd sl) (fb eJ rfl ((ai _ eJ rfl)) ?_)
 by_cases c0:(vs.isEmpty||k==1)=true
 .refine qX Dd (ai _ eJ rfl) N9 (N6 _ _) (aa0 a vs n dd sl k t hA hB c0) (oY eJ g (.refl i) ?_)
  have:qD xs k.toNat=xs:=by
   simp only[lU,beq_iff_eq] at c0
   refine a9 c0 (λc0=>?_) (λc0=>?_)
   .have:xs=[]:=GA (by rw[<- e1];simpa using c0)
    exact Y this<|Y (R9 _) rfl
   .clear hA hB;clear h0 H;subst c0;exact gU _
  exact Y this<|yG
 .by_cases c1:(decide (k<=0)||vs.isEmpty)=true
  .have hk:k.toNat=0:=by
    simp only[lU,decide_eq_true_eq,beq_iff_eq,not_or] at c0 c1
    refine a9 c1 (λc1=>?_) (λc1=>?_)
    .exact Z3 c1
    .exact absurd c1 c0.1
   exact Y hk<|ar (aS.Af (tk:=s.toks) i .nil) λg' st q=>qX Dd (ai _ eJ rfl) N9 (N6 _ _) (aa1 a vs n dd sl k t hA hB c0 c1) (oY eJ g' st q)
  .have hz:((vs.size:Nat):Int)*k<=1000:=ajx (aB (aA e1) hl) h0 H
   have bF:(DR (λx1 x2=>x1++x2) #[] (ii k.toNat vs)).size=k.toNat*vs.size:=by
    rw[<- eV,HU];simp
   have an9:k.toNat*vs.size<=1000:=ajy (aB (aA e1) hl) H
   refine ar (aS.Af (tk:=s.toks) i (r.rep k.toNat)) λg' st q=>qX Dd (ai _ eJ rfl) N9 (N6 _ _) (aa2 a vs n dd sl k t hA hB c0 c1 (xj.mpr (sK hz (by decide))) ?_ (by refine Y bF ?_;exact fG (by have:lim=1000000:=rfl;exact aM [((.num 1000000),B),(v1,(.num 1000))] (v1,B) rfl (aA this.symm) an9))) (oY eJ g' ?_ q)
   .unfold Zi
    simp;exact sK hz (by decide)
   .have e:(ii k.toNat vs.toList).flatten.toArray=DR (λx1 x2=>x1++x2) #[] (ii k.toNat vs):=by
     apply Dr.mp;refine Y (HU _ _ _) ?_;simp
    rwa [e] at st
theorem ints_of(hv:Is g v x)(hu:Is g u y)(h:u4 x y f=some d):∃a b t t',v= .int a t/\u= .int b t'/\f a b=some d:=by
 refine aP h λa H h=>aP h λc O h3=>?_
 clear h;obtain rfl:=nI H
 clear h;obtain rfl:=nI O
 refine xe hv.int_inv λt oQ=>?_;clear hv;subst oQ
 refine xe hu.int_inv λt' AW=>?_;clear hu;subst AW
 exact Tu a c t t' rfl rfl h3
theorem jZ(h:(if c then a else none)=some b):c=true/\a=some b:=by
 cases c with
 |true=>exact⟨rfl,h⟩
 |false=>exact aC h
theorem agC(i:Inv G g σ s)(hv:Is g v x)(hu:Is g u y)(h:j7 o x y=some d):
 Runs G A s g σ (binaryOp (VL o) v u) (λr g'=>Is g' r d):=by
 cases o with
 |add=>
  change WS x y=_ at h
  cases x with
  |int a=>
   refine aP h λc H O=>xa (jZ O) λzz h3=>?_
   clear h O;obtain rfl:=nI H
   refine xe hv.int_inv λt AW=>?_;clear hv;subst AW
   refine xe hu.int_inv λt' rt=>?_;clear hu;subst rt
   obtain rfl:=ty h3
   exact add_int (ai g (.tok i _) (.int))
  |tuple xs=>
   refine aP h λc H O=>?_
   clear h;obtain rfl:=tc H
   refine xa (JA O) λvj hl=>?_;clear O;subst vj;exact acE i hv hu hl
  |list xs=>
   refine aP h λc H O=>?_
   clear h;obtain rfl:=xy H
   refine xa (qp O) λKo hl=>?_;clear O;subst Ko;exact acF i hv hu hl
  |none=>exact aC h
  |bool _=>exact aC h
  |str _=>exact aC h
  |dict _=>exact aC h
 |sub=>
  refine oE (ints_of hv hu h) λa b t t' aj7 aj8 h=>?_;clear hv hu;subst aj7 aj8
  obtain rfl:=ty (jZ h).2
  exact sub_int (ai g (.tok i _) (.int))
 |mul=>
  change WW x y=_ at h
  cases x with
  |int a=>
   refine aP h λc H O=>xa (jZ O) λhk h3=>?_
   clear h O;obtain rfl:=nI H
   refine xe hv.int_inv λt rO=>?_;clear hv;subst rO
   refine xe hu.int_inv λt' aj9=>?_;clear hu;subst aj9
   obtain rfl:=ty h3
   exact mul_int (ai g (.tok i _) (.int)) (IntMulOk.of_left (acD (oi.mp hk).1))
  |tuple a=>
   refine aP h λc H O=>xa (jY O) λhk Kp=>?_;clear h O;subst Kp
   obtain rfl:=nI H
   simp only[cm,decide_eq_true_eq] at hk
   exact acH i hv hu hk.1.1 hk.1.2 hk.2
  |none=>exact aC h
  |bool _=>exact aC h
  |str _=>exact aC h
  |list _=>exact aC h
  |dict _=>exact aC h
 |mod=>
  refine oE (ints_of hv hu h) λa b t t' aka akb h=>?_;clear hv hu;subst aka akb
  refine xa (jZ h) λhk O=>?_
  clear h;obtain rfl:=ty O
  have V:=of_decide_eq_true hk
  refine mod_int' (Int.ne_of_gt V) (ai g (.tok i _) ?_)
  rw[Int.fmod_eq_emod_of_nonneg _ (zr V)]
  exact .int
 |pow=>
  refine oE (ints_of hv hu h) λa b t t' akc akd h=>?_;clear hv hu;subst akc akd
  refine xa (jZ h) λhk O=>?_
  simp only[cm,decide_eq_true_eq] at hk
  refine xa hk λtH H=>xa tH λKq h0=>?_;clear h tH;subst Kq
  obtain rfl:=ty O
  exact pow_int_small h0 (sK H (by decide)) (by decide) (ai g (.tok i _) (.int))
 |shr=>
  refine oE (ints_of hv hu h) λa b t t' ake akf h=>?_;clear hv hu;subst ake akf
  refine xa (jZ h) λhk O=>?_
  simp only[cm,decide_eq_true_eq] at hk
  refine xa hk λKr zz=>xa Kr λakg H=>xa akg λh0 zz=>?_
  clear h;obtain rfl:=ty O
  refine rshift_int H (ai g (.tok i _) ?_)
  rw[Int.fdiv_eq_ediv_of_nonneg _ (zr (Int.pow_pos (by decide)))]
  exact .int
 |band=>
  refine oE (ints_of hv hu h) λa b t t' akh aki h=>?_;clear hv hu;subst akh aki
  refine xa (jZ h) λhk O=>?_
  simp only[cm,decide_eq_true_eq] at hk
  refine xa hk λVM AX=>xa VM λh0 zz=>?_;clear h VM;subst AX
  clear hk;obtain rfl:=ty O
  refine and_int (ai g (.tok i _) ?_)
  have e:Builtin.bitAnd a 1=a % 2:=by
   refine xe (Int.eq_ofNat_of_zero_le h0) λn oR=>?_;clear h0 O;clear h;subst oR
   show((n &&& 1:Nat):Int)=_
   exact Y (Nat.and_one_is_mod _) (G3 n 2)
  exact Y e<| .int
end
end bh
namespace bh
open PySem PySem.W PyProof.Rows PySem.Calls PySem.SeqAt
open MeetsSeq MeetsSeq2 MeetsSeq3 SeqRoads2
open AutoSeq1 (wpAny_loadPart')
def rP(A:bV)(s:aJ)(y x:ao)(b:Bool):Prop:=
 ∀(prog:eE) (w:dg) (E:VS) (Q:VS),Q (.bool b) s->wpAny (model prog w) A (richCompare .Lt y x) Q E s
def tI(A:bV)(s:aJ)(fin r:Bool):List (ao×ao)->Prop
 |[]=>r=fin
 |(x,y)::l=>∃e,EqAt A s x y e/\if e=true then tI A s fin r l else rP A s x y r
theorem acI(l b:az)(items dX:Array ao)(n n2:Nat)(dd n6:Option az)(sl n7:Array (Option ao))(r:Bool):
 rJ (hY.«tuple.__lt__» ⟨[.ref l, .ref b],[]⟩)
  (λA R s=>s.heap.get? l=some {cls:= .type "tuple",dict:=dd,data:= .seq items n,slots:=sl}/\s.heap.get? b=some {cls:= .type "tuple",dict:=n6,data:= .seq dX n2,slots:=n7}/\
   tI A.in1 s (decide (items.size<dX.size)) r (items.toList.zip dX.toList)/\
   R (.ok (.ret (.bool r))) s):=
 .of_wp λprog w A R s h=>by
  obtain⟨hp,g,d,tk,os⟩:=s;refine fU h λhl V he h=>?_
  have f2:=Zo
  wp_walk using hV hl,hV V,aaD _ (λrest b s'=>b.1=none/\s'=⟨hp,g,d,tk,os⟩/\tI A.in1 ⟨hp,g,d,tk,os⟩ (decide (items.size<dX.size)) r rest) _
  case turn=>
   intro aoa rest b s' W0;obtain⟨y,x⟩:=aoa;refine J0 W0 λfF Ks e heq oS=>?_;clear W0;subst Ks
   refine am (heq prog w _ _ ?_)
   clear heq;cases e with
   |true=>
    rw[if_pos rfl] at oS
    wp_walk
    exact bO rfl rfl oS
   |false=>
    rw[if_neg (by decide)] at oS
    unfold rP at oS
    generalize richCompare .Lt y x=t at oS⊢
    wp_walk
    refine oS prog w _ _ ?_
    wp_walk
    exact ai _ rfl h
  case fin=>
   intro FU s' W1;obtain⟨b1,b2⟩:=FU;refine cj W1 λfF Kt hR=>?_;clear W1;subst Kt
   simp only at fF
   subst fF
   wp_walk
   have hR':=hR
   rw[hR'] at h
   exact ai _ rfl h
  case h=>
   exact bO rfl rfl he
theorem adM(l b:az)(items dX:Array ao)(n n2:Nat)(dd n6:Option az)(sl n7:Array (Option ao))(r:Bool)(k:Nat):
 ∀i:Nat,min items.size dX.size - i=k->rJ (hY.«list.__eq__.loop» ⟨[.ref l, .ref b,rawInt i,rawInt 0],[]⟩)
  (λA R s=>s.heap.get? l=some {cls:= .type "list",dict:=dd,data:= .seq items n,slots:=sl}/\s.heap.get? b=some {cls:= .type "list",dict:=n6,data:= .seq dX n2,slots:=n7}/\
   tI A.in1 s (decide (items.size<dX.size)) r ((items.toList.zip dX.toList).drop i)/\
   R (.ok (.ret (.bool r))) s):=by
 have hZ:(items.toList.zip dX.toList).length=min items.size dX.size:=by simp
 induction k with
 |zero=>
  intro i hk prog w A R s h
  obtain⟨hp,g,d,tk,os⟩:=s;refine fU h λhl V he h=>?_
  rw[List.drop_of_length_le (by (exact bM [(B,k0),(v1,v2),(v2,J B v3)] (v1,v3) rfl (aA hk) (aA hZ) (bj _ _)))] at he
  have uf:=he
  wp_walk using hV hl,hV V
  refine a9 (pO i items.size) (λH=>?_) (λH=>?_)
  .have kg:items[((i:Nat):Int).toNat]? =some items[i]:=by simp[H]
   have hH:=ux (kw λq=>sT.mpr (Nat.le_of_sub_eq_zero hk) (Nat.lt_min.mpr ⟨H,q⟩))
   refine Y kg<|Y hH ?_
   wp_walk using hV hl,hV V
   rw[uf] at h
   exact h
  .have kg:items[((i:Nat):Int).toNat]? =none:=by simp;exact H
   refine Y kg ?_
   wp_walk using hV hl,hV V
   rw[uf] at h
   exact h
 |succ k ih=>
  intro i hk prog w A R s h
  obtain⟨hp,g,d,tk,os⟩:=s;refine fU h λhl V he h=>?_
  wp_walk using hV hl,hV V
  have a5:i<items.size:=by exact(eN _ _).elim (λM8=>eH [(J B k1,v1),(J v1 v2,v3),(v3,v4)] (J v2 k1,v4) rfl (aA hk.symm) (aU M8) (nA _ _)) λM8=>kw λCs=>nz (B2 (aA hk.symm) (wj M8))
  have aob:i<dX.size:=by exact(eN _ _).elim (λgu=>eH [(J B k1,v1),(J v1 v2,v3),(v3,v4)] (J v2 k1,v4) rfl (aA hk.symm) (aU gu) (Nat.min_le_right _ _)) λgu=>kw λCs=>nz (B2 (aA hk.symm) (wj gu))
  have kg:items[((i:Nat):Int).toNat]? =some items[i]:=by simp[a5]
  have hH:dX[((i:Nat):Int).toNat]? =some dX[i]:=by simp[aob]
  have hd:(items.toList.zip dX.toList).drop i=(items[i],dX[i])::(items.toList.zip dX.toList).drop (i+1):=by
   rw[C8 (by (exact(eN _ _).elim (λeh=>eH [(J B k1,v1),(v2,v3),(J v1 v4,v2)] (J v4 k1,v3) rfl (aA hk.symm) (aA hZ.symm) (aU eh)) λeh=>kw λCs=>nz (B2 (aA hk.symm) (wj eh))))];simp
  have hc:((i:Int)+1)=((i+1:Nat):Int):=by push_cast;rfl
  rw[hd] at he
  refine ar he λe heq oS=>Y kg<|Y hH<|am (heq prog w _ _ ?_)
  clear heq;cases e with
  |true=>
   rw[if_pos rfl] at oS
   wp_walk
   exact Y hc<|⟨nB plain_eq_loop _,lV entry_eq_loop (by
    exact Y (mF plain_eq_loop _)<|ih (i+1) (bR ((eN _ _).elim (λeh=>FH (aA hk) (bj _ _) (aU (yk (aA hk.symm) (aU eh)))) λeh=>bM [(B,v1),(J v2 (J v1 k1),B)] (v2,v3) rfl eh (aU (kw λCs=>nz (B2 (aA hk.symm) (wj eh))))) ((eN _ _).elim (λeh=>eH [(J B k1,v1),(J v1 v2,v3),(v3,J v4 (J v2 k1))] (B,v4) rfl (aA hk.symm) (aU eh) (bj _ _)) λeh=>aO [(J B k1,v1),(v1,k0)] (B,v2) rfl (aA hk.symm) (wj eh))) prog w A R _ (fb hl V oS h))⟩
  |false=>
   rw[if_neg (by decide)] at oS
   wp_walk using hV hl,hV V
   refine Y kg<|Y hH<|am (oS prog w _ _ ?_)
   wp_walk
   exact h
theorem adN(l b:az)(items dX:Array ao)(n n2:Nat)(dd n6:Option az)(sl n7:Array (Option ao))(r:Bool):
 rJ (hY.«list.__lt__» ⟨[.ref l, .ref b],[]⟩)
  (λA R s=>s.heap.get? l=some {cls:= .type "list",dict:=dd,data:= .seq items n,slots:=sl}/\s.heap.get? b=some {cls:= .type "list",dict:=n6,data:= .seq dX n2,slots:=n7}/\
   tI A.in1 s (decide (items.size<dX.size)) r (items.toList.zip dX.toList)/\
   R (.ok (.ret (.bool r))) s):=by
 intro prog w A R s h
 obtain⟨hp,g,d,tk,os⟩:=s;refine fU h λhl V he h=>?_
 have f3:=ZA
 wp_walk using hV hl,hV V
 exact⟨nB plain_eq_loop _,lV entry_eq_loop (by
  exact Y (mF plain_eq_loop _)<|adM l b items dX n n2 dd n6 sl n7 r _ 0 rfl prog w A R _ (fb hl V he h))⟩
section
variable{A:bV}{s:aJ}
theorem rP.tuples(hl:s.heap.IsTuple l items)(V:s.heap.IsTuple b dX)(hu:A.units<cLine)
 (he:tI A.in1 s (decide (items.size<dX.size)) r (items.toList.zip dX.toList)):rP A s (.ref l) (.ref b) r:=λprog w E Q h=>by
 refine mX (id hl) λakj ho hc n hd=>?_;obtain⟨cls,dd,data,sl⟩:=akj
 refine mX (id V) λAY fy kf n2 hd2=>?_;obtain⟨Mu,n6,data2,n7⟩:=AY
 simp only at hc hd kf hd2
 subst hc hd kf hd2
 exact ZB (op:= .Lt) (ai _ ho rfl) (ai _ fy rfl) PySem.F.slot_tuple_lt PySem.F.entry_tuple_lt (PySem.F.args_tuple_lt_2 _ _) (acI l b items dX n n2 dd n6 sl n7 r)
  (fb ho fy he (show adz r≠Om/\Q (.bool r) s from⟨(λx=>nomatch x),h⟩)) hu
theorem rP.lists(hl:s.heap.IsList l items)(V:s.heap.IsList b dX)(hu:A.units<cLine)
 (he:tI A.in1 s (decide (items.size<dX.size)) r (items.toList.zip dX.toList)):rP A s (.ref l) (.ref b) r:=λprog w E Q h=>by
 refine mX (id hl) λvk ho hc n hd=>?_;obtain⟨cls,dd,data,sl⟩:=vk
 refine mX (id V) λAZ fy kf n2 hd2=>?_;obtain⟨Mu,n6,data2,n7⟩:=AZ
 simp only at hc hd kf hd2
 subst hc hd kf hd2
 exact ZB (op:= .Lt) (ai _ ho rfl) (ai _ fy rfl) PySem.F.slot_list_lt PySem.F.entry_list_lt (PySem.F.args_list_lt_2 _ _) (adN l b items dX n n2 dd n6 sl n7 r)
  (fb ho fy he (show adz r≠Om/\Q (.bool r) s from⟨(λx=>nomatch x),h⟩)) hu
end
mutual
theorem Qc:∀(da db:ah) (r:Bool),fO da db=some r->∀(A:bV) (s:aJ) (a b:ao) (as bs:List az),jj s.heap a da as->jj s.heap b db bs->da.canLay0=true->db.canLay0=true->
 A.units+da.depth<cLine->rP A s a b r
 | .int x=>λdb r h A s zz zz zz zz ra rb zz zz zz=>by
   refine ar (I5 h) λy akk AV=>?_;subst akk AV
   exact Fl ra λzz=>Fl rb λzz=>λprog w E Q hq=>wpAny_lt_int hq
 | .str x=>λdb r h A s zz zz zz zz ra rb zz zz zz=>by
   refine ar (Er h) λy A0 A1=>?_;subst A0 A1
   exact x7 ra λzz=>x7 rb λzz=>λprog w E Q hq=>arY hq
 | .tuple xs=>λdb r h A s zz zz zz zz ra rb ha V hu=>by
   refine ar (TF h) λys akl h=>?_;subst akl
   refine Fn ra λl o vs n vm H O h3 h4=>Fn rb λl' o' k6 n' vn k1 k2 k3 k4=>?_
   simp only[gV] at hu
   refine rP.tuples (iY _ H O _ h3) (iY _ k1 k2 _ k3) (wK (kx _ _) hu) ?_
   have:=Hm xs ys r h A.in1 s vs.toList k6.toList _ _ h4 k4 ha V (GV A.units _ 1▸hu)
   simpa using this
 | .list xs=>λdb r h A s zz zz zz zz ra rb ha V hu=>by
   refine ar (TH h) λys Kf h=>?_;subst Kf
   refine VF ra λl o vs n vm H O h3 h4=>VF rb λl' o' k6 n' vn k1 k2 k3 k4=>?_
   simp only[gV] at hu
   refine rP.lists (iY _ H O _ h3) (iY _ k1 k2 _ k3) (wK (kx _ _) hu) ?_
   have:=Hm xs ys r h A.in1 s vs.toList k6.toList _ _ h4 k4 ha V (GV A.units _ 1▸hu)
   simpa using this
 | .none=>λzz zz h=>nomatch h
 | .bool _=>λzz zz h=>nomatch h
 | .dict _=>λzz zz h=>nomatch h
theorem Hm:∀(xs ys:List ah) (r:Bool),gP xs ys=some r->∀(A:bV) (s:aJ) (vs ws:List ao) (as bs:List az),lu s.heap vs xs as->lu s.heap ws ys bs->
 eA xs=true->eA ys=true->A.units+eM xs<cLine->tI A s (decide (vs.length<ws.length)) r (vs.zip ws)
 |[],[],r,h,A,s,_,_,_,_,ra,rb,_,_,_=>by
  refine ri ra<|ri rb ?_
  simp only[gP,dj] at h
  show r=_
  simp[<- h]
 |[],_::_,r,h,A,s,_,_,_,_,ra,rb,_,_,_=>by
  refine ri ra<|oF rb λzz zz zz zz zz zz=>?_
  simp only[gP,dj] at h
  show r=_
  simp[<- h]
 |_::_,[],r,h,A,s,_,_,_,_,ra,rb,_,_,_=>by
  refine oF ra λzz zz zz zz zz zz=>ri rb ?_
  simp only[gP,dj] at h
  show r=_
  simp[<- h]
 |x::xs,y::ys,r,h,A,s,_,_,_,_,ra,rb,ha,V,hu=>by
  have lK:x.canLay0=true/\eA xs=true:=by simpa [eA] using ha
  have fF:y.canLay0=true/\eA ys=true:=by simpa [eA] using V
  simp only[eM] at hu
  have r9:=mI x.depth (eM xs)
  have sd:=oo x.depth (eM xs)
  refine oF ra λv vs vm VN r1 rs=>oF rb λv' k6 vn VO qJ Ct=>?_
  rw[Ed] at h
  have hm:=nA x.depth y.depth
  refine ai (cA x y) (eqAt_reads x y A s v v' vm vn r1 qJ lK.1 fF.1 (Mk hm r9 hu)) ?_
  split at h
  .rename_i hq
   refine Y (if_pos hq) ?_
   have q:=Hm xs ys r h A s vs k6 _ _ rs Ct lK.2 fF.2 (ym sd hu)
   have e:decide ((v::vs).length<(v'::k6).length)=decide (vs.length<k6.length):=by simp
   exact Y e<|q
  .rename_i hq
   exact Y (if_neg hq)<|Qc x y r h A s v v' _ _ r1 qJ lK.1 fF.1 (ym r9 hu)
end
end bh
namespace bh
open PySem PySem.W PyProof.Rows PySem.Calls
def jh{α:Type}(n:Nat)(ask:Nat->Nat->Bool):KasT α->(α->Prop)->Prop
 | .ret a,P=>P a
 | .ask i j k,P=>i<n/\j<n/\jh n ask (k (ask i j)) P
theorem zG{ask:Nat->Nat->Bool}{k:Bool->KasT α}{P:α->Prop}(hi:i<n)(hj:j<n)(H:ask i j=true->jh n ask (k true) P)(O:ask i j=false->jh n ask (k false) P):
 jh n ask (.ask i j k) P:=bO hi hj (by cases q:ask i j with|true=>exact H q|false=>exact O q)
theorem xg{ask:Nat->Nat->Bool}{f:α->KasT β}{P:β->Prop}:∀(t:KasT α),jh n ask t (λa=>jh n ask (f a) P)->jh n ask (t.bind f) P
 | .ret _,h=>h
 | .ask i j k,⟨H,O,h3⟩=>(bO H O (xg _ h3))
theorem pS{ask:Nat->Nat->Bool}{P P':α->Prop}(hp:∀a,P a->P' a):∀(t:KasT α),jh n ask t P->jh n ask t P'
 | .ret _,h=>hp _ h
 | .ask i j k,⟨H,O,h3⟩=>(bO H O (pS hp _ h3))
theorem R'{ask:Nat->Nat->Bool}{P:α->Prop}{Q:α->aJ->Prop}
 (hc:∀i j C,i<n->j<n->C (ask i j) s->cmp i j C s) (hq:∀a,P a->Q a s):∀(t:KasT α),jh n ask t P->t.kasWp cmp Q s
 | .ret _,h=>hq _ h
 | .ask i j k,⟨H,O,h3⟩=>hc i j _ H O (R' hc hq _ h3)
section
variable{n:Nat}{ask:Nat->Nat->Bool}
def jn(ask:Nat->Nat->Bool)(i j:Nat):Prop:=ask j i=false
structure o7(n:Nat)(ask:Nat->Nat->Bool):Prop where
 FV:∀i j,i<n->j<n->ask i j=true->ask j i=false
 tr:∀i j k,i<n->j<n->k<n->jn ask i j->jn ask j k->jn ask i k
 rf:∀i,i<n->jn ask i i
noncomputable def at'(p:Array Nat)(i:Nat):Nat:=p.getD i 0
structure fT(n:Nat)(p:Array Nat):Prop where
 perm:p.Perm (lr n).toArray
theorem fT.size(h:fT n p):p.size=n:=by have:=h.perm.size_eq;simpa using this
theorem fT.lt(h:fT n p)(hi:i<n):at' p i<n:=by
 have hs:i<p.size:=by exact Y h.size<|hi
 have e:at' p i=p[i]:=by simp[at',adA,hs]
 refine Y e ?_
 have:=(N2.mp h.perm).mem_iff (a:=p[i])
 simp at this
 exact this
theorem Ah(h:p[i]? =q[j]?):at' p i=at' q j:=by
 simp only[at',C7,h]
def ls(ask:Nat->Nat->Bool)(p:Array Nat)(m:Nat):Prop:=∀i j,i<=j->j<m->jn ask (at' p i) (at' p j)
def NonInc(ask:Nat->Nat->Bool)(p:Array Nat)(m:Nat):Prop:=∀i j,i<=j->j<m->jn ask (at' p j) (at' p i)
def Ai(ask:Nat->Nat->Bool)(p:Array Nat)(a m:Nat):Prop:=∀i j,a<=i->i<m->a<=j->j<m->jn ask (at' p i) (at' p j)
theorem ls.snoc(as5:o7 n ask)(hp:fT n p)(hm:m<n)(h:ls ask p m)(hl:m=0\/jn ask (at' p (m - 1)) (at' p m)):ls ask p (m+1):=by
 intro i j dh hj
 refine a9 (pO j m) (λH=>?_) (λH=>?_)
 .exact h i j dh H
 .have:j=m:=by exact bR (n4 hj) H
  subst this
  refine a9 (pO i j) (λO=>?_) (λO=>?_)
  .refine a9 hl (λhl=>?_) (λhl=>?_)
   .exact(nz (aM [(B,k0),(J v1 k1,B)] (k1,k0) rfl (aA hl) O)).elim
   .exact as5.tr _ _ _ (hp.lt (vR O hm)) (hp.lt (vS hm (aU (iL O)))) (hp.lt hm) (h i (j - 1) (ub O (bj _ _)) (aU (iL O))) hl
  .have:i=j:=by exact bR dh O
   clear h hl hj H;subst this
   exact as5.rf _ (hp.lt hm)
theorem NonInc.snoc(as5:o7 n ask)(hp:fT n p)(hm:m<n)(h:NonInc ask p m)(hl:m=0\/jn ask (at' p m) (at' p (m - 1))):NonInc ask p (m+1):=by
 intro i j dh hj
 refine a9 (pO j m) (λH=>?_) (λH=>?_)
 .exact h i j dh H
 .have:j=m:=by exact bR (n4 hj) H
  subst this
  refine a9 (pO i j) (λO=>?_) (λO=>?_)
  .refine a9 hl (λhl=>?_) (λhl=>?_)
   .exact(nz (aM [(B,k0),(J v1 k1,B)] (k1,k0) rfl (aA hl) O)).elim
   .exact as5.tr _ _ _ (hp.lt hm) (hp.lt (vS hm (aU (iL O)))) (hp.lt (vR O hm)) hl (h i (j - 1) (ub O (bj _ _)) (aU (iL O)))
  .have:i=j:=by exact bR dh O
   clear h hl hj H;subst this
   exact as5.rf _ (hp.lt hm)
theorem fT.rev(h:fT n p)(i j:Nat):fT n (Jy p i j):=⟨(mirror_perm _ _ _ _).trans h.perm⟩
theorem fT.bub(h:fT n p)(i j:Nat):fT n (bubble p i j):=⟨(bubble_perm _ _ _).trans h.perm⟩
theorem tz(V:b<=p.size)(k:Nat):at' (Jy p a b) k=if a<=k/\k<b then at' p (a+b - 1 - k) else at' p k:=by
 split
 .rename_i h
  refine Ah ?_
  show(mirror p a b ((b - a) / 2))[k]? =_
  exact Y ((Z4 V) _)<|Y (if_pos h) rfl
 .rename_i h
  refine Ah ?_
  show(mirror p a b ((b - a) / 2))[k]? =_
  exact Y ((Z4 V) _)<|Y (if_neg h) rfl
theorem NonInc.It(V:b<=p.size)(h:NonInc ask p b)(e:Ai ask p a b):NonInc ask (Jy p a b) b:=by
 intro i j dh hj
 refine Y ((tz V) _)<|Y ((tz V) _) ?_
 by_cases hi:a<=i
 .rw[if_pos ⟨by (exact FF hi dh),hj⟩,if_pos ⟨hi,by (exact FI hj dh)⟩]
  exact e _ _ (eH [(J B k1,v1),(J v2 v1,J v3 k1),(v3,J v4 B)] (v2,v4) rfl hj (bj _ _) (bj _ _)) (pg [(B,v1),(v1,v2),(J v3 k1,J B v4),(J v5 v2,v3)] (J v5 k1,v4) rfl hi dh (aU (FJ hj)) (aU (bM [(J B k1,v1),(J v2 v1,J v3 k1)] (B,v3) rfl hj (bj _ _)))) (pg [(J B k1,v1),(v2,B),(J v3 v1,J v4 k1),(v4,J v5 v2)] (v3,v5) rfl hj dh (bj _ _) (bj _ _)) (eH [(B,v1),(J v2 k1,J B v3),(J v4 v1,v2)] (J v4 k1,v3) rfl hi (aU (FJ hj)) (aU (eH [(J B k1,v1),(v2,B),(J v3 v1,J v4 k1)] (v2,v4) rfl hj dh (bj _ _))))
 .by_cases jM:a<=j
  .rw[if_pos ⟨jM,hj⟩,if_neg (λhh=>nz (FK (uB hi) hh.1))]
   exact h _ _ (pg [(J B k1,v1),(J v2 k1,v3),(J v1 v3,J v4 k1),(v4,J v5 v2)] (B,v5) rfl (uB hi) hj (bj _ _) (bj _ _)) (eH [(B,v1),(J v2 k1,J B v3),(J v4 v1,v2)] (J v4 k1,v3) rfl jM (aU (FJ hj)) (aU (eH [(J B k1,v1),(J v2 k1,v3),(J v1 v3,J v4 k1)] (v2,v4) rfl (uB hi) hj (bj _ _))))
  .rw[if_neg (λhh=>nz (FK (uB jM) hh.1)),if_neg (λhh=>nz (FK (uB hi) hh.1))]
   exact h _ _ dh hj
theorem NonInc.revAll(V:b<=p.size)(h:NonInc ask p b):ls ask (Jy p 0 b) b:=by
 intro i j dh hj
 rw[tz V,tz V,if_pos ⟨by (exact lJ),by (exact FI hj dh)⟩,if_pos ⟨by (exact lJ),by (exact hj)⟩]
 exact h _ _ (eH [(B,v1),(v2,J v3 B),(J v4 v1,v2)] (v4,v3) rfl dh (bj _ _) (aU (aO [(J B k1,v1),(J k0 v1,J v2 k1)] (B,v2) rfl hj (bj _ _)))) (aO [(B,v1),(J v1 k1,J k0 v2)] (J B k1,v2) rfl (qY _ _) (aU (aM [(J B k1,v1)] (k1,J k0 v1) rfl hj)))
theorem Iu(as5:o7 n ask)(hp:fT n p):∀(f m:Nat),1<=m->m+f<=n->ls ask p m->
 jh n ask (kas_asc p f m) (λr=>m<=r/\r<=m+f/\ls ask p r/\(r<m+f->ask (at' p r) (at' p (r - 1))=true))
 |0,m,_,_,h=>(fb (a8 _) (a8 _) h (λh=>absurd h (pN _)))
 |f+1,m,H,O,h=>by
  refine zG (hp.lt (kX O)) (hp.lt (vT O (aU H))) (λq=>?_) λq=>?_
  .skip
   exact fb (a8 _) (aM [] (B,J B (J v1 k1)) rfl) h (λzz=>q)
  .skip
   refine pS ?_ _ (Iu as5 hp f (m+1) uc (B3 O) (h.snoc as5 hp (kX O) (.inr q)))
   intro r akm;exact fU akm λa b c d=>fb (qH a) (aO [(B,J (J v1 k1) v2)] (B,J v1 (J v2 k1)) rfl b) c (λhr=>d (aO [(J B k1,J v1 (J v2 k1))] (J B k1,J (J v1 k1) v2) rfl hr))
theorem DX(as5:o7 n ask):∀(f:Nat) (p:Array Nat) (m q:Nat),fT n p->1<=m->q+1<=m->m+f<=n->NonInc ask p m->Ai ask p (m - (q+1)) m->
 jh n ask (kas_desc f p m q) (λr=>fT n r.1/\m<=r.2.1/\r.2.1<=n/\r.2.2+1<=r.2.1/\NonInc ask r.1 r.2.1/\Ai ask r.1 (r.2.1 - (r.2.2+1)) r.2.1)
 |0,p,m,q,hp,H,hq,O,h,e=>(Au hp (a8 _) O hq h e)
 |f+1,p,m,q,hp,H,hq,O,h,e=>by
  refine zG (hp.lt (kX O)) (hp.lt (vT O (aU (iL hq)))) (λc=>?_) λc=>?_
  .skip
   have one:∀p':Array Nat,fT n p'->Ai ask p' (m+1 - (0+1)) (m+1):=by
    intro p' iO i j a b c d
    have e1:i=m:=by exact bR (n4 b) (FL a (bj _ _))
    have e2:j=m:=by exact bR (n4 d) (FL c (bj _ _))
    subst e1 e2
    exact as5.rf _ (iO.lt (kX O))
   have X7:=as5.FV _ _ (hp.lt (kX O)) (hp.lt (vT O (aU (iL hq)))) c
   by_cases mx:q>0
   .rw[if_pos mx]
    have V:m<=p.size:=by exact Y hp.size<|BY O
    have iO:=hp.rev (m - (q+1)) m
    refine pS ?_ _ (DX as5 f _ (m+1) 0 iO uc Ml (B3 O) ?_ (one _ iO))
    .intro r akn;exact cj akn λa b c=>bO a (qH b) c
    .refine(h.It V e).snoc as5 iO (kX O) (.inr ?_)
     rw[tz V,tz V,if_neg (λhh=>nz (be [(J B k1,B)] (k1,k0) rfl hh.2)),if_pos ⟨by (exact bM [(J k0 k1,B),(v1,J v2 k1),(J v3 (J B k1),v1)] (v3,v2) rfl mx (bj _ _) (aU hq)),by (exact aU (yn mx hq))⟩]
     refine as5.tr _ _ _ (hp.lt (kX O)) (hp.lt (vT O (aU (yn mx hq)))) (hp.lt (lg [_,_,_,_,_,_,_,_] [(J k0 k1,B),(J v1 (J v2 k1),v3),(v1,J v4 k1),(J v5 (J B k1),v1),(J v6 k1,J v5 v1),(J v7 v4,v6)] (J v7 k1,v3) rfl mx O (bj _ _) (aU hq) (aU (aO [(J k0 k1,B),(J B k1,v1)] (k1,J v2 v1) rfl mx hq)) (aU (bM [(J B v1,J v2 k1),(J v3 k1,v1)] (v3,v2) rfl (bj _ _) (aU (yn mx hq)))))) X7 (e _ _ (bM [(J k0 k1,B),(v1,J v2 k1),(J v3 (J B k1),v1)] (v3,v2) rfl mx (bj _ _) (aU hq)) (aU (yn mx hq)) (eH [(J B v1,J v2 k1),(v2,J v3 v4),(J v4 k1,v1)] (B,v3) rfl (bj _ _) (bj _ _) (aU (yn mx hq))) (pg [(J k0 k1,B),(v1,J v2 k1),(J v3 (J B k1),v1),(J v4 k1,J v3 v1),(J v5 v2,v4)] (J v5 k1,v1) rfl mx (bj _ _) (aU hq) (aU (aO [(J k0 k1,B),(J B k1,v1)] (k1,J v2 v1) rfl mx hq)) (aU (bM [(J B v1,J v2 k1),(J v3 k1,v1)] (v3,v2) rfl (bj _ _) (aU (yn mx hq))))))
   .rw[if_neg mx]
    refine pS ?_ _ (DX as5 f _ (m+1) 0 hp uc Ml (B3 O) (h.snoc as5 hp (kX O) (.inr X7)) (one _ hp))
    intro r aoc;exact cj aoc λa b c=>bO a (qH b) c
  .skip
   refine zG (hp.lt (vT O (aU (iL hq)))) (hp.lt (kX O)) (λc2=>?_) λc2=>?_
   .simp only[if_true];exact Au hp (a8 _) (by show m<=n;exact BY O) hq h e
   .skip
    refine pS ?_ _ (DX as5 f _ (m+1) (q+1) hp uc (aM [(J B k1,v1)] (J (J B k1) k1,J v1 k1) rfl hq) (B3 O) (h.snoc as5 hp (kX O) (.inr c2)) ?_)
    .intro r aod;exact cj aod λa b c=>bO a (qH b) c
    .have lo:∀i,m - (q+1)<=i->i<m+1->jn ask (at' p i) (at' p m)/\jn ask (at' p m) (at' p i):=by
      intro i kg hH
      refine a9 (pO i m) (λhi=>?_) (λhi=>?_)
      .exact⟨as5.tr _ _ _ (hp.lt (bM [(J B k1,v1),(J v1 (J v2 k1),v3)] (J B k1,v3) rfl hi O)) (hp.lt (vT O (aU (iL hi)))) (hp.lt (kX O)) (e i (m - 1) kg hi (bM [(J B k1,v1),(v2,B),(v1,J v3 k1)] (v2,v3) rfl hi kg (bj _ _)) (aU (iL hi))) c,
        as5.tr _ _ _ (hp.lt (kX O)) (hp.lt (vT O (aU (iL hi)))) (hp.lt (bM [(J B k1,v1),(J v1 (J v2 k1),v3)] (J B k1,v3) rfl hi O)) c2 (e (m - 1) i (bM [(J B k1,v1),(v2,B),(v1,J v3 k1)] (v2,v3) rfl hi kg (bj _ _)) (aU (iL hi)) kg hi)⟩
      .have:i=m:=by exact bR (n4 hH) hi
       subst this
       exact⟨as5.rf _ (hp.lt (kX O)),as5.rf _ (hp.lt (kX O))⟩
     intro i j kg hH hj1 ug
     exact as5.tr _ _ _ (hp.lt (bM [(J B k1,J v1 k1),(J v1 (J v2 k1),v3)] (J B k1,v3) rfl hH O)) (hp.lt (kX O)) (hp.lt (bM [(J B k1,J v1 k1),(J v1 (J v2 k1),v3)] (J B k1,v3) rfl ug O)) (lo i (eH [(B,v1),(J v2 k1,J B (J (J v3 k1) k1)),(J v4 (J v3 k1),v2)] (v4,v1) rfl kg (bj _ _) (aU hq)) hH).1 (lo j (eH [(B,v1),(J v2 k1,J B (J (J v3 k1) k1)),(J v4 (J v3 k1),v2)] (v4,v1) rfl hj1 (bj _ _) (aU hq)) ug).2
theorem Qd(as5:o7 n ask)(hp:fT n p)(H:1<=m)(hm:m<=n)(h:NonInc ask p m):
 jh n ask (kas_tail3 m n p) (λr=>fT n r.2/\1<=r.1/\r.1<=n/\ls ask r.2 r.1):=by
 have V:m<=p.size:=by exact Y hp.size<|hm
 refine xg _ (pS ?_ _ (Iu as5 (hp.rev 0 m) (n - m) m H (aO [(J B v1,v2)] (J v1 B,v2) rfl (aU hm)) (h.revAll V)))
 intro r ako;exact fU ako λa b c zz=>fb (hp.rev 0 m) (by show 1<=r;exact aM [(B,v1),(k1,B)] (k1,v1) rfl a H) (by show r<=n;exact bM [(B,J v1 v2),(J v2 v1,v3)] (B,v3) rfl b (aU hm)) c
theorem O'(as5:o7 n ask)(hp:fT n p)(H:1<=m)(hm:m<n)(h:NonInc ask p (m+1)):
 jh n ask (kas_descPart m n p) (λr=>fT n r.2/\1<=r.1/\r.1<=n/\ls ask r.2 r.1):=by
 refine xg _ (pS ?_ _ (DX as5 (n - (m+1)) p (m+1) 0 hp uc Ml (aO [(J B (J v1 k1),v2)] (J (J v1 k1) B,v2) rfl (aU hm)) h ?_))
 .intro akp akq;obtain⟨p',k,q⟩:=akp;refine ES akq λa b c d e f=>?_
  split
  .exact Qd as5 (a.rev _ _) (aM [(J B k1,v1),(k1,B)] (k1,v1) rfl b H) c (e.It (Y a.size<|c) f)
  .exact Qd as5 a (aM [(J B k1,v1),(k1,B)] (k1,v1) rfl b H) c e
 .intro i j a b c d
  have e1:i=m:=by exact bR (n4 b) (FL a (bj _ _))
  have e2:j=m:=by exact bR (n4 d) (FL c (bj _ _))
  clear H h;subst e1;clear a b c d;subst e2
  exact as5.rf _ (hp.lt hm)
theorem acJ(as5:o7 n ask)(hp:fT n p)(H:1<=n):
 jh n ask (kas_count n p) (λr=>fT n r.2/\1<=r.1/\r.1<=n/\ls ask r.2 r.1):=by
 have s1:ls ask p 1:=by
  intro i j a b
  have e1:i=0:=by exact bR (aM [(J B k1,k1),(v1,B)] (v1,k0) rfl b a) lJ
  have e2:j=0:=by exact bR (be [(J B k1,k1)] (B,k0) rfl b) (be [] (k0,B) rfl)
  subst e1;clear a;subst e2
  exact as5.rf _ (hp.lt (be [(k1,B)] (J k0 k1,B) rfl H))
 refine xg _ (pS ?_ _ (Iu as5 hp (n - 1) 1 (a8 _) (aM [(J B k1,v1)] (J k1 B,v1) rfl (aU H)) s1))
 intro m akr;refine fU akr λa b c d=>?_
 by_cases he:(m==n)=true
 .exact Y (if_pos he)<|fb hp a (by show m<=n;exact aO [(B,J k1 v1),(J v1 k1,v2)] (B,v2) rfl b (aU H)) c
 .refine Y (if_neg he) ?_
  have iP:m<n:=by
   have:m≠n:=by simpa using he
   exact Dl (aB b (aA (aao H))) this
  have hd:=d (aO [(J B k1,v1),(v1,J v2 k1)] (J B k1,J k1 v2) rfl iP (bj _ _))
  have X8:jn ask (at' p m) (at' p (m - 1)):=as5.FV _ _ (hp.lt iP) (hp.lt (vS iP (aU a))) hd
  clear b;split
  .rename_i jN
   refine zG (hp.lt (aM [(J k1 k1,B),(J B k1,v1)] (J k0 k1,v1) rfl jN iP)) (hp.lt (vS iP (aU (ud jN)))) (λq=>?_) λq=>?_
   .simp only[if_true];exact fb hp a (by show m<=n;exact qH iP) c
   .skip
    have V:m<=p.size:=by exact Y hp.size<|qH iP
    have eq:Ai ask p 0 m:=by
     intro i j _ hi _ hj
     exact as5.tr _ (at' p (m - 1)) _ (hp.lt (vR hi iP)) (hp.lt (vS iP (aU (ud jN)))) (hp.lt (vR hj iP)) (c _ _ (ub hi (bj _ _)) (aU (ud jN)))<|as5.tr _ (at' p 0) _ (hp.lt (vS iP (aU (ud jN)))) (hp.lt (aM [(J k1 k1,B),(J B k1,v1)] (J k0 k1,v1) rfl jN iP)) (hp.lt (vR hj iP)) q (c _ _ lJ hj)
    have iO:=hp.rev 0 m
    refine O' as5 iO a iP ?_
    have ni:NonInc ask p m:=λi j dh hj=>eq _ _ lJ hj lJ (FI hj dh)
    refine(ni.It V eq).snoc as5 iO iP (.inr ?_)
    rw[tz V,tz V,if_neg (λhh=>nz (be [(J B k1,B)] (k1,k0) rfl hh.2)),if_pos ⟨by (exact lJ),by (exact aU (ud jN))⟩]
    exact as5.tr _ _ _ (hp.lt iP) (hp.lt (vS iP (aU (ud jN)))) (hp.lt (bM [(J B k1,v1),(v2,v3),(J v3 k1,J k0 B)] (J v2 k1,v1) rfl iP (qY _ _) (aU (be [(J k1 k1,B)] (k1,J k0 B) rfl jN)))) X8 (eq _ _ lJ (aU (ud jN)) lJ (bM [(J k1 k1,B),(B,J v1 k1),(J v2 k1,J k0 B),(J v3 v1,v2)] (J v3 k1,B) rfl jN (bj _ _) (aU (be [(J k1 k1,B)] (k1,J k0 B) rfl jN)) (aU (aO [(J k0 B,J v1 k1),(J v2 k1,B)] (v2,v1) rfl (bj _ _) (aU (ud jN))))))
  .have jN:m=1:=by (rename_i aY;exact bR ((kw aY)) a)
   clear c;subst jN
   refine O' as5 hp a iP ?_
   have ni:NonInc ask p 1:=λi j dh hj=>by
    have e1:i=0:=by exact bR (aM [(J B k1,k1),(v1,B)] (v1,k0) rfl hj dh) lJ
    have e2:j=0:=by exact bR (be [(J B k1,k1)] (B,k0) rfl hj) (be [] (k0,B) rfl)
    subst e1;clear dh;subst e2
    exact as5.rf _ (hp.lt (be [(J k1 k1,B)] (J k0 k1,B) rfl iP))
   exact ni.snoc as5 hp iP (.inr X8)
theorem HE(as5:o7 n ask)(hp:fT n p)(hk:k<n)(hs:ls ask p k):∀(f l r:Nat),l<=r->r<=k->r - l<=f->
 (∀i,i<l->jn ask (at' p i) (at' p k))->(∀i,r<=i->i<k->jn ask (at' p k) (at' p i))->
 jh n ask (kas_place p k f l r) (λl'=>l'<=k/\(∀i,i<l'->jn ask (at' p i) (at' p k))/\(∀i,l'<=i->i<k->jn ask (at' p k) (at' p i)))
 |0,l,r,H,O,h3,a,b=>(bO (ph O H) a (λi hi=>b i (bM [(B,v1),(v2,k0),(v3,J v2 B)] (v3,v1) rfl hi h3 (bj _ _))))
 |f+1,l,r,H,O,h3,a,b=>by
  unfold kas_place
  split
  .exact bO (ph O H) a (λi hi=>b i (by (rename_i aY;exact ph hi aY)))
  .have tU:=an0 (uB (by assumption))
   have Ku:=an1 H
   refine zG (hp.lt hk) (hp.lt (by (rename_i aY;exact bM [(J B k1,v1),(v1,v2),(J v2 k1,v3)] (J B k1,v3) rfl tU O hk))) (λc=>?_) λc=>?_
   .skip
    refine HE as5 hp hk hs f l _ Ku (by (rename_i aY;exact aO [(J B k1,v1),(v1,v2)] (B,v2) rfl tU O)) (by (rename_i aY;exact pg [(J B k1,v1),(v2,J v3 k1),(v1,J v2 v4),(J v5 v4,B)] (v5,v3) rfl tU h3 (bj _ _) (aU Ku))) a λi kg hH=>?_
    exact as5.tr _ _ _ (hp.lt hk) (hp.lt (by (rename_i aY;exact bM [(J B k1,v1),(v2,B),(J v1 k1,v3)] (J v2 k1,v3) rfl hH kg hk))) (hp.lt (by (rename_i aY;exact vR hH hk))) (as5.FV _ _ (hp.lt hk) (hp.lt (by (rename_i aY;exact bM [(J B k1,v1),(v2,B),(J v1 k1,v3)] (J v2 k1,v3) rfl hH kg hk))) c) (hs _ _ kg hH)
   .skip
    refine HE as5 hp hk hs f _ r (by (rename_i aY;exact tU)) O (by (rename_i aY;exact pg [(B,v1),(v2,J v3 k1),(v4,J v2 B),(J v5 (J v1 k1),v4)] (v5,v3) rfl Ku h3 (bj _ _) (aU tU))) (λi hi=>?_) b
    exact as5.tr _ _ _ (hp.lt (by (rename_i aY;exact eH [(J B k1,J v1 k1),(J v1 k1,v2),(v2,v3),(J v3 k1,v4)] (J B k1,v4) rfl hi tU O hk))) (hp.lt (by (rename_i aY;exact bM [(J B k1,v1),(v1,v2),(J v2 k1,v3)] (J B k1,v3) rfl tU O hk))) (hp.lt hk) (hs i ((l+r) / 2) (by (rename_i aY;exact n4 hi)) (by (rename_i aY;exact yl tU O))) c
theorem UT(hk:k<p.size)(hl:l<=k)(i:Nat):at' (bubble p k (k - l)) i=if i=l then at' p k else if l<i/\i<=k then at' p (i - 1) else at' p i:=by
 have h:=getElem?_bubble hk (k - l) (qY _ _) i
 have e:k - (k - l)=l:=by exact bR (bM [(B,J v1 v2),(J v3 v1,B)] (v3,v2) rfl (bj _ _) (aU ((qY _ _)))) (bM [(B,J v1 v2),(J v2 v3,B)] (v3,v1) rfl (bj _ _) (aU hl))
 rw[e] at h
 split
 .rename_i hi;rw[if_pos hi] at h;exact Ah h
 .rename_i hi
  rw[if_neg hi] at h
  split
  .rename_i hj;rw[if_pos hj] at h;exact Ah h
  .rename_i hj;rw[if_neg hj] at h;exact Ah h
theorem Sa(as5:o7 n ask):∀(f:Nat) (p:Array Nat) (k:Nat),fT n p->k+f=n->ls ask p k->
 jh n ask (kas_bin f p k) (λr=>fT n r/\ls ask r n)
 |0,p,k,hp,h,hs=>⟨hp,by exact sl h<|hs⟩
 |f+1,p,k,hp,h,hs=>by
  have hk:k<n:=by exact kX (aA h)
  refine xg _ (pS ?_ _ (HE as5 hp hk hs k 0 k (dn _) (a8 _) (qY _ _) (λi hi=>absurd hi (OU _)) (λi a b=>absurd b (λhh=>nz (FK b a)))))
  intro l aoe;refine cj aoe λhl a b=>?_
  have hz:k<p.size:=by exact Y hp.size<|hk
  refine Sa as5 f _ (k+1) (hp.bub _ _) (bR (B3 (aA h)) (aO [(B,J v1 (J v2 k1))] (B,J (J v1 k1) v2) rfl (aA h.symm))) ?_
  intro i j dh hj
  refine Y ((UT hz hl) _)<|Y ((UT hz hl) _) ?_
  by_cases hi:i=l
  .refine Y (if_pos hi) ?_
   by_cases jM:j=l
   .exact Y (if_pos jM)<|as5.rf _ (hp.lt hk)
   .have lj:=Dl (hi▸dh) λe=>jM e.symm
    rw[if_neg jM,if_pos ⟨lj,by (exact n4 hj)⟩]
    exact b _ (Ol lj) (Dm (Nat.sub_lt (aam lj) Nat.one_pos) (OA hj))
  .refine Y (if_neg hi) ?_
   by_cases jM:j=l
   .rw[if_pos jM,if_neg (λhh=>nz (aO [(B,v1),(v2,B),(J v1 k1,v2)] (k1,k0) rfl (aA jM) dh hh.1))]
    exact a _ (Dl (jM▸dh) hi)
   .refine Y (if_neg jM) ?_
    by_cases hH:l<i/\i<=k
    .rw[if_pos hH,if_pos ⟨by (exact yl hH.1 dh),by (exact n4 hj)⟩]
     exact hs _ _ (bM [(B,v1),(v1,J v2 k1),(J v3 k1,B)] (v3,v2) rfl dh (bj _ _) (aU (iL hH.1))) (aO [(J B k1,J v1 k1),(J v2 k1,B)] (J v2 k1,v1) rfl hj (aU (aO [(J B k1,v1),(v1,v2)] (k1,v2) rfl hH.1 dh)))
    .refine Y (if_neg hH) ?_
     by_cases ug:l<j/\j<=k
     .exact Y (if_pos ug)<|hs _ _ (Ol (Dl dh λe=>hH (e▸ug))) (aO [(J B k1,J v1 k1),(J v2 k1,B)] (J v2 k1,v1) rfl hj (aU (iL ug.1)))
     .exact Y (if_neg ug)<|hs _ _ dh (Dm (Dl (kw λq=>ug ⟨q,OA hj⟩) jM) hl)
theorem adO(as5:o7 n ask)(H:1<=n):jh n ask (kas_sort n) (λr=>fT n r/\ls ask r n):=by
 unfold kas_sort
 refine xg _ (pS ?_ _ (acJ as5 ⟨Array.Perm.refl _⟩ H))
 intro aks VP;clear H;obtain⟨m,p⟩:=aks;refine fU VP λa b c d=>?_
 dsimp only at a b c d⊢
 clear VP;split
 .have e:max m 1=m:=by exact bR ((eN _ _).elim (λgu=>(fN gu)) λgu=>aM [(k1,B),(v1,k1)] (v1,B) rfl b (fY gu)) ((mI _ _))
  exact Y e<|Sa as5 _ p m a (by (rename_i aY;exact bR (aO [(J B v1,v2)] (J v1 B,v2) rfl (aU (qH aY))) (aO [(B,J v1 v2)] (B,J v2 v1) rfl (bj _ _)))) d
 .have:m=n:=by (rename_i aY;exact bR c ((kw aY)))
  clear as5;subst this
  exact⟨a,d⟩
end
end bh
namespace bh
open PySem PySem.W PyProof.Rows PySem.Calls PySem.SeqAt
def Mv(prog:eE)(w:dg)(A:bV)(vs:List ao)(ask:Nat->Nat->Bool)(s:aJ):Prop:=
 ∃κ,(∀(Q:SortKind->aJ->Prop) (E:VS),Q κ s->wpAny (model prog w) A (keyKind' vs.toArray) Q E s)/\
  ∀i j C,i<vs.length->j<vs.length->C (ask i j) s->kas_ask prog w A κ vs i j C s
section
variable{prog:eE}{w:dg}{A:bV}{E:VS}{s:aJ}{a:az}{vs:List ao}{n:Nat}{ask:Nat->Nat->Bool}
theorem aba(ho:s.heap.get? a=some (seqObj "list" vs.toArray n))(O:2<=vs.length)(di:vs.length< 64)
 (Cu:jh vs.length ask (kas_sort vs.length) R)
 (aof:∀h',(∀b o,b≠a->s.heap.get? b=some o->h'.get? b=some o)->Mv prog w A vs ask {s with heap:=h'})
 (h:∀p h' c,R p->(∀b o,b≠a->s.heap.get? b=some o->h'.get? b=some o)->h'.get? a=some (seqObj "list" (zt (p.toList.map λi=>vs.getD i ju)) c)->P (.done (.ret .none)) {s with heap:=h'}):
 wpAny (model prog w) A (hY.«list.sort» ⟨[.ref a],[]⟩) P E s:=by
 have s1:=ku s.heap a (f9 λzz=>(#[]:Array ao))
 refine xe (show ∃e1,(s.heap.update a (f9 λzz=>(#[]:Array ao))).get? a=some (seqObj "list" #[] e1) from⟨_,wV ho λzz=> #[]⟩) λe1 pk=>?_
 have k1:∀b o,b≠a->s.heap.get? b=some o->(((s.heap.update a (f9 λzz=>(#[]:Array ao))).push (seqObj "tuple" vs.toArray 0)).push (seqObj "list" #[] 0)).get? b=some o:=
  λb o V e=>bT _ (bT _ (s1.extBut b o V e))
 have a1:(((s.heap.update a (f9 λzz=>(#[]:Array ao))).push (seqObj "tuple" vs.toArray 0)).push (seqObj "list" #[] 0)).get? a=some (seqObj "list" #[] e1):=
  bT _ (bT _ pk)
 refine Y (list_sort_plain _)<|am (listItems_at ho rfl ?_)
 refine am (Hf ho rfl ?_ (aB (fA di) (by decide)) (dn _))
 refine am (HA pk rfl ?_)
 refine am (G' ?_ (show vs.length<=_ from aB (fA di) (by decide)))
 refine am (Pe ?_ (dn _))
 refine jU ?_
 generalize ((s.heap.update a (f9 λzz=>(#[]:Array ao))).push (seqObj "tuple" vs.toArray 0)).push (seqObj "list" #[] 0)=H at k1 a1⊢
 have wm:=sT.mpr O
 refine Y (if_neg wm)<|Y (if_neg wm)<|ar (aof H k1) λκ hk hc=>am (hk _ _ ?_)
 refine am (cn (kat_run (κ:=κ) (ks:=vs) (Q:=λcz s'=>s'={s with heap:=H}/\∃p:Array Nat,p.size=vs.length/\arrOf cz=p.map (kas_item (vs.toArray.zip vs.toArray))/\failedOf cz=none/\R p)
  (G:=λp s'=>s'={s with heap:=H}/\R p) rfl O di (λp' cz s' b1 b2 b3 b4=>(aip b4.1 p' b1 b2 b3 b4.2)) ?_) ?_ λzz zz e=>e)
 .exact R' hc (λp hp=>⟨rfl,hp⟩) _ Cu
 intro akt s' VQ;obtain⟨⟨⟩,cz⟩:=akt;refine aio VQ λrr p hp har hf hR=>?_;clear VQ;subst rr
 dsimp only
 have Mw:=kat_snds rfl har
 have bF:(zt (p.toList.map λi=>vs.getD i ju)).size=vs.length:=by exact Y aap<|Y (aw _)<|Y eV<|Y hp rfl
 refine Y Mw ?_
 have s2:=ku H a (f9 λzz=>zt (p.toList.map λi=>vs.getD i ju))
 refine xe (show ∃c2,(H.update a (f9 λzz=>zt (p.toList.map λi=>vs.getD i ju))).get? a=some (seqObj "list" (zt (p.toList.map λi=>vs.getD i ju)) c2) from⟨_,wV a1 λzz=>zt (p.toList.map λi=>vs.getD i ju)⟩) λc2 kf=>?_
 refine am (HA a1 rfl ?_)
 refine am (Hf a1 rfl ?_ (dn _) (aB (aA bF) (aB (fA di) (by decide))))
 refine Y hf ?_
 simp only[bne_self_eq_false,nw,if_false]
 exact aH (h p _ c2 hR (λb o V e=>s2.extBut b o V (k1 b o V e)) kf)
theorem aaM(ho:s.heap.get? a=some (seqObj "list" vs.toArray n))(O:vs.length<2)
 (h:∀h' c,(∀b o,b≠a->s.heap.get? b=some o->h'.get? b=some o)->h'.get? a=some (seqObj "list" vs.toArray c)->P (.done (.ret .none)) {s with heap:=h'}):
 wpAny (model prog w) A (hY.«list.sort» ⟨[.ref a],[]⟩) P E s:=by
 have s1:=ku s.heap a (f9 λzz=>(#[]:Array ao))
 refine xe (show ∃e1,(s.heap.update a (f9 λzz=>(#[]:Array ao))).get? a=some (seqObj "list" #[] e1) from⟨_,wV ho λzz=> #[]⟩) λe1 pk=>?_
 have k1:∀b o,b≠a->s.heap.get? b=some o->(((s.heap.update a (f9 λzz=>(#[]:Array ao))).push (seqObj "tuple" vs.toArray 0)).push (seqObj "list" #[] 0)).get? b=some o:=
  λb o V e=>bT _ (bT _ (s1.extBut b o V e))
 have a1:(((s.heap.update a (f9 λzz=>(#[]:Array ao))).push (seqObj "tuple" vs.toArray 0)).push (seqObj "list" #[] 0)).get? a=some (seqObj "list" #[] e1):=
  bT _ (bT _ pk)
 refine Y (list_sort_plain _)<|am (listItems_at ho rfl ?_)
 refine am (Hf ho rfl ?_ (aB (fA O) (by decide)) (dn _))
 refine am (HA pk rfl ?_)
 refine am (G' ?_ (show vs.length<=_ from aB (fA O) (by decide)))
 refine am (Pe ?_ (dn _))
 refine jU ?_
 show wpAny (model prog w) A _ P E {s with heap:=((s.heap.update a (f9 λzz=>(#[]:Array ao))).push (seqObj "tuple" vs.toArray 0)).push (seqObj "list" #[] 0)}
 generalize ((s.heap.update a (f9 λzz=>(#[]:Array ao))).push (seqObj "tuple" vs.toArray 0)).push (seqObj "list" #[] 0)=H at k1 a1⊢
 dsimp only
 have wm:vs.toArray.size<2:=by exact Y aap<|O
 refine Y (if_pos wm)<|Y (if_pos wm)<|am (aH ?_)
 refine am (aH ?_)
 have Mw:(arrOf (SortSt.mk' general' (vs.toArray.zip vs.toArray) #[] 7 none)).map (·.2)=vs.toArray:=by
  show(vs.toArray.zip vs.toArray).map (·.2)=vs.toArray
  apply Dr.mp
  simp[List.map_snd_zip]
 dsimp only
 refine Y Mw ?_
 have s2:=ku H a (f9 λzz=>vs.toArray)
 refine xe (show ∃c2,(H.update a (f9 λzz=>vs.toArray)).get? a=some (seqObj "list" vs.toArray c2) from⟨_,wV a1 λzz=>vs.toArray⟩) λc2 kf=>?_
 refine am (HA a1 rfl ?_)
 refine am (Hf a1 rfl ?_ (dn _) (aB (fA O) (by decide)))
 simp only[bne_self_eq_false,nw,if_false]
 exact aH (h _ c2 (λb o V e=>s2.extBut b o V (k1 b o V e)) kf)
theorem adP{C:List ao->aJ->Prop}(di:∀vs s',C vs s'->vs.length< 64)
 (B':∀(P:List ao->aJ->Prop) (F:VS),(∀vs s',(∀b o,s.heap.get? b=some o->s'.heap.get? b=some o)->s'.gens=s.gens->s'.os=s.os->C vs s'->P vs s')->wpAny (model prog w) A.in1 (collect x) P F s)
 (h:∀vs an H l,(∀b o,s.heap.get? b=some o->an.heap.get? b=some o)->an.gens=s.gens->an.os=s.os->C vs an->an.heap.get? l=none->(∀b o,an.heap.get? b=some o->H.get? b=some o)->H.get? l=some (seqObj "list" vs.toArray 0)->
  ∀(P:PySem.Fin->aJ->Prop) (F:VS),(∀s',Q (.ref l) s'->P (.done (.ret .none)) s')->wpAny (model prog w) A.in1.in1 (hY.«list.sort» ⟨[.ref l],[]⟩) P F {an with heap:=H}):
 wpAny (model prog w) A (call (.builtin "sorted") [x]) Q E s:=by
 refine Calls.call_function_entry kind_sorted plain_sorted entry_sorted (args_sorted1 _)<|am (aH ?_)
 refine am (B' _ _ λvs an k₁ eg eo c=>?_)
 have di:=di _ _ c
 refine am (Pe ?_ (by refine Y HB ?_;exact mu di rfl))
 have X9:(an.heap.push (seqObj "list" vs.toArray 0)).get? an.heap.objs.size=some (seqObj "list" vs.toArray 0):=cJ _ rfl
 refine am (jU (ny slot_list_sort (ai _ X9 rfl) entry_list_sort ?body (args_list_sort _)))
 case body=>
  refine h vs an _ an.heap.objs.size k₁ eg eo c ?_ (λb o q=>bT _ q) X9 _ _ λs' q=>(ai _ rfl (aH (ai _ rfl q)))
  cases q:an.heap.get? an.heap.objs.size with
  |none=>rfl
  |some o=>exact absurd (dI q) (pN _)
end
theorem qK{p:List ah}(h:k<p.length):p.getD k x=p[k]:=by simp[h]
theorem aog{p:List ao}(h:k<p.length):p.getD k x=p[k]:=by simp[h]
section
variable{prog:eE}{w:dg}{A:bV}{s:aJ}{b:Bool}{Q:Bool->aJ->Prop}
theorem Qe(h:fO da db=some r)(ra:jj s.heap x da as)(rb:jj s.heap y db bs)(ha:da.canLay0=true)(V:db.canLay0=true)
 (hu:A.units+da.depth<cLine) (hq:Q r s):wpAny (model prog w) A (oneLt' false x y) Q (λzz zz=>False) s:=
 kat_one x y (Qc da db r h A s x y as bs ra rb ha V hu prog w _ _ (show PySem.W.BoolBack Q (.bool r) s from hq))
theorem Hn:∀(xs ys:List ah) (r:Bool),gP xs ys=some r->∀(vs ws:List ao) (as bs:List az) (i:Nat),lu s.heap vs xs as->lu s.heap ws ys bs->
 eA xs=true->eA ys=true->A.units+eM xs<cLine->(b && i==0)=false->Q r s->KatLex prog w A b (decide (vs.length<ws.length)) Q (vs.zip ws) i s
 |[],[],r,h,_,_,_,_,i,ra,rb,_,_,_,_,hq=>by
  refine ri ra<|ri rb ?_
  rw[R4,dj] at h
  subst h
  exact hq
 |[],_::_,r,h,_,_,_,_,i,ra,rb,_,_,_,_,hq=>by
  refine ri ra<|oF rb λzz zz zz zz zz zz=>?_
  rw[R5,dj] at h
  subst h
  exact kat_nil<|hq
 |_::_,[],r,h,_,_,_,_,i,ra,rb,_,_,_,_,hq=>by
  refine oF ra λzz zz zz zz zz zz=>ri rb ?_
  rw[R6,dj] at h
  subst h
  exact kat_nil<|hq
 |x::xs,y::ys,r,h,_,_,_,_,i,ra,rb,ha,V,hu,hi,hq=>by
  have lK:x.canLay0=true/\eA xs=true:=by simpa [eA] using ha
  have fF:y.canLay0=true/\eA ys=true:=by simpa [eA] using V
  have r9:=mI x.depth (eM xs)
  have sd:=oo x.depth (eM xs)
  refine oF ra λv vs vm VN r1 rs=>oF rb λv' k6 vn VO qJ Ct=>?_
  rw[Ed] at h
  have hm:=nA x.depth y.depth
  refine kat_cons (eqBoolOverData prog w A _ s v v' x y vm vn _ r1 qJ lK.1 fF.1 (Mk hm r9 hu) ?_)
  refine kat_go (λe=>kat_yes ?_) (λe=>kat_no ?_)
  .rw[if_pos e] at h
   have q:=Hn xs ys r h vs k6 _ _ (i+1) rs Ct lK.2 fF.2 (ym sd hu) (by simp) hq
   have e:decide ((v::vs).length<(v'::k6).length)=decide (vs.length<k6.length):=by simp
   exact Y e<|q
  .rw[if_neg (by simp[e])] at h
   exact Y hi<|Qe h r1 qJ lK.1 fF.1 (ym r9 hu) hq
theorem Pm(ht:t=2\/t=3)(hx:fc x=t)(hy:fc y=t)(h:gP (x::xs) (y::ys)=some r)
 (ra:lu s.heap vs (x::xs) as) (rb:lu s.heap ws (y::ys) bs) (ha:eA (x::xs)=true) (V:eA (y::ys)=true) (hu:A.units+eM (x::xs)<cLine) (hq:Q r s):
 KatLex prog w A b (decide (vs.length<ws.length)) Q (vs.zip ws) 0 s:=by
 have lK:x.canLay0=true/\eA xs=true:=by simpa [eA] using ha
 have fF:y.canLay0=true/\eA ys=true:=by simpa [eA] using V
 simp only[eM] at hu
 have r9:=mI x.depth (eM xs)
 have sd:=oo x.depth (eM xs)
 refine oF ra λv vs vm VN r1 rs=>oF rb λv' k6 vn VO qJ Ct=>?_
 rw[Ed] at h
 have hm:=nA x.depth y.depth
 refine kat_cons (eqBoolOverData prog w A _ s v v' x y vm vn _ r1 qJ lK.1 fF.1 (Mk hm r9 hu) ?_)
 refine kat_go (λe=>kat_yes ?_) (λe=>kat_no ?_)
 .rw[if_pos e] at h
  have q:=Hn (prog:=prog) (w:=w) (A:=A) (b:=b) xs ys r h vs k6 _ _ 1 rs Ct lK.2 fF.2 (ym sd hu) (by simp) hq
  have e:decide ((v::vs).length<(v'::k6).length)=decide (vs.length<k6.length):=by simp
  exact Y e<|q
 .rw[if_neg (by simp[e])] at h
  clear hy ra rb ha V sd hm;cases b with
  |false=>exact Qe h r1 qJ lK.1 fF.1 (ym r9 hu) hq
  |true=>
   clear hu lK fF r9;rcases ht with rfl|rfl
   .cases x<;>simp[fc] at hx
    refine ar (I5 h) λy aku A2=>?_;clear h e;subst aku A2
    exact Fl r1 λzz=>Fl qJ λzz=>oneLt_int hq
   .cases x<;>simp[fc] at hx
    refine ar (Er h) λy Kv A3=>?_;clear h e;subst Kv A3
    exact x7 r1 λzz=>x7 qJ λzz=>oneLt_str hq
end
theorem aT.getD(h:aT g vs ds)(hi:i<ds.length)(Mp:ao):Is g (vs.getD i Mp) ds[i]:=by
 refine ar (h.get (d:=ds[i]) (by simp[hi])) λv e q=>Y uu<|Y e ?_
 exact q
theorem Iv{xs:List ah}(h:xs.all (Fo t)=true)(hx:x∈xs):fc x=t:=by
 have:=hU.mp h x hx
 simpa [Fo] using this
theorem Iw{xs:List ah}(h:xs.all (qx t)=true)(hx:x∈xs):∃y ys,x= .tuple (y::ys)/\fc y=t:=by
 have:=hU.mp h x hx
 unfold qx TC at this
 match x,this with
 | .tuple (y::ys),this=>exact gq y ys rfl (by simpa using this)
theorem Qf:∀{vs:List ao} {xs:List ah},aT h vs xs->(∀x∈xs,∃y ys,x= .tuple (y::ys)/\fc y=t)->
 ∃fs:List ao,KatTups h vs fs/\fs.length=vs.length/\∀f∈fs,∃y,fc y=t/\Is h f y
 |vs,[],hI,_=>by exact Y hI.nil_inv<|bQ ([]) (.nil) rfl (by simp)
 |vs,x::xs,hI,hx=>by
  refine bZ hI.cons_inv λv ws Kw hv hw=>?_;subst Kw
  refine cq (Qf hw λz hz=>hx z (.tail _ hz)) λfs k l m=>cP (hx x (.head _)) λy ys akv ht=>?_;subst akv
  refine ja hv.kH λa o zs n akw ho hc hd hz=>?_;subst akw
  refine bZ hz.cons_inv λf fr e hf zz=>?_
  have e0:zs[0]? =some f:=by refine sl lR<|Y e ?_;rfl
  refine bQ (f::fs) (.cons ho hc hd e0 k) (by simp[l]) (λf' M9=>?_)
  rcases bK.mp M9 with rfl|q
  .exact ai y ht hf
  .exact m f' q
theorem QS(i:Is h f y)(ht:fc y=t)(vW:t=2\/t=3\/t=4):
 Looks M h (typeOf f) (.type (if t=2 then "int" else if t=3 then "str" else "tuple")):=by
 refine xe i λas r=>?_
 cases r with
 |none=>simp[fc] at ht;subst ht;exact absurd vW (by decide)
 |bool b=>simp[fc] at ht;subst ht;exact absurd vW (by decide)
 |int i t=>simp[fc] at ht;clear vW;subst ht;exact .now
 |str x t=>simp[fc] at ht;clear vW;subst ht;exact .now
 |list a b c d=>simp[fc] at ht;subst ht;exact absurd vW (by decide)
 |dict=>simp[fc] at ht;subst ht;exact absurd vW (by decide)
 |tuple a b c d=>
  simp[fc] at ht;clear vW;subst ht
  exact Y (show(mL (if 4=2 then "int" else if 4=3 then "str" else "tuple"))= .type "tuple" from rfl)<|sl b<|(Looks.ld a).andThen .now
section
variable{G:eI}{A:bV}{s:aJ}{g:aG}{σ:Sg}{v u:ao}{xs ys:List ah}{x y d:ah}
theorem agD(hI:aT s.heap vs xs)(bX:td xs=true)(hu:A.units+100<cLine):
 Mv G.prog G.w A vs (λi j=>cD (xs.getD i .none) (xs.getD j .none)== .lt) s:=by
 unfold td at bX
 simp only[cm,decide_eq_true_eq] at bX
 refine xa bX λKx hp=>xa Kx λakx hk=>xa akx λKy hg=>xa Ky λaky hs=>xa aky λO di=>?_
 have hl:=hI.length
 refine xa (DI hs) λhc hd=>?_
 have iA:∀(zs:List ah),eA zs=true->∀z∈zs,z.canLay0=true:=by
  intro zs
  induction zs with
  |nil=>intro _ z hz;cases hz
  |cons a as ih=>
   intro h z hz
   simp only[eA,cm] at h
   rcases bK.mp hz with rfl|q
   .exact h.1
   .exact ih h.2 z q
 have uh:∀(zs:List ah),∀z∈zs,z.depth<=eM zs:=by
  intro zs
  induction zs with
  |nil=>intro z hz;cases hz
  |cons a as ih=>
   intro z hz
   rcases bK.mp hz with rfl|q
   .exact mI _ _
   .exact aB (ih z q) (oo _ _)
 have hr:∀{i j:Nat},i<xs.length->j<xs.length->∃r,fO (xs.getD i .none) (xs.getD j .none)=some r/\r=(cD (xs.getD i .none) (xs.getD j .none)== .lt):=by
  intro i j hi hj
  refine Y (qK hi)<|Y (qK hj) ?_
  have:=hU.mp (hU.mp hp _ (kz hi)) _ (kz hj)
  exact ua this λr e=>ai r e (aiu _ _ _ (tf hg _ (kz hi)) (tf hg _ (kz hj)) e)
 unfold rj at hk
 simp only[lU] at hk
 have bB:vs≠[]:=by intro e;subst e;simp at hl;exact nz (be [(B,k0),((.num 2),B)] (k1,k0) rfl (aA hl.symm) O)
 have Mx:∀t,(t=2\/t=3\/t=4)->xs.all (qx t)=true->Mv G.prog G.w A vs (λi j=>cD (xs.getD i .none) (xs.getD j .none)== .lt) s:=by
  intro t ht hf
  refine cq (Qf hI λx hx=>Iw hf hx) λfs k l m=>ai _ (λQ E hq=>kat_kind (T:= .type (if t=2 then "int" else if t=3 then "str" else "tuple")) k (aO [(B,v1),(v2,B),((.num 2),v2)] (J k0 k1,v1) rfl (aA l.symm) (aA hl.symm) O) (λf M9=>?_) ?_ hq) (λi j C hi hj hC=>?_)
  .exact ar (m f M9) λy hy hi=>QS hi hy ht
  .clear hf m hq;rcases ht with rfl|rfl|rfl<;>rfl
  .rw[hl] at hi hj
   refine ar (hr hi hj) λr e1 e2=>?_
   have q1:=hI.getD hi .none
   have q2:=hI.getD hj .none
   simp only[<- e2] at hC
   rw[qK hi,qK hj] at e1
   have m1:=kz hi
   have m2:=kz hj
   refine cP (Iw hf m1) λy1 ys1 z1 t1=>cP (Iw hf m2) λy2 ys2 z2 t2=>?_
   have c1:=iA xs hc _ m1
   have c2:=iA xs hc _ m2
   have d1:=aB (uh xs _ m1) hd
   rw[z1] at q1 e1 c1 d1
   rw[z2] at q2 e1 c2
   refine P7 q1.kH λa1 o1 b1 n1 w1 g1 k1 p1 ui M'=>P7 q2.kH λa2 o2 b2 n2 w2 g2 k2 p2 as2 Na=>?_
   change gP _ _=_ at e1
   simp only[gV] at d1
   unfold kas_ask
   refine Y w1<|Y w2<|kat_lt g1 p1 g2 p2 ?_
   clear hf m;rcases ht with rfl|rfl|rfl
   .have:=Pm (prog:=G.prog) (w:=G.w) (A:=A) (b:=(mL (if 2=2 then "int" else if 2=3 then "str" else "tuple") !=mL "tuple")) (.inl rfl) t1 t2 e1 M' Na c1 c2 (Mg hu (aB (wO d1) (by decide))) hC
    simpa using this
   .have:=Pm (prog:=G.prog) (w:=G.w) (A:=A) (b:=(mL (if 3=2 then "int" else if 3=3 then "str" else "tuple") !=mL "tuple")) (.inr rfl) t1 t2 e1 M' Na c1 c2 (Mg hu (aB (wO d1) (by decide))) hC
    simpa using this
   .have:=Hn (prog:=G.prog) (w:=G.w) (A:=A) (b:=(mL (if 4=2 then "int" else if 4=3 then "str" else "tuple") !=mL "tuple")) _ _ _ e1 _ _ _ _ 0 M' Na c1 c2 (Mg hu (aB (wO d1) (by decide))) (by rfl) hC
    simpa using this
 rcases hk with((hk|hk)|hk)|hk
 .refine ai oneType' (λQ E hq=>kas_kind (T:= .type "str") (aM [(B,v1),((.num 2),B)] ((.num 2),v1) rfl (aA hl.symm) O) (λv hv=>?_) rfl rfl hq) (λi j C hi hj hC=>?_)
  .obtain⟨i,hi,e⟩:=List.mem_iff_getElem.mp hv
   have q:=hI.getD (i:=i) (yl hi (aA hl)) .none
   rw[aog hi,e] at q
   exact QS (t:=3) q (Iv hk (kz (yl hi (aA hl)))) (.inr (.inl rfl))
  .rw[hl] at hi hj
   refine ar (hr hi hj) λr e1 e2=>?_
   have q1:=hI.getD hi .none
   have q2:=hI.getD hj .none
   simp only[<- e2] at hC
   rw[qK hi,qK hj] at e1
   have t1:=Iv hk (kz hi)
   have t2:=Iv hk (kz hj)
   generalize xs[i]=x at q1 e1 t1
   generalize xs[j]=y at q2 e1 t2
   clear t2;cases x<;>simp[fc] at t1
   refine ar (Er e1) λy Kd e3=>?_;clear e1;subst Kd
   refine xe q1.str_inv λt w1=>xe q2.str_inv λt' w2=>?_
   unfold kas_ask
   exact Y w1<|Y w2<|kas_lt_str (e3▸hC)
 .exact Mx 2 (.inl rfl) hk
 .exact Mx 3 (.inr (.inl rfl)) hk
 .exact Mx 4 (.inr (.inr rfl)) hk
theorem agE(hg:fx xs=true):o7 xs.length (λi j=>cD (xs.getD i .none) (xs.getD j .none)== .lt) where
 FV:=λi j hi hj h=>by
  have h':cD (xs.getD i .none) (xs.getD j .none)= .lt:=by simpa using h
  refine Y (Ae (xs.getD i .none) (xs.getD j .none))<|Y h' ?_;rfl
 tr:=λi j k hi hj hk H O=>by
  unfold jn at*
  dsimp only at*
  simp only[qK hi,qK hj,qK hk] at*
  have gi:=tf hg _ (kz hi)
  have gj:=tf hg _ (kz hj)
  have gk:=tf hg _ (kz hk)
  have f1:∀{a b:ah},(cD b a== .lt)=false↔cD a b≠ .gt:=λ{a b}=>by
   refine Y (Ae a b) ?_;cases cD a b<;>simp
  rw[f1] at H O⊢
  exact QQ gi gj gk H O
 rf:=λi hi=>by
  unfold jn
  dsimp only
  refine Y (qK hi)<|Y (TL _ (tf hg _ (kz hi))) ?_;rfl
theorem abP(hg:fx xs=true)(hp:fT xs.length p)(hs:ls (λi j=>cD (xs.getD i .none) (xs.getD j .none)== .lt) p xs.length):
 p.toList.map (λi=>xs.getD i .none)=gf xs:=by
 have vo:(p.toList.map λi=>xs.getD i .none).Perm xs:=by
  have:=(N2.mp hp.perm)
  have q:=this.map λi=>xs.getD i PW
  have e:(lr xs.length).map (λi=>xs.getD i PW)=xs:=by
   apply Dt
   .simp
   .intro n H O;simp[O]
  rw[e] at q
  exact q
 refine xf (λy hy=>tf hg y (vo.mem_iff.mp hy)) (vo.trans (mK xs).symm) ?_ (sV (tf hg))
 unfold rZ
 refine si List.pairwise_iff_getElem ?_
 intro i j hi hj dh
 simp only[aw,eV,hp.size] at hi hj
 have:=hs i j (fA dh) hj
 unfold jn at this
 have e:∀k,k<xs.length->(p.toList.map λi=>xs.getD i PW)[k]? =some (xs.getD (at' p k) .none):=λk hk=>by
  have:k<p.size:=by exact Y hp.size<|hk
  simp[at',adA,this]
 have e1:=e i hi
 have e2:=e j hj
 rw[GH] at e1 e2
 refine xe e1 λzz e1=>xe e2 λzz e2=>Y e1<|Y e2 ?_
 dsimp only at this
 rw[Ae (xs.getD (at' p i) .none) (xs.getD (at' p j) .none)] at this
 intro q
 rw[q] at this
 exact absurd this (by decide)
theorem abQ(h:xs.length<2):gf xs=xs:=by
 match xs,h with
 |[],_=>rfl
 |[x],_=>rfl
def Kz(vs:List ao)(xs:List ah)(us:List ao):Prop:=∃p:List Nat,(∀k∈p,k<xs.length)/\us=p.map (λk=>vs.getD k .none)/\p.map (λk=>xs.getD k .none)=gf xs
theorem Kz.is(h:Kz vs xs us)(hI:aT g vs xs):aT g us (gf xs):=by
 refine cq h λp H akz h3=>?_;clear h;subst akz
 exact sl h3<|hI.agx p H .none .none
theorem ae3(hI:aT s.heap vs xs)(bX:gX xs=true)(hu:A.units+100<cLine)(P:PySem.Fin->aJ->Prop)(F:VS)(s':aJ)(l:az)(n:Nat)
 (k:∀b o,s.heap.get? b=some o->s'.heap.get? b=some o) (hl:s'.heap.get? l=some (seqObj "list" vs.toArray n)) (fr:s.heap.get? l=none)
 (h:∀h' c us,Kz vs xs us->(∀b o,b≠l->s'.heap.get? b=some o->h'.get? b=some o)->h'.get? l=some (seqObj "list" us.toArray c)->P (.done (.ret .none)) {s' with heap:=h'}):
 wpAny (model G.prog G.w) A (hY.«list.sort» ⟨[.ref l],[]⟩) P F s':=by
 have br:=hI.length
 unfold gX at bX
 rw[lU,decide_eq_true_eq] at bX
 by_cases O:xs.length<2
 .refine aaM hl (aM [(J B k1,(.num 2)),(v1,B)] (J v1 k1,(.num 2)) rfl O (aA br)) λh' c k' hD=>h h' c vs (bQ (lr xs.length) (λk hk=>zh.mp hk) ?_ ?_) k' hD
  .apply Dt
   .simp[br]
   .intro j H O;simp[H]
  .refine Y (abQ O) ?_
   apply Dt
   .simp
   .intro j H O;simp[O]
 .have bX:=bX.resolve_left O
  have My:=bX
  unfold td at My
  simp only[cm,decide_eq_true_eq] at My
  refine xa My λakA hp=>xa akA λvk hk=>xa vk λakB hg=>xa akB λMz hs=>xa Mz λO di=>?_
  have S:=adO (agE hg) (be [((.num 2),B)] (k1,B) rfl O)
  have ne:∀b o,s.heap.get? b=some o->b≠l:=λb o e z=>by rw[z,fr] at e;exact aC e
  refine aba hl (aM [((.num 2),B),(B,v1)] ((.num 2),v1) rfl O (aA br.symm)) (aM [(J B k1,(.num 64)),(v1,B)] (J v1 k1,(.num 64)) rfl di (aA br)) (by refine Y br ?_;exact S) (λh' k'=>agD (hI.mono λb o e=>k' b o (ne b o e) (k b o e)) bX hu) λp h' c hR k' hD=>?_
  have iO:=hR.1
  refine h h' c _ (bQ p.toList (λk hk=>?_) rfl (abP hg iO hR.2)) k' hD
  have:=(N2.mp iO.perm).mem_iff.mp hk
  simpa using this
theorem Sc(bX:gX xs=true):xs.length< 64:=by
 unfold gX at bX
 rw[lU,decide_eq_true_eq] at bX
 refine a9 bX (λh=>?_) (λh=>?_)
 .exact be [(J B k1,(.num 2))] (J B k1,(.num 64)) rfl h
 .unfold td at h
  simp only[cm,decide_eq_true_eq] at h
  exact h.1.1.1.1.2
structure rQ(G:eI)(g:aG)(s:aJ)(h:aG)(X:az->Prop)(vs:List ao)(xs:List ah):Prop where
 dead:∀b,X b->s.heap.get? b=none
 good:∀b,X b->∃o,h.get? b=some o/\nN G.w o
 is:aT (cv g h X) vs xs
theorem rQ.old(hI:aT g vs xs)(k:Sub g h):rQ G g s h (λzz=>False) vs xs:=⟨λzz f=>f.elim,λzz f=>f.elim,hI.mono (ij k)⟩
theorem ae4(k:∀b o,h.get? b=some o->h'.get? b=some o)(hX:∀b,X b->as0 b):Sub (cv g h X) (cv g h' as0):=λb o e=>by
 refine xa (Ir e) λp q=>?_
 unfold cv
 rw[sZ (p.imp id (hX b))]
 exact k b o q
theorem rQ.cv(i:Inv G g σ s)(n:rQ G g s h X vs xs)(k:∀b o,h.get? b=some o->s'.heap.get? b=some o)(ks:∀b o,s.heap.get? b=some o->s'.heap.get? b=some o)(eg:s'.gens=s.gens)(eo:s'.os=s.os)
 (hD:s.heap.get? D=none) (hG:∀o,s'.heap.get? D=some o->nN G.w o):aS G s g σ s' (bh.cv g s'.heap λb=>X b\/b=D)/\aT (bh.cv g s'.heap λb=>X b\/b=D) vs xs:=by
 refine⟨aS.WY i ks eg eo _ (λb V=>V.elim (n.dead b) λe=>e▸hD) λb o V e=>?_,n.is.mono (ae4 k λzz=> .inl)⟩
 clear hD;rcases V with V|rfl
 .refine ar (n.good b V) λo' e' q=>?_
  rw[k b o' e'] at e;injection e with A4;subst A4
  exact q
 .exact hG o e
theorem PD(i:Inv G g σ s)(rm:dK A n){Z:List ah->Prop}(bX:∀ys,Z ys->gX ys=true/\gf ys=zs)
 (B':∀(P:List ao->aJ->Prop) (F:VS),(∀vs s' X ys,Z ys->(∀b o,s.heap.get? b=some o->s'.heap.get? b=some o)->s'.gens=s.gens->s'.os=s.os->rQ G g s s'.heap X vs ys->P vs s')->wpAny (model G.prog G.w) A.in1 (collect v) P F s):
 Runs G A s g σ (call (.builtin "sorted") [v]) (λr g'=>Is g' r (.list zs)):=by
 refine adP (C:=λvs s'=>∃X ys,Z ys/\rQ G g s s'.heap X vs ys) (λvs s' aoh=>cP aoh λX ys z q=>by refine Y q.is.length ?_;exact Sc (bX ys z).1) (λP F h=>B' P F λvs s' X ys z k eg eo q=>h vs s' k eg eo (gq X ys z q)) λvs an H l k eg eo aoi dead k1 hl P F hP=>cP aoi λX ys z q=>?_
 refine ae3 (s:=an) (xs:=ys) (A:=A.in1.in1) (q.is.mono q9) (bX ys z).1 (XV (k:=102) rm.units (by decide)) P F _ l 0 k1 hl dead λh' c us hR k2 hD=>hP _ ?_
 have keep:=λb o e=>k2 b o (λz=>by rw[z,dead] at e;exact aC e) (k1 b o e)
 have dl:s.heap.get? l=none:=by
  cases e:s.heap.get? l with
  |none=>rfl
  |some o=>rw[k l o e] at dead;exact ft dead
 refine xa (q.cv (s':={an with heap:=h'}) (D:=l) i keep (λb o e=>keep b o (k b o e)) eg eo dl λo e=>by
  rw[show h'.get? l=_ from hD] at e;injection e with MA;subst MA
  exact .no (by simp[seqObj]) rfl) λst hI=>?_
 exact ai _ st (Is.list (nH (.inr rfl) hD) rfl rfl ((bX ys z).2▸by exact hR.is hI))
theorem HF(i:Inv G g σ s)(rm:dK A n)(bX:gX xs=true)
 (B':∀(P:List ao->aJ->Prop) (F:VS),(∀vs s' X,(∀b o,s.heap.get? b=some o->s'.heap.get? b=some o)->s'.gens=s.gens->s'.os=s.os->rQ G g s s'.heap X vs xs->P vs s')->wpAny (model G.prog G.w) A.in1 (collect v) P F s):
 Runs G A s g σ (call (.builtin "sorted") [v]) (λr g'=>Is g' r (.list (gf xs))):=
 PD i rm (Z:=(·=xs)) (λzz e=>⟨e▸bX,e▸rfl⟩) λP F h=>B' P F λvs s' X k eg eo q=>h vs s' X xs rfl k eg eo q
theorem acK(i:Inv G g σ s)(rm:dK A n)(hv:Is g v (.list xs))(bX:gX xs=true):
 Runs G A s g σ (call (.builtin "sorted") [v]) (λr g'=>Is g' r (.list (gf xs))):=by
 refine bZ (hv.xT i) λa vs KA hl hI=>?_;clear hv;subst KA
 have br:=hI.length
 have:=Sc bX
 have keep:∀b o,s.heap.get? b=some o->((s.heap.push (seqObj "list" #[] 0)).update s.heap.objs.size (f9 (·++vs.toList.toArray))).get? b=some o:=λb o e=>by
  have a5:b<s.heap.objs.size:=dI e
  refine Y (On _ _ _ _ (dH a5))<|Y (Heap.get?_push_ne _ _ _ (dH a5)) ?_
  exact e
 exact HF i rm bX λP F h=>collect_list hl (h _ _ _ keep rfl rfl (.old hI (i.sub.trans keep))) (Y HB<|aM [(J B k1,(.num 64)),(v1,B)] (v1,(.num 16777216)) rfl this (aA br))
end
end bh
namespace bh
open PySem PySem.W PyProof.Rows PySem.Calls
structure kh(G:eI):Prop where
 n8:G.K.In G.h₀
 ns:G.h₀.Ns mainGlobals G.mg
 nb:G.h₀.Ns builtinsNs G.mb
 lim:G.h₀.NoLimit
 jL:∀x:Str,x≠"__name__"->G.mb x=bootBuiltins x
 Nb:∃o vs n,G.h₀.get? G.ax=some o/\o.cls= .type "list"/\o.data= .seq vs n/\∀v∈vs.toList,∃i t,v= .int i t
 sys:∃o es n e x t,G.h₀.get? sysModules=some o/\o.data= .dict es n/\es.toList[0]? =some e/\e.key= .str x t/\x.cps[0]? ≠some 63
theorem JB(hG:kh G)(i:Inv G g σ s)(h:g.get? b=some o)(hc:o.cls≠ .type "list"):b≠G.ax:=by
 rintro rfl
 refine uY hG.Nb λo' zz zz e c zz=>?_
 have:=i.base _ _ e
 rw[h] at this
 clear e;injection this with oN;subst oN
 exact hc c
def o9(G:eI)(g:aG):List ao->List as7->Prop
 |[],[]=>True
 |v::vs,x::xs=>iN G g v x/\o9 G g vs xs
 |_,_=>False
theorem o9.length:∀{vs:List ao} {xs:List as7},o9 G g vs xs->vs.length=xs.length
 |[],[],_=>rfl
 |_::_,_::_,h=>by exact Y bL<|Y bL<|Y h.2.length rfl
 |[],_::_,h=>h.elim
 |_::_,[],h=>h.elim
theorem o9.gF:∀{vs:List ao} {xs:List as7} {ds:List ah},o9 G g vs xs->gF xs=some ds->aT g vs ds
 |[],[],ds,_,e=>by injection e with KB;subst KB;exact .nil
 |v::vs,x::xs,ds,h,e=>by
  refine aP e λy e1 e2=>iK e2 λr e3 A5=>?_;subst A5
  obtain rfl:=Kc e1
  exact .cons h.1 (h.2.gF e3)
 |[],_::_,_,h,_=>h.elim
 |_::_,[],_,h,_=>h.elim
structure Wd where
 G:eI
 adr:Nat->az
 aW:Nat->Option ah
 R:Nat->List as7->Sg->Option (as7×Sg)
 n:Nat
structure Wd.Ok(W:Wd):Prop where
 eU:kh W.G
 call:∀f xs σ v av,W.R f xs σ=some (v,av)->∀A s g vs,dK A W.n->Inv W.G g σ s->o9 W.G g vs xs->Runs W.G A s g av (call (.ref (W.adr f)) vs) (λr g'=>iN W.G g' r v)
def ab(W:Wd)(cx:Cx)(ast:Expr)(e:E):Prop:=
 ∀ ⦃κ:cF⦄ A s g σ env ρ xs av,dK A W.n->Inv W.G g σ s->a7 W.G cx κ g s.heap env ρ->ev W.aW W.R e ρ σ=some (xs,av)->Runs W.G A s g av (eval ast env) (λr g'=>∃x,xs=[x]/\iN W.G g' r x)
def a6(W:Wd)(cx:Cx)(ast:Expr)(e:E):Prop:=
 ∀ ⦃κ:cF⦄ A s g σ env ρ b av,dK A W.n->Inv W.G g σ s->a7 W.G cx κ g s.heap env ρ->iu (ev W.aW W.R e ρ σ)=some (b,av)->Runs W.G A s g av (isTrue ast env (eval ast env)) (λc g'=>c=b)
def ak(W:Wd)(cx:Cx)(aoj:List Expr)(e:E):Prop:=
 ∀ ⦃κ:cF⦄ A s g σ env ρ xs av pos,dK A W.n->Inv W.G g σ s->a7 W.G cx κ g s.heap env ρ->ev W.aW W.R e ρ σ=some (xs,av)->Runs W.G A s g av (spliced (backTo pos (starEach aoj env))) (λrs g'=>o9 W.G g' rs xs)
section
variable{W:Wd}{cx:Cx}{A:bV}{s:aJ}{g:aG}{σ av:Sg}{ρ:List aK}{κ:cF}
theorem agF:∀{xs:List as7} {v:as7},WX xs=some v->xs=[v]
 |[],_,h=>nomatch h
 |[_],_,h=>by injection h with A6;subst A6;rfl
 |_::_::_,_,h=>nomatch h
theorem xB(h:jB r=some (x,σ)):r=some ([x],σ):=by
 refine aP h λA7 Ka h=>?_;clear h;obtain⟨p,q⟩:=A7;subst Ka
 refine iK h λv H O=>?_
 clear h;injection O with A8 akC;subst A8 akC
 obtain rfl:=agF H
 rfl
theorem rd(h:ba r=some (x,σ)):r=some ([.d x],σ):=by
 refine aP h λA7 h0 h=>?_;obtain⟨p,q⟩:=A7
 refine iK h λv H O=>?_
 clear h;injection O with A9 VR;subst A9;clear h;subst VR
 obtain rfl:=Kc H
 exact xB h0
theorem th(h:iu r=some (x,σ)):r=some ([.d (.bool x)],σ):=by
 refine aP h λBa h0 h=>?_;obtain⟨p,q⟩:=Ba
 refine iK h λv H O=>?_
 clear h;injection O with KC akD;subst KC;clear h;subst akD
 obtain rfl:=R3 H
 exact rd h0
theorem Ix(h:tF x=some ys):x= .list ys\/x= .tuple ys:=by
 cases x<;>first|exact aC h|(have h:=gS h;subst h)
 .exact .inl rfl
 .exact .inr rfl
theorem Es(h:fL r=some (xs,σ)):(r=some ([.d (.list xs)],σ)\/r=some ([.d (.tuple xs)],σ)\/∃kvs,r=some ([.dk kvs],σ)/\xs=kvs.map (·.1))/\xs.length<=lim:=by
 refine aP h λMB h0 h=>?_;obtain⟨v,q⟩:=MB
 refine aP h λys H O=>?_
 have h3:ys.length<=lim/\some (ys,q)=some (xs,σ):=by
  by_cases c:ys.length<=lim
  .exact⟨c,by rw[if_pos c] at O;exact O⟩
  .rw[if_neg c] at O;exact aC O
 have akE:=h3.2;clear h;injection akE with KE;injection KE with agG agH;subst agG;clear O;clear h;subst agH
 refine⟨?_,h3.1⟩
 refine Y (xB h0) ?_
 clear h0 h3;cases v with
 |d x=>rcases Ix H with rfl|rfl
       .exact .inl rfl
       .exact .inr (.inl rfl)
 |dk kvs=>injection H with A6;subst A6;exact .inr (.inr (ai _ rfl rfl))
 |me _=>exact aC H
 |feed=>exact aC H
theorem ab.one(h:ab W cx ast e)(rm:dK A W.n)(i:Inv W.G g σ s)(eo:a7 W.G cx κ g s.heap env ρ)(he:jB (ev W.aW W.R e ρ σ)=some (x,av)):
 Runs W.G A s g av (eval ast env) (λr g'=>iN W.G g' r x):=
 (h A s g σ env ρ _ av rm i eo (xB he)).mono λr g' aok=>ar aok λy e q=>by injection e with MC asl;subst MC;exact q
theorem ab.ba(h:ab W cx ast e)(rm:dK A W.n)(i:Inv W.G g σ s)(eo:a7 W.G cx κ g s.heap env ρ)(he:bh.ba (ev W.aW W.R e ρ σ)=some (x,av)):
 Runs W.G A s g av (eval ast env) (λr g'=>Is g' r x):=
 (h A s g σ env ρ _ av rm i eo (rd he)).mono λr g' Nc=>ar Nc λy e q=>by injection e with MD asm;subst MD;exact q
theorem ab.iu(h:ab W cx ast e)(rm:dK A W.n)(i:Inv W.G g σ s)(eo:a7 W.G cx κ g s.heap env ρ)(he:bh.iu (ev W.aW W.R e ρ σ)=some (x,av)):
 Runs W.G A s g av (eval ast env) (λr g'=>r= .bool x):=
 (h A s g σ env ρ _ av rm i eo (th he)).mono λr g' aol=>ar aol λy e q=>by injection e with ME asn;subst ME;exact Is.bool_inv q
theorem ab.int:ab W cx (.Constant (.int i) k pos) (.lit (.int i)):=λzz A s g σ env ρ xs av rm i eo he=>by
 refine i5 he λz1 z2=>?_;clear he;subst z1 z2
 exact zf (gC g (.tok i _) _ rfl Is.int)
theorem ab.str:ab W cx (.Constant (.str x) k pos) (.lit (.str x)):=λzz A s g σ env ρ xs av rm i eo he=>by
 refine i5 he λz1 z2=>?_;clear he;subst z1 z2
 exact GX (gC g (.tok i _) _ rfl Is.str)
theorem ab.bool:ab W cx (.Constant (.bool b) k pos) (.lit (.bool b)):=λzz A s g σ env ρ xs av rm i eo he=>by
 refine i5 he λz1 z2=>?_;clear he;subst z1 z2
 exact wpAny_Constant_bool (gC g (.refl i) _ rfl Is.bool)
theorem ab.akF:ab W cx (.Constant .none k pos) (.lit .none):=λzz A s g σ env ρ xs av rm i eo he=>by
 refine i5 he λz1 z2=>?_;clear he;subst z1 z2
 exact Z5 (gC g (.refl i) _ rfl Is.none)
theorem xk(eo:a7 G cx κ g h env ρ)(x:Str):env.kindOf x=cx.kindOf x:=by
 unfold Env.kindOf Cx.kindOf;exact Y eo.sc rfl
theorem u7(eo:a7 G cx κ g h env ρ):env.scope.kind= .function:=by exact Y eo.sc<|eo.kind
theorem Iy(i:Inv W.G g σ s)(eo:a7 W.G cx κ g s.heap env ρ){E:VS}
 (hk:cx.var x=true) (hj:cx.Γ.lookup x=some j) (V:ρ[j]? =some b) (hn:b≠ .un) (hd:(x==("__debug__" :Str))=false) (hc:(x==("__classdict__" :Str))=false)
 (q:∀v,eF W.G κ j g s.heap v b->Q v s):wpAny (model W.G.prog W.G.w) A (eval (.Name x pos) env) Q E s:=by
 have fn:=u7 eo
 have ko:=xk eo x
 unfold Cx.var at hk
 simp only[lU,beq_iff_eq] at hk
 rcases hk with(hk|hk)|hk
 .exact ar eo.vars λm lL hv=>ar (hv x j b hj V hn hk) λv e r=>zE (GP fn (ko.trans hk) lL e (q v r)) hd
 .exact bZ (eo.cells x j b hj V hn (.inl hk)) λa v e se r=>zE (wpAny_loadName_cell fn (ko.trans hk) e se (q v r)) hd
 .exact bZ (eo.cells x j b hj V hn (.inr hk)) λa v e se r=>zE (wpAny_loadName_free fn (ko.trans hk) e se (q v r) hc) hd
theorem ab.var(hk:cx.var x=true)(hj:cx.Γ.lookup x=some j)(hd:(x==("__debug__" :Str))=false)(hc:(x==("__classdict__" :Str))=false):
 ab W cx (.Name x pos) (.loc j):=λzz A s g σ env ρ xs av rm i eo he=>by
 refine aP he λy hy he=>i5 he λz1 z2=>?_;clear he;subst z1;clear he;subst z2
 exact Iy i eo hk hj (UO hy) (by simp) hd hc λv r=>(gC g (.refl i) _ rfl r)
def aom(cx:Cx)(x:Str)(j:Nat):Bool:=cx.var x && (cx.Γ.lookup x==some j && (!(x==("__debug__" :Str)) && !(x==("__classdict__" :Str))))
theorem ab.va(h:aom cx x j=true:=by kernel_rfl):ab W cx (.Name x pos) (.loc j):=by
 have h:=oi.mp h
 have O:=oi.mp h.2
 have h3:=oi.mp O.2
 exact ab.var h.1 (beq_iff_eq.mp O.1) (Eq.mp (wP _) h3.1) (Eq.mp (wP _) h3.2)
theorem Inv.mT(i:Inv W.G g σ s):∀b o,W.G.h₀.get? b=some o->s.heap.get? b=some o:=i.base.trans i.sub
theorem Iz(hW:W.Ok)(i:Inv W.G g σ s)(eo:a7 W.G cx κ g s.heap env ρ){E:VS}
 (hk:cx.kindOf x=some .globalImplicit) (e:nsIn W.G.K mainGlobals x=some (some v)) (hd:(x==("__debug__" :Str))=false) (q:Q v s):wpAny (model W.G.prog W.G.w) A (eval (.Name x pos) env) Q E s:=
 ZW (u7 eo) ((xk eo x).trans hk) (loadGlobal_global (Y eo.glob<|hW.eU.ns.keeps i.mT) (mg_of hW.eU.n8 hW.eU.ns e) q) hd
theorem lw(hW:W.Ok)(i:Inv W.G g σ s)(eo:a7 W.G cx κ g s.heap env ρ){E:VS}
 (hk:cx.kindOf x=some .globalImplicit) (e:nsIn W.G.K mainGlobals x=some none) (hv:bootBuiltins x=some v) (hn:x≠"__name__") (hd:(x==("__debug__" :Str))=false) (q:Q v s):
 wpAny (model W.G.prog W.G.w) A (eval (.Name x pos) env) Q E s:=
 ZW (u7 eo) ((xk eo x).trans hk) (loadGlobal_builtin (Y eo.glob<|hW.eU.ns.keeps i.mT) (mg_none_of hW.eU.n8 hW.eU.ns e) (Y eo.jL<|hW.eU.nb.keeps i.mT) ((hW.eU.jL x hn).trans hv) q) hd
theorem ab.glob(hW:W.Ok)(hk:cx.kindOf x=some .globalImplicit)(e:nsIn W.G.K mainGlobals x=some (some v))(hi:Is W.G.h₀ v d)(hd:(x==("__debug__" :Str))=false:=by decide+kernel):
 ab W cx (.Name x pos) (.lit d):=λzz A s g σ env ρ xs av rm i eo he=>by
 refine i5 he λz1 z2=>?_;clear he;subst z1 z2
 exact Iz hW i eo hk e hd (gC g (.refl i) _ rfl (hi.mono i.base))
theorem ak.nil:ak W cx [] .nil:=λzz A s g σ env ρ xs av pos rm i eo he=>by
 refine i5 he λz1 z2=>?_;clear he;subst z1 z2
 exact Calls.spliced_nil (ai g (.refl i) trivial)
noncomputable def eW:Expr->Bool
 | .Starred .. =>false
 |_=>true
theorem cu(h:eW a=true):starEach (a::as) env=(false,eval a env)::starEach as env:=by
 cases a<;>first|rfl|exact aQ h
theorem ak.cons(h:ab W cx a e)(hs:ak W cx as es)(hn:eW a=true:=by rfl):ak W cx (a::as) (.cons e es):=λzz A s g σ env ρ xs av pos rm i eo he=>by
 refine gO he λx ae H gJ=>gO gJ λys aF O he=>i5 he λz1 z2=>?_;clear gJ he;subst z1;clear he;subst z2
 refine f8 ?_ (cu hn)
 refine(h.one rm i eo H).use λv an aX st q=>cn (hs A an aX ae env ρ ys aF pos rm st.inv (eo.step st) O) ?_ λzz zz f=>f
 intro vs aD akG;exact ar akG λaN bb r=>bQ aN (st.trans bb) (iN.mono q bb.grow) r
theorem ab.tup(hs:ak W cx as es):ab W cx (.Tuple as k pos) (.tup es):=λzz A s g σ env ρ xs av rm i eo he=>by
 refine gO he λys ae H gJ=>aP gJ λds O kT=>aP kT λd h3 he=>i5 he λz1 z2=>?_;clear gJ kT he;subst z1;clear he;subst z2
 refine xa (JA h3) λvj hl=>?_;clear h3;subst vj
 refine PX ((hs A s g σ env ρ ys ae pos rm i eo H).use λvs an aX st q=>?_)
 have hI:=q.gF O
 refine⟨fG (by refine Y hI.length ?_;exact hl),?_⟩
 exact ar (aS.Af (tk:=an.toks) st.inv hI) λaN bb r=>gC aN (st.trans bb) _ rfl r
theorem ab.lst(hs:ak W cx as es):ab W cx (.List as pos) (.lst es):=λzz A s g σ env ρ xs av rm i eo he=>by
 refine gO he λys ae H gJ=>aP gJ λds O kT=>aP kT λd h3 he=>i5 he λz1 z2=>?_;clear gJ kT he;subst z1;clear he;subst z2
 refine xa (qp h3) λKF hl=>?_;clear h3;subst KF
 refine DS ((hs A s g σ env ρ ys ae pos rm i eo H).use λvs an aX st q=>?_)
 have hI:=q.gF O
 refine⟨fG (by refine Y hI.length ?_;exact hl),?_⟩
 exact ar (aS.TM (tk:=an.toks) st.inv hI) λaN bb r=>gC aN (st.trans bb) _ rfl r
theorem ab.bin(ha:ab W cx l a)(V:ab W cx r b):ab W cx (.BinOp l (VL o) r pos) (.bin o a b):=λzz A s g σ env ρ xs av rm i eo he=>by
 refine gO he λx ae H gJ=>gO gJ λy aF O kT=>aP kT λd h3 he=>i5 he λz1 z2=>?_;clear gJ kT he;subst z1;clear he;subst z2
 refine wpAny_BinOp ((ha.ba rm i eo H).use λv an aX st q=>?_)
 exact(V.ba rm st.inv (eo.step st) O).use λu aD aN bb eS=>(agC bb.inv (q.mono bb.grow) eS h3).use λw jC Ca eZ MF=>gC Ca (st.trans (bb.trans eZ)) _ rfl MF
theorem UU(ha:ab W cx l a)(V:ab W cx r b)(rm:dK A W.n)(i:Inv W.G g σ s)(eo:a7 W.G cx κ g s.heap env ρ)(he:ev W.aW W.R (.cmp o a b) ρ σ=some (xs,av))
 (q:∀t s' g',aS W.G s g av s' g'->xs=[.d (.bool t)]->Q (.bool t) s'):
 wpAny (model W.G.prog W.G.w) A (eval l env) (λu an=>wpAny (model W.G.prog W.G.w) A (eval r env) (λv aD=>wpAny (model W.G.prog W.G.w) A (compareOp (ya o) u v) Q (λzz zz=>False) aD) (λzz zz=>False) an) (λzz zz=>False) s:=by
 refine gO he λx ae H gJ=>gO gJ λy aF O kT=>aP kT λt h3 he=>i5 he λz1 z2=>?_;clear gJ kT he;subst z1;clear he;subst z2
 refine(ha.ba rm i eo H).use λv an aX st p=>(V.ba rm st.inv (eo.step st) O).use λu aD aN bb aon=>(agB bb.inv rm (p.mono bb.grow) aon h3).use λw jC Ca eZ aoo=>?_
 obtain rfl:=aoo.bool_inv
 exact q t jC Ca (st.trans (bb.trans eZ)) rfl
theorem ab.cmp(ha:ab W cx l a)(V:ab W cx r b)(hm:behindInMarks (ya o) r=false:=by with_unfolding_all rfl):ab W cx (.Compare l [ya o] [r] pos) (.cmp o a b):=λzz A s g σ env ρ xs av rm i eo he=>
 wpAny_Compare1 (UU ha V rm i eo he λt s' g' st e=>(gC g' st _ e Is.bool)) hm
theorem a6.cmp(ha:ab W cx l a)(V:ab W cx r b)(hm:behindInMarks (ya o) r=false:=by with_unfolding_all rfl):a6 W cx (.Compare l [ya o] [r] pos) (.cmp o a b):=λzz A s g σ env ρ b av rm i eo he=>
 De (UU ha V rm i eo (th he) λt s' g' st e=>wQ (ai g' st (by injection e with akH ar6;injection akH with agI;injection agI with adQ;subst adQ;rfl))) hm
theorem a6.plain(h:ab W cx a e)(hp:∀env whole,isTrue a env whole=(do let v <- whole;standAt a.pos;holding [v] (truthy v)):=by intro _ _;rfl):a6 W cx a e:=λzz A s g σ env ρ b av rm i eo he=>by
 refine isTrue_plain ((h.iu rm i eo he).use λv an aX st q=>?_) (hp _ _)
 exact Y q<|wQ (ai aX st rfl)
theorem tA(h:(iu r).bind f=some (ys,av)):∃b ae,iu r=some (b,ae)/\f (b,ae)=some (ys,av):=by
 refine aP h λKG H O=>?_;obtain⟨b,ae⟩:=KG
 exact gq b ae H O
theorem a6.j6(h:a6 W cx x e):a6 W cx (.UnaryOp .Not x pos) (.j6 e):=λzz A s g σ env ρ b av rm i eo he=>by
 have he:=th he
 refine cP (tA he) λc ae H O=>?_
 simp only[dj,iS,gT,as7.d.injEq,Do,and_true] at O
 refine xa O λBb vp=>?_;clear he;subst Bb;clear O;clear he;subst vp
 exact isTrue_not ((h A s g σ env ρ c ae rm i eo H).use λc' an aX st q=>(ai aX st (Y q rfl)))
theorem ab.Cb(h:ab W cx x e):ab W cx (.BoolOp o [x] pos) e:=λzz A s g σ env ρ xs av rm i eo he=>BoolOp_one (h A s g σ env ρ xs av rm i eo he)
theorem ab.and(ha:ab W cx x a)(V:ab W cx (.BoolOp .And (y::rest) pos) b):ab W cx (.BoolOp .And (x::y::rest) pos) (.oZ a b):=λzz A s g σ env ρ xs av rm i eo he=>by
 refine cP (tA he) λc ae H O=>BoolOp_and ((ha.iu rm i eo H).use λv an aX st q=>?_)
 refine Y q<|wQ ?_
 clear he H q;cases c with
 |true=>
  simp only[if_true] at O⊢
  refine cP (tA O) λc' aF h3 h4=>i5 h4 λz1 z2=>?_;clear h4;subst z1;clear O;subst z2
  exact Runs.after st ((V.iu rm st.inv (eo.step st) h3).mono λr g' q=>(ai _ rfl (Y q<|Is.bool)))
 |false=>
  simp only[nw,if_false,dj,iS] at O⊢
  refine xa O λBc AP=>?_;subst Bc;clear O;subst AP
  exact gC aX st _ rfl Is.bool
theorem a6.Cb(ha:a6 W cx x a):a6 W cx (.BoolOp .And [x] pos) a:=λzz A s g σ env ρ b av rm i eo he=>by
 refine isTrue_and ((ha A s g σ env ρ b av rm i eo he).use λc an aX st q=>?_)
 refine Y q ?_
 clear he q;cases b with
 |true=>exact isTrue_and_nil (ai aX st rfl)
 |false=>exact ai aX st rfl
theorem a6.Ga(ha:a6 W cx x a):a6 W cx (.BoolOp .Or [x] pos) a:=λzz A s g σ env ρ b av rm i eo he=>by
 refine isTrue_or ((ha A s g σ env ρ b av rm i eo he).use λc an aX st q=>?_)
 refine Y q ?_
 clear he q;cases b with
 |false=>exact isTrue_or_nil (ai aX st rfl)
 |true=>exact ai aX st rfl
theorem a6.and(ha:a6 W cx x a)(V:a6 W cx (.BoolOp .And (y::rest) pos) b):a6 W cx (.BoolOp .And (x::y::rest) pos) (.oZ a b):=λzz A s g σ env ρ t av rm i eo he=>by
 have he:=th he
 refine cP (tA he) λc ae H O=>isTrue_and ((ha A s g σ env ρ c ae rm i eo H).use λv an aX st q=>?_)
 refine Y q ?_
 clear he H q;cases c with
 |true=>
  simp only[if_true] at O⊢
  refine cP (tA O) λc' aF h3 h4=>?_
  simp only[dj,iS,gT,as7.d.injEq,Do,and_true] at h4
  refine xa h4 λBe Bf=>?_;subst Be;clear O h4;clear he;subst Bf
  exact Runs.after st (V A an aX ae env ρ c' aF rm st.inv (eo.step st) h3)
 |false=>
  simp only[nw,if_false,dj,iS,gT,as7.d.injEq,Do,and_true] at O⊢
  refine xa O λKr vq=>?_;subst Kr;clear O;clear he;subst vq
  exact ai aX st rfl
theorem a6.or(ha:a6 W cx x a)(V:a6 W cx (.BoolOp .Or (y::rest) pos) b):a6 W cx (.BoolOp .Or (x::y::rest) pos) (.mw a b):=λzz A s g σ env ρ t av rm i eo he=>by
 have he:=th he
 refine cP (tA he) λc ae H O=>isTrue_or ((ha A s g σ env ρ c ae rm i eo H).use λv an aX st q=>?_)
 refine Y q ?_
 clear he H q;cases c with
 |false=>
  simp only[nw,if_false] at O⊢
  refine cP (tA O) λc' aF h3 h4=>?_
  simp only[dj,iS,gT,as7.d.injEq,Do,and_true] at h4
  refine xa h4 λaop MG=>?_;subst aop;clear O h4;clear he;subst MG
  exact Runs.after st (V A an aX ae env ρ c' aF rm st.inv (eo.step st) h3)
 |true=>
  simp only[if_true,dj,iS,gT,as7.d.injEq,Do,and_true] at O⊢
  refine xa O λakI Bg=>?_;subst akI;clear O;clear he;subst Bg
  exact ai aX st rfl
theorem ab.ite(hc:a6 W cx c a)(hx:ab W cx x b)(hy:ab W cx y d):ab W cx (.IfExp c x y pos) (.ite a b d):=λzz A s g σ env ρ xs av rm i eo he=>by
 refine cP (tA he) λt ae H O=>wpAny_IfExp ((hc A s g σ env ρ t ae rm i eo H).use λt' an aX st q=>?_)
 refine Y q ?_
 clear he H q;cases t with
 |true=>
  simp only[if_true,sG] at O⊢
  refine ar O λBh h3 h4=>?_;obtain⟨v,aF⟩:=Bh
  refine i5 h4 λz1 z2=>?_;clear h4;subst z1;clear O;subst z2
  exact Runs.after st ((hx.one rm st.inv (eo.step st) h3).mono λr g' q=>(ai _ rfl q))
 |false=>
  simp only[nw,if_false,sG] at O⊢
  refine ar O λakJ h3 h4=>?_;obtain⟨v,aF⟩:=akJ
  refine i5 h4 λz1 z2=>?_;clear h4;subst z1;clear O;subst z2
  exact Runs.after st ((hy.one rm st.inv (eo.step st) h3).mono λr g' q=>(ai _ rfl q))
theorem ab.neg:ab W cx (.UnaryOp .USub (.Constant (.int i) k p) pos) (.lit (.int (-i))):=λzz A s g σ env ρ xs av rm i eo he=>by
 refine i5 he λz1 z2=>?_;clear he;subst z1 z2
 exact wpAny_UnaryOp (zf (ZX (gC g (.tok i _) _ rfl Is.int)))
end
theorem agJ(x y:Str):cA (.str x) (.str y)=(x==y):=rfl
theorem PE:∀{kvs:List (ah×ah)},iZ kvs=true->(kvs.map (·.1)).Nodup
 |[],_=>Ha
 |(k,d)::r,h=>by
  simp only[HD,cm,wP] at h
  refine xa h λMH h3=>xa MH λH O=>Y bE<|si lW<|⟨λhm=>?_,PE h3⟩
  refine cr hm λq hq e=>?_
  rw[OD] at O
  have:=O q hq
  rw[e] at this
  cases k with
  |str x=>exact this (Y (agJ _ _)<|beq_self_eq_true x)
  |_=>simp[oL] at H
theorem adR(h:iZ kvs=true):∀p∈kvs,oL p.1=true:=by
 induction kvs with
 |nil=>intro p hp;cases hp
 |cons a r ih=>
  simp only[HD,cm] at h
  intro p hp
  rcases bK.mp hp with rfl|q
  .exact h.1.1
  .exact ih h.2 p q
theorem acL(h:oL d=true):∃x:Str,d= .str x/\x.cps[0]? =some 63:=by
 cases d with
 |str x=>exact ai x rfl (by simpa [oL] using h)
 |_=>simp[oL] at h
theorem QT:∀{es:List zO} {kvs:List (ah×ah)},aT g (es.map (·.key)) (kvs.map (·.1))->aT g (es.map (·.val)) (kvs.map (·.2))->(∀p∈kvs,oL p.1=true)->
 (∀e∈es,UR e.key)/\∃xs,Pairs (strKind prog w) es xs/\xs.map (λx=>eB x.1)=kvs.map (·.1)/\aT g (xs.map (·.2)) (kvs.map (·.2))
 |[],[],_,_,_=>⟨λe he=>(by cases he),[], .nil,rfl, .nil⟩
 |[],p::r,h,_,_=>by have:=h.length;simp at this
 |e::es,[],h,_,_=>by have:=h.length;simp at this
 |e::es,p::r,h,h',hk=>by
  rw[bE,bE] at h h'
  obtain⟨i1,xs,i2,i3,i4⟩:=QT h.tail h'.tail λq hq=>hk q (.tail _ hq)
  refine ar (acL (hk p (.head _))) λx ex hx=>?_
  have hh:=h.head
  rw[ex] at hh
  refine xe hh.str_inv λt et=>J4 (λf hf=>?_) ((x,e.val)::xs) (.cons (by refine Y et ?_;exact mM _ _ _ _) rfl i2) (Y bE<|Y bE<|Y i3<|Y ex rfl) ?_
  .rcases bK.mp hf with rfl|q
   .exact gq x t et hx
   .exact i1 f q
  .exact Y bE<|Y bE<| .cons h'.head i4
structure TabAt(G:eI)(g h:aG)(a:az)(kvs:List (ah×ah))(xs:List (Str×ao)):Prop where
 ne:(a==sysModules)=false
 dict:h.DictOf (strKind G.prog G.w) a xs
 keys:xs.map (λx=>eB x.1)=kvs.map (·.1)
 vals:aT g (xs.map (·.2)) (kvs.map (·.2))
theorem Qg:∀{xs:List (Str×ao)},(xs.map λx=>eB x.1).Nodup->(xs.map (·.1)).Nodup
 |[],_=>Ha
 |x::xs,h=>by
  rw[bE,lW] at h⊢
  refine⟨λhm=>h.1 ?_,Qg h.2⟩
  exact cr hm λy hy e=>fQ.mpr (ai y hy (Y e rfl))
section
variable{W:Wd}{A:bV}{s:aJ}{g:aG}{σ:Sg}
theorem xU(hG:kh W.G)(i:Inv W.G g σ s)(h:Is g v (.dict kvs))(ok:iZ kvs=true):∃a xs,v= .ref a/\TabAt W.G g s.heap a kvs xs:=by
 refine xe h λas r=>?_
 cases r with
 | @dict a o es n _ b1 b2 ho hc hd hk hv=>
   refine J3 (QT (prog:=W.G.prog) (w:=W.G.w) ⟨_,hk⟩ ⟨_,hv⟩ (adR ok)) λH xs O h3 h4=>xa ((i.tab a o ho (JB hG i ho (by refine Y hc ?_;decide))).tab hc es n hd H) λhx hh=>?_
   refine gq a xs rfl ⟨?_,(sU o es n (i.sub _ _ ho) hx hd (λe he=>?_) O (Qg (h3▸PE ok))),h3,h4⟩
   .rw[beq_eq_false_iff_ne]
    rintro rfl
    refine xx hG.sys λo' jO n' e x t zz=>j3 zz λq1 q2 q3 q4 q5=>?_
    have:=i.base _ _ q1
    rw[ho] at this
    clear q1;injection this with Bj;subst Bj
    rw[hd] at q2
    injection q2 with KB akK;subst KB akK
    refine cP (H e (Dg q3)) λy u e1 e2=>?_
    rw[q4] at e1
    injection e1 with Bk akL;subst Bk akL
    exact q5 e2
   .exact cP (H e (Dh.mpr he)) λy u e1 zz=>ai y (Y e1<|mM _ _ _ _) (hh e (Dh.mpr he) y u e1)
end
theorem HV(k:Str)(x:Str)(d:ah):tG k (.str x,d)=(x==k):=rfl
theorem Et:∀{xs:List (Str×ao)} {kvs:List (ah×ah)} {g:aG},xs.map (λx=>eB x.1)=kvs.map (·.1)->aT g (xs.map (·.2)) (kvs.map (·.2))->∀(k:Str),
 kvs.any (tG k)=(valueAt xs k).isSome/\(∀d,nM kvs k=some d->∃v,valueAt xs k=some v/\Is g v d)/\(nM kvs k=none->valueAt xs k=none)
 |[],[],g,_,_,k=>(bO rfl (λd h=>by simp[nM] at h) (λzz=>rfl))
 |[],_::_,_,e,_,_=>by simp at e
 |_::_,[],_,e,_,_=>by simp at e
 |(x,v)::xs,(y,d)::kvs,g,e,hi,k=>by
  simp only[bE,gT] at e hi
  obtain⟨rfl,e⟩:=e
  obtain⟨i1,i2,i3⟩:=Et e hi.tail k
  unfold nM valueAt
  refine Y w7<|Y wW<|Y wW<|Y (HV _ _ _) ?_
  by_cases hk:x=k
  .subst hk
   simp only[beq_self_eq_true,Bool.true_or,decide_true,uE,aae,dj,true_and]
   refine⟨λd' h=>(ai v rfl (h▸hi.head)),λh=>by exact ft h⟩
  .have H:(x==k)=false:=by simpa using hk
   exact Y H<|Y (decide_eq_false hk)<|Y (Bool.false_or _)<|bO i1 i2 i3
theorem JC(e:xs.map (λx=>eB x.1)=kvs.map (·.1))(hi:aT g (xs.map (·.2)) (kvs.map (·.2)))(hv:Is g v d):
 (stored xs k v).map (λx=>eB x.1)=(m3 kvs k d).map (·.1)/\aT g ((stored xs k v).map (·.2)) ((m3 kvs k d).map (·.2)):=by
 have vX:kvs.any (tG k)=xs.any (λkv=>decide (kv.1=k)):=by
  clear hi
  induction xs generalizing kvs with
  |nil=>cases kvs with
   |nil=>rfl
   |cons _ _=>simp at e
  |cons x xs ih=>cases kvs with
   |nil=>simp at e
   |cons p r=>
    obtain⟨y,d'⟩:=p
    simp only[bE,gT] at e
    obtain⟨rfl,e⟩:=e
    rw[w7,w7,ih e,HV,show(x.1==k)=decide (x.1=k) by by_cases q:x.1=k<;>simp[q]]
 unfold stored m3
 refine Y vX ?_
 by_cases V:xs.any (λkv=>decide (kv.1=k))=true
 .refine Y (if_pos V)<|Y (if_pos V) ?_
  clear vX V
  induction xs generalizing kvs with
  |nil=>clear hi;cases kvs with
   |nil=>exact⟨rfl, .nil⟩
   |cons _ _=>simp at e
  |cons x xs ih=>cases kvs with
   |nil=>simp at e
   |cons p r=>
    obtain⟨y,d'⟩:=p
    obtain⟨x,u⟩:=x
    simp only[bE,gT] at e
    rw[bE] at hi
    obtain⟨rfl,e⟩:=e
    obtain⟨i1,i2⟩:=ih e hi.tail
    simp only[bE,HV]
    by_cases hk:x=k
    .clear ih;subst hk
     simp only[beq_self_eq_true,if_true,gT,true_and]
     exact⟨i1, .cons hv i2⟩
    .have H:(x==k)=false:=by simpa using hk
     simp only[H,hk,if_false,nw,gT,true_and]
     exact⟨i1, .cons hi.head i2⟩
 .exact Y (if_neg V)<|Y (if_neg V)<|Y fk<|Y fk<|Y fk<|Y fk<|Y e<|⟨rfl,hi.append (.one hv)⟩
theorem Ho:∀{es:List zO} {xs:List (Str×ao)},Pairs (strKind prog w) es xs->aT g (es.map (·.key)) (xs.map λx=>eB x.1)/\es.map (·.val)=xs.map (·.2)
 |_,_, .nil=>⟨.nil,rfl⟩
 |_,_,@Pairs.cons _ _ _ _ _ e kv es kvs H O h3=>by
  refine xa (Ho (g:=g) h3) λi1 i2=>?_
  simp only[bE]
  refine⟨.cons ?_ i1,by exact Y i2<|Y O rfl⟩
  cases hk:e.key with
  |str x t=>
   rw[hk] at H
   have:x=kv.1:=by simpa [w8,zk] using H
   exact this▸Is.str
  |_=>rw[hk] at H;simp[w8,zk] at H
theorem TN(i:Inv G g σ s)(hk:∀b o,s.heap.get? b=some o->s'.heap.get? b=some o)(eg:s'.gens=s.gens)(eo:s'.os=s.os)
 (ha:s.heap.get? a=none) (hd:s'.heap.DictOf (strKind G.prog G.w) a xs) (H:xs.map (λx=>eB x.1)=kvs.map (·.1)) (O:aT g (xs.map (·.2)) (kvs.map (·.2))):
 ∃g',aS G s g σ s' g'/\Is g' (.ref a) (.dict kvs):=by
 refine pU hd λo es ep ho hx iI wn hp hn=>?_
 have pa:=i.sub.trans hk
 have st:=aS.WY i hk eg eo (·=a) (λb V=>V▸ha) λb o' V eJ=>by
  clear ha hd;subst V
  rw[ho] at eJ
  injection eJ with KH;subst KH
  refine⟨λzz jO n' dw zz=>?_,λzz=>hx.2.1⟩
  rw[iI] at dw
  injection dw with vr akM;subst vr akM
  refine⟨hx,λe he x t ex=>?_⟩
  refine ar (wn e (Dh.mp he)) λk pn po=>?_
  rw[ex] at pn
  have:x=k:=by simpa [w8,zk] using pn
  refine Y po<|sl this ?_;rfl
 refine ai _ st<|xa (Ho (g:=cv g s'.heap (·=a)) hp) λp1 p2=>?_
 rw[H] at p1
 have p3:=O.mono st.grow
 rw[<- p2] at p3
 exact xe p1 λzz r1=>xe p3 λzz r2=>⟨_, .dict (nH rfl ho) hx.1 iI r1 r2⟩
theorem DY(hx:iH x=true)(hy:iH y=true):cA x y=true↔x=y:=
 qm x y (Fp x (pP hx).2.1) (Fp y (pP hy).2.1)
theorem JD(hk:iH k=true)(hs:Sub g h)(q:Is g u k):∃b,u= .ref b/\r8 h k b:=by
 refine fU (pP hk) λH zz zz zz=>?_
 cases k with
 |tuple xs=>
  refine xQ (id q.kH) λa o vs n Kn zz=>?_;subst Kn
  exact bQ a rfl hk (q.mono hs)
 |_=>simp[fc] at H
section
open Classical in
theorem Sd:∀{xs:List (ah×az×ao)} {kvs:List (ah×ah)} {g:aG},xs.map (·.1)=kvs.map (·.1)->aT g (xs.map (·.2.2)) (kvs.map (·.2))->(∀x∈xs,iH x.1=true)->∀{k:ah},iH k=true->∀{d},ve kvs k=some d->
 ∃p,atKey xs k=some p/\Is g p.2 d
 |[],[],_,_,_,_,k,_,d,h=>by simp[ve] at h
 |[],_::_,_,e,_,_,_,_,_,_=>by simp at e
 |_::_,[],_,e,_,_,_,_,_,_=>by simp at e
 |(x,p)::xs,(y,d')::kvs,g,e,hi,hx,k,hk,d,h=>by
  simp only[bE,gT] at e hi
  obtain⟨rfl,e⟩:=e
  unfold ve at h
  unfold atKey
  rw[wW] at h⊢
  by_cases hq:x=k
  .subst hq
   have:mR x (x,d')=true:=(DY hk hk).mpr rfl
   rw[this] at h
   simp only[uE,dj] at h
   subst h
   refine⟨p,by simp,hi.head⟩
  .have:mR k (x,d')=false:=by
    cases z:mR k (x,d') with
    |false=>rfl
    |true=>exact absurd ((DY (hx _ (.head _)) hk).mp z) hq
   rw[this] at h
   simp only[hq,decide_false]
   exact Sd e hi.tail (λq hq=>hx q (.tail _ hq)) hk h
open Classical in
theorem TP{xs:List (ah×az×ao)}{kvs:List (ah×ah)}{g:aG}(e:xs.map (·.1)=kvs.map (·.1))(hi:aT g (xs.map (·.2.2)) (kvs.map (·.2)))(ha:aT g (xs.map λx=> .ref x.2.1) (kvs.map (·.1)))(hx:∀x∈xs,iH x.1=true)
 {k:ah} (hk:iH k=true) {a:az} {v:ao} {d:ah} (hv:Is g v d) (Nd:Is g (.ref a) k):
 (storedH xs k a v).map (·.1)=(ml kvs k d).map (·.1)/\aT g ((storedH xs k a v).map (·.2.2)) ((ml kvs k d).map (·.2))/\aT g ((storedH xs k a v).map λx=> .ref x.2.1) ((ml kvs k d).map (·.1))/\(ml kvs k d).length<=kvs.length+1:=by
 have hs:∀(x d':ah),iH x=true->mR k (x,d')=decide (x=k):=λx d' ng=>by
  by_cases hq:x=k
  .clear Nd;subst hq;exact Y (decide_eq_true rfl)<|(DY hk hk).mpr rfl
  .refine Y (decide_eq_false hq) ?_
   cases z:mR k (x,d') with
   |false=>rfl
   |true=>exact absurd ((DY ng hk).mp z) hq
 have vX:kvs.any (mR k)=(atKey xs k).isSome:=by
  unfold atKey
  clear hi ha
  induction xs generalizing kvs with
  |nil=>cases kvs with
   |nil=>rfl
   |cons _ _=>simp at e
  |cons x xs ih=>cases kvs with
   |nil=>simp at e
   |cons p r=>
    obtain⟨y,d'⟩:=p
    simp only[bE,gT] at e
    obtain⟨rfl,e⟩:=e
    refine Y w7<|Y (ih e λq hq=>hx q (.tail _ hq))<|Y (hs _ _ (hx x (.head _)))<|Y wW ?_
    cases decide (x.1=k)<;>rfl
 unfold storedH ml
 refine Y vX ?_
 by_cases V:(atKey xs k).isSome=true
 .refine Y (if_pos V)<|Y (if_pos V)<|Y (aw _)<|and_assoc.mp (and_assoc.mp ⟨?_,sR _⟩)
  clear vX V
  clear Nd;induction xs generalizing kvs with
  |nil=>clear hi ha;cases kvs with
   |nil=>exact⟨⟨rfl, .nil⟩, .nil⟩
   |cons _ _=>simp at e
  |cons x xs ih=>cases kvs with
   |nil=>simp at e
   |cons p r=>
    obtain⟨y,d'⟩:=p
    obtain⟨x,b,u⟩:=x
    simp only[bE,gT] at e
    simp only[bE] at hi ha
    obtain⟨rfl,e⟩:=e
    obtain⟨⟨i1,i2⟩,i3⟩:=ih e hi.tail ha.tail λq hq=>hx q (.tail _ hq)
    have X':=hs x d' (hx _ (.head _))
    simp only[bE,X',putAt]
    by_cases hq:x=k
    .clear ih X';clear hs;subst hq
     simp only[decide_true,if_true,gT,true_and]
     exact⟨⟨i1, .cons hv i2⟩, .cons ha.head i3⟩
    .simp only[hq,decide_false,nw,if_false,gT,true_and]
     exact⟨⟨i1, .cons hi.head i2⟩, .cons ha.head i3⟩
 .refine Y (if_neg V)<|Y (if_neg V) ?_
  simp only[fk,bE,uF,cS,bL,dO,e]
  exact fb trivial (hi.append (.one hv)) (ha.append (.one Nd)) (a8 _)
end
section
variable{g:aG}{vs:List ao}{ds:List ah}
theorem aT.drop:∀{vs:List ao} {ds:List ah} (n:Nat),aT g vs ds->aT g (vs.drop n) (ds.drop n)
 |_,_,0,h=>h
 |vs,[],n+1,h=>by exact Y h.nil_inv<| .nil
 |vs,d::ds,n+1,h=>by
  refine bZ h.cons_inv λv ws akN zz k=>?_;subst akN
  exact k.drop n
theorem aT.take:∀{vs:List ao} {ds:List ah} (n:Nat),aT g vs ds->aT g (vs.take n) (ds.take n)
 |_,_,0,h=> .nil
 |vs,[],n+1,h=>by exact Y h.nil_inv<| .nil
 |vs,d::ds,n+1,h=>by
  refine bZ h.cons_inv λv ws akO a k=>?_;subst akO
  exact .cons a (k.take n)
theorem aT.reverse:∀{vs:List ao} {ds:List ah},aT g vs ds->aT g vs.reverse ds.reverse
 |vs,[],h=>by exact Y h.nil_inv<| .nil
 |vs,d::ds,h=>by
  refine bZ h.cons_inv λv ws KI a k=>?_;subst KI
  exact Y OE<|Y OE<|k.reverse.append (.one a)
theorem aT.dropLast(h:aT g vs ds):aT g vs.dropLast ds.dropLast:=by
 exact Y Oh<|Y Oh<|Y h.length<|h.take _
end
section
variable{W:Wd}{cx:Cx}{A:bV}{s:aJ}{g:aG}{σ av:Sg}{ρ:List aK}{κ:cF}
theorem pairs_at:∀{kvs:List (Str×ao)} {σ:Sg} {g:aG},kvs.map (·.1)=σ.map (·.1)->aT g (kvs.map (·.2)) (σ.map (·.2))->∀{k:Str} {d:ah},σ.lookup k=some d->∃v,valueAt kvs k=some v/\Is g v d
 |[],[],_,_,_,k,d,h=>by simp at h
 |[],_::_,_,e,_,_,_,_=>by simp at e
 |_::_,[],_,e,_,_,_,_=>by simp at e
 |(a,v)::kvs,(b,x)::σ,g,e,hi,k,d,h=>by
  simp only[bE,gT] at e hi
  obtain⟨rfl,e⟩:=e
  rw[lT] at h
  unfold valueAt
  refine Y wW ?_
  by_cases hk:k=a
  .subst hk
   rw[beq_self_eq_true,dj] at h
   subst h
   exact⟨v,by simp,hi.head⟩
  .have H:(k==a)=false:=by simpa using hk
   have O:(decide (a=k))=false:=by simpa using λq=>hk q.symm
   rw[H] at h
   exact Y O<|pairs_at e hi.tail h
theorem QU:∀{kvs:List (Str×ao)} {σ:Sg} {g:aG},kvs.map (·.1)=σ.map (·.1)->aT g (kvs.map (·.2)) (σ.map (·.2))->∀{k:Str} {v:ao} {d:ah},Is g v d->
 (kvs.map λkv=>if kv.1=k then(kv.1,v) else kv).map (·.1)=(σ.map λp=>if p.1=k then(k,d) else p).map (·.1)/\
 aT g ((kvs.map λkv=>if kv.1=k then(kv.1,v) else kv).map (·.2)) ((σ.map λp=>if p.1=k then(k,d) else p).map (·.2))
 |[],[],_,_,h,k,v,d,hv=>⟨rfl, .nil⟩
 |[],_::_,_,e,_,_,_,_,_=>by simp at e
 |_::_,[],_,e,_,_,_,_,_=>by simp at e
 |(a,u)::kvs,(b,x)::σ,g,e,hi,k,v,d,hv=>by
  simp only[bE,gT] at e
  simp only[bE] at hi
  obtain⟨rfl,e⟩:=e
  obtain⟨i1,i2⟩:=QU e hi.tail (k:=k) hv
  simp only[bE,gT]
  by_cases hk:a=k
  .subst hk
   simp only[if_true]
   exact⟨⟨trivial,i1⟩, .cons hv i2⟩
  .simp only[hk,if_false]
   exact⟨⟨trivial,i1⟩, .cons hi.head i2⟩
theorem ae5(i:Inv W.G g σ s){k:Str}{d:ah}{t:Tok}(h:σ.lookup k=some d):Runs W.G A s g σ (getItem (.ref W.G.c) (.str k t)) (λr g'=>Is g' r d):=by
 exact jg i.shr λkvs hd e hi hl=>ar (pairs_at e hi h) λv hv q=>aaF (mM W.G.prog W.G.w k t) hd.mapOf hv (ai g (.tok i _) q)
theorem ae6(i:Inv W.G g σ s){value slice:Expr}(hs:zQ slice){k:Str}{d:ah}{t:Tok}(h:σ.lookup k=some d):
 Runs W.G A s g σ (subscriptTail value slice (.ref W.G.c) (.str k t)) (λr g'=>Is g' r d):=by
 exact jg i.shr λkvs hd e hi hl=>tb hd.typeIs OF.lookup (ae5 i h) (hs _ _)
theorem ae7{n:Nat}{k:Int}(h:df k=true): -(2^ 63)<=k/\k<2^ 63:=by
 simp only[df,cm,decide_eq_true_eq] at h;exact XT h
theorem agK(hG:kh W.G)(i:Inv W.G g σ s){v:ao}{kvs:List (ah×ah)}(h:Is g v (.dict kvs))(ok:iZ kvs=true){k:Str}{d:ah}{t:Tok}(hl:nM kvs k=some d):∃a,v= .ref a/\s.TypeIs (.ref a) "dict"/\Runs W.G A s g σ (getItem (.ref a) (.str k t)) (λr g'=>Is g' r d):=by
 refine cP (xU hG i h ok) λa xs akP T=>?_;clear h;subst akP
 exact ar ((Et T.keys T.vals k).2.1 d hl) λu hu q=>bQ a rfl T.dict.typeIs (aaF (mM W.G.prog W.G.w k t) T.dict.mapOf hu (ai g (.tok i _) q))
theorem agL(hG:kh W.G)(i:Inv W.G g σ s){value slice:Expr}(hs:zQ slice){v:ao}{kvs:List (ah×ah)}(h:Is g v (.dict kvs))(ok:iZ kvs=true){k:Str}{d:ah}{t:Tok}(hl:nM kvs k=some d):
 Runs W.G A s g σ (subscriptTail value slice v (.str k t)) (λr g'=>Is g' r d):=by
 obtain⟨a,rfl,hT,r⟩:=agK (A:=A) hG i h ok hl
 exact tb hT OF.lookup r (hs _ _)
open Classical in
theorem aix{n:Nat}(rm:dK A n)(i:Inv W.G g σ s){value slice:Expr}(hs:zQ slice){v:ao}{kvs:List (ah×ah)}(h:iN W.G g v (.dk kvs)){k d:ah}(hk:iH k=true){u:ao}(hu:Is g u k)(hl:ve kvs k=some d):
 Runs W.G A s g σ (subscriptTail value slice v u) (λr g'=>Is g' r d):=by
 obtain⟨a,rfl,h⟩:=h
 obtain⟨xs,hd,jH,H,O,h3,h4⟩:=(h.step (h':=s.heap) Sub.rfl λo e=>i.sub _ _ e).X4 i.sub
 obtain⟨b,rfl,V⟩:=JD hk i.sub hu
 have hx:=λx hx=>(jH x hx).1
 obtain⟨p,hp,q⟩:=Sd H h3 hx hk hl
 have hT:=arZ hd
 have akQ:(E0 W.G.prog W.G.w).room A.in1:=by
  have:=rm.units;exact aO [(J (J (J B (.mulL 16 v1)) (.num 400)) k1,v2)] (J (J (J B k1) (.num 20)) k1,v2) rfl this
 exact tb hT OF.lookup (wpAny_getItem_heap akQ V hd hp ⟨g, .tok i _,q⟩) (hs _ _)
theorem ab.item(hG:kh W.G){v sl:Expr}{a b:E}{pos:Pos}(ha:ab W cx v a)(V:ab W cx sl b)(hs:zQ sl:=by intro _ _;rfl):ab W cx (.Subscript v sl pos) (.item a b):=λzz A s g σ env ρ xs av rm i eo he=>by
 refine aP he λAZ H he=>?_;obtain⟨x,ae⟩:=AZ
 refine aP he λKJ O he=>?_;obtain⟨y,aF⟩:=KJ
 refine aP he λd h3 he=>?_
 injection he with akR;injection akR with agM agN;subst agM;clear he;subst agN
 refine QH ((ha.one rm i eo H).use λo an aX st q=>?_)
 refine(V.ba rm st.inv (eo.step st) O).use λu aD aN bb eS=>Runs.after (st.trans bb) (Runs.mono (P:=λr g'=>Is g' r d) ?_ λr g' q=>(ai _ rfl q))
 have q:=iN.mono q bb.grow
 clear H O;clear he;cases x with
 |d x=>
  change J9 x y=_ at h3
  cases y with
  |int k=>
   exact xa (jZ h3) λhk h4=>ae2 hs bb.inv q eS h4 (ae7 (n:=0) hk)
  |str k=>
   refine aP h3 λkvs h4 h5=>xa (jZ h5) λhk h6=>?_
   clear h3;obtain rfl:=Ab h4
   refine xe eS.str_inv λt vt=>?_;clear eS;subst vt
   exact agL hG bb.inv hs q hk h6
  |none=>exact aC h3
  |bool _=>exact aC h3
  |tuple _=>exact aC h3
  |list _=>exact aC h3
  |dict _=>exact aC h3
 |feed=>
  refine aP h3 λk h4 h5=>?_
  clear h3;obtain rfl:=uP h4
  refine xe eS.str_inv λt AU=>?_;clear eS;subst AU
  obtain rfl:o= .ref W.G.c:=q
  exact ae6 bb.inv hs h5
 |dk kvs=>
  exact xa (jZ h3) λhk h4=>aix rm bb.inv hs q hk eS h4
 |me _=>exact aC h3
inductive qy:Option Expr->Option Int->Prop
 |none:qy acn acn
 |nat {i:Int} {k:Nat} {p:Pos}:qy (some (.Constant (.int i) k p)) (some i)
 |neg {i:Int} {k:Nat} {p q:Pos}:qy (some (.UnaryOp .USub (.Constant (.int i) k p) q)) (some (-i))
theorem IA{x:Option Expr}{k:Option Int}(h:qy x k){env:Env}{Q:VS}{E:VS}(q:∀v tk,kO v k->Q v {s with toks:=tk}):wpAny (model W.G.prog W.G.w) A (evalPart x env) Q E s:=by
 cases h with
 |none=>exact aH (q _ s.toks .none)
 | @nat i k p=>exact zf (k:=k) (pos:=p) (q _ _ (.int _ _))
 | @neg i k p r=>exact wpAny_UnaryOp (pos:=r) (zf (k:=k) (pos:=p) (ZX (q _ _ (.int _ _))))
noncomputable def iX:SK->Option Int×Option Int×Option Int
 | .eO=>(some 1,none,none)
 | .s8=>(some (-2),none,some (-1))
 | .tN n=>(none,some n,none)
 | .rev=>(none,none,some (-1))
 | .rL=>(none,some 0,some (-1))
theorem adS{lo hi st:Option Expr}{k:SK}{p:Pos}(H:qy lo (iX k).1)(O:qy hi (iX k).2.1)(h3:qy st (iX k).2.2){env:Env}{Q:VS}{E:VS}
 (q:∀vl vu vs tk,kO vl (iX k).1->kO vu (iX k).2.1->kO vs (iX k).2.2->Q (.ref s.heap.objs.size) {s with heap:=s.heap.push {cls:= .type "slice",data:= .fields #[vl,vu,vs]},toks:=tk}):
 wpAny (model W.G.prog W.G.w) A (eval (.Slice lo hi st p) env) Q E s:=
 wpAny_Slice (IA H λvl t1 p1=>IA O λvu t2 p2=>IA h3 λvs t3 p3=>q vl vu vs t3 p1 p2 p3)
theorem IB{α:Type}(xs:Array α)(m:Nat):((lr m).map λk=>m - 1 - k).filterMap (xs[·]?)=(xs.toList.take m).reverse:=by
 have e:(lr m).map (λk=>m - 1 - k)=(lr m).reverse:=by
  apply Dt
  .simp
  .intro i H O
   refine Y (List.getElem_map _)<|Y (List.getElem_reverse _) ?_
   simp
 have h:=pick_run xs 0 m
 have e2:(lr m).map (0+ ·)=lr m:=by
  exact Y (show((0+ ·):Nat->Nat)=id from funext λk=>js k)<|Y (HC _) rfl
 rw[e2,List.drop_zero] at h
 exact Y e<|Y List.filterMap_reverse<|Y h rfl
theorem Qh(m:Nat)(a:Int)(ha:a=(m:Int) - 1):sliceRange a (-1) (-1)=(lr m).map λk=>m - 1 - k:=by
 unfold sliceRange
 subst ha
 have H:¬((-1:Int)>0):=by decide
 have e:(if (-1:Int)>0 then(if ((m:Int) - 1)< -1 then(-1 - ((m:Int) - 1)+ -1 - 1) / -1 else 0) else(if ((m:Int) - 1)> -1 then(((m:Int) - 1) - -1 - -1 - 1) / (- -1) else 0)).toNat=m:=by
  simp only[H,if_false]
  exact idn m
 simp only[e]
 apply mG
 intro k hk
 exact idk (zh.mp hk)
theorem ae8(items:Array ao):slicePick items none none (some (-1))=items.toList.reverse.toArray:=by
 unfold slicePick
 have V:sliceBounds none none (some (-1)) items.size=((items.size:Int) - 1,-1,-1):=by
  simp only[sliceBounds,aaG,show ¬((-1:Int)>0) by decide,if_false]
 refine Y V<|Y (Qh items.size _ rfl)<|Y (IB _ _) ?_
 rw[Od (by simp)]
theorem adT(items:Array ao):slicePick items (some (-2)) none (some (-1))=items.toList.dropLast.reverse.toArray:=by
 unfold slicePick
 have V:sliceBounds (some (-2)) none (some (-1)) items.size=(((items.size - 1:Nat):Int) - 1,-1,-1):=by
  simp only[sliceBounds,aaG,show ¬((-1:Int)>0) by decide,if_false,show(-2:Int)<0 by decide,if_true,iS,and_true]
  exact imx _
 refine Y V<|Y (Qh (items.size - 1) _ rfl)<|Y (IB _ _)<|Y Oh ?_
 simp
theorem ae9{g:aG}{vs:Array ao}{xs:List ah}(h:aT g vs.toList xs){k:SK}(hk:J8 k=true):aT g (slicePick vs (iX k).1 (iX k).2.1 (iX k).2.2).toList (B6 k xs):=by
 cases k with
 |eO=>
  show aT g (slicePick vs (some (1:Nat)) none none).toList _
  exact Y (slicePick_from' _ _)<|h.drop 1
 |tN n=>
  show aT g (slicePick vs none (some (n:Nat)) none).toList _
  exact Y (slicePick_upto' _ _)<|h.take n
 |s8=>
  show aT g (slicePick vs (some (-2)) none (some (-1))).toList _
  exact Y (adT _)<|h.dropLast.reverse
 |rev=>
  show aT g (slicePick vs none none (some (-1))).toList _
  exact Y (ae8 _)<|h.reverse
 |rL=>exact aQ hk
theorem agO(k:SK):(iX k).2.2≠some 0:=by cases k<;>simp[iX]
theorem HG{v:ao}{k:Option Int}(h:kO v k){Q:Option Int->aJ->Prop}{E:VS}(q:Q k s):wpAny (model W.G.prog W.G.w) A (arP v) Q E s:=by
 cases h with
 |none=>exact slicePart_none q
 |int=>exact slicePart_int q
theorem aaB{sl:az}{n:Nat}{vl vu vs:ao}{lo hi st:Option Int}(hs:s.heap.IsSliceOf sl vl vu vs)(pl:kO vl lo)(pu:kO vu hi)(ps:kO vs st)(h0:st.getD 1≠0){Q:Int×Int×Nat->aJ->Prop}{E:VS}
 (q:Q ((uv lo hi (st.getD 1) n).1,st.getD 1,y9 (uv lo hi (st.getD 1) n).1 (uv lo hi (st.getD 1) n).2 (st.getD 1)) s):
 wpAny (model W.G.prog W.G.w) A (arS (.ref sl) (pure (n:Int))) Q E s:=by
 refine cq (id hs) λos qL Gb sk=>am (am (pQ qL sk (x:=vl) rfl (am (pQ qL sk (x:=vu) rfl (am (pQ qL sk (x:=vs) rfl (aH ?_)))))))
 refine am (HG ps ?_)
 rw[if_neg (by simpa using h0)]
 refine am (HG pl (am (HG pu (am (aH ?_)))))
 exact aH q
theorem QV{t sl:az}{items:Array ao}{vl vu vs:ao}{lo hi st:Option Int}(ht:vN s.heap t items)(hs:s.heap.IsSliceOf sl vl vu vs)(pl:kO vl lo)(pu:kO vu hi)(ps:kO vs st)(h0:st.getD 1≠0){a k:Int}{n:Nat}{r:List ao}
 (H:(uv lo hi (st.getD 1) items.size).1=a) (hk:st.getD 1=k) (O:y9 (uv lo hi (st.getD 1) items.size).1 (uv lo hi (st.getD 1) items.size).2 (st.getD 1)=n)
 (dU:¬(a=0/\k=1/\n=items.size)) (hr:((lr n).filterMap λ(j:Nat)=>items[(a+(j:Int)*k).toNat]?)=r) (hl:r.length<=sizeLine) {Q:VS} {E:VS}
 (h:Q (.ref s.heap.objs.size) {s with heap:=s.heap.push {cls:= .type "tuple",data:= .seq r.toArray}}):
 wpAny (model W.G.prog W.G.w) A (getItem (.ref t) (.ref sl)) Q E s:=by
 have yb:sizeOk (.seq r.toArray):=by show r.toArray.size<=sizeLine;exact hl
 refine cq (id hs) λos qL Gb sk=>?_
 have hTs:s.TypeIs (.ref sl) "slice" :=ai os qL Gb
 unfold getItem
 try with_reducible refine jU ?_
 first|refine am (aH ?_)|skip
 refine am (wpAny_sequenceKey ht.typeIs (by decide) ?_)
 refine am (uw (name:=bl "__getitem__") ht.typeIs Ow
  (ny Ow ht.typeIs entry_tuple_getitem ?_ (args_tuple_getitem _ _)))
 show wpAny _ _ (Zh (.ref t)>>=_) _ _ s
 refine am (tupleItemsOf_ ht ?_)
 refine am (DF hTs ?_)
 rw[if_pos (by decide)]
 refine am (aaB hs pl pu ps h0 ?_)
 rw[H,hk] at*
 have V:¬((a==0 && k==1 && n==items.size)=true):=by simpa [and_assoc] using dU
 rw[H] at O
 refine Y O ?_
 show wpAny _ _ (if (a==0 && k==1 && n==items.size)=true then _ else _) _ _ s
 refine Y (if_neg V)<|Y hr ?_
 first
  |exact am (m:=GJ _) (lh (aH (ai _ rfl (aH h))) yb)
  |exact am (m:=GJ _) (lh (am (aH (aH ⟨_,rfl,aH h⟩))) yb)
  |exact am (am (m:=GJ _) (lh (aH (aH ⟨_,rfl,aH h⟩)) yb))
  |exact am (am (m:=GJ _) (lh (aH ⟨_,rfl,aH h⟩) yb))
end
theorem O3:∀{l:List α},(∀x∈l,f x=f' x)->l.filterMap f=l.filterMap f'
 |[],_=>rfl
 |x::l,h=>by exact Y Oo<|Y Oo<|Y (h x (.head _))<|Y (O3 λy hy=>h y (.tail _ hy)) rfl
section
variable{W:Wd}{cx:Cx}{A:bV}{s:aJ}{g:aG}{σ av:Sg}{ρ:List aK}{κ:cF}
noncomputable def kP(vl vu vs:ao):Obj:={cls:= .type "slice",data:= .fields #[vl,vu,vs]}
theorem aS.VT(i:Inv W.G g σ s)(hr:aT g r xs):
 ∃g',aS W.G s g σ {s with heap:=(s.heap.push (kP vl vu vs)).push {cls:= .type "tuple",data:= .seq r.toArray},toks:=tk} g'/\Is g' (.ref (s.heap.push (kP vl vu vs)).objs.size) (.tuple xs):=by
 have hs:=kF s.heap (kP vl vu vs)
 have:=aS.Ay (T:="tuple") (tk:=tk) (h':=(s.heap.push (kP vl vu vs)).push {cls:= .type "tuple",data:= .seq r.toArray}) (a:=(s.heap.push (kP vl vu vs)).objs.size) i (.inl rfl)
  (λb o e=>bT _ (bT _ e)) (by
   exact Y hs<|om (sR _)) (cJ _ rfl) hr
 rwa [if_pos rfl] at this
theorem aS.akS(i:Inv W.G g σ s)(hr:aT g r xs):
 ∃g',aS W.G s g σ {s with heap:=(s.heap.push (kP vl vu vs)).push {cls:= .type "list",data:= .seq r.toArray},toks:=tk} g'/\Is g' (.ref (s.heap.push (kP vl vu vs)).objs.size) (.list xs):=by
 have hs:=kF s.heap (kP vl vu vs)
 have:=aS.Ay (T:="list") (tk:=tk) (h':=(s.heap.push (kP vl vu vs)).push {cls:= .type "list",data:= .seq r.toArray}) (a:=(s.heap.push (kP vl vu vs)).objs.size) i (.inr rfl)
  (λb o e=>bT _ (bT _ e)) (by
   exact Y hs<|om (sR _)) (cJ _ rfl) hr
 rwa [if_neg (by decide)] at this
theorem afa{n:Nat}(h:1<=n):uv (some 1) none 1 n=(1,(n:Int))/\y9 1 n 1=n - 1:=by
 constructor
 .show(min (1:Int) n,(n:Int))=_
  rw[G7 (show(1:Int)<=n from n3 (a:=1) h)]
 .show(if (1:Int)<n then((n:Int) - 1 - 1) / 1+1 else 0).toNat=n - 1
  exact Y (Px _)<|ifr h
theorem agP{n:Nat}(h:1<=n):uv none (some 0) (-1) n=((n:Int) - 1,0)/\y9 ((n:Int) - 1) 0 (-1)=n - 1:=by
 constructor
 .show((n:Int) - 1,min (0:Int) ((n:Int) - 1))=_
  rw[G7 (tL h▸i0 _)]
 .show(if (n:Int) - 1>0 then((n:Int) - 1 - 0 - 1) / 1+1 else 0).toNat=n - 1
  exact Y (Px _)<|ifz h
theorem agQ{k:SK}{xs:List ah}{ys:ah}{v:ao}{value sl:Expr}(i:Inv W.G g σ s)(hv:Is g v (.tuple xs))(h:nT k (.tuple xs)=some ys){vl vu vs:ao}
 (pl:kO vl (iX k).1) (pu:kO vu (iX k).2.1) (ps:kO vs (iX k).2.2) (hs:∀o i,∃aa,subscripted sl false o i=operate aa (getItem o i)) {tk:Nat}:
 wpAny (model W.G.prog W.G.w) A (subscriptTail value sl v (.ref s.heap.objs.size)) (λr s'=>∃g',aS W.G s g σ s' g'/\Is g' r ys) (λzz zz=>False) {s with heap:=s.heap.push (kP vl vu vs),toks:=tk}:=by
 refine bZ (hv.qo i) λa ig KL ht r=>?_;clear hv;subst KL
 have hl:=r.length
 have k9:vN (s.heap.push (kP vl vu vs)) a ig:=by
  exact ar ht λo ho x=>ai o (bT _ ho) x
 have fZ:(s.heap.push (kP vl vu vs)).IsSliceOf s.heap.objs.size vl vu vs:=aaf ..
 refine xe (hs (.ref a) (.ref s.heap.objs.size)) λaa ho=>?_
 rw[eV] at hl
 refine tb k9.typeIs Ow.lookup ?_ ho
 refine xa (jY h) λhc oQ=>?_;clear h;subst oQ
 simp only[cm,decide_eq_true_eq,<- hl] at hc
 refine xa hc λyc O=>xa yc λhk H=>?_
 have h3:ig.size - 1<=lim:=aB (qY _ _) O
 have h4:∀{a b:Int},¬(a=0/\b=1/\ig.size - 1=ig.size):=λMI=>cj MI λzz zz e=>by exact nz (aM [(B,v1),(J v1 k1,B)] (k1,k0) rfl (aA e.symm) (aU H))
 clear yc;cases k with
 |eO=>
  refine ar (aS.VT (vl:=vl) (vu:=vu) (tk:=tk) i (r.drop 1)) λg' st q=>xa (afa H) λz1 z2=>QV k9 fZ pl pu ps (by decide) (a:=1) (r:=ig.toList.drop 1) (congrArg q8 z1) rfl ?_ h4 ?_ (fG (by simpa using h3)) (ai g' st q)
  .exact(congrArg (λp:Int×Int=>y9 p.1 p.2 1) z1).trans z2
  .have:=pick_run ig 1 (ig.size - 1)
   rw[Ox] at this
   rw[Od (by simp)] at this
   rw[<- this]
   congr 1
   funext j
   show ig[(1+(j:Int)*1).toNat]? =ig[1+j]?
   rw[show(1+(j:Int)*1).toNat=1+j by rw[Int.mul_one];rfl]
 |rL=>
  refine ar (aS.VT (vl:=vl) (vu:=vu) (tk:=tk) i (r.drop 1).reverse) λg' st q=>xa (agP H) λz1 z2=>QV k9 fZ pl pu ps (by decide) (a:=(ig.size:Int) - 1) (r:=(ig.toList.drop 1).reverse) (congrArg q8 z1) rfl ?_ h4 ?_ (fG (by simpa using h3)) (ai g' st q)
  .exact(congrArg (λp:Int×Int=>y9 p.1 p.2 (-1)) z1).trans z2
  .have key:=IB (ig.toList.drop 1).toArray (ig.size - 1)
   rw[Ox] at key
   rw[show(ig.toList.drop 1).toArray.toList=ig.toList.drop 1 from rfl,Od (by simp)] at key
   rw[<- key]
   apply O3
   intro j hj
   have hj:=zh.mp hj
   show ig[((ig.size:Int) - 1+(j:Int)* -1).toNat]? =(ig.toList.drop 1).toArray[ig.size - 1 - 1 - j]?
   rw[show((ig.size:Int) - 1+(j:Int)* -1).toNat=1+(ig.size - 1 - 1 - j) from itn hj,xb]
   simp
 |s8=>exact aQ hk
 |tN n=>exact aQ hk
 |rev=>exact aQ hk
theorem agR{value sl:Expr}(i:Inv W.G g σ s)(hv:Is g v (.list xs))(h:nT k (.list xs)=some ys)
 (pl:kO vl (iX k).1) (pu:kO vu (iX k).2.1) (ps:kO vs (iX k).2.2) (hs:∀o i,∃aa,subscripted sl false o i=operate aa (getItem o i)):
 wpAny (model W.G.prog W.G.w) A (subscriptTail value sl v (.ref s.heap.objs.size)) (λr s'=>∃g',aS W.G s g σ s' g'/\Is g' r ys) (λzz zz=>False) {s with heap:=s.heap.push (kP vl vu vs),toks:=tk}:=by
 refine bZ (hv.xT i) λa ig vw ht r=>?_;clear hv;subst vw
 have hl:=r.length
 have k9:(s.heap.push (kP vl vu vs)).IsList a ig:=ht.push _
 have fZ:(s.heap.push (kP vl vu vs)).IsSliceOf s.heap.objs.size vl vu vs:=aaf ..
 refine xe (hs (.ref a) (.ref s.heap.objs.size)) λaa ho=>?_
 rw[eV] at hl
 refine xa (jY h) λhc oQ=>?_;clear h;subst oQ
 rw[cm,decide_eq_true_eq,<- hl] at hc
 refine tb k9.typeIs OC.lookup ?_ ho
 refine ar (aS.akS (vl:=vl) (vu:=vu) (tk:=tk) i (ae9 r hc.1)) λg' st q=>wpAny_getItem_list_slice k9 fZ pl pu ps (agO k) (ai g' ?_ q) (fG hc.2)
 exact st
theorem ab.dE{lo hi st:Option Expr}(k:SK)(ha:ab W cx v a)(H:qy lo (iX k).1:=by constructor)(O:qy hi (iX k).2.1:=by constructor)(h3:qy st (iX k).2.2:=by constructor)
 (hs:∀o i,∃aa,subscripted (.Slice lo hi st p) false o i=operate aa (getItem o i):=by intro _ _;exact⟨_,rfl⟩):ab W cx (.Subscript v (.Slice lo hi st p) pos) (.dE k a):=λzz A s g σ env ρ xs av rm i eo he=>by
 refine aP he λAY e1 he=>?_;obtain⟨x,ae⟩:=AY
 refine aP he λy e2 he=>?_
 injection he with A6;injection A6 with agS agT;subst agS;clear he;subst agT
 refine QH ((ha.ba rm i eo e1).use λo an aX bN q=>?_)
 refine adS H O h3 λvl vu vs tk pl pu ps=>?_
 dsimp only at e2
 clear e1;clear he;cases x with
 |tuple zs=>
  refine cn (agQ bN.inv q e2 pl pu ps hs) ?_ λzz zz f=>f
  intro r aD akT;exact ar akT λaN bb eS=>gC aN (bN.trans bb) _ rfl eS
 |list zs=>
  refine cn (agR bN.inv q e2 pl pu ps hs) ?_ λzz zz f=>f
  intro r aD akU;exact ar akU λaN bb eS=>gC aN (bN.trans bb) _ rfl eS
 |none=>exact aC e2
 |bool _=>exact aC e2
 |int _=>exact aC e2
 |str _=>exact aC e2
 |dict _=>exact aC e2
end
section
variable{W:Wd}{cx:Cx}{A:bV}{s:aJ}{g:aG}{σ av:Sg}{ρ:List aK}{κ:cF}
theorem JE(h:fE (n:Int)=some d):(n:Int)<2^ 63/\d= .int n:=by
 unfold fE at h
 split at h
 .rename_i hk
  simp only[df,cm,decide_eq_true_eq] at hk
  cases h;exact⟨(XT hk).2,rfl⟩
 .exact aC h
theorem agU(i:Inv W.G g σ s)(hu:Is g u x)(h:fg .len x=some d):Runs W.G A s g σ (call (.builtin "len") [u]) (λr g'=>Is g' r d):=by
 cases x with
 |tuple xs=>
  refine bZ (hu.qo i) λa vs vw ht r=>?_;clear hu;subst vw
  have hl:vs.size=xs.length:=by exact sl r.length<|Y eV rfl
  refine xa (JE (n:=xs.length) h) λH Bl=>?_;clear h;subst Bl
  rw[<- hl] at H⊢
  exact arV ht H (ai g (.tok i _) (.int))
 |list xs=>
  refine bZ (hu.xT i) λa vs akV ht r=>?_;clear hu;subst akV
  have hl:vs.size=xs.length:=by exact sl r.length<|Y eV rfl
  refine xa (JE (n:=xs.length) h) λH vx=>?_;clear h;subst vx
  rw[<- hl] at H⊢
  exact Calls.call_len_list ht H (ai g (.tok i _) (.int))
 |str y=>
  refine xe hu.str_inv λt akW=>?_;clear hu;subst akW
  refine xa (JE (n:=y.cps.size) h) λH KM=>?_;clear h;subst KM
  exact PySem.P.len_str (λz:((y.cps.size:Nat):Int)>=2^ 63=>absurd H (xj.mpr z)) (ai g (.tok i _) (.int))
 |none=>exact aC h
 |bool _=>exact aC h
 |int _=>exact aC h
 |dict _=>exact aC h
theorem agV(i:Inv W.G g σ s)(hu:Is g u x)(h:fg .FS x=some d):Runs W.G A s g σ (call (.builtin "abs") [u]) (λr g'=>Is g' r d):=by
 refine iK h λa H Bm=>?_;clear h;subst Bm
 obtain rfl:=nI H
 refine xe hu.int_inv λt vY=>?_;clear hu;subst vY
 refine call_abs_int λu tk=>(ai g (.tok i _) ?_)
 have:((a.natAbs:Nat):Int)=if a<0 then -a else a:=iab a
 exact Y this<| .int
theorem afb(i:Inv W.G g σ s)(hu:Is g u x)(h:fg .B5 x=some d):Runs W.G A s g σ (call (.type "int") [u]) (λr g'=>Is g' r d):=by
 refine iK h λb H AW=>?_;clear h;subst AW
 obtain rfl:=R3 H
 obtain rfl:=hu.bool_inv
 exact call_int_bool (ai g (.tok i _) (.int))
theorem adU(i:Inv W.G g σ s)(hu:Is g u x)(h:fg .tuple x=some d):Runs W.G A s g σ (call (.type "tuple") [u]) (λr g'=>Is g' r d):=by
 refine aP h λxs h0 O=>?_
 clear h;obtain rfl:=xy h0
 refine bZ (hu.xT i) λa vs KA ht r=>?_;clear hu;subst KA
 have hl:vs.size=xs.length:=by exact sl r.length<|Y eV rfl
 refine xa (JA O) λvj H=>?_;clear O;subst vj
 refine call_tuple_list ht (λh' hk=>?_) (fG (hl▸H))
 have st:=aS.il (G:=W.G) (tk:=s.toks) i hk
 exact ar (aS.Af (tk:=s.toks) st.inv r) λg' cz q=>ai g' (st.trans cz) q
theorem afc(i:Inv W.G g σ s)(hu:Is g u x)(h:fg .list x=some d):Runs W.G A s g σ (call (.type "list") [u]) (λr g'=>Is g' r d):=by
 refine aP h λxs h0 O=>?_
 clear h;obtain rfl:=tc h0
 refine bZ (hu.qo i) λa vs akX akY r=>?_;clear hu;subst akX;refine mX akY λo ho hc n hd=>?_
 have hl:vs.size=xs.length:=by exact sl r.length<|Y eV rfl
 refine xa (qp O) λBn H=>?_;clear O;subst Bn
 refine call_list_seq a (.inr rfl) ho hc hd (λh' c' hk hD=>?_) (fG (hl▸H))
 refine ar (aS.Ay (T:="list") (tk:=s.toks) i (.inr rfl) hk fq hD r) λg' st q=>?_
 rw[if_neg (by decide)] at q
 exact ai g' st q
noncomputable def Gc:Bi->Option ao
 | .len=>some (.builtin "len")
 | .tuple=>some (.type "tuple")
 | .list=>some (.type "list")
 | .sorted=>some (.builtin "sorted")
 | .FS=>some (.builtin "abs")
 | .B5=>some (.type "int")
theorem aiy(i:Inv W.G g σ s)(rm:dK A n)(hv:Gc b=some v)(hu:Is g u x)(h:fg b x=some d):Runs W.G A s g σ (call v [u]) (λr g'=>Is g' r d):=by
 cases b<;>simp only[Gc,dj] at hv<;>first|(subst hv;done)|subst hv
 .exact agU i hu h
 .exact adU i hu h
 .exact afc i hu h
 .refine aP h λxs h0 O=>xa (jY O) λhk vp=>?_;clear h O;subst vp
  obtain rfl:=xy h0
  exact acK i rm hu hk
 .exact agV i hu h
 .exact afb i hu h
theorem iV:(backTo pos (starEach [] env)).any (·.1)=false:=rfl
theorem ab.bi(hW:W.Ok)(hv:Gc b=some v)(h:ab W cx a e)(hk:cx.kindOf x=some .globalImplicit:=by kernel_rfl)(hg:nsIn W.G.K mainGlobals x=some none:=by kernel_rfl)(V:bootBuiltins x=some v:=by kernel_rfl)
 (hn:x≠"__name__" :=by decide+kernel) (hd:(x==("__debug__" :Str))=false:=by decide+kernel) (hs:eW a=true:=by rfl):ab W cx (.Call (.Name x p) [a] [] pos) (.bi b e):=λzz A s g σ env ρ xs av rm i eo he=>by
 refine gO he λaoq ae H gJ=>aP gJ λd O he=>i5 he λz1 z2=>?_;clear gJ he;subst z1;clear he;subst z2
 refine kA (lw hW i eo hk hg V hn hd ?_)
 have go:wpAny (model W.G.prog W.G.w) A (spliced (backTo pos (starEach [a] env))) (λvs an=>wpAny (model W.G.prog W.G.w) A (call v vs) (λr s'=>∃g',aS W.G s g ae s' g'/\∃y,[as7.d d]=[y]/\iN W.G g' r y) (λzz zz=>False) an) (λzz zz=>False) s:=by
  refine f8 ?_ (cu hs)
  refine(h.ba rm i eo H).use λu an aX st q=>iU<|Runs.after st ((aiy st.inv rm hv q O).mono λr g' q=>(ai _ rfl q))
 clear V;cases b<;>simp only[Gc,dj] at hv<;>first|(subst hv;done)|subst hv
 .exact y8 go (cu hs) iV
 .exact mE go (cu hs) iV
 .exact mE go (cu hs) iV
 .exact y8 go (cu hs) iV
 .exact y8 go (cu hs) iV
 .exact mE go (cu hs) iV
theorem HW(h:as.all eW=true)(env:Env)(pos:Pos):(backTo pos (starEach as env)).any (·.1)=false:=by
 have e:∀l:List Expr,l.all eW=true->(starEach l env).any (·.1)=false:=by
  intro l
  induction l with
  |nil=>intro _;rfl
  |cons a l ih=>
   intro h
   simp only[List.all_cons,cm] at h
   refine Y (cu h.1)<|Y w7<|Y (ih h.2) ?_;rfl
 have e:=e as h
 unfold backTo
 simpa [DG] using e
theorem ab.call(hW:W.Ok)(h:ak W cx (a::as) es)(hk:cx.kindOf x=some .globalImplicit:=by kernel_rfl)(hg:nsIn W.G.K mainGlobals x=some (some (.ref (W.adr f))):=by kernel_rfl)(Bo:keepIn W.G.K (.ref (W.adr f))=true:=by kernel_rfl)
 (hd:(x==("__debug__" :Str))=false:=by decide+kernel) (hs:eW a=true:=by rfl) (Ng:as.all eW=true:=by rfl):ab W cx (.Call (.Name x p) (a::as) [] pos) (.call f es):=λzz A s g σ env ρ xs av rm i eo he=>by
 refine gO he λys ae H gJ=>gO gJ λv aF O he=>i5 he λz1 z2=>?_;clear gJ he;subst z1;clear he;subst z2
 refine kA (Iz hW i eo hk hg hd ?_)
 refine QI hW.eU.n8 Bo ?_ (cu hs) (HW Ng env pos)
 refine(h A s g σ env ρ ys ae pos rm i eo H).use λvs an aX st q=>⟨hW.eU.n8.keeps st.inv.mT,?_⟩
 exact Runs.after st ((hW.call f ys ae v aF O A an aX vs rm st.inv q).mono λr g' q=>(ai _ rfl q))
structure yd(G:eI):Prop where
 ga:findIn G.K (.ref G.C) "__getattribute__"=some (some (.builtin "object.__getattribute__"))
 gb:findIn G.K (.ref G.C) "__getattr__"=some none
 dict:hasDictIn G.K G.C=true
 aa:findIn G.K (.ref G.C) "ops"=some none
theorem qn.at(i:Inv W.G g σ s)(h:qn W.G g v x):∃a dx n jm tk u,v= .ref a/\InstAt s.heap a (instObj W.G.C dx) W.G.C (some (dictOf [⟨jm, .str "ops" tk,u⟩] n))/\handedIn u=true/\Is g u x:=by
 exact xx h λa dx n jm tk u zz=>j3 zz λe H O h3 h4=>acA a dx n jm tk u e (⟨i.sub _ _ H,rfl,rfl,i.sub _ _ O⟩) h3 h4
theorem afd:lookIn "ops" (dictOf [⟨jm, .str "ops" tk,u⟩] n)=some (some u):=by
 refine Y (lookIn_dict _ _ _) ?_;unfold getL
 refine Y wW ?_
 have:(RS (bl "ops") tk).isStr (bl "ops")=true:=by unfold acp;exact beq_self_eq_true _
 exact Y this rfl
theorem agW{name:Str}(bB:name≠"ops"){jm:Int}{tk:Tok}{u:ao}{n:Nat}:lookIn name (dictOf [⟨jm, .str "ops" tk,u⟩] n)=some none:=by
 refine Y (lookIn_dict _ _ _) ?_;unfold getL
 refine Y wW ?_
 have:(RS (bl "ops") tk).isStr name=false:=by
  unfold acp
  simpa using λe=>bB e.symm
 refine Y this ?_
 simp[DictEntry.refKey]
theorem ab.aa(hW:W.Ok)(hB:yd W.G)(h:ab W cx v e)
 (he:∀env,eval (.Attribute v "ops" pos) env=(do let o <- eval v env;standAt pos.atName;let r <- holding [o] (getAttr o "ops" true);letTemporaryGo v o r;pure r)):ab W cx (.Attribute v "ops" pos) (.aa e):=λzz A s g σ env ρ xs av rm i eo hx=>by
 refine gO hx λy ae H Cc=>aP Cc λd hm hx=>?_
 clear Cc;obtain rfl:=UP hm
 injection hx with Bp;injection Bp with I6 agX;subst I6;clear hx;subst agX
 refine Attribute_any_ ((h.one rm i eo H).use λo an aX st q=>?_) (he env)
 refine P8 (qn.at st.inv q) λa dx n jm tk u akZ I hu r=>?_;clear q;subst akZ
 exact get_value (hW.eU.n8.keeps st.inv.mT) I hB.ga (findObj_own hB.dict hB.aa rfl afd) hu (gC aX (st.trans (.tok st.inv _)) _ rfl r)
theorem ab.eR(hW:W.Ok)(hB:yd W.G){o:Expr}{name:Str}{f:Nat}{apos pos:Pos}{a:Expr}{as:List Expr}{e es:E}(h:ab W cx o e)(hs:ak W cx (a::as) es)
 (hf:findIn W.G.K (.ref W.G.C) name=some (some (.ref (W.adr f))):=by kernel_rfl) (ht:typeIn W.G.K (.ref (W.adr f))=some (.type "function"):=by kernel_rfl) (Bo:keepIn W.G.K (.ref (W.adr f))=true:=by kernel_rfl) (bB:name≠"ops" :=by decide+kernel) (hn:eW a=true:=by rfl) (Ng:as.all eW=true:=by rfl)
 (he:∀env,∃pl,eval (.Call (.Attribute o name apos) (a::as) [] pos) env=(do
  let ov <- eval o env
  standAt apos.atName
  let (f,first) <- holding [ov] (getMethod ov name pl)
  callWith pos f first (backTo pos (starEach (a::as) env)) []):=by intro _;exact⟨_,rfl⟩):ab W cx (.Call (.Attribute o name apos) (a::as) [] pos) (.eR f e es):=λzz A s g σ env ρ xs av rm i eo hx=>by
 refine gO hx λy ae H Cc=>aP Cc λd hm W2=>gO W2 λys aF O W3=>gO W3 λv lA h3 hx=>?_
 clear Cc W2 W3;obtain rfl:=UP hm
 injection hx with ME;injection ME with aiz aiA;subst aiz;clear hx;subst aiA
 refine xe (he env) λpl he=>zy (pl:=pl) ((h.one rm i eo H).use λov an aX st q=>?_) he
 refine P8 (qn.at st.inv q) λb dx n jm tk u ak0 I hu r=>?_;subst ak0
 refine method_fn (hW.eU.n8.keeps st.inv.mT) I hB.ga hB.gb hf ht (by show(lookIn name _).map _=_;refine Y (agW bB) ?_;rfl) ?_
 refine QI hW.eU.n8 Bo ?_ (cu hn) (HW Ng env pos)
 refine(hs A an aX ae env ρ ys aF pos rm st.inv (eo.step st) O).use λvs aD aN bb eS=>⟨hW.eU.n8.keeps bb.inv.mT,?_⟩
 exact Runs.after (st.trans bb) ((hW.call f (.me d::ys) aF v lA h3 A aD aN (.ref b::vs) rm bb.inv ⟨iN.mono q bb.grow,eS⟩).mono λr g' q=>(ai _ rfl q))
end
structure JF(G:eI):Prop where
 makes:makesIn G.K G.C=true
 sa:findIn G.K (.ref G.C) "__setattr__"=some (some (.builtin "object.__setattr__"))
 over:plainOver G.K G.C=true
 ak1:takerIn G.K G.C "ops"=some none
 init:∃fI oc od Yb fd p1 p2 p3 p4,findIn G.K (.ref G.C) "__init__"=some (some (.ref fI))/\typeIn G.K (.ref fI)=some (.type "function")/\
  G.K.lookup fI=some ⟨oc,od, .func fd,Yb⟩/\fd.body= .stmts [.Assign [.Attribute (.Name "self" p1) "ops" p2] (.Name "ops" p3) p4]/\codeIn G.K fd.code fd.qualname=true/\
  (∀a b,bindArgs fd ⟨[a,b],[]⟩=pure [(bl "self",a),(bl "ops",b)])/\(∀x∈fd.scope.names,x.2≠ .cell)/\fd.scope.names.lookup (bl "self")=some .local/\fd.scope.names.lookup (bl "ops")=some .local/\
  fd.scope.isCoroutine=false/\fd.scope.isGenerator=false/\fd.scope.kind= .function
theorem abR{E:VS}
 (h:wpAny M A (eval (.Name x p3) env) (λv an=>wpAny M A (eval (.Name y p1) env) (λov aD=>wpAny M A (setAttr ov "ops" v) (λzz=>Q .next) E aD) E an) E s):
 wpAny M A (exec (.Assign [.Attribute (.Name y p1) "ops" p2] (.Name x p3) p4) env) Q E s:=
 plainObj_wpAny_Assign_Attribute h rfl
section
variable{W:Wd}{cx:Cx}{A:bV}{s:aJ}{g:aG}{σ av:Sg}{ρ:List aK}{κ:cF}
theorem afe(hW:W.Ok)(hB:yd W.G)(hI:JF W.G)(i:Inv W.G g σ s)(rm:dK A W.n)(hu:Is g u x)(hh:handedIn u=true):
 Runs W.G A s g σ (call (.ref W.G.C) [u]) (λr g'=>qn W.G g' r x):=by
 refine Qa hI.init λfI oc od Yb fd p1 p2 p3 p4 zz=>abp zz λe1 e2 e3 e4 e5 e6 e7 e8 e9 e10 e11 Yc=>?_
 obtain⟨dM,gg,dd,tt,os⟩:=s
 have X:W.G.K.In dM:=hW.eU.n8.keeps i.mT
 refine QJ (make_core (makes_of X hI.makes) (looks_findIn X e1) (λself=>bind_fn X self e2) (.inl rfl) ?_)
 have k1:∀b o,dM.get? b=some o->((dM.push emptyDict).push (instObj W.G.C dM.objs.size)).get? b=some o:=λb o e=>bT _ (bT _ e)
 have bF:((dM.push emptyDict).push (instObj W.G.C dM.objs.size)).objs.size=dM.objs.size+2:=by exact Y (kF _ _)<|Y (kF _ _) rfl
 have hx:((dM.push emptyDict).push (instObj W.G.C dM.objs.size)).get? (dM.objs.size+1)=some (instObj W.G.C dM.objs.size):=by
  have:=cJ (dM.push emptyDict) (o:=instObj W.G.C dM.objs.size) rfl
  rwa [kF] at this
 have Cv:((dM.push emptyDict).push (instObj W.G.C dM.objs.size)).get? dM.objs.size=some emptyDict:=bT _ (cJ _ rfl)
 have aiB:dM.NoLimit:=hW.eU.lim.keeps i.mT
 have UV:=aiB.keeps k1
 have kept:=i.sub
 generalize (dM.push emptyDict).push (instObj W.G.C dM.objs.size)=H1 at k1 bF hx Cv UV⊢
 have X1:W.G.K.In H1:=X.keeps k1
 have hd:=rm.depth
 refine codeAny_call_def (fd:=fd) (binds:=[(bl "self", .ref (dM.objs.size+1)),(bl "ops",u)]) (Y (depth_under_make _ _ _) (aO [(J (J (J B v1) (.num 5)) (.num 1),v2)] (J (J B (.num 1)) (.num 1),v2) rfl hd)) (X1 _ _ e3) rfl UV (codeRec_of X1 e5) e4 (BindsTo.of_eq (e6 _ _)) e7 ?_ (λdL lL hk=>?_) e10 e11 Yc
 .intro y hy
  simp only[bK,mH,or_false] at hy
  rcases hy with rfl|rfl
  .exact e8
  .exact e9
 have fn:(callEnv fd H1.objs.size fI).scope.kind= .function:=Yc
 have F:Fr dM H1.objs.size dL (λy=>[((bl "self"),kI (dM.objs.size+1)),(bl "ops",u)].reverse.lookup y):=⟨lL,λb o e=>hk b o (k1 b o e),by exact Y bF<|kx _ _⟩
 have N:News dM H1.objs.size dL [(dM.objs.size+1,instObj W.G.C dM.objs.size),(dM.objs.size,dictOf [] 0)]:=by
  intro p hp
  simp only[bK,mH,or_false] at hp
  rcases hp with rfl|rfl
  .exact bO (hk _ _ hx) (Y bF<|dH (wR _)) (om (sR _))
  .exact bO (hk _ _ Cv) (Y bF<|dH (C9 (by decide))) fq
 have kl:∀y,fd.scope.names.lookup y=some .local->(callEnv fd H1.objs.size fI).kindOf y=some .local:=λy e=>e
 refine am (abR ?_)
 refine zE (GP fn (kl _ e9) lL (v:=u) rfl ?_) (by decide+kernel)
 refine zE (GP fn (kl _ e8) lL (v:= .ref (dM.objs.size+1)) (by kernel_rfl) ?_) (by decide+kernel)
 have I:InstAt dL (dM.objs.size+1) (instObj W.G.C dM.objs.size) W.G.C (some (dictOf [] 0)):=⟨hk _ _ hx,rfl,rfl,hk _ _ Cv⟩
 refine set_dict F X N I rfl hI.sa hI.over hI.ak1 hB.dict rfl rfl (.tail (by show dM.objs.size+1≠dM.objs.size;exact OR _) (.head (λzz h=>nomatch h))) (by show 1<=1000;decide) λtV aor FW=>?_
 refine aH ⟨rfl,?_⟩
 have kk:∀b o,dM.get? b=some o->tV.get? b=some o:=aor.keep
 have st:=aS.all (G:=W.G) (tk:=((tt+2)+2)) i kk (λb:az=>b=dM.objs.size+1\/b=dM.objs.size) (λb V=>by
  rcases V with rfl|rfl
  .exact om (sR _)
  .exact fq) (λb o V ho=>by
  rcases V with rfl|rfl
  .rw[(FW _ (.head _)).1] at ho
   injection ho with Bq;subst Bq
   exact⟨(λe=>nomatch e),λz=>by refine a9 z (λz=>?_) (λz=>?_)<;>exact C' z⟩
  .rw[(FW _ (.tail _ (.head _))).1] at ho
   injection ho with AR;subst AR
   refine⟨λzz es n hd hk=>?_,λzz=>rfl⟩
   injection hd with vy ak2;subst vy ak2
   refine cP (hk _ (.head _)) λx t e1 e2=>?_
   injection e1 with Kg ak3;subst Kg ak3
   exact absurd e2 (by decide+kernel))
 refine adB (cv g tV (λb:az=>b=dM.objs.size+1\/b=dM.objs.size)) st (dM.objs.size+1) dM.objs.size 1 _ _ u (md rfl (nH (Or.inl rfl) (FW _ (.head _)).1) (nH (Or.inr rfl) (FW _ (.tail _ (.head _))).1) hh (hu.mono (ij (i.sub.trans kk))))
theorem ab.mk(hW:W.Ok)(hB:yd W.G)(hI:JF W.G)(hk:cx.kindOf x=some .globalImplicit)(hg:nsIn W.G.K mainGlobals x=some (some (.ref W.G.C)))(Bo:keepIn W.G.K (.ref W.G.C)=true)(h:ab W cx a e)
 (hd:(x==("__debug__" :Str))=false:=by decide+kernel) (hs:eW a=true:=by rfl):ab W cx (.Call (.Name x p) [a] [] pos) (.mk e):=λzz A s g σ env ρ xs av rm i eo he=>by
 refine gO he λd ae H he=>i5 he λz1 z2=>?_;subst z1 z2
 refine kA (Iz hW i eo hk hg hd ?_)
 refine QI hW.eU.n8 Bo ?_ (cu hs) (HW (as:=[]) rfl env pos)
 refine f8 ?_ (cu hs)
 refine(h.ba rm i eo H).use λu an aX st q=>iU ⟨hW.eU.n8.keeps st.inv.mT,?_⟩
 have hu:handedIn u=true:=by
  refine xe q λas r=>?_
  cases r<;>rfl
 exact Runs.after st ((afe hW hB hI st.inv rm q hu).mono λr g' q=>(ai _ rfl q))
end
def Wr(cl:Str->Bool)(cx:Cx)(env:Env)(b:az):Prop:=b=env.locals\/∃x,cl x=true/\cx.kindOf x=some .cell/\env.cells.lookup x=some b
def Moved(M:az->Prop)(s s':aJ):Prop:=∃h' tk,s'={s with heap:=h',toks:=tk}/\∀b o,¬M b->s.heap.get? b=some o->h'.get? b=some o
theorem Moved.trans(x:Moved M a b)(y:Moved M b c):Moved M a c:=by
 refine cP x λH t1 ak4 k1=>?_;clear x;subst ak4
 refine cP y λO t2 vw k2=>?_;clear y;subst vw
 exact gq O t2 rfl (λq o hq e=>k2 q o hq (k1 q o hq e))
section
variable{G:eI}{cx:Cx}{κ:cF}{A:bV}{s s':aJ}{g:aG}{σ av:Sg}{ρ:List aK}{env:Env}{v:ao}{b:aK}
theorem Inv.moved(i:Inv G g σ s)(m:Moved M s s')(hM:∀b,M b->g.get? b=none/\b≠G.c):Inv G g σ s':=by
 refine cP m λH t1 ak5 k1=>?_;clear m;subst ak5
 refine⟨i.base,λb o e=>k1 b o (λz=>?_) (i.sub b o e),i.gc,?_,i.tab⟩
 .rw[(hM b z).1] at e;exact aC e
 .exact jg i.shr λkvs ak6 e q l=>gE ak6 λo es ep ho r=>nL kvs ((tE o es ep (k1 _ _ (λz=>(hM _ z).2 rfl) ho) r)) e q l
theorem Wr.safe(eo:a7 G cx κ g s.heap env ρ)(b:az)(h:Wr cl cx env b):g.get? b=none/\b≠G.c:=by
 rcases h with rfl|⟨x,_,_,h⟩
 .exact⟨eo.lg,eo.lc⟩
 .exact⟨(eo.cc _ _ h).2.1,(eo.cc _ _ h).1⟩
def I7(o:Obj):Prop:=(∃items n,o.data= .seq items n)\/∃es n,o.data= .dict es n
theorem eF.keep(x:eF G κ i g h v b)(k:dY b=true->∀o,I7 o->h.get? (κ.f i)=some o->h'.get? (κ.f i)=some o):eF G κ i g h' v b:=by
 cases b with
 |un=>trivial
 |v y=>exact x
 |own ds=>
  exact cq x λvs e KN r=>xe KN λn p=>bQ vs e (⟨n,k rfl _ (.inl (ie _ _ rfl)) p⟩) r
 |cI kvs=>
  exact cj x λe ak7 r=>ar ak7 λxs AN h4=>mP AN λo es ep ho H O h3=>bO e ((ai xs ((jX o es ep (k rfl _ (.inr (ie _ _ O)) ho) H O h3)) h4)) r
theorem Hh{h:aG}(n:h.IsCell a w)(e:h.get? a=some o):¬I7 o:=by
 rintro(⟨items,n',hd⟩|⟨items,n',hd⟩)<;>(
  refine ar n λo' ho dw=>?_
  rw[e] at ho;injection ho with vz;subst vz;rw[hd] at dw;exact zg dw)
def lZ(cx:Cx)(x:Str)(i:Nat):Prop:=∀y,cx.Γ.lookup y=some i->y=x
def vA(κ:cF)(env:Env)(ρ:List aK)(i:Nat)(b:aK):Prop:=dY b=true->κ.f i≠env.locals/\∀j b',ρ[j]? =some b'->dY b'=true->κ.f i=κ.f j->i=j
theorem dP(h:(ρ.set i b)[j]? =some b'):(i=j/\b'=b)\/(i≠j/\ρ[j]? =some b'):=by
 rw[Dp] at h
 split at h
 .rename_i e
  split at h
  .injection h with vy;subst vy;exact .inl ⟨e,rfl⟩
  .exact aC h
 .rename_i e;exact .inr ⟨e,h⟩
theorem JG(eo:a7 G cx κ g s.heap env ρ)(ho:vA κ env ρ i b):∀j k b' Cw,(ρ.set i b)[j]? =some b'->(ρ.set i b)[k]? =some Cw->dY b'=true->dY Cw=true->κ.f j=κ.f k->j=k:=by
 intro j k b' Cw H O h3 h4 h5
 rcases dP H with⟨e1,z1⟩|⟨n1,w1⟩
 .clear H;rcases dP O with⟨e2,z2⟩|⟨n2,w2⟩
  .exact e1.symm.trans e2
  .clear O;subst e1 z1;exact(ho h3).2 k Cw w2 h4 h5
 .clear H;rcases dP O with⟨e2,z2⟩|⟨n2,w2⟩
  .clear O;subst e2 z2;exact((ho h4).2 j b' w1 h3 h5.symm).symm
  .exact eo.ap j k b' Cw w1 w2 h3 h4 h5
theorem JH(eo:a7 G cx κ g s.heap env ρ)(ho:vA κ env ρ i b):∀x j b',cx.Γ.lookup x=some j->(ρ.set i b)[j]? =some b'->dY b'=true->κ.f j≠env.locals:=by
 intro x j b' hx H h3
 rcases dP H with⟨e1,z1⟩|⟨n1,w1⟩
 .clear hx H;subst e1 z1;exact(ho h3).1
 .exact eo.od x j b' hx w1 h3
theorem Du(eo:a7 G cx κ g s.heap env ρ){x:Str}{i:Nat}(hk:cx.kindOf x=some .local)(jP:cx.Γ.lookup x=some i)(hj:lZ cx x i)(ho:vA κ env ρ i b){h':aG}{m:Str->Option ao}(hn:s.heap.Ns env.locals m)(lM:h'.Ns env.locals (λy=>if y=x then some v else m y))
 (hs:jV env.locals s.heap h') (V:eF G κ i g h' v b):a7 G cx κ g h' env (ρ.set i b) where
 sc:=eo.sc
 kind:=eo.kind
 glob:=eo.glob
 jL:=eo.jL
 above:=eo.above
 lc:=eo.lc
 lg:=eo.lg
 vars:=by
  refine ar eo.vars λFX Fu f=>ai _ lM (λy j b' H O h3 h4=>?_)
  by_cases hy:y=x
  .clear hk hj ho lM;subst hy
   rw[jP] at H;injection H with KO;subst KO
   rcases dP O with⟨_,rfl⟩|⟨n,_⟩
   .exact ai v (by simp) V
   .exact absurd rfl n
  .clear ho V;rcases dP O with⟨rfl,rfl⟩|⟨n,O⟩
   .exact absurd (hj y H) hy
   .exact ar (f y j b' H O h3 h4) λw e q=>ai w (Y (if_neg hy)<|sl ((Fu.agree hn) _)<|e) (q.keep λV o hd e=>hs.2 _ (eo.od y j b' H O V)▸e)
 cells:=λy j b' H O h3 h4=>by
  have hy:y≠x:=by rintro rfl;refine a9 h4 (λh4=>?_) (λh4=>?_)<;>(rw[hk] at h4;injection h4 with Br;exact GD Br)
  clear ho V;rcases dP O with⟨rfl,rfl⟩|⟨n,O⟩
  .exact absurd (hj y H) hy
  .refine bZ (eo.cells y j b' H O h3 h4) λa w e ak8 q=>ar ak8 λo eJ dw=>eY a w e ((ai o ((hs.2 a ?_).trans eJ) dw)) (q.keep λV o hd e=>hs.2 _ (eo.od y j b' H O V)▸e)
   rintro rfl'
   refine uY hn λo2 es ep fy hd2 zz=>?_
   rw[<- rfl',eJ] at fy;injection fy with ak9;subst ak9;rw[dw] at hd2;exact zg hd2
 kZ:=eo.kZ
 cc:=λy a e=>by
  refine nJ (eo.cc y a e) λH O w o eJ dw=>xO H O w o ((hs.2 a ?_).trans eJ) dw
  rintro rfl'
  refine uY hn λo2 es ep fy hd2 zz=>?_
  rw[<- rfl',eJ] at fy;injection fy with Bp;subst Bp;rw[dw] at hd2;exact zg hd2
 cL:=eo.cL
 ap:=JG eo ho
 n5:=eo.n5
 od:=JH eo ho
theorem aa3(eo:a7 G cx κ g s.heap env ρ){x:Str}{i:Nat}{a:az}(hk:cx.kindOf x=some .cell)(ha:env.cells.lookup x=some a)(jP:cx.Γ.lookup x=some i)(hj:lZ cx x i)(ho:vA κ env ρ i b){h':aG}(hc:h'.IsCell a (some v))
 (hs:jV a s.heap h') (V:eF G κ i g h' v b):a7 G cx κ g h' env (ρ.set i b) where
 sc:=eo.sc
 kind:=eo.kind
 glob:=eo.glob
 jL:=eo.jL
 above:=eo.above
 lc:=eo.lc
 lg:=eo.lg
 vars:=by
  refine ar eo.vars λFX Fu f=>rK (eo.cc x a ha) λzz zz w tJ=>?_
  have hLa:env.locals≠a:=by
   rintro rfl'
   refine ar tJ λo eJ dw=>uY Fu λo2 es ep fy hd2 zz=>?_
   rw[rfl',eJ] at fy;injection fy with KP;subst KP;rw[dw] at hd2;exact zg hd2
  refine ai FX (Fu.sameBut hs hLa) (λy j b' H O h3 h4=>?_)
  have hy:y≠x:=by rintro rfl;rw[hk] at h4;injection h4 with KQ;exact GD KQ
  clear ho V;rcases dP O with⟨rfl,rfl⟩|⟨n,O⟩
  .exact absurd (hj y H) hy
  .refine ar (f y j b' H O h3 h4) λw' e q=>ai w' e (q.keep λzz o hd e=>hs.2 _ ?_▸e)
   rintro rfl'
   rw[rfl'] at e
   exact Hh tJ e hd
 cells:=λy j b' H O h3 h4=>by
  refine rK (eo.cc x a ha) λzz zz w tJ=>?_
  by_cases hy:y=x
  .clear hk hj ho;subst hy
   rw[jP] at H;injection H with KR;subst KR
   rcases dP O with⟨_,rfl⟩|⟨n,_⟩
   .exact eY a v ha hc V
   .exact absurd rfl n
  .clear ho V;rcases dP O with⟨rfl,rfl⟩|⟨n,O⟩
   .exact absurd (hj y H) hy
   .refine bZ (eo.cells y j b' H O h3 h4) λa' w' e KS q=>ar KS λo eJ dw=>eY a' w' e ((ai o ((hs.2 a' λz=>hy (eo.n5 y x a' e (z▸ha))).trans eJ) dw)) (q.keep λzz o hd e=>hs.2 _ ?_▸e)
    rintro rfl'
    rw[rfl'] at e
    exact Hh tJ e hd
 kZ:=eo.kZ
 cc:=λy a' e=>by
  refine nJ (eo.cc y a' e) λH O w o eJ dw=>?_
  by_cases hz:a'=a
  .clear ha hs;subst hz;exact vP H O _ hc
  .exact xO H O w o ((hs.2 a' hz).trans eJ) dw
 cL:=eo.cL
 ap:=JG eo ho
 n5:=eo.n5
 od:=JH eo ho
end
def nU(h:aG)(d:az)(es:Array zO)(ep:Nat):Prop:=∃o,h.get? d=some o/\o.ExactDict/\o.data= .dict es ep
theorem nU.at(x:nU h d es ep)(e:∀o,h.get? d=some o->h'.get? d=some o):nU h' d es ep:=let ⟨o,ho,r⟩:=x;(ai o (e _ ho) r)
theorem nU.typeIs{s:aJ}(x:nU s.heap d es ep):s.TypeIs (.ref d) "dict" :=let ⟨o,ho,hx,_⟩:=x;(ai o ho hx.1)
section
variable{prog:eE}{w:dg}{A:bV}{E:VS}{s:aJ}{d:az}{es:Array zO}{ep:Nat}
theorem Se(hd:(d==sysModules)=false)(hm:nU s.heap d es ep)
 (hQ:Q (.ref s.heap.objs.size) {s with heap:=s.heap.push {cls:= .type "dict_keyiterator",data:= .fields #[.ref d, .int 0 0, .int es.size 0, .int ep 0]}}):
 wpAny (model prog w) A (pyIter (.ref d)) Q E s:=by
 have hT:=hm.typeIs
 refine cq hm λo ho hc iI=>OG hT aaH (ny aaH hT F.entry_dict_iter ?_ (F.args_dict_iter_1 _))
 unfold hY.«dict.__iter__»
 refine am ?_
 unfold arT
 refine am (ZJ hT ?_)
 show wpAny _ _ (pure (kI d)) _ _ s
 refine aH ?_
 show wpAny _ _ (ZK d>>=_) _ _ s
 unfold ZK
 rw[if_neg (by exact Y hd<|wM)]
 refine am (aH ?_)
 refine am (OH ho iI ?_)
 refine am (OX ho iI ?_)
 refine am (lh (aH (Ep _ rfl ("dict_keyiterator") _ ((ai _ (cJ _ rfl) rfl)) C6.lookup ?_)))
 exact hQ
theorem aff(hit:s.heap.IsKeyIter it d i es.size ep)(hm:nU s.heap d es ep)(hx:es[i]? =some e)
 (hQ:∀h',h'.IsKeyIter it d (i+1) es.size ep->jV it s.heap h'->Q (some e.key) {s with heap:=h'}):
 wpAny (model prog w) A (pyNext (.ref it)) Q E s:=by
 refine cq (id hit) λo ho hc hd=>cq (id hm) λod Cy Nh wp=>am (Dz (uw (name:=bl "__next__") hit.typeIs C6
  (ny C6 hit.typeIs Zb ?_ (Za _))))
 refine am (aH ?_)
 refine am<|am ?_
 first|refine am (GB hit.typeIs (aH ?_))|refine am (GK hit.typeIs (aH ?_))
 refine am (Hb ho hd ?_)
 have MJ:GC "dict_keyiterator"=false:=by decide
 rw[if_neg (show ¬(GC "dict_keyiterator"=true) from by exact Y MJ<|wM)]
 show wpAny _ _ (if (kI d==ju)=true then _ else _) _ _ s
 refine Y (if_neg (show ¬((kI d==ju)=true) from wM))<|am (aH ?_)
 refine am (OH Cy wp ?_)
 rw[if_neg (by simp)]
 refine am (aH ?_)
 refine am (OX Cy wp ?_)
 rw[if_neg (by simp)]
 refine aH ?_
 dsimp only
 rw[if_neg XS,sH,hx]
 refine am ?_
 first|refine am (GB hit.typeIs (aH ?_))|refine am (GK hit.typeIs (aH ?_))
 refine am (ZL hit.typeIs ?_)
 show wpAny _ _ (setField (.ref it) 1 (rawInt ((i:Int)+1))>>=_) _ _ s
 refine am (qT ho hd (by simp) ?_)
 have yr:(s.heap.update it (Pf (·.setIfInBounds 1 (rawInt ((i:Int)+1))))).IsKeyIter it d (i+1) es.size ep:=
  (bQ _ (wH _ ho (GO (uy hd _))) ((OI ..).trans hc) (by refine Y ((uy hd) _) ?_;simp[rawInt]))
 refine am (jU ?_)
 refine am (ZL yr.typeIs ?_)
 exact aH (aH (ai _ rfl (aH (hQ _ yr (ku ..)))))
theorem agY(hh:A.handled=none)(hit:s.heap.IsKeyIter it d es.size es.size ep)(hm:nU s.heap d es ep)
 (hQ:∀h',zA it s.heap h'->Q none {s with heap:=h'}):wpAny (model prog w) A (pyNext (.ref it)) Q E s:=by
 refine cq (id hit) λo ho hc hd=>cq (id hm) λod Cy Nh wp=>am (Dz (uw (name:=bl "__next__") hit.typeIs C6
  (ny C6 hit.typeIs Zb ?_ (Za _))))
 refine am (aH ?_)
 refine am<|am ?_
 first|refine am (GB hit.typeIs (aH ?_))|refine am (GK hit.typeIs (aH ?_))
 refine am (Hb ho hd ?_)
 have MJ:GC "dict_keyiterator"=false:=by decide
 rw[if_neg (show ¬(GC "dict_keyiterator"=true) from by exact Y MJ<|wM)]
 show wpAny _ _ (if (kI d==ju)=true then _ else _) _ _ s
 refine Y (if_neg (show ¬((kI d==ju)=true) from wM))<|am (aH ?_)
 refine am (OH Cy wp ?_)
 rw[if_neg (by simp)]
 refine am (aH ?_)
 refine am (OX Cy wp ?_)
 rw[if_neg (by simp)]
 refine aH ?_
 dsimp only
 rw[if_neg XS,sH,ux (a8 _)]
 refine am ?_
 first|refine am (GB hit.typeIs (aH ?_))|refine am (GK hit.typeIs (aH ?_))
 show wpAny _ _ (setField (.ref it) 0 .none>>=_) _ _ s
 refine am (qT ho hd (by simp) ?_)
 refine am<|am (lh ?_ (by size_fits))
 refine am (DM (a:=ju) (by first|rfl|(simp only[firstArgMember];rfl)) ?_)
 refine lh ?_ (by size_fits)
 refine am (Pg ?_)
 refine Y (show A.in1.handled=none from hh)<|am (aH (PY ?_))
 refine am (Ds (T:="StopIteration") (b:=true) (ai _ (cJ _ rfl) rfl) O4 ?_)
 exact aH (hQ _ (((ku ..).extBut.push _).push _))
theorem QW(hh:A.handled=none)(I d:az)(bB:d≠I)(es:Array zO)(ep:Nat):
 vO prog w A I [I,d] [I] es.size (λi v=>∃e,es[i]? =some e/\v=e.key) (λi h=>h.IsKeyIter I d i es.size ep/\nU h d es ep) where
 sub:=λb V=>by simp at V;simp[V]
 frame:=λzz zz zz st hk=>⟨st.1.at λo e=>hk I (by simp) o e,st.2.at λo e=>hk d (by simp) o e⟩
 item:=λi s Q E hi st hQ=>by
  refine aff st.1 st.2 (mD hi) λh' yr hJ=>?_
  exact hQ _ h' s.toks (ai _ (mD hi) rfl) ⟨yr,st.2.at λo e=>hJ.extBut d o bB e⟩ λb o V e=>hJ.extBut b o (λh=>V (by simp[h])) e
 done:=λs Q E st hQ=>agY hh st.1 st.2 λh' uf=>hQ h' s.toks λb o V e=>uf b o (λh=>V (by simp[h])) e
 self:=λzz zz zz zz st hQ=>ZY st.1 hQ
theorem TQ(lo:(d==sysModules)=false):KdlSrc prog w "dict" d d es.size (λi v=>∃e,es[i]? =some e/\v=e.key) (λh=>nU h d es ep) where
 type:=λzz hm=>hm.typeIs
 there:=λzz aos=>ar aos λo ho zz=>⟨dI ho,dI ho⟩
 keep:=λzz zz hm hk=>hm.at λo e=>hk d (.inl rfl) o e
 notList:=by decide
 notTuple:=by decide
 hint:=λzz zz zz zz hm hq=>kdl_hint_dict hm.typeIs hq
 iter:=λzz s hh hm=>(eY _ _ ((λzz zz hq=>Se lo hm hq)) (QW hh _ d (dH (let ⟨o,ho,_⟩:=hm;dI ho)) es ep) (⟨(bQ _ (cJ _ rfl) rfl rfl),hm.at λo e=>bT _ e⟩))
theorem abS(K:KdlSrc prog w T r d n P OK)(hh:A.handled=none)(bX:OK s.heap)(hn:n<=sizeLine)
 (h:∀(h':aG) (tk:Nat) (acc:Array ao),(∀b o,s.heap.get? b=some o->h'.get? b=some o)->EQ P acc n->R acc.toList {s with heap:=h',toks:=tk}):
 wpAny (model prog w) A (collect (.ref r)) R E s:=by
 refine xa (K.there _ bX) λhr hd=>am (O5 (lV ZM ?_))
 refine Y (mF Zf _)<|am (lh ?_)
 refine aH ⟨nB GL _,lV aaq ?_⟩
 refine Y (mF GL _) ?_
 have hS:(s.heap.push {cls:= .type "list",data:= .seq ([]:List ao).toArray}).get? s.heap.objs.size=some {cls:= .type "list",data:= .seq #[]}:=cJ _ rfl
 have key:=kdl_extend (A:=A) (s:={s with heap:=s.heap.push {cls:= .type "list",data:= .seq ([]:List ao).toArray}})
  (R:=λ(q:x5) (s':aJ)=>∃(h':aG) (tk:Nat) (rR:Array ao) (c':Nat),q= .ok (.ret (.ref s.heap.objs.size))/\s'={s with heap:=h',toks:=tk}/\
   (∀b o,s.heap.get? b=some o->h'.get? b=some o)/\h'.get? s.heap.objs.size=some {cls:= .type "list",dict:=none,data:= .seq rR c',slots:= #[]}/\EQ P rR n)
  K hh (K.keep _ _ bX λb zz o e=>bT _ e) s.heap.objs.size (lX hr) (lX hd) (.ref s.heap.objs.size) 0 hS
  (λh' tk rR c' hk nh fM=>(zF h' tk rR c' rfl rfl (λb o e=>hk b o (dH (dI e)) (bT _ e)) nh fM)) hn
 refine cn key (λfin s' x=>?_) λe s' x=>?_
 .cases fin with
  |done f=>
   refine ja x λh' tk rR c' e ala hk nh fM=>?_;clear x;subst ala
   injection e with J6;subst J6
   refine am (DT nh ?_)
   exact aH (h h' tk rR hk fM)
  |again c₁=>
   refine⟨x.1,zu x.2 λq aD y=>?_⟩
   refine ja y λh' tk rR c' alb KU hk nh fM=>?_;clear y;subst alb KU
   refine am (DT nh ?_)
   exact aH (h h' tk rR hk fM)
 .refine xQ x λh' tk rR c' e zz=>?_
  cases e
end
inductive jy(cl:Str->Bool)(cx:Cx):Expr->iM->Prop
 |one {x:Str} {p:Pos} {i:Nat}:(cx.kindOf x=some .local\/(cl x=true/\cx.kindOf x=some .cell))->cx.Γ.lookup x=some i->lZ cx x i->jy cl cx (.Name x p) (.one i)
 |two {x y:Str} {p q r:Pos} {k i j:Nat}:(cx.kindOf x=some .local\/(cl x=true/\cx.kindOf x=some .cell))->cx.Γ.lookup x=some i->lZ cx x i->
  (cx.kindOf y=some .local\/(cl y=true/\cx.kindOf y=some .cell))->cx.Γ.lookup y=some j->lZ cx y j->jy cl cx (.Tuple [.Name x p, .Name y q] k r) (.two i j)
noncomputable def l7:iM->Bool
 | .one _=>false
 | .two _ _=>true
def Drawn(g h:aG)(own:Bool)(v:ao)(x:ah):Prop:=Is g v x\/(own=true/\∃T vals ys,v= .ref T/\x= .tuple ys/\vN h T vals/\aT g vals.toList ys)
theorem DZ(h:cg (.two i j) x ρ=some aE):∃a c,x= .tuple [a,c]/\aE=(ρ.set i (.v (.d a))).set j (.v (.d c)):=by
 refine iK h λp H MK=>?_;clear h;subst MK
 exact gq p.1 p.2 (QP H) rfl
theorem IC(ρ:List aK)(i j:Nat)(a b c d:aK):(((ρ.set i a).set j b).set i c).set j d=(ρ.set i c).set j d:=by
 by_cases e:i=j
 .subst e;simp only[qU]
 .exact Y (Ph b c (oH e))<|Y (qU _)<|Y (qU _) rfl
section
variable{G:eI}{cl:Str->Bool}{cx:Cx}{κ:cF}{A:bV}{s s':aJ}{g:aG}{σ av:Sg}{ρ aE:List aK}{env:Env}{v:ao}{b:aK}{F:VS}
theorem Moved.same(k:∀b o,¬M b->s.heap.get? b=some o->h'.get? b=some o):Moved M s {s with heap:=h',toks:=tk}:=gq _ _ rfl k
theorem pT(eo:a7 G cx κ g s.heap env ρ)(hk:cx.kindOf x=some .local\/(cl x=true/\cx.kindOf x=some .cell))(jP:cx.Γ.lookup x=some i)(hj:lZ cx x i)(ho:vA κ env ρ i b)
 (V:∀h':aG,(∀a o,¬Wr cl cx env a->s.heap.get? a=some o->h'.get? a=some o)->eF G κ i g h' v b) (q:∀s',Moved (Wr cl cx env) s s'->a7 G cx κ g s'.heap env (ρ.set i b)->Q () s'):
 wpAny (model G.prog G.w) A (assign (.Name x p) env v) Q F s:=by
 have fn:=u7 eo
 have ko:=xk eo x
 rcases hk with hk|⟨hc,hk⟩
 .refine ar eo.vars λm hn zz=>OJ (Oi (ko.trans hk) hn (λh' lM hs=>?_) (by refine Y fn ?_;rfl))
  have k:∀a o,¬Wr cl cx env a->s.heap.get? a=some o->h'.get? a=some o:=λa o na e=>(hs.2 a λz=>na (.inl z)).trans e
  exact q _ (.same k) (Du eo hk jP hj ho hn lM hs (V h' k))
 .refine xe (eo.kZ x (.inl hk)) λa ha=>rK (eo.cc x a ha) λzz zz w tJ=>OJ (wpAny_storeName_cell fn (ko.trans hk) ha tJ λh' se hs=>?_)
  have k:∀b o,¬Wr cl cx env b->s.heap.get? b=some o->h'.get? b=some o:=λb o nb e=>(hs.2 b λz=>nb (.inr (bQ x hc hk (z▸ha)))).trans e
  exact q _ (.same (tk:=s.toks) k) (aa3 eo hk ha jP hj ho se hs (V h' k))
theorem re:vA κ env ρ i (.v x):=λh=>nomatch h
theorem Sf(hh:A.handled=none)(ht:jy cl cx target t)(i:Inv G g σ s)(eo:a7 G cx κ g s.heap env ρ)(hv:Drawn g s.heap (l7 t) v x)(V:cg t x ρ=some aE)
 (q:∀s',Moved (Wr cl cx env) s s'->a7 G cx κ g s'.heap env aE->Q () s'):wpAny (model G.prog G.w) A (assign target env v) Q F s:=by
 cases ht with
 |one hk jP hj=>
  injection V with KV;subst KV
  rcases hv with hv|⟨h,_⟩
  .exact pT (b:= .v (.d x)) eo hk jP hj re (λzz zz=>hv) q
  .exact aQ h
 | @two aoq aso p1 p2 p3 k ix iy hk jP hj jH aot jM=>
   refine cP (DZ V) λa c KW oR=>?_;clear V;subst KW oR
   have hT:∃T vals,v= .ref T/\vN s.heap T vals/\aT g vals.toList [a,c]:=by
    rcases hv with hv|⟨_,T,vals,ys,e,e2,H,O⟩
    .exact bZ (hv.qo i) λT vals e H O=>eY T vals e H O
    .injection e2 with Bs;subst Bs;exact eY T vals e H O
   refine bZ hT λT vals KY H O=>?_;clear hT;clear hv;subst KY
   refine bZ O.cons_inv λu1 r1 e1 q1 k1=>bZ k1.cons_inv λu2 r2 e2 q2 k2=>?_
   clear k1;obtain rfl:=k2.nil_inv
   subst e2
   have hz:vals.size=2:=by refine sl eV<|Y e1 ?_;rfl
   refine aag hh H (by refine Y hz ?_;rfl) rfl λh' he=>?_
   refine Y e1 ?_
   have keep:∀b o,s.heap.get? b=some o->h'.get? b=some o:=λb o e=>he b o (dH (dI e)) e
   have st:=aS.il (G:=G) (tk:=s.toks) i keep
   refine am (jU ?_)
   refine pT (b:= .v (.d a)) (eo.step st) hk jP hj re (λzz zz=>q1) λan m₁ dC=>am (jU ?_)
   refine pT (b:= .v (.d c)) dC jH aot jM re (λzz zz=>q2) λaD m₂ gG=>aH<|q aD ?_ gG
   have FX:Moved (Wr cl cx env) s {s with heap:=h'}:=gq h' s.toks rfl (λb o zz e=>keep b o e)
   exact FX.trans (m₁.trans m₂)
structure FY(G:eI)(A:bV)(target:Expr)(own:Bool)(aZ g h:aG)(I:az)(xs:List ah):Prop where
 ex:∃fp wr P Md St,KTurns G.prog G.w A target I fp wr xs.length P Md St/\St 0 h/\(∀i v h',P i v h'->∃x,xs[i]? =some x/\Drawn g h' own v x)/\
  (∀b∈wr,aZ.get? b=none/\g.get? b=none/\∃o,h.get? b=some o)/\(∀b∈fp,b∈wr\/∃o,g.get? b=some o)/\
  (∀(s:aJ) (Q:VS) (E:VS),St 0 s.heap->Q (.ref I) s->wpAny (model G.prog G.w) A (pyIter (.ref I)) Q E s)/\
  (∀i h',St i h'->∀b∈wr,∃o,h'.get? b=some o)
def bz(W:Wd)(cx:Cx)(target:Expr)(own:Bool)(ast:Expr)(e:E):Prop:=
 ∀ ⦃κ:cF⦄ A s g σ env ρ xs av,A.handled=none->dK A W.n->Inv W.G g σ s->a7 W.G cx κ g s.heap env ρ->fL (ev W.aW W.R e ρ σ)=some (xs,av)->
   wpAny (model W.G.prog W.G.w) A (eval ast env) (λx an=>wpAny (model W.G.prog W.G.w) A (pyIter x) (λit aD=>∃aN I,it= .ref I/\aS W.G s g av aD aN/\FY W.G A target own s.heap aN aD.heap I xs) (λzz zz=>False) an) (λzz zz=>False) s
theorem afg(target:Expr)(it v:ao):letOwnedTupleGo target it v=letOwnedTupleGo (.Tuple [] 0 p) it v\/letOwnedTupleGo target it v=pure ():=by
 cases target<;>first|exact .inl rfl|exact .inr rfl
theorem QX(h:∃o,s.heap.get? I=some o/\(o.cls= .type "list_iterator"\/o.cls= .type "tuple_iterator")/\∃vs,o.data= .fields vs)(q:Q () s):
 wpAny (model G.prog G.w) A (letOwnedTupleGo target (.ref I) v) Q F s:=by
 refine mX h λo ho hc vs hd=>?_
 have go:wpAny (model G.prog G.w) A (do
  let (.ref r, .ref a):=(kI I,v)|return
  let o <- load r
  match o.cls,o.data with
  | .type n, .fields vs=>
    if ["enumerate","zip","dict_itemiterator","dict_reverseitemiterator","odict_iterator","itertools.zip_longest","itertools.pairwise"].contains n && vs[0]? ==some (rawInt a) then
     rule "for.unpacks-the-owned-tuple"
     updateField r 0 .none
  |_,_=>pure ()) Q F s:=by
  cases v<;>try exact aH q
  refine am (DT ho ?_)
  refine a9 hc (λhc=>?_) (λhc=>?_)
  .exact Y hc<|Y hd<|aH q
  .exact Y hc<|Y hd<|aH q
 refine a9 (afg (p:=⟨0,0,0,0⟩) target (.ref I) v) (λe=>?_) (λe=>?_)
 .exact Y e<|go
 .exact Y e<|aH q
theorem Qi(hG:kh G)(V:Sub G.h₀ g)(h:X3 G.w g g a xs):(a==sysModules)=false:=by
 rw[beq_eq_false_iff_ne]
 rintro rfl
 refine xr h λo es ep ho zz O h3 zz=>xx hG.sys λo' jO n' e x t zz=>j3 zz λq1 q2 q3 q4 q5=>?_
 have:=V _ _ q1
 rw[ho] at this
 clear q1;injection this with A4;subst A4
 rw[O] at q2
 injection q2 with vh alc;subst vh alc
 rw[h3,ll] at q3
 cases hx:xs[0]? with
 |none=>rw[hx] at q3;exact aC q3
 |some y=>rw[hx] at q3;injection q3 with A9;subst A9;exact C' q4
theorem afh{W:Wd}(st:aS W.G s g ae an aX):s.heap.get? an.heap.objs.size=none/\aX.get? an.heap.objs.size=none:=by
 constructor
 .cases q:s.heap.get? an.heap.objs.size with
  |none=>rfl
  |some o=>
   exfalso
   by_cases hc:an.heap.objs.size=W.G.c
   .refine gE st.inv.shr.some λo' zz zz H zz=>?_
    rw[<- hc,fq] at H;exact aC H
   .have:=st.keep _ _ hc q;rw[fq] at this;exact aC this
 .cases q:aX.get? an.heap.objs.size with
  |none=>rfl
  |some o=>have:=st.inv.sub _ _ q;rw[fq] at this;exact aC this
theorem bz.seq(hG:kh W.G)(h:ab W cx ast e):bz W cx target own ast e:=λzz A s g σ env ρ xs av hh rm i eo he=>by
 refine xa (Es he) λhx hl=>?_
 clear he hl;rcases hx with hx|hx|⟨kvs,hx,rfl⟩
 .refine(h A s g σ env ρ _ av rm i eo hx).use λv an aX st W4=>ar W4 λy e q=>?_
  clear W4;injection e with ML aou;subst ML
  refine bZ (Is.xT st.inv (v:=v) q) λa vs KZ hL r=>?_;subst KZ
  refine ar (id hL) λo ho zz=>?_
  have a5:=dI ho
  refine OL hL ?_
  have keep:∀b o,an.heap.get? b=some o->(an.heap.push {cls:= .type "list_iterator",data:= .fields #[.ref a, .int 0 0]}).get? b=some o:=λb o e=>bT _ e
  have bb:=aS.il (G:=W.G) (tk:=an.toks) st.inv keep
  have hI:(an.heap.push {cls:= .type "list_iterator",data:= .fields #[.ref a, .int 0 0]}).IsListIter an.heap.objs.size a 0:=bQ _ (cJ _ rfl) rfl rfl
  have ga:∃o,aX.get? a=some o:=by
   refine oE (Is.s7 (v:= .ref a) q) λa' o' Ni n' e' H zz=>?_
   injection e' with ald;subst ald;exact⟨o',H⟩
  have gn:aX.get? an.heap.objs.size=none:=by
   cases q:aX.get? an.heap.objs.size with
   |none=>rfl
   |some o=>have:=st.inv.sub _ _ q;rw[fq] at this;exact aC this
  have s0:s.heap.get? an.heap.objs.size=none:=by
   cases q:s.heap.get? an.heap.objs.size with
   |none=>rfl
   |some o=>
    exfalso
    by_cases hc:an.heap.objs.size=W.G.c
    .refine gE st.inv.shr.some λo' zz zz H zz=>?_
     rw[<- hc,fq] at H;exact aC H
    .have:=st.keep _ _ hc q;rw[fq] at this;exact aC this
  have br:vs.size=xs.length:=by have:=r.length;exact this
  have KT:=Hc (target:=target) (QK (prog:=W.G.prog) (w:=W.G.w) hh an.heap.objs.size a (dH a5) vs) (λi v s Q E hs hq=>QX (G:=W.G) (by
   exact xa hs λK1 zz=>cq K1 λo H O h3=>iY o H (.inl O) _ h3) hq)
  rw[br] at KT
  refine(eY aX _ rfl (st.trans bb) (⟨_,_,_,_,_,KT,⟨hI,hL.push _⟩,?_,?_,?_,λs Q E hs hq=>wpAny_pyIter_listiter hs.1 hq,λi h' hs b V=>by
   exact xa hs λMM zz=>ar MM λo H zz=>Y (bY.mp V)<|⟨o,H⟩⟩))
  .intro i v h' hp
   refine xe (wG.mp hp) λhi he=>?_
   have hN:i<xs.length:=br▸hi
   refine ar (r.get (k:=i) (d:=xs[i]) (by simp[hN])) λw hw q=>?_
   rw[lR,hp] at hw
   injection hw with Bk;subst Bk
   exact ai (xs[i]) (by simp[hN]) (.inl q)
  .intro b V
   exact Y (bY.mp V)<|vP s0 gn _ (cJ _ rfl)
  .intro b V
   rcases bK.mp V with rfl|V
   .exact .inl (.head _)
   .exact Y (bY.mp V)<| .inr ga
 .refine(h A s g σ env ρ _ av rm i eo hx).use λv an aX st W5=>ar W5 λy e q=>?_
  clear W5;injection e with ML aou;subst ML
  refine bZ (Is.qo st.inv (v:=v) q) λa vs ale hL r=>?_;subst ale
  refine ar (id hL) λo ho zz=>?_
  have a5:=dI ho
  refine wN hL ?_
  have keep:∀b o,an.heap.get? b=some o->(an.heap.push {cls:= .type "tuple_iterator",data:= .fields #[.ref a, .int 0 0]}).get? b=some o:=λb o e=>bT _ e
  have bb:=aS.il (G:=W.G) (tk:=an.toks) st.inv keep
  have hI:(an.heap.push {cls:= .type "tuple_iterator",data:= .fields #[.ref a, .int 0 0]}).IsTupleIter an.heap.objs.size a 0:=bQ _ (cJ _ rfl) rfl rfl
  have ga:∃o,aX.get? a=some o:=by
   refine oE (Is.kH (v:= .ref a) q) λa' o' Ni n' e' H zz=>?_
   injection e' with Bt;subst Bt;exact⟨o',H⟩
  have gn:aX.get? an.heap.objs.size=none:=by
   cases q:aX.get? an.heap.objs.size with
   |none=>rfl
   |some o=>have:=st.inv.sub _ _ q;rw[fq] at this;exact aC this
  have s0:s.heap.get? an.heap.objs.size=none:=by
   cases q:s.heap.get? an.heap.objs.size with
   |none=>rfl
   |some o=>
    exfalso
    by_cases hc:an.heap.objs.size=W.G.c
    .refine gE st.inv.shr.some λo' zz zz H zz=>?_
     rw[<- hc,fq] at H;exact aC H
    .have:=st.keep _ _ hc q;rw[fq] at this;exact aC this
  have br:vs.size=xs.length:=by have:=r.length;exact this
  have uj:(an.heap.push {cls:= .type "tuple_iterator",data:= .fields #[.ref a, .int 0 0]}).IsTuple a vs:=by
   exact ar hL λo ho x=>ai o (keep _ _ ho) x
  have KT:=Hc (target:=target) (acq (prog:=W.G.prog) (w:=W.G.w) hh an.heap.objs.size a (dH a5) vs) (λi v s Q E hs hq=>QX (G:=W.G) (by
   exact xa hs λK2 zz=>cq K2 λo H O h3=>iY o H (.inr O) _ h3) hq)
  rw[br] at KT
  refine(eY aX _ rfl (st.trans bb) (⟨_,_,_,_,_,KT,⟨hI,uj⟩,?_,?_,?_,λs Q E hs hq=>wpAny_pyIter_tupleiter hs.1 hq,λi h' hs b V=>by
   exact xa hs λaov zz=>ar aov λo H zz=>Y (bY.mp V)<|⟨o,H⟩⟩))
  .intro i v h' hp
   refine xe (wG.mp hp) λhi he=>?_
   have hN:i<xs.length:=br▸hi
   refine ar (r.get (k:=i) (d:=xs[i]) (by simp[hN])) λw hw q=>?_
   rw[lR,hp] at hw
   injection hw with K3;subst K3
   exact ai (xs[i]) (by simp[hN]) (.inl q)
  .intro b V
   exact Y (bY.mp V)<|vP s0 gn _ (cJ _ rfl)
  .intro b V
   rcases bK.mp V with rfl|V
   .exact .inl (.head _)
   .exact Y (bY.mp V)<| .inr ga
 .refine(h A s g σ env ρ _ av rm i eo hx).use λv an aX st W6=>ar W6 λy e q=>?_
  clear W6;injection e with aow asp;subst aow
  refine RZ q λa Ks xs hd H O h3 h4=>?_;clear q;subst Ks
  have lo:=Qi hG st.inv.base hd
  refine pU hd λo es ep ho hc iI he sn hn=>?_
  have hm:nU an.heap a es ep:=bQ o (st.inv.sub _ _ ho) hc iI
  have a5:=dI (st.inv.sub _ _ ho)
  refine Se lo hm ?_
  have keep:∀b o,an.heap.get? b=some o->(an.heap.push {cls:= .type "dict_keyiterator",data:= .fields #[.ref a, .int 0 0, .int es.size 0, .int ep 0]}).get? b=some o:=λb o e=>bT _ e
  have bb:=aS.il (G:=W.G) (tk:=an.toks) st.inv keep
  refine xa (afh st) λs0 gn=>?_
  have KT:=Hc (target:=target) (QW (prog:=W.G.prog) (w:=W.G.w) hh an.heap.objs.size a (dH a5) es ep) (λi v s Q E hs hq=>letGo_keyiter hs.1 hq)
  have br:es.size=(kvs.map (·.1)).length:=by refine sl eV<|Y he<|sl H ?_;simp
  rw[br] at KT
  refine(eY aX _ rfl (st.trans bb) (⟨_,_,_,_,_,KT,⟨(bQ _ (cJ _ rfl) rfl (by refine Y br ?_;rfl)),hm.at λo e=>keep _ _ e⟩,?_,?_,?_,λs Q E hs hq=>ZY hs.1 hq,λi h' hs b V=>by
   exact xa hs λK4 zz=>ar K4 λo H zz=>Y (bY.mp V)<|⟨o,H⟩⟩))
  .intro i v h' VU;refine ar VU λe hp AV=>?_;clear VU;subst AV
   have iO:es.toList[i]? =some e:=by refine Y lR ?_;exact hp
   rw[he,ll] at iO
   clear hp;cases hx:xs[i]? with
   |none=>rw[hx] at iO;exact aC iO
   |some y=>
    rw[hx] at iO
    injection iO with A8;subst A8
    have hk:(kvs.map (·.1))[i]? =some y.1:=by refine sl H<|Y ll<|Y hx ?_;rfl
    refine ar (O.get hk) λu hu q=>?_
    rw[ll,hx] at hu
    injection hu with alf;subst alf
    exact ai y.1 hk (.inl q)
  .intro b V
   exact Y (bY.mp V)<|vP s0 gn _ (cJ _ rfl)
  .intro b V
   rcases bK.mp V with rfl|V
   .exact .inl (.head _)
   .exact Y (bY.mp V)<| .inr ⟨o,ho⟩
end
def cG(cx:Cx)(κ:cF)(env:Env)(ρ:List aK)(b:az):Prop:=b=env.locals\/(∃x,env.cells.lookup x=some b)\/∃x i w,cx.Γ.lookup x=some i/\ρ[i]? =some w/\dY w=true/\b=κ.f i
section
variable{G:eI}{cx:Cx}{κ:cF}{A:bV}{s s':aJ}{g:aG}{σ av:Sg}{ρ aE:List aK}{env:Env}{v:ao}{b:aK}
theorem a7.moved(eo:a7 G cx κ g s.heap env ρ)(m:Moved M s s')(h:∀b,cG cx κ env ρ b->¬M b):a7 G cx κ g s'.heap env ρ:=by
 refine cP m λh' tk K5 k=>?_;clear m;subst K5
 have bk:∀{x:Str} {i:Nat} {v:ao} {b:aK},cx.Γ.lookup x=some i->ρ[i]? =some b->eF G κ i g s.heap v b->eF G κ i g h' v b:=by
  intro x i v b H O q
  cases b with
  |un=>trivial
  |v y=>exact q
  |own ds=>
   exact cq q λvs e alg r=>xe alg λn p=>bQ vs e (⟨n,k _ _ (h _ (.inr (.inr (jX x i _ H O rfl rfl)))) p⟩) r
  |cI kvs=>
   exact cj q λe Ke r=>ar Ke λxs K6 r2=>gE K6 λo es ep ho r1=>bO e ((ai xs ((tE o es ep (k _ _ (h _ (.inr (.inr (jX x i _ H O rfl rfl)))) ho) r1)) r2)) r
 refine⟨eo.sc,eo.kind,eo.glob,eo.jL,eo.above,eo.lc,eo.lg,?_,λy i b H O h3 h4=>?_,eo.kZ,λy a e=>?_,eo.cL,eo.ap,eo.n5,eo.od⟩
 .refine ar eo.vars λm n f=>ai m (n.at' λo e=>k _ _ (h _ (.inl rfl)) e) (λy i b H O h3 h4=>?_)
  exact ar (f y i b H O h3 h4) λv e q=>ai v e (bk H O q)
 .exact bZ (eo.cells y i b H O h3 h4) λa v e alh q=>ar alh λo ho hd=>eY a v e ((ai o (k _ _ (h _ (.inr (.inl ⟨y,e⟩))) ho) hd)) (bk H O q)
 .exact nJ (eo.cc y a e) λH O v o ho hd=>xO H O v o (k _ _ (h _ (.inr (.inl ⟨y,e⟩))) ho) hd
theorem a7.un(eo:a7 G cx κ g s.heap env ρ)(i:Nat):a7 G cx κ g s.heap env (ρ.set i .un) where
 sc:=eo.sc
 kind:=eo.kind
 glob:=eo.glob
 jL:=eo.jL
 above:=eo.above
 lc:=eo.lc
 lg:=eo.lg
 vars:=by
  refine ar eo.vars λm n f=>ai m n (λy j b H O h3 h4=>?_)
  rcases dP O with⟨_,e⟩|⟨_,O⟩
  .exact absurd e h3
  .exact f y j b H O h3 h4
 cells:=λy j b H O h3 h4=>by
  rcases dP O with⟨_,e⟩|⟨_,O⟩
  .exact absurd e h3
  .exact eo.cells y j b H O h3 h4
 kZ:=eo.kZ
 cc:=eo.cc
 cL:=eo.cL
 ap:=JG eo (b:= .un) λh=>nomatch h
 n5:=eo.n5
 od:=JH eo (b:= .un) λh=>nomatch h
theorem a7.wq(eo:a7 G cx κ g s.heap env ρ)(t:iM):a7 G cx κ g s.heap env (cb t ρ):=by
 cases t with
 |one i=>exact eo.un i
 |two i j=>exact(eo.un i).un j
theorem cG.un(h:cG cx κ env (ρ.set i .un) a):cG cx κ env ρ a:=by
 rcases h with h|h|⟨x,j,ds,H,O,ho,h3⟩
 .exact .inl h
 .exact .inr (.inl h)
 .rcases dP O with⟨_,e⟩|⟨_,O⟩
  .clear O;subst e;exact aQ ho
  .exact .inr (.inr (jX x j ds H O ho h3))
theorem cG.wq(h:cG cx κ env (cb t ρ) a):cG cx κ env ρ a:=by
 cases t with
 |one i=>exact h.un
 |two i j=>exact(cG.un h).un
theorem a7.I8(eo:a7 G cx κ g s.heap env ρ)(b:az)(h:Wr cl cx env b):∃o,s.heap.get? b=some o:=by
 rcases h with rfl|⟨x,_,_,h⟩
 .exact ar eo.vars λm A0 zz=>gE A0 λo es ep ho zz=>⟨o,ho⟩
 .exact nJ (eo.cc x b h) λzz zz w o ho zz=>⟨o,ho⟩
theorem Wr.at{b:az}(h:Wr cl cx env b):cG cx κ env ρ b:=by
 rcases h with rfl|⟨x,_,_,h⟩
 .exact .inl rfl
 .exact .inr (.inl ⟨x,h⟩)
theorem a7.live(eo:a7 G cx κ g s.heap env ρ)(hv:∀x i w,cx.Γ.lookup x=some i->ρ[i]? =some w->dY w=true->cx.var x=true)(h:cG cx κ env ρ a):∃o,s.heap.get? a=some o:=by
 rcases h with rfl|⟨x,h⟩|⟨x,i,w,H,O,ho,rfl⟩
 .exact ar eo.vars λm ali zz=>gE ali λo es ep ho zz=>⟨o,ho⟩
 .exact nJ (eo.cc x a h) λzz zz w o ho zz=>⟨o,ho⟩
 .have hk:=hv x i w H O ho
  have go:∀v,eF G κ i g s.heap v w->∃o,s.heap.get? (κ.f i)=some o:=λv q=>by
   cases w with
   |un=>exact aQ ho
   |v y=>exact aQ ho
   |own ds=>exact cq q λvs zz alj zz=>xe alj λn p=>⟨_,p⟩
   |cI kvs=>exact cj q λzz K7 zz=>ar K7 λxs Kb zz=>gE Kb λo es ep p zz=>⟨_,p⟩
  have hu:w≠ .un:=λe=>by clear go;subst e;exact aQ ho
  unfold Cx.var at hk
  simp only[lU,beq_iff_eq] at hk
  rcases hk with(hk|hk)|hk
  .exact ar eo.vars λm lL f=>ar (f x i _ H O hu hk) λv zz q=>go v q
  .exact bZ (eo.cells x i _ H O hu (.inl hk)) λzz v zz zz q=>go v q
  .exact bZ (eo.cells x i _ H O hu (.inr hk)) λzz v zz zz q=>go v q
theorem zH(h:cg t x ρ=some aE):cb t aE=cb t ρ:=by
 cases t with
 |one i=>injection h with vi;subst vi;exact qU ..
 |two i j=>
  refine cP (DZ h) λa c alk K8=>?_;clear h;subst alk K8
  exact IC ..
theorem cG.aiC(h:cg t x ρ=some aE)(e:cG cx κ env aE a):cG cx κ env (cb t ρ) a:=by
 rcases e with e|e|⟨y,j,ds,H,O,ho,h3⟩
 .exact .inl e
 .exact .inr (.inl e)
 .refine .inr (.inr (jX y j ds H ?_ ho h3))
  cases t with
  |one i=>
   injection h with vr;subst vr
   rcases dP O with⟨_,z⟩|⟨n,O⟩
   .clear O;subst z;exact aQ ho
   .show(ρ.set i .un)[j]? =_
    refine Y Dp<|Y (if_neg n) ?_;exact O
  |two i k=>
   refine cP (DZ h) λa c KI Bu=>?_;clear h;subst KI Bu
   rcases dP O with⟨_,z⟩|⟨n,O⟩
   .clear O;subst z;exact aQ ho
   .rcases dP O with⟨_,z⟩|⟨n',O⟩
    .clear O;subst z;exact aQ ho
    .show((ρ.set i .un).set k .un)[j]? =_
     refine Y Dp<|Y (if_neg n)<|Y Dp<|Y (if_neg n') ?_;exact O
theorem a7.Hp(eo:a7 G cx κ g s.heap env ρ):∃o,s.heap.get? env.locals=some o:=by
 exact ar eo.vars λm alm zz=>gE alm λo es ep ho zz=>⟨o,ho⟩
theorem adV:cg t x (cb t ρ)=cg t x ρ:=by
 cases t with
 |one i=>
  show some ((ρ.set i _).set i _)=some (ρ.set i _)
  exact Y (qU _) rfl
 |two i j=>
  show(tx x).map _=(tx x).map _
  cases tx x with
  |none=>rfl
  |some p=>exact congrArg some (IC ..)
theorem Si:cb t (cb u ρ)=cb u (cb t ρ):=by
 have un:∀(ρ:List aK) (i j:Nat),(ρ.set i .un).set j .un=(ρ.set j .un).set i .un:=λρ i j=>by
  by_cases e:i=j
  .subst e;rfl
  .exact Ph _ _ e
 cases t with
 |one i=>cases u with
  |one j=>exact un ρ j i
  |two j k=>
   show((ρ.set j .un).set k .un).set i .un=((ρ.set i .un).set j .un).set k .un
   exact Y (un (ρ.set j .un) k i)<|Y (un ρ j i) rfl
 |two i l=>cases u with
  |one j=>
   show((ρ.set j .un).set i .un).set l .un=((ρ.set i .un).set l .un).set j .un
   exact Y (un ρ j i)<|Y (un (ρ.set i .un) j l) rfl
  |two j k=>
   show(((ρ.set j .un).set k .un).set i .un).set l .un=(((ρ.set i .un).set l .un).set j .un).set k .un
   exact Y (un (ρ.set j .un) k i)<|Y (un ρ j i)<|Y (un ((ρ.set i .un).set j .un) k l)<|Y (un (ρ.set i .un) j l) rfl
theorem agZ:cb t (cb t ρ)=cb t ρ:=by
 cases t with
 |one i=>
  show(ρ.set i _).set i _=ρ.set i _
  exact Y (qU _) rfl
 |two i j=>
  exact IC ..
end
structure CF(G:eI)(C:az->Prop)(aD:aJ)(aN:aG)(wr:List az)(D:az)(av:Sg)(ds:List ah)(s':aJ)(g':aG):Prop where
 same:s'.gens=aD.gens/\s'.os=aD.os
 keep:∀b o,b≠G.c->b ∉ wr->b≠D->¬C b->aD.heap.get? b=some o->s'.heap.get? b=some o
 grow:Sub aN g'
 fresh:∀b o,g'.get? b=some o->aN.get? b=some o\/aD.heap.get? b=none
 inv:Inv G g' av s'
 acc:∃ws,s'.heap.PlainList D ws/\aT g' ws.toList ds
 rS:g'.get? D=none
structure CI(G:eI)(C:az->Prop)(aD:aJ)(aN:aG)(wr:List az)(D:az)(av:Sg)(ds:List ah)(s':aJ)(g':aG):Prop extends CF G C aD aN wr D av ds s' g' where
 wl:∀b∈wr,∃o,s'.heap.get? b=some o
section
variable{G:eI}{cx:Cx}{κ:cF}{A:bV}{aD s' dz:aJ}{aN g' yH:aG}{av nV:Sg}{wr:List az}{C:az->Prop}{D:az}{ds:List ah}
theorem CI.yI(c:CI G C aD aN wr D av ds s' g')(Cz:D≠G.c)(hwc:G.c ∉ wr)(hC:∀b,C b->∃o,s'.heap.get? b=some o)(st:aS G s' g' nV dz yH):CI G C aD aN wr D nV ds dz yH:=by
 refine ar c.acc λws Kt hi=>xe Kt λn hp=>?_
 have dead:∀b,s'.heap.get? b=none->b≠G.c->aD.heap.get? b=none:=λb e V=>by
  cases q:aD.heap.get? b with
  |none=>rfl
  |some o=>
   by_cases hw:b∈wr
   .refine xe (c.wl b hw) λo' e'=>?_;rw[e] at e';exact aC e'
   .by_cases hD:b=D
    .rw[hD,hp] at e;exact ft e
    .by_cases hc:C b
     .refine xe (hC b hc) λo' e'=>?_;rw[e] at e';exact aC e'
     .rw[c.keep b o V hw hD hc q] at e;exact ft e
 refine⟨⟨?_,λb o H O h3 h4 e=>st.keep b o H (c.keep b o H O h3 h4 e),c.grow.trans st.grow,λb o e=>?_,st.inv,(ai ws (⟨n,st.keep _ _ Cz hp⟩) (hi.mono st.grow)),st.gone c.rS hp⟩,λb V=>?_⟩
 .exact⟨st.same.1.trans c.same.1,st.same.2.trans c.same.2⟩
 .refine a9 (st.fresh b o e) (λe'=>?_) (λe'=>?_)
  .exact c.fresh b o e'
  .refine .inr (dead b e' ?_)
   rintro rfl
   rw[st.inv.gc] at e;exact aC e
 .exact xe (c.wl b V) λo e=>⟨o,st.keep b o (λz=>hwc (z▸V)) e⟩
theorem CF.move(c:CF G C aD aN wr D av ds s' g')(m:Moved M s' dz)(hM:∀b,M b->g'.get? b=none/\b≠G.c/\b≠D/\(aD.heap.get? b=none\/b∈wr\/C b)):CF G C aD aN wr D av ds dz g':=by
 refine ar c.acc λws aln hi=>xe aln λn hp=>?_
 have inv:=c.inv.moved m λb V=>⟨(hM b V).1,(hM b V).2.1⟩
 refine cP m λh' tk alo k=>?_;subst alo
 refine⟨?_,λb o H O h3 h4 e=>k b o (λz=>?_) (c.keep b o H O h3 h4 e),c.grow,c.fresh,inv,(ai ws (⟨n,k _ _ (λz=>(hM _ z).2.2.1 rfl) hp⟩) hi),c.rS⟩
 .exact c.same
 .rcases (hM b z).2.2.2 with q|q|q
  .rw[e] at q;exact ft q
  .exact O q
  .exact h4 q
theorem CI.move(c:CI G C aD aN wr D av ds s' g')(m:Moved M s' dz)(hM:∀b,M b->g'.get? b=none/\b≠G.c/\b≠D/\(aD.heap.get? b=none\/b∈wr\/C b))(hw:∀b∈wr,∃o,dz.heap.get? b=some o):CI G C aD aN wr D av ds dz g':=
 ⟨c.toCF.move m hM,hw⟩
theorem acM(hp:s.heap.PlainList D ws)(hz:ws.size<=sizeLine)(q:∀h',h'.PlainList D (ws.push v)->jV D s.heap h'->Q .none {s with heap:=h'}):
 wpAny (model G.prog G.w) A (call (.builtin "list.append") [.ref D,v]) Q F s:=by
 refine xe hp λn hp=>ny slot_list_append (ai _ hp rfl) entry_list_append ?_ (args_list_append _ _)
 show wpAny _ _ (updateSeq D (·.push v)>>=λzz=>ret .none) _ _ s
 refine am<|Dv hp rfl (aH (ai (.none) rfl (q _ ?_ (ku ..))))
 have:=wV hp (·.push v)
 exact⟨_,this⟩
theorem CI.append(c:CI G C aD aN wr D av ds s' g')(Cz:D≠G.c)(hDw:D ∉ wr)(hv:Is g' v x)(hz:ds.length<=lim)
 (q:∀dz,CI G C aD aN wr D av (ds++[x]) dz g'->Moved (·=D) s' dz->Q .none dz):wpAny (model G.prog G.w) A (call (.builtin "list.append") [.ref D,v]) Q F s':=by
 refine ar c.acc λws hp hi=>?_
 have br:ws.size=ds.length:=by have:=hi.length;exact this
 refine acM hp (fG (FF (aA br) hz)) λh' iO hs=>?_
 have m:Moved (·=D) s' {s' with heap:=h'}:=gq h' s'.toks rfl (λb o V e=>(hs.2 b V).trans e)
 have inv:=c.inv.moved m λb V=>by exact Y V<|⟨c.rS,Cz⟩
 refine q _ ⟨⟨?_,λb o H O h3 h4 e=>(hs.2 b h3).trans (c.keep b o H O h3 h4 e),c.grow,c.fresh,inv,(ai _ iO ?_),c.rS⟩,λb V=>?_⟩ m
 .exact c.same
 .exact Y G0<|hi.append (.one hv)
 .exact xe (c.wl b V) λo e=>⟨o,(hs.2 b λz=>hDw (z▸V)).trans e⟩
end
structure iE(W:Wd)(A:bV)(cl:Str->Bool)(cx:Cx)(κ:cF)(env:Env)(kQ:List aK)(target:Expr)(t:iM)(aD:aJ)(aN:aG)(I:az)(xs:List ah)(D:az)(fp wr:List az)
 (P Md:Nat->ao->aG->Prop) (St:Nat->aG->Prop):Prop where
 hh:A.handled=none
 rm:dK A W.n
 kt:KTurns W.G.prog W.G.w A target I fp wr xs.length P Md St
 item:∀i v h',P i v h'->∃x,xs[i]? =some x/\Drawn aN h' (l7 t) v x
 wg:∀b∈wr,aN.get? b=none/\∃o,aD.heap.get? b=some o
 Gd:∀b∈fp,b∈wr\/∃o,aN.get? b=some o
 live:∀i h',St i h'->∀b∈wr,∃o,h'.get? b=some o
 ew:∀b,cG cx κ env kQ b->b ∉ wr
 eD:∀b,cG cx κ env kQ b->b≠D
 Dc:D≠W.G.c
 Dw:D ∉ wr
 cw:W.G.c ∉ wr
 tgt:jy cl cx target t
section
variable{W:Wd}{A:bV}{cl:Str->Bool}{cx:Cx}{κ:cF}{env:Env}{ρ aE:List aK}{target:Expr}{t:iM}{aD s':aJ}{aN g':aG}{I:az}{xs:List ah}{D:az}{fp wr:List az}
 {P Md:Nat->ao->aG->Prop} {St:Nat->aG->Prop} {av nV:Sg} {ds:List ah} {i:Nat}
theorem Drawn.mono(d:Drawn g h own v x)(s:Sub g g'):Drawn g' h own v x:=by
 rcases d with d|⟨o,T,vals,ys,e1,e2,H,O⟩
 .exact .inl (d.mono s)
 .exact .inr (RY o T vals ys e1 e2 H (O.mono s))
theorem iE.gw(L:iE W A cl cx κ env ρ target t aD aN I xs D fp wr P Md St)(c:CI W.G (Wr cl cx env) aD aN wr D av ds s' g'):∀b∈wr,g'.get? b=none:=λb V=>by
 cases q:g'.get? b with
 |none=>rfl
 |some o=>
  refine qG (L.wg b V) λH o' O=>a9 (c.fresh b o q) (λe=>?_) (λe=>?_)
  .rw[H] at e;exact aC e
  .rw[O] at e;exact ft e
theorem iE.next(L:iE W A cl cx κ env (cb t ρ) target t aD aN I xs D fp wr P Md St)(c:CI W.G (Wr cl cx env) aD aN wr D av ds s' g')(eo:a7 W.G cx κ g' s'.heap env (cb t ρ))(dF:St i s'.heap)(hi:i<xs.length)(hx:xs[i]? =some x)
 (V:cg t x ρ=some aE)
 (q:∀v an,wpAny (model W.G.prog W.G.w) A (letOwnedTupleGo target (.ref I) v) (λzz aZ=>wpAny (model W.G.prog W.G.w) A (assign target env v) (λzz dz=>CI W.G (Wr cl cx env) aD aN wr D av ds dz g'/\a7 W.G cx κ g' dz.heap env aE/\St (i+1) dz.heap) F aZ) F an->Q (some v) an):
 wpAny (model W.G.prog W.G.w) A (pyNext (.ref I)) Q F s':=by
 refine L.kt.item i s' Q F hi dF λv h' tk hM hk=>q v _ (L.kt.go i v _ _ _ hM λf6 hP hS jH=>?_)
 have m:Moved (·∈wr) s' {s' with heap:=f6,toks:=tk}:=gq f6 tk rfl (λb o V e=>jH b o V (hk b o V e))
 have c₁:CI W.G (Wr cl cx env) aD aN wr D av ds {s' with heap:=f6,toks:=tk} g':=c.move m (λb V=>(fb (L.gw c b V) (λz=>L.cw (z▸V)) (λz=>L.Dw (z▸V)) (.inr (.inl V)))) (L.live _ _ hS)
 have dC:a7 W.G cx κ g' f6 env (cb t ρ):=eo.moved m L.ew
 refine ar (L.item i v f6 hP) λx' ng dr=>?_
 rw[hx] at ng;injection ng with K9;subst K9
 refine Sf (s:={s' with heap:=f6,toks:=tk}) L.hh L.tgt c₁.inv dC (dr.mono c.grow) (by refine Y adV ?_;exact V) λdz m₂ gG=>?_
 have Yd:∀b,Wr cl cx env b->b ∉ wr:=λb h=>L.ew _ h.at
 refine cP m₂ λh3 t3 e3 k3=>?_
 clear m₂;subst e3
 refine bO (c₁.move (gq h3 t3 rfl k3) (λb V=>?_) (λb V=>?_)) gG (L.kt.frame _ _ _ hS λb V o e=>k3 b o (λz=>?_) e)
 .exact xa (Wr.safe (s:={s' with heap:=f6,toks:=tk}) dC b V) λq1 q2=>fb q1 q2 (L.eD _ V.at) (.inr (.inr V))
 .exact xe (c₁.wl b V) λo e=>⟨o,k3 b o (λz=>Yd b z V) e⟩
 .rcases L.Gd _ V with q|⟨o',q⟩
  .exact Yd b z q
  .have:=c.grow _ _ q
   rw[(Wr.safe eo b z).1] at this;exact aC this
theorem iE.emit(L:iE W A cl cx κ env (cb t ρ) target t aD aN I xs D fp wr P Md St)(he:ab W cx elt e)(c:CI W.G (Wr cl cx env) aD aN wr D av ds s' g')(eo:a7 W.G cx κ g' s'.heap env aE)(hr:cb t aE=cb t ρ)(dF:St i s'.heap)
 (hv:ba (ev W.aW W.R e aE av)=some (d,nV)) (hz:ds.length<=lim):
 wpAny (model W.G.prog W.G.w) A (eval elt env) (λv gK=>wpAny (model W.G.prog W.G.w) A (call (.builtin "list.append") [.ref D,v]) (λzz iJ=>∃m6,CI W.G (Wr cl cx env) aD aN wr D nV (ds++[d]) iJ m6/\a7 W.G cx κ m6 iJ.heap env (cb t ρ)/\St i iJ.heap) F gK) F s':=by
 refine(he.ba L.rm c.inv eo hv).use λv gK qE st q=>?_
 have vZ:=c.yI L.Dc L.cw eo.I8 st
 have rv:=(eo.step st).wq t
 rw[hr] at rv
 refine vZ.append L.Dc L.Dw q hz λiJ kU m=>(bQ qE kU (rv.moved m L.eD) ?_)
 refine cP m λh5 t5 alp k5=>?_;clear kU m;subst alp
 refine L.kt.frame _ _ _ dF λb V o e=>?_
 have hbg:∀o',aN.get? b=some o'->b≠D/\b≠W.G.c:=λo' q=>by
  constructor
  .rintro rfl
   have:=vZ.grow _ _ q
   rw[vZ.rS] at this;exact aC this
  .rintro rfl
   have:=vZ.grow _ _ q
   rw[st.inv.gc] at this;exact aC this
 have qM:b≠D/\b≠W.G.c:=by
  rcases L.Gd b V with q|⟨o',q⟩
  .exact⟨λz=>L.Dw (z▸q),λz=>L.cw (z▸q)⟩
  .exact hbg o' q
 exact k5 b o qM.1 (st.keep b o qM.2 e)
theorem iE.yI(L:iE W A cl cx κ env (cb t ρ) target t aD aN I xs D fp wr P Md St)(c:CI W.G (Wr cl cx env) aD aN wr D av ds s' g')(st:aS W.G s' g' nV gK qE)(dF:St i s'.heap):St i gK.heap:=by
 refine L.kt.frame _ _ _ dF λb V o e=>st.keep b o ?_ e
 clear e;rcases L.Gd b V with q|⟨o',q⟩
 .exact λz=>L.cw (z▸q)
 .rintro rfl
  have:=c.grow _ _ q
  rw[c.inv.gc] at this;exact aC this
def u8(W:Wd)(cl:Str->Bool)(cx:Cx)(κ:cF)(env:Env)(kQ:List aK)(aD:aJ)(aN:aG)(xs:List ah)(D:az)(wr:List az)(St:Nat->aG->Prop)(f:ah->Sg->Option (List ah×Sg))(gH:List ah)(jo:Sg)(k:Nat)(s':aJ):Prop:=
 ∃i av ds g' rest,k=xs.length+1 - i/\i<=xs.length/\CI W.G (Wr cl cx env) aD aN wr D av ds s' g'/\a7 W.G cx κ g' s'.heap env kQ/\St i s'.heap/\l6 f (xs.drop i) av=some (rest,jo)/\ds++rest=gH
theorem Eu(h:i<xs.length):xs.drop i=xs[i]::xs.drop (i+1):=C8 h
def Fin(W:Wd)(cl:Str->Bool)(cx:Cx)(κ:cF)(env:Env)(kQ:List aK)(aD:aJ)(aN:aG)(wr:List az)(D:az)(gH:List ah)(jo:Sg)(R:x5->aJ->Prop):Prop:=
 ∀s' g',CF W.G (Wr cl cx env) aD aN wr D jo gH s' g'->a7 W.G cx κ g' s'.heap env kQ->R (.ok .next) s'
theorem iE.over(L:iE W A cl cx κ env (cb t ρ) target t aD aN I xs D fp wr P Md St)(fin:Fin W cl cx κ env (cb t ρ) aD aN wr D gH jo R)(c:CI W.G (Wr cl cx env) aD aN wr D jo gH s' g')(eo:a7 W.G cx κ g' s'.heap env (cb t ρ))(dF:St xs.length s'.heap)
 (q:∀dz,R (.ok .next) dz->Q none dz):wpAny (model W.G.prog W.G.w) A (pyNext (.ref I)) Q F s':=by
 refine L.kt.done s' _ _ dF λh' tk hk=>q _ (fin _ g' (c.toCF.move (gq h' tk rfl hk) λb V=>(fb (L.gw c b V) (λz=>L.cw (z▸V)) (λz=>L.Dw (z▸V)) (.inr (.inl V)))) ?_)
 have m:Moved (·∈wr) s' {s' with heap:=h',toks:=tk}:=gq h' tk rfl hk
 exact eo.moved m L.ew
theorem iE.VV(L:iE W A cl cx κ env (cb t ρ) target t aD aN I xs D fp wr P Md St)(he:ab W cx elt e)(hz:gH.length<=lim)
 (fin:Fin W cl cx κ env (cb t ρ) aD aN wr D gH jo R)
 (h:u8 W cl cx κ env (cb t ρ) aD aN xs D wr St (λx σ=>(cg t x ρ).bind λaE=>(ba (ev W.aW W.R e aE σ)).bind λp=>some ([p.1],p.2)) gH jo k s'):
 codeAny (model W.G.prog W.G.w) A (.compLoop (.ListComp elt [⟨target,iter,[],0⟩] scope pos) 0 (.ref I) (.ref D) env) R s':=by
 refine kcp_loop _ (λk s' h=>?_) k h
 refine oI h λi av ds g' rest zz=>nG zz λalq hi c eo dF hg ht=>?_;clear h;subst alq
 refine a9 (pO i xs.length) (λa5=>?_) (λwt=>?_)
 .rw[Eu a5,zw] at hg
  refine aP hg λK' H pr=>?_;clear fin;obtain⟨r1,ae⟩:=K'
  refine aP pr λalr O jQ=>?_;clear pr;obtain⟨q1,aF⟩:=alr
  refine aP H λaE V h3=>aP h3 λvj hv h4=>?_;clear H h3;obtain⟨d,lA⟩:=vj
  simp only[dj,iS] at h4
  refine xa h4 λFv vt=>?_;subst Fv;clear h4;subst vt
  simp only[dj,iS] at jQ
  refine xa jQ λBv oR=>?_;subst Bv;clear hg jQ;subst oR
  have hl:ds.length<=lim:=by rw[<- ht] at hz;simp at hz;exact BY hz
  refine L.next c eo dF a5 (by simp[a5]) V λv an hw=>cn hw (λzz aZ hw=>?_) λzz zz f=>f
  refine cn hw (λzz jC aoy=>cj aoy λjD ip eZ=>?_) λzz zz f=>f
  refine cn (L.emit he jD ip (zH V) eZ hv hl) (λv gK hw=>?_) λzz zz f=>f
  refine cn hw (λzz iJ aoz=>cq aoz λm6 kU vB La=>?_) λzz zz f=>f
  exact xq (xs.length+1 - (i+1)) (BZ (bj _ _) (aU (B1 a5))) (i+1) lA (ds++[d]) m6 q1 (mO rfl a5 kU vB La O (by refine sl ht ?_;simp))
 .have hN:i=xs.length:=by exact bR hi wt
  clear hz;subst hN
  rw[wS,DH] at hg
  simp only[dj,iS] at hg
  refine xa hg λKF j4=>?_;subst KF;clear hg;subst j4
  rw[gU] at ht
  clear h;subst ht
  exact L.over fin c eo dF λdz h=>h
theorem iE.VW(L:iE W A cl cx κ env (cb t ρ) target t aD aN I xs D fp wr P Md St)(he:ab W cx elt e)(hc:a6 W cx test c)(hz:gH.length<=lim)
 (fin:Fin W cl cx κ env (cb t ρ) aD aN wr D gH jo R)
 (h:u8 W cl cx κ env (cb t ρ) aD aN xs D wr St (λx σ=>(cg t x ρ).bind λaE=>(iu (ev W.aW W.R c aE σ)).bind λq=>if q.1 then(ba (ev W.aW W.R e aE q.2)).bind λp=>some ([p.1],p.2) else some ([],q.2)) gH jo k s'):
 codeAny (model W.G.prog W.G.w) A (.compLoop (.ListComp elt [⟨target,iter,[test],0⟩] scope pos) 0 (.ref I) (.ref D) env) R s':=by
 refine kct_loop _ (λk s' h=>?_) k h
 refine oI h λi av ds g' rest zz=>nG zz λKU hi ci eo dF hg ht=>?_;clear h;subst KU
 refine a9 (pO i xs.length) (λa5=>?_) (λwt=>?_)
 .rw[Eu a5,zw] at hg
  refine aP hg λBw H pr=>?_;clear fin;obtain⟨r1,ae⟩:=Bw
  refine aP pr λLb O jQ=>?_;clear pr;obtain⟨q1,aF⟩:=Lb
  refine aP H λaE V h3=>aP h3 λvk hv h4=>?_;clear H h3;obtain⟨tt,lA⟩:=vk
  refine L.next ci eo dF a5 (by simp[a5]) V λv an hw=>cn hw (λzz aZ hw=>?_) λzz zz f=>f
  refine cn hw (λzz jC aoA=>cj aoA λjD ip eZ=>?_) λzz zz f=>f
  refine cn (hc A jC g' av env aE tt lA L.rm jD.inv ip hv) (λb gK W7=>ar W7 λqE st eb=>?_) λzz zz f=>f.elim
  clear hv W7;subst eb
  have vZ:=jD.yI L.Dc L.cw ip.I8 st
  have VX:=L.yI jD st eZ
  cases b with
  |true=>
   refine Y (if_pos rfl)<|aP h4 λK1 hv4 h5=>?_;clear h4;obtain⟨d,als⟩:=K1
   simp only[dj,iS] at h5
   refine xa h5 λA7 Bu=>?_;subst A7;clear h5;subst Bu
   simp only[dj,iS] at jQ
   refine xa jQ λLc alu=>?_;subst Lc;clear hg jQ;subst alu
   have hl:ds.length<=lim:=by rw[<- ht] at hz;simp at hz;exact BY hz
   refine cn (L.emit he vZ (ip.step st) (zH V) VX hv4 hl) (λv iJ hw=>?_) λzz zz f=>f
   refine cn hw (λzz tW aoB=>cq aoB λFZ lB Fw alv=>?_) λzz zz f=>f
   exact xq (xs.length+1 - (i+1)) (BZ (bj _ _) (aU (B1 a5))) (i+1) als (ds++[d]) FZ q1 (mO rfl a5 lB Fw alv O (by refine sl ht ?_;simp))
  |false=>
   rw[if_neg (by simp)]
   simp only[nw,if_false,dj,iS] at h4
   refine xa h4 λKo Kh=>?_;subst Ko;clear h4;subst Kh
   simp only[dj,iS,kC] at jQ
   refine xa jQ λalw vC=>?_;subst alw;clear hg jQ;subst vC
   have rv:=(ip.step st).wq t
   rw[zH V] at rv
   exact xq (xs.length+1 - (i+1)) (BZ (bj _ _) (aU (B1 a5))) (i+1) lA ds qE q1 (mO rfl a5 vZ rv VX O ht)
 .have hN:i=xs.length:=by exact bR hi wt
  clear hz;subst hN
  rw[wS,DH] at hg
  simp only[dj,iS] at hg
  refine xa hg λLd AT=>?_;subst Ld;clear hg;subst AT
  rw[gU] at ht
  clear h;subst ht
  exact L.over fin ci eo dF λdz h=>h
end
section
variable{prog:eE}{w:dg}{A:bV}{R:x5->aJ->Prop}{s:aJ}
theorem aiD
 (h0:codeAny (model prog w) A (.compLoop (.ListComp elt [g1,⟨target,iter,ifs,0⟩] scope pos) 1 it acc env) R s)
 (h:wpAny (model prog w) A (pyIter it) (λmy s'=>codeAny (model prog w) A (.compLoop (.ListComp elt [g1,⟨target,iter,ifs,0⟩] scope pos) 1 my acc env) R s') (notedBy (model prog w) A env λx s'=>R (.error x) s') s):
 codeAny (model prog w) A (.compStart (.ListComp elt [g1,⟨target,iter,ifs,0⟩] scope pos) 1 it acc env) R s:=by
 refine OY ?_
 show wpAny _ _ ((compStart (.ListComp elt [g1,⟨target,iter,ifs,0⟩] scope pos) 1 it acc env).onRaise (λx=>do noteFrame x env;standAt theWindowsPlace)) _ _ s
 refine wpAny_notedAt<|am (wT (wpAny_ite ?_))
 split
 .first
   |exact am (aH (aH (Ip rfl h0)))
   |exact aH (Ip rfl h0)
 .first
   |exact am (uI (am (zl (am (cn h (λmy s' h'=>aH (Ip rfl h')) λzz zz x=>x)))))
   |(refine am (uI ?_);show wpAny _ _ (standAt iter.pos>>=_) _ _ s;exact am (zl (am (cn h (λmy s' h'=>aH (Ip rfl h')) λzz zz x=>x))))
theorem alx(elt target iter:Expr)(g1:Comprehension)(scope:jA)(pos:Pos)(it acc:ao)(env:Env):
 compTurn (.ListComp elt [g1,⟨target,iter,[],0⟩] scope pos) 1 it acc env=(standAt iter.pos>>=λzz=>pyNext it>>=λr=>match r with
  |none=>pure (.done .next)
  |some v=>letOwnedTupleGo target it v>>=λzz=>assign target env v>>=λzz=>
   (eval elt env>>=λx=>call (.builtin "list.append") [acc,x]>>=λzz=>pure ())>>=λzz=>
    again (.compLoop (.ListComp elt [g1,⟨target,iter,[],0⟩] scope pos) 1 it acc env)):=by rfl
theorem aly(elt target iter:Expr)(t2 i2:Expr)(scope:jA)(pos:Pos)(it acc:ao)(env:Env):
 compTurn (.ListComp elt [⟨target,iter,[],0⟩,⟨t2,i2,[],0⟩] scope pos) 0 it acc env=(standAt iter.pos>>=λzz=>pyNext it>>=λr=>match r with
  |none=>pure (.done .next)
  |some v=>letOwnedTupleGo target it v>>=λzz=>assign target env v>>=λzz=>
   eval i2 env>>=λx=>standAt i2.pos>>=λzz=>foldedSetIterable i2 env x>>=λx=>holding [x] (pyIter x)>>=λki=>runOwn (.compStart (.ListComp elt [⟨target,iter,[],0⟩,⟨t2,i2,[],0⟩] scope pos) 1 ki acc env) env>>=λzz=>
    again (.compLoop (.ListComp elt [⟨target,iter,[],0⟩,⟨t2,i2,[],0⟩] scope pos) 0 it acc env)):=by rfl
theorem afi(I:Nat->aJ->Prop)
 (turn:∀n s,I n s->wpAny (model prog w) A (pyNext it) (λr an=>match r with
  |none=>R (.ok .next) an
  |some v=>wpAny (model prog w) A (letOwnedTupleGo target it v) (λzz aZ=>wpAny (model prog w) A (assign target env v) (λzz aD=>
   wpAny (model prog w) A (eval elt env) (λx gK=>wpAny (model prog w) A (call (.builtin "list.append") [acc,x]) (λzz iJ=>∃m,m<n/\I m iJ) (λzz zz=>False) gK) (λzz zz=>False) aD) (λzz zz=>False) aZ) (λzz zz=>False) an) (λzz zz=>False) s)
 (n:Nat) (h:I n s):codeAny (model prog w) A (.compLoop (.ListComp elt [g1,⟨target,iter,[],0⟩] scope pos) 1 it acc env) R s:=by
 refine codeAny_loop rfl I (λn s hI=>?_) n h
 show wpAny _ A ((compTurn (.ListComp elt [g1,⟨target,iter,[],0⟩] scope pos) 1 it acc env).onRaise (λx=>do noteFrame x env;theTreesLotGoes x)) _ _ s
 refine wpAny_noted ?_
 rw[alx]
 refine am (zl (am (cn (turn n s hI) (λr an dL=>?_) λzz zz h'=>h'.elim)))
 cases r with
 |none=>exact aH dL
 |some v=>
  refine am (cn dL (λzz aZ Le=>?_) λzz zz h'=>h'.elim)
  refine am (cn Le (λzz aD tV=>?_) λzz zz h'=>h'.elim)
  exact am (am (cn tV (λx gK MN=>am (cn MN (λzz iJ MO=>aH (aH ⟨rfl,MO⟩)) λzz zz h'=>h'.elim)) λzz zz h'=>h'.elim))
theorem afj(I:Nat->aJ->Prop)(hs:∀x,foldedSetIterable i2 env x=pure x)
 (turn:∀n s,I n s->wpAny (model prog w) A (pyNext it) (λr an=>match r with
  |none=>R (.ok .next) an
  |some v=>wpAny (model prog w) A (letOwnedTupleGo target it v) (λzz aZ=>wpAny (model prog w) A (assign target env v) (λzz aD=>
   wpAny (model prog w) A (eval i2 env) (λx gK=>wpAny (model prog w) A (pyIter x) (λki iJ=>
    codeAny (model prog w) A (.compStart (.ListComp elt [⟨target,iter,[],0⟩,⟨t2,i2,[],0⟩] scope pos) 1 ki acc env) (λr tW=>match r with| .ok _=>∃m,m<n/\I m tW| .error _=>False) iJ) (λzz zz=>False) gK) (λzz zz=>False) aD) (λzz zz=>False) aZ) (λzz zz=>False) an) (λzz zz=>False) s)
 (n:Nat) (h:I n s):codeAny (model prog w) A (.compLoop (.ListComp elt [⟨target,iter,[],0⟩,⟨t2,i2,[],0⟩] scope pos) 0 it acc env) R s:=by
 refine codeAny_loop rfl I (λn s hI=>?_) n h
 show wpAny _ A ((compTurn (.ListComp elt [⟨target,iter,[],0⟩,⟨t2,i2,[],0⟩] scope pos) 0 it acc env).onRaise (λx=>do noteFrame x env;theTreesLotGoes x)) _ _ s
 refine wpAny_noted ?_
 rw[aly]
 refine am (zl (am (cn (turn n s hI) (λr an dL=>?_) λzz zz h'=>h'.elim)))
 cases r with
 |none=>exact aH dL
 |some v=>
  refine am (cn dL (λzz aZ Le=>?_) λzz zz h'=>h'.elim)
  refine am (cn Le (λzz aD tV=>?_) λzz zz h'=>h'.elim)
  refine am (cn tV (λx gK MN=>?_) λzz zz h'=>h'.elim)
  refine am (zl ?_)
  refine am (DM (hs x) ?_)
  refine am (jU (cn MN (λki iJ MO=>?_) λzz zz h'=>h'.elim))
  refine am (wpAny_runOwn (zu MO λr tW W8=>?_))
  cases r with
  |ok f=>exact aH ⟨rfl,W8⟩
  |error e=>exact W8.elim
end
section
variable{W:Wd}{A:bV}{cl:Str->Bool}{cx:Cx}{κ:cF}{env:Env}{ρ aE:List aK}{target l4:Expr}{t t2:iM}{aD s':aJ}{aN g':aG}{I:az}{xs:List ah}{D:az}{fp wr:List az}
 {P Md:Nat->ao->aG->Prop} {St:Nat->aG->Prop} {av nV:Sg} {ds:List ah} {i:Nat}
theorem iE.inner(L:iE W A cl cx κ env (cb t ρ) target t aD aN I xs D fp wr P Md St)(he:ab W cx elt e)(hz:gH.length<=lim)
 (fin:Fin W cl cx κ env (cb t ρ) aD aN wr D gH jo R)
 (h:u8 W cl cx κ env (cb t ρ) aD aN xs D wr St (λx σ=>(cg t x ρ).bind λaE=>(ba (ev W.aW W.R e aE σ)).bind λp=>some ([p.1],p.2)) gH jo k s'):
 codeAny (model W.G.prog W.G.w) A (.compLoop (.ListComp elt [g1,⟨target,iter,[],0⟩] scope pos) 1 (.ref I) (.ref D) env) R s':=by
 refine afi _ (λk s' h=>?_) k h
 refine oI h λi av ds g' rest zz=>nG zz λalz hi c eo dF hg ht=>?_;clear h;subst alz
 refine a9 (pO i xs.length) (λa5=>?_) (λwt=>?_)
 .rw[Eu a5,zw] at hg
  refine aP hg λMB H pr=>?_;clear fin;obtain⟨r1,ae⟩:=MB
  refine aP pr λKy O jQ=>?_;clear pr;obtain⟨q1,aF⟩:=Ky
  refine aP H λaE V h3=>aP h3 λtH hv h4=>?_;clear H h3;obtain⟨d,lA⟩:=tH
  simp only[dj,iS] at h4
  refine xa h4 λBw Bx=>?_;subst Bw;clear h4;subst Bx
  simp only[dj,iS] at jQ
  refine xa jQ λLf oT=>?_;subst Lf;clear hg jQ;subst oT
  have hl:ds.length<=lim:=by rw[<- ht] at hz;simp at hz;exact BY hz
  refine L.next c eo dF a5 (by simp[a5]) V λv an hw=>cn hw (λzz aZ hw=>?_) λzz zz f=>f
  refine cn hw (λzz jC MP=>cj MP λjD ip eZ=>?_) λzz zz f=>f
  refine cn (L.emit he jD ip (zH V) eZ hv hl) (λv gK hw=>?_) λzz zz f=>f
  refine cn hw (λzz iJ aoC=>cq aoC λm6 kU vB La=>?_) λzz zz f=>f
  exact xq (xs.length+1 - (i+1)) (BZ (bj _ _) (aU (B1 a5))) (i+1) lA (ds++[d]) m6 q1 (mO rfl a5 kU vB La O (by refine sl ht ?_;simp))
 .have hN:i=xs.length:=by exact bR hi wt
  clear hz;subst hN
  rw[wS,DH] at hg
  simp only[dj,iS] at hg
  refine xa hg λBh A5=>?_;subst Bh;clear hg;subst A5
  rw[gU] at ht
  clear h;subst ht
  exact L.over fin c eo dF λdz h=>h
theorem iE.VY(L:iE W A cl cx κ env (cb t (cb t2 ρ)) target t aD aN I xs D fp wr P Md St)(he:ab W cx elt e)(hI:bz W cx l4 (l7 t2) i2 ki)(hs:∀x,foldedSetIterable i2 env x=pure x)
 (wu:jy cl cx l4 t2) (Ge:∀x i w,cx.Γ.lookup x=some i->∀aE:List aK,aE[i]? =some w->dY w=true->cx.var x=true) (hz:gH.length<=lim)
 (fin:Fin W cl cx κ env (cb t (cb t2 ρ)) aD aN wr D gH jo R)
 (h:u8 W cl cx κ env (cb t (cb t2 ρ)) aD aN xs D wr St (λx σ=>(cg t x (cb t2 ρ)).bind λaE=>(fL (ev W.aW W.R ki aE σ)).bind λq=>
  l6 (λy σ=>(cg t2 y aE).bind λj8=>(ba (ev W.aW W.R e j8 σ)).bind λp=>some ([p.1],p.2)) q.1 q.2) gH jo k s'):
 codeAny (model W.G.prog W.G.w) A (.compLoop (.ListComp elt [⟨target,iter,[],0⟩,⟨l4,i2,[],0⟩] scope pos) 0 (.ref I) (.ref D) env) R s':=by
 refine afj _ hs (λk s' h=>?_) k h
 refine oI h λi av ds g' rest zz=>nG zz λalA hi c eo dF hg ht=>?_;clear h;subst alA
 refine a9 (pO i xs.length) (λa5=>?_) (λwt=>?_)
 .rw[Eu a5,zw] at hg
  refine aP hg λK2 H pr=>?_;clear fin;obtain⟨r1,ae⟩:=K2
  refine aP pr λBc O jQ=>?_;clear pr;obtain⟨q1,aF⟩:=Bc
  refine aP H λaE V h3=>aP h3 λBy hv h4=>?_;obtain⟨ys,lA⟩:=By
  simp only[dj,iS] at jQ
  refine xa jQ λvk alB=>?_;subst vk;clear hg jQ;subst alB
  have fF:=V
  refine L.next c eo dF a5 (by simp[a5]) V λv an hw=>cn hw (λzz aZ hw=>?_) λzz zz f=>f
  refine cn hw (λzz jC W9=>cj W9 λjD ip eZ=>?_) λzz zz f=>f
  refine cn (hI A jC g' av env aE ys lA L.hh L.rm jD.inv ip hv) (λv gK hw=>?_) λzz zz f=>f
  refine cn hw (λYe iJ F0=>bZ F0 λm6 as3 ej st K=>?_) λzz zz f=>f
  clear c W9 F0;clear h;subst ej
  refine oI K.ex λfp' CA P' Md' Yg zz=>nG zz λkt' yt aiE yu aoD aiF aiG=>?_
  have kU:=jD.yI L.Dc L.cw ip.I8 st
  have asq:=L.yI jD st eZ
  have vB:=ip.step st
  refine ar jD.acc λws aoE hiD=>?_;obtain⟨nD,Yh⟩:=aoE
  have lv:=λb (V:cG cx κ env aE b)=>ip.live (λx i w H O=>Ge x i w H aE O) V
  have L':iE W A cl cx κ env (cb t2 aE) l4 t2 iJ m6 as3 ys D fp' CA P' Md' Yg:=by
   refine⟨L.hh,L.rm,kt',aiE,λb V=>(yu b V).2,aoD,aiG,λb V hw=>?_,λb V=>?_,L.Dc,λz=>?_,λz=>?_,wu⟩
   .refine xe (lv b (cG.wq V)) λo ho=>?_
    have:=(yu b hw).1
    rw[ho] at this;exact ft this
   .exact L.eD b (cG.aiC fF (cG.wq V))
   .have:=(yu D z).1
    rw[Yh] at this;exact ft this
   .refine gE jD.inv.shr.some λo zz zz ho zz=>?_
    have:=(yu _ z).1
    rw[ho] at this;exact ft this
  have hl:(ds++r1).length<=lim:=by rw[<- ht] at hz;simp at hz⊢;exact bM [(J B (J v1 v2),v3)] (J B v1,v3) rfl hz
  have Xa:=kU.acc
  have start:CI W.G (Wr cl cx env) iJ m6 CA D lA ds iJ m6:=⟨⟨⟨rfl,rfl⟩,λzz zz zz zz zz zz e=>e,Sub.rfl,λzz zz e=> .inl e,kU.inv,Xa,kU.rS⟩,λb V=>(yu b V).2.2⟩
  have aoF:Fin W cl cx κ env (cb t2 aE) iJ m6 CA D (ds++r1) ae (λr tW=>match r with| .ok _=>∃m,m<xs.length+1 - i/\u8 W cl cx κ env (cb t (cb t2 ρ)) aD aN xs D wr St (λx σ=>(cg t x (cb t2 ρ)).bind λaE=>(fL (ev W.aW W.R ki aE σ)).bind λq=>
   l6 (λy σ=>(cg t2 y aE).bind λj8=>(ba (ev W.aW W.R e j8 σ)).bind λp=>some ([p.1],p.2)) q.1 q.2) gH aF m tW| .error _=>False):=by
   intro tW FZ lB Fw
   have CB:∀b o,jC.heap.get? b=some o->b ∉ CA:=λb o e z=>by have:=(yu b z).1;rw[e] at this;exact ft this
   have c7:CI W.G (Wr cl cx env) aD aN wr D ae (ds++r1) tW FZ:=by
    refine⟨⟨?_,λb o H O h3 h4 e=>?_,kU.grow.trans lB.grow,λb o e=>?_,lB.inv,lB.acc,lB.rS⟩,λb V=>?_⟩
    .exact⟨lB.same.1.trans kU.same.1,lB.same.2.trans kU.same.2⟩
    .have e3:=jD.keep b o H O h3 h4 e
     exact lB.keep b o H (CB b o e3) h3 h4 (st.keep b o H e3)
    .refine a9 (lB.fresh b o e) (λq=>?_) (λq=>?_)
     .exact kU.fresh b o q
     .right
      clear L' start;clear Yh Xa;cases q':aD.heap.get? b with
      |none=>rfl
      |some o'=>
       exfalso
       have hbc:b≠W.G.c:=by rintro rfl;rw[lB.inv.gc] at e;exact aC e
       have hbD:b≠D:=by rintro rfl;rw[lB.rS] at e;exact aC e
       have hbC:¬Wr cl cx env b:=λz=>by rw[(Wr.safe Fw b z).1] at e;exact aC e
       by_cases hw:b∈wr
       .refine xe (kU.wl b hw) λo2 e2=>?_;rw[q] at e2;exact aC e2
       .have:=kU.keep b o' hbc hw hbD hbC q';rw[q] at this;exact aC this
    .refine xe (jD.wl b V) λo e=>?_
     have H:b≠W.G.c:=λz=>L.cw (z▸V)
     exact⟨o,lB.keep b o H (CB b o e) (λz=>L.Dw (z▸V)) (λz=>L.ew _ z.at V) (st.keep b o H e)⟩
   have S6:St (i+1) tW.heap:=by
    refine L.kt.frame _ _ _ eZ λb V o e=>?_
    have H:b≠W.G.c/\b≠D/\¬Wr cl cx env b:=by
     clear c7 e;clear L' start lB;rcases L.Gd b V with q|⟨o',q⟩
     .exact bO (λz=>L.cw (z▸q)) (λz=>L.Dw (z▸q)) (λz=>L.ew _ z.at q)
     .have q':=jD.grow _ _ q
      refine bO ?_ ?_ ?_
      .rintro rfl;rw[jD.inv.gc] at q';exact aC q'
      .rintro rfl;rw[jD.rS] at q';exact aC q'
      .intro z;rw[(Wr.safe ip b z).1] at q';exact aC q'
    exact lB.keep b o H.1 (CB b o e) H.2.1 H.2.2 (st.keep b o H.1 e)
   have Yi:=Fw.wq t
   have er:cb t (cb t2 aE)=cb t (cb t2 ρ):=by
    exact Y Si<|Y (zH fF)<|Y Si<|Y agZ rfl
   rw[er] at Yi
   exact xq (xs.length+1 - (i+1)) (BZ (bj _ _) (aU (B1 a5))) (i+1) ae (ds++r1) FZ q1 (mO rfl a5 c7 Yi S6 O (by refine sl ht ?_;simp))
  have li:u8 W cl cx κ env (cb t2 aE) iJ m6 ys D CA Yg (λy σ=>(cg t2 y aE).bind λj8=>(ba (ev W.aW W.R e j8 σ)).bind λp=>some ([p.1],p.2)) (ds++r1) ae (ys.length+1) iJ:=
   (uZ 0 lA ds m6 r1 (mO rfl (dn _) start (vB.wq t2) yt h4 rfl))
  have lp:=L'.inner (g1:=⟨target,iter,[],0⟩) (iter:=i2) (scope:=scope) (pos:=pos) he hl aoF li
  exact aiD lp (aiF _ _ _ yt lp)
 .have hN:i=xs.length:=by exact bR hi wt
  clear hz;subst hN
  rw[wS,DH] at hg
  simp only[dj,iS] at hg
  refine xa hg λBn Bm=>?_;subst Bn;clear hg;subst Bm
  rw[gU] at ht
  clear h;subst ht
  exact L.over fin c eo dF λdz h=>h
end
noncomputable def jc(scope sc:jA):jA:=
 {scope with names:=scope.names.map λ(n,k)=>if (k== .free && sc.kind== .function && sc.names.lookup n==some .cell) then(n, .cell) else(n,k)}
def Cx.comp(cx:Cx)(scope:jA)(Γ:List (Str×Nat)):Cx:=⟨jc scope cx.sc,Γ⟩
noncomputable def eG(scope:jA)(x:Str):Bool:=decide (scope.names.lookup x=some .cell)
noncomputable def Az:List (Str×jv)->Bool
 |[]=>true
 |p::r=> !(r.any λq=>q.1==p.1) && Az r
theorem abT{p r}:Az (p::r)=((!Eo r λ(q:Str×jv)=>q8 q==q8 p) && Az r):=rfl
theorem QY:∀{l:List (Str×jv)},Az l=true->∀y∈l,l.lookup y.1=some y.2
 |[],_,y,hy=>by cases hy
 |p::r,h,y,hy=>by
  simp only[abT,cm,wP] at h
  refine Y lT ?_
  rcases bK.mp hy with rfl|hy
  .rw[beq_self_eq_true]
  .cases e:y.1==p.1 with
   |true=>
    have:=OD.mp h.1 y hy
    exact absurd e this
   |false=>exact QY h.2 y hy
def Aj(cx:Cx)(scope:jA)(Γ:List (Str×Nat))(is:List Nat):Bool:=
 decide (scope.kind= .function) && Az scope.names &&
 scope.names.all (λy=>decide (y.2≠ .free)||(decide (cx.kindOf y.1=some .cell)||decide (cx.kindOf y.1=some .free))) &&
 Γ.all (λp=>if decide ((cx.comp scope Γ).kindOf p.1=some .local)||eG scope p.1 then is.contains p.2 else decide (cx.Γ.lookup p.1=some p.2) && (decide ((cx.comp scope Γ).kindOf p.1=some .cell)||decide ((cx.comp scope Γ).kindOf p.1=some .free)))
structure nK(cx:Cx)(scope:jA)(Γ:List (Str×Nat))(is:List Nat):Prop where
 kind:scope.kind= .function
 nd:∀y∈scope.names,scope.names.lookup y.1=some y.2
 free:∀y∈scope.names,y.2= .free->cx.kindOf y.1=some .cell\/cx.kindOf y.1=some .free
 loc:∀y i,Γ.lookup y=some i->((cx.comp scope Γ).kindOf y=some .local\/eG scope y=true)->i∈is
 Nj:∀y i,Γ.lookup y=some i->(cx.comp scope Γ).kindOf y≠some .local->eG scope y=false->cx.Γ.lookup y=some i/\((cx.comp scope Γ).kindOf y=some .cell\/(cx.comp scope Γ).kindOf y=some .free)
theorem nK.of(h:Aj cx scope Γ is=true):nK cx scope Γ is:=by
 unfold Aj at h
 simp only[cm,hU,decide_eq_true_eq,lU] at h
 refine xa h λalC h5=>xa alC λLg h4=>xa Lg λH O=>⟨H,QY O,λy hy e=>?_,λy i e k=>?_,λy i e k k'=>?_⟩
 .refine a9 (h4 y hy) (λq=>?_) (λq=>?_)
  .exact absurd e q
  .exact q
 .have:=h5 _ (mem_of_lookup e)
  simp only[k,if_true] at this
  simpa using this
 .have:=h5 _ (mem_of_lookup e)
  simp only[k,k',nw,or_false,if_false,cm,decide_eq_true_eq,lU] at this
  exact this
theorem D3{cx:Cx}(nd:∀y∈scope.names,scope.names.lookup y.1=some y.2)(hn:eG scope y=false)(h:(cx.comp scope Γ).kindOf y=some .cell\/(cx.comp scope Γ).kindOf y=some .free):(y,Hg)∈scope.names/\((cx.comp scope Γ).kindOf y=some .cell->cx.kindOf y=some .cell):=by
 have dU:(y,w9) ∉ scope.names:=λhm=>by
  have:=nd _ hm
  unfold eG at hn
  rw[this] at hn
  simp at hn
 have key:∀(l:List (Str×jv)) (k:jv),(l.map λ(n,k)=>if (k== .free && cx.sc.kind== .function && cx.sc.names.lookup n==some .cell) then(n,w9) else(n,k)).lookup y=some k->
  ∃k',(y,k')∈l/\((k'= .free/\k= .cell/\cx.sc.names.lookup y=some .cell)\/k=k'):=by
  intro l k
  induction l with
  |nil=>intro h;exact aC h
  |cons p l ih=>
   obtain⟨n,k'⟩:=p
   refine Y bE ?_
   dsimp only
   intro h
   by_cases hc:(k'== .free && cx.sc.kind== .function && cx.sc.names.lookup n==some .cell)=true
   .rw[if_pos hc,lT] at h
    cases hy:y==n with
    |true=>
     rw[hy] at h
     clear ih;injection h with KH;subst KH
     have:=beq_iff_eq.mp hy
     subst this
     simp only[cm,beq_iff_eq] at hc
     exact ai _ (.head _) (.inl (bO hc.1.1 rfl hc.2))
    |false=>
     rw[hy] at h
     exact ar (ih h) λk2 a b=>ai k2 (.tail _ a) b
   .rw[if_neg hc,lT] at h
    cases hy:y==n with
    |true=>
     rw[hy] at h
     clear ih;injection h with Bt;clear hc;subst Bt
     have:=beq_iff_eq.mp hy
     subst this
     exact ai _ (.head _) (.inr rfl)
    |false=>
     rw[hy] at h
     exact ar (ih h) λk2 a b=>ai k2 (.tail _ a) b
 refine a9 h (λh=>?_) (λh=>?_)
 .refine ar (key _ _ h) λk' a b=>?_
  rcases b with⟨rfl,_,b⟩|b
  .exact⟨a,λzz=>b⟩
  .subst b;exact absurd a dU
 .refine ar (key _ _ h) λk' a b=>?_
  rcases b with⟨_,b,_⟩|b
  .exact GD b
  .subst b
   refine⟨a,λh'=>?_⟩
   rw[h] at h';injection h' with alD;exact GD alD
theorem HX(x:Str):∀(names:List (Str×jv)) (n:Nat) (acc:List (Str×az)),(∃a,acc.lookup x=some a)->∃a,(cellsFrom n names acc).lookup x=some a
 |[],_,_,h=>h
 |(y,k)::r,n,acc,h=>by
  unfold cellsFrom
  split
  .refine HX x r _ _<|Y lT ?_
   cases x==y
   .exact h
   .exact⟨_,rfl⟩
  .exact HX x r _ _ h
theorem D4(x:Str):∀(names:List (Str×jv)) (n:Nat) (acc:List (Str×az)),names.lookup x=some .cell->∃a,(cellsFrom n names acc).lookup x=some a
 |[],_,_,h=>by simp at h
 |(y,k)::r,n,acc,h=>by
  rw[lT] at h
  unfold cellsFrom
  by_cases e:x==y
  .rw[e] at h
   injection h with Bj;subst Bj
   exact Y (if_pos (show(w9==w9)=true from rfl))<|HX x r _ _ ⟨n,by exact Y lT<|Y e rfl⟩
  .have e:(x==y)=false:=by simpa using e
   rw[e] at h
   split<;>exact D4 x r _ _ h
theorem HY:∀(names:List (Str×jv)) (n:Nat) (a b:List (Str×az)),cellsFrom n names (a++b)=cellsFrom n names a++b
 |[],_,_,_=>rfl
 |(y,k)::r,n,a,b=>by
  unfold cellsFrom
  split
  .exact HY r (n+1) ((y,n)::a) b
  .exact HY r n a b
theorem HZ:∀(names:List (Str×jv)) (n:Nat) (acc:List (Str×az)) {x:Str} {c:az},(x,c)∈cellsFrom n names acc->(x,c)∈acc\/(x,w9)∈names
 |[],_,_,_,_,h=> .inl h
 |(y,k)::r,n,acc,x,c,h=>by
  unfold cellsFrom at h
  split at h
  .rename_i hk
   refine a9 (HZ r _ _ h) (λq=>?_) (λq=>?_)
   .refine a9 (bK.mp q) (λe=>?_) (λq=>?_)
    .injection e with vE alE;subst vE alE
     exact .inr (Y (beq_iff_eq.mp hk)<| .head _)
    .exact .inl q
   .exact .inr (.tail _ q)
  .refine a9 (HZ r _ _ h) (λq=>?_) (λq=>?_)
   .exact .inl q
   .exact .inr (.tail _ q)
theorem acN{E:VS}
 (h:∀dL,(∀b o,s.heap.get? b=some o->dL.get? b=some o)->dL.Ns s.heap.objs.size (λzz=>none)->CellsOk dL (s.heap.objs.size+1) (cellsFrom (s.heap.objs.size+1) scope.names [])->
  Q {scope:=scope,locals:=s.heap.objs.size,globals:=globals,cells:=cellsFrom (s.heap.objs.size+1) scope.names []++cl,qual:=qual,func:=none,code:=env.code,frame:=env.frame,builtins:=env.builtins} {s with heap:=dL}):
 wpAny M A (newFunctionEnv scope globals cl [] qual none .none (some env)) Q E s:=by
 rw[newFunctionEnv,aae,if_pos rfl]
 refine am (wpAny_alloc ?_)
 refine am (wpAny_layCells _ (λname kind cells=>by cases Nk:kind==w9<;>simp[Nk]) _ _ _ _ ?_)
 have ok:=cellsFrom_ok scope.names (s.heap.push {cls:= .type "dict",data:= .dict #[]}) (s.heap.objs.size+1) [] ⟨λzz zz hm=>(nomatch hm),aar⟩ (Y (kF _ _)<|a8 _)
 rw[kF] at ok
 refine Y (show({s with heap:=s.heap.push {cls:= .type "dict",data:= .dict #[]}}:aJ).heap.objs.size=s.heap.objs.size+1 from kF ..) ?_
 have e:=HY scope.names (s.heap.objs.size+1) [] cl
 rw[kC] at e
 refine Y e<|am<|Y O6<|aH (aH ?_)
 exact h _ (λb o e=>pushCells_keeps _ _ b o (bT _ e)) ((Heap.Ns.new s.heap (.type "dict")).keeps (pushCells_keeps _ _)) ok
noncomputable def kM(env:Env):List (Str×jv)->List (Str×az)->List (Str×az)
 |[],acc=>acc
 |(n,k)::r,acc=>kM env r (if k== .free then(n,(env.cells.lookup n).getD 0)::acc else acc)
theorem abU{env x n k r}:kM env ((n,k)::r) x=kM env r (if (k==Hg)=true then(n,acr (acs n (Env.cells env)) 0)::x else x):=rfl
theorem ID(f:Str×jv->List (Str×az)->Sem (ForInStep (List (Str×az))))(hf:∀name kind cs,f (name,kind) cs=if kind== .free then(do let a <- cellOf env name;pure (.yield ((name,a)::cs))) else pure (.yield cs)):
 ∀(names:List (Str×jv)) (acc:List (Str×az)),(∀y∈names,y.2= .free->∃a,env.cells.lookup y.1=some a)->(forIn names acc f:Sem (List (Str×az)))=pure (kM env names acc)
 |[],acc,_=>by refine Y O6 ?_;rfl
 |(n,k)::r,acc,h=>by
  rewrite[OV];refine Y (hf _ _ _)<|Y abU ?_
  by_cases hk:(k== .free)=true
  .refine xe (h (n,k) (.head _) (beq_iff_eq.mp hk)) λa ha=>Y (if_pos hk)<|Y (if_pos hk) ?_
   have e:cellOf env n=pure a:=by unfold cellOf;exact Y ha rfl
   exact Y e<|Y ha<|ID f hf r _ λy hy=>h y (.tail _ hy)
  .exact Y (if_neg hk)<|Y (if_neg hk)<|ID f hf r _ λy hy=>h y (.tail _ hy)
theorem acO(h:∀y∈scope.names,y.2= .free->∃a,env.cells.lookup y.1=some a):closureFor scope env=pure (kM env scope.names []):=by
 show(forIn scope.names ([]:List (Str×az)) _>>=λcs=>pure cs)=_
 rw[ID (env:=env) _ (λname kind cs=>by cases Nk:kind==Hg<;>simp[Nk]) _ _ h]
 rfl
theorem H2:∀(names:List (Str×jv)) (acc:List (Str×az)),(∀y∈names,y.2= .free->∃a,env.cells.lookup y.1=some a)->(∀x a,acc.lookup x=some a->env.cells.lookup x=some a)->∀x a,(kM env names acc).lookup x=some a->env.cells.lookup x=some a
 |[],acc,_,h=>h
 |(n,k)::r,acc,hn,h=>by
  refine H2 r _ (λy hy=>hn y (.tail _ hy)) λx a e=>?_
  by_cases hk:(k== .free)=true
  .rw[if_pos hk,lT] at e
   refine xe (hn (n,k) (.head _) (beq_iff_eq.mp hk)) λb V=>?_
   cases hx:x==n with
   |true=>
    rw[hx] at e
    have:=beq_iff_eq.mp hx
    subst this
    rw[V] at e⊢
    refine sl e ?_;rfl
   |false=>rw[hx] at e;exact h x a e
  .rw[if_neg hk] at e;exact h x a e
theorem H3:∀(names:List (Str×jv)) (acc:List (Str×az)) {x:Str},((x,Hg)∈names\/∃a,acc.lookup x=some a)->∃a,(kM env names acc).lookup x=some a
 |[],acc,x,h=>by
  refine a9 h (λh=>?_) (λh=>?_)
  .cases h
  .exact h
 |(n,k)::r,acc,x,h=>by
  refine H3 r _ ?_
  rcases h with h|⟨a,h⟩
  .refine a9 (bK.mp h) (λe=>?_) (λh=>?_)
   .refine xa (acu e) λBe Bf=>?_;subst Be Bf
    right
    rw[if_pos (by rfl),lT,beq_self_eq_true]
    exact⟨_,rfl⟩
   .exact .inl h
  .right
   split
   .refine Y lT ?_
    split
    .exact⟨_,rfl⟩
    .exact⟨a,h⟩
   .exact⟨a,h⟩
section
variable{G:eI}{s aD s':aJ}{g aN g':aG}{ae jo:Sg}{wr:List az}{Cp:az->Prop}{C D:az}{gH:List ah}
theorem aS.dead(st:aS G s g ae aD aN)(h:aD.heap.get? b=none)(V:b≠G.c):s.heap.get? b=none:=by
 cases q:s.heap.get? b with
 |none=>rfl
 |some o=>rw[st.keep b o V q] at h;exact ft h
theorem oM(i:Inv G g ae s):∃o,s.heap.get? G.c=some o:=by
 exact gE i.shr.some λo zz zz e zz=>⟨o,e⟩
theorem afk(st:aS G s g ae aD aN)(cf:CF G Cp aD aN wr D jo gH s' g')(hD:aD.heap.get? D=none)(hCp:∀b,Cp b->aD.heap.get? b=none)(hC:aD.heap.get? C=none)(Gf:C≠D)(hw:∀b∈wr,s.heap.get? b=none)(CC:g'.get? C=none)(hs:jV C s'.heap h'):
 ∃yH,aS G s g jo {s' with heap:=h'} yH/\Is yH (.ref D) (.list gH)/\yH.get? C=none:=by
 refine xe (oM st.inv) λoc hc=>?_
 have cC:G.c≠C:=by rintro rfl';rw[rfl',hC] at hc;exact aC hc
 have cD:G.c≠D:=by rintro rfl';rw[rfl',hD] at hc;exact aC hc
 have j9:Sub g' h':=λb o e=>(hs.2 b (λz=>by rw[z,CC] at e;exact aC e)).trans (cf.inv.sub b o e)
 refine ar cf.acc λws Fx hi=>xe Fx λn hp=>?_
 have Gg:h'.get? D=some {cls:= .type "list",data:= .seq ws n}:=(hs.2 D Gf.symm).trans hp
 have kept:∀b o,b≠G.c->s.heap.get? b=some o->h'.get? b=some o:=λb o V e=>by
  have e2:=st.keep b o V e
  have bC:b≠C:=by rintro rfl;rw[hC] at e2;exact aC e2
  have bD:b≠D:=by rintro rfl;rw[hD] at e2;exact aC e2
  have bP:¬Cp b:=λz=>by rw[hCp b z] at e2;exact aC e2
  have bw:b ∉ wr:=λz=>by rw[hw b z] at e;exact aC e
  exact(hs.2 b bC).trans (cf.keep b o V bw bD bP e2)
 refine bQ (cv g' h' (·=D)) (⟨?_,kept,st.grow.trans (cf.grow.trans (ij j9)),λb o e=>?_,?_⟩) ?_ ?_
 .exact⟨cf.same.1.trans st.same.1,cf.same.2.trans st.same.2⟩
 .refine a9 (mQ j9 e) (λq=>?_) (λq=>?_)
  .refine a9 (cf.fresh b o q) (λz=>?_) (λz=>?_)
   .exact st.fresh b o z
   .refine .inr (st.dead z ?_)
    rintro rfl;rw[cf.inv.gc] at q;exact aC q
  .exact .inr (st.dead (Y q<|hD) (Y q<|cD.symm))
 .refine⟨cf.inv.base.trans (ij j9),q9,?_,?_,λb o e=>?_⟩
  .cases q:(cv g' h' (·=D)).get? G.c with
   |none=>rfl
   |some o=>
    exfalso
    refine a9 (mQ j9 q) (λe=>?_) (λe=>?_)
    .rw[cf.inv.gc] at e;exact aC e
    .exact cD e
  .exact jg cf.inv.shr λkvs K7 e q l=>gE K7 λo es ep ho r=>nL kvs ((tE o es ep ((hs.2 _ cC).trans ho) r)) e (q.mono (ij j9)) l
  .intro V
   refine a9 (mQ j9 e) (λq=>?_) (λq=>?_)
   .exact cf.inv.tab b o q V
   .have:=q9 b o e
    rw[q,Gg] at this
    clear e;injection this with oN;subst oN
    exact nN.no (by simp) rfl
 .exact Is.list (nH rfl Gg) rfl rfl (hi.mono (ij j9))
 .cases q:(cv g' h' (·=D)).get? C with
  |none=>rfl
  |some o=>
   refine a9 (mQ j9 q) (λe=>?_) (λe=>?_)
   .rw[CC] at e;exact aC e
   .exact absurd e Gf
end
section
variable{W:Wd}{A:bV}{cx:Cx}{κ:cF}{env:Env}{ρ kQ:List aK}{target:Expr}{t:iM}{s aD:aJ}{g aN:aG}{σ ae:Sg}{I:az}{xs:List ah}{scope:jA}{Γ:List (Str×Nat)}{is:List Nat}
noncomputable def pb(scope:jA)(C:az):List (Str×az):=cellsFrom (C+1) scope.names []
theorem zR{l m:List (Str×az)}(h:(l++m).lookup x=some a):l.lookup x=some a\/(l.lookup x=none/\m.lookup x=some a):=by
 rw[Oy] at h
 cases e:l.lookup x with
 |some b=>rw[e] at h;exact .inl h
 |none=>rw[e] at h;exact .inr ⟨rfl,by exact h⟩
theorem Sj{l m:List (Str×az)}(h:l.lookup x=some a):(l++m).lookup x=some a:=by refine Y Oy<|Y h ?_;rfl
theorem Sk{l m:List (Str×az)}(h:l.lookup x=none)(h':m.lookup x=some a):(l++m).lookup x=some a:=by exact Y Oy<|Y h<|h'
theorem zS(ck:nK cx scope Γ is):(eG scope x=true->∃a,(pb scope C).lookup x=some a)/\(eG scope x=false->(pb scope C).lookup x=none):=by
 refine⟨λh=>D4 x scope.names _ [] (of_decide_eq_true h),λh=>?_⟩
 cases e:(pb scope C).lookup x with
 |none=>rfl
 |some a=>
  refine a9 (HZ _ _ _ (mem_of_lookup e)) (λq=>?_) (λq=>?_)
  .cases q
  .have:=ck.nd _ q
   unfold eG at h
   rw[this] at h
   simp at h
theorem afl(eo:a7 W.G cx κ g s.heap env ρ)(i:Inv W.G g σ s)(st:aS W.G s g ae aD aN)(ck:nK cx scope Γ is)(qN:∀(j:Nat) (b:aK),kQ[j]? =some b->b≠ .un->ρ[j]? =some b)(sq:∀j∈is,∀b:aK,kQ[j]? =some b->b= .un)
 (hC:∀b,C<=b->aD.heap.get? b=none) (hn:h.Ns C m) (hk:∀b o,aD.heap.get? b=some o->h.get? b=some o) (hL:κ.L<=C) (bX:CellsOk h (C+1) (pb scope C)):
 a7 W.G (cx.comp scope Γ) κ aN h (compEnvC scope (pb scope C++kM env scope.names []) C env) kQ:=by
 have gG:=eo.step st
 have hf:∀y∈scope.names,y.2= .free->∃a,env.cells.lookup y.1=some a:=λy hy e=>eo.kZ _ (ck.free y hy e)
 have sub:=H2 scope.names [] hf (λzz zz e=>by exact aC e)
 have bk:∀{i:Nat} {v:ao} {b:aK},eF W.G κ i aN aD.heap v b->eF W.G κ i aN h v b:=λq=>q.keep λzz o zz e=>hk _ o e
 have dead:∀b,C<=b->b≠W.G.c/\aN.get? b=none:=λb V=>by
  refine⟨λz=>?_,?_⟩
  .refine xe (oM st.inv) λo e=>?_
   rw[<- z,hC b V] at e;exact aC e
  .cases q:aN.get? b with
   |none=>rfl
   |some o=>have:=st.inv.sub _ _ q;rw[hC b V] at this;exact aC this
 have new:∀y a,(pb scope C).lookup y=some a->C<a/\h.IsCell a none:=λy a e=>by
  exact xa (bX.empty y a (mem_of_lookup e)) λH O=>⟨O,H⟩
 have old:∀y j (b:aK),Γ.lookup y=some j->kQ[j]? =some b->b≠ .un->cx.Γ.lookup y=some j/\eG scope y=false/\((cx.comp scope Γ).kindOf y=some .cell\/(cx.comp scope Γ).kindOf y=some .free)/\
  ∃a v,(pb scope C++kM env scope.names []).lookup y=some a/\aD.heap.IsCell a (some v)/\eF W.G κ j aN aD.heap v b:=λy j b H O h3=>by
  have dU:eG scope y=false:=by
   cases e:eG scope y with
   |false=>rfl
   |true=>exact absurd (sq j (ck.loc y j H (.inr e)) b O) h3
  have Nl:(cx.comp scope Γ).kindOf y≠some .local:=λe=>absurd (sq j (ck.loc y j H (.inl e)) b O) h3
  refine xa (ck.Nj y j H Nl dU) λo1 o2=>xa (D3 ck.nd dU o2) λf1 f2=>bZ (gG.cells y j b o1 (qN j b O h3) h3 (ck.free _ f1 rfl)) λa v e hc q=>xe (H3 (env:=env) scope.names [] (.inl f1)) λa' lK=>?_
  have:=sub y a' lK
  rw[e] at this;injection this with Cd;subst Cd
  exact aeM o1 dU o2 a v (Sk ((zS ck).2 dU) lK) hc q
 refine⟨?_,ck.kind,eo.glob,eo.jL,hL,(dead C (a8 _)).1,(dead C (a8 _)).2,(ai m hn (λy j b H O h3 h4=>?_)),λy j b H O h3 h4=>?_,λy hy=>?_,λy a e=>?_,λy a H O=>?_,λj k b b' H O h3 h4 h5=>?_,λy z a H O=>?_,λy j b H O h3=>?_⟩
 .show relabel scope env=jc scope cx.sc
  unfold relabel jc Env.kindOf
  exact Y eo.sc rfl
 .exact absurd (sq j (ck.loc y j H (.inl h4)) b O) h3
 .exact RU (old y j b H O h3) λzz zz zz a v e alF q=>ar alF λo ho hd=>eY a v e ((ai o (hk _ _ ho) hd)) (bk q)
 .cases ho:eG scope y with
  |true=>
   exact xe ((zS (C:=C) ck).1 ho) λa e=>⟨a,Sj e⟩
  |false=>
   exact xa (D3 ck.nd ho hy) λf1 zz=>xe (H3 (env:=env) scope.names [] (.inl f1)) λa e=>⟨a,Sk ((zS ck).2 ho) e⟩
 .rcases zR e with e|⟨_,e⟩
  .exact xa (new y a e) λH O=>xa (dead a (fA H)) λh3 h4=>vP h3 h4 _ O
  .exact nJ (gG.cc y a (sub y a e)) λH O v o ho hd=>xO H O v o (hk _ _ ho) hd
 .rcases zR O with e|⟨en,e⟩
  .exact aB hL (fA (new y a e).1)
  .have dU:eG scope y=false:=by
    cases q:eG scope y with
    |false=>rfl
    |true=>refine xe ((zS (C:=C) ck).1 q) λa' e'=>?_;rw[en] at e';exact aC e'
   exact xa (D3 ck.nd dU (.inl H)) λf1 f2=>eo.cL y a (f2 H) (sub y a e)
 .exact eo.ap j k b b' (qN j b H (by rintro rfl;exact aQ h3)) (qN k b' O (by rintro rfl;exact aQ h4)) h3 h4 h5
 .have live:∀y a,(kM env scope.names []).lookup y=some a->a<C:=λy a e=>by
   refine nJ (gG.cc y a (sub y a e)) λzz zz v o ho zz=>a9 (pO a C) (λq=>?_) (λq=>?_)
   .exact q
   .rw[hC a q] at ho;exact aC ho
  rcases zR H with e|⟨_,e⟩<;>rcases zR O with e'|⟨_,e'⟩
  .exact name_of_addr bX.apart (mem_of_lookup e) (mem_of_lookup e')
  .exact absurd (live z a e') (abI (new y a e).1)
  .exact absurd (live y a e) (abI (new z a e').1)
  .exact eo.n5 y z a (sub y a e) (sub z a e')
 .show κ.f j≠C
  rintro rfl'
  have hu:b≠ .un:=by rintro rfl;exact aQ h3
  refine RU (old y j b H O hu) λzz zz zz a v zz zz q=>?_
  have hz:=hC (κ.f j) (aA rfl'.symm)
  clear hu;clear O;cases b with
  |un=>exact aQ h3
  |v w=>exact aQ h3
  |own ds=>
   refine cq q λvs zz alG zz=>xe alG λn p=>?_
   rw[hz] at p;exact aC p
  |cI kvs=>
   refine cj q λzz Lh zz=>ar Lh λxs Km zz=>gE Km λo es ep p zz=>?_
   rw[hz] at p;exact aC p
theorem acP{RR:ao->az->x5->aJ->Prop}(hh:A.handled=none)(rm:dK A W.n)(eo:a7 W.G cx κ g s.heap env ρ)(i:Inv W.G g σ s)(st:aS W.G s g ae aD aN)(K:FY W.G A target (l7 t) s.heap aN aD.heap I xs)
 (ck:nK cx scope Γ is) (qN:∀(j:Nat) (b:aK),kQ[j]? =some b->b≠ .un->ρ[j]? =some b) (sq:∀j∈is,∀b:aK,kQ[j]? =some b->b= .un) (ht:jy (eG scope) (cx.comp scope Γ) target t)
 (go:∀D C lC gK fp wr P Md St,aD.heap.get? D=none->(∀b,Wr (eG scope) (cx.comp scope Γ) lC b->aD.heap.get? b=none)->lC.locals=C->aD.heap.get? C=none->C≠D->(∀b∈wr,s.heap.get? b=none)->iE W A (eG scope) (cx.comp scope Γ) κ lC kQ target t aD aN I xs D fp wr P Md St->
  CI W.G (Wr (eG scope) (cx.comp scope Γ) lC) aD aN wr D ae [] gK aN->a7 W.G (cx.comp scope Γ) κ aN gK.heap lC kQ->St 0 gK.heap->
  (∀(s:aJ) (Q:VS) (E:VS),St 0 s.heap->Q (.ref I) s->wpAny (model W.G.prog W.G.w) A (pyIter (.ref I)) Q E s)->
  codeAny (model W.G.prog W.G.w) A (.compStart e 0 (.ref I) (.ref D) lC) (RR (.ref D) C) gK):
 wpAny (model W.G.prog W.G.w) A (newList []) (λacc jC=>wpAny (model W.G.prog W.G.w) A (newFunctionEnv scope env.globals (kM env scope.names []) [] env.qual none .none (some env)) (λlC gK=>
  codeAny (model W.G.prog W.G.w) A (.compStart e 0 (.ref I) acc {lC with scope:=relabel scope env}) (RR acc lC.locals) gK) F jC) F aD:=by
 refine oI K.ex λfp wr P Md St zz=>nG zz λkt dF Li pw pz mY vF=>lh (acN λdL wv UW bX=>?_)
 have bF:(aD.heap.push {cls:= .type "list",dict:=none,data:= .seq ([]:List ao).toArray}).objs.size=aD.heap.objs.size+1:=kF ..
 have Xb:(aD.heap.push {cls:= .type "list",dict:=none,data:= .seq ([]:List ao).toArray}).objs.size≠aD.heap.objs.size:=by exact Y bF<|OR _
 have yJ:∀b,(aD.heap.push {cls:= .type "list",dict:=none,data:= .seq ([]:List ao).toArray}).objs.size<=b->aD.heap.get? b=none:=λb V=>om (by rw[bF] at V;exact wO V)
 have old:∀b o,aD.heap.get? b=some o->dL.get? b=some o:=λb o e=>wv b o (bT _ e)
 have fM:dL.PlainList aD.heap.objs.size #[]:=⟨0,wv _ _ (cJ _ rfl)⟩
 have Yj:aD.heap.objs.size<(aD.heap.push {cls:= .type "list",dict:=none,data:= .seq ([]:List ao).toArray}).objs.size:=by exact Y bF<|wR _
 have Yk:κ.L<=(aD.heap.push {cls:= .type "list",dict:=none,data:= .seq ([]:List ao).toArray}).objs.size:=by
  refine xe ((eo.step st).Hp) λo e=>?_
  have H:=dI e
  have O:=eo.above
  exact Y bF<|aB O (fA (G1 H))
 generalize (aD.heap.push {cls:= .type "list",dict:=none,data:= .seq ([]:List ao).toArray}).objs.size=C at*
 have alH:∀b,aD.heap.get? b=none->aN.get? b=none:=λb e=>by
  cases q:aN.get? b with
  |none=>rfl
  |some o=>rw[st.inv.sub _ _ q] at e;exact ft e
 have bN:=aS.il (G:=W.G) (tk:=aD.toks) st.inv old
 have hE:=afl (Γ:=Γ) eo i st ck qN sq yJ UW old Yk bX
 have hS:St 0 dL:=kt.frame _ _ _ dF λb V o e=>old b o e
 have hf:∀y∈scope.names,y.2= .free->∃a,env.cells.lookup y.1=some a:=λy hy e=>eo.kZ _ (ck.free y hy e)
 have live:∀b,cG (cx.comp scope Γ) κ (compEnvC scope (pb scope C++kM env scope.names []) C env) kQ b->C<=b\/∃o,s.heap.get? b=some o:=by
  intro b V
  clear bF Xb Yj hE;clear UW yJ Yk;rcases V with rfl|⟨x,h⟩|⟨x,j,w,H,O,h3,rfl⟩
  .exact .inl (a8 _)
  .rcases zR h with e|⟨_,e⟩
   .exact .inl (fA (bX.empty x b (mem_of_lookup e)).2)
   .have:=H2 scope.names [] hf (λzz zz e=>by exact aC e) x b e
    exact nJ (eo.cc x b this) λzz zz v o ho zz=> .inr ⟨o,ho⟩
  .right
   have hu:w≠ .un:=by rintro rfl;exact aQ h3
   have dU:eG scope x=false:=by
    cases e:eG scope x with
    |false=>rfl
    |true=>exact absurd (sq j (ck.loc x j H (.inr e)) w O) hu
   have Nl:(cx.comp scope Γ).kindOf x≠some .local:=λe=>absurd (sq j (ck.loc x j H (.inl e)) w O) hu
   refine xa (ck.Nj x j H Nl dU) λo1 o2=>xa (D3 ck.nd dU o2) λf1 f2=>?_
   have ok:=ck.free _ f1 rfl
   refine bZ (eo.cells x j w o1 (qN j _ O hu) hu ok) λzz v zz zz q=>?_
   cases w with
   |un=>exact aQ h3
   |v y=>exact aQ h3
   |own ds=>exact cq q λvs zz KZ zz=>xe KZ λn p=>⟨_,p⟩
   |cI kvs=>exact cj q λzz Kk zz=>ar Kk λxs alI zz=>gE alI λo es ep p zz=>⟨_,p⟩
 refine xe (oM st.inv) λoc qO=>xe (oM i) λoc0 aoG=>?_
 have CB:∀b,Wr (eG scope) (cx.comp scope Γ) (compEnvC scope (pb scope C++kM env scope.names []) C env) b->aD.heap.get? b=none:=by
  rintro b (rfl|⟨x,hx,_,e⟩)
  .exact yJ _ (a8 _)
  .refine xe ((zS (C:=C) ck).1 hx) λa e'=>?_
   have:=Sj (m:=kM env scope.names []) e'
   have e2:(pb scope C++kM env scope.names []).lookup x=some b:=e
   rw[e2] at this;injection this with alJ;subst alJ
   exact yJ _ (fA (bX.empty x b (mem_of_lookup e')).2)
 refine go aD.heap.objs.size C (compEnvC scope (pb scope C++kM env scope.names []) C env) {aD with heap:=dL} fp wr P Md St fq CB rfl (yJ _ (a8 _)) Xb (λb V=>(pw b V).1) ?_ ⟨⟨⟨rfl,rfl⟩,λb o zz zz zz zz e=>old b o e,Sub.rfl,λzz zz e=> .inl e,bN.inv,(ai _ fM (.nil)),alH _ fq⟩,λb V=>?_⟩ hE hS mY
 .refine⟨hh,rm,kt,Li,λb V=>(pw b V).2,pz,vF,λb V hw=>?_,λb V=>?_,?_,λz=>?_,λz=>?_,ht⟩
  .rcases live b V with q|⟨o,ho⟩
   .refine rK (pw _ hw) λzz zz o ho=>?_
    rw[yJ b q] at ho;exact aC ho
   .have:=(pw b hw).1
    rw[ho] at this;exact ft this
  .rcases live b V with q|⟨o,ho⟩
   .exact λz=>absurd (Dm Yj q) (Y z<|pN _)
   .rintro rfl
    by_cases hc:aD.heap.objs.size=W.G.c
    .rw[<- hc,fq] at qO;exact aC qO
    .have:=st.dead fq hc
     rw[ho] at this;exact ft this
  .rintro hc
   rw[<- hc,fq] at qO;exact aC qO
  .refine rK (pw _ z) λzz zz o ho=>?_
   rw[fq] at ho;exact aC ho
  .have:=(pw _ z).1
   rw[aoG] at this;exact ft this
 .exact rK (pw b V) λzz zz o ho=>⟨o,old b o ho⟩
end
noncomputable def qd:iM->List Nat
 | .one i=>[i]
 | .two i j=>[i,j]
section
variable{W:Wd}{A:bV}{cx:Cx}{κ:cF}{env:Env}{ρ aE:List aK}{target l4:Expr}{t t2:iM}{s:aJ}{g:aG}{σ av:Sg}{scope:jA}{Γ:List (Str×Nat)}
theorem E1(t:iM)(ρ:List aK):∀j∈qd t,∀b:aK,(cb t ρ)[j]? =some b->b= .un:=by
 intro j hj b h
 cases t with
 |one i=>
  rw[bY.mp hj] at h
  rcases dP h with⟨_,e⟩|⟨n,_⟩
  .exact e
  .exact absurd rfl n
 |two i k=>
  rcases dP h with⟨_,e⟩|⟨n,h⟩
  .exact e
  .rcases dP h with⟨_,e⟩|⟨n',h⟩
   .exact e
   .simp only[qd,bK,mH,or_false] at hj
    rcases hj with rfl|rfl
    .exact absurd rfl n'
    .exact absurd rfl n
theorem ag0(t:iM)(ρ:List aK){j:Nat}(hj:∀b:aK,ρ[j]? =some b->b= .un):∀b:aK,(cb t ρ)[j]? =some b->b= .un:=by
 intro b h
 cases t with
 |one i=>
  rcases dP h with⟨_,e⟩|⟨_,h⟩
  .exact e
  .exact hj b h
 |two i k=>
  rcases dP h with⟨_,e⟩|⟨n,h⟩
  .exact e
  .rcases dP h with⟨_,e⟩|⟨n',h⟩
   .exact e
   .exact hj b h
theorem Ev(t:iM)(ρ:List aK):∀(j:Nat) (b:aK),(cb t ρ)[j]? =some b->b≠ .un->ρ[j]? =some b:=by
 intro j b h V
 cases t with
 |one i=>
  rcases dP h with⟨_,e⟩|⟨_,h⟩
  .exact absurd e V
  .exact h
 |two i k=>
  rcases dP h with⟨_,e⟩|⟨n,h⟩
  .exact absurd e V
  .rcases dP h with⟨_,e⟩|⟨n',h⟩
   .exact absurd e V
   .exact h
def pX(iter:Expr):Prop:=∀env x,foldedSetIterable iter env x=pure x
structure kJ(W:Wd)(cx:Cx)(scope:jA)(ast:Expr)(e:E):Prop where
 run:∀{κ:cF} A s g σ env ρ xs av (use:Option (ao->Sem Unit)) (Q:VS) pos,dK A W.n->Inv W.G g σ s->a7 W.G cx κ g s.heap env ρ->ev W.aW W.R e ρ σ=some (xs,av)->
  (∀D C s' ds,xs=[.d (.list ds)]->(∃m,s'.heap.Ns C m)->s.heap.get? C=none->C≠W.G.c->s.heap.get? D=none->(∀h',jV C s'.heap h'->∃g',aS W.G s g av {s' with heap:=h'} g'/\Is g' (.ref D) (.list ds)/\g'.get? C=none)->
   compPost (model W.G.prog W.G.w) A (λzz zz=>False) use Q (.ref D) C (.ok .next) s')->
  wpAny (model W.G.prog W.G.w) A (comprehension ast scope env pos (newList []) false (firstIter (clausesOf ast) env) use) Q (λzz zz=>False) s
theorem IE(iA:clausesOf ast=gc::gs)(hI:bz W cx target (l7 t) gc.iter it)(ck:nK cx scope Γ is)(la:pX gc.iter)(ht:jy (eG scope) (cx.comp scope Γ) target t)
 (pre:List aK->List aK) (tX:∀(ρ:List aK) (j:Nat) (b:aK),(cb t (pre ρ))[j]? =some b->b≠ .un->ρ[j]? =some b) (sq:∀ρ,∀j∈is,∀b:aK,(cb t (pre ρ))[j]? =some b->b= .un) (f:List aK->ah->Sg->Option (List ah×Sg))
 (Nm:∀ρ σ,ev W.aW W.R e ρ σ=(fL (ev W.aW W.R it ρ σ)).bind λr=>(l6 (f ρ) r.1 r.2).bind λq=>(kY q.1).bind λd=>some ([.d d],q.2))
 (loop:∀{A:bV} {κ:cF} {lC:Env} {ρ:List aK} {aD:aJ} {aN:aG} {I:az} {xs:List ah} {D:az} {fp wr:List az} {P Md:Nat->ao->aG->Prop} {St:Nat->aG->Prop} {gH:List ah} {jo:Sg} {R:x5->aJ->Prop} {s':aJ},
  iE W A (eG scope) (cx.comp scope Γ) κ lC (cb t (pre ρ)) target t aD aN I xs D fp wr P Md St->gH.length<=lim->Fin W (eG scope) (cx.comp scope Γ) κ lC (cb t (pre ρ)) aD aN wr D gH jo R->
  u8 W (eG scope) (cx.comp scope Γ) κ lC (cb t (pre ρ)) aD aN xs D wr St (f ρ) gH jo (xs.length+1) s'->
  (wpAny (model W.G.prog W.G.w) A (pyIter (.ref I)) (λmy dz=>my= .ref I/\dz=s') (λzz zz=>False) s')->codeAny (model W.G.prog W.G.w) A (.compStart ast 0 (.ref I) (.ref D) lC) R s'):kJ W cx scope ast e where
 run:=by
  intro κ A s g σ env ρ xs av use Q pos rm i eo he k
  have hh:=rm.handled
  rw[Nm] at he
  refine aP he λMM H he=>?_;obtain⟨ys,ae⟩:=MM
  refine aP he λBb O he=>?_;obtain⟨ds,aF⟩:=Bb
  refine aP he λd h3 he=>xa (qp h3) λtH hl=>?_;clear h3;subst tH
  simp only[dj,iS] at he
  refine xa he λalK Lj=>?_;subst alK;clear he;subst Lj
  have hf:=λy hy e=>eo.kZ _ (ck.free y hy e)
  refine wpAny_comprehension_free iA (λx=>la env x) (acO hf) ck.kind (λy hy e=>by exact Y (ck.nd y hy)<|Y e rfl) ?_
  have hfi:firstIter (clausesOf ast) env=eval gc.iter env:=by refine Y iA ?_;clear iA hI la;obtain⟨_,_,_,_⟩:=gc;rfl
  refine Y hfi<|cn (hI A s g σ env ρ ys ae hh rm i eo H) (λx an hw=>?_) λzz zz f=>f
  refine cn hw (λYe aD Xc=>bZ Xc λaN I ei st K=>?_) λzz zz f=>f
  clear Xc;subst ei
  refine acP (RR:=λacc C=>compPost (model W.G.prog W.G.w) A (λzz zz=>False) use Q acc C) hh rm eo i st K ck (tX ρ) (sq ρ) ht λD C lC gK fp wr P Md St hD hwd Xd hC Gf hw L ci rv hS mY=>loop L hl (λs' g' cf gQ=>?_) (uZ 0 ae ([]) aN ds (mO rfl (dn _) ci rv hS O rfl)) (mY _ _ _ hS ⟨rfl,rfl⟩)
  refine ar gQ.vars λm hn zz=>?_
  rw[Xd] at hn
  have Yl:=gQ.lg
  rw[Xd] at Yl
  refine xe (oM st.inv) λoc qO=>?_
  have ww:C≠W.G.c:=by rintro rfl';rw[rfl',qO] at hC;exact ft hC
  have Cz:D≠W.G.c:=by rintro rfl';rw[rfl',qO] at hD;exact ft hD
  exact k D C s' ds rfl ⟨m,hn⟩ (st.dead hC ww) ww (st.dead hD Cz) λh' hs=>afk st cf hD hwd hC Gf hw Yl hs
end
section
variable{W:Wd}{A:bV}{cx:Cx}{κ:cF}{env:Env}{ρ aE:List aK}{target l4:Expr}{t t2:iM}{s:aJ}{g:aG}{σ av:Sg}{scope:jA}{Γ:List (Str×Nat)}
theorem kJ.zero(hI:bz W cx target (l7 t) iter it)(ck:nK cx scope Γ (qd t))(la:pX iter)(ht:jy (eG scope) (cx.comp scope Γ) target t)(he:ab W (cx.comp scope Γ) elt e):
 kJ W cx scope (.ListComp elt [⟨target,iter,[],0⟩] scope pos) (.comp e t it (.lit (.bool true))):=
 IE (gc:=⟨target,iter,[],0⟩) (gs:=[]) rfl hI ck la ht id (λρ=>Ev t ρ) (λρ=>E1 t ρ)
  (λρ x σ=>(cg t x ρ).bind λaE=>(ba (ev W.aW W.R e aE σ)).bind λp=>some ([p.1],p.2))
  (λρ σ=>rfl)
  (λL hz fin h mY=>Oe (L.VV he hz fin h) (cn mY (λmy dz hq=>by refine xa hq λalL Lk=>?_;clear mY hq;subst alL Lk;exact L.VV he hz fin h) λzz zz f=>f.elim))
theorem kJ.one(hI:bz W cx target (l7 t) iter it)(ck:nK cx scope Γ (qd t))(la:pX iter)(ht:jy (eG scope) (cx.comp scope Γ) target t)(he:ab W (cx.comp scope Γ) elt e)(hc:a6 W (cx.comp scope Γ) test c):
 kJ W cx scope (.ListComp elt [⟨target,iter,[test],0⟩] scope pos) (.comp e t it c):=
 IE (gc:=⟨target,iter,[test],0⟩) (gs:=[]) rfl hI ck la ht id (λρ=>Ev t ρ) (λρ=>E1 t ρ)
  (λρ x σ=>(cg t x ρ).bind λaE=>(iu (ev W.aW W.R c aE σ)).bind λq=>if q.1 then(ba (ev W.aW W.R e aE q.2)).bind λp=>some ([p.1],p.2) else some ([],q.2))
  (λρ σ=>rfl)
  (λL hz fin h mY=>Oe (L.VW he hc hz fin h) (cn mY (λmy dz hq=>by refine xa hq λLb vG=>?_;clear mY hq;subst Lb vG;exact L.VW he hc hz fin h) λzz zz f=>f.elim))
theorem afm(h:eG scope x=true):(cx.comp scope Γ).kindOf x=some .cell:=by
 have h:=of_decide_eq_true h
 unfold Cx.kindOf Cx.comp jc
 dsimp only
 generalize scope.names=l at h
 induction l with
 |nil=>exact aC h
 |cons p l ih=>
  obtain⟨n,k⟩:=p
  rw[lT] at h
  refine Y bE ?_
  cases e:x==n with
  |true=>
   rw[e] at h
   injection h with Bj;subst Bj
   show acs x ((n,w9)::_)=_
   exact Y lT<|Y e rfl
  |false=>
   rw[e] at h
   split<;>(exact Y lT<|Y e<|ih h)
theorem kJ.two(hI:bz W cx target (l7 t) iter it)(ck:nK cx scope Γ (qd t++qd t2))(la:pX iter)(ht:jy (eG scope) (cx.comp scope Γ) target t)(he:ab W (cx.comp scope Γ) elt e)
 (wx:bz W (cx.comp scope Γ) l4 (l7 t2) i2 ki) (F1:pX i2) (wu:jy (eG scope) (cx.comp scope Γ) l4 t2):
 kJ W cx scope (.ListComp elt [⟨target,iter,[],0⟩,⟨l4,i2,[],0⟩] scope pos) (.gY e t it t2 ki):=by
 have Ge:∀(x:Str) (i:Nat) (w:aK),(cx.comp scope Γ).Γ.lookup x=some i->∀aE:List aK,aE[i]? =some w->dY w=true->(cx.comp scope Γ).var x=true:=by
  intro x i w H aE _ _
  unfold Cx.var
  simp only[lU,beq_iff_eq]
  by_cases h:(cx.comp scope Γ).kindOf x=some .local
  .exact .inl (.inl h)
  .cases ho:eG scope x with
   |true=>exact .inl (.inr (afm ho))
   |false=>
    refine a9 ((ck.Nj x i H h ho).2) (λq=>?_) (λq=>?_)
    .exact .inl (.inr q)
    .exact .inr q
 refine IE (gc:=⟨target,iter,[],0⟩) (gs:=[⟨l4,i2,[],0⟩]) rfl hI ck la ht (cb t2) (λρ j b h V=>Ev t2 ρ j b (Ev t _ j b h V) V) (λρ j hj=>?_)
  (λρ x σ=>(cg t x (cb t2 ρ)).bind λaE=>(fL (ev W.aW W.R ki aE σ)).bind λq=>l6 (λy σ=>(cg t2 y aE).bind λj8=>(ba (ev W.aW W.R e j8 σ)).bind λp=>some ([p.1],p.2)) q.1 q.2)
  (λρ σ=>rfl)
  (λL hz fin h mY=>Oe (L.VY he wx (λx=>F1 _ x) wu Ge hz fin h) (cn mY (λmy dz hq=>by refine xa hq λBw Bx=>?_;clear mY hq;subst Bw Bx;exact L.VY he wx (λx=>F1 _ x) wu Ge hz fin h) λzz zz f=>f.elim))
 refine a9 (ln.mp hj) (λhj=>?_) (λhj=>?_)
 .exact E1 t _ j hj
 .exact ag0 t _ (E1 t2 ρ j hj)
def tY(W:Wd)(cx:Cx)(ast:Expr)(e:E):Prop:=
 ∀ ⦃κ:cF⦄ A s g σ env ρ xs av,dK A W.n->Inv W.G g σ s->a7 W.G cx κ g s.heap env ρ->ev W.aW W.R e ρ σ=some (xs,av)->Runs W.G A s g av (eval ast env) (λv g'=>∃D ds,xs=[.d (.list ds)]/\v= .ref D/\s.heap.get? D=none/\Is g' v (.list ds))
theorem tY.comp(h:kJ W cx scope (.ListComp elt gs scope pos) e)(hf:firstAsync gs=false:=by rfl):tY W cx (.ListComp elt gs scope pos) e:=λzz A s g σ env ρ xs av rm i eo he=>by
 rewrite[eval_ListComp];refine Y hf<|h.run A s g σ env ρ xs av none _ _ rm i eo he λD C s' ds ex hm hC ww hD fin=>ai hm.choose hm.choose_spec (λh' hs=>?_)
 exact cq (fin h' hs) λg' st q zz=>aeP g' st D ds ex rfl hD q
theorem tY.ba(h:tY W cx ast e)(rm:dK A W.n)(i:Inv W.G g σ s)(eo:a7 W.G cx κ g s.heap env ρ)(he:ba (ev W.aW W.R e ρ σ)=some (x,av)):Runs W.G A s g av (eval ast env) (λv g'=>(∃D,v= .ref D/\s.heap.get? D=none)/\Is g' v x):=
 (h A s g σ env ρ _ av rm i eo (rd he)).mono λv g' B8=>uX B8 λD ds e1 e2 e3 q=>by clear he B8;injection e1 with Bp ar7;injection Bp with I6;subst I6;exact⟨(ai D e2 e3),q⟩
theorem ab.comp(h:kJ W cx scope (.ListComp elt gs scope pos) e)(hf:firstAsync gs=false:=by rfl):ab W cx (.ListComp elt gs scope pos) e:=λzz A s g σ env ρ xs av rm i eo he=>
 (tY.comp h hf A s g σ env ρ xs av rm i eo he).mono λv g' aoH=>uX aoH λD ds e1 zz zz q=>(ai _ e1 q)
noncomputable def g6:Str->Bool:=λzz=>true
def Fm(G:eI)(cx:Cx)(fr:az->Option Obj)(κ:cF)(env:Env)(ρ:List aK)(g h:aG):Prop:=∀b o,fr b=some o->h.get? b=some o/\b≠G.c/\g.get? b=none/\¬cG cx κ env ρ b
def nO(W:Wd)(cx:Cx)(κ:cF)(fr:az->Option Obj)(aZ:aJ)(bS:aG)(env:Env)(out:g9)(fl:Flow)(s':aJ):Prop:=
 ∃g',match out with
  | .next aE av=>fl= .next/\aS W.G aZ bS av s' g'/\∃κ':cF,κ'.L=κ.L/\a7 W.G cx κ' g' s'.heap env aE/\Fm W.G cx fr κ' env aE g' s'.heap
  | .ret v av=>∃r,fl= .ret r/\aS W.G aZ bS av s' g'/\iN W.G g' r v
def aq(W:Wd)(cx:Cx)(stmts:List lI)(S:bh.S):Prop:=
 ∀ ⦃κ:cF⦄ ⦃fr:az->Option Obj⦄ A aZ bS s g σ env ρ out,dK A W.n->aS W.G aZ bS σ s g->a7 W.G cx κ g s.heap env ρ->Fm W.G cx fr κ env ρ g s.heap->aZ.heap.objs.size<=κ.L->aR W.aW W.R S ρ σ=some out->
   wpAny (model W.G.prog W.G.w) A (execs stmts env) (nO W cx κ fr aZ bS env out) (λzz zz=>False) s
section
variable{G:eI}{fr:az->Option Obj}{h h':aG}{an:aJ}{g':aG}
theorem Fm.step(x:Fm G cx fr κ env ρ g s.heap)(st:aS G s g av an g'):Fm G cx fr κ env ρ g' an.heap:=λb o e=>by
 exact fU (x b o e) λH O h3 h4=>fb (st.keep b o O H) O (st.gone h3 H) h4
theorem Fm.moved(x:Fm G cx fr κ env ρ g s.heap)(m:Moved M s an)(hM:∀b,M b->cG cx κ env ρ b\/fr b=none):Fm G cx fr κ env ρ g an.heap:=λb o e=>by
 refine fU (x b o e) λH O h3 h4=>cP m λh' tk Bz k=>?_;clear m;subst Bz
 refine fb (k b o (λz=>?_) H) O h3 h4
 refine a9 (hM b z) (λz=>?_) (λz=>?_)
 .exact h4 z
 .rw[e] at z;exact ft z
theorem Fm.swap(x:Fm G cx fr κ env ρ g h)(hp:∀b,cG cx κ' env aE b->cG cx κ env ρ b\/fr b=none):Fm G cx fr κ' env aE g h:=λb o e=>by
 refine fU (x b o e) λH O h3 h4=>fb H O h3 (λz=>?_)
 refine a9 (hp b z) (λz=>?_) (λz=>?_)
 .exact h4 z
 .rw[e] at z;exact ft z
theorem Fm.dead(x:Fm G cx fr κ env ρ g h)(V:h.get? b=none):fr b=none:=by
 cases e:fr b with
 |none=>rfl
 |some o=>rw[(x b o e).1] at V;exact ft V
theorem cG.set(V:dY b=false)(h:cG cx κ env (ρ.set i b) a):cG cx κ env ρ a:=by
 rcases h with h|h|⟨x,j,w,nm,z,o,e⟩
 .exact .inl h
 .exact .inr (.inl h)
 .rcases dP z with⟨_,rfl⟩|⟨_,z⟩
  .rw[V] at o;exact aQ o
  .exact .inr (.inr (jX x j w nm z o e))
theorem Fm.asg(x:Fm G cx fr κ env ρ g s.heap)(m:Moved (Wr cl cx env) s an)(V:dY b=false):Fm G cx fr κ env (ρ.set i b) g an.heap:=(x.moved m λb V=> .inl (Wr.at V)).swap λa h=> .inl (cG.set V h)
end
theorem aS.moved(st:aS G aZ bS σ s g)(m:Moved M s s')(h:∀b,M b->aZ.heap.get? b=none/\g.get? b=none/\b≠G.c):aS G aZ bS σ s' g:=by
 have inv:=st.inv.moved m λb V=>(h b V).2
 refine cP m λh' tk alM k=>?_;subst alM
 refine⟨st.same,λb o V e=>k b o (λz=>?_) (st.keep b o V e),st.grow,st.fresh,inv⟩
 rw[(h b z).1] at e;exact aC e
theorem ou{aZ:aJ}(h:aZ.heap.objs.size<=L)(V:L<=b):aZ.heap.get? b=none:=om (aB h V)
theorem Wr.n9(eo:a7 W.G cx κ g h env ρ)(V:Wr cl cx env b):κ.L<=b:=by
 rcases V with rfl|⟨x,_,H,O⟩
 .exact eo.above
 .exact eo.cL x b H O
theorem aq.nil:aq W cx [] .bI:=λzz zz A aZ bS s g σ env ρ out rm st eo fm hL he=>by
 have he:=gS he
 subst he
 exact OZ (Tq g rfl st _ rfl eo fm)
theorem aq.ret(h:ab W cx v e):aq W cx (.Return (some v) pos::rest) (.ret e):=λzz zz A aZ bS s g σ env ρ out rm st eo fm hL he=>by
 refine gO he λx ae H O=>?_
 simp only[dj] at O
 clear he;subst O
 refine jT (wpAny_Return_some ((h.one rm st.inv eo H).use λr an aX bN q=>?_))
 exact eY aX r rfl (st.trans bN) q
theorem aq.next{S:bh.S}(h:aq W cx rest S)(rm:dK A W.n)(st:aS W.G aZ bS σ s g)(eo:a7 W.G cx κ g s.heap env ρ)(fm:Fm W.G cx fr κ env ρ g s.heap)(hL:aZ.heap.objs.size<=L)(e:κ.L=L)(he:aR W.aW W.R S ρ σ=some out)(rT:oU.L=L):
 wpAny (model W.G.prog W.G.w) A (execs rest env) (nO W cx oU fr aZ bS env out) (λzz zz=>False) s:=by
 refine cn (h A aZ bS s g σ env ρ out rm st eo fm (e▸hL) he) (λfl s' Xe=>xe Xe λg' q=>⟨g',?_⟩) λzz zz f=>f
 clear he Xe;cases out with
 |next aE av=>
  exact J0 q λa b κ' c d=>VC a b κ' (c.trans (e.trans rT.symm)) d
 |ret v av=>exact q
def oW(cx:Cx)(x:Str)(i:Nat):Prop:=(cx.kindOf x=some .local\/(g6 x=true/\cx.kindOf x=some .cell))/\cx.Γ.lookup x=some i/\lZ cx x i
theorem aq.asg{S:bh.S}(ha:oW cx x i)(h:ab W cx v e)(k:aq W cx rest S)(hs:∀env,swapsWith v (some (.Name x p)) pos.line env=pure false:=by intro _;rfl):
 aq W cx (.Assign [.Name x p] v pos::rest) (.asg i e S):=λκ fr A aZ bS s g σ env ρ out rm st eo fm hL he=>by
 refine gO he λy ae H O=>cj ha λa1 a2 a3=>jT (wJ ((h.one rm st.inv eo H).use λr an aX bN q=>?_) (hs env) rfl)
 have dC:=eo.step bN
 have cz:=st.trans bN
 refine pT (cl:=g6) (b:= .v y) dC a1 a2 a3 re (λzz zz=>q) λs' m gQ=>k.next rm (cz.moved m λb V=>?_) gQ ((fm.step bN).asg m rfl) hL rfl O rfl
 have w:=Wr.safe dC b V
 exact bO (ou hL (Wr.n9 dC V)) w.1 w.2
theorem aq.nX{S:bh.S}(ha:oW cx x i)(h:kJ W cx scope (.ListComp elt gs scope q) e)(k:aq W cx rest S)
 (hs:∀env:Env,env.scope=cx.sc->swapsWith (.ListComp elt gs scope q) (some (.Name x p)) pos.line env=pure true) (hv:∀x i,cx.Γ.lookup x=some i->cx.var x=true) (hf:firstAsync gs=false:=by rfl):
 aq W cx (.Assign [.Name x p] (.ListComp elt gs scope q) pos::rest) (.asg i e S):=λκ fr A aZ bS s g σ env ρ out rm st eo fm hL he=>by
 refine gO he λy ae H O=>cj ha λa1 a2 a3=>jT<|Y (exec_Assign_Name_used x p _ pos (hs env eo.sc))<|am (zl ?_)
 rewrite[arm_evalThenUse_ListComp];refine Y hf<|am (am (h.run A s g σ env ρ _ ae (some (assign (.Name x p) env)) _ _ rm st.inv eo (xB H) λD C s' ds ex hm hC ww hD fin=>?_))
 clear H;injection ex with Ce asr;subst Ce
 refine xe hm λm hm=>cq (fin s'.heap (.refl ..)) λg' cz qi CC=>?_
 have dC:=eo.step cz
 have nC:∀b,Wr g6 cx env b->b≠C:=by
  rintro b V rfl
  clear ww fin hm CC;rcases V with rfl|⟨x,_,H,O⟩
  .refine xe eo.Hp λo e=>?_
   rw[hC] at e;exact aC e
  .refine nJ (eo.cc _ _ O) λzz zz v o e zz=>?_
   rw[hC] at e;exact aC e
 refine pT (cl:=g6) (b:= .v (.d (.list ds))) dC a1 a2 a3 re (λzz zz=>qi) λdz m' gQ=>?_
 have w:∀b,Wr g6 cx env b\/b=C->aZ.heap.get? b=none/\g'.get? b=none/\b≠W.G.c:=by
  rintro b (V|rfl)
  .have w:=Wr.safe dC b V
   exact bO (ou hL (Wr.n9 dC V)) w.1 w.2
  .exact bO (st.dead hC ww) CC ww
 have su:dz.heap.Ns C m:=by
  refine cP m' λh' tk KY kp=>?_;clear m' gQ;subst KY
  exact hm.at' λo e=>kp _ _ (λz=>nC _ z rfl) e
 refine ai m su (λh' mA=>?_)
 have mv:Moved (λb=>Wr g6 cx env b\/b=C) s' {dz with heap:=h'}:=by
  refine cP m' λH t1 Kw k1=>?_;clear su;clear m' gQ;subst Kw
  exact gq h' t1 rfl (λb o V e=>(mA.2 b λz=>V (.inr z)).trans (k1 b o (λz=>V (.inl z)) e))
 have aoI:a7 W.G cx κ g' h' env (ρ.set i (.v (.d (.list ds)))):=by
  refine a7.moved (M:=(·=C)) gQ (s':={dz with heap:=h'}) (gq h' dz.toks rfl (λb o V e=>(mA.2 b V).trans e)) ?_
  rintro b V rfl
  refine xe (eo.live (λx i w z zz zz=>hv x i z) (cG.set rfl V)) λo e=>?_
  rw[hC] at e;exact aC e
 have pA:=((fm.step cz).moved mv λb V=>V.elim (λz=> .inl (Wr.at z)) λz=> .inr (z▸fm.dead hC)).swap (aE:=ρ.set i (.v (.d (.list ds)))) λa h=> .inl (cG.set rfl h)
 exact aH (aH (k.next rm ((st.trans cz).moved mv w) aoI pA hL rfl O rfl))
end
section
variable{W:Wd}{A:bV}{cx:Cx}{κ:cF}{env:Env}{ρ aE:List aK}{s aZ:aJ}{g bS:aG}{σ av:Sg}
def VZ(env:Env)(b:az):Prop:=b=env.locals\/∃x,env.cells.lookup x=some b
theorem Sl(eo:a7 G cx κ g s.heap env ρ)(hk:cx.kindOf x=some .local)(jP:cx.Γ.lookup x=some i)(hj:lZ cx x i)(ho:vA κ env ρ i b)
 (V:∀h':aG,(∀a o,¬Wr g6 cx env a->s.heap.get? a=some o->h'.get? a=some o)->eF G κ i g h' v b) (q:∀s',Moved (Wr g6 cx env) s s'->a7 G cx κ g s'.heap env (ρ.set i b)->Q () s'):
 wpAny (model G.prog G.w) A (bindName env x v) Q F s:=by
 have fn:=u7 eo
 have ko:=xk eo x
 refine ar eo.vars λm hn zz=>wpAny_bindName (Oi (ko.trans hk) hn (λh' lM hs=>?_) (by refine Y fn ?_;rfl))
 have k:∀a o,¬Wr g6 cx env a->s.heap.get? a=some o->h'.get? a=some o:=λa o na e=>(hs.2 a λz=>na (.inl z)).trans e
 exact q _ (.same k) (Du eo hk jP hj ho hn lM hs (V h' k))
theorem aq.yo{k1 k2:Nat}{S:bh.S}(hx:oW cx x i)(hy:oW cx y j)
 (ha:ab W cx a ea) (V:ab W cx b eb) (k:aq W cx rest S) (hw:∀env:Env,env.scope=cx.sc->swappedStores [.Tuple [.Name x px, .Name y py] k1 pt] (.Tuple [a,b] k2 pv) env=pure none) (n1:eW a=true:=by rfl) (n2:eW b=true:=by rfl):
 aq W cx (.Assign [.Tuple [.Name x px, .Name y py] k1 pt] (.Tuple [a,b] k2 pv) pos::rest) (.yo i j ea eb S):=λκ fr A aZ bS s g σ env ρ out rm st eo fm hL he=>by
 refine aP he λalN H he=>?_;obtain⟨u,ae⟩:=alN
 refine aP he λBa O h3=>?_;obtain⟨w,aF⟩:=Ba
 refine cj hx λx1 x2 x3=>cj hy λy1 y2 y3=>jT (Assign_Tuple (PX ?_) rfl (hw env eo.sc))
 refine f8 ?_ (cu n1)
 refine(ha.one rm st.inv eo H).use λyv an aX bN aoJ=>?_
 have dC:=eo.step bN
 refine f8 ?_ (cu n2)
 refine(V.one rm bN.inv dC O).use λCf aD aN bb eS=>?_
 have gG:=dC.step bb
 refine iU ⟨by show 2<=sizeLine;decide,?_⟩
 have alO:=iN.mono aoJ bb.grow
 have keep:∀b o,aD.heap.get? b=some o->(aD.heap.push {cls:= .type "tuple",data:= .seq [yv,Cf].toArray}).get? b=some o:=λb o e=>bT _ e
 refine aag rm.handled (iY _ (cJ _ rfl) rfl 0 rfl) rfl rfl λh' hx=>?_
 have vH:∀b o,aD.heap.get? b=some o->h'.get? b=some o:=λb o e=>hx b o (dH (dI (keep b o e))) (keep b o e)
 have eZ:=aS.il (G:=W.G) (tk:=aD.toks) bb.inv vH
 have ip:=gG.step eZ
 have Nn:=st.trans (bN.trans (bb.trans eZ))
 have Ll:=((fm.step bN).step bb).step eZ
 refine am (jU ?_)
 refine pT (cl:=g6) (s:={aD with heap:=h'}) (b:= .v u) ip x1 x2 x3 re (λzz zz=>alO) λgK Xf rv=>am (jU ?_)
 refine pT (cl:=g6) (b:= .v w) rv y1 y2 y3 re (λzz zz=>eS) λiJ Xg vB=>aH ?_
 have sf:∀b,Wr g6 cx env b->aZ.heap.get? b=none/\aN.get? b=none/\b≠W.G.c:=λb V=>by
  have w:=Wr.safe ip b V
  exact bO (ou hL (Wr.n9 ip V)) w.1 w.2
 exact k.next rm ((Nn.moved Xf sf).moved Xg sf) vB ((Ll.asg (b:= .v u) (i:=i) Xf rfl).asg (b:= .v w) (i:=j) Xg rfl) hL rfl h3 rfl
theorem a7.chg(eo:a7 G cx κ g h env ρ)
 (V:∀j b,aE[j]? =some b->b≠ .un->∃c,ρ[j]? =some c/\c≠ .un/\∀v,eF G κ j g h v c->eF G κ' j g' h' v b)
 (ho:∀b,VZ env b->(g.get? b=none->g'.get? b=none)/\∀o,h.get? b=some o->h'.get? b=some o) (hL:κ'.L=κ.L)
 (ap:∀i j b b',aE[i]? =some b->aE[j]? =some b'->dY b=true->dY b'=true->κ'.f i=κ'.f j->i=j)
 (od:∀x i b,cx.Γ.lookup x=some i->aE[i]? =some b->dY b=true->κ'.f i≠env.locals):a7 G cx κ' g' h' env aE:=by
 have kl:=ho _ (.inl rfl)
 refine⟨eo.sc,eo.kind,eo.glob,eo.jL,hL▸eo.above,eo.lc,kl.1 eo.lg,?_,λy j b H O h3 h4=>?_,eo.kZ,λy a e=>?_,λy a H O=>hL▸eo.cL y a H O,ap,eo.n5,od⟩
 .refine ar eo.vars λm hn f=>ai m (hn.at' kl.2) (λy j b H O h3 h4=>?_)
  exact cq (V j b O h3) λc z1 z2 z3=>ar (f y j c H z1 z2 h4) λv e q=>ai v e (z3 v q)
 .exact cq (V j b O h3) λc z1 z2 z3=>bZ (eo.cells y j c H z1 z2 h4) λa v e alP q=>ar alP λo e1 e2=>eY a v e ((ai o ((ho a (.inr ⟨y,e⟩)).2 o e1) e2)) (z3 v q)
 .refine nJ (eo.cc y a e) λz1 z2 v o e1 e2=>?_
  have:=ho a (.inr ⟨y,e⟩)
  exact xO z1 (this.1 z2) v o (this.2 o e1) e2
theorem tj(h:¬ρ.any kS=true){j:Nat}(e:ρ[j]? =some b):dY b=false:=by
 cases q:kS b with
 |false=>exact q
 |true=>exact absurd (uC.mpr (ai b (Dg e) q)) h
theorem a7.n9(eo:a7 G cx κ g h env ρ)(hn:¬ρ.any kS=true)(hL:κ'.L=κ.L):a7 G cx κ' g h env ρ:=
 eo.chg (λj b H O=>(bQ b H O (λv q=>by
  have:=tj hn H
  clear O;cases b with
  |un=>trivial
  |v _=>exact q
  |own _=>exact aQ this
  |cI _=>exact aQ this))) (λzz zz=>⟨id,λzz e=>e⟩) hL
   (λi j b b' H zz h3=>by rw[tj hn H] at h3;exact aQ h3) (λx i b zz H h3=>by rw[tj hn H] at h3;exact aQ h3)
theorem H4{D:az}{st:aS W.G aZ bS σ s g}(eo:a7 W.G cx κ g s.heap env ρ)(dead:s.heap.get? D=none)(hD:s.heap.objs.size<=D):¬Wr g6 cx env D/\D≠W.G.c/\g.get? D=none/\κ.L<=D/\D≠env.locals:=by
 refine xe eo.Hp λo e=>?_
 have nl:D≠env.locals:=by rintro rfl;rw[dead] at e;exact aC e
 refine md ?_ ?_ ?_ (aB eo.above (aB (fA (dI e)) hD)) nl
 .rintro(z|⟨x,_,_,z⟩)
  .exact nl z
  .refine nJ (eo.cc _ _ z) λzz zz v o e zz=>?_
   rw[dead] at e;exact aC e
 .rintro rfl
  refine xe (oM st.inv) λo e=>?_
  rw[dead] at e;exact aC e
 .cases e:g.get? D with
  |none=>rfl
  |some o=>rw[st.inv.sub _ _ e] at dead;exact ft dead
theorem IF{x:Str}{i:Nat}{p:Pos}{rest:List lI}{S:bh.S}{fr:az->Option Obj}{out:g9}{b:aK}{D:az}{aD:aJ}{oU:cF}(k:aq W cx rest S)(ha:oW cx x i)(ob:dY b=true)(dU:¬(ρ.set i .un).any kS=true)
 (rm:dK A W.n) (st:aS W.G aZ bS σ s g) (eo:a7 W.G cx κ g s.heap env ρ) (fm:Fm W.G cx fr κ env ρ g s.heap) (hL:aZ.heap.objs.size<=κ.L) (rT:oU.L=κ.L) (dead:s.heap.get? D=none) (hD:s.heap.objs.size<=D)
 (bb:aS W.G s g σ aD g)
 (hB:∀κ' h',κ'.L=κ.L->κ'.f i=D->(∀o,aD.heap.get? D=some o->h'.get? D=some o)->g.get? D=none->D≠W.G.c->κ.L<=D->eF W.G κ' i g h' (.ref D) b)
 (he:aR W.aW W.R S (ρ.set i b) σ=some out):
 wpAny (model W.G.prog W.G.w) A (assign (.Name x p) env (.ref D)) (λzz=>wpAny (model W.G.prog W.G.w) A (execs rest env) (nO W cx oU fr aZ bS env out) (λzz zz=>False)) (λzz zz=>False) aD:=by
 refine cj ha λa1 a2 a3=>j3 (H4 (st:=st) eo dead hD) λnW nc gn aL nl=>?_
 have wy:fr D=none:=fm.dead dead
 have ef:(if i=i then D else κ.f i)=D:=if_pos rfl
 have gG:=((eo.un i).step bb).n9 (κ':=⟨κ.L,λj=>if j=i then D else κ.f j⟩) dU rfl
 refine pT (cl:=g6) (b:=b) gG a1 a2 a3 (λzz=>⟨?_,λj b' z1 z2=>?_⟩) (λh' kp=>hB _ h' rfl ef (λo e=>kp D o nW e) gn nc aL) λs' m gQ=>?_
 .show(if i=i then D else κ.f i)≠env.locals;exact Y ef<|nl
 .rw[tj dU z1] at z2;exact aQ z2
 .rw[qU] at gQ
  have sf:∀b,Wr g6 cx env b->aZ.heap.get? b=none/\g.get? b=none/\b≠W.G.c:=λb V=>by
   have w:=Wr.safe gG b V
   exact bO (ou hL (Wr.n9 eo V)) w.1 w.2
  refine k.next rm ((st.trans bb).moved m sf) gQ ?_ hL rfl he rT
  refine((fm.step bb).moved m λb V=> .inl (Wr.at V)).swap λb V=>?_
  rcases V with V|V|⟨y,j,w,nm,z,ow,e⟩
  .exact .inl (.inl V)
  .exact .inl (.inr (.inl V))
  .right
   clear nm;rcases dP z with⟨rfl,_⟩|⟨n,z⟩
   .refine Y e ?_;show fr (if i=i then D else κ.f i)=none;exact Y ef<|wy
   .exfalso
    have:(ρ.set i .un)[j]? =some w:=by refine Y Dp<|Y (if_neg n) ?_;exact z
    rw[tj dU this] at ow;exact aQ ow
theorem Ew{h h':aG}(hp:h.PlainList D vs)(hI:aT g vs.toList ds)(hl:ds.length<=lim)(eL:κ'.L=κ.L)(ef:κ'.f i=D)(k:∀o,h.get? D=some o->h'.get? D=some o)(H:g.get? D=none)(O:D≠G.c)(h3:κ.L<=D):eF G κ' i g h' (.ref D) (.own ds):=by
 refine xe hp λn hp=>?_
 subst ef
 exact Eb vs rfl (⟨n,k _ hp⟩) hI H O (eL▸h3) hl
theorem aq.new{S:bh.S}(ha:oW cx x i)(h:ak W cx as e)(k:aq W cx rest S):
 aq W cx (.Assign [.Name x p] (.List as q) pos::rest) (.new i e S):=λκ fr A aZ bS s g σ env ρ out rm st eo fm hL he=>by
 refine gO he λys ae H gJ=>aP gJ λds O kT=>aP kT λd h3 h4=>?_
 split at h4
 .exact aC h4
 rename_i dU
 refine xa (qp h3) λKJ hl=>?_;clear h3;subst KJ
 refine jT (wJ (DS ((h A s g σ env ρ ys ae q rm st.inv eo H).use λvs an aX bN r=>?_)) rfl rfl)
 have hI:=r.gF O
 refine⟨fG (by refine Y hI.length ?_;exact hl),?_⟩
 have keep:∀b o,an.heap.get? b=some o->(an.heap.push {cls:= .type "list",data:= .seq vs.toArray}).get? b=some o:=λb o e=>bT _ e
 have hD:(an.heap.push {cls:= .type "list",data:= .seq vs.toArray}).PlainList an.heap.objs.size vs.toArray:=⟨0,cJ _ rfl⟩
 exact IF k ha rfl dU rm (st.trans bN) (eo.step bN) (fm.step bN) hL rfl fq (a8 _) (aS.il (G:=W.G) (tk:=an.toks) bN.inv keep)
  (λκ' h' e1 e2 e3 e4 e5 e6=>Ew hD hI hl e1 e2 e3 e4 e5 e6) h4
theorem aq.newD{S:bh.S}(ha:oW cx x i)(k:aq W cx rest S):
 aq W cx (.Assign [.Name x p] (.Dict [] [] q) pos::rest) (.newD i S):=λκ fr A aZ bS s g σ env ρ out rm st eo fm hL he=>by
 have he:(if (ρ.set i .un).any kS then none else aR W.aW W.R S (ρ.set i (.cI [])) σ)=some out:=he
 split at he
 .exact aC he
 rename_i dU
 refine jT (wJ (aaI ?_) rfl rfl)
 have keep:∀b o,s.heap.get? b=some o->(s.heap.push {cls:= .type "dict",data:= .dict #[]}).get? b=some o:=λb o e=>bT _ e
 exact IF k ha rfl dU rm st eo fm hL rfl fq (a8 _) (aS.il (G:=W.G) (tk:=s.toks) st.inv keep)
  (λκ' h' e1 e2 e3 e4 e5 e6=>by
   refine md (Y e2 rfl) ?_ (by refine Y e2 ?_;exact e4) (Y e2<|e5) (Y e1<|Y e2<|e6)
   exact Y e2<|Av ([]) ((sU _ _ _ (e3 _ (cJ _ rfl)) ((bO rfl rfl rfl)) rfl rfl ((λx hx=>nomatch hx)) aar)) rfl aT.nil aT.nil (dn _)) he
theorem aq.ca{S₁ nY S:bh.S}(hc:a6 W cx c ec)(dL:aq W cx aoK S₁)(tV:aq W cx aoL nY)(k:aq W cx rest S):
 aq W cx (.If c aoK aoL pos::rest) (.ca ec S₁ nY S):=λκ fr A aZ bS s g σ env ρ out rm st eo fm hL he=>by
 refine gO he λb ae H O=>aP O λo h3 h4=>jT (wpAny_If ((hc A s g σ env ρ b ae rm st.inv eo H).use λb' an aX bN q=>?_))
 clear he H O;subst q
 have fin:∀fl s',nO W cx κ fr aZ bS env o fl s'->(match fl with
  |RT=>wpAny (model W.G.prog W.G.w) A (execs rest env) (nO W cx κ fr aZ bS env out) (λzz zz=>False) s'
  |f=>nO W cx κ fr aZ bS env out f s'):=λfl s' q=>by
  refine xe q λg' q=>?_
  clear h3;cases o with
  |next aE av=>
   refine ET q λyc cz κ' e gQ pA=>?_;clear q;subst yc
   exact k.next rm cz gQ pA hL e h4 rfl
  |ret v av=>
   obtain⟨r,rfl,cz,q⟩:=q
   rw[dj] at h4
   subst h4
   exact⟨g',r,rfl,cz,q⟩
 cases b' with
 |true=>exact cn (dL A aZ bS an aX ae env ρ o rm (st.trans bN) (eo.step bN) (fm.step bN) hL h3) fin λzz zz f=>f
 |false=>exact cn (tV A aZ bS an aX ae env ρ o rm (st.trans bN) (eo.step bN) (fm.step bN) hL h3) fin λzz zz f=>f
end
section
variable{W:Wd}{A:bV}{cx:Cx}{κ:cF}{env:Env}{ρ aE:List aK}{s aZ:aJ}{g bS:aG}{σ av:Sg}{b b':aK}{i:Nat}{x:Str}
theorem tm(ob:dY b=true)(q:eF G κ i g h v b):v= .ref (κ.f i)/\(∃o,h.get? (κ.f i)=some o/\I7 o)/\g.get? (κ.f i)=none/\κ.f i≠G.c/\κ.L<=κ.f i:=by
 cases b with
 |un=>exact aQ ob
 |v _=>exact aQ ob
 |own ds=>exact Ea q λvs e aoM zz r1 r2 r3 zz=>xe aoM λn p=>md e ((ai _ p (.inl (ie _ _ rfl)))) r1 r2 r3
 |cI kvs=>exact j3 q λe alQ r1 r2 r3=>ar alQ λxs aoN zz=>mP aoN λo es ep ho zz O zz=>md e ((ai o ho (.inr (ie _ _ O)))) r1 r2 r3
theorem mV(eo:a7 G cx κ g h env ρ)(hx:cx.Γ.lookup x=some i)(hk:cx.var x=true)(hi:ρ[i]? =some b)(ob:dY b=true):eF G κ i g h (.ref (κ.f i)) b:=by
 have:∃v,eF G κ i g h v b:=by
  have V:b≠ .un:=by rintro rfl;exact aQ ob
  unfold Cx.var at hk
  simp only[lU,beq_iff_eq] at hk
  rcases hk with(hk|hk)|hk
  .exact ar eo.vars λm zz f=>ar (f x i b hx hi V hk) λv zz q=>⟨v,q⟩
  .exact bZ (eo.cells x i b hx hi V (.inl hk)) λa v zz zz q=>⟨v,q⟩
  .exact bZ (eo.cells x i b hx hi V (.inr hk)) λa v zz zz q=>⟨v,q⟩
 refine xe this λv q=>?_
 obtain rfl:=(tm ob q).1
 exact q
theorem ag1(eo:a7 G cx κ g h env ρ)(hx:cx.Γ.lookup x=some i)(hk:cx.var x=true)(hi:ρ[i]? =some b)(ob:dY b=true):∀a,VZ env a->a≠κ.f i:=by
 rintro a (rfl|⟨y,e⟩)
 .exact λz=>eo.od x i _ hx hi ob z.symm
 .refine rK (eo.cc y a e) λzz zz v tJ=>ar ((tm ob (mV eo hx hk hi ob)).2.1) λo ho hd=>?_
  rintro rfl
  exact Hh tJ ho hd
theorem eF.to(q:eF G κ j g h v b)(hg:Sub g g')(hn:dY b=true->κ.f j≠D)(CD:∀a,g.get? a=none->a≠D->g'.get? a=none)(hs:∀a,a≠D->h'.get? a=h.get? a):eF G κ j g' h' v b:=by
 cases b with
 |un=>trivial
 |v y=>exact iN.mono q hg
 |own ds=>
  exact EV q λvs e alR r t u=>xe alR λn p=>Av vs e (⟨n,(hs _ (hn rfl)).trans p⟩) (r.mono hg) (CD _ t (hn rfl)) u
 |cI kvs=>
  exact fU q λe k t u=>fb e (k.step hg λo e=>(hs _ (hn rfl)).trans e) (CD _ t (hn rfl)) u
theorem a7.turn(eo:a7 G cx κ g h env ρ)(hx:cx.Γ.lookup x=some i)(hk:cx.var x=true)(hi:ρ[i]? =some b)(ob:dY b=true)(hg:Sub g g')(CD:∀a,g.get? a=none->a≠κ.f i->g'.get? a=none)
 (hs:∀a,a≠κ.f i->h'.get? a=h.get? a) (hB:eF G κ i g' h' (.ref (κ.f i)) b'):a7 G cx κ g' h' env (ρ.set i b'):=by
 have off:=ag1 eo hx hk hi ob
 have ow:∀{j:Nat} {c:aK},(ρ.set i b')[j]? =some c->dY c=true->∃c',ρ[j]? =some c'/\dY c'=true:=λ{j c} H O=>by
  rcases dP H with⟨rfl,_⟩|⟨_,H⟩
  .exact ai b hi ob
  .exact ai c H O
 refine eo.chg (λj c H O=>?_) (λa ha=>⟨λe=>CD a e (off a ha),λo e=>(hs _ (off a ha)).trans e⟩) rfl (λj k c c' H O h3 h4 h5=>?_) λy j c h0 H h3=>?_
 .clear ow;rcases dP H with⟨rfl,rfl⟩|⟨n,H⟩
  .refine bQ b hi ((by rintro rfl;exact aQ ob)) (λv q=>?_)
   obtain rfl:=(tm ob q).1
   exact hB
  .exact bQ c H O (λv q=>q.to hg (λoc z=>n (eo.ap i j _ _ hi H ob oc z.symm)) CD hs)
 .exact ar (ow H h3) λd d1 d2=>ar (ow O h4) λf f1 f2=>eo.ap j k d f d1 f1 d2 f2 h5
 .exact ar (ow H h3) λd d1 d2=>eo.od y j d h0 d1 d2
theorem cG.own(hx:cx.Γ.lookup x=some i)(hi:ρ[i]? =some b)(ob:dY b=true):cG cx κ env ρ (κ.f i):= .inr (.inr (jX x i b hx hi ob rfl))
theorem cG.turn(hi:ρ[i]? =some b)(ob:dY b=true)(h:cG cx κ env (ρ.set i b') a):cG cx κ env ρ a:=by
 rcases h with h|h|⟨y,j,w,nm,z,o,e⟩
 .exact .inl h
 .exact .inr (.inl h)
 .rcases dP z with⟨rfl,_⟩|⟨_,z⟩
  .exact .inr (.inr (jX y _ _ nm hi ob e))
  .exact .inr (.inr (jX y j w nm z o e))
section
variable{oU:cF}{fr:az->Option Obj}{out:g9}{rest:List lI}{S:bh.S}{h':aG}{tk:Nat}
theorem Sm(k:aq W cx rest S)(hx:cx.Γ.lookup x=some i)(hk:cx.var x=true)(hi:ρ[i]? =some b)(ob:dY b=true)(rm:dK A W.n)(st:aS W.G aZ bS σ s g)(eo:a7 W.G cx κ g s.heap env ρ)(fm:Fm W.G cx fr κ env ρ g s.heap)
 (hL:aZ.heap.objs.size<=κ.L) (rT:oU.L=κ.L) (hs:∀a,a≠κ.f i->h'.get? a=s.heap.get? a) (hB:eF W.G κ i g h' (.ref (κ.f i)) b') (he:aR W.aW W.R S (ρ.set i b') σ=some out):
 wpAny (model W.G.prog W.G.w) A (execs rest env) (nO W cx oU fr aZ bS env out) (λzz zz=>False) {s with heap:=h',toks:=tk}:=by
 refine j3 (tm ob (mV eo hx hk hi ob)) λzz zz r1 r2 r3=>?_
 have gG:=eo.turn hx hk hi ob Sub.rfl (λzz e zz=>e) hs hB
 have mv:Moved (·=κ.f i) s {s with heap:=h',toks:=tk}:=gq _ _ rfl (λb o V e=>(hs b V).trans e)
 refine k.next rm (st.moved mv ?_) gG ((fm.moved mv λb V=> .inl (V▸cG.own hx hi ob)).swap λa h=> .inl (cG.turn hi ob h)) hL rfl he rT
 rintro b rfl
 exact bO (ou hL r3) r1 r2
end
theorem Sn{S:bh.S}(k:aq W cx rest S)(hx:cx.Γ.lookup x=some i)(hk:cx.var x=true)(hi:ρ[i]? =some b)(ob:dY b=true)(rm:dK A W.n)(st:aS W.G aZ bS σ s g)(eo:a7 W.G cx κ g s.heap env ρ)(fm:Fm W.G cx fr κ env ρ g s.heap)
 (hL:aZ.heap.objs.size<=κ.L) (rT:oU.L=κ.L) (hy:eF W.G κ i g s.heap (.ref (κ.f i)) b->iN W.G (cv g s.heap (·=κ.f i)) (.ref (κ.f i)) y/\∀o,s.heap.get? (κ.f i)=some o->nN W.G.w o) (he:aR W.aW W.R S (ρ.set i (.v y)) σ=some out):
 wpAny (model W.G.prog W.G.w) A (execs rest env) (nO W cx oU fr aZ bS env out) (λzz zz=>False) s:=by
 have bo:=mV eo hx hk hi ob
 refine j3 (tm ob bo) λzz zz r1 r2 r3=>xa (hy bo) λy1 y2=>?_
 have sub:=st.inv.sub
 have none_of:∀b,g.get? b=none->b≠κ.f i->(cv g s.heap (·=κ.f i)).get? b=none:=λb H O=>by
  cases e:(cv g s.heap (·=κ.f i)).get? b with
  |none=>rfl
  |some o=>
   refine a9 (mQ sub e) (λe=>?_) (λe=>?_)
   .rw[H] at e;exact aC e
   .exact absurd e O
 have inv:Inv W.G (cv g s.heap (·=κ.f i)) σ s:=⟨st.inv.base.trans (ij sub),q9,none_of _ st.inv.gc (oH r2),st.inv.shr.at (λzz zz e=>e) (ij sub),λb o e V=>by
  refine a9 (mQ sub e) (λq=>?_) (λq=>?_)
  .exact st.inv.tab b o q V
  .exact y2 o (q▸q9 b o e)⟩
 have cz:aS W.G aZ bS σ s (cv g s.heap (·=κ.f i)):=⟨st.same,st.keep,st.grow.trans (ij sub),λb o e=>by
  refine a9 (mQ sub e) (λe=>?_) (λe=>?_)
  .exact st.fresh b o e
  .right;exact Y e<|ou hL r3,inv⟩
 have gQ:=eo.turn (b':= .v y) hx hk hi ob (ij sub) none_of (λzz zz=>rfl) y1
 refine k.next rm cz gQ (λb o e=>?_) hL rfl he rT
 exact fU (fm b o e) λz1 z2 z3 z4=>fb z1 z2 (none_of _ z3 λz=>z4 (z▸cG.own hx hi ob)) (λz=>z4 (cG.set rfl z))
theorem aq.cv{S:bh.S}(hx:cx.Γ.lookup x=some i)(hk:cx.var x=true)(k:aq W cx stmts S):aq W cx stmts (.cv i S):=λκ fr A aZ bS s g σ env ρ out rm st eo fm hL he=>by
 refine aP he λds hi he=>?_
 have hi:=u6 hi
 .refine Sn (y:= .d (.list ds)) k hx hk hi rfl rm st eo fm hL rfl (λaoO=>jg aoO λvs zz aoP hI zz=>xe aoP λn hp=>⟨Is.list (nH rfl hp) rfl rfl (hI.mono (ij st.inv.sub)),λo e=>?_⟩) he
  rw[hp] at e;injection e with Bq;subst Bq
  exact .no (by simp) rfl
theorem aq.tQ{S:bh.S}(hx:cx.Γ.lookup x=some i)(hk:cx.var x=true)(k:aq W cx stmts S):aq W cx stmts (.tQ i S):=λκ fr A aZ bS s g σ env ρ out rm st eo fm hL he=>by
 refine aP he λkvs hi he=>?_
 have hi:=TD hi
 .refine Sn (y:= .dk kvs) k hx hk hi rfl rm st eo fm hL rfl (λf8_=>cj f8_ λzz hK zz=>⟨(ai _ rfl (hK.step (ij st.inv.sub) λo e=>nH rfl e)),λo e=>?_⟩) he
  refine ar hK λxs alS zz=>xr alS λo' jO ep ho H O h3 zz=>?_
  rw[e] at ho;injection ho with oN;subst oN
  refine⟨λzz es n hd zz=>?_,λzz=>H.2.1⟩
  rw[hd] at O;injection O with alT alU;subst alT alU
  refine⟨H,λe he x t z=>?_⟩
  rw[h3] at he
  refine cr he λy zz Bl=>?_;subst Bl
  exact C' z
theorem zT(inv:Inv W.G g σ s)(eo:a7 W.G cx κ g s.heap env ρ)(hx:cx.Γ.lookup x=some i)(hk:cx.var x=true)(hi:ρ[i]? =some b)(ob:dY b=true)
 (hd:(x==("__debug__" :Str))=false) (hc:(x==("__classdict__" :Str))=false) (q:Q (.ref (κ.f i)) s):wpAny (model W.G.prog W.G.w) A (eval (.Name x pos) env) Q F s:=
 Iy inv eo hk hx hi (by rintro rfl;exact aQ ob) hd hc λv w=>(tm ob w).1▸q
def qq(o:Expr)(name:Str)(apos ic:Pos)(as:List Expr):Prop:=∀env,∃pl,eval (.Call (.Attribute o name apos) as [] ic) env=(do
 let ov <- eval o env
 standAt apos.atName
 let (f,first) <- holding [ov] (getMethod ov name pl)
 callWith ic f first (backTo ic (starEach as env)) [])
theorem H5{id:String}(slot:Slot "list" name id)(hty:typeOf (.builtin id)=pure (.type "method_descriptor"))(h:ab W cx a e)
 (hp:qq (.Name x p) name apos ic [a]) (hn:eW a=true) (hd:(x==("__debug__" :Str))=false) (hc:(x==("__classdict__" :Str))=false)
 (hx:cx.Γ.lookup x=some i) (hk:cx.var x=true) (hi:ρ[i]? =some (.own ds)) (rm:dK A W.n) (inv:Inv W.G g σ s) (eo:a7 W.G cx κ g s.heap env ρ) (H:ev W.aW W.R e ρ σ=some (r,av))
 (go:∀u an aX,aS W.G s g av an aX->(∃y,r=[y]/\iN W.G aX u y)->wpAny (model W.G.prog W.G.w) A (call (.builtin id) [.ref (κ.f i),u]) (λzz s'=>wpAny (model W.G.prog W.G.w) A (execs rest env) Q (λzz zz=>False) s') (λzz zz=>False) an):
 wpAny (model W.G.prog W.G.w) A (execs (.Expr (.Call (.Attribute (.Name x p) name apos) [a] [] ic) pos::rest) env) Q (λzz zz=>False) s:=by
 have hint:interactive env=false:=by unfold interactive;refine Y (u7 eo) ?_;rfl
 refine xe (hp env) λpl ct=>jT (wpAny_Expr_any (zy (pl:=pl) (zT inv eo hx hk hi rfl hd hc ?_) ct) hint rfl)
 refine cq (mV eo hx hk hi rfl) λvs zz alV zz=>xe alV λn hp=>aas slot hty (iY _ hp rfl n rfl) ?_ ?_
 .exact ai _ hp rfl
 refine N0 (f8 ?_ (cu hn)) (cu hn) iV
 exact(h A s g σ env ρ r av rm inv eo H).use λu an aX bN q=>iU (go u an aX bN q)
end
theorem aT.eraseIdx(h:aT g vs ds)(j:Nat):aT g (vs.eraseIdx j) (ds.eraseIdx j):=by
 exact Y (Y9 _ _)<|Y (Y9 _ _)<|(h.take j).append (h.drop (j+1))
theorem TR:∀{xs:List ah},eA xs=true->∀x∈xs,x.canLay0=true/\x.depth<=eM xs
 |[],_,x,hx=>nomatch hx
 |y::ys,h,x,hx=>by
  simp only[eA,cm] at h
  rw[eM]
  rcases bK.mp hx with rfl|hx
  .exact⟨h.1,mI ..⟩
  .exact xa (TR h.2 x hx) λH O=>⟨H,aB O (oo ..)⟩
section
variable{W:Wd}{A:bV}{cx:Cx}{κ:cF}{env:Env}{ρ aE:List aK}{s aZ:aJ}{g bS:aG}{σ av:Sg}{i j:Nat}{x y:Str}{ds:List ah}{S:bh.S}{rest:List lI}
theorem I9(k:aq W cx rest S)(hx:cx.Γ.lookup x=some i)(hk:cx.var x=true)(hi:ρ[i]? =some (.own ds))(rm:dK A W.n)(st:aS W.G aZ bS σ s g)(eo:a7 W.G cx κ g s.heap env ρ)(fm:Fm W.G cx fr κ env ρ g s.heap)
 (hL:aZ.heap.objs.size<=κ.L) (rT:oU.L=κ.L) (hp:s.heap.get? (κ.f i)=some {cls:= .type "list",dict:=none,data:= .seq vs n,slots:= #[]}) (f:Array ao->Array ao) (hI:aT g (f vs).toList No) (hl:No.length<=lim) (he:aR W.aW W.R S (ρ.set i (.own No)) σ=some out):
 wpAny (model W.G.prog W.G.w) A (execs rest env) (nO W cx oU fr aZ bS env out) (λzz zz=>False) {s with heap:=s.heap.update (κ.f i) (f9 f),toks:=tk}:=by
 exact j3 (tm rfl (mV eo hx hk hi rfl)) λzz zz r1 r2 r3=>Sm (b':= .own No) k hx hk hi rfl rm st eo fm hL rT (λb V=>On _ _ _ _ V) (Eb (f vs) rfl (⟨_,wV hp f⟩) hI r1 r2 r3 hl) he
theorem abu(T:String)(hT:T="list"\/T="tuple")(l:az)(items:Array ao)(n:Nat)(b:az)(dX:Array ao)(n2:Nat)(dd:Option az)(sl:Array (Option ao))(wk:¬(!items.isEmpty && N7 (items.size+dX.size))=true)(qI:items.size<=sizeLine)(gu:items.size+dX.size<=sizeLine+1):
 rJ (hY.«list.extend» ⟨[.ref l, .ref b],[]⟩) (λzz R s=>s.heap.get? l=some {cls:= .type "list",dict:=none,data:= .seq items n,slots:= #[]}/\s.heap.get? b=some {cls:= .type T,dict:=dd,data:= .seq dX n2,slots:=sl}/\R (.ok (.ret ju)) {s with heap:=s.heap.update l (f9 λx=>x++dX),toks:=s.toks}):=
 .of_wp λprog w A R s h=>by
  obtain⟨hp,g,d,tk,os⟩:=s
  obtain⟨hl,V,h⟩:=h
  have f1:=AutoSeq1.idx_int
  have f2:=Zo
  have f3:=ZA
  have f4:=AutoSeq1.sub_tuple_list
  have f5:=AutoSeq1.sub_list_tuple
  have wz:(items++dX).size<=sizeLine+1:=by exact Y Array.size_append<|gu
  rcases hT with rfl|rfl<;>(wp_walk using(Dv hl rfl (hz:=qI) (_hz':=wz)),hV hl,hV V;exact⟨_,rfl,h⟩)
theorem aq.ext(hx:cx.Γ.lookup x=some i)(hk:cx.var x=true)(h:ab W cx a e)(k:aq W cx rest S)
 (hp:qq (.Name x p) "extend" apos ic [a]:=by intro _;exact⟨_,rfl⟩) (hn:eW a=true:=by rfl) (hd:(x==("__debug__" :Str))=false:=by decide+kernel) (hc:(x==("__classdict__" :Str))=false:=by decide+kernel):
 aq W cx (.Expr (.Call (.Attribute (.Name x p) "extend" apos) [a] [] ic) pos::rest) (.ext i e S):=λκ fr A aZ bS s g σ env ρ out rm st eo fm hL he=>by
 refine aP he λds hi he=>?_
 have hi:=u6 hi
 refine aP he λKx H he=>?_;obtain⟨r,ae⟩:=Kx
 refine aP he λys O h3=>aP h3 λd h3 h4=>xa (qp h3) λalW hl=>?_;clear he h3;subst alW
 refine H5 Zq PySem.F.type_list_extend h hp hn hd hc hx hk hi rm st.inv eo (rd H) λu an aX bN q=>?_
 have dC:=eo.step bN
 refine jg (mV dC hx hk hi rfl) λnP zz BA ry zz=>xe BA λn₁ jz=>?_
 have inv:∃T b o us m,(T="list"\/T="tuple")/\u= .ref b/\aX.get? b=some o/\o.cls= .type T/\o.data= .seq us m/\aT aX us.toList ys:=by
  refine ar q λy e q=>?_
  clear H h4;injection e with vI alX;subst vI
  refine a9 (Ix O) (λe=>?_) (λe=>?_)
  .clear O;subst e
   exact x6 (Is.s7 q) λb o us m e=>I3 _ b o us m (.inl rfl) e
  .clear O;subst e
   exact x6 (Is.kH q) λb o us m e=>I3 _ b o us m (.inr rfl) e
 refine oI inv λT b alY us m zz=>ES zz λhT alZ z1 al0 aiH z4=>?_;clear inv;clear q;obtain⟨cls,dd,data,sl⟩:=alY;subst alZ al0;subst aiH
 have e1:=ry.length
 have e2:=z4.length
 simp only[eV] at e1 e2
 rw[cS] at hl
 have bF:nP.size+us.size<=lim:=by exact Y e1<|Y e2<|hl
 have V:=bN.inv.sub _ _ z1
 have l1:=fG bF
 refine qX Zq (ai _ jz rfl) PySem.F.entry_list_extend (PySem.F.args_list_extend_2 _ _) (abu T hT (κ.f i) nP n₁ b us m dd sl ?_ (aB (kx _ _) l1) (aat l1)) (bO jz V ?_)
 .have:N7 (nP.size+us.size)=false:=by
   unfold N7
   simp;exact l1
  refine Y this ?_;simp
 exact I9 k hx hk hi rm (st.trans bN) dC (fm.step bN) hL rfl jz (λx=>x++us) (Y Array.toList_append<|ry.append z4) (Y cS<|hl) h4
theorem aq.app(hx:cx.Γ.lookup x=some i)(hk:cx.var x=true)(h:ab W cx a e)(k:aq W cx rest S)
 (hp:qq (.Name x p) "append" apos ic [a]:=by intro _;exact⟨_,rfl⟩) (hn:eW a=true:=by rfl) (hd:(x==("__debug__" :Str))=false:=by decide+kernel) (hc:(x==("__classdict__" :Str))=false:=by decide+kernel):
 aq W cx (.Expr (.Call (.Attribute (.Name x p) "append" apos) [a] [] ic) pos::rest) (.app i e S):=λκ fr A aZ bS s g σ env ρ out rm st eo fm hL he=>by
 refine aP he λds hi he=>?_
 have hi:=u6 hi
 .refine aP he λBy H O=>?_;obtain⟨r,ae⟩:=By
  refine aP O λd h3 h4=>xa (qp h3) λal1 hl=>?_;clear h3;subst al1
  refine H5 Zr PySem.F.type_list_append h hp hn hd hc hx hk hi rm st.inv eo (rd H) λu an aX bN f6_=>ar f6_ λy e q=>?_
  injection e with al2 ar8;subst al2
  have dC:=eo.step bN
  refine jg (mV dC hx hk hi rfl) λnP zz al3 ry zz=>xe al3 λn₁ jz=>?_
  have e1:=ry.length
  simp only[eV] at e1
  have hs:nP.size<=sizeLine:=fG (by refine Y e1 ?_;rw[cS] at hl;exact aB (kx _ _) hl)
  exact qX Zr (ai _ jz rfl) PySem.F.entry_list_append (PySem.F.args_list_append_2 _ _) (AutoListH.list_append_list_val_0 (κ.f i) nP n₁ u hs) ⟨jz,
   I9 k hx hk hi rm (st.trans bN) dC (fm.step bN) hL rfl jz (λx=>x.push u) (Y G0<|ry.append (.one q)) hl h4⟩
theorem abw(l:az)(items:Array ao)(n:Nat)(u:ao)(e:Nat->Bool)(hl:s.heap.get? l=some {cls:= .type "list",dict:=none,data:= .seq items n,slots:= #[]})(j:Nat)(hj:j<items.size)(ul:items.size<=sizeLine)
 (he:∀m (hm:m<items.size) (E:VS) (Q:Bool->aJ->Prop),Q (e m) s->wpAny (model prog w) A.in1 (eqBool items[m] u) Q E s) (hit:e j=true) (q:R (.ok (.ret .none)) {s with heap:=s.heap.update l (f9 λxs=>xs.eraseIdxIfInBounds j)}) (k:Nat):
 ∀i:Nat,j - i=k->i<=j->(∀m,i<=m->m<j->e m=false)->wpAny (model prog w) A.in1 (hY.«list.remove.loop» ⟨[.ref l,u,rawInt i],[]⟩) (λfin s'=>match fin with| .done f=>R (.ok f) s'| .again c'=>c'.quiet=true/\codeAny (model prog w) A c' R s') (λe s'=>R (.error e) s') s:=by
 induction k with
 |zero=>
  intro i hk dh dU
  clear dU;obtain rfl:i=j:=by exact bR dh (Mh (aA hk) (bj _ _))
  wp_walk using hV hl
  have hi:items[((i:Nat):Int).toNat]? =some items[i]:=by simp[hj]
  refine Y hi<|am (he _ hj _ _ ?_)
  refine Y hit ?_
  have wz:(items.eraseIdxIfInBounds i).size<=sizeLine+1:=aB (MeetsSeq.size_erased items _) (aat ul)
  wp_walk using(Dv hl rfl (hz:=ul) (_hz':=wz)),hV hl
  exact q
 |succ k ih=>
  intro i hk dh dU
  have a5:i<items.size:=by exact FG dh hj
  wp_walk using hV hl
  have hi:items[((i:Nat):Int).toNat]? =some items[i]:=by simp[a5]
  have hc:((i:Int)+1)=((i+1:Nat):Int):=by push_cast;rfl
  refine Y hi<|am (he _ a5 _ _ ?_)
  rw[dU i (a8 _) (yk (aA hk.symm) (aU dh))]
  wp_walk
  exact Y hc<|⟨nB GF _,lV Zj (by
   exact Y (mF GF _)<|ih (i+1) (bR (FH (aA hk) (bj _ _) (aU (yk (aA hk.symm) (aU dh)))) (Mi (aA hk.symm) (bj _ _) (aU dh))) (yk (aA hk.symm) (aU dh)) λm H O=>dU m (qH H) O)⟩
theorem aq.rem(hx:cx.Γ.lookup x=some i)(hk:cx.var x=true)(h:ab W cx a e)(k:aq W cx rest S)
 (hp:qq (.Name x p) "remove" apos ic [a]:=by intro _;exact⟨_,rfl⟩) (hn:eW a=true:=by rfl) (hd:(x==("__debug__" :Str))=false:=by decide+kernel) (hc:(x==("__classdict__" :Str))=false:=by decide+kernel):
 aq W cx (.Expr (.Call (.Attribute (.Name x p) "remove" apos) [a] [] ic) pos::rest) (.rem i e S):=λκ fr A aZ bS s g σ env ρ out rm st eo fm hL he=>by
 refine aP he λds hi he=>?_
 have hi:=u6 hi
 .refine aP he λBb H O=>?_;obtain⟨d,ae⟩:=Bb
  refine xa (jZ O) λbX O=>?_
  .simp only[cm] at bX
   refine xa bX λLf aoQ=>xa Lf λaoR aoS=>H5 Zs PySem.F.type_list_remove h hp hn hd hc hx hk hi rm st.inv eo (rd H) λu an aX bN aoT=>ar aoT λy ey q=>?_
   injection ey with Cd ass;subst Cd
   have dC:=eo.step bN
   refine Ea (mV dC hx hk hi rfl) λnP zz V6 ry zz zz zz hl=>xe V6 λn₁ jz=>?_
   have e1:=ry.length
   simp only[eV] at e1
   have bF:nP.size<=sizeLine:=fG (Y e1<|hl)
   refine xe (show ∃j,ds.findIdx? (λy=>cA y d)=some j from by
    cases z:ds.findIdx? (λy=>cA y d) with
    |some j=>exact⟨j,rfl⟩
    |none=>
     rw[Zl] at z
     refine ar (uC.mp aoQ) λy hy e=>?_
     rw[z y hy] at e;exact aQ e) λj hj=>?_
   have hjj:=Y8.mp hj
   refine ar hjj λNp hit dU=>xe (Is.heap bN.inv (v:=u) q) λbs ru=>?_
   have ch:=DI aoS
   have ci:=TR ch.1
   have rmu:=rm.units
   have hE:∀m (hm:m<nP.size) (E:VS) (Q:Bool->aJ->Prop),Q (cA (ds.getD m .none) d) an->wpAny (model W.G.prog W.G.w) A.in1 (eqBool nP[m] u) Q E an:=λm hm E Q hq=>by
    have su:m<ds.length:=by exact yl hm (aA e1)
    refine ar (ry.get (k:=m) (d:=ds[m]) (by simp[su])) λv ev iv=>xe (Is.heap bN.inv iv) λas ra=>?_
    have:v=nP[m]:=by simpa [hm] using ev.symm
    clear iv;subst this
    rw[uu,y' su] at hq
    have dd:=(ci _ (kz su)).2
    refine SeqAt.eqBoolOverData W.G.prog W.G.w A.in1 E an _ _ _ _ _ _ _ ra ru (ci _ (kz su)).1 (za aoR) ?_ hq
    have:=nA ds[m].depth d.depth
    exact pg [(B,v1),(v1,v2),(J (J (J v3 (.mulL 16 v4)) (.num 400)) k1,v5),(v2,(.num 63))] (J (J (J v3 k1) B) k1,v5) (by kernel_rfl) this dd rmu ch.2
   refine Py Zs (ai _ jz rfl) PySem.F.entry_list_remove (PySem.F.args_list_remove_2 _ _) (S:=λA' R s'=>A'=A/\s'=an/\R (.ok (.ret .none)) {an with heap:=an.heap.update (κ.f i) (f9 λxs=>xs.eraseIdxIfInBounds j)}) ?_ (bO rfl rfl ?_)
   .intro A' R s' V7;refine cj V7 λal4 Lm hq=>?_;clear dC V6 V7;subst al4;clear ru;clear bN;subst Lm
    wp_walk using hV jz
    exact⟨nB GF _,lV Zj (by
     exact Y (mF GF _)<|abw (κ.f i) nP n₁ u (λm=>cA (ds.getD m .none) d) jz j (yl Np (aA e1.symm)) bF hE (by simpa [uu,Np] using hit) hq _ 0 rfl (dn _) λm zz hm=>by
      have:=dU m hm
      have su:m<ds.length:=by exact vR hm Np
      simpa [uu,su] using this)⟩
   .have e2:ds.eraseP (λy=>cA y d)=ds.eraseIdx j:=by exact Y List.eraseP_eq_eraseIdx<|Y hj rfl
    rw[e2] at O
    refine I9 (tk:=an.toks) k hx hk hi rm (st.trans bN) dC (fm.step bN) hL rfl jz (λxs=>xs.eraseIdxIfInBounds j) ?_ (aB (List.length_eraseIdx_le ds j) hl) O
    exact Y Y'<|ry.eraseIdx j
theorem aq.pop(hx:cx.Γ.lookup x=some i)(hk:cx.var x=true)(ha:oW cx y j)(k:aq W cx rest S)
 (hp:qq (.Name x p) "pop" apos ic []:=by intro _;exact⟨_,rfl⟩) (hd:(x==("__debug__" :Str))=false:=by decide+kernel) (hc:(x==("__classdict__" :Str))=false:=by decide+kernel):
 aq W cx (.Assign [.Name y q] (.Call (.Attribute (.Name x p) "pop" apos) [] [] ic) pos::rest) (.pop i j S):=λκ fr A aZ bS s g σ env ρ out rm st eo fm hL he=>by
 refine aP he λds hi he=>?_
 have hi:=u6 hi
 .refine aP he λd H O=>cj ha λa1 a2 a3=>xe (hp env) λpl ct=>Ea (mV eo hx hk hi rfl) λvs zz al5 hI zz zz zz hl=>xe al5 λn jz=>?_
  have e1:=hI.length
  simp only[eV] at e1
  have bF:vs.size<=sizeLine:=fG (Y e1<|hl)
  have wA:ds[ds.length - 1]? =some d:=by refine sl List.getLast?_eq_getElem? ?_;exact H
  refine ar (hI.get wA) λv ev iv=>?_
  have ev':vs[vs.size - 1]? =some v:=by refine Y e1 ?_;simpa using ev
  refine jT (wJ (zy (pl:=pl) (zT st.inv eo hx hk hi rfl hd hc ?_) ct) rfl rfl)
  refine aas ZN PySem.F.type_list_pop (iY _ jz rfl n rfl) ?_ ?_
  .exact ai _ jz rfl
  refine Zc (qX ZN (ai _ jz rfl) PySem.F.entry_list_pop (PySem.F.args_list_pop_1 _) (MeetsSeq.list_pop_last (κ.f i) vs n v ev' bF) ⟨jz,?_⟩)
  have V':∀b,b≠κ.f i->(s.heap.update (κ.f i) (f9 λxs=>xs.eraseIdxIfInBounds (vs.size - 1))).get? b=s.heap.get? b:=λb V=>On _ _ _ _ V
  refine j3 (tm rfl (mV eo hx hk hi rfl)) λzz zz r1 r2 r3=>?_
  have gG:=eo.turn (b':= .own ds.dropLast) hx hk hi rfl Sub.rfl (λzz e zz=>e) V' (Eb (vs.eraseIdxIfInBounds (vs.size - 1)) rfl (⟨_,wV jz _⟩) (by
   refine Y Y' ?_
   have:=hI.eraseIdx (ds.length - 1)
   rw[List.eraseIdx_length_sub_one] at this
   exact Y e1<|this) r1 r2 r3 (aB (by simp) hl))
  have mv:Moved (·=κ.f i) s {s with heap:=s.heap.update (κ.f i) (f9 λxs=>xs.eraseIdxIfInBounds (vs.size - 1))}:=gq _ s.toks rfl (λb o V e=>(V' b V).trans e)
  have bb:=st.moved mv λb V=>by subst V;exact bO (ou hL r3) r1 r2
  have al6:=(fm.moved mv λb V=> .inl (V▸cG.own hx hi rfl)).swap (κ':=κ) (aE:=ρ.set i (.own ds.dropLast)) λa h=> .inl (cG.turn hi rfl h)
  refine pT (cl:=g6) (b:= .v (.d d)) gG a1 a2 a3 re (λzz zz=>iv) λs' m gQ=>k.next rm (bb.moved m λb V=>?_) gQ (al6.asg m rfl) hL rfl O rfl
  have w:=Wr.safe (s:={s with heap:=s.heap.update (κ.f i) (f9 λxs=>xs.eraseIdxIfInBounds (vs.size - 1))}) gG b V
  exact bO (ou hL (Wr.n9 gG V)) w.1 w.2
theorem Inv.tR(i:Inv W.G g σ s)(hd:s.heap.DictOf (strKind W.G.prog W.G.w) W.G.c kvs)(e:kvs.map (·.1)=σ.map (·.1))(hi:aT g (kvs.map (·.2)) (σ.map (·.2)))(hl:kvs.length<=100)(h0:σ.lookup key=some d0)(hv:Is g v d)
 (dw:h'.DictOf (strKind W.G.prog W.G.w) W.G.c (stored kvs key v)) (hs:jV W.G.c s.heap h'):aS W.G s g (σ.map λp=>if p.1=key then(key,d) else p) {s with heap:=h',toks:=tk} g:=by
 refine ar (pairs_at e hi h0) λw hw zz=>?_
 have vX:kvs.any (λkv=>kv.1=key)=true:=by
  exact iK hw λp hp zz=>uC.mpr (ai p (Zm hp) (O0 (p:=λkv:Str×ao=>decide (kv.1=key)) hp))
 refine⟨⟨rfl,rfl⟩,λb o V e=>(hs.2 b V).trans e,Sub.rfl,λb o e=> .inl e,i.base,λb o e=>(hs.2 b λz=>by rw[z,i.gc] at e;exact aC e).trans (i.sub b o e),i.gc,?_,i.tab⟩
 have:stored kvs key v=kvs.map (λkv=>if kv.1=key then(kv.1,v) else kv):=by unfold stored;exact Y (if_pos vX) rfl
 rw[this] at dw
 exact xa (QU e hi hv) λz1 z2=>nL _ dw z1 z2 (Y (aw _)<|hl)
theorem aq.tR(hx:cx.Γ.lookup x=some i)(hk:cx.var x=true)(h:ab W cx v e)(k:aq W cx rest S)
 (hs:∀env,swapsWith v (some (.Subscript (.Name x p) (.Constant (.str key) kp aoU) sp)) pos.line env=pure false:=by intro _;rfl) (hd:(x==("__debug__" :Str))=false:=by decide+kernel) (hc:(x==("__classdict__" :Str))=false:=by decide+kernel):
 aq W cx (.Assign [.Subscript (.Name x p) (.Constant (.str key) kp aoU) sp] v pos::rest) (.tR i key e S):=λκ fr A aZ bS s g σ env ρ out rm st eo fm hL he=>by
 refine aP he λzz hi he=>?_
 have hi:=adJ hi
 refine aP he λBa H O=>?_;obtain⟨r,ae⟩:=Ba
 refine aP O λd0 h0 O=>jT (Of ((h.ba rm st.inv eo H).use λu an aX bN q=>?_) (hs env))
 have dC:=eo.step bN
 refine Iy bN.inv dC hk hx hi (by simp) hd hc λw hw=>?_
 obtain rfl:w= .ref W.G.c:=hw
 refine GX<|jg bN.inv.shr λkvs hd e hN hl=>Z6 (mM W.G.prog W.G.w key _) hd (λh' dw mA=>?_) (aB hl (by decide))
 have bb:=Inv.tR (tk:=an.toks+1+1) bN.inv hd e hN hl h0 q dw mA
 exact k.next rm (st.trans (bN.trans bb)) (dC.step bb) ((fm.step bN).step bb) hL rfl O rfl
end
section
variable{W:Wd}{A:bV}{cx:Cx}{κ:cF}{env:Env}{ρ aE:List aK}{s aZ an:aJ}{g bS:aG}{σ av:Sg}{target:Expr}{t:iM}{i j:Nat}{x y:Str}{S as6:bh.S}{rest:List lI}
theorem aS.rebase(st:aS G aZ bS σ s g):aS G aZ g σ s g:=⟨st.same,st.keep,Sub.rfl,λzz zz e=> .inl e,st.inv⟩
theorem aS.over(st:aS G aZ bS σ s g)(cz:aS G aZ g av s' g'):aS G aZ bS av s' g':=
 ⟨cz.same,cz.keep,st.grow.trans cz.grow,λb o e=>(cz.fresh b o e).elim (st.fresh b o) .inr,cz.inv⟩
theorem adW{x:ah}(V:cg t x ρ=some aE)(ow:dY w=true)(h:aE[j]? =some w):ρ[j]? =some w:=by
 cases t with
 |one i=>
  injection V with al7;subst al7
  rcases dP h with⟨_,rfl⟩|⟨_,h⟩
  .exact aQ ow
  .exact h
 |two i k=>
  refine cP (DZ V) λa b Ln A1=>?_;clear V;subst Ln A1
  rcases dP h with⟨_,rfl⟩|⟨_,h⟩
  .exact aQ ow
  .rcases dP h with⟨_,rfl⟩|⟨_,h⟩
   .exact aQ ow
   .exact h
theorem cG.cg{x:ah}(V:cg t x ρ=some aE)(h:cG cx κ env aE a):cG cx κ env ρ a:=by
 rcases h with h|h|⟨y,j,w,nm,z,ow,e⟩
 .exact .inl h
 .exact .inr (.inl h)
 .exact .inr (.inr (jX y j w nm (adW V ow z) ow e))
def Xh(W:Wd)(cx:Cx)(κ:cF)(fr:az->Option Obj)(aZ:aJ)(bS aN:aG)(env:Env)(xs:List ah)(wr:List az)(St:Nat->aG->Prop)(f:ah->List aK->Sg->Option g9)(o:g9)(n:Nat)(s':aJ):Prop:=
 ∃i mB qP gi,∃lN:cF,i<=xs.length/\n=xs.length - i/\aS W.G aZ bS qP s' gi/\Sub aN gi/\lN.L=κ.L/\a7 W.G cx lN gi s'.heap env mB/\Fm W.G cx (λb=>if b∈wr then s'.heap.get? b else fr b) lN env mB gi s'.heap/\St i s'.heap/\gh f (xs.drop i) mB qP=some o
theorem aq.ed(hI:bz W cx target (l7 t) iter it)(ht:jy g6 cx target t)(V:aq W cx body as6)(k:aq W cx rest S)(la:pX iter)(hv:∀x i,cx.Γ.lookup x=some i->cx.var x=true):
 aq W cx (.For target iter body [] pos::rest) (.ed t it as6 S):=λκ fr A aZ bS s g σ env ρ out rm st eo fm hL he=>by
 have hh:=rm.handled
 refine gO he λxs ae H O=>aP O λo h3 h4=>jT (wpAny_For (cn (hI A s g σ env ρ xs ae hh rm st.inv eo H) (λx an hw=>cn hw (λYe aD Xi=>bZ Xi λaN I ei bb K=>?_) λzz zz f=>f) λzz zz f=>f) (λx=>la env x))
 clear he O Xi;subst ei
 refine oI K.ex λfp wr P Md St zz=>nG zz λkt dF Li pw pz mY vF=>?_
 have gG:=eo.step bb
 have gone:∀b,b∈wr->fr b=none:=λb V=>fm.dead (pw b V).1
 have start:Xh W cx κ fr aZ bS aN env xs wr St (λx ρ σ=>(cg t x ρ).bind λaE=>aR W.aW W.R as6 aE σ) o xs.length aD:=by
  refine uZ 0 ρ ae aN κ (QM (dn _) rfl (st.trans bb) Sub.rfl rfl gG (λb ob e=>?_) dF h3)
  dsimp only at e
  split at e
  .rename_i V
   refine cj (pw b V) λz1 z2 zz=>fb e (λz=>?_) z2 (λz=>?_)
   .refine xe (oM st.inv) λoc hc=>?_
    rw[<- z,z1] at hc;exact aC hc
   .refine xe (eo.live (λx i w z zz zz=>hv x i z) z) λob e=>?_
    rw[z1] at e;exact aC e
  .exact(fm.step bb) b ob e
 refine codeAny_forLoop_any (I:=Xh W cx κ fr aZ bS aN env xs wr St (λx ρ σ=>(cg t x ρ).bind λaE=>aR W.aW W.R as6 aE σ) o) (λn s' hi=>?_) _ start
 refine oI hi λi mB qP gi lN zz=>QL zz λhle al8 yK sub um eoi CE yL cH=>?_;clear start hi;clear h3;subst al8
 have fin:∀s',nO W cx κ fr aZ bS env o .next s'->(match RT with
  |RT=>wpAny (model W.G.prog W.G.w) A (execs rest env) (nO W cx κ fr aZ bS env out) (λzz zz=>False) s'
  |f=>nO W cx κ fr aZ bS env out f s'):=λs' q=>by
  refine xe q λg' q=>?_
  clear cH;cases o with
  |next aE av=>
   exact ET q λzz cz κ' e gQ pA=>k.next rm cz gQ pA hL e h4 rfl
  |ret v av=>
   exact ar q λr z zz=>PySem.Flow.noConfusion z
 have AA:∀b,b∈wr->b≠W.G.c/\gi.get? b=none/\¬cG cx lN env mB b:=λb V=>by
  refine xe (vF i _ yL b V) λob e=>?_
  have:=CE b ob ((if_pos V).trans e)
  exact this.2
 have sfr:∀b,b∈wr->aZ.heap.get? b=none:=λb V=>by
  cases e:aZ.heap.get? b with
  |none=>rfl
  |some ob=>
   have:=st.keep b ob (AA b V).1 e
   rw[(pw b V).1] at this;exact aC this
 have UX:∀(dz:aJ),Moved (·∈wr) s' dz->aS W.G aZ bS qP dz gi/\a7 W.G cx lN gi dz.heap env mB/\Fm W.G cx (λb=>if b∈wr then dz.heap.get? b else fr b) lN env mB gi dz.heap:=λdz mv=>by
  refine bO (yK.moved mv λb V=>(bO (sfr b V) ((AA b V).2.1) ((AA b V).1))) (eoi.moved mv λb V hw=>(AA b hw).2.2 V) (λb ob e=>?_)
  dsimp only at e
  split at e
  .rename_i V
   exact⟨e,AA b V⟩
  .rename_i V
   refine xa (CE b ob ((if_neg V).trans e)) λz1 z2=>cP mv λh' tk al9 kp=>?_;clear mv;subst al9
   exact⟨kp b ob V z1,z2⟩
 by_cases a5:i<xs.length
 .refine kt.item i s' _ _ a5 yL λv h' tk hMd hk=>kt.go i v {s' with heap:=h',toks:=tk} _ _ hMd λf6 hP Xj jH=>?_
  have mv:Moved (·∈wr) s' {s' with heap:=f6,toks:=tk}:=gq f6 tk rfl (λb ob V e=>jH b ob V (hk b ob V e))
  refine cj (UX _ mv) λCG CH CJ=>ar (Li i v f6 hP) λx hx hd=>?_
  have yb:xs.drop i=x::xs.drop (i+1):=by
   refine xe (GH.mp hx) λzz e=>?_
   exact sl e<|C8 a5
  rw[yb] at cH
  refine aP cH λr h5 h6=>aP h5 λaE h7 h8=>Sf hh ht CG.inv CH (hd.mono sub) h7 λjC F2 ip=>?_
  have sf:∀b,Wr g6 cx env b->aZ.heap.get? b=none/\gi.get? b=none/\b≠W.G.c:=λb V=>by
   have w:=Wr.safe CH b V
   exact bO (ou hL (um▸Wr.n9 CH V)) w.1 w.2
  have eZ:=CG.moved F2 sf
  have UY:∀b,b∈wr->∀ob,f6.get? b=some ob->jC.heap.get? b=some ob:=λb V ob e=>by
   refine cP F2 λh3 tk3 ama kp=>?_;clear ip eZ;clear F2;subst ama
   refine kp b ob (λz=>?_) e
   have:=CJ b ob ((if_pos V).trans e)
   exact this.2.2.2 (Wr.at z)
  have Ll:Fm W.G cx (λb=>if b∈wr then jC.heap.get? b else fr b) lN env aE gi jC.heap:=by
   intro b ob e
   have:f6.get? b=some ob/\b≠W.G.c/\gi.get? b=none/\¬cG cx lN env mB b:=by
    dsimp only at e
    split at e
    .rename_i V
     refine xe (vF _ _ Xj b V) λo2 e2=>?_
     have e3:=UY b V o2 e2
     rw[e] at e3;injection e3 with K9;subst K9
     exact CJ b ob ((if_pos V).trans e2)
    .rename_i V
     exact CJ b ob ((if_neg V).trans e)
   refine fU this λz1 z2 z3 z4=>cP F2 λh3 tk3 amb kp=>?_;clear ip eZ;subst amb
   exact fb (kp b ob (λz=>z4 (Wr.at z)) z1) z2 z3 (λz=>z4 (cG.cg h7 z))
  have UZ:St (i+1) jC.heap:=kt.frame _ _ _ Xj λb V ob e=>by
   rcases pz b V with V|⟨o2,fy⟩
   .exact UY b V ob e
   .have e2:=eZ.inv.sub _ _ (sub _ _ fy)
    have e3:=CG.inv.sub _ _ (sub _ _ fy)
    rw[show f6.get? b=some o2 from e3] at e;injection e with Lo;subst Lo
    exact e2
  refine cn (V A aZ gi jC gi qP env aE r rm eZ.rebase ip Ll (um▸hL) h8) (λfl gK q=>?_) λzz zz f=>f.elim
  refine xe q λqE q=>?_
  clear fin h5 h8;cases r with
  |ret v av=>
   obtain⟨r,rfl,cz,q⟩:=q
   rw[dj] at h6
   subst h6
   rw[dj] at h4
   subst h4
   exact⟨qE,r,rfl,eZ.over cz,q⟩
  |next j8 nV=>
   refine ET q λaoV cz κ' e gQ pA=>?_;clear q;subst aoV
   refine xq (xs.length - (i+1)) (bM [(B,J v1 v2),(J v3 (J v2 k1),B)] (J v3 k1,v1) rfl (bj _ _) (aU a5)) (i+1) j8 nV qE κ' (QM a5 rfl (eZ.over cz) (sub.trans cz.grow) (e.trans um) gQ ?_ ?_ h6)
   .intro b ob z
    dsimp only at z
    split at z
    .rename_i V
     refine xe (vF _ _ UZ b V) λo2 e2=>?_
     have:=pA b o2 ((if_pos V).trans e2)
     rw[this.1] at z;injection z with amc;subst amc
     exact this
    .rename_i V
     exact pA b ob ((if_neg V).trans z)
   .refine kt.frame _ _ _ UZ λb V ob e=>?_
    rcases pz b V with V|⟨o2,fy⟩
    .exact(pA b ob ((if_pos V).trans e)).1
    .have e2:=eZ.inv.sub _ _ (sub _ _ fy)
     rw[e2] at e;injection e with vE;subst vE
     exact cz.inv.sub _ _ (cz.grow _ _ (sub _ _ fy))
 .have hi:i=xs.length:=by exact bR hle ((kw a5))
  subst hi
  refine kt.done s' _ _ yL λh' tk hk=>?_
  have mv:Moved (·∈wr) s' {s' with heap:=h',toks:=tk}:=gq h' tk rfl hk
  refine cj (UX _ mv) λCG CH CJ=>OZ (fin _ ?_)
  rw[wS] at cH
  have cH:=gS cH
  clear fin;clear h4;subst cH
  refine Tq gi rfl CG lN um CH (λb ob e=>?_)
  have V:b ∉ wr:=λz=>by rw[gone b z] at e;exact aC e
  exact CJ b ob ((if_neg V).trans e)
theorem aq.bad:aq W cx stmts .bad:=λκ fr A aZ bS s g σ env ρ out rm st eo fm hL he=>aC he
theorem aq.yp(hW:W.Ok)(ha:oW cx x i)(hk:cx.kindOf y=some .globalImplicit)(hg:nsIn W.G.K mainGlobals y=some none)(V:bootBuiltins y=some (.type "list"))(h:ab W cx a e)(k:aq W cx rest S)
 (hn:y≠"__name__" :=by decide+kernel) (hd:(y==("__debug__" :Str))=false:=by decide+kernel) (hs:eW a=true:=by rfl):
 aq W cx (.Assign [.Name x p] (.Call (.Name y q) [a] [] cp) pos::rest) (.yp i e S):=λκ fr A aZ bS s g σ env ρ out rm st eo fm hL he=>by
 refine aP he λBe H O=>?_;obtain⟨d,ae⟩:=Be
 refine aP O λxs e0 O=>?_
 obtain rfl:=tc e0
 .refine aP O λd h3 h4=>?_
  split at h4
  .exact aC h4
  rename_i dU
  refine xa (qp h3) λLc hl=>?_;clear h3;subst Lc
  refine jT (wJ (kA (lw hW st.inv eo hk hg V hn hd (mE ?_ (cu hs) iV))) rfl rfl)
  refine f8 ?_ (cu hs)
  refine(h.ba rm st.inv eo H).use λu an aX bN q=>iU<|bZ (q.qo bN.inv) λa vs amd KS r=>?_;clear q;subst amd;refine mX KS λo ho hc n hd=>?_
  have yM:=r.length
  simp only[eV] at yM
  refine call_list_seq a (.inr rfl) ho hc hd (λh' c' hk hD=>?_) (fG (by refine Y yM ?_;exact hl))
  exact IF k ha rfl dU rm (st.trans bN) (eo.step bN) (fm.step bN) hL rfl fq (a8 _) (aS.il (G:=W.G) (tk:=an.toks) bN.inv hk)
   (λκ' f6 e1 e2 e3 e4 e5 e6=>Ew (ds:=xs) ⟨_,hD⟩ r hl e1 e2 e3 e4 e5 e6) h4
open Classical in
theorem aiI{n:Nat}(rm:dK A n){G:eI}:(E0 G.prog G.w).room A.in1:=by
 have:=rm.units;exact aO [(J (J (J B (.mulL 16 v1)) (.num 400)) k1,v2)] (J (J (J B k1) (.num 20)) k1,v2) (by kernel_rfl) this
open Classical in
theorem PF{xs:List (ah×az×ao)}{k:ah}{a:az}{v:ao}:∀z∈storedH xs k a v,(z.1=k/\z.2.1=a)\/∃z'∈xs,z.1=z'.1/\z.2.1=z'.2.1:=by
 intro z hz
 unfold storedH at hz
 split at hz
 .refine cr hz λz' h vJ=>?_;subst vJ
  refine .inr (ai z' h ?_)
  unfold putAt
  split<;>exact⟨rfl,rfl⟩
 .refine a9 (ln.mp hz) (λh=>?_) (λh=>?_)
  .exact .inr (bQ z h rfl rfl)
  .exact Y (bY.mp h)<| .inl ⟨rfl,rfl⟩
open Classical in
theorem aq.m0(hx:cx.Γ.lookup x=some i)(hk:cx.var x=true)(h:ab W cx v e)(wn:ab W cx ke ek)(k:aq W cx rest S)
 (hs:∀env,swapsWith v (some (.Subscript (.Name x p) ke sp)) pos.line env=pure false:=by intro _;rfl) (hd:(x==("__debug__" :Str))=false:=by decide+kernel) (hc:(x==("__classdict__" :Str))=false:=by decide+kernel):
 aq W cx (.Assign [.Subscript (.Name x p) ke sp] v pos::rest) (.m0 i ek e S):=λκ fr A aZ bS s g σ env ρ out rm st eo fm hL he=>by
 refine aP he λkvs hi he=>?_
 have hi:=TD hi
 .refine aP he λyc H O=>?_;obtain⟨d,ae⟩:=yc
  refine aP O λKq h3 h4=>?_;obtain⟨dk,aF⟩:=Kq
  refine xa (jZ h4) λbX h4=>?_
  .simp only[cm,decide_eq_true_eq] at bX
   refine xa bX λbX br=>jT (Of ((h.ba rm st.inv eo H).use λu an aX bN q=>?_) (hs env))
   have dC:=eo.step bN
   refine zT bN.inv dC hx hk hi rfl hd hc<|(wn.ba rm bN.inv dC h3).use λuk aD aN bb eS=>?_
   have gG:=dC.step bb
   refine j3 (mV gG hx hk hi rfl) λzz hK r1 r2 r3=>I0 (hK.X4 bb.inv.sub) λxs hdo sn e1 e2 e3 hl=>ar (JD bX Sub.rfl eS) λb Lm V=>?_;subst Lm
   refine wpAny_setItem_heap (aiI rm) (V.mono bb.inv.sub) hdo (λh' hm mA=>?_) (by
    have:=congrArg pR e1
    rw[aw,aw] at this
    exact Y this<|fG hl)
   refine fU (TP e1 e3 e2 (λz hz=>(sn z hz).1) bX (q.mono bb.grow) eS) λp1 p2 p3 p4=>pU (r7.parts hm) λo es ep ho z1 z2 z3 zz z5=>Sm (b':= .cI (ml kvs dk d)) k hx hk hi rfl rm (st.trans (bN.trans bb)) gG ((fm.step bN).step bb) hL rfl (λa ha=>mA.2 a ha) (md rfl ((Av _ ((sU o es ep ho z1 z2 z3 (λz hz=>?_) z5)) p1 p3 p2 ?_)) r1 r2 r3) h4
   .rcases PF z hz with⟨f1,f2⟩|⟨z',f0,f1,f2⟩
    .exact Y f1<|Y f2<|V
    .exact Y f1<|Y f2<|sn z' f0
   .have:lim=1000000:=rfl
    exact aO [((.num 1000000),B),(v1,J v2 k1),(v2,(.num 1000))] (v1,B) (by kernel_rfl) (aA this.symm) p4 br
def WhI(W:Wd)(cx:Cx)(κ:cF)(fr:az->Option Obj)(aZ:aJ)(bS:aG)(env:Env)(f:List aK->Sg->Option g9)(i:Nat)(o:g9)(n:Nat)(s':aJ):Prop:=
 ∃mB qP gi,∃lN:cF,aS W.G aZ bS qP s' gi/\lN.L=κ.L/\a7 W.G cx lN gi s'.heap env mB/\Fm W.G cx fr lN env mB gi s'.heap/\te f i n mB qP=some o
theorem aq.xR(hx:cx.Γ.lookup x=some i)(hk:cx.var x=true)(V:aq W cx body as6)(k:aq W cx rest S)(hd:(x==("__debug__" :Str))=false:=by decide+kernel)(hc:(x==("__classdict__" :Str))=false:=by decide+kernel):
 aq W cx (.While (.Compare (.Name x p) [.NotEq] [.List [] q] cp) body [] pos::rest) (.xR i as6 S):=λκ fr A aZ bS s g σ env ρ out rm st eo fm hL he=>by
 refine aP he λo h3 h4=>jT (wpAny_While (codeAny_whileLoop (I:=WhI W cx κ fr aZ bS env (λρ σ=>aR W.aW W.R as6 ρ σ) i o) (λn s' hi=>?_) 1000 (zF ρ σ g κ st rfl eo fm h3)))
 refine ja hi λmB qP gi lN yK um eoi CE cH=>?_
 clear he h3 hi;cases n with
 |zero=>exact aC cH
 |succ n=>
  refine aP cH λxs CK cH=>?_
  have CK:=u6 CK
  refine xa (jZ cH) λbX cH=>?_
  .·refine De (zT yK.inv eoi hx hk CK rfl hd hc (DS (spliced_nil ⟨by decide,?_⟩))) (by with_unfolding_all rfl)
    have keep:∀b o,s'.heap.get? b=some o->(s'.heap.push {cls:= .type "list",data:= .seq ([]:List ao).toArray}).get? b=some o:=λb o e=>bT _ e
    have bN:=aS.il (G:=W.G) (tk:=s'.toks) yK.inv keep
    have dC:=eoi.step bN
    refine jg (mV dC hx hk CK rfl) λvs zz KN hI zz=>xe KN λm hp=>xe (Is.list hp rfl rfl (hI.mono bN.inv.sub)) λzz r1=>xe (Is.list (g:=s'.heap.push {cls:= .type "list",data:= .seq ([]:List ao).toArray}) (cJ _ rfl) rfl rfl aT.nil) λzz r2=>?_
    refine ne_dataH r1 r2 bX (by decide) (by have:=rm.units;exact Mj this) (wQ ?_)
    clear CK bX hI r1;cases xs with
    |nil=>
     rw[List.isEmpty_nil,if_pos rfl,dj] at cH
     subst cH
     exact OZ (k.next rm (yK.trans bN) dC (CE.step bN) hL um h4 rfl)
    |cons z zs=>
     refine aP cH λr h5 h6=>cn (V A aZ bS _ gi qP env mB r rm (yK.trans bN) dC (CE.step bN) (um▸hL) h5) (λfl gK q=>?_) λzz zz f=>f.elim
     refine xe q λqE q=>?_
     clear cH h5;cases r with
     |ret v av=>
      obtain⟨r,rfl,cz,q⟩:=q
      rw[dj] at h6
      subst h6
      rw[dj] at h4
      subst h4
      exact⟨qE,r,rfl,cz,q⟩
     |next j8 nV=>
      refine ET q λrr cz κ' e gQ pA=>?_;clear q;subst rr
      exact agv n (wR n) j8 nV qE κ' (md cz (e.trans um) gQ pA h6)
end
end bh
namespace bh
open PySem PySem.W PyProof.Rows PySem.Calls
open PySem.AutoSeq1 (wpAny_loadPart')
section
set_option maxRecDepth 100000
set_option tactic.hygienic true in
theorem abV(l:az)(items:Array ao)(n:Nat)(CL:Option az)(sl:Array (Option ao)):
 rJ (hY.«enumerate.__new__» ⟨[.type "enumerate", .ref l],[]⟩) (λzz R s=>s.heap.get? l=some {cls:= .type "tuple",dict:=CL,data:= .seq items n,slots:=sl}/\
  R (.ok (.ret (.ref (s.heap.push {cls:= .type "tuple_iterator",data:= .fields #[.ref l, .int 0 0]}).objs.size)))
    {s with heap:=(s.heap.push {cls:= .type "tuple_iterator",data:= .fields #[.ref l, .int 0 0]}).push {cls:= .type "enumerate",data:= .fields #[.none, .bool false, .ref s.heap.objs.size,rawInt 0, .none, .none]}}):=
 .of_wp λprog w A R s h=>by
  obtain⟨hp,g,d,tk,os⟩:=s
  refine xa h λhl h=>?_
  have pa:=sub_enumerate
  have hL:abJ (acv ⟨hp,g,d,tk,os⟩) l items:=iY _ hl rfl n rfl
  wp_walk using hV hl
  refine wpAny_stack_any λst=>aH ?_
  split
  .rename_i c _ _ _ _ _
   cases (c==mL "enumerate")
   .wp_walk using hV hl,wN hL
    exact ai _ rfl h
   .wp_walk using hV hl,wN hL
    exact ai _ rfl h
  .wp_walk using hV hl,wN hL
   exact ai _ rfl h
end
section
variable{prog:eE}{w:dg}{A:bV}{E:VS}{s:aJ}
theorem acQ(hL:s.heap.IsTuple l items)
 (h:∀h',IsEnum h' (s.heap.objs.size+1) s.heap.objs.size 0 .none->h'.IsTupleIter s.heap.objs.size l 0->h'.objs.size=s.heap.objs.size+2->(∀b o,s.heap.get? b=some o->h'.get? b=some o)->Q (.ref (s.heap.objs.size+1)) {s with heap:=h'}):
 wpAny (model prog w) A (call (.type "enumerate") [.ref l]) Q E s:=by
 refine mX hL λBn hl hc n hd=>?_;obtain⟨c,CL,dt,sl⟩:=Bn
 simp only at hc hd
 subst hc hd
 refine callType_new F.called_enumerate (by decide) (F.typeCall_enumerate_1 _) (F.newCall_enumerate_1 _) (λobj=>F.args_object_init_2 obj _) F.entry_enumerate_new (abV l items n CL sl) ⟨hl,?_⟩
 have hz:(s.heap.push {cls:= .type "tuple_iterator",data:= .fields #[.ref l, .int 0 0]}).objs.size=s.heap.objs.size+1:=kF ..
 show _/\_
 refine Y hz ?_
 have he:IsEnum ((s.heap.push {cls:= .type "tuple_iterator",data:= .fields #[.ref l, .int 0 0]}).push {cls:= .type "enumerate",data:= .fields #[.none, .bool false, .ref s.heap.objs.size,rawInt 0, .none, .none]}) (s.heap.objs.size+1) s.heap.objs.size 0 .none:=by
  have:=cJ (s.heap.push {cls:= .type "tuple_iterator",data:= .fields #[.ref l, .int 0 0]}) (o:={cls:= .type "enumerate",data:= .fields #[.none, .bool false, .ref s.heap.objs.size,rawInt 0, .none, .none]}) rfl
  rw[hz] at this;exact this
 exact⟨(ai _ he rfl),h _ he (bQ _ (bT _ (cJ _ rfl)) rfl rfl) (Y (kF _ _)<|Y hz rfl) λb o x=>bT _ (bT _ x)⟩
theorem HH{items}(hit:s.heap.IsTupleIter it t i)(ht:s.heap.IsTuple t items)(hx:items[i]? =some x)
 (hQ:∀h',h'.IsTupleIter it t (i+1)->jV it s.heap h'->Q x {s with heap:=h'}):wpAny (model prog w) A (GI (.ref it)) Q E s:=by
 refine cq (id hit) λo ho hc hd=>mX ht λol yN zz nl i7=>am (uw (name:=bl "__next__") hit.typeIs GG (ny GG hit.typeIs Zg ?_ (Zd _)))
 show wpAny _ _ (field (.ref it) 0>>=_) _ _ s
 refine am (pQ ho hd (x:= .ref t) rfl ?_)
 refine Y (if_neg (show ¬((kI t==ju)=true) from wM))<|am (pQ ho hd (x:= .int i 0) rfl ?_)
 refine am (sI yN i7 ?_)
 simp only[sH,hx]
 refine am (qT ho hd (a8 _) (aH (ai x rfl (aH (hQ _ ?_ (ku ..))))))
 exact bQ _ (wH _ ho (GO (uy hd _))) ((OI ..).trans hc) (by refine Y ((uy hd) _) ?_;simp[rawInt])
theorem next_tuple_end{items}(hh:A.handled=none)(hit:s.heap.IsTupleIter it t i)(ht:s.heap.IsTuple t items)(hx:items[i]? =none)
 (hE:∀h' e,zA it s.heap h'->(∃o,h'.get? e=some o/\o.cls= .type "StopIteration")->E (.ref e) {s with heap:=h'}):wpAny (model prog w) A (GI (.ref it)) Q E s:=by
 refine cq (id hit) λo ho hc hd=>mX ht λol yN zz nl i7=>am (uw (name:=bl "__next__") hit.typeIs GG (ny GG hit.typeIs Zg ?_ (Zd _)))
 show wpAny _ _ (field (.ref it) 0>>=_) _ _ s
 refine am (pQ ho hd (x:= .ref t) rfl ?_)
 refine Y (if_neg (show ¬((kI t==ju)=true) from wM))<|am (pQ ho hd (x:= .int i 0) rfl ?_)
 refine am (sI yN i7 ?_)
 simp only[sH,hx]
 refine am (uI (am (qT ho hd (by simp) ?_)))
 refine am<|am (lh ?_ (by size_fits))
 refine am (m:=firstArgMember _ _) (DM (a:=ju) (by first|rfl|(simp only[firstArgMember];rfl)) ?_)
 refine lh ?_ (by size_fits)
 refine am (Pg ?_)
 first|refine Y (show A.in1.handled=none from hh) ?_|rw[hh]
 refine am (aH (PY ?_))
 exact hE _ _ (((ku ..).extBut.push _).push _) (ai _ (cJ _ rfl) rfl)
theorem abW(hh:A.handled=none)(it l:az)(bB:l≠it)(items:Array ao):Draws prog w A it [it,l] items.size (λi v=>items[i]? =some v) (λi h=>h.IsTupleIter it l i/\h.IsTuple l items) where
 live:=λzz zz st=>let ⟨o,ho,_⟩:=st.1;⟨o,ho⟩
 frame:=λzz zz zz st hk=>⟨st.1.at λo e=>hk it (by simp) o e,by exact ar st.2 λo ho r=>ai o (hk l (by simp) o ho) r⟩
 item:=λi s Q E hi st hQ=>by
  exact HH st.1 st.2 (x:=items[i]) (by simp[hi]) λh' yr hJ=>hQ _ h' s.toks (by simp[hi]) ⟨yr,st.2.extBut hJ.extBut bB⟩ hJ
 done:=λs Q E st hE=>next_tuple_end hh st.1 st.2 (by simp) hE
end
end bh
namespace bh
open PySem PySem.W PyProof.Rows PySem.Calls
theorem zm:∀(k:Nat) (xs:List ah),(oP k xs).length=xs.length
 |_,[]=>rfl
 |k,x::xs=>by rw[zB,bL,bL,zm (k+1) xs]
theorem QZ:∀(k i:Nat) (xs:List ah),(oP k xs)[i]? =xs[i]?.map λx=> .tuple [.int ((k+i:Nat):Int),x]
 |k,i,[]=>by rw[show oP k []=[] from rfl];simp
 |k,0,x::xs=>by rw[zB];simp
 |k,i+1,x::xs=>by
  simp only[zB,N']
  refine Y (QZ (k+1) i xs) ?_
  congr 1
  funext y
  have:k+1+i=k+(i+1):=by exact bR (aM [] (J (J B k1) v1,J B (J v1 k1)) rfl) (aM [] (J B (J v1 k1),J (J B k1) v1) rfl)
  exact Y this rfl
theorem adX(h:fL (some ([.d (.list ys)],σ))=some (xs,av)):xs=ys/\av=σ/\xs.length<=lim:=by
 change (if ys.length<=lim then some (ys,σ) else none)=_ at h
 split at h
 .injection h with BB;injection BB with ag2 ag3;subst ag2 ag3;exact bO rfl rfl (by assumption)
 .exact aC h
section
variable{W:Wd}{A:bV}{cx:Cx}{κ:cF}{s:aJ}{g:aG}{σ av:Sg}{ρ:List aK}
theorem bz.enum(hW:W.Ok)(hk:cx.kindOf "enumerate"=some .globalImplicit)(hg:nsIn W.G.K mainGlobals "enumerate"=some none)(h:ab W cx a e)(hs:eW a=true:=by rfl):
 bz W cx (.Tuple elts k MQ) true (.Call (.Name "enumerate" p) [a] [] pos) (.enum e):=λκ A s g σ env ρ xs av hh rm i eo he=>by
 refine cq (show ∃ys,ev W.aW W.R e ρ σ=some ([.d (.tuple ys)],av)/\xs=oP 0 ys/\xs.length<=lim from by
  change fL ((ba (ev W.aW W.R e ρ σ)).bind _)=_ at he
  cases H:ba (ev W.aW W.R e ρ σ) with
  |none=>rw[H] at he;exact aC he
  |some p=>
   obtain⟨d,ae⟩:=p
   rw[H,iC] at he
   cases d with
   |tuple ys=>
    refine cj (adX he) λame Lh hl=>?_;clear he;subst ame Lh
    exact bQ _ (rd H) rfl hl
   |none=>exact aC he
   |bool _=>exact aC he
   |int _=>exact aC he
   |str _=>exact aC he
   |list _=>exact aC he
   |dict _=>exact aC he) λys wA Bz hl=>?_;subst Bz
 rw[zm] at hl
 refine kA (lw hW i eo hk hg (show bootBuiltins "enumerate"=some (.type "enumerate") from by kernel_rfl) (by decide+kernel) (by decide+kernel) ?_)
 refine mE (f8 ?_ (cu hs)) (cu hs) iV
 refine(h A s g σ env ρ _ av rm i eo wA).use λv an aX st Ym=>ar Ym λy e q=>iU ?_
 clear Ym;injection e with amf ar9;subst amf
 refine bZ (Is.qo st.inv q) λl vs Bz hL r=>?_;subst Bz
 refine ar (id hL) λo ho zz=>?_
 have a5:=dI ho
 refine acQ hL λh' hE hI hz keep=>?_
 have bb:=aS.il (G:=W.G) (tk:=an.toks) st.inv keep
 refine aau hE ?_
 have ga:∃o,aX.get? l=some o:=by
  refine oE (Is.kH q) λa' o' Ni n' e' H zz=>?_
  injection e' with Lp;subst Lp;exact⟨o',H⟩
 have fresh:∀b,an.heap.objs.size<=b->(∃o,h'.get? b=some o)->s.heap.get? b=none/\aX.get? b=none/\∃o,h'.get? b=some o:=λb V vF=>by
  have hn:an.heap.get? b=none:=om V
  refine bO ?_ ?_ vF
  .cases q:s.heap.get? b with
   |none=>rfl
   |some o=>
    exfalso
    by_cases hc:b=W.G.c
    .refine xe (oM st.inv) λo' e=>?_
     rw[<- hc,hn] at e;exact aC e
    .have:=st.keep _ _ hc q;rw[hn] at this;exact aC this
  .cases q:aX.get? b with
   |none=>rfl
   |some o=>have:=st.inv.sub _ _ q;rw[hn] at this;exact aC this
 have br:vs.size=ys.length:=by have:=r.length;exact this
 have bB:an.heap.objs.size+1≠an.heap.objs.size:=OR _
 have KT:=KTurns.ofWalksU (elts:=elts) (k:=k) (pos:=MQ) (WalksT.toU (WalksT.enumerateD (prog:=W.G.prog) (w:=W.G.w) (A:=A) (abW (prog:=W.G.prog) (w:=W.G.w) (A:=A.in1) hh an.heap.objs.size l (dH a5) vs) (an.heap.objs.size+1) bB
  (by simp only[bK,mH,or_false,not_or];exact⟨bB,lX (G1 a5)⟩) (.head _)))
 rw[br,<- zm 0 ys] at KT
 have uj:h'.IsTuple l vs:=by exact ar hL λo ho x=>ai o (keep _ _ ho) x
 refine eY aX _ rfl (st.trans bb) (⟨_,_,_,_,_,KT,(bO (⟨_,hE⟩) hI uj),?_,?_,?_,λs Q E hs hq=>?_,λi f6 hs b V=>?_⟩)
 .intro i v f6 hp
  refine bZ hp λT vals amg Wa hT=>?_;clear hp;subst amg;refine cP Wa λt x hi vC=>?_;clear Wa;subst vC
  refine xe (wG.mp hi) λhN he=>?_
  have hH:i<ys.length:=br▸hN
  refine ar (r.get (k:=i) (d:=ys[i]) (by simp[hH])) λw hw q=>?_
  rw[lR,hi] at hw
  injection hw with BC;subst BC
  refine ai (.tuple [.int i,ys[i]]) (by refine Y (QZ _ _ _) ?_;simp[hH]) (.inr (RY rfl T _ _ rfl rfl hT (.cons .int (.cons q .nil))))
 .intro b V
  rcases bK.mp V with rfl|V
  .exact fresh _ (sR _) ⟨_,hE⟩
  .exact Y (bY.mp V)<|ar hI λo e zz=>fresh _ (a8 _) ⟨o,e⟩
 .intro b V
  simp only[bK,mH,or_false] at V
  clear a5 hI uj;clear hL ho;rcases V with rfl|rfl|rfl
  .exact .inl (.head _)
  .exact .inl (by simp)
  .exact .inr ga
 .exact xa hs λBc zz=>xe Bc λold e=>aau e hq
 .refine cj hs λK' Lq zz=>xe K' λold e=>ar Lq λo e2 zz=>?_
  rcases bK.mp V with rfl|V
  .exact⟨_,e⟩
  .exact Y (bY.mp V)<|⟨o,e2⟩
end
theorem Qj(k:Str->Option jv)(x:Str):∀(l:List (Str×ao)) (m:Str->Option ao),(∀p∈l,p.1≠x)->bindL k l m x=m x
 |[],m,_=>rfl
 |(n,v)::r,m,h=>by
  unfold bindL
  refine Y (Qj k x r _ λp hp=>h p (ZZ _ hp)) ?_
  split
  .show(if x=n then some v else m x)=m x
   rw[if_neg λe=>h (n,v) aah e.symm]
  .rfl
theorem Q0(k:Str->Option jv)(x:Str)(hk:k x=some .local):∀(ps:List Str) (vs:List ao) (m:Str->Option ao) (i:Nat) (v:ao),ps.Nodup->ps[i]? =some x->vs[i]? =some v->bindL k (ps.zip vs) m x=some v
 |[],_,_,i,_,_,h,_=>by simp at h
 |_::_,[],_,i,_,_,_,h=>by simp at h
 |p::ps,w::vs,m,0,v,hn,H,O=>by
  simp only[Oa,dj] at H O
  subst H O
  refine Y GY ?_
  unfold bindL
  exact Y (Qj k p _ _ λq hq e=>(lW.mp hn).1 (e▸(O1 hq).1))<|Y (if_pos hk)<|if_pos rfl
 |p::ps,w::vs,m,i+1,v,hn,H,O=>by
  exact Y GY<|Q0 k x hk ps vs _ i v (lW.mp hn).2 (H) O
theorem Qk(k:Str->Option jv)(x:Str):∀(l:List (Str×ao)) (m:Str->Option ao),(∀p∈l,p.1≠x)->bindC k l m x=m x
 |[],m,_=>rfl
 |(n,v)::r,m,h=>by
  unfold bindC
  refine Y (Qk k x r _ λp hp=>h p (ZZ _ hp)) ?_
  split
  .rfl
  .show(if x=n then some v else m x)=m x
   rw[if_neg λe=>h (n,v) aah e.symm]
theorem Q1(k:Str->Option jv)(x:Str)(hk:k x=some .cell):∀(ps:List Str) (vs:List ao) (m:Str->Option ao) (i:Nat) (v:ao),ps.Nodup->ps[i]? =some x->vs[i]? =some v->bindC k (ps.zip vs) m x=some v
 |[],_,_,i,_,_,h,_=>by simp at h
 |_::_,[],_,i,_,_,_,h=>by simp at h
 |p::ps,w::vs,m,0,v,hn,H,O=>by
  simp only[Oa,dj] at H O
  subst H O
  refine Y GY ?_
  unfold bindC
  rw[Qk k p _ _ λq hq e=>(lW.mp hn).1 (e▸(O1 hq).1),if_neg (by refine Y hk ?_;simp)]
  exact if_pos rfl
 |p::ps,w::vs,m,i+1,v,hn,H,O=>by
  exact Y GY<|Q1 k x hk ps vs _ i v (lW.mp hn).2 (H) O
structure fv(G:eI)(a:az)(fd:FuncData)(body:List lI)(cx:Cx)(ps:List Str)(m:eT):Prop where
 lk:∃o,G.K.lookup a=some o/\o.data= .func fd
 code:codeIn G.K fd.code fd.qualname=true
 stmts:fd.body= .stmts body
 bind:∀vals:List ao,vals.length=m.rp->bindArgs fd ⟨vals,[]⟩=pure (ps.zip vals)
 kZ:fd.closure=[]
 sc:fd.scope=cx.sc
 kind:cx.sc.kind= .function
 co:fd.scope.isCoroutine=false
 gen:fd.scope.isGenerator=false
 aW:fd.globals=mainGlobals
 jL:fd.builtins=builtinsNs
 len:ps.length=m.rp
 nodup:ps.Nodup
 kinds:∀p∈ps,cx.kindOf p=some .local\/cx.kindOf p=some .cell
 slots:∀x i,cx.Γ.lookup x=some i->i<m.rp->ps[i]? =some x
 U0:∀x,cx.kindOf x≠some .free
section
variable{W:Wd}{A:bV}{cx:Cx}{s:aJ}{g:aG}{σ av:Sg}
theorem o9.get:∀{vs:List ao} {xs:List as7} {i:Nat} {x:as7},o9 G g vs xs->xs[i]? =some x->∃v,vs[i]? =some v/\iN G g v x
 |[],[],i,x,_,h=>by simp at h
 |v::vs,y::ys,0,x,h,e=>by
  simp only[Oa,dj] at e
  subst e
  exact ai v rfl h.1
 |v::vs,y::ys,i+1,x,h,e=>by
  exact ar (o9.get h.2 (by simpa using e)) λw H O=>ai w (by simpa using H) O
 |[],_::_,_,_,h,_=>h.elim
 |_::_,[],_,_,h,_=>h.elim
theorem Ex{vs:List as7}(h:(vs.map aK.v++ii n aK.un)[i]? =some b)(V:b≠ .un):∃x,vs[i]? =some x/\b= .v x/\i<vs.length:=by
 rw[List.getElem?_append] at h
 split at h
 .rename_i hi
  rw[aw] at hi
  rw[ll,GN] at h
  refine ar h λx e oR=>?_;clear V;subst oR
  exact bQ x e rfl hi
 .rw[List.getElem?_replicate] at h
  split at h
  .injection h with Lp;subst Lp;exact absurd rfl V
  .exact aC h
theorem ag4{W':Wd}(hG:W'.G=W.G)(hW:W.Ok)(hn:W'.n=W.n+1)(F:fv W.G a fd body cx ps m)(hS:aq W cx body m.body)(hl:xs.length=m.rp)
 (he:aR W.aW W.R m.body (xs.map .v++ii m.EY .un) σ=some (.ret v av)) (rm:dK A (W.n+1)) (i:Inv W.G g σ s) (hv:o9 W.G g vs xs):
 Runs W.G A s g av (call (.ref a) vs) (λr g'=>iN W.G g' r v):=by
 refine ar F.lk λo hlk amh=>?_
 have br:=hv.length
 have X:W.G.K.In s.heap:=hW.eU.n8.keeps i.mT
 obtain⟨r1,r2,r3⟩:=rm
 have kq:∀x,(callEnvC fd s.heap.objs.size a).kindOf x=cx.kindOf x:=λx=>by
  show fd.scope.names.lookup x=cx.sc.names.lookup x
  exact Y F.sc rfl
 refine QJ (codeAny_call_cells (aO [(J (J (J B (J v1 k1)) (.num 5)) k1,v2)] (J B k1,v2) rfl r2) (X _ _ hlk) amh (hW.eU.lim.keeps i.mT) (codeRec_of X F.code) F.stmts (F.bind vs (br.trans hl)) F.kZ ?_ (λan hc=>?_) F.co F.gen (by refine Y F.sc ?_;exact F.kind))
 .intro p hp
  have:=F.kinds p.1 (O1 hp).1
  refine Y F.sc<|a9 this (λh=>?_) (λh=>?_)
  .exact .inl h
  .refine .inr ⟨h,?_⟩
   refine xe (D4 p.1 cx.sc.names (s.heap.objs.size+1) [] h) λa e=>Y e ?_;rfl
 .refine cP hc.done λh' tk BA hk=>?_;subst BA
  have st:=aS.il (G:=W.G) (tk:=tk) i hk
  have dead:∀b,s.heap.objs.size<=b->b≠W.G.c/\g.get? b=none:=λb V=>by
   have hn:s.heap.get? b=none:=om V
   refine⟨λz=>?_,?_⟩
   .refine xe (oM i) λo e=>?_
    rw[<- z,hn] at e;exact aC e
   .cases e:g.get? b with
    |none=>rfl
    |some o=>rw[i.sub _ _ e] at hn;exact ft hn
  have U1:∀x,cx.kindOf x=some .cell->∃c,(callEnvC fd s.heap.objs.size a).cells.lookup x=some c:=λx hx=>by
   exact xe (D4 x cx.sc.names (s.heap.objs.size+1) [] hx) λc e=>⟨c,by show(cellsFrom _ fd.scope.names []).lookup x=_;exact Y F.sc<|e⟩
  have Yn:∀x c,(callEnvC fd s.heap.objs.size a).cells.lookup x=some c->s.heap.objs.size<c:=λx c e=>hc.above x c (mem_of_lookup e)
  have eo:a7 W.G cx ⟨s.heap.objs.size,λzz=>0⟩ g h' (callEnvC fd s.heap.objs.size a) (xs.map .v++ii m.EY .un):=by
   refine⟨F.sc,F.kind,F.aW,F.jL,a8 _,(dead _ (a8 _)).1,(dead _ (a8 _)).2,(ai _ hc.toInCall.ns (λx j b H O h3 h4=>?_)),λx j b H O h3 h4=>?_,λx hx=>?_,λx c e=>?_,λx c zz e=>fA (Yn x c e),λj k b b' H O h3 h4 h5=>?_,λx y c H O=>?_,λx j b zz H h3=>?_⟩
   .refine cq (Ex O h3) λy hy BA a5=>?_;clear O h3;subst BA
    exact ar (hv.get hy) λv e q=>ai v (Q0 _ x ((kq x).trans h4) ps vs _ j v F.nodup (F.slots x j H (hl▸a5)) e) q
   .refine cq (Ex O h3) λy hy ami a5=>?_;clear O h3;subst ami
    refine ar (hv.get hy) λv e q=>?_
    have h4:cx.kindOf x=some .cell:=h4.elim id λz=>absurd z (F.U0 x)
    refine xe (U1 x h4) λc ec=>?_
    have:=hc.cell x c ec
    rw[Q1 _ x ((kq x).trans h4) ps vs _ j v F.nodup (F.slots x j H (hl▸a5)) e] at this
    exact eY c v ec this q
   .exact U1 x (hx.elim id λz=>absurd z (F.U0 x))
   .exact xa (dead c (fA (Yn x c e))) λz1 z2=>vP z1 z2 _ (hc.cell x c e)
   .have e1:=(Ex H (by rintro rfl;exact aQ h3)).choose_spec.2.1
    rw[e1] at h3;exact aQ h3
   .exact name_of_addr hc.apart (mem_of_lookup H) (mem_of_lookup O)
   .have e1:=(Ex H (by rintro rfl;exact aQ h3)).choose_spec.2.1
    rw[e1] at h3;exact aQ h3
  have rm':dK (A.deeper (callEnvC fd s.heap.objs.size a)) W.n:=⟨r1,by show A.depth+1+W.n+5<_;(exact aO [(J (J (J B (J v1 k1)) (.num 5)) k1,v2)] (J (J (J (J B k1) v1) (.num 5)) k1,v2) rfl r2),by show A.units+3+ 16*W.n+400<_;(exact aO [(J (J (J B (.mulL 16 (J v1 k1))) (.num 400)) k1,v2)] (J (J (J (J B (.num 3)) (.mulL 16 v1)) (.num 400)) k1,v2) (by kernel_rfl) r3)⟩
  refine cn (hS (fr:=λzz=>none) (A.deeper _) s g {s with heap:=h',toks:=tk} g σ _ _ _ rm' st eo (λzz zz e=>by exact aC e) (a8 _) he) (λfl s' q=>?_) λzz zz f=>f.elim
  obtain⟨g',r,rfl,cz,q⟩:=q
  exact⟨g',cz,q⟩
theorem Q2(hG:kh G)
 (hf:∀n f m,fn f=some m->Wd.Ok ⟨G,adr,aW,run aW fn n,n⟩->∃fd body cx ps,fv G (adr f) fd body cx ps m/\aq ⟨G,adr,aW,run aW fn n,n⟩ cx body m.body):∀n,Wd.Ok ⟨G,adr,aW,run aW fn n,n⟩
 |0=>⟨hG,λf xs σ v av h=>aC h⟩
 |n+1=>by
  have ih:=Q2 hG hf n
  refine⟨hG,λf xs σ v av h A s g vs rm i hv=>?_⟩
  refine aP h λm hm h=>?_
  split at h
  .rename_i hl
   refine aP h λo e h=>xQ (hf n f m hm ih) λfd body cx ps F hS=>?_
   cases o with
   |ret v' nV=>
    injection h with oN;injection oN with ag5 ag6;subst ag5 ag6
    exact ag4 (W:=⟨G,adr,aW,run aW fn n,n⟩) (W':=⟨G,adr,aW,run aW fn (n+1),n+1⟩) rfl ih rfl F hS hl e rm i hv
   |next _ _=>exact aC h
  .exact aC h
end
noncomputable def nj(T:List (Str×Nat))(sc:jA):List (Str×Nat):=sc.names.filterMap λp=>(T.lookup p.1).map λi=>(p.1,i)
def du(T:List (Str×Nat))(sc:jA):Cx:=⟨sc,nj T sc⟩
noncomputable def Lr(cx:Cx)(x:Str)(i:Nat):Bool:=decide (cx.Γ.lookup x=some i) && cx.Γ.all λp=>decide (p.2≠i)||decide (p.1=x)
theorem s9(h:Lr cx x i=true):cx.Γ.lookup x=some i/\lZ cx x i:=by
 unfold Lr at h
 simp only[cm,decide_eq_true_eq,hU,lU] at h
 refine⟨h.1,λy hy=>?_⟩
 refine a9 (h.2 _ (mem_of_lookup hy)) (λq=>?_) (λq=>?_)
 .exact absurd rfl q
 .exact q
def kB(cl:Str->Bool)(cx:Cx)(x:Str):Bool:=decide (cx.kindOf x=some .local)||(cl x && decide (cx.kindOf x=some .cell))
theorem BD(h:kB cl cx x=true):cx.kindOf x=some .local\/(cl x=true/\cx.kindOf x=some .cell):=by
 unfold kB at h
 simpa using h
def rU(cl:Str->Bool)(cx:Cx)(x:Str)(i:Nat):Bool:=kB cl cx x && Lr cx x i
theorem cZ(h:rU g6 cx x i=true:=by kernel_rfl):oW cx x i:=by
 unfold rU at h
 rw[cm] at h
 exact⟨BD h.1,s9 h.2⟩
noncomputable def Yo:Str->Bool:=λzz=>false
theorem Ja(h:rU Yo cx x i=true):cx.kindOf x=some .local/\cx.Γ.lookup x=some i/\lZ cx x i:=by
 unfold rU at h
 rw[cm] at h
 have:=BD h.1
 exact⟨this.elim id λz=>absurd z.1 (by simp[Yo]),s9 h.2⟩
theorem cE(h:rU cl cx x i=true:=by kernel_rfl):jy cl cx (.Name x p) (.one i):=by
 unfold rU at h
 rw[cm] at h
 exact .one (BD h.1) (s9 h.2).1 (s9 h.2).2
theorem mU(h:rU cl cx x i=true:=by kernel_rfl)(h':rU cl cx y j=true:=by kernel_rfl):jy cl cx (.Tuple [.Name x p, .Name y q] k r) (.two i j):=by
 unfold rU at h h'
 rw[cm] at h h'
 exact .two (BD h.1) (s9 h.2).1 (s9 h.2).2 (BD h'.1) (s9 h'.2).1 (s9 h'.2).2
def ag7(cx:Cx):Bool:=cx.Γ.all λp=>cx.var p.1
theorem fR(h:ag7 cx=true:=by kernel_rfl):∀x i,cx.Γ.lookup x=some i->cx.var x=true:=λx i e=>hU.mp h _ (mem_of_lookup e)
noncomputable def Xk:FuncData:={name:= "",qualname:= "",params:={posonlyargs:=[],args:=[],vararg:=none,kwonlyargs:=[],kw_defaults:=[],kwarg:=none,defaults:=[]},body:= .stmts [],scope:={kind:= .function,names:=[],isGenerator:=false,isCoroutine:=false},globals:=0,builtins:=0,closure:=[],defaults:= .none,kwdefaults:= .none,pyModule:= .none,code:= .none}
def fdOf(K:Frag)(a:az):FuncData:=match K.lookup a with
 |some o=>match o.data with
  | .func fd=>fd
  |_=>Xk
 |none=>Xk
def iG(K:Frag)(a:az):List lI:=match (fdOf K a).body with
 | .stmts b=>b
 |_=>[]
def gr(K:Frag)(a:az):jA:=(fdOf K a).scope
noncomputable def isFn(K:Frag)(a:az):Bool:=match K.lookup a with
 |some o=>match o.data with
  | .func fd=>match fd.body with
    | .stmts _=>true
    |_=>false
  |_=>false
 |none=>false
def Yp(K:Frag)(a:az)(T:List (Str×Nat))(ps:List Str)(m:eT):Bool:=
 isFn K a && codeIn K (fdOf K a).code (fdOf K a).qualname && (fdOf K a).closure.isEmpty && decide ((gr K a).kind= .function) && !(gr K a).isCoroutine && !(gr K a).isGenerator && decide ((fdOf K a).globals=mainGlobals) && decide ((fdOf K a).builtins=builtinsNs) &&
 decide (ps.length=m.rp) && decide ps.Nodup && (ps.all λp=>decide ((du T (gr K a)).kindOf p=some .local)||decide ((du T (gr K a)).kindOf p=some .cell)) &&
 ((du T (gr K a)).Γ.all λp=>decide (m.rp<=p.2)||decide (ps[p.2]? =some p.1)) && ((gr K a).names.all λp=>decide (p.2≠ .free))
theorem fv.of(h:Yp G.K a T ps m=true)(V:∀vals:List ao,vals.length=m.rp->bindArgs (fdOf G.K a) ⟨vals,[]⟩=pure (ps.zip vals)):
 fv G a (fdOf G.K a) (iG G.K a) (du T (gr G.K a)) ps m:=by
 unfold Yp at h
 simp only[cm,decide_eq_true_eq,hU,lU,wP] at h
 refine xa h λLs h13=>xa Ls λamj h12=>xa amj λLs h11=>xa Ls λKG h10=>xa KG λAY h9=>xa AY λLu h8=>xa Lu λLv h7=>xa Lv λaoW h6=>?_;obtain⟨⟨⟨⟨H,O⟩,h3⟩,h4⟩,h5⟩:=aoW
 have hx:∃o,G.K.lookup a=some o/\o.data= .func (fdOf G.K a)/\(fdOf G.K a).body= .stmts (iG G.K a):=by
  unfold isFn at H
  unfold iG
  split at H
  .rename_i o ho
   split at H
   .rename_i fd hd
    have e:fdOf G.K a=fd:=by unfold fdOf;refine Y ho ?_;simp only[hd]
    split at H
    .rename_i b i8
     exact bQ o ho (Y e<|hd) (Y e<|Y i8 rfl)
    .exact aQ H
   .exact aQ H
  .exact aQ H
 refine cq hx λo k1 k2 k3=>⟨(ai o k1 k2),O,k3,V,by simpa using h3,rfl,h4,h5,h6,h7,h8,h9,h10,h11,λx i e hi=>?_,λx e=>?_⟩
 .refine a9 (h12 _ (mem_of_lookup e)) (λq=>?_) (λq=>?_)
  .exact absurd hi (sT.mpr q)
  .exact q
 .exact h13 _ (mem_of_lookup e) rfl
section
variable{W:Wd}{cx:Cx}{T:List (Str×Nat)}{scope sc:jA}{target l4 elt iter test i2:Expr}{t t2:iM}{e it ki c:E}{pos:Pos}
theorem fK(hI:bz W (du T sc) target (l7 t) iter it)(ht:jy (eG scope) (du T (jc scope sc)) target t)(he:ab W (du T (jc scope sc)) elt e)(ck:Aj (du T sc) scope (nj T scope) (qd t)=true:=by kernel_rfl)(hg:nj T (jc scope sc)=nj T scope:=by kernel_rfl)(la:pX iter:=by intro _ _;rfl):
 kJ W (du T sc) scope (.ListComp elt [⟨target,iter,[],0⟩] scope pos) (.comp e t it (.lit (.bool true))):=by
 have hx:du T (jc scope sc)=(du T sc).comp scope (nj T scope):=by unfold du;refine Y hg ?_;rfl
 rw[hx] at ht he
 exact kJ.zero hI (nK.of ck) la ht he
theorem rz(hI:bz W (du T sc) target (l7 t) iter it)(ht:jy (eG scope) (du T (jc scope sc)) target t)(he:ab W (du T (jc scope sc)) elt e)(hc:a6 W (du T (jc scope sc)) test c)(ck:Aj (du T sc) scope (nj T scope) (qd t)=true:=by kernel_rfl)(hg:nj T (jc scope sc)=nj T scope:=by kernel_rfl)(la:pX iter:=by intro _ _;rfl):
 kJ W (du T sc) scope (.ListComp elt [⟨target,iter,[test],0⟩] scope pos) (.comp e t it c):=by
 have hx:du T (jc scope sc)=(du T sc).comp scope (nj T scope):=by unfold du;refine Y hg ?_;rfl
 rw[hx] at ht he hc
 exact kJ.one hI (nK.of ck) la ht he hc
theorem gY(hI:bz W (du T sc) target (l7 t) iter it)(ht:jy (eG scope) (du T (jc scope sc)) target t)(he:ab W (du T (jc scope sc)) elt e)
 (wx:bz W (du T (jc scope sc)) l4 (l7 t2) i2 ki) (wu:jy (eG scope) (du T (jc scope sc)) l4 t2) (ck:Aj (du T sc) scope (nj T scope) (qd t++qd t2)=true:=by kernel_rfl) (hg:nj T (jc scope sc)=nj T scope:=by kernel_rfl) (la:pX iter:=by intro _ _;rfl) (F1:pX i2:=by intro _ _;rfl):
 kJ W (du T sc) scope (.ListComp elt [⟨target,iter,[],0⟩,⟨l4,i2,[],0⟩] scope pos) (.gY e t it t2 ki):=by
 have hx:du T (jc scope sc)=(du T sc).comp scope (nj T scope):=by unfold du;refine Y hg ?_;rfl
 rw[hx] at ht he wx wu
 exact kJ.two hI (nK.of ck) la ht he wx F1 wu
end
section
variable{W:Wd}{A:bV}{cx:Cx}{κ:cF}{env:Env}{ρ:List aK}{s:aJ}{g:aG}{σ av:Sg}
theorem adY{H0:aG}{x k1 k2:Str}{S:bh.S}(hc:W.G.c=s.heap.objs.size)
 (inv:Inv W.G g [] {s with heap:=s.heap.push {cls:= .type "dict",data:= .dict #[]}}) (eo:a7 W.G cx κ g (s.heap.push {cls:= .type "dict",data:= .dict #[]}) env ρ) (rm:dK A W.n)
 (k0:∀b o,H0.get? b=some o->s.heap.get? b=some o) (hL:H0.objs.size<=κ.L) (ha:oW cx x i) (he:ab W cx comp e) (Nm:ev W.aW W.R e ρ []=some ([.d d],[])) (k:aq W cx rest S) (hk:k1≠k2) (MR:aR W.aW W.R S (ρ.set i (.v .feed)) [(k1,d),(k2, .int z)]=some (.ret (.d (.bool true)) av)):
 wpAny (model W.G.prog W.G.w) A (execs (.Assign [.Name x p] (.Dict [some (.Constant (.str k1) c1 q1),some (.Constant (.str k2) c2 q2)] [comp, .Constant (.int z) c3 q3] MS) pos::rest) env)
  (λfl s'=>fl= .ret (.bool true)/\(∀b o,H0.get? b=some o->s'.heap.get? b=some o)/\s'.os=s.os/\s'.gens=s.gens) (λzz zz=>False) s:=by
 refine cj ha λa1 a2 a3=>jT (wJ (wpAny_Dict_walk (knd:=strKind W.G.prog W.G.w) rfl rfl (by simp) (by simp) (Z7 (GX ?_))) rfl rfl)
 refine(he A _ _ _ _ _ _ _ rm (inv.toks _) eo Nm).use λv aD aN st aoX=>ar aoX λy ey q=>?_
 injection ey with Lw amk;subst Lw
 have gG:=eo.step st
 refine Z7 (GX (zf (pairTrees_nil_walk ?_)))
 refine jg st.inv.shr λkvs hd ke hi hl=>?_
 have aoY:kvs=[]:=Dk.mp ke
 clear hi hl;subst aoY
 rw[hc] at hd
 refine bQ ([(k1,v),(k2, .int z _)]) ((md (mM _ _ _ _) rfl (mM _ _ _ _) rfl trivial)) hd (λh' dw hs=>?_)
 have hm:merged [] [(k1,v),(k2,Value.int z (aD.toks+1))]=[(k1,v),(k2, .int z (aD.toks+1))]:=by
  unfold merged stored
  simp[hk]
 rw[hm,<- hc] at dw
 rw[<- hc] at hs
 have aml:H0.get? W.G.c=none:=by
  cases e:H0.get? W.G.c with
  |none=>rfl
  |some o=>exact absurd (dI (k0 _ _ e)) (Y hc<|pN _)
 have CM:∀b o,H0.get? b=some o->(s.heap.push {cls:= .type "dict",data:= .dict #[]}).get? b=some o:=λb o e=>bT _ (k0 b o e)
 have Xl:Inv W.G aN [(k1,d),(k2, .int z)] {aD with heap:=h',toks:=aD.toks+1+1+2}:=
  ⟨st.inv.base,λb o e=>(hs.2 b λw=>by rw[w,st.inv.gc] at e;exact aC e).trans (st.inv.sub b o e),st.inv.gc,(nL _ dw rfl (.cons q (.cons .int .nil)) (by simp)),st.inv.tab⟩
 have stN:aS W.G {s with heap:=H0} g [(k1,d),(k2, .int z)] {aD with heap:=h',toks:=aD.toks+1+1+2} aN:=by
  refine⟨st.same,λb o V e=>(hs.2 b V).trans (st.keep b o V (CM b o e)),st.grow,λb o e=>?_,Xl⟩
  refine a9 (st.fresh b o e) (λz=>?_) (λz=>?_)
  .exact .inl z
  .right
   cases r:H0.get? b with
   |none=>rfl
   |some o'=>
    have:=CM b o' r
    rw[z] at this;exact aC this
 have stM:aS W.G {aD with toks:=aD.toks+1+1+2} aN [(k1,d),(k2, .int z)] {aD with heap:=h',toks:=aD.toks+1+1+2} aN:=
  ⟨⟨rfl,rfl⟩,λb o V e=>(hs.2 b V).trans e,Sub.rfl,λb o e=> .inl e,Xl⟩
 have Nq:=a7.step (s:={aD with toks:=aD.toks+1+1+2}) stM gG
 refine pT (cl:=g6) (b:= .v .feed) (s:={aD with heap:=h',toks:=aD.toks+1+1+2}) Nq a1 a2 a3 re (λzz zz=>by show _=_;exact Y hc rfl) λs' m gQ=>?_
 have sf:∀b,Wr g6 cx env b->({s with heap:=H0}:aJ).heap.get? b=none/\aN.get? b=none/\b≠W.G.c:=λb V=>by
  have w:=Wr.safe (s:={aD with heap:=h',toks:=aD.toks+1+1+2}) Nq b V
  exact bO (om (aB hL (Wr.n9 Nq V))) w.1 w.2
 refine cn (k (fr:=λzz=>none) A _ g s' aN _ env _ _ rm (stN.moved m sf) gQ (λzz zz e=>by exact aC e) hL MR) (λfl dz w=>?_) λzz zz f=>f
 refine bZ w λg' r KW cz qr=>?_;clear w;subst KW
 obtain rfl:=Is.bool_inv qr
 exact fb rfl (λb o e=>cz.keep b o (λw=>by rw[w,aml] at e;exact aC e) e) cz.same.2 cz.same.1
end
end bh
namespace bh
open PySem PySem.W PyProof.Rows PySem.Calls
open PySem.Builtin.Str (strSliceIndices)
section
variable{W:Wd}{A:bV}{cx:Cx}{κ:cF}{s:aJ}{g:aG}{σ av:Sg}{ρ:List aK}{xs:List as7}{k:Op}{a b c:E}
theorem E2(he:ev W.aW W.R (.op k es) ρ σ=some (xs,av)):∃ys ds d,ev W.aW W.R es ρ σ=some (ys,av)/\gF ys=some ds/\jK k ds=some d/\xs=[.d d]:=by
 refine gO he λys ae H gJ=>aP gJ λds O kT=>aP kT λd h3 h4=>?_
 clear he gJ kT;injection h4 with amm;injection amm with ag8 ag9;subst ag8 ag9
 exact jX ys ds d H O h3 rfl
theorem cons_inv(h:ev W.aW W.R (.cons a es) ρ σ=some (ys,av))(hd:gF ys=some ds):∃x zs xs ae,ba (ev W.aW W.R a ρ σ)=some (x,ae)/\ev W.aW W.R es ρ ae=some (zs,av)/\gF zs=some xs/\ds=x::xs:=by
 refine gO h λv ae H Yq=>gO Yq λzs aF O h3=>?_
 clear h Yq;injection h3 with Cd;injection Cd with aiJ aiK;subst aiJ aiK
 refine aP hd λx e1 e2=>iK e2 λr e3 rA=>?_;clear hd e2;subst rA
 obtain rfl:=Kc e1
 exact Iq x zs r ae (by refine Y (xB H) ?_;rfl) O e3 rfl
theorem nil_inv(h:ev W.aW W.R .nil ρ σ=some (ys,av))(hd:gF ys=some ds):av=σ/\ds=[]:=by
 injection h with Ki;injection Ki with aha ahb;subst aha ahb
 injection hd with Lo;subst Lo
 exact⟨rfl,rfl⟩
theorem tn(he:ev W.aW W.R (.op k (.cons a .nil)) ρ σ=some (xs,av)):∃x d,ba (ev W.aW W.R a ρ σ)=some (x,av)/\M6 k x=some d/\xs=[.d d]:=by
 refine mP (E2 he) λys ds d H O h3 Lx=>?_;clear he;subst Lx
 refine oz (cons_inv H O) λx zs us ae q1 q2 q3 rB=>?_;clear O;subst rB
 refine xa (nil_inv q2 q3) λAZ AQ=>?_;clear q2 q3;subst AZ AQ
 exact eY x d q1 h3 rfl
theorem Ey(he:ev W.aW W.R (.op k (.cons a (.cons b .nil))) ρ σ=some (xs,av)):∃x y d ae,ba (ev W.aW W.R a ρ σ)=some (x,ae)/\ba (ev W.aW W.R b ρ ae)=some (y,av)/\X0 k x y=some d/\xs=[.d d]:=by
 refine mP (E2 he) λys ds d H O h3 Ly=>?_;clear he;subst Ly
 refine oz (cons_inv H O) λx zs us ae q1 q2 q3 vG=>?_;clear O;subst vG
 refine oz (cons_inv q2 q3) λy zs us aF p1 p2 p3 MG=>?_;clear q3;subst MG
 refine xa (nil_inv p2 p3) λLv rB=>?_;clear p2 p3;subst Lv rB
 exact Iq x y d ae q1 p1 h3 rfl
theorem TS(he:ev W.aW W.R (.op k (.cons a (.cons b (.cons c .nil)))) ρ σ=some (xs,av)):∃x y z d ae aF,ba (ev W.aW W.R a ρ σ)=some (x,ae)/\ba (ev W.aW W.R b ρ ae)=some (y,aF)/\ba (ev W.aW W.R c ρ aF)=some (z,av)/\X2 k x y z=some d/\xs=[.d d]:=by
 refine mP (E2 he) λys ds d H O h3 Lz=>?_;clear he;subst Lz
 refine oz (cons_inv H O) λx zs us ae q1 q2 q3 BE=>?_;clear O;subst BE
 refine oz (cons_inv q2 q3) λy zs us aF p1 p2 p3 rC=>?_;clear q3;subst rC
 refine oz (cons_inv p2 p3) λz zs us lA r1 r2 r3 vJ=>?_;clear p3;subst vJ
 refine xa (nil_inv r2 r3) λamn vx=>?_;clear r2 r3;subst amn vx
 exact Aa x y z d ae aF (md q1 p1 r1 h3 rfl)
theorem acR(x:Str)(t u:Tok)(h:∀t' k,Q (.str ⟨x.cps.extract 0 1⟩ t') {s with toks:=k}):(sliceMade x t none (some (1,u)) none).post Q s:=by
 obtain⟨⟨l⟩⟩:=x
 unfold sliceMade slicePicked
 match l with
 |[]=>exact h t s.toks
 |[a]=>exact h t s.toks
 |a::b::r=>
  have e:strSliceIndices none (some 1) 1 (HQ ⟨⟨a::b::r⟩⟩)=[0]:=by
   have hn:min (1:Int) ((HQ ⟨⟨a::b::r⟩⟩:Nat):Int)=1:=by
    show min (1:Int) (((a::b::r).length:Nat):Int)=1
    exact Y bL<|Y bL<|imi
   show sliceRange 0 (max 0 (min (1:Int) ((HQ ⟨⟨a::b::r⟩⟩:Nat):Int))) 1=[0]
   refine Y hn ?_
   decide
  have e3:(⟨a::b::r⟩:Array Nat).extract 0 1= #[a]:=by apply Dr.mp;simp
  have h:=h s.toks (s.toks+1)
  rw[e3] at h
  simp only[Option.map_none,uE,Option.getD_none,e]
  have e2:([0].length==HQ ⟨⟨a::b::r⟩⟩)=false:=by
   show((1:Nat)==(a::b::r).length)=false
   simp
  have e4:(List.filterMap (λx=>(⟨a::b::r⟩:Array Nat)[x]?) [0]).toArray= #[a]:=by simp
  simp only[e2,O7,nw,if_false]
  exact Y e4<|⟨show 1<=sizeLine from by decide,h⟩
theorem ab.str1(h:ab W cx v a):
 ab W cx (.Subscript v (.Slice none (some (.Constant (.int 1) kp pp)) none sp) pos) (.op .str1 (.cons a .nil)):=λzz A s g σ env ρ xs av rm i eo he=>by
 refine bZ (tn he) λx d H O LA=>?_;clear he;subst LA
 refine iK O λx e1 oT=>?_;clear O;subst oT
 obtain rfl:=uP e1
 refine QH ((h.ba rm i eo H).use λv an aX st q=>?_)
 refine xe q.str_inv λt Cg=>?_;clear q;subst Cg
 refine wpAny_Slice (aH (zf (k:=kp) (pos:=pp) (aH ?_)))
 refine tb (typeIs_str _ x t) aad.lookup (wpAny_getItem_str_slice (l:=none) (u:=some (1,an.toks)) (st:=none) (bQ _ (cJ _ rfl) rfl rfl) rfl (acR x t _ λt' k=>?_)) (by rfl)
 exact gC aX (st.trans (aS.il st.inv λb o e=>bT _ e)) _ rfl Is.str
theorem a6.qc(h:ab W cx v a):a6 W cx (.Compare v [.IsNot] [.Constant .none kk kp] pos) (.op .qc (.cons a .nil)):=λzz A s g σ env ρ b av rm i eo he=>by
 refine bZ (tn (th he)) λx d H O e=>?_
 injection O with A8;subst A8
 injection e with Lw amk;injection Lw with ahc;injection ahc with adZ;subst adZ
 refine De ((h.ba rm i eo H).use λv an aX st q=>Z5 (isNot_none (wQ (ai aX st ?_)))) (by with_unfolding_all rfl)
 refine xe q λzz r=>?_
 cases r<;>rfl
theorem ab.rM:ab W cx (.Dict [] [] pos) (.op .rM .nil):=λzz A s g σ env ρ xs av rm i eo he=>by
 refine mP (E2 he) λys ds d H O h3 AX=>?_;clear he;subst AX
 refine xa (nil_inv H O) λMH vY=>?_;clear H O;subst MH vY
 injection h3 with vI;subst vI
 refine aaI<|ar (TN (kvs:=[]) (s':={s with heap:=s.heap.push {cls:= .type "dict",data:= .dict #[]}}) i (λb o e=>bT _ e) rfl rfl fq
  (sU _ (#[]) 0 (cJ _ rfl) ((bO rfl rfl rfl)) rfl ((λe he=>by simp at he)) (.nil) Ha) rfl aT.nil) λg' st q=>?_
 exact gC g' st _ rfl q
theorem a6.pi(hG:kh W.G)(h:ab W cx v a)(h':ab W cx u b)(hm:behindInMarks .In u=false:=by with_unfolding_all rfl):a6 W cx (.Compare v [.In] [u] pos) (.op .pi (.cons a (.cons b .nil))):=λzz A s g σ env ρ r av rm i eo he=>by
 refine oz (Ey (th he)) λx y d ae H O h3 e=>aP h3 λx e1 h3=>aP h3 λkvs e2 h3=>xa (jY h3) λok vg=>?_;clear he h3;subst vg
 clear h3;injection e with A9 VR;injection A9 with ahd;injection ahd with ad0;subst ad0
 obtain rfl:=uP e1
 clear h3;obtain rfl:=Ab e2
 refine De ((h.ba rm i eo H).use λv an aX st q=>(h'.ba rm st.inv (eo.step st) O).use λu aD aN bb eS=>?_) hm
 refine xe q.str_inv λt BF=>?_;clear q;subst BF
 refine cP (xU hG bb.inv eS ok) λa xs amo T=>?_;clear eS;subst amo
 refine wpAny_in_of (mM W.G.prog W.G.w x t) T.ne T.dict.mapOf (wQ (ai aN ((st.trans bb).trans (.tok bb.inv _)) ?_))
 exact Y ((Et T.keys T.vals x).1) rfl
end
end bh
namespace bh
open PySem PySem.W PyProof.Rows PySem.Calls
section
variable{W:Wd}{A:bV}{cx:Cx}{κ:cF}{s:aJ}{g:aG}{σ av:Sg}{ρ:List aK}{xs:List as7}{k:Op}{a b c:E}{i:Nat}{x:Str}
theorem a6.ql(h:ab W cx v a)(hx:cx.Γ.lookup x=some i)(hk:cx.var x=true)(hd:(x==("__debug__" :Str))=false:=by decide+kernel)(hc:(x==("__classdict__" :Str))=false:=by decide+kernel):
 a6 W cx (.Compare v [.NotIn] [.Name x p] pos) (.ql a i):=λzz A s g σ env ρ r av rm inv eo he=>by
 refine aP (th he) λK4 H he=>?_;obtain⟨y,ae⟩:=K4
 refine aP he λds hi he=>xa (jY he) λok he=>?_
 have hi:=u6 hi
 injection he with amq amr;injection amq with ahe ar5;injection ahe with ad1;injection ad1 with abX;subst abX;clear he;subst amr
 refine xa (oi.mp ok) λNr Nt=>De ((h.ba rm inv eo H).use λu an aX st q=>?_) (by with_unfolding_all rfl)
 have dC:=eo.step st
 refine zT st.inv dC hx hk hi rfl hd hc<|jg (mV dC hx hk hi rfl) λvs zz KL hI zz=>xe KL λm hp=>xe (Is.list hp rfl rfl (hI.mono st.inv.sub)) λzz r1=>xe (Is.heap st.inv q) λzz r2=>?_
 have ch:=DI Nt
 have mn:=nA (eM ds) y.depth
 have ru:=rm.units
 exact Zz r1 r2 ch.1 (za Nr) (eH [(J (J (J B (.mulL 16 v1)) (.num 400)) k1,v2),(v3,v4),(v4,(.num 63))] (J (J (J B k1) v3) k1,v2) rfl ru mn ch.2) (wQ (ai aX st rfl))
theorem aa4{vs:Array ao}{xs:List ah}(rs:lu s.heap vs.toList xs as)(Nu:eA xs=true):
 vs.toList.countP (λy=>cA (SeqAt.readOf s.heap y) d)=xs.countP (λy=>cA y d):=by
 refine sl (SeqAt.readsAll_map xs _ _ Nu rs)<|Y aaS ?_
 congr 1
theorem ab.count(hG:kh W.G)(h:ab W cx o a)(h':ab W cx v b)(hp:qq o "count" apos ic [v]:=by intro _;exact⟨_,rfl⟩)(hn:eW v=true:=by rfl):
 ab W cx (.Call (.Attribute o "count" apos) [v] [] ic) (.op .count (.cons a (.cons b .nil))):=λzz A s g σ env ρ xs av rm inv eo he=>by
 refine oz (Ey he) λx y d ae H O h3 Ly=>?_;clear he;subst Ly
 refine aP h3 λds e1 h4=>xa (jZ h4) λok h5=>?_
 clear h3 h4;obtain rfl:=tc e1
 obtain rfl:=ty h5
 refine xa (oi.mp ok) λNr Nt=>xe (hp env) λpl ct=>zy (pl:=pl) ((h.ba rm inv eo H).use λu an aX st q=>?_) ct
 refine ja (Is.kH q) λt Lq vs n ams ho hc hd r=>?_;clear q;obtain⟨cls,dd,data,sl⟩:=Lq;subst ams
 have wp:dd=none:=(st.inv.tab t _ ho (JB hG st.inv ho (λz=>absurd (hc.symm.trans z) (by decide)))).seq (.inl hc)
 simp only at hc hd
 subst hc hd wp
 have Wb:=st.inv.sub _ _ ho
 refine OM (T:="tuple") (ai _ Wb rfl) PySem.F.plainAttrs_tuple Zt PySem.F.type_tuple_count (λa e=>by injection e with LB;subst LB;exact ai _ Wb rfl) ?_
 refine N0 (f8 ?_ (cu hn)) (cu hn) iV
 refine(h'.ba rm st.inv (eo.step st) O).use λu aD aN bb eS=>iU ?_
 have Wc:=bb.inv.sub _ _ (bb.grow _ _ ho)
 refine xe ((r.mono bb.grow).mono bb.inv.sub) λzz rs=>xe (Is.heap bb.inv eS) λzz rx=>?_
 have ch:=Pl Nr
 have mn:=nA (eM ds) y.depth
 have ru:=rm.units
 refine qX Zt (ai _ Wc rfl) PySem.F.entry_tuple_count (PySem.F.args_tuple_count_2 _ _) (SeqAt.tuple_countAt t vs n none sl u _)
  (ago Wc (SeqAt.items_eqAt rs rx ch.1 (za Nt) (by show A.units+1+_<_;exact eH [(J (J (J B (.mulL 16 v1)) (.num 400)) k1,v2),(v3,v4),(v4,(.num 63))] (J (J (J B k1) v3) k1,v2) rfl ru mn ch.2)) aN (st.trans (bb.trans (.tok bb.inv _))) _ rfl ?_)
 exact Y (aa4 rs ch.1)<|Is.int
theorem ab.tP(hG:kh W.G)(h:ab W cx o a)(h':ab W cx v b)(f6:ab W cx u c)(hp:qq o "get" apos ic [v,u]:=by intro _;exact⟨_,rfl⟩)(hn:eW v=true:=by rfl)(lM:eW u=true:=by rfl):
 ab W cx (.Call (.Attribute o "get" apos) [v,u] [] ic) (.op .tP (.cons a (.cons b (.cons c .nil)))):=λzz A s g σ env ρ xs av rm inv eo he=>by
 refine xx (TS he) λx y z d ae aF zz=>j3 zz λH O h3 h4 LC=>?_;clear he;subst LC
 refine aP h4 λkvs e1 h4=>aP h4 λy e2 h4=>xa (jY h4) λok LD=>?_;clear h4;subst LD
 clear h4;obtain rfl:=Ab e1
 clear h4;obtain rfl:=uP e2
 refine xe (hp env) λpl ct=>zy (pl:=pl) ((h.ba rm inv eo H).use λyv an aX st q=>?_) ct
 refine cP (xU hG st.inv q ok) λt ps amt T=>?_;subst amt
 refine OM T.dict.typeIs Zw ZO PySem.F.type_dict_get T.dict.mapOf.noDict<|N0 (f8 ?_ (cu hn)) (cu hn) (by show(backTo _ (starEach [u] _)).any (·.1)=false;refine Y (show starEach [u] env=(false,eval u env)::starEach [] env from cu lM) ?_;rfl)
 refine(h'.ba rm st.inv (eo.step st) O).use λCf aD aN bb eS=>f8 ?_ (cu lM)
 refine(f6.ba rm bb.inv ((eo.step st).step bb) h3).use λaoZ jC Ca eZ MF=>iU<|xe eS.str_inv λtk LF=>?_;clear eS;subst LF
 refine cP (xU hG eZ.inv ((q.mono bb.grow).mono eZ.grow) ok) λt' ps' e T=>?_
 injection e with vK;subst vK
 refine Py ZO T.dict.typeIs PySem.F.entry_dict_get (PySem.F.args_dict_get_3 _ _ _) (meets_dict_get_default (strKind W.G.prog W.G.w) t (mM W.G.prog W.G.w y tk) T.ne aoZ)
  (agu _ T.dict.mapOf Ca ((st.trans (bb.trans eZ)).trans (.tok eZ.inv _)) _ rfl ?_)
 refine cj (Et T.keys T.vals y) λzz z1 z2=>?_
 cases e:nM kvs y with
 |none=>exact Y (z2 e)<|MF
 |some d=>
  exact ar (z1 d e) λv e1 e2=>Y e1<|e2
theorem ab.AM(hW:W.Ok)(hk:cx.kindOf y=some .globalImplicit)(hg:nsIn W.G.K mainGlobals y=some none)(V:bootBuiltins y=some (.builtin "sorted"))(h:ab W cx v a)
 (hn:y≠"__name__" :=by decide+kernel) (hd:(y==("__debug__" :Str))=false:=by decide+kernel) (hs:eW v=true:=by rfl):ab W cx (.Call (.Name y p) [v] [] cp) (.AM a):=λzz A s g σ env ρ xs av rm inv eo he=>by
 refine aP he λamu H he=>?_;obtain⟨x,ae⟩:=amu
 refine aP he λkvs e1 he=>xa (jY he) λok he=>?_
 obtain rfl:=ait e1
 injection he with amv amw;subst amv;clear he;subst amw
 refine kA (lw hW inv eo hk hg V hn hd (y8 ?_ (cu hs) iV))
 refine f8 ?_ (cu hs)
 refine(h.one rm inv eo H).use λu an aX st q=>iU<|RZ q λd amx ps hd z1 z2 z3 z4=>?_;clear q;subst amx
 have lo:=Qi hW.eU st.inv.base hd
 refine pU hd λo es ep ho hc iI qQ sn Nv=>?_
 have hm:nU an.heap d es ep:=bQ o (st.inv.sub _ _ ho) hc iI
 have Xm:es.toList.map (·.key)=ps.map λx=> .ref x.2.1:=by refine Y qQ<|Y dW ?_;rfl
 have hn:es.size=kvs.length:=by
  have:=congrArg pR Xm
  rw[aw,aw,eV] at this
  have t:=congrArg pR z1
  rw[aw,aw] at t
  exact this.trans t
 refine Runs.after st ((HF st.inv rm ok λP F hP=>?_).mono λr g' q=>(ai _ rfl q))
 refine abS (A:=A.in1) (TQ lo) rm.handled hm (by refine Y hn ?_;exact fG z4) λh' tk acc kp fM=>hP acc.toList _ (λzz=>False) kp rfl rfl (.old ?_ (st.inv.sub.trans kp))
 have:acc.toList=es.toList.map (·.key):=by
  apply ON
  intro j
  refine Y lR<|Y ll<|Y lR ?_
  cases e:acc[j]? with
  |some v=>
   refine ar (fM.2 j v e) λe' H O=>Y H<|Y O ?_;rfl
  |none=>
   have:es[j]? =none:=ux (fM.1▸N3.mp e)
   refine Y this ?_;rfl
 exact Y this<|Y Xm<|z2
end
section
variable{W:Wd}{A:bV}{cx:Cx}{κ:cF}{s:aJ}{g:aG}{σ av:Sg}{ρ:List aK}{xs:List as7}{k:Op}{a b c:E}{i:Nat}{x:Str}
theorem E3{k:Str}(h:(w8 prog w).is k v=true):∃t,v= .str k t:=by
 cases v with
 |str y t=>
  have:y=k:=by simpa [w8,zk] using h
  exact⟨t,by exact Y this rfl⟩
 |_=>simp[w8,zk] at h
theorem TT{kvs:List (ah×ah)}{lo:az}(Nw:s.heap.objs.size<=lo)(hl:as.length=ps.length)(hG:KdxG (strKind W.G.prog W.G.w) ps lo h' as)(e1:ps.map (λx=>eB x.1)=kvs.map (·.1))(e2:aT g (ps.map (·.2)) (kvs.map (·.2)))(hs:Sub g h'):
 rQ W.G g s h' (·∈as) (as.map kI) (kvs.map oO):=by
 have len:ps.length=kvs.length:=by have:=congrArg pR e1;rwa [aw,aw] at this
 refine⟨λb V=>om (aB Nw (fA (hG.above b V))),λb V=>?_, .of_get (Y (aw _)<|Y (aw _)<|Y hl<|Y len rfl) λj v d H O=>?_⟩
 .exact xe (List.mem_iff_getElem?.mp V) λj hj=>uY (hG.pairs j b hj) λzz zz zz zz zz e=>ai _ e (.no (by simp) rfl)
 .rw[ll] at H O
  refine iK H λa ha vt=>?_;subst vt
  refine iK O λp hp LG=>?_;subst LG
  refine uY (hG.pairs j a ha) λkey k y q1 q2 q3=>xe (E3 q2) λt Cg=>?_;clear q2;subst Cg
  have hk:eB k=p.1:=by
   have:=congrArg (·[j]?) e1
   simp only[ll,q1,hp,uE,dj] at this
   exact this
  refine ar (e2.get (d:=p.2) (by refine Y ll<|Y hp ?_;rfl)) λv z1 z2=>?_
  rw[ll,q1] at z1
  injection z1 with BB;subst BB
  refine Is.tuple (nH (Dg ha) q3) rfl rfl (.cons ?_ (.cons (z2.mono (ij hs)) .nil))
  exact sl hk<|Is.str
theorem Ql(hG:kh W.G)(h:ab W cx o a)(hp:qq o "items" apos ic [])(rm:dK A W.n)(inv:Inv W.G g σ s)(eo:a7 W.G cx κ g s.heap env ρ)(H:ba (ev W.aW W.R a ρ σ)=some (.dict kvs,av))(ok:iZ kvs=true)
 (q:∀an aX d v ps ep,aS W.G s g av an aX->an.heap.IsItemsView v d->an.heap.DictAt (strKind W.G.prog W.G.w) d ps ep->ps.map (λx=>eB x.1)=kvs.map (·.1)->aT aX (ps.map (·.2)) (kvs.map (·.2))->Q (.ref v) an):
 wpAny (model W.G.prog W.G.w) A (eval (.Call (.Attribute o "items" apos) [] [] ic) env) Q (λzz zz=>False) s:=by
 refine xe (hp env) λpl ct=>zy (pl:=pl) ((h.ba rm inv eo H).use λyv an aX st r=>?_) ct
 refine cP (xU hG st.inv r ok) λt ps vw T=>?_;clear r;subst vw
 refine OM T.dict.typeIs Zw Zx PySem.F.type_dict_items T.dict.mapOf.noDict<|Zc (Py Zx T.dict.typeIs PySem.F.entry_dict_items (PySem.F.args_dict_items_1 _) (meets_dict_items (strKind W.G.prog W.G.w) t T.ne) ⟨⟨_,T.dict⟩,?_⟩)
 have keep:∀b o,an.heap.get? b=some o->(an.heap.push {cls:= .type "dict_items",data:= .fields #[.ref t]}).get? b=some o:=λb o e=>bT _ e
 exact mP T.dict λo es ep ho d1 d2 d3=>q _ aX t _ ps ep (st.trans (aS.il (G:=W.G) (tk:=an.toks) st.inv keep)) (bQ _ (cJ _ rfl) rfl rfl) (Aw o es (keep _ _ ho) d1 d2 d3) T.keys T.vals
theorem Q3{x:ah}(h:M6 .oJ x=some d):∃kvs,x= .dict kvs/\iZ kvs=true/\kvs.length<=1000/\d= .list (kvs.map oO):=by
 refine aP h λkvs e1 h=>xa (jY h) λok amy=>?_;clear h;subst amy
 simp only[cm,decide_eq_true_eq] at ok
 exact nL kvs (Ab e1) ok.1 ok.2 rfl
theorem ab.listItems(hW:W.Ok)(hk:cx.kindOf y=some .globalImplicit)(hg:nsIn W.G.K mainGlobals y=some none)(V:bootBuiltins y=some (.type "list"))(h:ab W cx o a)
 (hn:y≠"__name__" :=by decide+kernel) (hd:(y==("__debug__" :Str))=false:=by decide+kernel) (hp:qq o "items" apos ic []:=by intro _;exact⟨_,rfl⟩):
 ab W cx (.Call (.Name y p) [.Call (.Attribute o "items" apos) [] [] ic] [] pos) (.op .oJ (.cons a .nil)):=λzz A s g σ env ρ xs av rm inv eo he=>by
 refine bZ (tn he) λx d H O amz=>?_;clear he;subst amz
 refine jg (Q3 O) λkvs K6 ok hl LH=>?_;clear O;subst K6 LH
 refine kA (lw hW inv eo hk hg V hn hd (mE ?_ (cu rfl) iV))
 refine f8 ?_ (cu rfl)
 refine Ql hW.eU h hp rm inv eo H ok λan aX t v ps ep st hv hm e1 e2=>iU ?_
 have len:ps.length=kvs.length:=by have:=congrArg pR e1;rwa [aw,aw] at this
 refine kdx_call rm.handled hv hm (by refine Y len ?_;exact fG (aB hl (by decide))) λh' tk acc c as kp hD yM hG fM=>?_
 have nv:=TT (a8 _) yM hG e1 e2 (st.inv.sub.trans kp)
 refine xa (nv.cv (s':={an with heap:=h',toks:=tk}) (D:=an.heap.objs.size) st.inv (λzz zz e=>e) kp rfl rfl fq λo e=>by
  rw[show h'.get? _=_ from hD] at e;injection e with vL;subst vL
  exact .no (by simp) rfl) λcz hI=>?_
 exact gC _ (st.trans cz) _ rfl (Is.list (nH (.inr rfl) hD) rfl rfl (fM▸hI))
theorem ab.ad2(hW:W.Ok)(hk:cx.kindOf y=some .globalImplicit)(hg:nsIn W.G.K mainGlobals y=some none)(V:bootBuiltins y=some (.builtin "sorted"))(h:ab W cx o a)
 (hn:y≠"__name__" :=by decide+kernel) (hd:(y==("__debug__" :Str))=false:=by decide+kernel) (hp:qq o "items" apos ic []:=by intro _;exact⟨_,rfl⟩):
 ab W cx (.Call (.Name y p) [.Call (.Attribute o "items" apos) [] [] ic] [] pos) (.bi .sorted (.op .oJ (.cons a .nil))):=λzz A s g σ env ρ xs av rm inv eo he=>by
 refine aP he λMz h0 he=>?_;obtain⟨x,ae⟩:=Mz
 refine aP he λd h3 he=>?_
 injection he with B9;injection B9 with aiL aiM;subst aiL;clear he;subst aiM
 refine bZ (tn (rd h0)) λx' d' H O e=>?_
 clear h0;clear he;injection e with LI asa;injection LI with ahf;subst ahf
 refine jg (Q3 O) λkvs amA ok hl oR=>?_;clear O;subst amA oR
 change (if gX (kvs.map oO) then some (jW (gf (kvs.map oO))) else none)=some d at h3
 refine xa (jY h3) λsok BG=>?_;clear h3;subst BG
 refine kA (lw hW inv eo hk hg V hn hd (y8 ?_ (cu rfl) iV))
 refine f8 ?_ (cu rfl)
 refine Ql hW.eU h hp rm inv eo H ok λan aX t v ps ep st hv hm e1 e2=>iU ?_
 have len:ps.length=kvs.length:=by have:=congrArg pR e1;rwa [aw,aw] at this
 refine Runs.after st ((HF st.inv rm sok λP F hP=>?_).mono λr g' q=>(ai _ rfl q))
 refine kdx_collect rm.handled hv hm (by refine Y len ?_;exact fG (aB hl (by decide))) λh' tk as kp yM hG=>?_
 exact hP _ _ (·∈as) kp rfl rfl (TT (a8 _) yM hG e1 e2 (st.inv.sub.trans kp))
end
section
variable{prog:eE}{w:dg}{A:bV}{E:VS}{s:aJ}
theorem aa5:typeLookup (.type "list") "keys"=pure none:=am_miss_of_fast (by kernel_rfl)
theorem aaN:typeLookup (.type "tuple") "keys"=pure none:=am_miss_of_fast (by kernel_rfl)
set_option maxRecDepth 8000 in
theorem abx
 (hx:s.heap.get? a=some o) (hc:o.cls= .type "list") (iI:o.data= .seq xs k) (hd:o.dict=none) (hA:A.handled=none)
 (h:∀h' tk,(∀b ob,s.heap.get? b=some ob->h'.get? b=some ob)->Q none {s with heap:=h',toks:=tk}):wpAny (model prog w) A (getAttr? (.ref a) "keys") Q E s:=by
 obtain⟨c,CL,dat,sl⟩:=o
 simp only at hc iI hd
 subst hc iI hd
 obtain⟨hp,g,d,tk,os⟩:=s
 have hT:∀jp,(⟨hp,g,d,jp,os⟩:aJ).TypeIs (.ref a) "list" :=λzz=>(ai _ hx rfl)
 have f1:=aai
 have f3:=NZ.lookup
 have f4:=NZ.bind (.ref a)
 have f5:=am_list_getattr_none
 repeat (any_goals (first|assumption|exact hT _|((with_reducible show wpAny _ _ (call (abl "list.__getattribute__") _ _) _ _ _);refine qX NZ (hT _) am_entry_list_getattribute (PySem.F.args_list_getattribute_2 _ _) (meets_getattribute_miss_list a xs k sl _ _ aa5 (by decide+kernel)) (bO hx hA (λh' jp e ng=>?_)))|wp_step))
 refine iz ng.there λt' u' he=>?_
 unfold getattributeRaised
 repeat (any_goals (first|assumption|wp_step))
 exact h _ _ ng.of.keeps
set_option maxRecDepth 8000 in
theorem abb
 (hx:s.heap.get? a=some o) (hc:o.cls= .type "tuple") (iI:o.data= .seq xs k) (hd:o.dict=none) (hA:A.handled=none)
 (h:∀h' tk,(∀b ob,s.heap.get? b=some ob->h'.get? b=some ob)->Q none {s with heap:=h',toks:=tk}):wpAny (model prog w) A (getAttr? (.ref a) "keys") Q E s:=by
 obtain⟨c,CL,dat,sl⟩:=o
 simp only at hc iI hd
 subst hc iI hd
 obtain⟨hp,g,d,tk,os⟩:=s
 have hT:∀jp,(⟨hp,g,d,jp,os⟩:aJ).TypeIs (.ref a) "tuple" :=λzz=>(ai _ hx rfl)
 have f1:=aai
 have f3:=NY.lookup
 have f4:=NY.bind (.ref a)
 have f5:=am_tuple_getattr_none
 repeat (any_goals (first|assumption|exact hT _|((with_reducible show wpAny _ _ (call (abl "tuple.__getattribute__") _ _) _ _ _);refine qX NY (hT _) am_entry_tuple_getattribute (PySem.F.args_tuple_getattribute_2 _ _) (meets_getattribute_miss_tuple a xs k sl _ _ aaN (by decide+kernel)) (bO hx hA (λh' jp e ng=>?_)))|wp_step))
 refine iz ng.there λt' u' he=>?_
 unfold getattributeRaised
 repeat (any_goals (first|assumption|wp_step))
 exact h _ _ ng.of.keeps
theorem wY:plainId "dict.update.loop"=true:=by decide+kernel
theorem G9:entryFor table "dict.update.loop"=some hY.«dict.update.loop» :=entryFor_of_fast (by kernel_rfl)
theorem IG{St D:Nat->aG->Prop}(Wk:vO prog w A.in1.in1 I [I,l] [I] n P St)(Yr:I≠d)(CN:l≠d)
 (fr:∀j h h',D j h->(∀b o,b≠I->h.get? b=some o->h'.get? b=some o)->D j h')
 (step:∀j (s':aJ) u (Q:Unit->aJ->Prop),j<n->P j u->D j s'.heap->∃a k v,u= .ref a/\vN s'.heap a #[k,v]/\((∀h' tk,D (j+1) h'->jV d s'.heap h'->Q () {s' with heap:=h',toks:=tk})->wpAny (model prog w) A.in1.in1 (dictSet d k v) Q (λe s'=>R (.error e) s') s'))
 (hR:∀h' tk,D n h'->R (.ok (.ret .none)) {s with heap:=h',toks:=tk}):
 ∀k i (h:aG) (tk:Nat),n - i=k->i<=n->St i h->D i h->
  wpAny (model prog w) A.in1.in1 (hY.«dict.update.loop» ⟨[.ref d, .ref I,rawInt i, .none],[]⟩) (λfin s'=>match fin with| .done f=>R (.ok f) s'| .again c'=>c'.quiet=true/\codeAny (model prog w) A.in1 c' R s') (λe s'=>R (.error e) s') {s with heap:=h,toks:=tk}
 |0,i,h,tk,hk,hle,dF,hD=>by
  obtain rfl:i=n:=by exact bR hle (Mh (aA hk) (bj _ _))
  refine am (Wk.done _ _ _ dF λh' jp keep=>?_)
  exact am (aH (aH (hR h' jp (fr _ _ _ hD λb o V e=>keep b o (by simpa using V) e))))
 |k+1,i,h,tk,hk,hle,dF,hD=>by
  have a5:i<n:=by exact yk (aA hk.symm) (aU hle)
  refine am (Wk.item i _ _ _ a5 dF λv h' jp hP yt keep=>?_)
  have Gg:=fr i h h' hD λb o V e=>keep b o (by simpa using V) e
  obtain⟨a,kv,vv,rfl,⟨o,ho,hc,m,hd⟩,go⟩:=step i {s with heap:=h',toks:=jp} v _ a5 hP Gg
  have hT:abm {s with heap:=h',toks:=jp} (.ref a) "tuple" :=⟨o,ho,hc⟩
  refine am (jU (am (wpAny_tryCatch ?_)))
  refine am (DF hT ?_)
  rw[if_pos (by decide)]
  refine am (sI ho hd (aH ?_))
  refine jU (go λO CO hD2 gu=>?_)
  have se:((i:Int)+1)=((i+1:Nat):Int):=by push_cast;rfl
  refine Y se<|aH ⟨nB wY _,lV G9 ?_⟩
  exact Y (mF wY _)<|IG Wk Yr CN fr step hR k (i+1) O CO (bR (FH (aA hk) (bj _ _) (aU a5)) (Mi (aA hk.symm) (bj _ _) (aU (qH a5)))) a5 (Wk.frame _ _ _ yt λb V o e=>(gu.2 b (by
   rcases bK.mp V with rfl|V
   .exact Yr
   .exact Y (bY.mp V)<|CN)).trans e) hD2
theorem PG(hT:T="list"\/T="tuple"){D:Nat->aG->Prop}(ho:s.heap.get? l=some o)(hc:o.cls= .type T)(hd:o.data= .seq vs m)(hn:o.dict=none)(hA:A.handled=none)
 (start:D 0 (s.heap.push {cls:= .type "dict",data:= .dict #[]})) (fr:∀I j h h',s.heap.objs.size<I->D j h->(∀b o,b≠I->h.get? b=some o->h'.get? b=some o)->D j h')
 (step:∀j (s':aJ) u (Q:Unit->aJ->Prop) (E:VS),vs[j]? =some u->D j s'.heap->∃a k v,u= .ref a/\vN s'.heap a #[k,v]/\((∀h' tk,D (j+1) h'->jV s.heap.objs.size s'.heap h'->Q () {s' with heap:=h',toks:=tk})->wpAny (model prog w) A.in1.in1 (dictSet s.heap.objs.size k v) Q E s'))
 (q:∀h' tk,D vs.size h'->Q (.ref s.heap.objs.size) {s with heap:=h',toks:=tk}):wpAny (model prog w) A (call (.type "dict") [.ref l]) Q E s:=by
 refine callType_codes (Q₁:=λobj an=>obj= .ref s.heap.objs.size/\an={s with heap:=s.heap.push {cls:= .type "dict",data:= .dict #[]}}) PySem.F.kt_called_dict (PySem.F.kt_typeCall_dict_1 _) PySem.F.entry_dict_init (kt_code_dict_new _ ⟨rfl,rfl⟩) ?_
 intro obj an We;refine xa We λBH amB=>?_;clear We;subst BH amB
 have MT:(s.heap.push {cls:= .type "dict",data:= .dict #[]}).get? s.heap.objs.size=some {cls:= .type "dict",data:= .dict #[]}:=cJ _ rfl
 have eJ:(s.heap.push {cls:= .type "dict",data:= .dict #[]}).get? l=some o:=bT _ ho
 have CN:l≠s.heap.objs.size:=dH (dI ho)
 refine bO ((ai _ MT rfl)) (PySem.F.args_dict_init_2 _ _)<|am<|am (ZJ (ai _ MT rfl) ?_)
 refine aH<|am (DF (T:=T) (ai _ eJ hc) ?_)
 rw[if_pos (by clear hc;rcases hT with rfl|rfl<;>decide)]
 refine am ?_
 have go:∀h' tk,(∀b ob,(s.heap.push {cls:= .type "dict",data:= .dict #[]}).get? b=some ob->h'.get? b=some ob)->wpAny (model prog w) A.in1.in1 (do rule s!"dict.__init__.from-pairs";return <- again (.builtin "dict.update.loop" ⟨[.ref s.heap.objs.size,<- pyIter (.ref l),rawInt 0, .none],[]⟩))
  (λfin s'=>match fin with| .done f=>wants (λr aD=>r= .none/\Q (.ref s.heap.objs.size) aD) E (.ok f) s'| .again c'=>c'.quiet=true/\codeAny (model prog w) A.in1 c' (wants (λr aD=>r= .none/\Q (.ref s.heap.objs.size) aD) E) s')
  (λe s'=>wants (λr aD=>r= .none/\Q (.ref s.heap.objs.size) aD) E (.error e) s') {s with heap:=h',toks:=tk}:=λh' tk keep=>by
  have fy:=keep _ _ eJ
  have bF:s.heap.objs.size<h'.objs.size:=dI (keep _ _ MT)
  have i9:l≠h'.objs.size:=dH (dI fy)
  have D0:∀(O:aG),(∀b ob,h'.get? b=some ob->O.get? b=some ob)->D 0 O:=λO k2=>fr h'.objs.size 0 _ _ bF start λb o zz e=>k2 b o (keep b o e)
  refine am (uI ?_)
  rcases hT with rfl|rfl
  .refine am ((OL (iY _ fy hc _ hd) ?_))
   refine aH ⟨nB wY _,lV G9 ?_⟩
   exact Y (mF wY _)<|IG (s:=s) (QK (prog:=prog) (w:=w) (A:=A.in1.in1) hA h'.objs.size l i9 vs) (lX bF) CN (λj a b x y=>fr _ j a b bF x y) (λj s' u Q hj hu hD=>step j s' u Q _ hu hD) (λO CO hD=>⟨rfl,q O CO hD⟩) _ 0 _ _ rfl (dn _)
    ⟨(bQ _ (cJ _ rfl) rfl rfl),(iY _ (bT _ fy) hc _ hd)⟩ (D0 _ λb o e=>bT _ e)
  .refine am ((wN (iY _ fy hc _ hd) ?_))
   refine aH ⟨nB wY _,lV G9 ?_⟩
   exact Y (mF wY _)<|IG (s:=s) (acq (prog:=prog) (w:=w) (A:=A.in1.in1) hA h'.objs.size l i9 vs) (lX bF) CN (λj a b x y=>fr _ j a b bF x y) (λj s' u Q hj hu hD=>step j s' u Q _ hu hD) (λO CO hD=>⟨rfl,q O CO hD⟩) _ 0 _ _ rfl (dn _)
    ⟨(bQ _ (cJ _ rfl) rfl rfl),(iY _ (bT _ fy) hc _ hd)⟩ (D0 _ λb o e=>bT _ e)
 rcases hT with rfl|rfl
 .exact abx eJ hc hd hn hA λh' tk keep=>go h' tk keep
 .exact abb eJ hc hd hn hA λh' tk keep=>go h' tk keep
end
section
variable{W:Wd}{A:bV}{cx:Cx}{κ:cF}{s:aJ}{g:aG}{σ av:Sg}{ρ:List aK}{xs:List as7}{k:Op}{a b c:E}{i:Nat}{x:Str}
theorem HI:∀{xs:List ah} {ps:List (ah×ah)},pairsOf xs=some ps->xs=ps.map oO
 |[],_,h=>by injection h with KE;subst KE;rfl
 |x::xs,ps,h=>by
  refine aP h λp H h=>iK h λr O vp=>?_;subst vp
  refine Y bE<|sl (HI O)<|Y (QP H) ?_;rfl
theorem TU{vs:Array ao}{ps:List (ah×ah)}(r:aT g vs.toList (ps.map oO)){j:Nat}(hu:vs[j]? =some u):∃t k v p,u= .ref t/\vN g t #[k,v]/\ps[j]? =some p/\Is g k p.1/\Is g v p.2:=by
 refine xe (wG.mp hu) λhj e=>?_
 have hl:=r.length
 rw[aw,eV] at hl
 have jM:=hl▸hj
 refine ar (r.get (k:=j) (d:=oO ps[j]) (by simp[jM])) λw e1 e2=>?_
 rw[lR,hu] at e1
 clear e;injection e1 with Br;clear hu;subst Br
 refine ja (Is.kH e2) λt o ws n ao0 ho hc hd q=>?_;clear e2;subst ao0
 refine bZ q.cons_inv λk w1 z1 q1 z2=>bZ z2.cons_inv λv w2 amC q2 z3=>?_;clear z2;subst amC
 obtain rfl:=z3.nil_inv
 refine zF t k v (ps[j]) rfl ((iY o ho hc n ?_)) (by simp[jM]) q1 q2
 refine Y hd ?_;congr 1;exact Dr.mp z1
theorem acS{k:Str}:(stored kvs k v).length<=kvs.length+1:=by
 unfold stored
 split<;>simp
theorem ab.m9(hW:W.Ok)(hk:cx.kindOf y=some .globalImplicit)(hg:nsIn W.G.K mainGlobals y=some none)(V:bootBuiltins y=some (.type "dict"))(h:ab W cx v a)
 (hn:y≠"__name__" :=by decide+kernel) (hd:(y==("__debug__" :Str))=false:=by decide+kernel) (hs:eW v=true:=by rfl):ab W cx (.Call (.Name y p) [v] [] pos) (.op .m9 (.cons a .nil)):=λzz A s g σ env ρ xs av rm inv eo he=>by
 refine bZ (tn he) λx d H O vJ=>?_;clear he;subst vJ
 refine aP O λys e0 O=>?_
 have hc:¬(fc x==5 && ys.isEmpty)=true:=λc=>by rw[if_pos c] at O;exact aC O
 rw[if_neg hc] at O
 have h3:ys.length<=1000/\∃ps kvs,ys=ps.map oO/\uQ [] ps=some kvs/\d= .dict kvs:=by
  refine xa (jZ O) λc1 O=>aP O λps e1 O=>aP O λkvs e2 O=>xa (jY O) λzz BI=>?_;clear O;subst BI
  exact uW (of_decide_eq_true c1) ps kvs (HI e1) e2 rfl
 refine EU h3 λhl ps kvs amD bW LH=>?_;clear h3;subst amD;clear O;subst LH
 have bB:fc x=5->∃p r,ps=p::r:=λe=>by
  clear bW e0 hl;cases ps with
  |nil=>exact absurd (by refine Y e ?_;rfl) hc
  |cons p r=>exact ie p r rfl
 refine kA (lw hW inv eo hk hg V hn hd (mE ?_ (cu hs) iV))
 refine f8 ?_ (cu hs)
 refine(h.ba rm inv eo H).use λu an aX st q=>iU ?_
 have src:∃T l o vs m,(T="list"\/T="tuple")/\u= .ref l/\aX.get? l=some o/\o.cls= .type T/\o.data= .seq vs m/\o.dict=none/\aT aX vs.toList (ps.map oO):=by
  clear H;rcases Ix e0 with rfl|rfl
  .refine ja (Is.s7 q) λl o vs m amE z1 z2 z3 z4=>?_;clear bW hl e0 hc O q;subst amE
   refine uZ _ l o vs m (mO (.inl rfl) rfl z1 z2 z3 ((st.inv.tab l o z1 ?_).seq (.inr z2)) z4)
   rintro rfl
   refine mP hW.eU.Nb λo' k6 n' e zz dw hi=>?_
   have:=st.inv.base _ _ e
   rw[z1] at this;clear e;injection this with KR;subst KR
   rw[z3] at dw;injection dw with vi amF;subst vi amF
   refine iz (bB (by simp[fc])) λp r LD=>?_;clear bB;subst LD
   refine bZ (aT.cons_inv z4) λw us e1 q1 zz=>iz (hi w (by refine Y e1 ?_;exact .head _)) λi t vt=>?_;clear e1;subst vt
   exact xQ (Is.kH q1) λl' zz zz zz e2 zz=>C' e2
  .refine ja (Is.kH q) λl o vs m amG z1 z2 z3 z4=>?_;clear q;subst amG
   exact uZ _ l o vs m (mO (.inr rfl) rfl z1 z2 z3 ((st.inv.tab l o z1 (JB hW.eU st.inv z1 (by refine Y z2 ?_;decide))).seq (.inl z2)) z4)
 refine oI src λT l o vs m zz=>nG zz λhT amH z1 z2 z3 z4 r=>?_;clear src;clear O q;subst amH
 have br:vs.size=ps.length:=by have:=r.length;rwa [aw,eV] at this
 rw[aw] at hl
 refine PG (D:=λj h=>(∀b o,an.heap.get? b=some o->h.get? b=some o)/\∃kv qs,uQ kv (ps.drop j)=some kvs/\h.DictOf (strKind W.G.prog W.G.w) an.heap.objs.size qs/\qs.map (λx=>eB x.1)=kv.map (·.1)/\aT aX (qs.map (·.2)) (kv.map (·.2))/\qs.length<=j)
  hT (st.inv.sub _ _ z1) z2 z3 z4 rm.handled (RX (λb o e=>bT _ e) ([]) ([]) bW (aaU an.heap) rfl (.nil) (dn _)) ?_ ?_ ?_
 .intro I j h h' hI ao1 kp;exact EU ao1 λk1 kv qs e1 amI e3=>gE amI λo es ep ho e2=>uW (λb o e=>kp b o (dH (abK (dI e) hI)) (k1 b o e)) kv qs e1 ((tE o es ep (kp _ _ (dH hI) ho) e2)) e3
 .intro j s' u Q E hu amJ;refine RW amJ λk1 kv qs e1 e2 e3 e4 e5=>ja (TU r hu) λt ky vl p amK Wf hp q1 q2=>?_;clear hu;subst amK;refine ar Wf λo ho w2=>xe (GH.mp hp) λhj ej=>?_
  rw[C8 hj,ej] at e1
  refine aP e1 λk f1 f2=>?_
  rw[uP f1] at q1
  refine xe q1.str_inv λtk ao2=>?_;clear Wf;subst ao2
  refine EX t _ vl rfl ((ai o (k1 _ _ (st.inv.sub _ _ ho)) w2)) (λhQ=>?_)
  refine wpAny_dictSet_pairs (mM W.G.prog W.G.w k tk) e2 (λh' dw hJ=>hQ h' _ (RX (λb o e=>(hJ.2 b (dH (dI e))).trans (k1 b o e)) (m3 kv k p.2) _ f2 dw ?_ ?_ (aB acS (pK e5))) hJ) (fG (aB e5 (aB (fA hj) (aB hl (by decide)))))
  .exact(JC e3 e4 q2).1
  .exact(JC e3 e4 q2).2
 .intro h' tk Wg;refine RW Wg λk1 kv qs e1 e2 e3 e4 zz=>?_
  rw[br,wS] at e1
  clear bW Wg;injection e1 with Bk;subst Bk
  exact ar (TN (s':={an with heap:=h',toks:=tk}) st.inv k1 rfl rfl fq e2 e3 e4) λg' cz q'=>gC g' (st.trans cz) _ rfl q'
open Classical in
theorem abY{xs:List (ah×az×ao)}{k:ah}{a:az}{v:ao}:(storedH xs k a v).length<=xs.length+1:=by
 unfold storedH
 split<;>simp
open Classical in
theorem ab.dedup(hW:W.Ok)(hk:cx.kindOf y=some .globalImplicit)(hg:nsIn W.G.K mainGlobals y=some none)(V:bootBuiltins y=some (.type "dict"))(jH:cx.kindOf z=some .globalImplicit)(Nx:nsIn W.G.K mainGlobals z=some none)(fF:bootBuiltins z=some (.type "list"))(h:tY W cx v a)
 (hn:y≠"__name__" :=by decide+kernel) (hd:(y==("__debug__" :Str))=false:=by decide+kernel) (lM:z≠"__name__" :=by decide+kernel) (dw:(z==("__debug__" :Str))=false:=by decide+kernel) (hs:eW v=true:=by rfl):
 ab W cx (.Call (.Name z p') [.Call (.Name y p) [v] [] pos] [] pos') (.op .dedup (.cons a .nil)):=λzz A s g σ env ρ xs av rm inv eo he=>by
 refine bZ (tn he) λx d H O Lk=>?_;clear he;subst Lk
 refine aP O λys e0 O=>xa (jZ O) λc1 O=>aP O λps e1 O=>iK O λkvs bW j4=>?_;clear O;subst j4
 clear O;obtain rfl:=HI e1
 obtain rfl:=xy e0
 have hl:=of_decide_eq_true c1
 rw[aw] at hl
 refine kA (lw hW inv eo jH Nx fF lM dw (mE (f8 ?_ (cu rfl)) (cu rfl) iV))
 refine kA (lw hW inv eo hk hg V hn hd (mE ?_ (cu hs) iV))
 refine f8 ?_ (cu hs)
 refine(h.ba rm inv eo H).use λu an aX st MI=>xa MI λF0 q=>ar F0 λD eD hD=>iU<|ja (Is.s7 q) λl o vs m Kl z1 z2 z3 r=>?_;subst Kl
 cases eD
 have hax:D≠W.G.ax:=by
  rintro rfl
  refine gE hW.eU.Nb λo' zz zz e zz=>?_
  rw[inv.sub _ _ (inv.base _ _ e)] at hD;cases hD
 have z4:=(st.inv.tab D o z1 hax).seq (.inr z2)
 have br:vs.size=ps.length:=by have:=r.length;rwa [aw,eV] at this
 refine PG (D:=λj h=>(∀b o,an.heap.get? b=some o->h.get? b=some o)/\∃kv qs,x8 kv (ps.drop j)=some kvs/\r7 W.G.prog W.G.w h an.heap.objs.size qs/\(∀z∈qs,r8 aX z.1 z.2.1)/\qs.map (·.1)=kv.map (·.1)/\aT aX (qs.map λx=> .ref x.2.1) (kv.map (·.1))/\aT aX (qs.map (·.2.2)) (kv.map (·.2))/\qs.length<=j)
  (.inl rfl) (st.inv.sub _ _ z1) z2 z3 z4 rm.handled (P5 (λb o e=>bT _ e) ([]) ([]) bW (ar1 an.heap) ((λzz h=>nomatch h)) rfl (.nil) (.nil) (dn _)) ?_ ?_ ?_
 .intro I j h h' hI amL kp;refine To amL λk1 kv qs e1 e2 e3 e4=>?_
  have CM:=λb o e=>kp b o (dH (abK (dI e) hI)) (k1 b o e)
  exact pU (r7.parts e2) λo es ep ho w1 w2 w3 zz w5=>IZ CM kv qs e1 (.of (sU o es ep (kp _ _ (dH hI) ho) w1 w2 w3 (λz hz=>(e3 z hz).mono (st.inv.sub.trans CM)) w5)) e3 e4
 .intro j s' u Q E hu amM;refine P4 amM λk1 kv qs e1 e2 e3 e4 e5 e6 e7=>ja (TU r hu) λt ky vl p ao3 Xn hp q1 q2=>?_;clear hu;subst ao3;refine ar Xn λo ho w2=>xe (GH.mp hp) λhj ej=>?_
  rw[C8 hj,ej] at e1
  refine xa (jZ e1) λok f2=>ar (JD ok Sub.rfl q1) λkb amN Ys=>?_;clear Xn;subst amN
  refine EX t _ vl rfl ((ai o (k1 _ _ (st.inv.sub _ _ ho)) w2)) (λhQ=>?_)
  refine fU (TP e4 e6 e5 (λz hz=>(e3 z hz).1) ok q2 q1) λp1 p2 p3 zz=>wpAny_dictSet_heap (knd:=E0 W.G.prog W.G.w) (XV (k:= 22) rm.units (by decide)) (Ys.mono (st.inv.sub.trans k1)) e2 (λh' dw hJ=>?_) (fG (aB e7 (aB (fA hj) (aB hl (by decide)))))
  refine hQ h' _ (P5 (λb o e=>(hJ.2 b (dH (dI e))).trans (k1 b o e)) (ml kv p.1 p.2) _ f2 dw (λz hz=>?_) p1 p3 p2 (aB abY (pK e7))) hJ
  rcases PF z hz with⟨f1,f2⟩|⟨z',f0,f1,f2⟩
  .exact Y f1<|Y f2<|Ys
  .exact Y f1<|Y f2<|e3 z' f0
 .intro h' tk amO;refine P4 amO λk1 kv qs e1 e2 e3 e4 e5 e6 e7=>?_
  rw[br,wS] at e1
  cases e1
  refine pU (r7.parts e2) λo es ep ho w1 w2 w3 zz zz=>?_
  have lo:(an.heap.objs.size==sysModules)=false:=by
   rw[beq_eq_false_iff_ne]
   intro z
   refine R0 hW.eU.sys λo' zz zz zz zz zz q1 zz=>?_
   have:=dI (st.inv.mT _ _ q1)
   rw[<- z] at this
   exact pN _ this
  have qQ:es.toList.map (·.key)=qs.map λx=> .ref x.2.1:=by refine Y w3<|Y dW ?_;rfl
  have hn:es.size=qs.length:=by
   have:=congrArg pR qQ
   rwa [aw,aw,eV] at this
  refine iU (kdl_call (TQ lo) rm.handled (bQ o ho w1 w2) (hn▸fG (aB e7 (br▸aB hl (by decide)))) λf6 jp acc c kp hD fM=>?_)
  have hv:acc.toList=es.toList.map (·.key):=by
   apply ON
   intro j
   refine Y lR<|Y ll<|Y lR ?_
   cases e:acc[j]? with
   |some v=>
    refine ar (fM.2 j v e) λe' H O=>Y H<|Y O ?_;rfl
   |none=>
    have:es[j]? =none:=ux (fM.1▸N3.mp e)
    refine Y this ?_;rfl
  have kk:=λb o e=>kp b o (k1 b o e)
  have hI:aT aX acc.toList (kvs.map (·.1)):=by exact Y hv<|Y qQ<|e5
  refine xa ((rQ.old (h:=f6) hI (st.inv.sub.trans kk)).cv (s':={an with heap:=f6,toks:=jp}) (D:=h'.objs.size) st.inv (λzz zz e=>e) kk rfl rfl (by
   cases e:an.heap.get? h'.objs.size with
   |none=>rfl
   |some o=>exact absurd (dI (k1 _ _ e)) (pN _)) λo e=>by
   rw[show f6.get? h'.objs.size=_ from hD] at e;injection e with vz;subst vz
   exact .no (by simp) rfl) λcz hI'=>?_
  exact gC _ (st.trans cz) _ rfl (Is.list (nH (.inr rfl) hD) rfl rfl hI')
end
noncomputable def qt:ao->Option Str
 | .str x _=>some x
 | .none=>none| .bool _=>none| .int _ _=>none| .ref _=>none| .type _=>none| .builtin _=>none| .float _ _=>none| .bytes _ _=>none| .notImplemented=>none| .ellipsis=>none
noncomputable def l8(w:dg):Bool:=w.params.followText "set-order"
structure E4(w:dg)(n:Nat)(t:nF):Prop where
 fits:t.fits n=true
 led:t.led= !l8 w
 plain:n≠0->t.plain=false
def mm(prog:eE)(w:dg)(h:aG)(D:az)(zs:List Str):Prop:=
 ∃o es ep t,h.get? D=some o/\o.ExactSet/\o.data= .set es ep t/\ElemsOf (strKind prog w) es.toList/\E4 w es.size t/\(es.toList.map λe=>qt e.2).Perm (zs.map some)/\zs.length< 64
theorem acT(t:nF)(es:Array (Int×ao))(h:Int)(x:ao):(layNew t es h x).2.1.led=t.led:=by
 unfold layNew
 split
 .dsimp only
  unfold SetTable.orStandIn
  split<;>rfl
 .rfl
set_option tactic.hygienic true in
theorem aby(t:nF)(es:Array (Int×ao))(k:Nat):(relayAll t es k).2.1.led=t.led/\(t.plain=false->(relayAll t es k).2.1.plain=false):=by
 unfold relayAll
 split
 .rename_i t' order e
  have:t'.led=t.led/\t'.plain=t.plain:=by
   unfold SetTable.relaid SetTable.laid at e
   cases z:SetTable.layClean (SetTable.sizeAbove k - 1) (es.map (·.1)) with
   |none=>rw[z] at e;exact aC e
   |some ow=>rw[z] at e;injection e with LB;injection LB with ahg ahh;subst ahg ahh;exact⟨rfl,rfl⟩
  dsimp only
  split
  .exact⟨this.1,λp=>this.2.trans p⟩
  .exact⟨rfl,λzz=>rfl⟩
 .exact⟨rfl,λzz=>rfl⟩
section
variable{prog:eE}{w:dg}{A:bV}{E:VS}{s:aJ}
theorem H6{k:Str}{v:ao}:(strKind prog w).is k v=true↔qt v=some k:=by
 constructor
 .intro h
  refine xe (E3 h) λt oT=>?_;clear h;subst oT
  rfl
 .intro h
  cases v<;>first|exact aC h|(injection h with h;subst h)
  exact mM _ _ _ _
theorem mm.LJ{h:aG}{D:az}{zs:List Str}{es:Array (Int×ao)}(p:(es.toList.map λe=>qt e.2).Perm (zs.map some)):es.size=zs.length:=by
 have:=p.length_eq
 rwa [aw,aw,eV] at this
theorem Qm{h:aG}{D:az}{o:Obj}{es jO:Array (Int×ao)}{ep:Nat}{t t':nF}{zs:List Str}(ho:h.get? D=some o)(hex:o.ExactSet)(hd:o.data= .set es ep t)(he:ElemsOf (strKind prog w) jO.toList)(hi:E4 w jO.size t')(hp:(jO.toList.map λe=>qt e.2).Perm (zs.map some))(hl:zs.length< 64):
 (h.update D (DU jO t')).get? D=some {o with data:= .set jO (ep+1) t'}/\mm prog w (h.update D (DU jO t')) D zs:=by
 have hg:(h.update D (DU jO t')).get? D=some {o with data:= .set jO (ep+1) t'}:=by
  have:=wH (DU jO t') ho (by refine Y (putSet_of jO t' hd) ?_;rfl)
  rw[putSet_of jO t' hd] at this;exact this
 exact UJ hg _ jO (ep+1) t' (mO hg hex rfl he hi hp hl)
theorem add_str{D:az}{zs:List Str}{k:Str}{tk:Tok}{Q:Bool->aJ->Prop}(hS:mm prog w s.heap D zs)(hl:zs.length< 63)
 (h:∀h' b,jV D s.heap h'->mm prog w h' D (fu zs k)->Q b {s with heap:=h'}):wpAny (model prog w) A (setAddHashed D (.str k tk) ((strKind prog w).hash k)) Q E s:=by
 have Xo:(strKind prog w).is k (.str k tk)=true:=mM _ _ _ _
 have bg:(RS k tk).scannable=true:=rfl
 refine x6 (id hS) λo es ep t zz=>nG zz λho hex hd Gh amP hp hz=>?_;obtain⟨hf,Xp,ct⟩:=amP
 have bF:=mm.LJ (h:=s.heap) (D:=D) hp
 have V:es.size<scanBound:=by unfold scanBound;exact aM [(B,v1),(J v1 k1,(.num 63))] (J B k1,(.num 4096)) (by kernel_rfl) (aA bF) hl
 refine jU (am (uA ho hd hf ?_))
 dsimp only
 refine Y (byScan_of bg V Gh)<|am<|am (uI ?_)
 refine am (wpAny_setScan_of Xo ho hd hf Gh ?_)
 have there:(∃e∈es.toList,(strKind prog w).is k e.2=true)↔k∈zs:=by
  constructor
  .intro amQ;refine ar amQ λe he q=>?_
   have:some k∈zs.map some:=hp.mem_iff.mp (fQ.mpr (ai e he (H6.mp q)))
   simpa using this
  .intro q
   exact cr ((hp.mem_iff.mpr (fQ.mpr (ai k q rfl)))) λe he z=>ai e he (H6.mpr z)
 cases hr:List.findIdx? (λe=>(strKind prog w).is k e.2) es.toList with
 |some j=>
  refine ar (Y8.mp hr) λhj hpj zz=>?_
  have hk:k∈zs:=there.mp (ai _ (kz hj) hpj)
  have e:fu zs k=zs:=by unfold fu;rw[if_pos (by simpa using hk)]
  refine aH (aH ?_)
  exact h s.heap _ (aav D s.heap) (Y e<|hS)
 |none=>
  have hk:k ∉ zs:=λq=>by
   refine ar (there.mpr q) λe he z=>?_
   have:=Zl.mp hr e he
   rw[this] at z;exact aQ z
  have e:fu zs k=zs++[k]:=by unfold fu;rw[if_neg (by simpa using hk)]
  rw[e] at h
  have Yt:∀(b:Bool) {an:aJ} {Q':Unit->aJ->Prop},Q' () an->wpAny (model prog w) A (match b with|true=>rule "set.scan.the-table-gave-way" |false=>pure ()) Q' E an:=
   λb an Q' hq=>by cases b<;>first|exact aH hq|exact uI hq
  have vo:=layNew_perm t es ((strKind prog w).hash k) (.str k tk)
  have LK:=layNew_fits t es ((strKind prog w).hash k) (.str k tk)
  have LL:=acT t es ((strKind prog w).hash k) (.str k tk)
  generalize layNew t es ((strKind prog w).hash k) (.str k tk)=L at vo LK LL⊢
  obtain⟨iQ,t1,afn,asu⟩:=L
  rw[G0] at vo
  have Xq:ElemsOf (strKind prog w) iQ.toList:=(Gh.push Xo bg).perm vo
  have yO:(iQ.toList.map λe=>qt e.2).Perm ((zs++[k]).map some):=by
   exact(vo.map _).trans<|Y fk<|Y fk<|hp.append (.refl _)
  have oa:(zs++[k]).length< 64:=by refine Y cS ?_;simp;exact be [(J B k1,(.num 63))] (J (J B k1) k1,(.num 64)) rfl hl
  have yP:iQ.size<=sizeLine:=by
   exact Y (mm.LJ (h:=s.heap) (D:=D) yO)<|Y HB<|mu oa rfl
  refine am (Yt _ ?_)
  have tail:∀t2:nF,E4 w iQ.size t2->wpAny (model prog w) A (do
   storeSet D iQ t2
   if (!afn && t2.tooFull)=true then do
       (match (relayAll t2 iQ (w4 iQ.size)).2.2 with|true=>rule "set.scan.the-table-gave-way" |false=>pure ())
       storeSet D (relayAll t2 iQ (w4 iQ.size)).1 (relayAll t2 iQ (w4 iQ.size)).2.1
       pure (some true)
    else pure (some true)) (λr s'=>∃h',jV D s.heap h'/\mm prog w h' D (zs++[k])/\r=some true/\s'={s with heap:=h'}) E s:=by
   intro t2 hi
   refine am (aaw ho hd ?_ yP)
   refine xa (Qm ho hex hd Xq hi yO oa) λpk hS1=>?_
   have Xr:=ku s.heap D (DU iQ t2)
   split
   .have qR:=relayAll_perm t2 iQ (w4 iQ.size)
    have wy:=relayAll_fits t2 iQ (w4 iQ.size)
    have Ny:=aby t2 iQ (w4 iQ.size)
    generalize relayAll t2 iQ (w4 iQ.size)=Rl at qR wy Ny⊢
    obtain⟨es2,t3,asb⟩:=Rl
    have gu:es2.size=iQ.size:=by exact sl eV<|Y qR.length_eq<|Y eV rfl
    refine am (Yt _ ?_)
    refine am (aaw pk rfl ?_ (gu▸yP))
    exact xa (Qm (prog:=prog) (zs:=zs++[k]) pk hex rfl (Xq.perm qR) ⟨wy,Ny.1.trans hi.led,λn=>Ny.2 (hi.plain (gu▸n))⟩ ((qR.map _).trans yO) oa) λzz Nz=>aH (nL _ (Xr.trans (ku _ D _)) Nz rfl rfl)
   .exact aH (nL _ Xr hS1 rfl rfl)
  split
  .refine am<|Y (hashByValue_scannable 8 bg)<|aH<|cn (tail {t1 with plain:=false} ⟨SetTable.fits_plain_off LK,LL.trans Xp,λzz=>rfl⟩) (λr s' Xs=>jg Xs λh' q1 q2 q3 q4=>by clear Xs;subst q3 q4;exact aH (h h' true q1 q2)) λzz zz e=>e
  .rename_i hnp
   refine am (aH ?_)
   exact cn (tail t1 ⟨LK,LL.trans Xp,λzz=>by simpa using hnp⟩) (λr s' Xu=>jg Xu λh' q1 q2 q3 q4=>by clear Xu;subst q3 q4;exact aH (h h' true q1 q2)) λzz zz e=>e
theorem ahi(a:ao){Q₁:VS}
 (h:Q₁ (.ref s.heap.objs.size) {s with heap:=s.heap.push {cls:= .type "set",dict:=none,data:= .set #[] 0 (.fresh 0 0 (!l8 w))}}):
 codeAny (model prog w) A (.call (.builtin "set.__new__") ⟨[.type "set",a],[]⟩) (wants Q₁ E) s:=by
 refine OY ?_
 show wpAny _ A.in1 (do checkBuiltinCall "set.__new__" ⟨[.type "set",a],[]⟩;again (.builtin "set.__new__" ⟨[.type "set",a],[]⟩)) _ _ s
 refine am (DM (PySem.F.newCall_set_1 a) (aH ⟨nB ZP _,lV PySem.F.entry_set_new ?_⟩))
 refine Y (mF ZP _) ?_
 have pa:=sub_set_self
 obtain⟨hp,g,d,tk,os⟩:=s
 wp_walk
 refine wT (aH ?_)
 refine am (wpAny_alloc (aH ?_))
 exact aH h
def strAt(ss:List Str)(i:Nat)(v:ao):Prop:=∃t,v= .str (ss.getD i (bl "")) t
theorem afo{R:x5->aJ->Prop}{I l S:az}{n:Nat}{St:Nat->aG->Prop}{P:Nat->ao->Prop}(ss:List Str)(hn:n=ss.length)(hl:ss.length< 63)(Wk:vO prog w A.in1 I [I,l] [I] n P St)(hP:∀i v,P i v->strAt ss i v)(Yu:S≠I)(sw:S≠l):
 ∀(k i:Nat) (h:aG) (tk:Nat),n - i=k->i<=n->St i h->mm prog w h S ((ss.take i).foldl fu [])->(∀b o,b≠S->b≠I->s.heap.get? b=some o->h.get? b=some o)->
  (∀h' tk,(∀b o,b≠S->b≠I->s.heap.get? b=some o->h'.get? b=some o)->mm prog w h' S (ss.foldl fu [])->R (.ok (.ret .none)) {s with heap:=h',toks:=tk})->
  codeAny (model prog w) A (.builtin "set.update.loop" ⟨[.ref S, .ref I],[]⟩) R {s with heap:=h,toks:=tk}:=by
 have Wh:∀{h h':aG} {zs:List Str},mm prog w h S zs->(∀b o,b≠I->h.get? b=some o->h'.get? b=some o)->mm prog w h' S zs:=λ{h h' zs} NA k=>xQ NA λo es ep t ho r=>(fS o es ep t (k _ _ Yu ho) r)
 intro k
 induction k with
 |zero=>
  intro i h tk hk hi dF hS kp hR
  obtain rfl:i=n:=by exact bR hi (Mh (aA hk) (bj _ _))
  refine lV Y5<|Y (mF NX _)<|am (Wk.done _ _ _ dF λh' jp keep=>?_)
  have vH:∀b o,b≠I->h.get? b=some o->h'.get? b=some o:=λb o V e=>keep b o (by simpa using V) e
  rw[hn,List.take_length] at hS
  exact aH (hR h' jp (λb o H O e=>vH b o O (kp b o H O e)) (Wh hS vH))
 |succ k ih=>
  intro i h tk hk hi dF hS kp hR
  have a5:i<n:=by exact yk (aA hk.symm) (aU hi)
  refine lV Y5<|Y (mF NX _)<|am (Wk.item i _ _ _ a5 dF λv h' jp Yv yt keep=>?_)
  have vH:∀b o,b≠I->h.get? b=some o->h'.get? b=some o:=λb o V e=>keep b o (by simpa using V) e
  refine xe (hP i v Yv) λt LA=>?_;clear Yv;subst LA
  have nh:=Wh hS vH
  have len:((ss.take i).foldl fu []).length<=i:=by
   have:∀(l:List Str) (z:List Str),(l.foldl fu z).length<=z.length+l.length:=by
    intro l
    induction l with
    |nil=>intro z;simp
    |cons a l ih=>
     intro z
     refine Y OW<|Y bL<|aB (ih _) ?_
     have:(fu z a).length<=z.length+1:=by unfold fu;split<;>simp
     exact aO [(B,J v1 k1)] (J B v2,J v1 (J v2 k1)) rfl this
   have H:=this (ss.take i) []
   have O:(ss.take i).length<=i:=by exact Y G4<|nA ..
   simp only[dO,js] at H
   exact aB H O
  refine am (jU ?_)
  refine jU<|am ((strKind prog w).pyHash (k:=ss.getD i (bl "")) (mM _ _ _ _) ?_)
  refine add_str (s:={s with heap:=h',toks:=jp+1}) nh (bM [(B,v1),(J v1 k1,v2),(J v3 k1,(.num 63)),(v2,v3)] (J B k1,(.num 63)) rfl len a5 hl (aA hn)) λO b mA Nz=>aH ⟨nB NX _,ih (i+1) O (jp+1) (bR (FH (aA hk) (bj _ _) (aU a5)) (Mi (aA hk.symm) (bj _ _) (aU (qH a5)))) a5 (Wk.frame _ _ _ yt λb V o e=>?_) ?_ (λb o H O e=>?_) hR⟩
  .refine(mA.2 b ?_).trans e
   clear Wk ih kp hR;rcases bK.mp V with rfl|V
   .exact oH Yu
   .exact Y (bY.mp V)<|oH sw
  .have hN:i<ss.length:=hn▸a5
   refine Y (List.take_succ_eq_append_getElem hN)<|Y List.foldl_append ?_
   simpa [uu,hN] using Nz
  .exact(mA.2 b H).trans (vH b o O (kp b o H O e))
end
set_option maxRecDepth 100000
section
variable{prog:eE}{w:dg}{A:bV}{E:VS}{s:aJ}
set_option maxHeartbeats 3200000 in
theorem abc(hh:A.handled=none)(hl:s.heap.IsList l items)(hi:∀i v,items[i]? =some v->strAt ss i v)(hn:items.size=ss.length)(V:ss.length< 63)
 (h:∀(h':aG) (tk:Nat),mm prog w h' s.heap.objs.size (ss.foldl fu [])->(∀b o,s.heap.get? b=some o->h'.get? b=some o)->Q (.ref s.heap.objs.size) {s with heap:=h',toks:=tk}):
 wpAny (model prog w) A (call (.type "set") [.ref l]) Q E s:=by
 refine iz uz.mro λc tl asv=>?_
 have asd:=uz.made
 have pa:=uz.sub
 refine QJ (OY ?_)
 refine aH ⟨Code.quiet_builtin _ (by decide+kernel),lV PySem.F.entry_type_call ?_⟩
 refine Y (Around.under_plain (weight_type_call_type "set" [.ref l] []) rfl) ?_
 have H:=uz.notType
 have O:=uz.canCreate
 have hct:=PySem.F.typeCall_set_1 (.ref l)
 repeat (any_goals (first|assumption|wp_step))
 refine zu (ahi (.ref l) (E:=E) (Q₁:=λobj an=>obj= .ref s.heap.objs.size/\an={s with heap:=s.heap.push {cls:= .type "set",dict:=none,data:= .set #[] 0 (.fresh 0 0 (!l8 w))}}) ⟨rfl,rfl⟩) λr an hr=>?_
 cases r with
 |error e=>exact hr
 |ok fl=>
  cases fl with
  |ret obj=>
   refine xa hr λamR rA=>?_;clear hr;subst amR rA
   have hS:(s.heap.push {cls:= .type "set",dict:=none,data:= .set #[] 0 (.fresh 0 0 (!l8 w))}).get? s.heap.objs.size=some {cls:= .type "set",dict:=none,data:= .set #[] 0 (.fresh 0 0 (!l8 w))}:=cJ _ rfl
   have hT:abm {s with heap:=s.heap.push {cls:= .type "set",dict:=none,data:= .set #[] 0 (.fresh 0 0 (!l8 w))}} (.ref s.heap.objs.size) "set" :=ai _ hS rfl
   have hli:=uz.init.lookup
   have hbi:=uz.init.bind (.ref s.heap.objs.size)
   repeat (any_goals (first|assumption|wp_step))
   refine zu (codeAny_call_builtin (R:=wants (λr aD=>r= .none/\∃h' tk,aD={s with heap:=h',toks:=tk}/\mm prog w h' s.heap.objs.size (ss.foldl fu [])/\(∀b o,s.heap.get? b=some o->h'.get? b=some o)) E) uz.init.plain PySem.F.entry_set_init (check_set_init_1 hT ?_)) λao4 aD Fy=>?_
   .refine mX hl λol yN iA nl i7=>?_
    obtain⟨asw,amS,ase,aiN⟩:=ol
    simp only at iA i7
    subst iA i7
    have ao5:(s.heap.push {cls:= .type "set",dict:=none,data:= .set #[] 0 (.fresh 0 0 (!l8 w))}).get? l=some {cls:= .type "list",dict:=amS,data:= .seq items nl,slots:=aiN}:=bT _ yN
    have asx:=PySem.F.sub_list_set
    have asy:=PySem.F.sub_list_frozenset
    have bB:(mL "list"==mL "dict")=false:=by decide
    have qS:(s.heap.push {cls:= .type "set",dict:=none,data:= .set #[] 0 (.fresh 0 0 (!l8 w))}).IsList l items:=iY _ ao5 rfl nl rfl
    unfold hY.«set.__init__» PySem.noKeywords arQ
    generalize hPI:pyIter=PI
    wp_walk
    subst hPI
    refine OL qS<|am (O5 ?_)
    have Yw:l<s.heap.objs.size:=dI yN
    have hz:(s.heap.push {cls:= .type "set",dict:=none,data:= .set #[] 0 (.fresh 0 0 (!l8 w))}).objs.size=s.heap.objs.size+1:=kF ..
    refine afo (s:=s) ss hn V (QK (show A.in1.in1.in1.handled=none from hh) _ l (by refine Y hz ?_;exact dH (G1 Yw)) items) hi (by exact Y hz<|dH (wR _)) (lX Yw) (items.size - 0) 0 _ _ rfl (dn _)
     ⟨(bQ _ (cJ _ rfl) rfl rfl),qS.push _⟩ (AJ _ (#[]) 0 _ (mO (bT _ hS) ((bO rfl rfl rfl)) rfl ((λe he=>by simp at he)) (⟨rfl,rfl,λn=>absurd rfl n⟩) (.nil) (by simp)))
     (λb o zz zz e=>bT _ (bT _ e)) λh' jp kp nh=>?_
    exact aH<|aH (uW rfl h' jp rfl nh (λb o e=>kp b o (dH (dI e)) (Y hz<|dH (G1 (dI e))) e))
   .cases ao4 with
    |error e=>exact Fy
    |ok amT=>
     cases amT with
     |ret r=>
      refine EU Fy λBy h' tk amU nh jH=>?_;clear Fy;subst By amU
      repeat (any_goals (first|assumption|wp_step))
      exact h _ _ nh jH
     |_=>exact Fy.elim
  |_=>exact hr.elim
end
set_option maxRecDepth 100000
theorem So:Manifest.owners.lookup (String.ofList ['r','o','t','a','r','e','t','i','_','t','e','s'].reverse)=some Manifest.sig_set_iterator:=by kernel_rfl
theorem zn:Slot "set_iterator" "__next__" "set_iterator.__next__" :=
 .of (owner:="set_iterator") (n:="__next__") (by refine Y (typeLookup_type _ _)<|Y ZQ ?_;kernel_rfl) (by decide+kernel) (by decide+kernel) (by decide+kernel)
  (by first|exact .inl (by decide+kernel)|exact .inr (by decide+kernel)) (by refine Y (O8 _ _) ?_;kernel_rfl)
theorem abd:entryFor table "set_iterator.__next__"=some hY.«set_iterator.__next__» :=entryFor_of_tree (by kernel_rfl)
theorem abz(a:ao):argsOk "set_iterator.__next__" ⟨[a],[]⟩:=by
 unfold argsOk;rw[signature?_of (id:="set_iterator.__next__") (n:=['_','_','t','x','e','n','_','_']) (o:=['r','o','t','a','r','e','t','i','_','t','e','s']) (by kernel_rfl) So];kernel_rfl
theorem aa6:entryFor table "set.__iter__"=some hY.«frozenset.__iter__» :=
 entryFor_alias (id':="frozenset.__iter__") (by kernel_rfl) rfl (by decide+kernel) (by kernel_rfl)
set_option maxRecDepth 100000
structure SI(h:aG)(I:az)(f:ao)(i:Nat)(S:az)(n ep:Nat):Prop where
 ex:∃o,h.get? I=some o/\o.cls= .type "set_iterator"/\o.data= .fields #[f, .int i 0, .ref S, .int n 0, .int ep 0]
structure lE(w:dg)(h:aG)(S:az)(es:Array (Int×ao))(ep:Nat)(t:nF):Prop where
 ex:∃o,h.get? S=some o/\o.ExactSet/\o.data= .set es ep t
 inv:E4 w es.size t
section
variable{prog:eE}{w:dg}{A:bV}{E:VS}{s:aJ}{I S:az}{n ep i:Nat}{f:ao}{es:Array (Int×ao)}{t:nF}
theorem SI.at(x:SI h I f i S n ep)(k:∀o,h.get? I=some o->h'.get? I=some o):SI h' I f i S n ep:=let ⟨o,ho,r⟩:=x.ex;⟨o,k _ ho,r⟩
theorem lE.at(x:lE w h S es ep t)(k:∀o,h.get? S=some o->h'.get? S=some o):lE w h' S es ep t:=let ⟨o,ho,r⟩:=x.ex;⟨(ai o (k _ ho) r),x.inv⟩
theorem SI.typeIs(x:SI s.heap I f i S n ep):s.TypeIs (.ref I) "set_iterator" :=let ⟨o,ho,hx,_⟩:=x.ex;(ai o ho hx)
theorem lE.typeIs(x:lE w s.heap S es ep t):s.TypeIs (.ref S) "set" :=let ⟨o,ho,hx,_⟩:=x.ex;(ai o ho hx.1)
theorem TV(it:SI s.heap I f i S n ep)(h:wpAny (model prog w) A.in1 (hY.«set_iterator.__next__» ⟨[.ref I],[]⟩)
 (λfin s'=>∃r,fin= .done (.ret r)/\Q (some r) s') (λe s'=>∃T o,s'.heap.get? T=some o/\e= .ref T/\o.cls= .type "StopIteration"/\Q none s') s):wpAny (model prog w) A (pyNext (.ref I)) Q E s:=by
 refine am (Dz (uw (name:=bl "__next__") it.typeIs zn
  (ny zn it.typeIs abd ?_ (abz _))))
 refine cn h (λfin s' NA=>ar NA λr e q=>(ai r e (aH q))) λe s' FT=>uX FT λT o ho e c q=>?_
 clear FT;subst e
 refine am (Ds (T:="StopIteration") (b:=true) (ai _ ho c) O4 ?_)
 exact aH q
end
set_option maxRecDepth 100000
section
variable{prog:eE}{w:dg}{A:bV}{E:VS}{s:aJ}{I S:az}{n ep i:Nat}{f:ao}{es:Array (Int×ao)}{t:nF}
theorem SI.set{i':Nat}{h:aG}(ho:h.get? I=some o)(hc:o.cls= .type "set_iterator")(hd:o.data= .fields fs)(e:fs.setIfInBounds k x= #[f', .int i' 0, .ref S, .int n 0, .int ep 0]):SI (h.update I (Pf (·.setIfInBounds k x))) I f' i' S n ep:=
 ⟨_,wH _ ho (GO (uy hd _)),(OI ..).trans hc,by exact Y ((uy hd) _)<|Y e rfl⟩
theorem TX{Q:Option ao->aJ->Prop}(hh:A.handled=none)(h:∀h',(∀b o,s.heap.get? b=some o->h'.get? b=some o)->Q none {s with heap:=h'}):
 wpAny (model prog w) A (do raiseNew (<- newExc (.type "StopIteration") [])) P (λe s'=>∃T o,s'.heap.get? T=some o/\e= .ref T/\o.cls= .type "StopIteration"/\Q none s') s:=by
 refine am<|am (lh ?_ (by size_fits))
 refine am (DM (a:=ju) (by first|rfl|(simp only[firstArgMember];rfl)) ?_)
 refine lh ?_ (by size_fits)
 refine am (Pg ?_)
 exact Y hh<|am (aH (PY ⟨_,_,cJ _ rfl,rfl,rfl,h _ λb o e=>bT _ (bT _ e)⟩))
theorem AB{sl:Nat}(hh:A.handled=none)(it:SI s.heap I (.int sl 0) i S es.size ep)(yQ:lE w s.heap S es ep t)
 (hn:∀(E:VS) (Q':Option (ao×Nat)->aJ->Prop),Q' R s->wpAny (model prog w) A.in1 (setNext S sl i ep) Q' E s)
 (h:∀v nx h',R=some (v,nx)->SI h' I (.int nx 0) (i+1) S es.size ep->jV I s.heap h'->Q (some v) {s with heap:=h'}) (h0:R=none->∀h',zA I s.heap h'->Q none {s with heap:=h'}):wpAny (model prog w) A (pyNext (.ref I)) Q E s:=by
 refine TV it<|cq it.ex λo ho hc hd=>cq yQ.ex λos qL hex sk=>am (aH ?_)
 refine am (Hb ho hd ?_)
 refine am (Oq qL sk yQ.inv.fits ?_)
 rw[if_neg (by simp)]
 refine am (hn _ _ ?_)
 clear hn;cases R with
 |some p=>
  clear h0;obtain⟨v,nx⟩:=p
  refine am (qT ho hd (by simp) ?_)
  have it1:SI (s.heap.update I (Pf (·.setIfInBounds 0 (rawInt nx)))) I (.int nx 0) i S es.size ep:= .set ho hc hd rfl
  refine cq it1.ex λo1 pk qI Gi=>am (qT pk Gi (by simp) ?_)
  exact aH (ai _ rfl (h v nx _ rfl (.set pk qI Gi rfl) ((ku ..).trans (ku ..))))
 |none=>
  refine am (qT ho hd (by simp) ?_)
  exact TX hh λh' k=>h0 rfl h' λb o V e=>k b o ((ku ..).extBut b o V e)
theorem U2{ps:List Nat}(hh:A.handled=none)(it:SI s.heap I (.ref T) i S es.size ep)(yQ:lE w s.heap S es ep t)(hT:s.heap.get? T=some ot)(hdT:ot.data= .seq (ps.map λ(i:Nat)=>rawInt i).toArray nn)
 (h:∀p e h',ps[i]? =some p->es[p]? =some e->SI h' I (.ref T) (i+1) S es.size ep->jV I s.heap h'->Q (some e.2) {s with heap:=h'}) (h0:ps[i]? =none->∀h',zA I s.heap h'->Q none {s with heap:=h'})
 (hp:∀p∈ps,p<es.size):wpAny (model prog w) A (pyNext (.ref I)) Q E s:=by
 refine TV it<|cq it.ex λo ho hc hd=>cq yQ.ex λos qL hex sk=>am (aH ?_)
 refine am (Hb ho hd ?_)
 refine am (Oq qL sk yQ.inv.fits ?_)
 rw[if_neg (by simp)]
 refine am (sI hT hdT ?_)
 show wpAny _ _ (match (ps.map λ(i:Nat)=>rawInt i).toArray[i]? with|some (.int place tok)=>_|some val=>_|none=>_) _ _ _
 refine Y List.getElem?_toArray<|Y ll ?_
 cases e:ps[i]? with
 |some p=>
  have a5:=hp p (Dg e)
  show wpAny _ _ (setNextDrawn S p ep>>=_) _ _ _
  unfold setNextDrawn
  refine am (am (uA qL sk yQ.inv.fits ?_))
  dsimp only
  rw[if_neg (by simp),mD a5]
  refine aH<|am (qT ho hd (by simp) ?_)
  exact aH (ai _ rfl (h p _ _ e (mD a5) (.set ho hc hd rfl) (ku ..)))
 |none=>
  refine am (qT ho hd (by simp) ?_)
  have hd0:∃fs,(o.mapFields (·.setIfInBounds 0 (rawInt 0))).data= .fields fs/\fs.size=5:=ai _ (uy hd _) rfl
  refine ar hd0 λfs Gi hz=>am (qT (wH _ ho (GO (uy hd _))) Gi (by refine Y hz ?_;decide) ?_)
  exact TX hh λh' k=>h0 e h' λb o V e=>k b o (((ku ..).trans (ku ..)).extBut b o V e)
end
set_option maxRecDepth 100000
theorem Pn:Slot "set_iterator" "__iter__" "set_iterator.__iter__" :=
 .of (owner:="set_iterator") (n:="__iter__") (by refine Y (typeLookup_type _ _)<|Y ZQ ?_;kernel_rfl) (by decide+kernel) (by decide+kernel) (by decide+kernel)
  (by first|exact .inl (by decide+kernel)|exact .inr (by decide+kernel)) (by refine Y (O8 _ _) ?_;kernel_rfl)
theorem abe:entryFor table "set_iterator.__iter__"=some hY.«dict_keyiterator.__iter__» :=
 entryFor_alias (id':="dict_keyiterator.__iter__") (by kernel_rfl) rfl (by decide+kernel) (by kernel_rfl)
theorem abA(a:ao):argsOk "set_iterator.__iter__" ⟨[a],[]⟩:=by
 unfold argsOk;rw[signature?_of (id:="set_iterator.__iter__") (n:=['_','_','r','e','t','i','_','_']) (o:=['r','o','t','a','r','e','t','i','_','t','e','s']) (by kernel_rfl) So];kernel_rfl
theorem HJ:∀{l:List α} {i:Nat} (h:i<l.length),(l[i]::l.eraseIdx i).Perm l
 |x::l,0,_=> .refl _
 |x::l,i+1,h=>(List.Perm.swap _ _ _).trans ((HJ (ZC h)).cons x)
theorem TY(next:Nat->Nat):∀(fuel k:Nat) (left:List α) (out:Array α),fuel=left.length->(Pz next fuel k left out).toList.Perm (out.toList++left)
 |0,k,left,out,e=>by
  cases left with
  |nil=>rw[Pz,gU]
  |cons a l=>cases e
 |fuel+1,k,left,out,e=>by
  have a5:next k % left.length<left.length:=DV _ (aM [(J B k1,v1)] (J k0 k1,v1) rfl (aA e))
  rw[Pz,y' a5]
  have H:fuel=(left.eraseIdx (next k % left.length)).length:=by exact Y Z0<|Y (if_pos a5)<|bR (ub (aA e) (bj _ _)) (aO [(B,J v1 k1),(J v2 k1,B)] (v2,v1) rfl (aA e.symm) (aU (iL a5)))
  exact(TY next fuel (k+1) _ _ H).trans<|Y G0<|Y (lm _ _ _)<|List.Perm.append_left _ (HJ a5)
theorem Q4(next:Nat->Nat)(xs:Array α):(pickOrder next xs).toList.Perm xs.toList:=by
 have:=TY next xs.size 0 xs.toList #[] (Y eV rfl)
 rwa [kC] at this
section
variable{prog:eE}{w:dg}{A:bV}{E:VS}{s:aJ}{I S:az}{n ep i:Nat}{f:ao}{es:Array (Int×ao)}{t:nF}
theorem afp(n:Nat):∀(xs:List α) (s:aJ) (Q:List α->aJ->Prop),n=xs.length->(∀ys d,ys.Perm xs->Q ys {s with drawn:=d})->wpAny (model prog w) A (drawOrder n xs) Q E s:=by
 induction n with
 |zero=>
  intro xs s Q e h
  rw[Da.mp e.symm] at h⊢
  exact aH (h [] s.drawn (.refl _))
 |succ n ih=>
  intro xs s Q e h
  cases xs with
  |nil=>cases e
  |cons x xs=>
  show wpAny _ _ (choose .order (x::xs).length>>=λi=>(match (x::xs)[i]? with|some y=>(do return y::(<- drawOrder n ((x::xs).eraseIdx i)))|none=>unsupported "internal:drawOrder")) _ _ _
  generalize x::xs=l at e h⊢
  have bB:l.length≠0:=by exact λhh=>nz (B2 (aA e) (aA hh))
  refine am (λΓ p jP=>?_)
  unfold choose
  rw[Sem.wp_choose]
  refine⟨bB,?_⟩
  rw[Sem.wp_pure]
  have a5:(model prog w).w.draws .order (s.drawn.get .order) % l.length<l.length:=DV _ (aM [(J B k1,v1)] (J k0 k1,v1) rfl (aA e))
  generalize (model prog w).w.draws .order (s.drawn.get .order) % l.length=j at a5⊢
  dsimp only
  refine Y (y' a5) ?_
  refine am (ih _ _ _ (by refine Y Z0<|Y (if_pos a5) ?_;exact bR (ub (aA e) (bj _ _)) (aO [(B,J v1 k1),(J v2 k1,B)] (v2,v1) rfl (aA e.symm) (aU (iL a5)))) λys d hy=>?_)
  exact aH (h _ d ((hy.cons _).trans (HJ a5)))
end
set_option maxRecDepth 100000
section
variable{prog:eE}{w:dg}{A:bV}{E:VS}{s:aJ}{I S:az}{n ep i:Nat}{f:ao}{es:Array (Int×ao)}{t:nF}
def wa(us:List (Int×ao))(i:Nat)(v:ao):Prop:=∃e,us[i]? =some e/\v=e.2
def Yx(w:dg)(I S:az)(es:Array (Int×ao))(ep:Nat)(t:nF)(M:Nat->ao->aG->Prop)(i:Nat)(h:aG):Prop:=∃f,SI h I f i S es.size ep/\lE w h S es ep t/\M i f h
theorem H7{M:Nat->ao->aG->Prop}{us:List (Int×ao)}{fp:List az}(hI:I∈fp)(hS:S∈fp)(bB:S≠I)(hM:∀i f h h',M i f h->(∀b∈fp,b≠I->∀o,h.get? b=some o->h'.get? b=some o)->M i f h')
 (hi:∀i f (s:aJ) (Q:Option ao->aJ->Prop) (E:VS),SI s.heap I f i S es.size ep->lE w s.heap S es ep t->M i f s.heap->i<es.size->
  (∀v f' h',wa us i v->SI h' I f' (i+1) S es.size ep->M (i+1) f' s.heap->jV I s.heap h'->Q (some v) {s with heap:=h'})->wpAny (model prog w) A (pyNext (.ref I)) Q E s)
 (hd:∀f (s:aJ) (Q:Option ao->aJ->Prop) (E:VS),SI s.heap I f es.size S es.size ep->lE w s.heap S es ep t->M es.size f s.heap->(∀h',zA I s.heap h'->Q none {s with heap:=h'})->wpAny (model prog w) A (pyNext (.ref I)) Q E s):
 vO prog w A I fp [I] es.size (wa us) (Yx w I S es ep t M) where
 sub:=λb V=>by exact Y (bY.mp V)<|hI
 frame:=λzz h h' ao6 hk=>cq ao6 λf a b c=>(bQ f (a.at λo e=>hk I hI o e) (b.at λo e=>hk S hS o e) (hM _ _ _ _ c λb V zz o e=>hk b V o e))
 item:=λi s Q E a5 ao7 hQ=>cq ao7 λf a b c=>hi i f s Q E a b c a5 λv f' h' hv it m sb=>
  hQ v h' s.toks hv (bQ f' it (b.at λo e=>sb.extBut S o bB e) (hM _ _ _ _ m λb zz V o e=>sb.extBut b o V e)) λb o V e=>sb.extBut b o (λh=>V (bY.mpr h)) e
 done:=λs Q E MP hQ=>cq MP λf a b c=>hd f s Q E a b c λh' he=>hQ h' s.toks λb o V e=>he b o (λh=>V (bY.mpr h)) e
 self:=λzz zz zz zz ao8 hQ=>ar ao8 λf a zz=>by
  refine OG a.typeIs Pn (ny Pn a.typeIs abe ?_ (abA _))
  exact aH (Ep _ rfl ("set_iterator") _ a.typeIs zn.lookup hQ)
theorem Q5(ht:l8 w=true)(r:lE w s.heap S es ep t)(h:Q (((pickOrder (w.params.setOrder S ep) es)[i]?).map λe=>(e.2,slot)) s):wpAny (model prog w) A (setNext S slot i ep) Q E s:=by
 refine cq r.ex λo ho hc hd=>?_
 have k9:=ht
 refine am (uA ho hd r.inv.fits ?_)
 refine am (am (wT (aH ?_)))
 refine wX (λzz=>?_) (λnk=>absurd k9 nk)
 refine wX (λnk=>absurd nk (by simp)) (λzz=>?_)
 refine am<|am (uA ho hd r.inv.fits ?_)
 refine am (am (wT (aH ?_)))
 refine wX (λzz=>?_) (λnk=>absurd k9 nk)
 exact am (wT (aH (aH h)))
theorem HK(ht:l8 w=false)(r:lE w s.heap S es ep t)(hz:es.size<=1)
 (h:Q (match es[w6 t.place slot]?,t.place[w6 t.place slot]? with|some (_,x),some j=>some (x,j+1)|_,_=>none) s):wpAny (model prog w) A (setNext S slot i ep) Q E s:=by
 refine cq r.ex λo ho hc hd=>?_
 have k9:=ht
 refine am (uA ho hd r.inv.fits ?_)
 refine am (am (wT (aH ?_)))
 refine wX (λnk=>absurd (nk.symm.trans k9) (by decide)) (λzz=>?_)
 show wpAny _ _ (if (!t.plain && decide (es.size>1))=true then _ else _) _ _ _
 rw[if_neg (by simp;exact λzz=>(by assumption))]
 refine am ?_
 show wpAny _ _ (if (!t.led && !es.isEmpty)=true then _ else _) _ _ _
 rw[if_neg (by refine Y r.inv.led<|Y ht ?_;simp)]
 exact aH (aH h)
end
set_option maxRecDepth 100000
section
variable{prog:eE}{w:dg}{A:bV}{E:VS}{s:aJ}{I S:az}{n ep i:Nat}{f:ao}{es:Array (Int×ao)}{t:nF}
structure ahj(prog:eE)(w:dg)(s:aJ)(S:az)(es:Array (Int×ao))(I:az)(s':aJ):Prop where
 keep:∀b o,s.heap.get? b=some o->s'.heap.get? b=some o
 same:s'.gens=s.gens/\s'.os=s.os
 fresh:s.heap.get? I=none
 walk:∃us:List (Int×ao),us.Perm es.toList/\∃fp,(∀b∈fp,b=S\/s.heap.get? b=none)/\∃St:Nat->aG->Prop,St 0 s'.heap/\∀as6:bV,as6.handled=none->vO prog w as6 I fp [I] es.size (wa us) St
theorem acU(h:xs.size=0):w6 xs j=0:=by unfold w6;rw[h,OO]
theorem Q6(h:xs.size=1):w6 xs j=if xs.getD 0 j<j then 1 else 0:=by
 unfold w6;rw[h,OO]
 simp only[Nat.zero_lt_one,if_true,Nat.reduceAdd,Nat.reduceDiv,OO]
theorem afq(r:lE w s.heap S es ep t)(hz:es.size< 64)(h:∀I s',ahj prog w s S es I s'->Q (.ref I) s'):wpAny (model prog w) A (pyIter (.ref S)) Q E s:=by
 refine cq r.ex λo ho hc hd=>?_
 have bF:t.place.size=es.size:=by have:=r.inv.fits;unfold SetTable.fits at this;simp at this;exact this.1
 have a5:S<s.heap.objs.size:=dI ho
 have gone:∀b,¬b<s.heap.objs.size->s.heap.get? b=none:=λb V=>by
  cases e:s.heap.get? b with
  |none=>rfl
  |some o=>exact absurd (dI e) V
 refine OG r.typeIs ZR (ny ZR r.typeIs aa6 ?_ (PySem.F.args_set_iter_1 _))
 refine am (aH ?_)
 refine am (am (Oq ho hd r.inv.fits (aH ?_)))
 refine am<|am (uA ho hd r.inv.fits ?_)
 refine am (am (wT (aH (aH ?_))))
 show wpAny _ _ (if (!l8 w && (!t.plain && decide (es.size>1)))=true then _ else _) _ _ _
 have fin:∀(M:Nat->ao->aG->Prop) (us:List (Int×ao)),us.Perm es.toList->(∀h,M 0 (.int 0 0) h)->
  (∀(I:az) (as6:bV),S≠I->as6.handled=none->vO prog w as6 I [I,S] [I] es.size (wa us) (Yx w I S es ep t M))->
  wpAny (model prog w) A.in1 (setEpoch S>>=λe=>newFields "set_iterator" [rawInt 0,rawInt 0, .ref S,rawInt es.size,rawInt e]>>=λv=>ret v)
   (λfin s'=>∃v,fin= .done (.ret v)/\∃T' r,s'.TypeIs v T'/\typeLookup (.type T') (bl "__next__")=pure (some r)/\Q v s') E s:=by
  intro M us hu hM hW
  unfold setEpoch
  refine am (am (uA ho hd r.inv.fits (aH ?_)))
  unfold newFields
  refine am (lh ?_)
  refine aH (Ep _ rfl ("set_iterator") _ ((ai _ (cJ _ rfl) rfl)) zn.lookup (h _ _ ?_))
  refine⟨λb o e=>bT _ e,⟨rfl,rfl⟩,gone _ (pN _),us,hu,[s.heap.objs.size,S],λb V=>?_,_,⟨_,⟨_,cJ _ rfl,rfl,rfl⟩,r.at λo e=>bT _ e,hM _⟩,λas6 hB=>hW _ as6 (dH a5) hB⟩
  rcases bK.mp V with rfl|V
  .exact .inr (gone _ (pN _))
  .exact .inl (bY.mp V)
 by_cases ht:l8 w=true
 .rw[if_neg (by simp[ht])]
  refine am (aH (fin (λzz f zz=>f= .int (0:Nat) 0) _ (Q4 (w.params.setOrder S ep) es) (λzz=>rfl) λI as6 bB hB=>?_))
  have bW:(pickOrder (w.params.setOrder S ep) es).size=es.size:=by exact sl eV<|Y ((Q4 _ es).length_eq)<|Y eV rfl
  refine H7 (by simp) (by simp) bB (λzz zz zz zz m zz=>m) (λi f s Q E it r m hi hQ=>?_) λf s Q E it r m hQ=>?_
  .subst m
   have hN:i<(pickOrder (w.params.setOrder S ep) es).size:=bW▸hi
   refine AB hB it r (R:=(((pickOrder (w.params.setOrder S ep) es)[i]?).map λe=>(e.2,0))) (λE Q' q=>Q5 ht r q) (λv nx h' e my sb=>?_) λe=>?_
   .rw[mD hN] at e
    injection e with vy;injection vy with Jb Jc;subst Jb Jc
    exact hQ _ _ h' (ai _ (by refine Y lR ?_;exact mD hN) rfl) my rfl sb
   .rw[mD hN] at e;exact ft e
  .subst m
   refine AB hB it r (R:=none) (λE Q' q=>Q5 ht r (by refine Y (ux (aA bW)) ?_;exact q)) (λv nx h' e=>by exact aC e) λzz h' he=>hQ h' he
 .have k9:l8 w=false:=by simpa using ht
  by_cases H:es.size<=1
  .rw[if_neg (by simp;exact λzz zz=>H)]
   refine am (aH (fin (λi f zz=>(i=0/\f= .int (0:Nat) 0)\/(i=1/\f= .int ((t.place.getD 0 0+1:Nat):Int) 0)) es.toList (.refl _) (λzz=> .inl ⟨rfl,rfl⟩) λI as6 bB hB=>?_))
   refine H7 (by simp) (by simp) bB (λzz zz zz zz m zz=>m) (λi f s Q E it r m hi hQ=>?_) λf s Q E it r m hQ=>?_
   .rcases m with⟨rfl,rfl⟩|⟨rfl,_⟩
    .have e1:es.size=1:=by exact bR H (Mm hi)
     have Gj:t.place.getD 0 0=t.place[0]'(FM hi (aA bF.symm)):=by rw[C7,mD (FM hi (aA bF.symm))];rfl
     refine AB hB it r (R:=some ((es[0]'hi).2,t.place.getD 0 0+1)) (λE Q' q=>HK k9 r H ?_) (λv nx h' e my sb=>?_) λe=>by exact ft e
     .rw[Q6 (bR ((cN (aA bF) H rfl)) (aM [(J k0 k1,B),(B,v1)] (k1,v1) rfl hi (aA bF.symm))),if_neg (OU _),mD hi,mD (FM hi (aA bF.symm)),<- Gj]
      exact q
     .injection e with vy;injection vy with Jb Jc;subst Jb Jc
      exact hQ _ _ h' (ai _ (by refine Y lR ?_;exact mD hi) rfl) my (.inr ⟨rfl,rfl⟩) sb
    .exact(nz (be [(J k1 k1,B),(B,k1)] (k1,k0) rfl hi H)).elim
   .have V:w6 t.place 0=0\/True:= .inr trivial
    rcases m with⟨m,rfl⟩|⟨m,rfl⟩
    .refine AB hB it r (R:=none) (λE Q' q=>HK k9 r H ?_) (λv nx h' e=>by exact aC e) λzz h' he=>hQ h' he
     rw[acU (bR ((cN (aA bF) (aA m) rfl)) lJ),ux (aA m)]
     exact q
    .refine AB hB it r (R:=none) (λE Q' q=>HK k9 r H ?_) (λv nx h' e=>by exact aC e) λzz h' he=>hQ h' he
     have Gj:∀d,t.place.getD 0 d=t.place[0]'(aM [(k1,B),(B,v1)] (J k0 k1,v1) rfl (aA m.symm) (aA bF.symm)):=λd=>by rw[C7,mD (aM [(k1,B),(B,v1)] (J k0 k1,v1) rfl (aA m.symm) (aA bF.symm))];rfl
     rw[Q6 (bR ((cN (aA bF) H rfl)) (B4 (aA m.symm) (aA bF.symm))),Gj,Gj,if_pos (wR _),ux H]
     exact q
  .have ct:t.plain=false:=r.inv.plain (λhh=>nz (be [(J k1 k1,B),(B,k0)] (k1,k0) rfl (uB H) (aA hh)))
   rw[if_pos (by rw[k9,ct,decide_eq_true (uB H)];rfl)]
   refine am (afp _ _ _ _ (G2).symm λps d hp=>?_)
   have bW:∀p∈ps,p<es.size:=λp iO=>by simpa using hp.mem_iff.mp iO
   have ct:ps.length=es.size:=by exact Y hp.length_eq<|Y G2 rfl
   refine am (G' ?_ (by refine Y (aw _)<|Y ct<|Y HB ?_;exact mu hz rfl))
   have k1:∀b o,s.heap.get? b=some o->(s.heap.push {cls:= .type "tuple",data:= .seq (ps.map λ(i:Nat)=>rawInt i).toArray}).get? b=some o:=λb o e=>bT _ e
   have oa:(s.heap.push {cls:= .type "tuple",data:= .seq (ps.map λ(i:Nat)=>rawInt i).toArray}).objs.size=s.heap.objs.size+1:=kF ..
   have hT:(s.heap.push {cls:= .type "tuple",data:= .seq (ps.map λ(i:Nat)=>rawInt i).toArray}).get? s.heap.objs.size=some {cls:= .type "tuple",data:= .seq (ps.map λ(i:Nat)=>rawInt i).toArray}:=cJ _ rfl
   generalize s.heap.push {cls:= .type "tuple",data:= .seq (ps.map λ(i:Nat)=>rawInt i).toArray}=g1 at k1 oa hT⊢
   refine am<|am (uA (k1 _ _ ho) hd r.inv.fits (aH ?_))
   refine am (lh ?_)
   refine aH (Ep _ rfl ("set_iterator") _ ((ai _ (cJ _ rfl) rfl)) zn.lookup (h _ _ ?_))
   have hus:(ps.map λp=>es.getD p (0, .none)).Perm es.toList:=by
    refine(hp.map _).trans (.of_eq (Dt (by simp) λj H O=>?_))
    simp at O
    simp[C7,O]
   have Xv:S≠g1.objs.size:=dH (Dm a5 (fA (Ot (wR _) oa.symm)))
   have ao9:s.heap.objs.size≠g1.objs.size:=by exact Y oa<|dH (wR _)
   refine⟨λb o e=>bT _ (k1 _ _ e),⟨rfl,rfl⟩,gone g1.objs.size (by refine Y oa ?_;exact sT.mpr (sR _)),_,hus,[g1.objs.size,S,s.heap.objs.size],λb V=>?_,
    _,⟨_,⟨_,cJ _ rfl,rfl,rfl⟩,r.at λo e=>bT _ (k1 _ _ e),?_⟩,
    λas6 hB=>H7 (M:=λi f h=>f= .ref s.heap.objs.size/\∃ot nn,h.get? s.heap.objs.size=some ot/\ot.data= .seq (ps.map λ(i:Nat)=>rawInt i).toArray nn) (by simp) (by simp) Xv
     (λzz zz zz zz ⟨m,ot,nn,e,k⟩ hk=>⟨m,ot,nn,hk _ (by simp) ao9 _ e,k⟩) (λi f s' Q E it r m hi hQ=>?_) λf s' Q E it r m hQ=>?_⟩
   .clear fin Xv;clear h a5;rcases bK.mp V with rfl|V
    .exact .inr (gone _ (sT.mpr (aB (sR _) (aA oa.symm))))
    .rcases bK.mp V with rfl|V
     .exact .inl rfl
     .exact Y (bY.mp V)<| .inr (gone _ (pN _))
   .exact VD rfl _ 0 (bT _ hT) rfl
   .refine J5 (id m) λBH ot nn NC CP=>?_;subst BH
    refine U2 hB it r NC CP (λp e h' e1 e2 my sb=>hQ _ _ h' (ai e ?_ rfl) my m sb) (λe=>?_) bW
    .refine Y ll<|Y e1 ?_
     show some (es.getD p _)=_
     refine Y C7<|Y e2 ?_;rfl
    .rw[y' (Ot hi ct.symm)] at e;exact ft e
   .refine J5 (id m) λLg ot nn NC CP=>?_;clear m;subst Lg
    refine U2 hB it r NC CP (λp e h' e1=>?_) (λzz h' he=>hQ h' he) bW
    rw[ZS (aA ct)] at e1;exact aC e1
end
set_option maxRecDepth 100000
section
variable{prog:eE}{w:dg}{A:bV}{E:VS}{s:aJ}{I S:az}{n ep i:Nat}{f:ao}{es:Array (Int×ao)}{t:nF}
theorem afr(hT:s.TypeIs (.ref S) "set")(h:Q false s):wpAny (model prog w) A (N1 (.ref S)) Q E s:=by
 unfold N1
 refine am (wpAny_specialOf hT PySem.F.slot_set_len.lookup ?_)
 generalize Yy:("set.__len__" :String)=id0
 wp_delta
 rw[show splitId id0=some ("set","__len__") from by subst Yy;decide+kernel]
 subst Yy
 refine am (Ds (T:="set") (b:=true) hT (by refine Y (O8 _ _) ?_;kernel_rfl) ?_)
 refine wX (λnk=>absurd nk (by decide)) (λzz=>?_)
 refine wX (λzz=>?_) (λnk=>absurd (by decide+kernel) nk)
 refine am (DF hT ?_)
 exact aH h
theorem acV(hT:s.TypeIs (.ref r) T)(H:(mL T==mL "list")=false)(O:(mL T==mL "tuple")=false)
 (hLr:L≠r) (hL:s.heap.get? L=some {cls:= .type "list",dict:=none,data:= .seq #[] 0,slots:= #[]}) (res:ao) (hn:n<=sizeLine)
 (hit:∀(E:VS) (Q:VS),(∀I (s':aJ) (fp:List az) (St:Nat->aG->Prop) (P:Nat->ao->Prop),s'.heap.get? L=some {cls:= .type "list",dict:=none,data:= .seq #[] 0,slots:= #[]}->L ∉ fp->St 0 s'.heap->vO prog w A.in1 I fp [I] n P St->
  (∀(Q:Bool->aJ->Prop),Q false s'->wpAny (model prog w) A.in1 (N1 (.ref r)) Q E s')->
  (∀aD acc c,acw [L,I] (λa b=>b=a) s' aD->aD.heap.get? L=some {cls:= .type "list",dict:=none,data:= .seq acc c,slots:= #[]}->EQ P acc n->R (.ok (.ret res)) aD)->Q (.ref I) s')->wpAny (model prog w) A.in1 (pyIter (.ref r)) Q E s):
 wpAny (model prog w) A.in1 (arR (.ref L) (.ref r) res)
  (λfin s'=>match fin with| .done f=>R (.ok f) s'| .again c'=>c'.quiet=true/\codeAny (model prog w) A c' R s') (λe s'=>R (.error e) s') s:=by
 refine am (DF (T:=T) hT ?_)
 have h3:Zu (.ref L) (.ref r)=false:=by simp[Zu,hLr]
 simp only[h3,H,O,Bool.or_false,nw,if_false]
 refine am (hit _ _ λI s' fp St P uj Yz st W hint hR=>?_)
 refine am (jU (hint _ ?_))
 have go:∀(an:aJ) (c:Nat),St 0 an.heap->acw [L,I] (λa b=>b=a) s' an->an.heap.get? L=some {cls:= .type "list",dict:=none,data:= .seq #[] c,slots:= #[]}->codeAny (model prog w) A (.builtin "list.extend.loop" ⟨[.ref L, .ref I,res],[]⟩) R an:=λan c bN m amV=>
  codeAny_extend_loopS W.toS hn L Yz res n 0 _ #[] c rfl (dn _) bN amV (ItemsOf.nil _) λaD acc c' hm nh fM=>hR aD acc c' (m.trans (λzz zz zz x y=>y.trans x) hm) nh fM
 refine wX (λzz=>?_) (λzz=>aH ⟨nB Zn _,go _ _ st (.refl λzz=>rfl) uj⟩)
 refine am (uI ?_)
 refine am<|am (Dv uj rfl ?_)
 have Wi:=wH (f9 (·.push ju)) uj rfl
 refine Dv (hz:=by seq_fits) Wi rfl ?_
 have amW:=wH (f9 (·.pop)) Wi rfl
 have keep:∀b o,b≠L->s'.heap.get? b=some o->((s'.heap.update L (f9 (·.push ju))).update L (f9 (·.pop))).get? b=some o:=λb o V e=>(ZD _ _ (oH V)).trans ((ZD _ _ (oH V)).trans e)
 exact aH ⟨nB Zn _,go _ _ (W.frame 0 _ _ st λb V o e=>keep b o (λh=>Yz (h▸V)) e) ⟨λb o V e=>keep b o (λh=>V (by simp[h])) e,rfl,rfl,rfl,a8 _⟩ amW⟩
theorem abZ(hh:A.handled=none)(r:lE w s.heap S es ep t)(hz:es.size< 64)
 (h:∀(s':aJ) (acc:Array ao) (us:List (Int×ao)),(∀b o,s.heap.get? b=some o->s'.heap.get? b=some o)->s'.gens=s.gens->s'.os=s.os->us.Perm es.toList->EQ (wa us) acc es.size->R acc.toList s'):
 wpAny (model prog w) A (collect (.ref S)) R E s:=by
 have a5:S<s.heap.objs.size:=let ⟨o,ho,_⟩:=r.ex;dI ho
 refine am (O5 (lV ZM ?_))
 refine Y (mF Zf _)<|am (lh ?_)
 refine aH ⟨nB GL _,lV aaq ?_⟩
 refine Y (mF GL _) ?_
 have hS:(s.heap.push {cls:= .type "list",data:= .seq ([]:List ao).toArray}).get? s.heap.objs.size=some {cls:= .type "list",data:= .seq #[]}:=cJ _ rfl
 have k1:∀b o,s.heap.get? b=some o->(s.heap.push {cls:= .type "list",data:= .seq ([]:List ao).toArray}).get? b=some o:=λb o e=>bT _ e
 generalize s.heap.push {cls:= .type "list",data:= .seq ([]:List ao).toArray}=g1 at hS k1⊢
 have r1:lE w g1 S es ep t:=r.at λo e=>k1 _ _ e
 have key:=acV (prog:=prog) (w:=w) (A:=A) (s:={s with heap:=g1}) (n:=es.size)
  (R:=λ(q:x5) (s':aJ)=>∃(acc:Array ao) (c:Nat) (us:List (Int×ao)),q= .ok (.ret (.ref s.heap.objs.size))/\(∀b o,s.heap.get? b=some o->s'.heap.get? b=some o)/\s'.gens=s.gens/\s'.os=s.os/\us.Perm es.toList/\
   s'.heap.get? s.heap.objs.size=some {cls:= .type "list",dict:=none,data:= .seq acc c,slots:= #[]}/\EQ (wa us) acc es.size)
  r1.typeIs (by decide) (by decide) (oH (dH a5)) hS (.ref s.heap.objs.size) (aB (fA hz) (by decide)) λE Q q=>afq (A:=A.in1) r1 hz λI s' x=>by
    obtain⟨k2,⟨eg,eo⟩,hI,us,hu,fp,pz,St,st,W⟩:=x
    refine q I s' fp St (wa us) (k2 _ _ hS) ?_ st (W _ hh) (λQ q=>afr (r1.at λo e=>k2 _ _ e).typeIs q) λaD acc c m hL fM=>
     (acz acc c us rfl (λb o e=>m.heap b o (λV=>?_) (k2 _ _ (k1 _ _ e))) (m.gens.trans eg) (m.os.trans eo) hu hL fM)
    .intro hm
     refine a9 (pz _ hm) (λe=>?_) (λe=>?_)
     .exact absurd e (oH (dH a5))
     .rw[hS] at e;exact ft e
    .rcases bK.mp V with rfl|V
     .exact pN _ (dI e)
     .rw[bY.mp V] at e
      have:=k1 _ _ e
      rw[hI] at this;exact aC this
 refine cn key (λfin s' x=>?_) λe s' x=>?_
 .cases fin with
  |done f=>
   refine P6 x λacc c us e k eg eo hu hL fM=>?_
   clear x;injection e with vr;subst vr
   exact am (DT hL (aH (h s' acc us k eg eo hu fM)))
  |again c₁=>
   refine⟨x.1,zu x.2 λq aD y=>?_⟩
   refine P6 y λacc c us amX k eg eo hu hL fM=>?_;clear y;subst amX
   exact am (DT hL (aH (h aD acc us k eg eo hu fM)))
 .refine gE x λacc c us e zz=>?_
  cases e
end
set_option maxRecDepth 100000
section
variable{W:Wd}{A:bV}{cx:Cx}{s:aJ}{g:aG}{σ av:Sg}{ρ:List aK}{xs:List as7}{a:E}
theorem Q7:∀{xs:List ah} {ss:List Str},u5 xs=some ss->xs=ss.map .str
 |[],ss,h=>by injection h with AS;subst AS;rfl
 | .str x::xs,ss,h=>by
   refine iK h λr O AP=>?_;subst AP
   exact Y bE<|sl (Q7 O) rfl
theorem afs{l:List Str}(hl:∀x∈l,sN x=true):eA (l.map .str)=true:=by
 induction l with
 |nil=>rfl
 |cons x l ih=>rw[bE,eA,show(eB x).canLay0=true from hl x (.head _),ih λy hy=>hl y (.tail _ hy)];rfl
theorem acW(l:List Str):eM (l.map .str)=0:=by
 induction l with
 |nil=>rfl
 |cons x l ih=>rw[bE,eM,ih];rfl
theorem ahk(l:List Str):fx (l.map .str)=true:=by
 induction l with
 |nil=>rfl
 |cons x l ih=>rw[bE,pW,ih];rfl
theorem ab0{l:List Str}(hl:l.length< 64)(h:∀x∈l,sN x=true):gX (l.map .str)=true:=by
 have H:ce (.list (l.map .str))=true:=by
  unfold ce DE
  rw[mJ,afs h,gV,acW];rfl
 have O:rj (l.map .str)=true:=by
  unfold rj
  rw[show(l.map eB).all (Fo 3)=true from by exact Y PA<|hU.mpr λzz zz=>rfl];rfl
 have h3:((l.map eB).all λx=>(l.map eB).all λy=>(fO x y).isSome)=true:=by
  refine Y PA<|hU.mpr λx zz=>?_
  show(List.all _ _)=true
  exact Y PA<|hU.mpr λy zz=>rfl
 unfold gX td
 refine Y H<|Y (ahk _)<|Y O<|Y h3<|Y (aw _)<|Y (decide_eq_true hl) ?_
 by_cases z:l.length<2
 .refine Y (decide_eq_true z) ?_;rfl
 .refine Y (decide_eq_true (kw z)) ?_;simp
theorem Sp:∀{l zs:List Str},k∈l.foldl fu zs->k∈l\/k∈zs
 |[],zs,h=> .inr h
 |x::l,zs,h=>by
  refine a9 (Sp (l:=l) h) (λh=>?_) (λh=>?_)
  .exact .inl (.tail _ h)
  .unfold fu at h
   split at h
   .exact .inr h
   .refine a9 (ln.mp h) (λh=>?_) (λh=>?_)
    .exact .inr h
    .exact .inl (Y (bY.mp h)<| .head _)
theorem ab.rc(hW:W.Ok)(jH:cx.kindOf z=some .globalImplicit)(Nx:nsIn W.G.K mainGlobals z=some none)(fF:bootBuiltins z=some (.builtin "sorted"))
 (hk:cx.kindOf y=some .globalImplicit) (hg:nsIn W.G.K mainGlobals y=some none) (V:bootBuiltins y=some (.type "set")) (h:ab W cx v a)
 (hn:y≠"__name__" :=by decide+kernel) (hd:(y==("__debug__" :Str))=false:=by decide+kernel) (hs:eW v=true:=by rfl) (lM:z≠"__name__" :=by decide+kernel) (dw:(z==("__debug__" :Str))=false:=by decide+kernel):
 ab W cx (.Call (.Name z p') [.Call (.Name y p) [v] [] pos] [] pos') (.op .rc (.cons a .nil)):=λzz A s g σ env ρ xs av rm inv eo he=>by
 refine bZ (tn he) λx d H O j4=>?_;clear he;subst j4
 refine aP O λys e0 O=>aP O λss e1 O=>xa (jY O) λc vG=>?_;clear O;subst vG
 clear O;obtain rfl:=Q7 e1
 obtain rfl:=xy e0
 rw[cm,decide_eq_true_eq,hU] at c
 refine xa c λc hl=>kA (lw hW inv eo jH Nx fF lM dw (y8 (f8 ?_ (cu rfl)) (cu rfl) iV))
 refine kA (lw hW inv eo hk hg V hn hd (mE ?_ (cu hs) iV))
 refine f8 ?_ (cu hs)
 refine(h.ba rm inv eo H).use λu an aX st q=>iU<|ja (Is.s7 q) λl o vs m amY z1 z2 z3 r=>?_;clear q;subst amY
 have br:vs.size=ss.length:=by have:=r.length;rwa [aw,eV] at this
 refine abc rm.handled (iY o (st.inv.sub _ _ z1) z2 m z3) (λi v e=>?_) br (be [(J B k1,(.num 60))] (J B k1,(.num 63)) rfl c) λh' tk hS keep=>iU ?_
 .have hi:i<ss.length:=br▸(wG.mp e).1
  refine ar (r.get (k:=i) (d:= .str ss[i]) (by simp[hi])) λv' e1 e2=>?_
  rw[lR,e] at e1
  injection e1 with vI;subst vI
  refine xe e2.str_inv λt vq=>?_;clear e2;subst vq
  exact⟨t,by refine Y uu<|Y (y' hi) ?_;rfl⟩
 refine x6 hS λo' es ep t zz=>nG zz λho hex CP Gh hinv hp hz=>?_
 have qQ:=mm.LJ (h:=h') (D:=an.heap.objs.size) hp
 have cz:=aS.il (h':=h') (tk:=tk) st.inv keep
 refine Runs.after (st.trans cz) ((PD cz.inv rm (Z:=λys=>∃zs:List Str,ys=zs.map .str/\zs.Perm (ss.foldl fu [])) (zs:=gf ((ss.foldl fu []).map .str)) ?_ λP F hP=>?_).mono λr g' q=>(ai _ rfl q))
 .intro ys Wj;refine ar Wj λzs Kv hq=>?_;clear Wj;subst Kv
  refine⟨ab0 (hq.length_eq▸hz) λx hx=>?_,?_⟩
  .refine a9 (Sp (hq.mem_iff.mp hx)) (λhx=>?_) (λhx=>?_)
   .exact hl x hx
   .cases hx
  .have g1:∀{l:List Str},∀y∈l.map eB,gd y=true:=λy hy=>by
    refine cr hy λx zz vC=>?_;clear hy;subst vC;rfl
   exact xf (λy hy=>g1 y ((mK _).mem_iff.mp hy)) ((mK _).trans ((hq.map _).trans (mK _).symm)) (sV g1) (sV g1)
 .refine abZ (A:=A.in1) (s:={an with heap:=h',toks:=tk}) rm.handled ⟨(bQ o' ho hex CP),hinv⟩ (qQ▸hz) λs' acc us kp eg eo hu fM=>?_
  have hv:acc.toList=us.map (·.2):=by
   apply ON
   intro j
   refine Y lR<|Y ll ?_
   cases e:acc[j]? with
   |some v=>
    refine ar (fM.2 j v e) λe' H O=>Y H<|Y O ?_;rfl
   |none=>
    have:us[j]? =none:=ZS (Y hu.length_eq<|Y eV<|sl fM.1<|N3.mp e)
    refine Y this ?_;rfl
  have YA:(us.map λe=>qt e.2).Perm ((ss.foldl fu []).map some):=(hu.map _).trans hp
  refine ar (show ∃zs:List Str,us.map (λe=>qt e.2)=zs.map some/\zs.Perm (ss.foldl fu []) from by
   refine ai ((us.map λe=>qt e.2).filterMap id) ?_ ?_
   .refine Y List.map_filterMap ?_
    have:∀x∈us.map (λe=>qt e.2),∃k,x=some k:=λx hx=>by
     refine cr (YA.mem_iff.mp hx) λk zz apa=>?_;clear hx;subst apa;exact⟨k,rfl⟩
    generalize us.map (λe=>qt e.2)=L at this
    induction L with
    |nil=>rfl
    |cons x L ih=>
     refine xe (this x (.head _)) λk amZ=>?_;subst amZ
     rw[List.filterMap_cons_some (by rfl),<- ih λx hx=>this x (.tail _ hx)]
   .refine(YA.filterMap id).trans (.of_eq ?_)
    exact Y Ox<|List.filterMap_some) λzs oa hz2=>?_
  refine Y hv<|hP _ _ (λzz=>False) _ (ai zs rfl hz2) kp eg eo (.old ?_ (cz.inv.sub.trans kp))
  refine aT.of_get (by have:=congrArg pR oa;simpa using this) λk v d e1 e2=>?_
  rw[ll] at e1 e2
  refine iK e1 λe H BE=>?_;subst BE
  refine iK e2 λx O Kp=>?_;subst Kp
  have:=congrArg (·[k]?) oa
  simp only[ll,H,O,uE,dj] at this
  exact xe (E3 (prog:=W.G.prog) (w:=W.G.w) (H6.mpr this)) λt hv=>Y hv<|Is.str
end
set_option maxRecDepth 100000
section
variable{W:Wd}{A:bV}{cx:Cx}{κ:cF}{s an:aJ}{g aX:aG}{σ av:Sg}{ρ:List aK}{a b:E}{xs:List ah}
theorem Ee(st:aS W.G s g av an aX){b:az}(h:an.heap.get? b=none):s.heap.get? b=none/\aX.get? b=none:=by
 constructor
 .cases q:s.heap.get? b with
  |none=>rfl
  |some o=>
   exfalso
   by_cases hc:b=W.G.c
   .refine xe (oM st.inv) λo' e=>?_
    rw[<- hc,h] at e;exact aC e
   .have:=st.keep _ _ hc q;rw[h] at this;exact aC this
 .cases q:aX.get? b with
  |none=>rfl
  |some o=>have:=st.inv.sub _ _ q;rw[h] at this;exact aC this
theorem ad3{own:Bool}{target:Expr}(st:aS W.G s g av an aX){h':aG}{tk:Nat}{I:az}{fp:List az}{n:Nat}{P:Nat->ao->Prop}{St:Nat->aG->Prop}(keep:∀b o,an.heap.get? b=some o->h'.get? b=some o)(hI:an.heap.get? I=none)
 (Wk:vO W.G.prog W.G.w A I fp [I] n P St) (hn:n=xs.length) (lg:∀i v (s:aJ) (Q:Unit->aJ->Prop) (E:VS),St i s.heap->Q () s->wpAny (model W.G.prog W.G.w) A (letOwnedTupleGo target (.ref I) v) Q E s) (YB:St 0 h')
 (hP:∀i v,P i v->∃x,xs[i]? =some x/\Is aX v x) (pz:∀b∈fp,b=I\/∃o,aX.get? b=some o) (live:∀i h',St i h'->∃o,h'.get? I=some o):
 ∃aN I',kI I= .ref I'/\aS W.G s g av {an with heap:=h',toks:=tk} aN/\FY W.G A target own s.heap aN h' I' xs:=by
 subst hn
 refine xa (Ee st hI) λd1 d2=>eY aX I rfl (st.trans (aS.il st.inv keep)) (⟨_,_,_,_,_,Hc Wk lg,YB,λi v h' p=>?_,λb V=>?_,λb V=>?_,λs Q E hs hq=>Wk.self 0 s Q E hs hq,λi h' hs b V=>?_⟩)
 .exact ar (hP i v p) λx H O=>ai x H (.inl O)
 .exact Y (bY.mp V)<|bO d1 d2 (live 0 h' YB)
 .clear hI lg live Wk d1 d2;rcases pz b V with rfl|h
  .exact .inl (.head _)
  .exact .inr h
 .exact Y (bY.mp V)<|live i h' hs
theorem Po:∀(n:Nat) (a:Int) (i:Nat),i<n->(intsFrom a n)[i]? =some (.int (a+i))
 |n+1,a,0,_=>by rw[zi];simp
 |n+1,a,i+1,h=>by
  rw[zi,N',Po n (a+1) i (ZC h)]
  congr 2;rw[Int.add_assoc,Hj 1];rfl
theorem Pp:∀(n:Nat) (a:Int),(intsFrom a n).length=n
 |0,_=>rfl
 |n+1,a=>by rw[zi,bL,Pp n]
theorem Sr{a:Int}(h:df a=true): -(2:Int)^ 40<a/\a<(2:Int)^ 40:=by
 simp only[df,cm,decide_eq_true_eq] at h
 exact h
theorem Qn{x:Str}{p:Pos}(st:aS W.G s g av an aX)(hh:A.handled=none){h':aG}{tk:Nat}{r:az}{u b:Int}{t1 t2 t3:Tok}(keep:∀b o,an.heap.get? b=some o->h'.get? b=some o)(hr:IsRange h' r u b 1 t1 t2 t3)(ul:df u=true)(gu:df b=true)(hx:xs=intsFrom u (b - u).toNat):
 wpAny (model W.G.prog W.G.w) A (pyIter (.ref r)) (λit aD=>∃aN I,it= .ref I/\aS W.G s g av aD aN/\FY W.G A (.Name x p) false s.heap aN aD.heap I xs) (λzz zz=>False) {an with heap:=h',toks:=tk}:=by
 refine xa (Sr ul) λc1 c2=>xa (Sr gu) λc3 c4=>?_
 have hsm:ar0 u b 1=true:=small_one (F7 c1 c2).1 (F7 c1 c2).2 (F7 c3 c4).1 (F7 c3 c4).2
 refine wpAny_pyIter_range hr hsm ?_
 have hn:arU u b 1=(((b - u).toNat:Nat):Int):=Y (rangeSize_one _ _) (iud u b)
 have dead:an.heap.get? h'.objs.size=none:=by
  cases e:an.heap.get? h'.objs.size with
  |none=>rfl
  |some o=>have:=keep _ _ e;rw[fq] at this;exact aC this
 refine ad3 (st:=st) (tk:=tk) (λb o e=>bT _ (keep b o e)) dead (Walks.range (A:=A) hh h'.objs.size u 1 (b - u).toNat).bound (Y hx<|Y (Pp _ _) rfl) (λi v s Q E hs hq=>aH hq) ?_ ?_ (λb V=> .inl (bY.mp V)) λi h' hs=>⟨_,hs⟩
 .skip
  refine sl hn ?_;simpa using cJ _ rfl
 .intro i v Wl;refine qG Wl λhi t vg=>?_;clear Wl;subst vg
  refine ai _ (by refine Y hx ?_;exact Po _ _ _ hi) ?_
  exact Y (Int.mul_one _)<|Is.int
theorem acX(he:fL (ev W.aW W.R (.op .jx (.cons a .nil)) ρ σ)=some (xs,av)):∃n,ba (ev W.aW W.R a ρ σ)=some (.int n,av)/\df n=true/\xs=intsFrom 0 n.toNat:=by
 refine xa (Es he) λhx zz=>?_
 have key:∀v,ev W.aW W.R (.op .jx (.cons a .nil)) ρ σ=some ([v],av)->∃n,ba (ev W.aW W.R a ρ σ)=some (.int n,av)/\df n=true/\v= .d (.list (intsFrom 0 n.toNat)):=λv h=>by
  refine bZ (tn h) λx d H O e=>?_
  clear h;injection e with vI alX;subst vI
  refine aP O λn e1 O=>xa (jY O) λc KM=>?_;clear O;subst KM
  clear O;obtain rfl:=nI e1
  rw[cm] at c
  exact bQ n H c.1 rfl
 rcases hx with hx|hx|⟨kvs,hx,_⟩<;>refine cq (key _ hx) λn H O e=>?_<;>cases e
 exact bQ n H O rfl
theorem acY(he:fL (ev W.aW W.R (.op .oK (.cons a (.cons b .nil))) ρ σ)=some (xs,av)):∃m n ae,ba (ev W.aW W.R a ρ σ)=some (.int m,ae)/\ba (ev W.aW W.R b ρ ae)=some (.int n,av)/\df m=true/\df n=true/\xs=intsFrom m (n - m).toNat:=by
 refine xa (Es he) λhx zz=>?_
 have key:∀v,ev W.aW W.R (.op .oK (.cons a (.cons b .nil))) ρ σ=some ([v],av)->∃m n ae,ba (ev W.aW W.R a ρ σ)=some (.int m,ae)/\ba (ev W.aW W.R b ρ ae)=some (.int n,av)/\df m=true/\df n=true/\v= .d (.list (intsFrom m (n - m).toNat)):=λv h=>by
  refine oz (Ey h) λx y d ae H wA O e=>?_
  clear h;injection e with A4 asf;subst A4
  refine aP O λm e1 O=>aP O λn e2 O=>xa (jY O) λc rO=>?_;clear O;subst rO
  clear O;obtain rfl:=nI e1
  clear O;obtain rfl:=nI e2
  rw[cm,cm] at c
  exact Ec m n ae H wA c.1.1 c.1.2 rfl
 rcases hx with hx|hx|⟨kvs,hx,_⟩<;>refine xr (key _ hx) λm n ae H O h3 h4 e=>?_<;>cases e
 exact Ec m n ae H O h3 h4 rfl
theorem Q8{pos:Pos}{e:Expr}{env:Env}(h:eW e=true):(backTo pos (starEach [e] env)).any (·.1)=false:=by refine Y (cu h) ?_;rfl
theorem bz.jx(hW:W.Ok){x:Str}{tp p pos:Pos}{v:Expr}(hk:cx.kindOf "range"=some .globalImplicit)(hg:nsIn W.G.K mainGlobals "range"=some none)(h:ab W cx v a)(hs:eW v=true:=by rfl):
 bz W cx (.Name x tp) false (.Call (.Name "range" p) [v] [] pos) (.op .jx (.cons a .nil)):=λκ A s g σ env ρ xs av hh rm inv eo he=>by
 refine cq (acX he) λn H ok hx=>kA (lw hW inv eo hk hg (show bootBuiltins "range"=some (.type "range") from by kernel_rfl) (by decide+kernel) (by decide+kernel) (mE ?_ (cu hs) iV))
 refine f8 ?_ (cu hs)
 refine(h.ba rm inv eo H).use λu an aX st q=>iU<|xe q.int_inv λt A2=>?_;clear q;subst A2
 exact call_range_1 (Qn st hh (λb o e=>bT _ e) (acx ..) (by decide+kernel) ok (Y (abH _)<|hx))
theorem bz.oK(hW:W.Ok){x:Str}{tp p pos:Pos}{v u:Expr}(hk:cx.kindOf "range"=some .globalImplicit)(hg:nsIn W.G.K mainGlobals "range"=some none)(h:ab W cx v a)(h':ab W cx u b)(hs:eW v=true:=by rfl)(hJ:eW u=true:=by rfl):
 bz W cx (.Name x tp) false (.Call (.Name "range" p) [v,u] [] pos) (.op .oK (.cons a (.cons b .nil))):=λκ A s g σ env ρ xs av hh rm inv eo he=>by
 refine xr (acY he) λm n ae H O ok ok' hx=>kA (lw hW inv eo hk hg (show bootBuiltins "range"=some (.type "range") from by kernel_rfl) (by decide+kernel) (by decide+kernel) (mE ?_ (cu hs) (Q8 hJ)))
 refine f8 ?_ (cu hs)
 refine(h.ba rm inv eo H).use λyv an aX st q=>f8 ?_ (cu hJ)
 refine(h'.ba rm st.inv (eo.step st) O).use λCf aD aN bb eS=>iU<|xe q.int_inv λt MK=>?_;clear q;subst MK
 refine xe eS.int_inv λt' rD=>?_;clear eS;subst rD
 exact call_range_2 (Qn (st.trans bb) hh (λb o e=>bT _ e) (acx ..) ok ok' hx)
end
set_option maxRecDepth 100000
structure Zp where
 z:az
 TI:az
 TO:az
 i1:az
 i2:az
 l1:az
 l2:az
 xs:Array ao
 ys:Array ao
noncomputable def Zp.wr(Z:Zp):List az:=[Z.z,Z.TO,Z.i1,Z.i2]
structure Fz(Z:Zp)(h:aG):Prop where
 ti:rn h Z.TI (.ref Z.i1) (.ref Z.i2)
 t1:h.IsTuple Z.l1 Z.xs
 t2:h.IsTuple Z.l2 Z.ys
structure uo(Z:Zp)(f0:ao)(k:Nat)(h:aG):Prop extends Fz Z h where
 hz:yj h Z.z Z.TI Z.TO f0
 to:∃a b,rn h Z.TO a b
 H:h.IsTupleIter Z.i1 Z.l1 k
 O:h.IsTupleIter Z.i2 Z.l2 k
structure yR(Z:Zp):Prop where
 D:ZipApart Z.z Z.TI Z.TO Z.i1 Z.i2 Z.l1 Z.l2
 len:Z.xs.size=Z.ys.size
def Off(Z:Zp)(h h':aG):Prop:=∀c o,c ∉ Z.wr->h.get? c=some o->h'.get? c=some o
section
variable{prog:eE}{w:dg}{A:bV}{E:VS}{s:aJ}{Z:Zp}{k:Nat}
theorem yR.out(D:yR Z):Z.TI ∉ Z.wr/\Z.l1 ∉ Z.wr/\Z.l2 ∉ Z.wr:=by
 obtain⟨D,_⟩:=D
 simp only[Zp.wr,bK,mH,or_false,not_or]
 exact Au ((fb D.TIz D.TITO D.TIi1 D.TIi2)) ((fb D.l1z D.l1TO D.l1i1 D.l1i2)) D.l2z D.l2TO D.l2i1 D.l2i2
theorem Fz.off(D:yR Z)(x:Fz Z h)(k:Off Z h h'):Fz Z h':=by
 exact cj D.out λa b c=>ar x.t1 λo1 e1 r1=>ar x.t2 λo2 e2 r2=>⟨k _ _ a x.ti,(ai o1 (k _ _ b e1) r1),(ai o2 (k _ _ c e2) r2)⟩
theorem Off.but(x:Off Z h h')(ha:a∈Z.wr)(k:jV a h' f6):Off Z h f6:=λc o hc e=>k.extBut c o (λz=>hc (z▸ha)) (x c o hc e)
theorem Off.ext(x:Off Z h h')(ha:a∈Z.wr)(k:zA a h' f6):Off Z h f6:=λc o hc e=>k c o (λz=>hc (z▸ha)) (x c o hc e)
theorem Xw:Z.z∈Z.wr/\Z.TO∈Z.wr/\Z.i1∈Z.wr/\Z.i2∈Z.wr:=by simp[Zp.wr]
theorem Off.refl(h:aG):Off Z h h:=λzz zz zz e=>e
theorem qe(x:h.IsTupleIter i l k)(hn:i≠a)(q:jV a h h'):h'.IsTupleIter i l k:=x.at λo e=>q.extBut i o hn e
theorem Ss{Q:VS}(hh:A.handled=none)(D:yR Z)(st:uo Z .none k s.heap)
 (hI:∀x y h',Z.xs[k]? =some x->Z.ys[k]? =some y->uo Z (rawInt s.heap.objs.size) (k+1) h'->rn h' s.heap.objs.size x y->Off Z s.heap h'->Q (.ref s.heap.objs.size) {s with heap:=h'})
 (hE:Z.xs[k]? =none->∀h' e,Off Z s.heap h'->(∃o,h'.get? e=some o/\o.cls= .type "StopIteration")->E (.ref e) {s with heap:=h'}):
 wpAny (model prog w) A (hY.«zip.__next__» ⟨[.ref Z.z],[]⟩) (λfin s'=>∃v,fin= .done (.ret v)/\Q v s') E s:=by
 refine fU (Xw (Z:=Z)) λmz YC m1 m2=>iz st.to λa b hTO=>?_
 show wpAny _ _ (field (.ref Z.z) 2>>=_) _ _ _
 refine am (pQ st.hz rfl (x:= .bool false) rfl ?_)
 show wpAny _ _ (field (.ref Z.z) 3>>=_) _ _ _
 refine am (pQ st.hz rfl (x:= .ref Z.TI) rfl ?_)
 refine am (sI st.ti rfl ?_)
 show wpAny _ _ (Y7 (.ref Z.z)>>=_) _ _ _
 refine am ?_
 unfold Y7
 refine am (pQ st.hz rfl (x:= .none) rfl (aH ?_))
 refine Y (if_pos rfl)<|am (uI ?_)
 refine am (pQ st.hz rfl (x:= .ref Z.TO) rfl ?_)
 refine am (GZ st.hz (by simp) λg1 z1 k1=>?_)
 replace z1:yj g1 Z.z Z.TI Z.TO .ellipsis:=z1
 have o1:=(Off.refl (Z:=Z) s.heap).but mz k1
 have r1:=st.toFz.off D o1
 have i1:=qe st.H D.D.i1z k1
 have i2:=qe st.O D.D.i2z k1
 refine am ?_
 simp only[List.zipIdx_cons,List.zipIdx_nil,OV,O6]
 refine am (am (wpAny_onRaise ?_))
 show wpAny _ _ (GI (.ref Z.i1)>>=_) _ _ _
 cases hx:Z.xs[k]? with
 |none=>
  refine am (next_tuple_end hh i1 r1.t1 hx λg2 e k2 he=>?_)
  refine ar he λoe ND YD=>?_
  have z2:yj g2 Z.z Z.TI Z.TO .ellipsis:=k2 _ _ D.D.i1z.symm z1
  have hez:e≠Z.z:=λx=>by clear he;subst x;rw[z2] at ND;injection ND with vz;subst vz;simp at YD
  exact GZ z2 (by simp) λg3 zz k3=>hE hx g3 e ((o1.ext m1 k2).but mz k3) (ai oe (k3.extBut _ _ hez ND) YD)
 |some x=>
  have hk:k<Z.xs.size:=(wG.mp hx).1
  refine xe (show ∃y,Z.ys[k]? =some y from⟨_,mD (D.len▸hk)⟩) λy hy=>?_
  refine am (HH i1 r1.t1 hx λg2 i1' k2=>aH ?_)
  have t2:rn g2 Z.TO a b:=k2.extBut _ _ D.D.TOi1 (k1.extBut _ _ D.D.TOz hTO)
  have o2:=o1.but m1 k2
  refine am (sI t2 rfl ?_)
  refine am (Z1 t2 λg3 t3 k3=>?_)
  replace t3:rn g3 Z.TO x b:=t3
  have o3:=o2.but YC k3
  refine am (wpAny_letGo (aH ?_))
  refine am (am (wpAny_onRaise ?_))
  show wpAny _ _ (GI (.ref Z.i2)>>=_) _ _ _
  refine am (HH (qe (qe i2 D.D.i12.symm k2) D.D.TOi2.symm k3) (st.toFz.off D o3).t2 hy λg4 i2' k4=>aH ?_)
  have t4:rn g4 Z.TO x b:=k4.extBut _ _ D.D.TOi2 t3
  have o4:=o3.but m2 k4
  refine am (sI t4 rfl ?_)
  refine am (Z1 t4 λg5 t5 k5=>?_)
  replace t5:rn g5 Z.TO x y:=t5
  have o5:=o4.but YC k5
  refine am (wpAny_letGo (aH (aH ?_)))
  refine am (sI t5 rfl ?_)
  refine am (G' ?_)
  have bF:g5.objs.size=s.heap.objs.size:=by exact Y k5.1<|Y k4.1<|Y k3.1<|Y k2.1<|Y k1.1 rfl
  have z5:yj g5 Z.z Z.TI Z.TO .ellipsis:=k5.extBut _ _ D.D.TOz.symm (k4.extBut _ _ D.D.i2z.symm (k3.extBut _ _ D.D.TOz.symm (k2.extBut _ _ D.D.i1z.symm z1)))
  have i15:=qe (qe (qe i1' D.D.TOi1.symm k3) D.D.i12 k4) D.D.TOi1.symm k5
  have i25:=qe i2' D.D.TOi2.symm k5
  have Xx:Z.z<g5.objs.size:=dI z5
  show wpAny _ _ (Y6 (.ref Z.z) (.ref g5.objs.size)>>=_) _ _ _
  refine am ?_
  unfold Y6
  have z6:yj (g5.push {cls:= .type "tuple",data:= .seq #[x,y]}) Z.z Z.TI Z.TO .ellipsis:=bT _ z5
  refine am (GZ z6 (by simp) λg7 z7 k7=>?_)
  replace z7:yj g7 Z.z Z.TI Z.TO (rawInt g5.objs.size):=z7
  refine GZ z7 (by simp) λg8 z8 k8=>?_
  replace z8:yj g8 Z.z Z.TI Z.TO (rawInt g5.objs.size):=z8
  have up:∀c o,c≠Z.z->g5.get? c=some o->g8.get? c=some o:=λc o c1 e=>k8.extBut _ _ c1 (k7.extBut _ _ c1 (bT _ e))
  have T8:rn g8 g5.objs.size x y:=k8.extBut _ _ (lX Xx) (k7.extBut _ _ (lX Xx) (cJ _ rfl))
  have o8:Off Z s.heap g8:=λc o hc e=>up c o (λz=>hc (z▸mz)) (o5 c o hc e)
  refine aH (ai _ rfl ?_)
  show Q (.ref g5.objs.size) _
  rw[bF] at z8 T8⊢
  exact hI x y g8 hx hy ⟨st.toFz.off D o8,z8,(ie _ _ (up _ _ D.D.TOz t5)),Heap.IsTupleIter.at i15 λo e=>up _ o D.D.i1z e,Heap.IsTupleIter.at i25 λo e=>up _ o D.D.i2z e⟩ T8 o8
end
set_option maxRecDepth 100000
noncomputable abbrev LM(l:az):Obj:={cls:= .type "tuple_iterator",data:= .fields #[.ref l, .int 0 0]}
def Gk(h:aG)(l1:az):aG:=h.push (LM l1)
def CQ(h:aG)(l1 l2:az):aG:=(Gk h l1).push (LM l2)
def CR(h:aG)(l1 l2:az):aG:=(CQ h l1 l2).push {cls:= .type "tuple",data:= .seq #[.ref h.objs.size, .ref (Gk h l1).objs.size]}
def CS(h:aG)(l1 l2:az):aG:=(CR h l1 l2).push {cls:= .type "tuple",data:= .seq #[.none, .none]}
def wB(h:aG)(l1 l2:az):aG:=(CS h l1 l2).push {cls:= .type "zip",data:= .fields #[.none, .bool false, .bool false, .ref (CQ h l1 l2).objs.size, .ref (CR h l1 l2).objs.size]}
theorem acZ(l1 l2:az)(xs ys:Array ao):
 rJ (hY.«zip.__new__» ⟨[.type "zip", .ref l1, .ref l2],[]⟩) (λzz R s=>s.heap.IsTuple l1 xs/\s.heap.IsTuple l2 ys/\R (.ok (.ret (.ref (CS s.heap l1 l2).objs.size))) {s with heap:=wB s.heap l1 l2}):=
 .of_wp λprog w A R s h=>by
  obtain⟨hp,g,d,tk,os⟩:=s;refine cj h λqS am0 h=>ar am0 λo2 e2 r2=>?_
  have pa:=sub_zip
  have CT:=qS
  have CU:abJ (acv ⟨hp.push (LM l1),g,d,tk,os⟩) l2 ys:=ai o2 (bT _ e2) r2
  wp_walk using wN CT,wN CU
  exact ai _ rfl h
section
variable{prog:eE}{w:dg}{A:bV}{E:VS}{s:aJ}{Z:Zp}{k:Nat}
theorem ad4(qS:s.heap.IsTuple l1 xs)(i9:s.heap.IsTuple l2 ys)
 (h:∀h',uo ⟨s.heap.objs.size+4,s.heap.objs.size+2,s.heap.objs.size+3,s.heap.objs.size,s.heap.objs.size+1,l1,l2,xs,ys⟩ .none 0 h'->(∀c o,s.heap.get? c=some o->h'.get? c=some o)->Q (.ref (s.heap.objs.size+4)) {s with heap:=h'}):
 wpAny (model prog w) A (call (.type "zip") [.ref l1, .ref l2]) Q E s:=by
 refine callType_new F.called_zip (by decide) (F.typeCall_zip_2 _ _) (F.newCall_zip_2 _ _) (λobj=>F.args_object_init_3 obj _ _) F.entry_zip_new (acZ l1 l2 xs ys) (bO qS i9 ?_)
 have p {g:aG} {o:Obj} {a:az} {b:Obj} (e:g.get? a=some o):(g.push b).get? a=some o:=bT _ e
 have z1:(Gk s.heap l1).objs.size=s.heap.objs.size+1:=kF ..
 have z2:(CQ s.heap l1 l2).objs.size=s.heap.objs.size+2:=by rw[CQ,kF,z1]
 have z3:(CR s.heap l1 l2).objs.size=s.heap.objs.size+3:=by rw[CR,kF,z2]
 have z4:(CS s.heap l1 l2).objs.size=s.heap.objs.size+4:=by rw[CS,kF,z3]
 have g5:(wB s.heap l1 l2).get? (CS s.heap l1 l2).objs.size=some _:=cJ _ rfl
 have g4:(wB s.heap l1 l2).get? (CR s.heap l1 l2).objs.size=some _:=p (cJ _ rfl)
 have g3:(wB s.heap l1 l2).get? (CQ s.heap l1 l2).objs.size=some _:=p (p (cJ _ rfl))
 have g2:(wB s.heap l1 l2).get? (Gk s.heap l1).objs.size=some _:=p (p (p (cJ _ rfl)))
 have g1:(wB s.heap l1 l2).get? s.heap.objs.size=some _:=p (p (p (p (cJ _ rfl))))
 have keep:∀c o,s.heap.get? c=some o->(wB s.heap l1 l2).get? c=some o:=λc o e=>p (p (p (p (p e))))
 show _/\_
 rw[z2,z3,z4] at g5
 rw[z1,z2] at g3
 rw[z3] at g4
 rw[z1] at g2
 exact Y z4<|ar qS λo1 e1 q1=>ar i9 λo2 e2 q2=>⟨(ai _ g5 rfl),h _ ⟨⟨g3,(ai o1 (keep _ _ e1) q1),(ai o2 (keep _ _ e2) q2)⟩,g5,(ie _ _ g4),(bQ _ g1 rfl rfl),(bQ _ g2 rfl rfl)⟩ keep⟩
def ZPt(Z:Zp)(i:Nat)(v:ao)(h:aG):Prop:=∃T x y,v= .ref T/\Z.xs[i]? =some x/\Z.ys[i]? =some y/\rn h T x y
def ZMd(Z:Zp)(i:Nat)(v:ao)(h:aG):Prop:=∃T x y,v= .ref T/\Z.xs[i]? =some x/\Z.ys[i]? =some y/\rn h T x y/\T≠Z.z/\uo Z (rawInt T) (i+1) h
noncomputable def Zp.fp(Z:Zp):List az:=[Z.z,Z.TO,Z.i1,Z.i2,Z.TI,Z.l1,Z.l2]
theorem uo.at(x:uo Z f k h)(q:∀b∈Z.fp,∀o,h.get? b=some o->h'.get? b=some o):uo Z f k h':=by
 obtain⟨⟨a,⟨o1,e1,r1⟩,⟨o2,e2,r2⟩⟩,b,⟨c,d,e⟩,f,g⟩:=x
 exact⟨⟨q _ (by simp[Zp.fp]) _ a,(ai o1 (q _ (by simp[Zp.fp]) _ e1) r1),(ai o2 (q _ (by simp[Zp.fp]) _ e2) r2)⟩,q _ (by simp[Zp.fp]) _ b,(ie c d (q _ (by simp[Zp.fp]) _ e)),Heap.IsTupleIter.at f λo=>q _ (by simp[Zp.fp]) o,Heap.IsTupleIter.at g λo=>q _ (by simp[Zp.fp]) o⟩
theorem ad5{elts:List Expr}{c:Nat}{pos:Pos}(hh:A.handled=none)(D:yR Z):KTurns prog w A (.Tuple elts c pos) Z.z Z.fp (Z.TI::Z.wr) Z.xs.size (ZPt Z) (ZMd Z) (λi h=>uo Z .none i h) where
 sub:=λb V=>by
  simp only[Zp.wr,Zp.fp,bK,mH,or_false] at V⊢
  rcases V with h|h|h|h|h<;>simp[h]
 frame:=λi h h' st hk=>st.at hk
 item:=λi s Q E hi st hQ=>by
  have hT:s.TypeIs (.ref Z.z) "zip" :=ai _ st.hz rfl
  refine am (Dz (uw (name:=bl "__next__") hT G8 (ny G8 hT aaJ
   (Ss hh D st (λx y h' hx hy cz hp off=>aH (hQ _ h' s.toks (sU _ x y rfl hx hy hp (lX (dI st.hz)) cz) λb o V e=>off b o (λh=>V (.tail _ h)) e)) λhn=>?_) (aax _))))
  rw[mD hi] at hn;exact ft hn
 go:=λi v s Q E hm hQ=>by
  refine pU hm λT x y am1 hx hy hp hn st=>?_;clear hm;subst am1
  have D':=D.D
  refine wpAny_letOwnedTupleGo_zip st.hz λh' wz hJ=>hQ h' (jX T x y rfl hx hy (hJ.extBut _ _ hn hp)) ?_ λc o hc e=>hJ.extBut _ _ (λx=>hc (by simp[x,Zp.wr])) e
  exact iz st.to λa b e=>⟨st.toFz.off D ((Off.refl _).but Xw.1 hJ),wz,(ie a b (hJ.extBut _ _ D'.TOz e)),qe st.H D'.i1z hJ,qe st.O D'.i2z hJ⟩
 done:=λs Q E st hQ=>by
  have hT:s.TypeIs (.ref Z.z) "zip" :=ai _ st.hz rfl
  refine am (Dz (uw (name:=bl "__next__") hT G8 (ny G8 hT aaJ
   (Ss hh D st (λx y h' hx=>?_) λzz h' e off apb=>ar apb λo ho hc=>?_) (aax _))))
  .rw[ux (a8 _)] at hx;exact aC hx
  .refine am (Ds (T:="StopIteration") (b:=true) (ai o ho hc) O4 ?_)
   exact aH (hQ h' s.toks λb o V e=>off b o (λh=>V (.tail _ h)) e)
theorem Su:∀{xs ys:List ah} {i:Nat} {x y:ah},xs[i]? =some x->ys[i]? =some y->(mj xs ys)[i]? =some (.tuple [x,y])
 |x::xs,y::ys,0,_,_,H,O=>by injection H with KO;subst KO;injection O with vK;subst vK;rfl
 |x::xs,y::ys,i+1,a,b,H,O=>by
  rw[HS,N']
  exact Su (ys:=ys) H O
 |[],_,i,_,_,H,_=>by simp at H
 |x::xs,[],i,_,_,_,O=>by simp at O
theorem Sv:∀{xs ys:List ah},xs.length=ys.length->(mj xs ys).length=xs.length
 |[],_,_=>rfl
 |x::xs,y::ys,h=>by rw[HS,bL,bL,Sv (zq h)]
 |x::xs,[],h=>by simp at h
end
section
variable{W:Wd}{A:bV}{cx:Cx}{s:aJ}{g:aG}{σ av:Sg}{ρ:List aK}{a b:E}{xs:List ah}
theorem aft(he:fL (ev W.aW W.R (.op .zip2 (.cons a (.cons b .nil))) ρ σ)=some (xs,av)):∃us vs ae,ba (ev W.aW W.R a ρ σ)=some (.tuple us,ae)/\ba (ev W.aW W.R b ρ ae)=some (.tuple vs,av)/\us.length=vs.length/\xs=mj us vs:=by
 refine xa (Es he) λhx zz=>?_
 have key:∀v,ev W.aW W.R (.op .zip2 (.cons a (.cons b .nil))) ρ σ=some ([v],av)->∃us vs ae,ba (ev W.aW W.R a ρ σ)=some (.tuple us,ae)/\ba (ev W.aW W.R b ρ ae)=some (.tuple vs,av)/\us.length=vs.length/\v= .d (.list (mj us vs)):=λv h=>by
  refine oz (Ey h) λx y d ae H wA O e=>?_
  clear h;injection e with MA asz;subst MA
  refine aP O λm e1 O=>aP O λn e2 O=>?_
  have h3:m.length=n.length/\jW (mj m n)=d:=by
   by_cases c:m.length=n.length
   .rw[if_pos c] at O;exact⟨c,gS O⟩
   .rw[if_neg c] at O;exact aC O
  obtain rfl:=tc e1
  clear O;obtain rfl:=tc e2
  exact jX m n ae H wA h3.1 (Y h3.2 rfl)
 rcases hx with hx|hx|⟨kvs,hx,_⟩<;>refine mP (key _ hx) λm n ae H O h3 e=>?_<;>cases e
 exact jX m n ae H O h3 rfl
theorem yS{a b c:Nat}(h:a<b)(k:b<=c):a≠c:=dH (Dm h k)
theorem Gl{a b c:Nat}(h:b<c):a+b≠a+c:=λe=>dH h (Z8 e)
theorem YE{a b c:Nat}(h:c<b):a+b≠a+c:=λe=>lX h (Z8 e)
theorem aiO(H:l1<N)(O:l2<N):ZipApart (N+4) (N+2) (N+3) N (N+1) l1 l2:=
 ⟨Gl (by decide),Gl (by decide),dH (C9 (by decide)),Gl (by decide),Gl (by decide),lX (C9 (by decide)),YE (by decide),lX (C9 (by decide)),YE (by decide),dH (C9 (by decide)),yS H (kx _ _),yS H (kx _ _),dH H,yS H (kx _ _),yS O (kx _ _),yS O (kx _ _),dH O,yS O (kx _ _)⟩
theorem bz.zip2(hW:W.Ok)(hk:cx.kindOf "zip"=some .globalImplicit)(hg:nsIn W.G.K mainGlobals "zip"=some none)(h:ab W cx v a)(h':ab W cx u b)(hs:eW v=true:=by rfl)(hJ:eW u=true:=by rfl):
 bz W cx (.Tuple elts k MQ) true (.Call (.Name "zip" p) [v,u] [] pos) (.op .zip2 (.cons a (.cons b .nil))):=λκ A s g σ env ρ xs av hh rm inv eo he=>by
 refine mP (aft he) λus vs ae H O hl Bm=>?_;clear he;subst Bm
 refine kA (lw hW inv eo hk hg (show bootBuiltins "zip"=some (.type "zip") from by kernel_rfl) (by decide+kernel) (by decide+kernel) (mE ?_ (cu hs) (Q8 hJ)))
 refine f8 ?_ (cu hs)
 refine(h.ba rm inv eo H).use λyv an aX st q=>f8 ?_ (cu hJ)
 refine(h'.ba rm st.inv (eo.step st) O).use λCf aD aN bb eS=>iU ?_
 replace q:=q.mono bb.grow
 have eZ:=st.trans bb
 refine bZ (Is.qo bb.inv (v:=yv) q) λl1 x1 apd CT r1=>?_;subst apd
 refine bZ (Is.qo bb.inv (v:=Cf) eS) λl2 x2 K5 CU r2=>?_;subst K5
 have e1:x1.size=us.length:=by have:=r1.length;simpa using this
 have e2:x2.size=vs.length:=by have:=r2.length;simpa using this
 have n1:l1<aD.heap.objs.size:=let ⟨o,ho,_⟩:=CT;dI ho
 have n2:l2<aD.heap.objs.size:=let ⟨o,ho,_⟩:=CU;dI ho
 have gl:∀{l:az} {ds:List ah},Is aN (.ref l) (.tuple ds)->∃o,aN.get? l=some o:=λq=>by
  refine oE (Is.kH q) λa' o' Ni n' e' H zz=>?_
  injection e' with Bq;subst Bq;exact⟨o',H⟩
 have g1:=gl q
 have g2:=gl eS
 have dead:∀b,aD.heap.objs.size<=b->s.heap.get? b=none/\aN.get? b=none:=λb V=>Ee eZ (om V)
 refine ad4 CT CU λhz st keep=>?_
 generalize aD.heap.objs.size=N at n1 n2 dead st⊢
 have D:yR ⟨N+4,N+2,N+3,N,N+1,l1,l2,x1,x2⟩:=⟨aiO n1 n2,by exact Y e1<|Y e2<|Y hl rfl⟩
 have KT:=ad5 (elts:=elts) (c:=k) (pos:=MQ) (prog:=W.G.prog) (w:=W.G.w) (A:=A) hh D
 rw[show(⟨N+4,N+2,N+3,N,N+1,l1,l2,x1,x2⟩:Zp).xs.size=(mj us vs).length from by exact Y (Sv hl)<|e1] at KT
 refine aaK st.hz (eY aN _ rfl (eZ.trans (aS.il bb.inv keep)) (⟨_,_,_,_,_,KT,st,λi v h' hp=>?_,λb V=>?_,λb V=>?_,λs Q E hs hq=>aaK hs.hz hq,λi h' hs b V=>?_⟩))
 .obtain⟨T,x,y,rfl,hx,hy,hp⟩:=hp
  have i1:i<us.length:=e1▸(wG.mp hx).1
  obtain⟨w1,f1,p1⟩:=r1.get (k:=i) (d:=us[i]) (by simp[i1])
  obtain⟨w2,f2,p2⟩:=r2.get (k:=i) (d:=vs[i]'(hl▸i1)) (by simp[hl▸i1])
  rw[lR] at f1 f2
  rw[show x1[i]? =some x from hx] at f1
  rw[show x2[i]? =some y from hy] at f2
  injection f1 with KV;subst KV;injection f2 with LN;subst LN
  exact⟨_,Su (by simp[i1]) (by simp[hl▸i1]), .inr ⟨rfl,T,#[x,y],_,rfl,rfl,⟨_,hp,rfl,_,rfl⟩, .cons p1 (.cons p2 .nil)⟩⟩
 .simp only[Zp.wr,bK,mH,or_false] at V
  have live:∀b,(∃o,hz.get? b=some o)->N<=b->s.heap.get? b=none/\aN.get? b=none/\∃o,hz.get? b=some o:=λb hl V=>(bO ((dead b V).1) ((dead b V).2) hl)
  clear D;clear n1 n2;rcases V with rfl|rfl|rfl|rfl|rfl
  .exact live _ ⟨_,st.ti⟩ (kx _ _)
  .exact live _ ⟨_,st.hz⟩ (be [] (B,J B (.num 4)) rfl)
  .exact iz st.to λzz zz e=>live _ ⟨_,e⟩ (kx _ _)
  .exact ar st.H λo e zz=>live _ ⟨_,e⟩ (a8 _)
  .exact ar st.O λo e zz=>live _ ⟨_,e⟩ (kx _ _)
 .simp only[Zp.fp,bK,mH,or_false] at V
  clear CT CU dead st D;clear n1 n2;rcases V with rfl|rfl|rfl|rfl|rfl|rfl|rfl
  .exact .inl (by simp[Zp.wr])
  .exact .inl (by simp[Zp.wr])
  .exact .inl (by simp[Zp.wr])
  .exact .inl (by simp[Zp.wr])
  .exact .inl (.head _)
  .exact .inr g1
  .exact .inr g2
 .simp only[Zp.wr,bK,mH,or_false] at V
  clear dead st D;clear n1 n2;rcases V with rfl|rfl|rfl|rfl|rfl
  .exact⟨_,hs.ti⟩
  .exact⟨_,hs.hz⟩
  .exact iz hs.to λzz zz e=>⟨_,e⟩
  .exact ar hs.H λo e zz=>⟨_,e⟩
  .exact ar hs.O λo e zz=>⟨_,e⟩
end
section
variable{W:Wd}{A:bV}{cx:Cx}{κ:cF}{env:Env}{ρ aE:List aK}{s aZ:aJ}{g bS:aG}{σ av:Sg}{b:aK}{i j:Nat}{x y:Str}{rest:List lI}{S:bh.S}{D:az}
theorem Ef(sub:Sub g h)(H:g.get? a=none)(O:a≠D):(cv g h (·=D)).get? a=none:=by
 cases e:(cv g h (·=D)).get? a with
 |none=>rfl
 |some o=>
  refine a9 (mQ sub e) (λe=>?_) (λe=>?_)
  .rw[H] at e;exact aC e
  .exact absurd e O
theorem ahl(st:aS G aZ bS σ s g)(h0:aZ.heap.get? D=none)(hc:D≠G.c)(hG:∀o,s.heap.get? D=some o->nN G.w o):aS G aZ bS σ s (cv g s.heap (·=D)):=by
 have sub:=st.inv.sub
 refine⟨st.same,st.keep,st.grow.trans (ij sub),λb o e=>?_,st.inv.base.trans (ij sub),q9,Ef sub st.inv.gc (oH hc),st.inv.shr.at (λzz zz e=>e) (ij sub),λb o e=>?_⟩
 .refine a9 (mQ sub e) (λe=>?_) (λe=>?_)
  .exact st.fresh b o e
  .exact .inr (e▸h0)
 .intro V
  refine a9 (mQ sub e) (λq=>?_) (λq=>?_)
  .exact st.inv.tab b o q V
  .exact hG o (q▸q9 b o e)
theorem a7.cv(eo:a7 G cx κ g h env ρ)(sub:Sub g h)(hD:¬cG cx κ env ρ D)(hv:∀x i,cx.Γ.lookup x=some i->cx.var x=true)(hw:∀j b v,dY b=true->eF G κ j g h v b->κ.f j≠D):a7 G cx κ (cv g h (·=D)) h env ρ:=
 eo.chg (λj b H O=>(bQ b H O (λv q=>q.to (ij sub) (λob=>hw j b v ob q) (λa H O=>Ef sub H O) λzz zz=>rfl)))
   (λa ha=>⟨λe=>Ef sub e λz=>hD (z▸ha.elim .inl λh=> .inr (.inl h)),λzz e=>e⟩) rfl eo.ap eo.od
theorem ahm(eo:a7 G cx κ g s.heap env (ρ.set i .un))(hk:cx.kindOf x=some .local)(jP:cx.Γ.lookup x=some i)(hj:lZ cx x i)(ob:dY b=false)(hn:s.heap.Ns env.locals m)(hm:m x=some v)(V:eF G κ i g s.heap v b):a7 G cx κ g s.heap env (ρ.set i b):=by
 have lM:s.heap.Ns env.locals (λy=>if y=x then some v else m y):=by
  have:(λy=>if y=x then some v else m y)=m:=by
   funext y
   by_cases e:y=x
   .exact Y (if_pos e)<|Y e<|Y hm rfl
   .exact Y (if_neg e) rfl
  exact Y this<|hn
 have:=Du (b:=b) eo hk jP hj (λh=>by rw[ob] at h;exact aQ h) hn lM (aav _ _) V
 rwa [qU] at this
theorem ab1(hd:h.DictOf (strKind G.prog G.w) D xs)(bB:xs≠[])(ob:dY b=true)(q:eF G κ j g h v b):κ.f j≠D:=by
 rintro rfl
 refine pU hd λo es ep ho hx iI wn hp hn=>?_
 clear hx;cases b with
 |un=>exact aQ ob
 |v _=>exact aQ ob
 |own ds=>
  refine cq q λvs zz Ln zz=>xe Ln λn p=>?_
  rw[ho] at p;injection p with KC;clear ho;subst KC;exact zg iI
 |cI kvs=>
  refine cj q λzz A0 zz=>ar A0 λys Fx zz=>xr Fx λo' jO ep' eJ zz dw he zz=>?_
  rw[ho] at eJ;clear Fx;injection eJ with oN;subst oN
  rw[iI] at dw;injection dw with LN am2;subst LN am2
  cases qQ:es.toList with
  |nil=>rw[qQ] at hp;cases hp;exact bB rfl
  |cons e r=>
   refine ar (wn e (Dh.mp (by refine Y qQ ?_;exact .head _))) λk hk zz=>?_
   refine xe (E3 hk) λt hk=>?_
   rw[qQ] at he
   cases ys with
   |nil=>exact WQ he
   |cons y ys=>
    rw[bE] at he
    injection he with he _
    rw[he] at hk;exact C' hk
theorem ad6{k:Str}{v:ao}:stored xs k v≠[]:=by
 unfold stored
 split
 .rename_i h
  intro e
  rw[Dk.mp e] at h;exact aQ h
 .simp
theorem aq.tO(hW:W.Ok)(hxx:cx.kindOf x=some .local/\cx.Γ.lookup x=some i/\lZ cx x i)(hk:cx.kindOf y=some .globalImplicit)(hg:nsIn W.G.K mainGlobals y=some none)(V:bootBuiltins y=some (.type "dict"))
 (h:ab W cx tab a) (wn:ab W cx ke ek) (hv:ab W cx v (.loc c)) (hci:i≠c) (am3:∀ρ σ,ev W.aW W.R ek (ρ.set i .un) σ=ev W.aW W.R ek ρ σ) (k:aq W cx rest S) (kW:∀x i,cx.Γ.lookup x=some i->cx.var x=true)
 (ul:∀env,swapsWith (.Call (.Name y dp) [tab] [] cp) (some (.Name x p)) pos.line env=pure false:=by intro _;rfl) (gu:∀env,swapsWith v (some (.Subscript (.Name x q) ke sp)) ape.line env=pure false:=by intro _;rfl)
 (hn:y≠"__name__" :=by decide+kernel) (hd:(y==("__debug__" :Str))=false:=by decide+kernel) (hs:eW tab=true:=by rfl) (Cv:(x==("__debug__" :Str))=false:=by decide+kernel):
 aq W cx (.Assign [.Name x p] (.Call (.Name y dp) [tab] [] cp) pos:: .Assign [.Subscript (.Name x q) ke sp] v ape::rest) (.asg i (.op .tO (.cons a (.cons ek (.cons (.loc c) .nil)))) S):=λκ fr A aZ bS s g σ env ρ out rm st eo fm hL he=>by
 obtain⟨⟨r,av⟩,h0,he⟩:=sG.mp he
 obtain⟨x1,x2,x3,d,YF,σ2,H,O,h3,h4,h5⟩:=TS (xB h0)
 clear h0;injection h5 with Kj ash;subst Kj
 obtain⟨kvs,e1,h4⟩:=sG.mp h4
 obtain⟨ky,e2,h4⟩:=sG.mp h4
 obtain⟨ok,rfl⟩:=jY h4
 clear h4;obtain rfl:=Ab e1
 clear h4;obtain rfl:=uP e2
 simp only[cm,decide_eq_true_eq] at ok
 obtain⟨⟨ok,hl⟩,_⟩:=ok
 have wk:ρ[c]? =some (.v (.d x3))/\av=σ2:=by
  have h3:=rd h3
  clear he;obtain⟨z,e1,e2⟩:=sG.mp h3
  clear h3;injection e2 with MC;injection MC with aiP aiQ;injection aiP with afu ar2;subst afu aiQ
  exact⟨UO e1,rfl⟩
 obtain⟨wk,rfl⟩:=wk
 obtain⟨hx,jP,hj⟩:=hxx
 have fn:=u7 eo
 have ko:=xk eo x
 refine jT (wJ (kA (lw hW st.inv eo hk hg V hn hd (mE ?_ (cu hs) iV))) (ul env) rfl)
 refine f8 ?_ (cu hs)
 refine(h.ba rm st.inv eo H).use λv1 s1 g1 kj q1=>iU ?_
 obtain⟨t,xs,rfl,T⟩:=xU hW.eU kj.inv q1 ok
 have br:xs.length=kvs.length:=by have:=congrArg pR T.keys;simpa using this
 have yT:=eo.step kj
 refine kt_call_dict T.ne T.dict (by refine Y br ?_;exact fG (aB hl (by decide))) λog hD mA=>?_
 have ye:∀b o,s1.heap.get? b=some o->og.get? b=some o:=λb o e=>(mA.2 b (dH (dI e))).trans (bT _ e)
 have dead:s1.heap.get? s1.heap.objs.size=none:=fq
 generalize s1.heap.objs.size=D at hD mA dead⊢
 have hDl:og.get? D≠none:=by obtain⟨o,_,_,e,_⟩:=hD;exact Y e<|λz=>nomatch z
 have YG:=st.trans kj
 have d0:aZ.heap.get? D=none:=(Ee YG dead).1
 have gD:g1.get? D=none:=(Ee kj dead).2
 have Dc:D≠W.G.c:=by
  rintro rfl
  obtain⟨o,e⟩:=oM kj.inv
  rw[dead] at e;exact aC e
 have NE:∀b,cG cx κ env ρ b->b≠D:=λb V e=>by
  obtain⟨o,z⟩:=yT.live (λx i w z zz zz=>kW x i z) V
  rw[e,dead] at z;exact aC z
 have YH:fr D=none:=(fm.step kj).dead dead
 have lO:=aS.il (G:=W.G) (tk:=s1.toks) kj.inv ye
 have wC:=yT.step lO
 obtain⟨m,lL,_⟩:=id wC.vars
 refine OJ (Oi (ko.trans hx) lL (λYI MU eh=>?_) (by refine Y fn ?_;rfl))
 have Gm:=Du (b:= .un) wC hx jP hj (λz=>nomatch z) lL MU eh trivial
 have mv:bh.Moved (Wr g6 cx env) {s1 with heap:=og} {s1 with heap:=YI,toks:=s1.toks+1}:=⟨_,_,rfl,λb o V e=>(eh.2 b λz=>V (.inl z)).trans e⟩
 have sf:∀b,Wr g6 cx env b->aZ.heap.get? b=none/\g1.get? b=none/\b≠W.G.c:=λb V=>by
  have w:=Wr.safe wC b V
  exact⟨ou hL (Wr.n9 eo V),w.1,w.2⟩
 have yU:=(YG.trans lO).moved mv sf
 have fm3:=((fm.step kj).step lO).asg (b:= .un) (i:=i) mv rfl
 have YJ:YI.DictOf (strKind W.G.prog W.G.w) D xs:=by
  obtain⟨o,es,ep,e,r⟩:=hD
  exact⟨o,es,ep,(eh.2 D λz=>NE _ (.inl rfl) z.symm).trans e,r⟩
 refine jT (Of ((hv.ba rm yU.inv Gm (by
  show ba (((ρ.set i .un)[c]?.bind Cq).bind λx=>some ([x],YF))=some (x3,YF)
  refine Y (Di hci)<|Y wk ?_;rfl)).use λu s4 g4 CV q4=>?_) (gu env))
 have CW:=Gm.step CV
 refine zE (GP fn (ko.trans hx) (MU.at' λo e=>CV.keep _ o eo.lc e) (if_pos rfl) ?_) Cv
 refine(wn.ba rm CV.inv CW (by refine Y (am3 _ _) ?_;exact O)).use λuk s5 g5 Gn q5=>?_
 obtain⟨tk,rfl⟩:=q5.str_inv
 have Ch:=CV.trans Gn
 have Go:=CW.step Gn
 have hD5:s5.heap.DictOf (strKind W.G.prog W.G.w) D xs:=by
  obtain⟨o,es,ep,e,r⟩:=YJ
  exact⟨o,es,ep,Ch.keep D o Dc e,r⟩
 refine Z6 (mM W.G.prog W.G.w ky _) hD5 (λyV YK YL=>?_) (by refine Y br ?_;exact fG (aB hl (by decide)))
 obtain⟨z1,z2⟩:=JC T.keys (T.vals.mono (lO.grow.trans Ch.grow)) (k:=ky) (q4.mono Gn.grow)
 have g5D:g5.get? D=none:=by
  obtain⟨o,es,ep,e,r⟩:=YJ
  exact Ch.gone gD e
 have NF:bh.Moved (·=D) s5 {s5 with heap:=yV,toks:=s5.toks+1}:=⟨_,_,rfl,λb o V e=>(YL.2 b V).trans e⟩
 have Xy:∀b,cG cx κ env (ρ.set i .un) b->b≠D:=λb V=>NE b (cG.set rfl V)
 have eo6:=Go.moved NF Xy
 have YM:=(yU.trans Ch).moved NF λb V=>V▸⟨d0,g5D,Dc⟩
 have fm6:=(fm3.step CV).step Gn |>.moved NF λb V=> .inr (V▸YH)
 obtain⟨o,es,ep,ho,hex,iI,apf,hp,Nv⟩:=id YK
 have stF:=ahl YM d0 Dc λo' e'=>by
  rw[show yV.get? D=_ from ho] at e';injection e' with LI;subst LI
  refine⟨λzz jO n' dw zz=>?_,λzz=>hex.2.1⟩
  rw[iI] at dw;injection dw with LO am4;subst LO am4
  refine⟨hex,λe he x t ex=>?_⟩
  obtain⟨k,pn,po⟩:=apf e (Dh.mp he)
  rw[ex] at pn
  have:x=k:=by simpa [w8,zk] using pn
  refine Y po<|sl this ?_;rfl
 have MV:Sub g5 yV:=YM.inv.sub
 have eoF:=eo6.cv MV (λz=>Xy _ z rfl) kW λj b v ob q=>ab1 YK ad6 ob q
 have isT:Is (bh.cv g5 yV (·=D)) (.ref D) (.dict (m3 kvs ky x3)):=by
  obtain⟨p1,p2⟩:=Ho (g:=bh.cv g5 yV (·=D)) hp
  rw[z1] at p1
  have p3:=z2.mono (ij MV (X:=(·=D)))
  rw[<- p2] at p3
  obtain⟨_,r1⟩:=p1
  obtain⟨_,r2⟩:=p3
  exact⟨_, .dict (nH rfl ho) hex.1 iI r1 r2⟩
 have apg:=ahm (s:={s5 with heap:=yV,toks:=s5.toks+1}) (b:= .v (.d (.dict (m3 kvs ky x3)))) eoF hx jP hj rfl
  ((MU.at' λo e=>Ch.keep _ o eo.lc e).at' λo e=>(YL.2 _ λz=>NE _ (.inl rfl) z).trans e) (if_pos rfl) isT
 refine k.next rm stF apg (λb o e=>?_) hL rfl he rfl
 obtain⟨y1,y2,y3,y4⟩:=fm6 b o e
 refine⟨y1,y2,Ef MV y3 (λz=>?_),λz=>y4 ?_⟩
 .rw[z,YH] at e;exact aC e
 .rcases z with h|h|⟨y,j,w,nm,z,ow,e⟩
  .exact .inl h
  .exact .inr (.inl h)
  .rcases dP z with⟨_,rfl⟩|⟨n,z⟩
   .exact aQ ow
   .exact .inr (.inr ⟨y,j,w,nm,(Di n).trans z,ow,e⟩)
end
section
variable{W:Wd}{A:bV}{cx:Cx}{κ:cF}{env:Env}{ρ aE:List aK}{s aZ:aJ}{g bS:aG}{σ av:Sg}{b:aK}{i j:Nat}{x y:Str}{rest:List lI}{S:bh.S}{D:az}
theorem aq.qC{k1 k2:Nat}(hx:cx.kindOf x=some .local/\cx.Γ.lookup x=some i/\lZ cx x i)(hy:cx.kindOf y=some .local/\cx.Γ.lookup y=some j/\lZ cx y j)(dh:i≠j)
 (ha:ak W cx as ea) (V:ak W cx bs eb) (k:aq W cx rest S) (hw:∀env:Env,env.scope=cx.sc->swappedStores [.Tuple [.Name x px, .Name y py] k1 pt] (.Tuple [.List as qa, .List bs qb] k2 pv) env=pure (some [x,y])):
 aq W cx (.Assign [.Tuple [.Name x px, .Name y py] k1 pt] (.Tuple [.List as qa, .List bs qb] k2 pv) pos::rest) (.qC i j ea eb S):=λκ fr A aZ bS s g σ env ρ out rm st eo fm hL he=>by
 refine aP he λLd H he=>?_;obtain⟨us,ae⟩:=Ld
 refine aP he λxs Nu he=>aP he λBH O he=>?_;obtain⟨vs,aF⟩:=BH
 refine aP he λys hys he=>aP he λzz m1 he=>aP he λzz m2 he=>xa (qp m1) λrr l1=>?_;clear m1;subst rr
 refine xa (qp m2) λam5 l2=>?_;clear m2;subst am5
 have uf:¬((ρ.set i .un).set j .un).any kS=true/\aR W.aW W.R S ((ρ.set i (.own xs)).set j (.own ys)) aF=some out:=by
  by_cases c:((ρ.set i .un).set j .un).any kS=true
  .rw[if_pos c] at he;exact aC he
  .rw[if_neg c] at he;exact⟨c,he⟩
 refine xa uf λdU he=>cj hx λx1 x2 x3=>cj hy λy1 y2 y3=>jT (Assign_Tuple_swapped (PX ?_) rfl (hw env eo.sc))
 refine f8 ?_ (cu rfl)
 refine DS ((ha A s g σ env ρ us ae qa rm st.inv eo H).use λui s1 g1 kj r1=>?_)
 have I1:=r1.gF Nu
 refine⟨fG (by refine Y I1.length ?_;exact l1),?_⟩
 have LP:s1.heap.get? s1.heap.objs.size=none:=fq
 have Wm:∀b o,s1.heap.get? b=some o->(s1.heap.push {cls:= .type "list",data:= .seq ui.toArray}).get? b=some o:=λb o e=>bT _ e
 have F3:(s1.heap.push {cls:= .type "list",data:= .seq ui.toArray}).get? s1.heap.objs.size=some {cls:= .type "list",data:= .seq ui.toArray}:=cJ _ rfl
 have yT:=eo.step kj
 refine j3 (H4 (st:=st.trans kj) yT LP (a8 _)) λw1 c1 n1 L1 e1=>?_
 generalize s1.heap.push {cls:= .type "list",data:= .seq ui.toArray}=yO at Wm F3⊢
 generalize s1.heap.objs.size=D1 at LP F3 w1 c1 n1 L1 e1⊢
 have wb:=aS.il (G:=W.G) (tk:=s1.toks) kj.inv Wm
 refine f8 ?_ (cu rfl)
 refine DS ((V A _ g1 ae env ρ vs aF qb rm wb.inv (yT.step wb) O).use λyW s2 g2 lO r2=>?_)
 have I2:=r2.gF hys
 refine⟨fG (by refine Y I2.length ?_;exact l2),?_⟩
 have BJ:s2.heap.get? s2.heap.objs.size=none:=fq
 have ye:∀b o,s2.heap.get? b=some o->(s2.heap.push {cls:= .type "list",data:= .seq yW.toArray}).get? b=some o:=λb o e=>bT _ e
 have qC:(s2.heap.push {cls:= .type "list",data:= .seq yW.toArray}).get? s2.heap.objs.size=some {cls:= .type "list",data:= .seq yW.toArray}:=cJ _ rfl
 have wC:=(yT.step wb).step lO
 refine j3 (H4 (st:=st.trans (kj.trans (wb.trans lO))) wC BJ (a8 _)) λw2 c2 n2 L2 e2=>?_
 have Wn:=lO.keep _ _ c1 F3
 have Xz:D1≠s2.heap.objs.size:=λe=>by rw[<- e,Wn] at BJ;exact ft BJ
 have n1':=lO.gone n1 F3
 generalize s2.heap.push {cls:= .type "list",data:= .seq yW.toArray}=og at ye qC⊢
 generalize s2.heap.objs.size=D2 at BJ qC w2 c2 n2 L2 e2 Xz⊢
 have asA:=aS.il (G:=W.G) (tk:=s2.toks) lO.inv ye
 refine iU ⟨by show 2<=sizeLine;decide,?_⟩
 have keep:∀b o,og.get? b=some o->(og.push {cls:= .type "tuple",data:= .seq [kI D1,kI D2].toArray}).get? b=some o:=λb o e=>bT _ e
 refine unpackItems_tuple (items:= #[.ref D1, .ref D2]) rm.handled (iY _ (cJ _ rfl) rfl 0 rfl) λh' hx=>?_
 have LQ:∀b o,og.get? b=some o->h'.get? b=some o:=λb o e=>hx b o (dH (dI (keep b o e))) (keep b o e)
 have Nn:=st.trans (kj.trans (wb.trans lO))
 have yU:=aS.il (G:=W.G) (tk:=s2.toks) lO.inv λb o e=>LQ b o (ye b o e)
 have fi:(if i=i then D1 else if i=j then D2 else κ.f i)=D1:=if_pos rfl
 have fj:(if j=i then D1 else if j=j then D2 else κ.f j)=D2:=by exact Y (if_neg (oH dh))<|Y (if_pos rfl) rfl
 have Gm:=(((wC.un i).un j).step yU).n9 (κ':=⟨κ.L,λm=>if m=i then D1 else if m=j then D2 else κ.f m⟩) dU rfl
 have P1:h'.PlainList D1 ui.toArray:=⟨0,LQ _ _ (ye _ _ Wn)⟩
 have P2:h'.PlainList D2 yW.toArray:=⟨0,LQ _ _ qC⟩
 have J1:aT g2 ui.toArray.toList xs:=by exact I1.mono lO.grow
 have J2:aT g2 yW.toArray.toList ys:=by exact I2
 show wpAny _ _ (assignInOrder [bindName env y,bindName env x] [kI D2, .ref D1]) _ _ _
 refine am (jU ?_)
 refine Sl (s:={s2 with heap:=h'}) (b:= .own ys) Gm y1 y2 y3 (λzz=>⟨?_,λk b' z1 z2=>?_⟩) (λO kp=>Ew P2 J2 l2 rfl fj (λo e=>kp D2 o w2 e) n2 c2 L2) λs4 m4 CW=>?_
 .show(if j=i then D1 else if j=j then D2 else κ.f j)≠_;exact Y fj<|e2
 .rw[tj dU z1] at z2;exact aQ z2
 have P1':s4.heap.PlainList D1 ui.toArray:=by
  refine xe P1 λn e=>cP m4 λh4 tk4 am6 kp=>?_;clear m4 CW;subst am6
  exact⟨n,kp D1 _ w1 e⟩
 refine am (jU ?_)
 refine Sl (b:= .own xs) CW x1 x2 x3 (λzz=>⟨?_,λk b' z1 z2 z3=>?_⟩) (λO kp=>Ew P1' J1 l1 rfl fi (λo e=>kp D1 o w1 e) n1' c1 L1) λs5 m5 Go=>aH ?_
 .show(if i=i then D1 else if i=j then D2 else κ.f i)≠_;exact Y fi<|e1
 .rcases dP z1 with⟨rfl,_⟩|⟨_,z1⟩
  .exact absurd (fi.symm.trans (z3.trans fj)) Xz
  .rw[tj dU z1] at z2;exact aQ z2
 have er:(((ρ.set i .un).set j .un).set j (.own ys)).set i (.own xs)=(ρ.set i (.own xs)).set j (.own ys):=by
  exact Y (qU _)<|Y (Ph _ _ (oH dh))<|Y (qU _) rfl
 rw[er] at Go
 have sf:∀b,Wr g6 cx env b->aZ.heap.get? b=none/\g2.get? b=none/\b≠W.G.c:=λb V=>by
  have w:=Wr.safe wC b V
  exact bO (ou hL (Wr.n9 eo V)) w.1 w.2
 refine k.next rm (((Nn.trans yU).moved m4 sf).moved m5 sf) Go ?_ hL rfl he rfl
 refine((((((fm.step kj).step wb).step lO).step yU).moved m4 λb V=> .inl (Wr.at V)).moved m5 λb V=> .inl (Wr.at V)).swap λb V=>?_
 have f1:fr D1=none:=(fm.step kj).dead LP
 have f2:fr D2=none:=(((fm.step kj).step wb).step lO).dead BJ
 rcases V with V|V|⟨z,m,w,nm,q,ow,e⟩
 .exact .inl (.inl V)
 .exact .inl (.inr (.inl V))
 .right
  clear nm;rcases dP q with⟨rfl,_⟩|⟨n,q⟩
  .exact Y e<|(congrArg fr fj).trans f2
  .rcases dP q with⟨rfl,_⟩|⟨n',q⟩
   .exact Y e<|(congrArg fr fi).trans f1
   .exfalso
    have:((ρ.set i .un).set j .un)[m]? =some w:=by refine Y (Di n)<|Y (Di n') ?_;exact q
    rw[tj dU this] at ow;exact aQ ow
end
noncomputable def tS(i:Nat):lI:=PySem.Challenge.pw_pq0116_02.main.body.getD i (.Pass default)
def mS(i:Nat):lI:=match tS 15 with
 | .ClassDef (body:=b) .. =>b.getD i (.Pass default)
 |_=> .Pass default
noncomputable def fV(s:lI)(q pm:String)(pt cd:Nat):Obj:=match s with
 | .FunctionDef (name:=n) (args:=ps) (body:=b) (scope:=sc) .. =>{cls:= .type "function",data:= .func {name:=n,qualname:=bl q,params:=ps,body:= .stmts b,scope:=sc,globals:=3,closure:=[],defaults:= .none,kwdefaults:= .none,pyModule:= .str (bl pm) pt,code:= .ref cd}}
 |_=>default
noncomputable def fW(n q:String)(t line na a b:Nat)(c d:ao)(e i u:Nat):Obj:=
 {cls:= .type "code",data:= .fields #[.str (bl n) t, .str (bl q) (t+1), .str (bl "/claim/cut.py") (t+2), .int line 0, .int na 0, .int 0 0, .int 0 0, .int 3 0, .ref a, .bool true, .int 181 0, .ref b, .none,c,d, .ref e, .int i 0, .int line 0, .str (bl "/claim/cut.py") u]}
noncomputable def nE(P:vd)(x:String)(t:Nat)(v:ao):zO:={hash:=PyData.keyHash P (bl x),key:= .str (bl x) t,val:=v}
def BK:eE:={PySem.Challenge.pw_pq0116_02 with main:={PySem.Challenge.pw_pq0116_02.main with body:=[tS 1,tS 2,tS 3,tS 5,tS 6,tS 7,tS 8,tS 9,tS 11,tS 12,tS 13,tS 14,tS 15,tS 17,tS 18,tS 19,tS 20,tS 21,tS 22,tS 23,tS 24,tS 25,tS 26]}}
def cO(P:vd):Frag:=[
 (0,PySem.W.boot_o_0 P),
 (1,{cls:= .type "dict",data:= .dict #[nE P "builtins" 162 (.ref 4),nE P "__main__" 163 (.ref 5)] 2}),
 (2,{cls:= .none,data:= .dict #[nE P "type.__subclasses__.Exception.0" 223 (.int 40 0),nE P "type.__subclasses__.Exception.n" 224 (.int 1 0)] 2}),
 (3,{cls:= .type "dict",data:= .dict #[nE P "__name__" 165 (.str (bl "law_pq0116_02") 424),nE P "__doc__" 166 (.none),nE P "__package__" 167 (.none),nE P "__loader__" 168 (.builtin "__main__.__loader__#opaque"),nE P "__spec__" 169 (.none),nE P "__annotations__" 170 (.ref 6),nE P "__builtins__" 171 (.ref 4),nE P "__file__" 173 (.str (bl "/claim/cut.py") 172),nE P "__cached__" 174 (.none),nE P "HeapError" 226 (.ref 40),nE P "TermFault" 242 (.ref 53),nE P "LimitFault" 258 (.ref 65),nE P "is_variable" 267 (.ref 74),nE P "variables" 273 (.ref 79),nE P "placed" 279 (.ref 84),nE P "parts" 285 (.ref 89),nE P "key_of" 291 (.ref 94),nE P "MOST_BAGS" 295 (.int 4096 294),nE P "in_order_of" 301 (.ref 99),nE P "without" 311 (.ref 106),nE P "sub_bags" 317 (.ref 111),nE P "Bags" 423 (.ref 192),nE P "_law_off" 434 (.ref 203),nE P "_law_said" 440 (.ref 208),nE P "_law_rank" 446 (.ref 213),nE P "_law_form" 452 (.ref 218),nE P "_law_filled" 458 (.ref 223),nE P "_law_parts" 464 (.ref 228),nE P "_law_stock" 470 (.ref 233),nE P "_law_due" 476 (.ref 238),nE P "_law_turned" 482 (.ref 243),nE P "law" 488 (.ref 248)] 32}),
 (73,fW "is_variable" "is_variable" 261 15 1 68 69 (.ref 70) (.ref 71) 72 265 266),
 (74,fV (tS 5) "is_variable" "alikeheap.terms" 259 73),
 (88,fW "parts" "parts" 280 25 1 85 86 .none .none 87 283 284),
 (89,fV (tS 8) "parts" "alikeheap.terms" 259 88),
 (93,fW "key_of" "key_of" 286 30 1 90 91 .none .none 92 289 290),
 (94,fV (tS 9) "key_of" "alikeheap.terms" 259 93),
 (98,fW "in_order_of" "in_order_of" 296 35 1 95 96 .none .none 97 299 300),
 (99,fV (tS 12) "in_order_of" "alikeheap.bags" 292 98),
 (105,fW "without" "without" 302 37 2 100 101 (.ref 102) (.ref 103) 104 309 310),
 (106,fV (tS 13) "without" "alikeheap.bags" 292 105),
 (110,fW "sub_bags" "sub_bags" 312 44 1 107 108 .none .none 109 315 316),
 (111,fV (tS 14) "sub_bags" "alikeheap.bags" 292 110),
 (124,fW "__init__" "Bags.__init__" 330 53 2 119 120 (.ref 121) (.ref 122) 123 335 336),
 (125,fV (mS 0) "Bags.__init__" "alikeheap.bags" 292 124),
 (131,fW "is_bag" "Bags.is_bag" 338 56 2 126 127 (.ref 128) (.ref 129) 130 343 344),
 (132,fV (mS 1) "Bags.is_bag" "alikeheap.bags" 292 131),
 (136,fW "kids" "Bags.kids" 346 59 3 133 134 .none .none 135 349 350),
 (137,fV (mS 2) "Bags.kids" "alikeheap.bags" 292 136),
 (141,fW "made" "Bags.made" 352 64 3 138 139 .none .none 140 355 356),
 (142,fV (mS 3) "Bags.made" "alikeheap.bags" 292 141),
 (146,fW "normal" "Bags.normal" 358 68 2 143 144 .none .none 145 361 362),
 (147,fV (mS 4) "Bags.normal" "alikeheap.bags" 292 146),
 (153,fW "are_like" "Bags.are_like" 364 72 3 148 149 (.ref 150) (.ref 151) 152 370 371),
 (154,fV (mS 5) "Bags.are_like" "alikeheap.bags" 292 153),
 (158,fW "nested" "Bags.nested" 373 75 2 155 156 .none .none 157 376 377),
 (159,fV (mS 6) "Bags.nested" "alikeheap.bags" 292 158),
 (163,fW "extended" "Bags.extended" 379 84 4 160 161 .none .none 162 382 383),
 (164,fV (mS 7) "Bags.extended" "alikeheap.bags" 292 163),
 (168,fW "shared_out" "Bags.shared_out" 385 99 5 165 166 .none .none 167 388 389),
 (169,fV (mS 8) "Bags.shared_out" "alikeheap.bags" 292 168),
 (173,fW "taken" "Bags.taken" 391 107 5 170 171 .none .none 172 394 395),
 (174,fV (mS 9) "Bags.taken" "alikeheap.bags" 292 173),
 (178,fW "matched" "Bags.matched" 397 121 3 175 176 .none .none 177 400 401),
 (179,fV (mS 10) "Bags.matched" "alikeheap.bags" 292 178),
 (191,{cls:= .type "dict",data:= .dict #[nE P "__module__" 325 (.str (bl "alikeheap.bags") 292),nE P "__firstlineno__" 329 (.int 51 328),nE P "__init__" 337 (.ref 125),nE P "is_bag" 345 (.ref 132),nE P "kids" 351 (.ref 137),nE P "made" 357 (.ref 142),nE P "normal" 363 (.ref 147),nE P "are_like" 372 (.ref 154),nE P "nested" 378 (.ref 159),nE P "extended" 384 (.ref 164),nE P "shared_out" 390 (.ref 169),nE P "taken" 396 (.ref 174),nE P "matched" 402 (.ref 179),nE P "at_top" 408 (.ref 184),nE P "once" 414 (.ref 189),nE P "__static_attributes__" 416 (.ref 190),nE P "__dict__" 418 (.ref 193),nE P "__weakref__" 420 (.ref 194),nE P "__doc__" 421 (.none)] 4}),
 (192,{cls:= .type "type",data:= .cls {name:=bl "Bags",bases:=[.type "object"],mro:=[.ref 192, .type "object"],ns:=191,qualname:=bl "Bags"},slots:= #[none,none,some (.str (bl "Bags") 318),some (.str (bl "Bags") 326),some (.builtin "object.__new__"),some (.bool true)]}),
 (202,fW "_law_off" "_law_off" 426 144 2 197 198 (.ref 199) (.ref 200) 201 432 433),
 (203,fV (tS 17) "_law_off" "law_pq0116_02" 424 202),
 (207,fW "_law_said" "_law_said" 435 148 3 204 205 .none .none 206 438 439),
 (208,fV (tS 18) "_law_said" "law_pq0116_02" 424 207),
 (212,fW "_law_rank" "_law_rank" 441 156 1 209 210 .none .none 211 444 445),
 (213,fV (tS 19) "_law_rank" "law_pq0116_02" 424 212),
 (217,fW "_law_form" "_law_form" 447 163 2 214 215 .none .none 216 450 451),
 (218,fV (tS 20) "_law_form" "law_pq0116_02" 424 217),
 (222,fW "_law_filled" "_law_filled" 453 171 2 219 220 .none .none 221 456 457),
 (223,fV (tS 21) "_law_filled" "law_pq0116_02" 424 222),
 (227,fW "_law_parts" "_law_parts" 459 175 1 224 225 .none .none 226 462 463),
 (228,fV (tS 22) "_law_parts" "law_pq0116_02" 424 227),
 (232,fW "_law_stock" "_law_stock" 465 177 2 229 230 .none .none 231 468 469),
 (233,fV (tS 23) "_law_stock" "law_pq0116_02" 424 232),
 (237,fW "_law_due" "_law_due" 471 186 3 234 235 .none .none 236 474 475),
 (238,fV (tS 24) "_law_due" "law_pq0116_02" 424 237),
 (242,fW "_law_turned" "_law_turned" 477 195 2 239 240 .none .none 241 480 481),
 (243,fV (tS 25) "_law_turned" "law_pq0116_02" 424 242),
 (247,fW "law" "law" 483 198 1 244 245 .none .none 246 486 487),
 (248,fV (tS 26) "law" "law_pq0116_02" 424 247)]
noncomputable def addrs:List az:=[0,1,2,3,73,74,88,89,93,94,98,99,105,106,110,111,124,125,131,132,136,137,141,142,146,147,153,154,158,159,163,164,168,169,173,174,178,179,191,192,202,203,207,208,212,213,217,218,222,223,227,228,232,233,237,238,242,243,247,248]
abbrev hook:Hook:=kHook cO addrs (λzz=>by kernel_rfl)
set_option maxRecDepth 100000 in
theorem left:LeftO PySem.Challenge.rw_pq0116_02.row.prog BK [] (λs=>xlAt BK [] s && recOk (abM PySem.Challenge.rw_pq0116_02.row.toRowW) s) (Hook.obs hook) (Hook.val hook) 3716:=λw=>by kernel_rfl
set_option maxRecDepth 20000
noncomputable def aph:List az:=[74,89,94,99,106,111,132,137,142,147,154,159,164,169,174,179,203,208,213,218,223,228,233,238,243]
def adr(k:Nat):az:=aph.getD k 243
def cQ(prog:eE)(w:dg)(h₀:aG)(c ax:az)(mg mb:Str->Option ao):eI:=⟨prog,w,h₀,c,ax,192,cO w.params,mg,mb⟩
noncomputable def nm(l:List String):List (Str×Nat):=(l.map bl).zipIdx
noncomputable def yf:ah:= .int 4096
noncomputable def au:Nat->Option ah:=λzz=>none
noncomputable abbrev Call(f:Nat)(es:List E):E:= .call f (es.foldr .cons .nil)
noncomputable abbrev dc(f:Nat)(e:E)(es:List E):E:= .eR f e (es.foldr .cons .nil)
noncomputable abbrev dN(k:bh.Op)(es:List E):E:= .op k (es.foldr .cons .nil)
noncomputable abbrev cB(es:List E):E:= .tup (es.foldr .cons .nil)
noncomputable abbrev hO(es:List E):E:= .lst (es.foldr .cons .nil)
noncomputable abbrev L:=E.loc
noncomputable abbrev I(i:Int):E:= .lit (.int i)
noncomputable abbrev Sx(x:String):E:= .lit (.str (bl x))
noncomputable abbrev cY:E:= .lit (.bool true)
noncomputable abbrev no:E:= .lit (.bool false)
theorem ad7{aW:Nat->Option ah}{R:Nat->List as7->Sg->Option (as7×Sg)}{i m:Nat}{d:ah}(h:i≠m):∀(ρ:List aK) (σ:Sg),ev aW R (.item (.loc m) (.lit d)) (ρ.set i .un) σ=ev aW R (.item (.loc m) (.lit d)) ρ σ:=λρ σ=>by
 show(jB ((((ρ.set i .un)[m]?).bind Cq).bind λx=>some ([x],σ))).bind _=(jB (((ρ[m]?).bind Cq).bind λx=>some ([x],σ))).bind _
 rw[Di h];rfl
theorem Wo{prog:eE}{w:dg}{h₀:aG}{c ax:az}{mg mb:Str->Option ao}{R:Nat->List as7->Sg->Option (as7×Sg)}{n:Nat}(hW:(Wd.mk (cQ prog w h₀ c ax mg mb) adr au R n).Ok){cx:Cx}{pos:Pos}(hk:cx.kindOf "MOST_BAGS"=some .globalImplicit):
 ab ⟨cQ prog w h₀ c ax mg mb,adr,au,R,n⟩ cx (.Name "MOST_BAGS" pos) (.lit yf):=
 ab.glob hW hk (v:= .int 4096 294) (by kernel_rfl) Is.int
def U3:List (Str×Nat):=nm ["t"]
def JI:eT:=⟨1,0, .ret (.oZ (.cmp .eq (.bi .len (L 0)) (I 1)) (.cmp .eq (dN .str1 [.item (L 0) (I 0)]) (Sx "?")))⟩
def U4:List (Str×Nat):=nm ["t","found","k","kid","path","part"]
def JJ:eT:=⟨1,5, .new 1 (.cons (cB [cB [],L 0]) .nil)<| .ed (.two 2 3) (.enum (.dE .eO (L 0))) (.ext 1 (.comp (cB [.bin .add (cB [L 2]) (L 4),L 5]) (.two 4 5) (Call 1 [L 3]) cY) .bI)<| .cv 1<| .ret (L 1)⟩
def U5:List (Str×Nat):=nm ["t","some","path","part"]
def JK:eT:=⟨1,3, .asg 1 (.comp (L 3) (.two 2 3) (Call 1 [L 0]) cY)<| .ret (cB [.bi .len (L 1), .bi .tuple (.comp (.item (L 3) (I 0)) (.one 3) (L 1) cY), .bi .tuple (.comp (.bin .sub (.bi .len (L 3)) (I 1)) (.one 3) (L 1) cY)])⟩
def U6:List (Str×Nat):=nm ["terms","t","key"]
def JL:eT:=⟨1,2, .ret (.bi .tuple (.comp (L 1) (.two 2 1) (.bi .sorted (.comp (cB [Call 2 [L 1],L 1]) (.one 1) (L 0) cY)) cY))⟩
def Sw:List (Str×Nat):=nm ["rest","some","left","t"]
def IH:eT:=⟨2,2, .yp 2 (L 0)<| .ed (.one 3) (L 1) (.ca (.ql (L 3) 2) (.ret (.lit .none)) .bI<| .rem 2 (L 3) .bI)<| .cv 2<| .ret (.bi .tuple (L 2))⟩
def Sy:List (Str×Nat):=nm ["rest","rows","t","one","row","k"]
def II:eT:=⟨1,5, .asg 1 (hO [cB []])<| .ed (.one 2) (dN .dedup [.comp (cB [L 3,cY]) (.one 3) (L 0) cY]) (.asg 1 (.gY (.bin .add (L 4) (.bin .mul (cB [L 2]) (L 5))) (.one 4) (L 1) (.one 5) (dN .jx [.bin .add (dN .count [L 0,L 2]) (I 1)]))<| .ca (.cmp .gt (.bi .len (L 1)) (.lit yf)) .bad .bI .bI)<| .ret (.comp (L 4) (.one 4) (L 1) (.cmp .ne (L 4) (cB [])))⟩
def U7:List (Str×Nat):=nm ["self","t"]
def JM:eT:=⟨2,0, .ret (.oZ (.cmp .isIn (.item (L 1) (I 0)) (.aa (L 0))) (.cmp .gt (.bi .len (L 1)) (I 2)))⟩
def Wp:List (Str×Nat):=nm ["self","op","t","kid","late"]
def LR:eT:=⟨3,2, .ca (.mw (.cmp .ne (.item (L 2) (I 0)) (L 1)) (.j6 (dc 6 (L 0) [L 2]))) (.ret (cB [L 2])) .bI<| .ret (.bi .tuple (.gY (L 4) (.one 3) (.dE .eO (L 2)) (.one 4) (dc 7 (L 0) [L 1,L 3])))⟩
def Wq:List (Str×Nat):=nm ["self","op","some","late","t","kid"]
def LS:eT:=⟨3,3, .asg 3 (Call 3 [.gY (L 5) (.one 4) (L 2) (.one 5) (dc 7 (L 0) [L 1,L 4])])<| .ret (.ite (.cmp .eq (.bi .len (L 3)) (I 1)) (.item (L 3) (I 0)) (.bin .add (cB [L 1]) (L 3)))⟩
def TZ:List (Str×Nat):=nm ["self","t","some","kid"]
def Je:eT:=⟨2,2, .asg 2 (.comp (dc 9 (L 0) [L 3]) (.one 3) (.dE .eO (L 1)) cY)<| .ret (.ite (dc 6 (L 0) [L 1]) (dc 8 (L 0) [.item (L 1) (I 0),L 2]) (.bin .add (cB [.item (L 1) (I 0)]) (.bi .tuple (L 2))))⟩
def Sz:List (Str×Nat):=nm ["self","t","u"]
def IJ:eT:=⟨3,0, .ret (.cmp .eq (dc 9 (L 0) [L 1]) (dc 9 (L 0) [L 2]))⟩
def T0:List (Str×Nat):=nm ["self","t","some","kid","late"]
def Jf:eT:=⟨2,3, .asg 2 (.comp (dc 11 (L 0) [L 3]) (.one 3) (.dE .eO (L 1)) cY)<| .ca (.j6 (dc 6 (L 0) [L 1])) (.ret (.bin .add (cB [.item (L 1) (I 0)]) (.bi .tuple (L 2)))) .bI<| .asg 4 (.item (L 2) (I (-1)))<| .ed (.one 3) (.dE .s8 (L 2)) (.asg 4 (cB [.item (L 1) (I 0),L 3,L 4]) .bI)<| .ret (L 4)⟩
def Q9:List (Str×Nat):=nm ["self","table","pattern","t","late","rest","tables","part","kid","one"]
def H8:eT:=⟨4,6, .ca (Call 0 [L 2]) (.asg 4 (dN .tO [L 1, .item (L 2) (I 0),L 3])<| .ret (.ite (.cmp .eq (dN .tP [L 1, .item (L 2) (I 0),L 3]) (L 3)) (hO [L 4]) (hO []))) .bI<| .ca (dc 6 (L 0) [L 2]) (.asg 5 (dc 7 (L 0) [.item (L 2) (I 0),L 3])<| .ret (.ite (.cmp .gt (.bi .len (L 5)) (I 1)) (dc 13 (L 0) [L 1, .item (L 2) (I 0),dc 7 (L 0) [.item (L 2) (I 0),L 2],L 5]) (hO []))) .bI<| .ca (.mw (.cmp .ne (.item (L 2) (I 0)) (.item (L 3) (I 0))) (.mw (.cmp .ne (.bi .len (L 2)) (.bi .len (L 3))) (dc 6 (L 0) [L 3]))) (.ret (hO [])) .bI<| .asg 6 (hO [L 1])<| .ed (.two 7 8) (dN .zip2 [.dE .eO (L 2), .dE .eO (L 3)]) (.asg 6 (.gY (L 4) (.one 9) (L 6) (.one 4) (dc 12 (L 0) [L 9,L 7,L 8])) .bI)<| .ret (L 6)⟩
def T1:List (Str×Nat):=nm ["self","table","op","some","rest","rows","pattern","one","here","left","late"]
def Jg:eT:=⟨5,6, .asg 5 (hO [cB [L 1,L 4]])<| .ed (.one 6) (.bin .add (.comp (L 7) (.one 7) (L 3) (.j6 (Call 0 [L 7]))) (.comp (L 7) (.one 7) (L 3) (Call 0 [L 7]))) (.asg 5 (.gY (L 10) (.two 8 9) (L 5) (.one 10) (dc 14 (L 0) [L 8,L 2,L 6,L 9]))<| .ca (.cmp .gt (.bi .len (L 5)) (.lit yf)) .bad .bI .bI)<| .ret (.comp (L 8) (.two 8 9) (L 5) (.cmp .eq (L 9) (cB [])))⟩
def U8:List (Str×Nat):=nm ["self","table","op","pattern","rest","lots","t","one","found","lot","left","late"]
def JN:eT:=⟨5,7, .ca (.j6 (Call 0 [L 3])) (.asg 5 (.comp (cB [L 6]) (.one 6) (dN .dedup [.comp (cB [L 7,cY]) (.one 7) (L 4) cY]) cY) .bI) (.ca (dN .pi [.item (L 3) (I 0),L 1]) (.asg 5 (hO [dc 7 (L 0) [L 2, .item (L 1) (.item (L 3) (I 0))]]) .bI) (.asg 5 (Call 5 [L 4]) .bI) .bI)<| .new 8 .nil<| .ed (.one 9) (L 5) (.asg 10 (Call 4 [L 4,L 9])<| .ca (dN .qc [L 10]) (.ext 8 (.comp (cB [L 11,L 10]) (.one 11) (dc 12 (L 0) [L 1,L 3,dc 8 (L 0) [L 2,L 9]]) cY) .bI) .bI .bI)<| .cv 8<| .ret (L 8)⟩
def SA:List (Str×Nat):=nm ["self","pattern","t","found","table","row","name","late","key"]
def IK:eT:=⟨3,6, .newD 3<| .ed (.one 4) (dc 12 (L 0) [dN .rM [],L 1,dc 9 (L 0) [L 2]]) (.asg 5 (.bi .tuple (.bi .sorted (dN .oJ [L 4])))<| .m0 3 (L 5) (.bi .tuple (.comp (cB [L 6,Call 2 [L 7]]) (.two 6 7) (L 5) cY)) .bI)<| .tQ 3<| .ret (.comp (L 5) (.two 8 5) (.bi .sorted (.comp (cB [.item (L 3) (L 5),L 5]) (.one 5) (L 3) cY)) cY)⟩
def XA:List (Str×Nat):=nm ["tank","many","at"]
def MW:eT:=⟨2,1, .asg 2 (.item (L 0) (Sx "at"))<| .tR 0 (bl "at") (.bin .add (L 2) (I 1))<| .ret (.bin .mod (.ite (.cmp .lt (L 2) (.bi .len (.item (L 0) (Sx "cells")))) (.item (.item (L 0) (Sx "cells")) (L 2)) (.bin .add (.bin .add (.bin .mul (.bin .mul (I 3) (L 2)) (L 2)) (.bin .mul (I 8) (L 2))) (I 4))) (L 1))⟩
def Ws:List (Str×Nat):=nm ["tank","floors","leaves","way","many","turn"]
def FA:eT:=⟨3,3, .asg 3 (.ite (.cmp .gt (L 1) (I 0)) (Call 16 [L 0,I 6]) (I 0))<| .ca (.cmp .lt (L 3) (I 2)) (.ret (cB [.item (L 2) (Call 16 [L 0, .bi .len (L 2)])])) .bI<| .ca (.cmp .eq (L 3) (I 2)) (.ret (cB [Sx "f",Call 17 [L 0, .bin .sub (L 1) (I 1),L 2]])) .bI<| .asg 4 (.bin .add (I 2) (.bi .B5 (.cmp .eq (L 3) (I 5))))<| .ret (.bin .add (cB [.item (cB [Sx "+",Sx "+",Sx "*"]) (Call 16 [L 0,I 3])]) (.bi .tuple (.comp (Call 17 [L 0, .bin .sub (L 1) (I 1),L 2]) (.one 5) (dN .jx [L 4]) cY)))⟩
def Wt:List (Str×Nat):=nm ["t","row","waiting","one"]
def LU:eT:=⟨1,3, .qC 1 2 .nil (.cons (L 0) .nil)<| .xR 2 (.pop 2 3<| .app 1 (L 3)<| .ext 2 (.dE .rL (L 3)) .bI)<| .cv 1<| .ret (cB [.bi .len (L 1), .bi .tuple (.comp (.item (L 3) (I 0)) (.one 3) (L 1) cY), .bi .tuple (.comp (.bin .sub (.bi .len (L 3)) (I 1)) (.one 3) (L 1) cY)])⟩
def Wu:List (Str×Nat):=nm ["t","ops","some","kid","flat","rank"]
def LV:eT:=⟨2,4, .asg 2 (.comp (Call 19 [L 3,L 1]) (.one 3) (.dE .eO (L 0)) cY)<| .ca (.mw (.cmp .AL (.item (L 0) (I 0)) (L 1)) (.cmp .lt (.bi .len (L 2)) (I 2))) (.ret (.bin .add (cB [.item (L 0) (I 0)]) (.bi .tuple (L 2)))) .bI<| .new 4 .nil<| .ed (.one 3) (L 2) (.ext 4 (.ite (.oZ (.cmp .eq (.item (L 3) (I 0)) (.item (L 0) (I 0))) (.cmp .gt (.bi .len (L 3)) (I 2))) (.dE .eO (L 3)) (cB [L 3])) .bI)<| .cv 4<| .ret (.bin .add (cB [.item (L 0) (I 0)]) (.bi .tuple (.comp (L 3) (.two 5 3) (.bi .sorted (.comp (cB [Call 18 [L 3],L 3]) (.one 3) (L 4) cY)) cY)))⟩
def T2:List (Str×Nat):=nm ["pattern","table","kid"]
def Jh:eT:=⟨2,1, .ca (dN .pi [.item (L 0) (I 0),L 1]) (.ret (.item (L 1) (.item (L 0) (I 0)))) .bI<| .ret (.bin .add (cB [.item (L 0) (I 0)]) (.bi .tuple (.comp (Call 20 [L 2,L 1]) (.one 2) (.dE .eO (L 0)) cY)))⟩
def T3:List (Str×Nat):=nm ["t","late","kid"]
def Ji:eT:=⟨1,2, .ret (.bin .add (hO [L 0]) (.gY (L 1) (.one 2) (.dE .eO (L 0)) (.one 1) (Call 21 [L 2])))⟩
def U9:List (Str×Nat):=nm ["form","ops","found","part","mask","some","kid","k"]
def JO:eT:=⟨2,6, .newD 2<| .ed (.one 3) (Call 21 [L 0]) (.m0 2 (L 3) cY<| .ca (.oZ (.cmp .isIn (.item (L 3) (I 0)) (L 1)) (.cmp .gt (.bi .len (L 3)) (I 2))) (.ed (.one 4) (dN .oK [I 1, .bin .pow (I 2) (.bin .sub (.bi .len (L 3)) (I 1))]) (.asg 5 (.comp (L 6) (.two 7 6) (.enum (.dE .eO (L 3))) (.cmp .eq (.bin .band (.bin .shr (L 4) (L 7)) (I 1)) (I 1)))<| .m0 2 (.ite (.cmp .eq (.bi .len (L 5)) (I 1)) (.item (L 5) (I 0)) (Call 19 [.bin .add (cB [.item (L 3) (I 0)]) (.bi .tuple (L 5)),L 1])) cY .bI) .bI) .bI .bI)<| .tQ 2<| .ret (.AM (L 2))⟩
def XB:List (Str×Nat):=nm ["pattern","form","ops","names","part","tables","stock","name","one","late","rows","row","rank"]
def MX:eT:=⟨3,10, .asg 3 (dN .rc [.comp (.item (L 4) (I 0)) (.one 4) (Call 21 [L 0]) (.cmp .eq (dN .str1 [.item (L 4) (I 0)]) (Sx "?"))])<| .yo 5 6 (hO [dN .rM []]) (Call 22 [L 1,L 2])<| .ca (.cmp .gt (.bi .len (.comp (I 1) (.one 4) (Call 21 [L 0]) (.cmp .eq (.bi .len (L 4)) (I 1)))) (.bi .len (.comp (I 1) (.one 4) (Call 21 [L 1]) (.cmp .eq (.bi .len (L 4)) (I 1))))) (.ret (hO [])) .bI<| .ed (.one 7) (L 3) (.asg 5 (.gY (dN .m9 [.bin .add (dN .oJ [L 8]) (hO [cB [L 7,L 9]])]) (.one 8) (L 5) (.one 9) (L 6)) .bI)<| .asg 10 (.comp (.bi .tuple (.comp (cB [L 7, .item (L 8) (L 7)]) (.one 7) (L 3) cY)) (.one 8) (L 5) (.cmp .eq (Call 19 [Call 20 [L 0,L 8],L 2]) (L 1)))<| .ret (.comp (L 11) (.two 12 11) (.bi .sorted (.comp (cB [.bi .tuple (.comp (cB [L 7,Call 18 [L 9]]) (.two 7 9) (L 11) cY),L 11]) (.one 11) (L 10) cY)) cY)⟩
def T4:List (Str×Nat):=nm ["t","ops","kids","kid"]
def Jj:eT:=⟨2,2, .asg 2 (.comp (Call 24 [L 3,L 1]) (.one 3) (.dE .eO (L 0)) cY)<| .ret (.bin .add (cB [.item (L 0) (I 0)]) (.bi .tuple (.ite (.cmp .isIn (.item (L 0) (I 0)) (L 1)) (.dE .rev (L 2)) (L 2))))⟩
def X5:List eT:=[JI,JJ,JK,JL,IH,II,JM,LR,LS,Je,IJ,Jf,H8,Jg,JN,IK,MW,FA,LU,LV,Jh,Ji,JO,MX,Jj]
def sx(k:Nat):Option eT:=X5[k]?
noncomputable def Sb(prog:eE)(w:dg)(h₀:aG)(c ax:az)(mg mb:Str->Option ao)(R:Nat->List as7->Sg->Option (as7×Sg))(n:Nat)(a:az)(T:List (Str×Nat))(F:eT):Prop:=aq ⟨cQ prog w h₀ c ax mg mb,adr,au,R,n⟩ (du T (gr (cO w.params) a)) (iG (cO w.params) a) F.body
theorem ia{prog:eE}{w:dg}{h₀:aG}{c ax:az}{mg mb:Str->Option ao}{R:Nat->List as7->Sg->Option (as7×Sg)}{n:Nat}(hW:(Wd.mk (cQ prog w h₀ c ax mg mb) adr au R n).Ok){a:az}{T:List (Str×Nat)}{F:eT}(k:∀b sc,kh (cQ prog w h₀ c ax mg mb)->iG (cO w.params) a=b->gr (cO w.params) a=sc->aq ⟨cQ prog w h₀ c ax mg mb,adr,au,R,n⟩ (du T sc) b F.body):Sb prog w h₀ c ax mg mb R n a T F:=k _ _ hW.eU rfl rfl
noncomputable def Fq(prog:eE)(w:dg)(h₀:aG)(c ax:az)(mg mb:Str->Option ao)(a:az)(T:List (Str×Nat))(l:List Str)(F:eT):Prop:=fv (cQ prog w h₀ c ax mg mb) a (fdOf (cO w.params) a) (iG (cO w.params) a) (du T (gr (cO w.params) a)) l F
section
variable{prog:eE}{w:dg}{h₀:aG}{c ax:az}{mg mb:Str->Option ao}{R:Nat->List as7->Sg->Option (as7×Sg)}{n:Nat}
theorem afv:Fq prog w h₀ c ax mg mb 74 U3 ["t"] JI:=fv.of (G:=cQ prog w h₀ c ax mg mb) (by kernel_rfl) (vals1 λa=>by kernel_rfl)
theorem afw:Fq prog w h₀ c ax mg mb 89 U4 ["t"] JJ:=fv.of (G:=cQ prog w h₀ c ax mg mb) (by kernel_rfl) (vals1 λa=>by kernel_rfl)
theorem afx:Fq prog w h₀ c ax mg mb 94 U5 ["t"] JK:=fv.of (G:=cQ prog w h₀ c ax mg mb) (by kernel_rfl) (vals1 λa=>by kernel_rfl)
theorem afy:Fq prog w h₀ c ax mg mb 99 U6 ["terms"] JL:=fv.of (G:=cQ prog w h₀ c ax mg mb) (by kernel_rfl) (vals1 λa=>by kernel_rfl)
theorem ac0:Fq prog w h₀ c ax mg mb 106 Sw ["rest","some"] IH:=fv.of (G:=cQ prog w h₀ c ax mg mb) (by kernel_rfl) (vals2 λa b=>by kernel_rfl)
theorem ac1:Fq prog w h₀ c ax mg mb 111 Sy ["rest"] II:=fv.of (G:=cQ prog w h₀ c ax mg mb) (by kernel_rfl) (vals1 λa=>by kernel_rfl)
theorem afz:Fq prog w h₀ c ax mg mb 132 U7 ["self","t"] JM:=fv.of (G:=cQ prog w h₀ c ax mg mb) (by kernel_rfl) (vals2 λa b=>by kernel_rfl)
theorem ahn:Fq prog w h₀ c ax mg mb 137 Wp ["self","op","t"] LR:=fv.of (G:=cQ prog w h₀ c ax mg mb) (by kernel_rfl) (vals3 λa b c=>by kernel_rfl)
theorem aho:Fq prog w h₀ c ax mg mb 142 Wq ["self","op","some"] LS:=fv.of (G:=cQ prog w h₀ c ax mg mb) (by kernel_rfl) (vals3 λa b c=>by kernel_rfl)
theorem ad8:Fq prog w h₀ c ax mg mb 147 TZ ["self","t"] Je:=fv.of (G:=cQ prog w h₀ c ax mg mb) (by kernel_rfl) (vals2 λa b=>by kernel_rfl)
theorem ac2:Fq prog w h₀ c ax mg mb 154 Sz ["self","t","u"] IJ:=fv.of (G:=cQ prog w h₀ c ax mg mb) (by kernel_rfl) (vals3 λa b c=>by kernel_rfl)
theorem ad9:Fq prog w h₀ c ax mg mb 159 T0 ["self","t"] Jf:=fv.of (G:=cQ prog w h₀ c ax mg mb) (by kernel_rfl) (vals2 λa b=>by kernel_rfl)
theorem ab2:Fq prog w h₀ c ax mg mb 164 Q9 ["self","table","pattern","t"] H8:=fv.of (G:=cQ prog w h₀ c ax mg mb) (by kernel_rfl) (vals4 λa b c d=>by kernel_rfl)
theorem aea:Fq prog w h₀ c ax mg mb 169 T1 ["self","table","op","some","rest"] Jg:=fv.of (G:=cQ prog w h₀ c ax mg mb) (by kernel_rfl) (VG λa b c d e=>by kernel_rfl)
theorem afA:Fq prog w h₀ c ax mg mb 174 U8 ["self","table","op","pattern","rest"] JN:=fv.of (G:=cQ prog w h₀ c ax mg mb) (by kernel_rfl) (VG λa b c d e=>by kernel_rfl)
theorem ac3:Fq prog w h₀ c ax mg mb 179 SA ["self","pattern","t"] IK:=fv.of (G:=cQ prog w h₀ c ax mg mb) (by kernel_rfl) (vals3 λa b c=>by kernel_rfl)
theorem aiR:Fq prog w h₀ c ax mg mb 203 XA ["tank","many"] MW:=fv.of (G:=cQ prog w h₀ c ax mg mb) (by kernel_rfl) (vals2 λa b=>by kernel_rfl)
theorem ahp:Fq prog w h₀ c ax mg mb 208 Ws ["tank","floors","leaves"] FA:=fv.of (G:=cQ prog w h₀ c ax mg mb) (by kernel_rfl) (vals3 λa b c=>by kernel_rfl)
theorem ahq:Fq prog w h₀ c ax mg mb 213 Wt ["t"] LU:=fv.of (G:=cQ prog w h₀ c ax mg mb) (by kernel_rfl) (vals1 λa=>by kernel_rfl)
theorem ahr:Fq prog w h₀ c ax mg mb 218 Wu ["t","ops"] LV:=fv.of (G:=cQ prog w h₀ c ax mg mb) (by kernel_rfl) (vals2 λa b=>by kernel_rfl)
theorem aeb:Fq prog w h₀ c ax mg mb 223 T2 ["pattern","table"] Jh:=fv.of (G:=cQ prog w h₀ c ax mg mb) (by kernel_rfl) (vals2 λa b=>by kernel_rfl)
theorem aec:Fq prog w h₀ c ax mg mb 228 T3 ["t"] Ji:=fv.of (G:=cQ prog w h₀ c ax mg mb) (by kernel_rfl) (vals1 λa=>by kernel_rfl)
theorem afB:Fq prog w h₀ c ax mg mb 233 U9 ["form","ops"] JO:=fv.of (G:=cQ prog w h₀ c ax mg mb) (by kernel_rfl) (vals2 λa b=>by kernel_rfl)
theorem aiS:Fq prog w h₀ c ax mg mb 238 XB ["pattern","form","ops"] MX:=fv.of (G:=cQ prog w h₀ c ax mg mb) (by kernel_rfl) (vals3 λa b c=>by kernel_rfl)
theorem aed:Fq prog w h₀ c ax mg mb 243 T4 ["t","ops"] Jj:=fv.of (G:=cQ prog w h₀ c ax mg mb) (by kernel_rfl) (vals2 λa b=>by kernel_rfl)
variable(hW:(Wd.mk (cQ prog w h₀ c ax mg mb) adr au R n).Ok)(hB:yd (cQ prog w h₀ c ax mg mb))
include hW hB
theorem ahs:Sb prog w h₀ c ax mg mb R n 74 U3 JI:=by
 refine ia hW λb sc hG V bg=>?_
 conv at V=>lhs;whnf
 conv at bg=>lhs;whnf
 subst V bg
 exact(aq.ret (ab.and (ab.cmp (ab.bi hW rfl ab.va) ab.int) (ab.Cb (ab.cmp (ab.str1 (ab.item hG ab.va ab.int)) ab.str))))
theorem aht:Sb prog w h₀ c ax mg mb R n 89 U4 JJ:=by
 refine ia hW λb sc hG V bg=>?_
 conv at V=>lhs;whnf
 conv at bg=>lhs;whnf
 subst V bg
 exact(aq.new cZ (ak.cons (ab.tup (ak.cons (ab.tup ak.nil) (ak.cons ab.va ak.nil))) ak.nil) (aq.ed (bz.enum hW (by kernel_rfl) (by kernel_rfl) (ab.dE _ ab.va)) mU (aq.ext (by kernel_rfl) (by kernel_rfl) (ab.comp (fK (bz.seq hG (ab.call hW (ak.cons ab.va ak.nil))) mU (ab.tup (ak.cons (ab.bin (ab.tup (ak.cons ab.va ak.nil)) ab.va) (ak.cons ab.va ak.nil))))) aq.nil) (aq.cv (x:="found") (by kernel_rfl) (by kernel_rfl) (aq.ret ab.va)) (by intro _ _;rfl) fR))
theorem ahu:Sb prog w h₀ c ax mg mb R n 94 U5 JK:=by
 refine ia hW λb sc hG V bg=>?_
 conv at V=>lhs;whnf
 conv at bg=>lhs;whnf
 subst V bg
 exact(aq.nX cZ (fK (bz.seq hG (ab.call hW (ak.cons ab.va ak.nil))) mU ab.va) (aq.ret (ab.tup (ak.cons (ab.bi hW rfl ab.va) (ak.cons (ab.bi hW rfl (ab.comp (fK (bz.seq hG ab.va) cE (ab.item hG ab.va ab.int)))) (ak.cons (ab.bi hW rfl (ab.comp (fK (bz.seq hG ab.va) cE (ab.bin (ab.bi hW rfl ab.va) ab.int)))) ak.nil))))) (by rintro⟨⟩ h;dsimp only at h;subst h;kernel_rfl) fR)
theorem ahv:Sb prog w h₀ c ax mg mb R n 99 U6 JL:=by
 refine ia hW λb sc hG V bg=>?_
 conv at V=>lhs;whnf
 conv at bg=>lhs;whnf
 subst V bg
 exact(aq.ret (ab.bi hW rfl (ab.comp (fK (bz.seq hG (ab.bi hW rfl (ab.comp (fK (bz.seq hG ab.va) cE (ab.tup (ak.cons (ab.call hW (ak.cons ab.va ak.nil)) (ak.cons ab.va ak.nil))))))) mU ab.va))))
theorem aee:Sb prog w h₀ c ax mg mb R n 106 Sw IH:=by
 refine ia hW λb sc hG V bg=>?_
 conv at V=>lhs;whnf
 conv at bg=>lhs;whnf
 subst V bg
 exact(aq.yp hW cZ (by kernel_rfl) (by kernel_rfl) (by kernel_rfl) ab.va (aq.ed (bz.seq hG ab.va) cE (aq.ca (a6.ql ab.va (by kernel_rfl) (by kernel_rfl)) (aq.ret ab.akF) aq.nil (aq.rem (by kernel_rfl) (by kernel_rfl) ab.va aq.nil)) (aq.cv (x:="left") (by kernel_rfl) (by kernel_rfl) (aq.ret (ab.bi hW rfl ab.va))) (by intro _ _;rfl) fR))
theorem aef:aq ⟨cQ prog w h₀ c ax mg mb,adr,au,R,n⟩ (du Sy (gr (cO w.params) 111)) (iG (cO w.params) 111) II.body:=by
 have hG:=hW.eU
 have hM:= @Wo prog w h₀ c ax mg mb R n hW
 obtain⟨b,V⟩:∃b,iG (cO w.params) 111=b:=⟨_,rfl⟩
 obtain⟨sc,bg⟩:∃sc,gr (cO w.params) 111=sc:=⟨_,rfl⟩
 rw[V,bg]
 conv at V=>lhs;whnf
 conv at bg=>lhs;whnf
 subst V bg
 exact(aq.asg cZ (ab.lst (ak.cons (ab.tup ak.nil) ak.nil)) (aq.ed (bz.seq hG (ab.dedup hW (by kernel_rfl) (by kernel_rfl) (by kernel_rfl) (by kernel_rfl) (by kernel_rfl) (by kernel_rfl) (tY.comp (fK (bz.seq hG ab.va) cE (ab.tup (ak.cons ab.va (ak.cons ab.bool ak.nil))))))) cE (aq.nX cZ (gY (bz.seq hG ab.va) cE (ab.bin ab.va (ab.bin (ab.tup (ak.cons ab.va ak.nil)) ab.va)) (bz.jx hW (by kernel_rfl) (by kernel_rfl) (ab.bin (ab.count hG ab.va ab.va) ab.int)) cE) (aq.ca (a6.cmp (ab.bi hW rfl ab.va) (hM (by kernel_rfl))) aq.bad aq.nil aq.nil) (by rintro⟨⟩ h;dsimp only at h;subst h;kernel_rfl) fR) (aq.ret (ab.comp (rz (bz.seq hG ab.va) cE ab.va (a6.cmp ab.va (ab.tup ak.nil))))) (by intro _ _;rfl) fR))
theorem ahw:Sb prog w h₀ c ax mg mb R n 132 U7 JM:=by
 refine ia hW λb sc hG V bg=>?_
 conv at V=>lhs;whnf
 conv at bg=>lhs;whnf
 subst V bg
 exact(aq.ret (ab.and (ab.cmp (ab.item hG ab.va ab.int) (ab.aa hW hB ab.va (by intro _;rfl))) (ab.Cb (ab.cmp (ab.bi hW rfl ab.va) ab.int))))
theorem aiT:Sb prog w h₀ c ax mg mb R n 137 Wp LR:=by
 refine ia hW λb sc hG V bg=>?_
 conv at V=>lhs;whnf
 conv at bg=>lhs;whnf
 subst V bg
 exact(aq.ca (a6.or (a6.cmp (ab.item hG ab.va ab.int) ab.va) (a6.Ga (a6.j6 (a6.plain (ab.eR hW hB ab.va (ak.cons ab.va ak.nil)))))) (aq.ret (ab.tup (ak.cons ab.va ak.nil))) aq.nil (aq.ret (ab.bi hW rfl (ab.comp (gY (bz.seq hG (ab.dE _ ab.va)) cE ab.va (bz.seq hG (ab.eR hW hB ab.va (ak.cons ab.va (ak.cons ab.va ak.nil)))) cE)))))
theorem aiU:Sb prog w h₀ c ax mg mb R n 142 Wq LS:=by
 refine ia hW λb sc hG V bg=>?_
 conv at V=>lhs;whnf
 conv at bg=>lhs;whnf
 subst V bg
 exact(aq.asg cZ (ab.call hW (ak.cons (ab.comp (gY (bz.seq hG ab.va) cE ab.va (bz.seq hG (ab.eR hW hB ab.va (ak.cons ab.va (ak.cons ab.va ak.nil)))) cE)) ak.nil)) (aq.ret (ab.ite (a6.cmp (ab.bi hW rfl ab.va) ab.int) (ab.item hG ab.va ab.int) (ab.bin (ab.tup (ak.cons ab.va ak.nil)) ab.va))))
theorem afC:Sb prog w h₀ c ax mg mb R n 147 TZ Je:=by
 refine ia hW λb sc hG V bg=>?_
 conv at V=>lhs;whnf
 conv at bg=>lhs;whnf
 subst V bg
 exact(aq.nX cZ (fK (bz.seq hG (ab.dE _ ab.va)) cE (ab.eR hW hB ab.va (ak.cons ab.va ak.nil))) (aq.ret (ab.ite (a6.plain (ab.eR hW hB ab.va (ak.cons ab.va ak.nil))) (ab.eR hW hB ab.va (ak.cons (ab.item hG ab.va ab.int) (ak.cons ab.va ak.nil))) (ab.bin (ab.tup (ak.cons (ab.item hG ab.va ab.int) ak.nil)) (ab.bi hW rfl ab.va)))) (by rintro⟨⟩ h;dsimp only at h;subst h;kernel_rfl) fR)
theorem aeg:Sb prog w h₀ c ax mg mb R n 154 Sz IJ:=by
 refine ia hW λb sc hG V bg=>?_
 conv at V=>lhs;whnf
 conv at bg=>lhs;whnf
 subst V bg
 exact(aq.ret (ab.cmp (ab.eR hW hB ab.va (ak.cons ab.va ak.nil)) (ab.eR hW hB ab.va (ak.cons ab.va ak.nil))))
theorem afD:Sb prog w h₀ c ax mg mb R n 159 T0 Jf:=by
 refine ia hW λb sc hG V bg=>?_
 conv at V=>lhs;whnf
 conv at bg=>lhs;whnf
 subst V bg
 exact(aq.nX cZ (fK (bz.seq hG (ab.dE _ ab.va)) cE (ab.eR hW hB ab.va (ak.cons ab.va ak.nil))) (aq.ca (a6.j6 (a6.plain (ab.eR hW hB ab.va (ak.cons ab.va ak.nil)))) (aq.ret (ab.bin (ab.tup (ak.cons (ab.item hG ab.va ab.int) ak.nil)) (ab.bi hW rfl ab.va))) aq.nil (aq.asg cZ (ab.item hG ab.va ab.neg) (aq.ed (bz.seq hG (ab.dE _ ab.va)) cE (aq.asg cZ (ab.tup (ak.cons (ab.item hG ab.va ab.int) (ak.cons ab.va (ak.cons ab.va ak.nil)))) aq.nil) (aq.ret ab.va) (by intro _ _;rfl) fR))) (by rintro⟨⟩ h;dsimp only at h;subst h;kernel_rfl) fR)
theorem ac4:Sb prog w h₀ c ax mg mb R n 164 Q9 H8:=by
 refine ia hW λb sc hG V bg=>?_
 conv at V=>lhs;whnf
 conv at bg=>lhs;whnf
 subst V bg
 exact(aq.ca (a6.plain (ab.call hW (ak.cons ab.va ak.nil))) (aq.tO hW (Ja (by kernel_rfl)) (by kernel_rfl) (by kernel_rfl) (by kernel_rfl) ab.va (ab.item hG ab.va ab.int) ab.va (by decide) (ad7 (by decide)) (aq.ret (ab.ite (a6.cmp (ab.tP hG ab.va (ab.item hG ab.va ab.int) ab.va) ab.va) (ab.lst (ak.cons ab.va ak.nil)) (ab.lst ak.nil))) fR) aq.nil (aq.ca (a6.plain (ab.eR hW hB ab.va (ak.cons ab.va ak.nil))) (aq.asg cZ (ab.eR hW hB ab.va (ak.cons (ab.item hG ab.va ab.int) (ak.cons ab.va ak.nil))) (aq.ret (ab.ite (a6.cmp (ab.bi hW rfl ab.va) ab.int) (ab.eR hW hB ab.va (ak.cons ab.va (ak.cons (ab.item hG ab.va ab.int) (ak.cons (ab.eR hW hB ab.va (ak.cons (ab.item hG ab.va ab.int) (ak.cons ab.va ak.nil))) (ak.cons ab.va ak.nil))))) (ab.lst ak.nil)))) aq.nil (aq.ca (a6.or (a6.cmp (ab.item hG ab.va ab.int) (ab.item hG ab.va ab.int)) (a6.or (a6.cmp (ab.bi hW rfl ab.va) (ab.bi hW rfl ab.va)) (a6.Ga (a6.plain (ab.eR hW hB ab.va (ak.cons ab.va ak.nil)))))) (aq.ret (ab.lst ak.nil)) aq.nil (aq.asg cZ (ab.lst (ak.cons ab.va ak.nil)) (aq.ed (bz.zip2 hW (by kernel_rfl) (by kernel_rfl) (ab.dE _ ab.va) (ab.dE _ ab.va)) mU (aq.nX cZ (gY (bz.seq hG ab.va) cE ab.va (bz.seq hG (ab.eR hW hB ab.va (ak.cons ab.va (ak.cons ab.va (ak.cons ab.va ak.nil))))) cE) aq.nil (by rintro⟨⟩ h;dsimp only at h;subst h;kernel_rfl) fR) (aq.ret ab.va) (by intro _ _;rfl) fR)))))
theorem afE:aq ⟨cQ prog w h₀ c ax mg mb,adr,au,R,n⟩ (du T1 (gr (cO w.params) 169)) (iG (cO w.params) 169) Jg.body:=by
 have hG:=hW.eU
 have hM:= @Wo prog w h₀ c ax mg mb R n hW
 obtain⟨b,V⟩:∃b,iG (cO w.params) 169=b:=⟨_,rfl⟩
 obtain⟨sc,bg⟩:∃sc,gr (cO w.params) 169=sc:=⟨_,rfl⟩
 rw[V,bg]
 conv at V=>lhs;whnf
 conv at bg=>lhs;whnf
 subst V bg
 exact(aq.asg cZ (ab.lst (ak.cons (ab.tup (ak.cons ab.va (ak.cons ab.va ak.nil))) ak.nil)) (aq.ed (bz.seq hG (ab.bin (ab.comp (rz (bz.seq hG ab.va) cE ab.va (a6.j6 (a6.plain (ab.call hW (ak.cons ab.va ak.nil)))))) (ab.comp (rz (bz.seq hG ab.va) cE ab.va (a6.plain (ab.call hW (ak.cons ab.va ak.nil))))))) cE (aq.nX cZ (gY (bz.seq hG ab.va) mU ab.va (bz.seq hG (ab.eR hW hB ab.va (ak.cons ab.va (ak.cons ab.va (ak.cons ab.va (ak.cons ab.va ak.nil)))))) cE) (aq.ca (a6.cmp (ab.bi hW rfl ab.va) (hM (by kernel_rfl))) aq.bad aq.nil aq.nil) (by rintro⟨⟩ h;dsimp only at h;subst h;kernel_rfl) fR) (aq.ret (ab.comp (rz (bz.seq hG ab.va) mU ab.va (a6.cmp ab.va (ab.tup ak.nil))))) (by intro _ _;rfl) fR))
theorem ahx:Sb prog w h₀ c ax mg mb R n 174 U8 JN:=by
 refine ia hW λb sc hG V bg=>?_
 conv at V=>lhs;whnf
 conv at bg=>lhs;whnf
 subst V bg
 exact(aq.ca (a6.j6 (a6.plain (ab.call hW (ak.cons ab.va ak.nil)))) (aq.nX cZ (fK (bz.seq hG (ab.dedup hW (by kernel_rfl) (by kernel_rfl) (by kernel_rfl) (by kernel_rfl) (by kernel_rfl) (by kernel_rfl) (tY.comp (fK (bz.seq hG ab.va) cE (ab.tup (ak.cons ab.va (ak.cons ab.bool ak.nil))))))) cE (ab.tup (ak.cons ab.va ak.nil))) aq.nil (by rintro⟨⟩ h;dsimp only at h;subst h;kernel_rfl) fR) (aq.ca (a6.pi hG (ab.item hG ab.va ab.int) ab.va) (aq.asg cZ (ab.lst (ak.cons (ab.eR hW hB ab.va (ak.cons ab.va (ak.cons (ab.item hG ab.va (ab.item hG ab.va ab.int)) ak.nil))) ak.nil)) aq.nil) (aq.asg cZ (ab.call hW (ak.cons ab.va ak.nil)) aq.nil) aq.nil) (aq.new cZ ak.nil (aq.ed (bz.seq hG ab.va) cE (aq.asg cZ (ab.call hW (ak.cons ab.va (ak.cons ab.va ak.nil))) (aq.ca (a6.qc ab.va) (aq.ext (by kernel_rfl) (by kernel_rfl) (ab.comp (fK (bz.seq hG (ab.eR hW hB ab.va (ak.cons ab.va (ak.cons ab.va (ak.cons (ab.eR hW hB ab.va (ak.cons ab.va (ak.cons ab.va ak.nil))) ak.nil))))) cE (ab.tup (ak.cons ab.va (ak.cons ab.va ak.nil))))) aq.nil) aq.nil aq.nil)) (aq.cv (x:="found") (by kernel_rfl) (by kernel_rfl) (aq.ret ab.va)) (by intro _ _;rfl) fR)))
theorem aeh:Sb prog w h₀ c ax mg mb R n 179 SA IK:=by
 refine ia hW λb sc hG V bg=>?_
 conv at V=>lhs;whnf
 conv at bg=>lhs;whnf
 subst V bg
 exact(aq.newD cZ (aq.ed (bz.seq hG (ab.eR hW hB ab.va (ak.cons ab.rM (ak.cons ab.va (ak.cons (ab.eR hW hB ab.va (ak.cons ab.va ak.nil)) ak.nil))))) cE (aq.asg cZ (ab.bi hW rfl (ab.ad2 hW (by kernel_rfl) (by kernel_rfl) (by kernel_rfl) ab.va)) (aq.m0 (by kernel_rfl) (by kernel_rfl) (ab.bi hW rfl (ab.comp (fK (bz.seq hG ab.va) mU (ab.tup (ak.cons ab.va (ak.cons (ab.call hW (ak.cons ab.va ak.nil)) ak.nil)))))) ab.va aq.nil)) (aq.tQ (x:="found") (by kernel_rfl) (by kernel_rfl) (aq.ret (ab.comp (fK (bz.seq hG (ab.bi hW rfl (ab.comp (fK (bz.seq hG ab.va) cE (ab.tup (ak.cons (ab.item hG ab.va ab.va) (ak.cons ab.va ak.nil))))))) mU ab.va)))) (by intro _ _;rfl) fR))
theorem am7:Sb prog w h₀ c ax mg mb R n 203 XA MW:=by
 refine ia hW λb sc hG V bg=>?_
 conv at V=>lhs;whnf
 conv at bg=>lhs;whnf
 subst V bg
 exact(aq.asg cZ (ab.item hG ab.va ab.str) (aq.tR (by kernel_rfl) (by kernel_rfl) (ab.bin ab.va ab.int) (aq.ret (ab.bin (ab.ite (a6.cmp ab.va (ab.bi hW rfl (ab.item hG ab.va ab.str))) (ab.item hG (ab.item hG ab.va ab.str) ab.va) (ab.bin (ab.bin (ab.bin (ab.bin ab.int ab.va) ab.va) (ab.bin ab.int ab.va)) ab.int)) ab.va))))
theorem aiV:Sb prog w h₀ c ax mg mb R n 208 Ws FA:=by
 refine ia hW λb sc hG V bg=>?_
 conv at V=>lhs;whnf
 conv at bg=>lhs;whnf
 subst V bg
 exact(aq.asg cZ (ab.ite (a6.cmp ab.va ab.int) (ab.call hW (ak.cons ab.va (ak.cons ab.int ak.nil))) ab.int) (aq.ca (a6.cmp ab.va ab.int) (aq.ret (ab.tup (ak.cons (ab.item hG ab.va (ab.call hW (ak.cons ab.va (ak.cons (ab.bi hW rfl ab.va) ak.nil)))) ak.nil))) aq.nil (aq.ca (a6.cmp ab.va ab.int) (aq.ret (ab.tup (ak.cons ab.str (ak.cons (ab.call hW (ak.cons ab.va (ak.cons (ab.bin ab.va ab.int) (ak.cons ab.va ak.nil)))) ak.nil)))) aq.nil (aq.asg cZ (ab.bin ab.int (ab.bi hW rfl (ab.cmp ab.va ab.int))) (aq.ret (ab.bin (ab.tup (ak.cons (ab.item hG (ab.tup (ak.cons ab.str (ak.cons ab.str (ak.cons ab.str ak.nil)))) (ab.call hW (ak.cons ab.va (ak.cons ab.int ak.nil)))) ak.nil)) (ab.bi hW rfl (ab.comp (fK (bz.jx hW (by kernel_rfl) (by kernel_rfl) ab.va) cE (ab.call hW (ak.cons ab.va (ak.cons (ab.bin ab.va ab.int) (ak.cons ab.va ak.nil)))))))))))))
theorem aiW:Sb prog w h₀ c ax mg mb R n 213 Wt LU:=by
 refine ia hW λb sc hG V bg=>?_
 conv at V=>lhs;whnf
 conv at bg=>lhs;whnf
 subst V bg
 exact(aq.qC (Ja (by kernel_rfl)) (Ja (by kernel_rfl)) (by decide) ak.nil (ak.cons ab.va ak.nil) (aq.xR (by kernel_rfl) (by kernel_rfl) (aq.pop (by kernel_rfl) (by kernel_rfl) cZ (aq.app (by kernel_rfl) (by kernel_rfl) ab.va (aq.ext (by kernel_rfl) (by kernel_rfl) (ab.dE _ ab.va) aq.nil))) (aq.cv (x:="row") (by kernel_rfl) (by kernel_rfl) (aq.ret (ab.tup (ak.cons (ab.bi hW rfl ab.va) (ak.cons (ab.bi hW rfl (ab.comp (fK (bz.seq hG ab.va) cE (ab.item hG ab.va ab.int)))) (ak.cons (ab.bi hW rfl (ab.comp (fK (bz.seq hG ab.va) cE (ab.bin (ab.bi hW rfl ab.va) ab.int)))) ak.nil))))))) (by rintro⟨⟩ h;dsimp only at h;subst h;kernel_rfl))
theorem aiX:Sb prog w h₀ c ax mg mb R n 218 Wu LV:=by
 refine ia hW λb sc hG V bg=>?_
 conv at V=>lhs;whnf
 conv at bg=>lhs;whnf
 subst V bg
 exact(aq.nX cZ (fK (bz.seq hG (ab.dE _ ab.va)) cE (ab.call hW (ak.cons ab.va (ak.cons ab.va ak.nil)))) (aq.ca (a6.or (a6.cmp (ab.item hG ab.va ab.int) ab.va) (a6.Ga (a6.cmp (ab.bi hW rfl ab.va) ab.int))) (aq.ret (ab.bin (ab.tup (ak.cons (ab.item hG ab.va ab.int) ak.nil)) (ab.bi hW rfl ab.va))) aq.nil (aq.new cZ ak.nil (aq.ed (bz.seq hG ab.va) cE (aq.ext (by kernel_rfl) (by kernel_rfl) (ab.ite (a6.and (a6.cmp (ab.item hG ab.va ab.int) (ab.item hG ab.va ab.int)) (a6.Cb (a6.cmp (ab.bi hW rfl ab.va) ab.int))) (ab.dE _ ab.va) (ab.tup (ak.cons ab.va ak.nil))) aq.nil) (aq.cv (x:="flat") (by kernel_rfl) (by kernel_rfl) (aq.ret (ab.bin (ab.tup (ak.cons (ab.item hG ab.va ab.int) ak.nil)) (ab.bi hW rfl (ab.comp (fK (bz.seq hG (ab.bi hW rfl (ab.comp (fK (bz.seq hG ab.va) cE (ab.tup (ak.cons (ab.call hW (ak.cons ab.va ak.nil)) (ak.cons ab.va ak.nil))))))) mU ab.va)))))) (by intro _ _;rfl) fR))) (by rintro⟨⟩ h;dsimp only at h;subst h;kernel_rfl) fR)
theorem afF:Sb prog w h₀ c ax mg mb R n 223 T2 Jh:=by
 refine ia hW λb sc hG V bg=>?_
 conv at V=>lhs;whnf
 conv at bg=>lhs;whnf
 subst V bg
 exact(aq.ca (a6.pi hG (ab.item hG ab.va ab.int) ab.va) (aq.ret (ab.item hG ab.va (ab.item hG ab.va ab.int))) aq.nil (aq.ret (ab.bin (ab.tup (ak.cons (ab.item hG ab.va ab.int) ak.nil)) (ab.bi hW rfl (ab.comp (fK (bz.seq hG (ab.dE _ ab.va)) cE (ab.call hW (ak.cons ab.va (ak.cons ab.va ak.nil)))))))))
theorem afG:Sb prog w h₀ c ax mg mb R n 228 T3 Ji:=by
 refine ia hW λb sc hG V bg=>?_
 conv at V=>lhs;whnf
 conv at bg=>lhs;whnf
 subst V bg
 exact(aq.ret (ab.bin (ab.lst (ak.cons ab.va ak.nil)) (ab.comp (gY (bz.seq hG (ab.dE _ ab.va)) cE ab.va (bz.seq hG (ab.call hW (ak.cons ab.va ak.nil))) cE))))
theorem ahy:Sb prog w h₀ c ax mg mb R n 233 U9 JO:=by
 refine ia hW λb sc hG V bg=>?_
 conv at V=>lhs;whnf
 conv at bg=>lhs;whnf
 subst V bg
 exact(aq.newD cZ (aq.ed (bz.seq hG (ab.call hW (ak.cons ab.va ak.nil))) cE (aq.m0 (by kernel_rfl) (by kernel_rfl) ab.bool ab.va (aq.ca (a6.and (a6.cmp (ab.item hG ab.va ab.int) ab.va) (a6.Cb (a6.cmp (ab.bi hW rfl ab.va) ab.int))) (aq.ed (bz.oK hW (by kernel_rfl) (by kernel_rfl) ab.int (ab.bin ab.int (ab.bin (ab.bi hW rfl ab.va) ab.int))) cE (aq.nX cZ (rz (bz.enum hW (by kernel_rfl) (by kernel_rfl) (ab.dE _ ab.va)) mU ab.va (a6.cmp (ab.bin (ab.bin ab.va ab.va) ab.int) ab.int)) (aq.m0 (by kernel_rfl) (by kernel_rfl) ab.bool (ab.ite (a6.cmp (ab.bi hW rfl ab.va) ab.int) (ab.item hG ab.va ab.int) (ab.call hW (ak.cons (ab.bin (ab.tup (ak.cons (ab.item hG ab.va ab.int) ak.nil)) (ab.bi hW rfl ab.va)) (ak.cons ab.va ak.nil)))) aq.nil) (by rintro⟨⟩ h;dsimp only at h;subst h;kernel_rfl) fR) aq.nil (by intro _ _;rfl) fR) aq.nil aq.nil)) (aq.tQ (x:="found") (by kernel_rfl) (by kernel_rfl) (aq.ret (ab.AM hW (by kernel_rfl) (by kernel_rfl) (by kernel_rfl) ab.va))) (by intro _ _;rfl) fR))
theorem am8:Sb prog w h₀ c ax mg mb R n 238 XB MX:=by
 refine ia hW λb sc hG V bg=>?_
 conv at V=>lhs;whnf
 conv at bg=>lhs;whnf
 subst V bg
 exact(aq.asg cZ (ab.rc hW (by kernel_rfl) (by kernel_rfl) (by kernel_rfl) (by kernel_rfl) (by kernel_rfl) (by kernel_rfl) (ab.comp (rz (bz.seq hG (ab.call hW (ak.cons ab.va ak.nil))) cE (ab.item hG ab.va ab.int) (a6.cmp (ab.str1 (ab.item hG ab.va ab.int)) ab.str)))) (aq.yo cZ cZ (ab.lst (ak.cons ab.rM ak.nil)) (ab.call hW (ak.cons ab.va (ak.cons ab.va ak.nil))) (aq.ca (a6.cmp (ab.bi hW rfl (ab.comp (rz (bz.seq hG (ab.call hW (ak.cons ab.va ak.nil))) cE ab.int (a6.cmp (ab.bi hW rfl ab.va) ab.int)))) (ab.bi hW rfl (ab.comp (rz (bz.seq hG (ab.call hW (ak.cons ab.va ak.nil))) cE ab.int (a6.cmp (ab.bi hW rfl ab.va) ab.int))))) (aq.ret (ab.lst ak.nil)) aq.nil (aq.ed (bz.seq hG ab.va) cE (aq.nX cZ (gY (bz.seq hG ab.va) cE (ab.m9 hW (by kernel_rfl) (by kernel_rfl) (by kernel_rfl) (ab.bin (ab.listItems hW (by kernel_rfl) (by kernel_rfl) (by kernel_rfl) ab.va) (ab.lst (ak.cons (ab.tup (ak.cons ab.va (ak.cons ab.va ak.nil))) ak.nil)))) (bz.seq hG ab.va) cE) aq.nil (by rintro⟨⟩ h;dsimp only at h;subst h;kernel_rfl) fR) (aq.nX cZ (rz (bz.seq hG ab.va) cE (ab.bi hW rfl (ab.comp (fK (bz.seq hG ab.va) cE (ab.tup (ak.cons ab.va (ak.cons (ab.item hG ab.va ab.va) ak.nil)))))) (a6.cmp (ab.call hW (ak.cons (ab.call hW (ak.cons ab.va (ak.cons ab.va ak.nil))) (ak.cons ab.va ak.nil))) ab.va)) (aq.ret (ab.comp (fK (bz.seq hG (ab.bi hW rfl (ab.comp (fK (bz.seq hG ab.va) cE (ab.tup (ak.cons (ab.bi hW rfl (ab.comp (fK (bz.seq hG ab.va) mU (ab.tup (ak.cons ab.va (ak.cons (ab.call hW (ak.cons ab.va ak.nil)) ak.nil)))))) (ak.cons ab.va ak.nil))))))) mU ab.va))) (by rintro⟨⟩ h;dsimp only at h;subst h;kernel_rfl) fR) (by intro _ _;rfl) fR)) (by rintro⟨⟩ h;dsimp only at h;subst h;kernel_rfl)))
theorem afH:Sb prog w h₀ c ax mg mb R n 243 T4 Jj:=by
 refine ia hW λb sc hG V bg=>?_
 conv at V=>lhs;whnf
 conv at bg=>lhs;whnf
 subst V bg
 exact(aq.nX cZ (fK (bz.seq hG (ab.dE _ ab.va)) cE (ab.call hW (ak.cons ab.va (ak.cons ab.va ak.nil)))) (aq.ret (ab.bin (ab.tup (ak.cons (ab.item hG ab.va ab.int) ak.nil)) (ab.bi hW rfl (ab.ite (a6.cmp (ab.item hG ab.va ab.int) ab.va) (ab.dE _ ab.va) ab.va)))) (by rintro⟨⟩ h;dsimp only at h;subst h;kernel_rfl) fR)
end
section
variable{prog:eE}{w:dg}{h₀:aG}{c ax:az}{mg mb:Str->Option ao}
theorem U':yd (cQ prog w h₀ c ax mg mb):=⟨by kernel_rfl,by kernel_rfl,by kernel_rfl,by kernel_rfl⟩
theorem ahz:JF (cQ prog w h₀ c ax mg mb):=⟨by kernel_rfl,by kernel_rfl,by kernel_rfl,by kernel_rfl,
 125,_,_,_,_,_,_,_,_,by kernel_rfl,by kernel_rfl,rfl,rfl,by kernel_rfl,λzz zz=>by kernel_rfl,by decide,by kernel_rfl,by kernel_rfl,rfl,rfl,rfl⟩
theorem aiY(hG:kh (cQ prog w h₀ c ax mg mb)):∀n,Wd.Ok ⟨cQ prog w h₀ c ax mg mb,adr,au,run au sx n,n⟩:=Q2 hG λn f m h ih=>by
 have hB:=U' (prog:=prog) (w:=w) (h₀:=h₀) (c:=c) (ax:=ax) (mg:=mg) (mb:=mb)
 match f,h with
 |0,h=>injection h with KP;subst KP;exact fS _ _ _ _ afv (ahs ih hB)
 |1,h=>injection h with vE;subst vE;exact fS _ _ _ _ afw (aht ih hB)
 |2,h=>injection h with MD;subst MD;exact fS _ _ _ _ afx (ahu ih hB)
 |3,h=>injection h with LO;subst LO;exact fS _ _ _ _ afy (ahv ih hB)
 |4,h=>injection h with am9;subst am9;exact fS _ _ _ _ ac0 (aee ih hB)
 |5,h=>injection h with ana;subst ana;exact fS _ _ _ _ ac1 (aef ih hB)
 |6,h=>injection h with vK;subst vK;exact fS _ _ _ _ afz (ahw ih hB)
 |7,h=>injection h with anb;subst anb;exact fS _ _ _ _ ahn (aiT ih hB)
 |8,h=>injection h with ane;subst ane;exact fS _ _ _ _ aho (aiU ih hB)
 |9,h=>injection h with B9;subst B9;exact fS _ _ _ _ ad8 (afC ih hB)
 | 10,h=>injection h with BB;subst BB;exact fS _ _ _ _ ac2 (aeg ih hB)
 | 11,h=>injection h with vL;subst vL;exact fS _ _ _ _ ad9 (afD ih hB)
 | 12,h=>injection h with LW;subst LW;exact fS _ _ _ _ ab2 (ac4 ih hB)
 | 13,h=>injection h with Ce;subst Ce;exact fS _ _ _ _ aea (afE ih hB)
 | 14,h=>injection h with AS;subst AS;exact fS _ _ _ _ afA (ahx ih hB)
 | 15,h=>injection h with vh;subst vh;exact fS _ _ _ _ ac3 (aeh ih hB)
 | 16,h=>injection h with Bs;subst Bs;exact fS _ _ _ _ aiR (am7 ih hB)
 | 17,h=>injection h with Bt;subst Bt;exact fS _ _ _ _ ahp (aiV ih hB)
 | 18,h=>injection h with anf;subst anf;exact fS _ _ _ _ ahq (aiW ih hB)
 | 19,h=>injection h with vr;subst vr;exact fS _ _ _ _ ahr (aiX ih hB)
 | 20,h=>injection h with api;subst api;exact fS _ _ _ _ aeb (afF ih hB)
 | 21,h=>injection h with K3;subst K3;exact fS _ _ _ _ aec (afG ih hB)
 | 22,h=>injection h with ang;subst ang;exact fS _ _ _ _ afB (ahy ih hB)
 | 23,h=>injection h with LW;subst LW;exact fS _ _ _ _ aiS (am8 ih hB)
 | 24,h=>injection h with BC;subst BC;exact fS _ _ _ _ aed (afH ih hB)
 |n+ 25,h=>exact aC h
end
def yw:List (Str×Nat):=nm ["script","cell","tank","lap","ops","bags","t","pattern","form","due","row"]
def F4:S:= .ed (.one 3) (dN .jx [I 2]) (.asg 4 (.item (hO [hO [Sx "+"],hO [Sx "+",Sx "*"],hO []]) (Call 16 [L 2,I 3]))<| .asg 5 (.mk (L 4))<| .asg 6 (Call 17 [L 2,I 2,Sx "ab"])<| .asg 7 (Call 17 [L 2, .bin .add (I 1) (Call 16 [L 2,I 2]),hO [Sx "?x",Sx "?y",Sx "a",Sx "?x"]])<| .asg 8 (Call 19 [L 6,L 4])<| .ca (.cmp .gt (.bi .len (Call 21 [L 8])) (I 5)) (.asg 8 (.item (L 8) (I (-1)))<| .asg 6 (L 8) .bI) .bI<| .asg 9 (Call 23 [L 7,L 8,L 4])<| .ca (.mw (.cmp .ne (dc 9 (L 5) [L 6]) (L 8)) (.mw (.cmp .ne (dc 15 (L 5) [L 7,L 6]) (L 9)) (.cmp .ne (dc 15 (L 5) [L 7,dc 11 (L 5) [L 6]]) (L 9)))) (.ret no) .bI<| .ca (.cmp .ne (dc 15 (L 5) [L 7,Call 24 [L 6,L 4]]) (L 9)) (.ret no) .bI<| .ed (.one 10) (L 9) (.ca (.j6 (dc 10 (L 5) [Call 20 [L 7,dN .m9 [L 10]],L 6])) (.ret no) .bI .bI) .bI)<| .ret cY
def BL:E:= .comp (.bin .mod (.bi .FS (L 1)) (I 1000003)) (.one 1) (.dE (.tN 63) (L 0)) cY
noncomputable def restOf:List lI->List lI
 |_::r=>r
 |[]=>[]
noncomputable def E5:List lI->Expr
 | .Assign _ (.Dict _ (x::_) _) _::_=>x
 |_=> .Constant .none 0 default
section
variable{prog:eE}{w:dg}{h₀:aG}{c ax:az}{mg mb:Str->Option ao}{R:Nat->List as7->Sg->Option (as7×Sg)}{n:Nat}
set_option maxRecDepth 20000 in
set_option maxHeartbeats 1000000 in
theorem anh(hW:(Wd.mk (cQ prog w h₀ c ax mg mb) adr au R n).Ok):aq ⟨cQ prog w h₀ c ax mg mb,adr,au,R,n⟩ (du yw (gr (cO w.params) 248)) (restOf (iG (cO w.params) 248)) F4:=by
 have hG:=hW.eU
 have hB:=U' (prog:=prog) (w:=w) (h₀:=h₀) (c:=c) (ax:=ax) (mg:=mg) (mb:=mb)
 have hI:=ahz (prog:=prog) (w:=w) (h₀:=h₀) (c:=c) (ax:=ax) (mg:=mg) (mb:=mb)
 obtain⟨b,V⟩:∃b,restOf (iG (cO w.params) 248)=b:=⟨_,rfl⟩
 obtain⟨sc,bg⟩:∃sc,gr (cO w.params) 248=sc:=⟨_,rfl⟩
 refine Y V<|Y bg ?_
 conv at V=>lhs;whnf
 conv at bg=>lhs;whnf
 subst V bg
 exact aq.ed (bz.jx hW (by kernel_rfl) (by kernel_rfl) ab.int) cE (aq.asg cZ (ab.item hG (ab.lst (ak.cons (ab.lst (ak.cons ab.str ak.nil)) (ak.cons (ab.lst (ak.cons ab.str (ak.cons ab.str ak.nil))) (ak.cons (ab.lst ak.nil) ak.nil)))) (ab.call hW (ak.cons ab.va (ak.cons ab.int ak.nil)))) (aq.asg cZ (ab.mk hW hB hI (by kernel_rfl) (by kernel_rfl) (by kernel_rfl) ab.va) (aq.asg cZ (ab.call hW (ak.cons ab.va (ak.cons ab.int (ak.cons ab.str ak.nil)))) (aq.asg cZ (ab.call hW (ak.cons ab.va (ak.cons (ab.bin ab.int (ab.call hW (ak.cons ab.va (ak.cons ab.int ak.nil)))) (ak.cons (ab.lst (ak.cons ab.str (ak.cons ab.str (ak.cons ab.str (ak.cons ab.str ak.nil))))) ak.nil)))) (aq.asg cZ (ab.call hW (ak.cons ab.va (ak.cons ab.va ak.nil))) (aq.ca (a6.cmp (ab.bi hW rfl (ab.call hW (ak.cons ab.va ak.nil))) ab.int) (aq.asg cZ (ab.item hG ab.va ab.neg) (aq.asg cZ ab.va aq.nil)) aq.nil (aq.asg cZ (ab.call hW (ak.cons ab.va (ak.cons ab.va (ak.cons ab.va ak.nil)))) (aq.ca (a6.or (a6.cmp (ab.eR hW hB ab.va (ak.cons ab.va ak.nil)) ab.va) (a6.or (a6.cmp (ab.eR hW hB ab.va (ak.cons ab.va (ak.cons ab.va ak.nil))) ab.va) (a6.Ga (a6.cmp (ab.eR hW hB ab.va (ak.cons ab.va (ak.cons (ab.eR hW hB ab.va (ak.cons ab.va ak.nil)) ak.nil))) ab.va)))) (aq.ret ab.bool) aq.nil (aq.ca (a6.cmp (ab.eR hW hB ab.va (ak.cons ab.va (ak.cons (ab.call hW (ak.cons ab.va (ak.cons ab.va ak.nil))) ak.nil))) ab.va) (aq.ret ab.bool) aq.nil (aq.ed (bz.seq hG ab.va) cE (aq.ca (a6.j6 (a6.plain (ab.eR hW hB ab.va (ak.cons (ab.call hW (ak.cons ab.va (ak.cons (ab.m9 hW (by kernel_rfl) (by kernel_rfl) (by kernel_rfl) ab.va) ak.nil))) (ak.cons ab.va ak.nil))))) (aq.ret ab.bool) aq.nil aq.nil) aq.nil (by intro _ _;rfl) fR)))))))))) (aq.ret ab.bool) (by intro _ _;rfl) fR
theorem afI(hW:(Wd.mk (cQ prog w h₀ c ax mg mb) adr au R n).Ok):ab ⟨cQ prog w h₀ c ax mg mb,adr,au,R,n⟩ (du yw (gr (cO w.params) 248)) (E5 (iG (cO w.params) 248)) BL:=by
 have hG:=hW.eU
 obtain⟨b,V⟩:∃b,E5 (iG (cO w.params) 248)=b:=⟨_,rfl⟩
 obtain⟨sc,bg⟩:∃sc,gr (cO w.params) 248=sc:=⟨_,rfl⟩
 refine Y V<|Y bg ?_
 conv at V=>lhs;whnf
 conv at bg=>lhs;whnf
 subst V bg
 exact ab.comp (fK (bz.seq hG (ab.dE _ ab.va)) cE (ab.bin (ab.bi hW rfl ab.va) ab.int))
end
theorem SD{g:aG}:∀{vs:List ao} {ns:List Int},ER vs ns->aT g vs (ns.map kG)
 |_,_, .nil=> .nil
 |_,_, .cons _ _ r=> .cons .int (SD r)
theorem SE:∀{vs:List ao} {ns:List Int},ER vs ns->∀v∈vs,∃i t,v= .int i t
 |_,_, .nil,_,h=>nomatch h
 |_,_, .cons _ _ r,v,h=>by
  rcases bK.mp h with rfl|h
  .exact ie _ _ rfl
  .exact SE r v h
noncomputable def NG(b:aK)(ns:List Int):List aK:=[.v (.d (.list (ns.map .int))), .un,b, .un, .un, .un, .un, .un, .un, .un, .un]
def yx(ns:List Int):List aK:=NG .un ns
def MY(ns:List Int):List aK:=NG (.v .feed) ns
noncomputable def XC(cs:List ah):Sg:=[(bl "cells", .list cs),(bl "at", .int 0)]
theorem ahA(P:vd):(du yw (gr (cO P) 248)).Γ.all (λp=>decide (p.2≠0)||decide (p.1=bl "script"))=true:=by kernel_rfl
theorem aei(P:vd):((gr (cO P) 248).names.all λp=>decide (p.2≠ .cell) && decide (p.2≠ .free))=true:=by kernel_rfl
theorem aej(P:vd):∃p pos MS q1 q2 q3 c1 c2 c3,iG (cO P) 248=(.Assign [.Name (bl "tank") p] (.Dict [some (.Constant (.str (bl "cells")) c1 q1),some (.Constant (.str (bl "at")) c2 q2)] [E5 (iG (cO P) 248), .Constant (.int 0) c3 q3] MS) pos::restOf (iG (cO P) 248)):=
 (acC _ _ _ _ _ _ _ _ _ rfl)
noncomputable def LX(o:Obj):Bool:=(o.cls != .type "dict" ||(match o.data with
 | .dict es _=>es.toList.any λe=>match e.key with
   | .str x _=>x.cps[0]? !=some 63
   |_=>true
 |_=>true)) && ((o.cls != .type "tuple" && o.cls != .type "list")||o.dict==none)
theorem afJ{w:dg}{o:Obj}(h:LX o=true):nN w o:=by
 unfold LX at h
 rw[cm] at h
 refine xa h λH O=>⟨λhc es n hd hk=>?_,λhc=>?_⟩
 .rw[hc,hd] at H
  refine ar (uC.mp H) λe he H=>cP (hk e he) λx t ex hx=>?_
  rw[ex] at H
  simp[hx] at H
 .refine a9 hc (λhc=>?_) (λhc=>?_)<;>rw[hc] at O<;>simpa using O
theorem aiZ(P:vd):(cO P).all (λp=>LX p.2)=true:=by kernel_rfl
theorem mem_lookup{b:az}{o:Obj}:∀{K:List (az×Obj)},K.lookup b=some o->(b,o)∈K
 |[],h=>by exact aC h
 |(c,x)::K,h=>by
  rw[lT] at h
  cases e:b==c with
  |true=>rw[e] at h;injection h with BC;subst BC;exact Y (beq_iff_eq.mp e)<| .head _
  |false=>rw[e] at h;exact .tail _ (mem_lookup h)
def ani(P:vd)(ax:az)(b:az):Prop:=((cO P).lookup b).isSome=true\/b=ax
def nQ(P:vd)(ax:az)(h:aG):aG:=qB h (ani P ax)
section
variable{w:dg}{h:aG}{ax:az}
theorem Ak{b:az}(V:((cO w.params).lookup b).isSome=true){o:Obj}(e:h.get? b=some o):(nQ w.params ax h).get? b=some o:=by
 unfold nQ;rw[sZ (.inl V)];exact e
theorem afK{prog:eE}{c:az}{mg mb:Str->Option ao}{vs:List ao}{ns:List Int}(KX:(cO w.params).In h)(g:h.Ns mainGlobals mg)(b:h.Ns builtinsNs mb)(lim:h.NoLimit)(jL:∀x:Str,x≠"__name__"->mb x=bootBuiltins x)(hl:h.IsList ax vs.toArray)(hI:ER vs ns):
 kh (cQ prog w (nQ w.params ax h) c ax mg mb):=by
 refine ar lim λmc hmc hm=>mX hl λo ho iA n hd=>⟨λa o e=>Ak (by refine Y (show(cO w.params).lookup a=some o from e) ?_;rfl) (KX a o e),g.at' λo e=>Ak (by kernel_rfl) e,b.at' λo e=>Ak (by kernel_rfl) e,(ai mc (hmc.at' λo e=>Ak (by kernel_rfl) e) hm),jL,
  (jX o _ n ?_ iA hd (λv hv=>SE hI v hv)),(Aa _ _ _ _ _ _ (md (Ak (by kernel_rfl) (KX 1 _ rfl)) rfl rfl rfl (by decide+kernel)))⟩
 show(qB h _).get? ax=_
 rw[sZ (.inr rfl)];exact ho
theorem afL(KX:(cO w.params).In h){b:az}{o:Obj}(e:(nQ w.params ax h).get? b=some o)(V:b≠ax):nN w o:=by
 refine xa (Ir e) λp e=>a9 p (λp=>?_) (λp=>?_)
 .cases q:(cO w.params).lookup b with
  |none=>rw[q] at p;exact aQ p
  |some o'=>
   have:=KX b o' q
   rw[e] at this;injection this with vz;subst vz
   exact afJ (hU.mp (aiZ w.params) (b,o) (mem_lookup q))
 .exact absurd p V
end
section
variable{prog:eE}{w:dg}{an:aJ}{dL:aG}{tk:Nat}{mg mb m:Str->Option ao}{A:bV}{name:Str}{a:az}{cd:ao}{ax:az}{vs:List ao}{ns:List Int}{n:Nat}{cs:List ah}{av:Sg}{body:List lI}{sc:jA}
set_option maxHeartbeats 4000000 in
set_option maxRecDepth 20000 in
theorem aek(V:body=iG (cO w.params) 248)(bg:sc=gr (cO w.params) 248)(KX:(cO w.params).In an.heap)(hG:kh (cQ prog w (nQ w.params ax an.heap) dL.objs.size ax mg mb))(rm:dK A n)(F:Fr an.heap an.heap.objs.size dL m)(hm:m (bl "script")=some (.ref ax))(hl:an.heap.IsList ax vs.toArray)(hI:ER vs ns)
 (hc:ev au (run au sx n) BL (yx ns) []=some ([.d (.list cs)],[]))
 (MR:aR au (run au sx n) F4 (MY ns) (XC cs)=some (.ret (.d (.bool true)) av)):
 wpAny (model prog w) A (execs body (envOf name sc an.heap.objs.size a cd))
  (λfl s'=>fl= .ret (.bool true)/\(∀b o,an.heap.get? b=some o->s'.heap.get? b=some o)/\s'.os=an.os/\s'.gens=an.gens) (λzz zz=>False)
  {heap:=dL,gens:=an.gens,drawn:=an.drawn,toks:=tk,os:=an.os}:=by
 have hW:=aiY hG n
 have hS:=anh (h₀:=nQ w.params ax an.heap) (c:=dL.objs.size) (ax:=ax) (mg:=mg) (mb:=mb) (R:=run au sx n) hW
 have hC:=afI (h₀:=nQ w.params ax an.heap) (c:=dL.objs.size) (ax:=ax) (mg:=mg) (mb:=mb) (R:=run au sx n) hW
 have bF:an.heap.objs.size<dL.objs.size:=by
  exact gE F.ns λo es ep ho zz=>dI ho
 have MZ:Sub (nQ w.params ax an.heap) an.heap:=R1
 have new:∀b,an.heap.objs.size<=b->(nQ w.params ax an.heap).get? b=none:=λb V=>by
  cases e:(nQ w.params ax an.heap).get? b with
  |none=>rfl
  |some o=>have:=MZ _ _ e;rw[om V] at this;exact aC this
 have Wv:Is (nQ w.params ax an.heap) (.ref ax) (.list (ns.map .int)):=by
  refine mX hl λo ho iA k hd=>Is.list (o:=o) ?_ iA hd (SD hI)
  show(qB an.heap _).get? ax=_
  rw[sZ (.inr rfl)];exact ho
 have tab:= @afL w an.heap ax KX
 generalize nQ w.params ax an.heap=g at hG hW hS hC MZ new Wv tab
 have keep:∀b o,dL.get? b=some o->(dL.push {cls:= .type "dict",data:= .dict #[]}).get? b=some o:=λb o e=>bT _ e
 have inv:Inv (cQ prog w g dL.objs.size ax mg mb) g [] {heap:=dL.push {cls:= .type "dict",data:= .dict #[]},gens:=an.gens,drawn:=an.drawn,toks:=tk,os:=an.os}:=
  ⟨Sub.rfl,λb o e=>keep b o (F.keep b o (MZ b o e)),new _ (fA bF),(nL ([]) (aaU dL) rfl (.nil) (dn _)),λb o e V=>tab e V⟩
 have Va:∀x,¬((du yw (gr (cO w.params) 248)).kindOf x=some .cell\/(du yw (gr (cO w.params) 248)).kindOf x=some .free):=λx e=>by
  refine a9 e (λe=>?_) (λe=>?_)<;>
  .have:=hU.mp (aei w.params) _ (mem_of_lookup e)
   simp at this
 have JP:∀(i:Nat) (b:aK),(yx ns)[i]? =some b->b≠ .un->i=0/\b= .v (.d (.list (ns.map .int))):=by
  intro i b h V
  match i,h with
  |0,h=>simp[yx,NG] at h;exact⟨rfl,h.symm⟩
  |i+1,h=>
   exfalso
   have:b∈ii 10 aK.un:=Dg (i:=i) h
   exact V (List.eq_of_mem_replicate this)
 have eo:a7 (cQ prog w g dL.objs.size ax mg mb) (du yw (gr (cO w.params) 248)) ⟨an.heap.objs.size,λzz=>0⟩ g (dL.push {cls:= .type "dict",data:= .dict #[]}) (envOf name sc an.heap.objs.size a cd) (yx ns):=by
  refine⟨bg,rfl,rfl,rfl,a8 _,dH bF,new _ (a8 _),(ai m (F.ns.at' λo e=>keep _ o e) (λx j b H O h3 h4=>?_)),λx j b H O h3 h4=>absurd h4 (Va x),λx hx=>absurd hx (Va x),(λx c e=>by exact aC e),(λx c zz e=>by exact aC e),λj k b b' H O h3 h4 h5=>?_,(λx y c H O=>by exact aC H),λx j b zz H h3=>?_⟩
  .refine xa (JP j b O h3) λBh A5=>?_;clear O h3 h4;subst Bh A5
   have:=hU.mp (ahA w.params) _ (mem_of_lookup H)
   have hx:x=bl "script" :=by simpa using this
   subst hx
   exact ai _ hm Wv
  .refine xa (JP j b H (by rintro rfl;exact aQ h3)) λLu BI=>?_;clear H h5;subst Lu BI
   exact aQ h3
  .refine xa (JP j b H (by rintro rfl;exact aQ h3)) λtH LY=>?_;clear H;subst tH LY
   exact aQ h3
 refine Qa (aej w.params) λp pos MS q1 q2 q3 c1 c2 c3 ee=>?_
 generalize E5 (iG (cO w.params) 248)=comp at*
 generalize restOf (iG (cO w.params) 248)=rest at*
 exact Y V<|Y ee<|adY (H0:=an.heap) (e:=BL) (i:=2) rfl inv eo rm (λb o e=>F.keep b o e) (a8 _) cZ hC hc hS (by decide+kernel) MR
end
def LZ:Prop:=∀ns:List Int,ns.length<= 63->∃cs av,ev au (run au sx 400) BL (yx ns) []=some ([.d (.list cs)],[])/\aR au (run au sx 400) F4 (MY ns) (XC cs)=some (.ret (.d (.bool true)) av)
theorem ahB(env:Env):dK (callerA.deeper env) 400:=by
 refine⟨rfl,?_,?_⟩
 .show 1+claimMargin+1+400+5<recursionLimit
  decide
 .show 4+3+ 16*400+400<cLine
  decide
section
variable{w:dg}{aZ an:aJ}{dL:aG}{tk:Nat}{mg mb m:Str->Option ao}{name:Str}{a:az}{cd:ao}{ax:az}{vs:List ao}{ns:List Int}{p:eE}{loose:List Str}{apj:ExcName->Option ao}
theorem ahC(hg:an.gens= #[])(h:(∀b o,an.heap.get? b=some o->s'.heap.get? b=some o)/\s'.os=an.os/\s'.gens=an.gens):
 GoodW PySem.Challenge.rw_pq0116_02.row.claim (classAt aZ.heap) (abn aZ.heap) [ofPy (jW (z9 kG ns))] an (aeJ (Tn (.bool true))) s':=by
 refine cj h λO h3 h4=>fb (.inl (Ec (.bool true) (.bool true) ([]) rfl (λzz=>rfl) (.bool true) ?_ (λzz=>⟨Ha,by simp⟩))) O h3 (h4.trans hg)
 kernel_rfl
theorem ai0(runs:LZ)(V:body=iG (cO w.params) 248)(bg:sc=gr (cO w.params) 248)(KX:(cO w.params).In an.heap)(T:Top p loose apj mg mb an.heap)(hg:an.gens= #[])(F:Fr an.heap an.heap.objs.size dL m)(hm:m (bl "script")=some (.ref ax))(hl:an.heap.IsList ax vs.toArray)(hI:ER vs ns)
 (br:¬(63:Int)<(ns.length:Int)) {E:VS}:
 wpAny (model PySem.Challenge.rw_pq0116_02.row.prog w) (callerA.deeper env) (execs body (envOf name sc an.heap.objs.size a cd))
  (λf s'=>GoodW PySem.Challenge.rw_pq0116_02.row.claim (classAt aZ.heap) (abn aZ.heap) [ofPy (jW (z9 kG ns))] an (aeJ (Tn (match f with|Tn v=>v|x=>ju))) s') E
  {heap:=dL,gens:=an.gens,drawn:=an.drawn,toks:=tk,os:=an.os}:=by
 exact cP (runs ns (kw λq=>(by assumption:¬_) (mr (a:= 63) q))) λcs av hc hr=>cn (aek (cs:=cs) (av:=av) V bg KX (afK KX T.g T.b T.nolimit T.builtins hl hI) (ahB env) F hm hl hI hc hr) (λfl s' q=>by refine xa q λBv h=>?_;clear q;subst Bv;exact ahC hg h) λzz zz f=>f.elim
end
end bh
namespace bh
open PySem
inductive Tm where
 |node (o:Str) (ks:List Tm)
namespace Tm
noncomputable def op:Tm->Str| .node o _=>o
noncomputable def ks:Tm->List Tm| .node _ l=>l
end Tm
open Tm
section
variable{P:Tm->Prop}(h:∀o l,(∀k∈l,P k)->P (.node o l))
include h
mutual
theorem cU:∀t,P t
 | .node o l=>h o l (Vb l)
theorem Vb:∀l:List Tm,∀k∈l,P k
 |[],_,e=>nomatch e
 |y::l,k,e=>by
  rcases bK.mp e with q|q
  .exact q▸cU y
  .exact Vb l k q
end
end
mutual
noncomputable def sz:Tm->Nat
 | .node _ l=>bG l+1
noncomputable def bG:List Tm->Nat
 |[]=>0
 |t::l=>sz t+bG l
end
theorem dA{o ks}:sz (Tm.node o ks)=bG ks+1:=rfl
theorem oA:bG []=0:=rfl
theorem cT{t l}:bG (t::l)=sz t+bG l:=rfl
mutual
noncomputable def lv:Tm->Nat
 | .node _ l=>match l with
   |[]=>1
   |t::r=>lv t+cR r
noncomputable def cR:List Tm->Nat
 |[]=>0
 |t::l=>lv t+cR l
end
theorem xC{o}:lv (Tm.node o [])=1:=rfl
theorem Ez{o t l}:lv (Tm.node o (t::l))=lv t+cR l:=rfl
theorem xt:cR []=0:=rfl
theorem eC{t l}:cR (t::l)=lv t+cR l:=rfl
mutual
noncomputable def dp:Tm->Nat
 | .node _ l=>fe l+1
noncomputable def fe:List Tm->Nat
 |[]=>0
 |t::l=>max (dp t) (fe l)
end
theorem kK{o ks}:dp (Tm.node o ks)=fe ks+1:=rfl
theorem zU:fe []=0:=rfl
theorem ik{t l}:fe (t::l)=Max.max (dp t) (fe l):=rfl
mutual
noncomputable def af:Tm->ah
 | .node o l=> .tuple (.str o::tZ l)
noncomputable def tZ:List Tm->List ah
 |[]=>[]
 |t::l=>af t::tZ l
end
theorem iD{o ks}:af (Tm.node o ks)=sL (eB o::tZ ks):=rfl
theorem Ra{t l}:tZ (t::l)=af t::tZ l:=rfl
theorem jw:∀l,tZ l=l.map af
 |[]=>rfl
 |t::l=>by rw[Ra,jw l];rfl
mutual
noncomputable def pre:Tm->List Tm
 | .node o l=> .node o l::jk l
noncomputable def jk:List Tm->List Tm
 |[]=>[]
 |t::l=>pre t++jk l
end
theorem fH{o ks}:pre (Tm.node o ks)=Tm.node o ks::jk ks:=rfl
theorem xl:jk []=[]:=rfl
theorem mN{t l}:jk (t::l)=pre t++jk l:=rfl
theorem jd:∀l,jk l=l.flatMap pre
 |[]=>rfl
 |t::l=>by rw[mN,jd l];rfl
theorem uR:∀{l:List Tm} {k:Tm},k∈l->sz k<=bG l
 |t::l,k,h=>by
  rw[cT]
  rcases bK.mp h with rfl|h
  .exact aM [] (B,J B v1) rfl
  .have:=uR h;exact Mn this
theorem l9(t:Tm):1<=sz t:=by cases t;rw[dA];exact uc
theorem j0(h:k∈l):sz k<sz (.node o l):=by
 rw[dA];have:=uR h;exact vU this
section
variable(aa:List Str)
noncomputable def dG(o:Str)(l:List Tm):Bool:=aa.contains o && decide (2<=l.length)
def bA(t:Tm):Bool:=dG aa t.op t.ks
mutual
def rE(o:Str):Tm->List Tm
 | .node o' l=>if o'=o/\dG aa o' l=true then xV o l else[.node o' l]
def xV(o:Str):List Tm->List Tm
 |[]=>[]
 |t::l=>rE o t++xV o l
end
theorem ac5{aa o Gp ks}:rE aa o (Tm.node Gp ks)=if Gp=o/\dG aa Gp ks=true then xV aa o ks else[Tm.node Gp ks]:=rfl
theorem ab3{aa o t l}:xV aa o (t::l)=rE aa o t++xV aa o l:=rfl
theorem Rb(o:Str):∀l,xV aa o l=l.flatMap (rE aa o)
 |[]=>rfl
 |t::l=>by rw[ab3,Rb o l];rfl
def m7(t:Tm):ah:= .tuple [.int ((pre t).length:Int), .tuple ((pre t).map λp=> .str p.op), .tuple ((pre t).map λp=> .int (p.ks.length:Int))]
def pairD(t:Tm):ah:= .tuple [m7 t,af t]
def t6(x:Tm):List Tm->List Tm
 |[]=>[x]
 |y::l=>if cD (pairD x) (pairD y)= .gt then y::t6 x l else x::y::l
theorem H9{x t l}:t6 x (t::l)=if cD (pairD x) (pairD t)=Hz then t::t6 x l else x::t::l:=rfl
def cK:List Tm->List Tm
 |[]=>[]
 |x::l=>t6 x (cK l)
theorem Qo{t l}:cK (t::l)=t6 t (cK l):=rfl
theorem SF(x:Tm):∀l,rN (pairD x) (l.map pairD)=(t6 x l).map pairD
 |[]=>rfl
 |y::l=>by
  rw[bE,DW,H9]
  split
  .exact Y bE<|Y (SF x l) rfl
  .rfl
theorem H':∀l:List Tm,gf (l.map pairD)=(cK l).map pairD
 |[]=>rfl
 |x::l=>by rw[bE,Qb,H' l,SF,Qo]
theorem Rc(x:Tm):∀l,(t6 x l).Perm (x::l)
 |[]=> .refl _
 |y::l=>by
  rw[H9]
  split
  .exact((Rc x l).cons y).trans (.swap x y l)
  .exact .refl _
theorem gW:∀l,(cK l).Perm l
 |[]=> .refl _
 |x::l=>(Rc x _).trans ((gW l).cons x)
def made(o:Str)(l:List Tm):Tm:=match cK (l.flatMap (rE aa o)) with
 |[x]=>x
 |r=> .node o r
mutual
def normal:Tm->Tm
 | .node o l=>if dG aa o l=true then made aa o (tq l) else .node o (tq l)
def tq:List Tm->List Tm
 |[]=>[]
 |t::l=>normal t::tq l
end
theorem Hq{aa o ks}:normal aa (Tm.node o ks)=if dG aa o ks=true then made aa o (tq aa ks) else Tm.node o (tq aa ks):=rfl
theorem abB{aa t l}:tq aa (t::l)=normal aa t::tq aa l:=rfl
theorem DN:∀l,tq aa l=l.map (normal aa)
 |[]=>rfl
 |t::l=>by rw[abB,DN l];rfl
noncomputable def iq(o:Str):List Tm->Tm
 |[]=> .node o []
 |[x]=>x
 |x::y::l=> .node o [x,iq o (y::l)]
theorem DO{o dv}:iq o [dv]=dv:=rfl
theorem HL{o dv y l}:iq o (dv::y::l)=Tm.node o [dv,iq o (y::l)]:=rfl
mutual
def nested:Tm->Tm
 | .node o l=>if dG aa o l=true then iq o (tu l) else .node o (tu l)
def tu:List Tm->List Tm
 |[]=>[]
 |t::l=>nested t::tu l
end
theorem PH{aa o ks}:nested aa (Tm.node o ks)=if dG aa o ks=true then iq o (tu aa ks) else Tm.node o (tu aa ks):=rfl
theorem abC{aa t l}:tu aa (t::l)=nested aa t::tu aa l:=rfl
theorem HM:∀l,tu aa l=l.map (nested aa)
 |[]=>rfl
 |t::l=>by rw[abC,HM l];rfl
mutual
def ff:Tm->List Tm
 | .node o l=>if dG aa o l=true then yg o l else[.node o l]
def yg(o:Str):List Tm->List Tm
 |[]=>[]
 |t::l=>(if t.op=o then ff t else[t])++yg o l
end
theorem Ia{aa o ks}:ff aa (Tm.node o ks)=if dG aa o ks=true then yg aa o ks else[Tm.node o ks]:=rfl
theorem ac6{aa o t l}:yg aa o (t::l)=(if Tm.op t=o then ff aa t else[t])++yg aa o l:=rfl
def sel(o:Str)(t:Tm):List Tm:=if t.op=o then ff aa t else[t]
theorem IL(o:Str):∀l,yg aa o l=l.flatMap (sel aa o)
 |[]=>rfl
 |t::l=>by rw[ac6,IL o l];rfl
theorem oC(h:bA aa t=true):ff aa t=t.ks.flatMap (sel aa t.op):=by
 cases t with|node o l=>
 rw[Ia,if_pos (show dG aa o l=true from h),IL];rfl
theorem afM(h:¬bA aa t=true):ff aa t=[t]:=by
 cases t with|node o l=>
 rw[Ia,if_neg (show ¬dG aa o l=true from h)]
theorem kL(h:dG aa o l=true):sel aa o (.node o l)=l.flatMap (sel aa o):=by
 show(if o=o then ff aa (.node o l) else _)=_
 exact Y (if_pos rfl)<|oC aa h
theorem Rd(o:Str)(t:Tm):rE aa o t=sel aa o t:=by
 induction t using cU with
 |_ o' l ih=>
  rw[ac5]
  unfold sel
  rw[Ia]
  by_cases H:o'=o
  .subst H
   refine Y (if_pos (show(Tm.node o' l).op=o' from rfl)) ?_
   by_cases O:dG aa o' l=true
   .rw[if_pos ⟨rfl,O⟩,if_pos O,Rb,IL]
    have:∀r:List Tm,(∀k∈r,k∈l)->r.flatMap (rE aa o')=r.flatMap (sel aa o'):=by
     intro r
     induction r with
     |nil=>intro _;rfl
     |cons x r wD=>
      intro hr
      exact Y eK<|Y eK<|Y (ih x (hr x (.head _)))<|Y (wD λk hk=>hr k (.tail _ hk)) rfl
    exact this l λzz h=>h
   .rw[if_neg (λh=>O h.2),if_neg O]
  .rw[if_neg λh=>H h.1,if_neg (show ¬(Tm.node o' l).op=o from H)]
def dq(o:Str)(t:Tm):Prop:=t.op=o->¬bA aa t=true
theorem im(h:dq aa o t):sel aa o t=[t]:=by
 unfold sel
 split
 .rename_i e;exact afM aa (h e)
 .rfl
theorem EA(o:Str)(t:Tm):∀x∈sel aa o t,dq aa o x:=by
 induction t using cU with
 |_ o' l ih=>
  intro x hx
  by_cases H:o'=o
  .subst H
   by_cases O:dG aa o' l=true
   .have e:=kL aa (show dG aa o' l=true from O)
    rw[e] at hx
    obtain⟨k,hk,hx⟩:=jr.mp hx
    exact ih k hk x hx
   .have:dq aa o' (.node o' l):=λzz=>O
    rw[im aa this] at hx
    exact Y (bY.mp hx)<|this
  .have:dq aa o (.node o' l):=λe=>absurd e H
   rw[im aa this] at hx
   exact Y (bY.mp hx)<|this
theorem SG(h:bA aa t=true)(hx:x∈ff aa t):dq aa t.op x:=by
 rw[oC aa h] at hx
 obtain⟨k,_,hx⟩:=jr.mp hx
 exact EA aa _ k x hx
theorem AC(o:Str)(t:Tm):∀x∈sel aa o t,sz x<=sz t:=by
 induction t using cU with
 |_ o' l ih=>
  intro x hx
  by_cases h:dq aa o (.node o' l)
  .rw[im aa h] at hx
   exact Y (bY.mp hx)<|a8 _
  .unfold dq at h
   simp only[pI,pJ] at h
   obtain⟨H,O⟩:=h
   have H:o'=o:=H
   subst H
   have e:=kL aa (show dG aa o' l=true from O)
   rw[e] at hx
   obtain⟨k,hk,hx⟩:=jr.mp hx
   have:=ih k hk x hx
   have:=j0 (o:=o') hk
   (rename_i aY;exact aO [(J B k1,v1),(v2,B)] (v2,v1) rfl this aY)
theorem qf(h:bA aa t=true)(hx:x∈ff aa t):sz x<sz t:=by
 rw[oC aa h] at hx
 obtain⟨k,hk,hx⟩:=jr.mp hx
 have:=AC aa _ k x hx
 cases t with|node o l=>
 have h3:sz k<sz (.node o l):=j0 hk
 exact FI h3 this
theorem E6(o:Str)(t:Tm):1<=(sel aa o t).length:=by
 induction t using cU with
 |_ o' l ih=>
  by_cases h:dq aa o (.node o' l)
  .exact Y (im aa h)<|a8 _
  .unfold dq at h
   simp only[pI,pJ] at h
   obtain⟨H,O⟩:=h
   have H:o'=o:=H
   subst H
   have e:=kL aa (show dG aa o' l=true from O)
   refine Y e ?_
   match l,O,ih with
   |[],O,_=>simp[bA,dG,Tm.ks] at O
   |k::r,_,ih=>
    refine Y eK<|Y cS ?_
    have:=ih k (.head _)
    exact FN this
theorem Hr{f:Tm->List Tm}(hf:∀x,1<=(f x).length):∀l:List Tm,l.length<=(l.flatMap f).length
 |[]=>a8 _
 |x::l=>by
  refine Y eK<|Y cS<|Y bL ?_
  have:=hf x
  have:=Hr hf l
  (rename_i aY;exact Mo this aY)
theorem lx(h:bA aa t=true):2<=t.ks.length:=by
 unfold bA dG at h
 simp only[cm,decide_eq_true_eq] at h
 exact h.2
theorem IM(h:bA aa t=true):2<=(ff aa t).length:=by
 refine Y (oC aa h) ?_
 have:=Hr (E6 aa t.op) t.ks
 have:=lx aa h
 (rename_i aY;exact aM [((.num 2),B),(B,v1)] ((.num 2),v1) rfl this aY)
end
end bh
namespace bh
open PySem
open Tm
section
variable{α:Type}(e:α->ah)
def t7(x:α):List α->List α
 |[]=>[x]
 |y::l=>if cD (e x) (e y)= .gt then y::t7 x l else x::y::l
theorem Ib{x y l}:t7 e x (y::l)=if cD (e x) (e y)=Hz then y::t7 e x l else x::y::l:=rfl
def qz:List α->List α
 |[]=>[]
 |x::l=>t7 e x (qz l)
theorem Qp{y l}:qz e (y::l)=t7 e y (qz e l):=rfl
theorem SH(x:α):∀l,rN (e x) (l.map e)=(t7 e x l).map e
 |[]=>rfl
 |y::l=>by
  rw[bE,DW,Ib]
  split
  .exact Y bE<|Y (SH x l) rfl
  .rfl
theorem zI:∀l:List α,gf (l.map e)=(qz e l).map e
 |[]=>rfl
 |x::l=>by rw[bE,Qb,zI l,SH,Qp]
theorem Re(x:α):∀l,(t7 e x l).Perm (x::l)
 |[]=> .refl _
 |y::l=>by
  rw[Ib]
  split
  .exact((Re x l).cons y).trans (.swap x y l)
  .exact .refl _
theorem qV:∀l,(qz e l).Perm l
 |[]=> .refl _
 |x::l=>(Re e x _).trans ((qV l).cons x)
theorem map_inj:∀{l r:List α},(∀x∈l,∀y∈r,f x=f y->x=y)->l.map f=r.map f->l=r
 |[],[],_,_=>rfl
 |[],_::_,_,h=>by simp at h
 |_::_,[],_,h=>by simp at h
 |x::l,y::r,h,q=>by
  simp only[bE,gT] at q
  exact Y (h x (.head _) y (.head _) q.1)<|Y (map_inj (λa ha b V=>h a (.tail _ ha) b (.tail _ V)) q.2) rfl
theorem PJ(hg:∀x∈l,gd (e x)=true)(hi:∀x∈l,∀y∈r,e x=e y->x=y)(p:l.Perm r):qz e l=qz e r:=by
 have g1:∀y∈l.map e,gd y=true:=λy hy=>by
  refine cr hy λx hx vG=>?_;clear hy;subst vG;exact hg x hx
 have g2:∀y∈r.map e,gd y=true:=λy hy=>by
  refine cr hy λx hx j4=>?_;clear hy;subst j4;exact hg x (p.mem_iff.mpr hx)
 have:gf (l.map e)=gf (r.map e):=
  xf (λy hy=>g1 y ((mK _).mem_iff.mp hy)) ((mK _).trans ((p.map e).trans (mK _).symm)) (sV g1) (sV g2)
 rw[zI,zI] at this
 exact map_inj (λx hx y hy=>hi x ((qV e l).mem_iff.mp hx) y ((qV e r).mem_iff.mp hy)) this
end
theorem SJ:∀l,cK l=qz pairD l:=by
 have H:∀x l,t6 x l=t7 pairD x l:=by
  intro x l
  induction l with
  |nil=>rfl
  |cons y l ih=>rw[H9,Ib,ih]
 intro l
 induction l with
 |nil=>rfl
 |cons x l ih=>rw[Qo,Qp,ih,H]
theorem u9(t:Tm):gd (af t)=true:=by
 induction t using cU with
 |_ o l ih=>
  rw[iD,jw]
  have:∀r:List Tm,(∀k∈r,gd (af k)=true)->fx (r.map af)=true:=by
   intro r
   induction r with
   |nil=>intro _;rfl
   |cons x r wD=>
    intro h
    rw[bE,pW,h x (.head _),wD λk hk=>h k (.tail _ hk)];rfl
  simp only[gd,fx,this l ih,Pj]
theorem tv:∀{l:List α},(∀k∈l,gd (f k)=true)->fx (l.map f)=true
 |[],_=>rfl
 |x::r,h=>by rw[bE,pW,h x (.head _),tv λk hk=>h k (.tail _ hk)];rfl
theorem Jk(t:Tm):∀u,af t=af u->t=u:=by
 induction t using cU with
 |_ o l ih=>
  intro u h
  cases u with|node o' l'=>
  rw[iD,iD,jw,jw] at h
  simp only[ze,gT,aaL] at h
  exact Y h.1<|Y (map_inj (λx hx y zz=>ih x hx y) h.2) rfl
theorem T5(t:Tm):gd (m7 t)=true:=by
 unfold m7
 simp only[gd,fx,DA,Pj]
 rw[tv λzz zz=>rfl,tv λzz zz=>rfl];rfl
theorem SL(t:Tm):gd (pairD t)=true:=by
 unfold pairD
 simp only[gd,fx,T5,u9,DA]
theorem ael(h:pairD t=pairD u):t=u:=by
 unfold pairD at h
 simp only[ze,gT,and_true] at h
 exact Jk t u h.2
theorem xc(p:l.Perm r):cK l=cK r:=by
 exact Y (SJ _)<|Y (SJ _)<|PJ pairD (λx zz=>SL x) (λx zz y zz h=>ael h) p
theorem iW(t:Tm):t∈pre t:=by cases t;rw[fH];exact .head _
theorem ly(hk:k∈l)(hp:p∈pre k):p∈pre (.node o l):=by
 rw[fH,jd];exact .tail _ (jr.mpr (ai k hk hp))
section
variable(aa:List Str)
theorem EB(o:Str)(t:Tm):∀x∈sel aa o t,∀p∈pre x,p∈pre t:=by
 induction t using cU with
 |_ o' l ih=>
  intro x hx p hp
  by_cases h:dq aa o (.node o' l)
  .rw[im aa h] at hx
   rw[bY.mp hx] at hp;exact hp
  .unfold dq at h
   simp only[pI,pJ] at h
   refine xa h λH O=>?_
   have H:o'=o:=H
   subst H
   rw[kL aa (show dG aa o' l=true from O)] at hx
   exact fD hx λk hk hx=>ly hk (ih k hk x hx p hp)
theorem SM(h:bA aa t=true)(hx:x∈ff aa t):∀p∈pre x,p∈pre t:=λp hp=>by
 rw[oC aa h] at hx
 refine fD hx λk hk hx=>?_
 cases t with|node o l=>
 exact ly hk (EB aa _ k x hx p hp)
theorem tB{P:Tm->Prop}(h:∀t,(∀x,sz x<sz t->P x)->P t)(t:Tm):P t:=by
 have:∀n,∀t,sz t<=n->P t:=by
  intro n
  induction n with
  |zero=>intro t ht;have:=l9 t;exact(nz (be [(k1,B),(B,k0)] (k1,k0) rfl this ht)).elim
  |succ n ih=>intro t ht;exact h t λx hx=>ih x (ub hx ht)
 exact this _ t (a8 _)
theorem vM(h:k∈t.ks):sz k<sz t:=by cases t with|node o l=>exact j0 h
theorem ahD(h:2<=l.length):made aa o l= .node o (cK (l.flatMap (sel aa o)))/\2<=(cK (l.flatMap (sel aa o))).length:=by
 have e:l.flatMap (rE aa o)=l.flatMap (sel aa o):=by
  congr 1;funext t;exact Rd aa o t
 have hl:2<=(cK (l.flatMap (sel aa o))).length:=by
  refine Y ((gW _).length_eq) ?_
  have:=Hr (E6 aa o) l
  exact aM [(B,v1),((.num 2),B)] ((.num 2),v1) rfl this h
 refine⟨?_,hl⟩
 unfold made
 refine Y e ?_
 generalize cK (l.flatMap (sel aa o))=r at*
 match r,hl with
 |_::_::_,_=>rfl
theorem zC(h:bA aa t=true):normal aa t= .node t.op (cK ((t.ks.map (normal aa)).flatMap (sel aa t.op)))/\2<=(cK ((t.ks.map (normal aa)).flatMap (sel aa t.op))).length:=by
 cases t with|node o l=>
 have:=ahD aa (o:=o) (l:=l.map (normal aa)) (Y (aw _)<|lx aa h)
 rw[Hq,if_pos (show dG aa o l=true from h),DN]
 exact this
theorem jt(h:¬bA aa t=true):normal aa t= .node t.op (t.ks.map (normal aa)):=by
 cases t with|node o l=>
 rw[Hq,if_neg (show ¬dG aa o l=true from h),DN];rfl
theorem xm(t:Tm):(normal aa t).op=t.op:=by
 by_cases h:bA aa t=true
 .refine Y ((zC aa h).1) ?_;rfl
 .refine Y (jt aa h) ?_;rfl
theorem gv:bA aa t=true↔aa.contains t.op=true/\2<=t.ks.length:=by
 unfold bA dG;simp only[cm,decide_eq_true_eq]
theorem xd(t:Tm):bA aa (normal aa t)=true↔bA aa t=true:=by
 by_cases h:bA aa t=true
 .have h':=(gv aa).mp h
  refine xa (zC aa h) λe hl=>⟨λzz=>h,λzz=>(gv aa).mpr ⟨by rw[xm];exact h'.1,?_⟩⟩
  rw[e];exact hl
 .rw[gv,gv,xm]
  have:(normal aa t).ks.length=t.ks.length:=by rw[jt aa h];show(t.ks.map _).length=_;rw[aw]
  rw[this]
theorem Dx(h:dq aa o t):dq aa o (normal aa t):=λe b=>h (sl (xm aa t)<|e) ((xd aa t).mp b)
theorem DB{h:Tm->Tm}:∀{l:List Tm},(∀k∈l,(f (h k)).Perm ((g k).map h))->((l.map h).flatMap f).Perm ((l.flatMap g).map h)
 |[],_=> .refl _
 |k::l,p=>by
  exact Y bE<|Y eK<|Y eK<|Y fk<|(p k (.head _)).append (DB λx hx=>p x (.tail _ hx))
theorem Qq(o:Str)(t:Tm):(sel aa o (normal aa t)).Perm ((sel aa o t).map (normal aa)):=by
 induction t using cU with
 |_ o' l ih=>
  by_cases h:dq aa o (.node o' l)
  .exact Y (im aa h)<|Y (im aa (Dx aa h))<| .refl _
  .unfold dq at h
   simp only[pI,pJ] at h
   refine xa h λH O=>?_
   have H:o'=o:=H
   subst H
   refine xa (zC aa O) λe hl=>?_
   have p:(cK ((l.map (normal aa)).flatMap (sel aa o'))).Perm ((l.flatMap (sel aa o')).map (normal aa)):=(gW _).trans (DB λk hk=>ih k hk)
   refine Y (kL aa (show dG aa o' l=true from O)) ?_
   have V:=(xd aa (.node o' l)).mpr O
   rw[e] at V⊢
   have e2:sel aa o' (.node o' (cK ((l.map (normal aa)).flatMap (sel aa o'))))=(cK ((l.map (normal aa)).flatMap (sel aa o'))).flatMap (sel aa o'):=kL aa V
   refine List.Perm.trans ?_ p
   show(sel aa o' (.node o' (cK ((l.map (normal aa)).flatMap (sel aa o'))))).Perm (cK ((l.map (normal aa)).flatMap (sel aa o')))
   refine Y e2 ?_
   have:∀r:List Tm,(∀x∈r,dq aa o' x)->r.flatMap (sel aa o')=r:=by
    intro r
    induction r with
    |nil=>intro _;rfl
    |cons x r wD=>
     intro hr
     refine Y eK<|Y (im aa (hr x (.head _)))<|Y (wD λk hk=>hr k (.tail _ hk)) ?_;rfl
   rw[this]
   intro x hx
   have hx:=p.mem_iff.mp hx
   refine cr hx λy hy L0=>?_;clear hx;subst L0
   exact fD hy λk hk hy=>Dx aa (EA aa o' k y hy)
theorem lY(h:bA aa t=true):normal aa t= .node t.op (cK ((ff aa t).map (normal aa))):=by
 refine Y ((zC aa h).1) ?_
 congr 1
 exact xc<|Y (oC aa h)<|DB λk hk=>Qq aa t.op k
theorem PK(h:bA aa t=true):ff aa (normal aa t)=cK ((ff aa t).map (normal aa)):=by
 have V:=(xd aa t).mpr h
 refine Y (oC aa V)<|Y (lY aa h) ?_
 show(cK ((ff aa t).map (normal aa))).flatMap (sel aa t.op)=_
 have:∀r:List Tm,(∀x∈r,dq aa t.op x)->r.flatMap (sel aa t.op)=r:=by
  intro r
  induction r with
  |nil=>intro _;rfl
  |cons x r wD=>
   intro hr
   refine Y eK<|Y (im aa (hr x (.head _)))<|Y (wD λk hk=>hr k (.tail _ hk)) ?_;rfl
 refine this _ λx hx=>cr (((gW _).mem_iff.mp hx)) λy hy apk=>?_;clear hx;subst apk
 exact Dx aa (SG aa h hy)
theorem SN:∀{l:List Tm},2<=l.length->(iq o l).op=o/\(iq o l).ks.length=2
 |[],h=>by simp at h
 |[_],h=>by simp at h
 |x::y::l,_=>⟨rfl,rfl⟩
theorem xh(h:bA aa t=true):nested aa t=iq t.op (t.ks.map (nested aa)):=by
 cases t with|node o l=>
 rw[PH,if_pos (show dG aa o l=true from h),HM];rfl
theorem xi(h:¬bA aa t=true):nested aa t= .node t.op (t.ks.map (nested aa)):=by
 cases t with|node o l=>
 rw[PH,if_neg (show ¬dG aa o l=true from h),HM];rfl
theorem xn(t:Tm):(nested aa t).op=t.op:=by
 by_cases h:bA aa t=true
 .exact Y (xh aa h)<|(SN (Y (aw _)<|lx aa h)).1
 .refine Y (xi aa h) ?_;rfl
theorem Hs(t:Tm):bA aa (nested aa t)=true↔bA aa t=true:=by
 by_cases h:bA aa t=true
 .have h':=(gv aa).mp h
  refine⟨λzz=>h,λzz=>(gv aa).mpr ⟨by rw[xn];exact h'.1,?_⟩⟩
  rw[xh aa h,(SN (by rw[aw];exact lx aa h)).2]
  exact a8 _
 .rw[gv,gv,xn]
  have:(nested aa t).ks.length=t.ks.length:=by rw[xi aa h];show(t.ks.map _).length=_;rw[aw]
  rw[this]
theorem abf(h:dq aa o t):dq aa o (nested aa t):=λe b=>h (sl (xn aa t)<|e) ((Hs aa t).mp b)
theorem Qr(ho:aa.contains o=true):∀{l:List Tm},1<=l.length->sel aa o (iq o l)=l.flatMap (sel aa o)
 |[],h=>by simp at h
 |[x],_=>by rw[DO,eK];simp
 |x::y::l,_=>by
  rw[HL,kL aa (show dG aa o [x,iq o (y::l)]=true from by unfold dG;refine Y ho ?_;rfl),eK,eK,Qr ho (by simp),uD,gU]
  rfl
theorem flatMap_map{h:Tm->Tm}:∀{l:List Tm},(∀k∈l,f (h k)=(g k).map h)->(l.map h).flatMap f=(l.flatMap g).map h
 |[],_=>rfl
 |k::l,p=>by exact Y bE<|Y eK<|Y eK<|Y fk<|Y (p k (.head _))<|Y (flatMap_map λx hx=>p x (.tail _ hx)) rfl
theorem ac7(o:Str)(t:Tm):sel aa o (nested aa t)=(sel aa o t).map (nested aa):=by
 induction t using cU with
 |_ o' l ih=>
  by_cases h:dq aa o (.node o' l)
  .refine Y (im aa h)<|Y (im aa (abf aa h)) ?_;rfl
  .unfold dq at h
   simp only[pI,pJ] at h
   refine xa h λH O=>?_
   have H:o'=o:=H
   subst H
   have h3:=(gv aa).mp O
   refine Y (kL aa (show dG aa o' l=true from O))<|Y (xh aa O) ?_
   show sel aa o' (iq o' (l.map (nested aa)))=_
   rw[Qr aa (o:=o') h3.1 (by exact Y (aw _)<|aB (by decide) h3.2)]
   exact flatMap_map λk hk=>ih k hk
theorem ab4(h:bA aa t=true):ff aa (nested aa t)=(ff aa t).map (nested aa):=by
 have e:=ac7 aa t.op t
 unfold sel at e
 rw[if_pos (xn aa t),if_pos rfl] at e
 exact e
theorem Ht(ht:bA aa t=true)(hu:bA aa u=true)(e:t.op=u.op)(p:((ff aa t).map (normal aa)).Perm ((ff aa u).map (normal aa))):normal aa t=normal aa u:=by
 exact Y (lY aa ht)<|Y (lY aa hu)<|Y e<|Y (xc p) rfl
theorem ab5(t:Tm):normal aa (normal aa t)=normal aa t:=by
 induction t using tB with
 |h t ih=>
  by_cases V:bA aa t=true
  .refine Ht aa ((xd aa t).mpr V) V (xm aa t)<|Y (PK aa V)<|((gW _).map _).trans (.of_eq ?_)
   exact Y dW<|mG λx hx=>ih x (qf aa V hx)
  .refine Y (jt aa (λh=>V ((xd aa t).mp h)))<|Y (xm _ _)<|Y (jt aa V) ?_
   show Tm.node t.op ((t.ks.map (normal aa)).map (normal aa))=_
   refine Y dW ?_
   congr 1
   exact mG λx hx=>ih x (vM hx)
theorem abg(t:Tm):normal aa (nested aa t)=normal aa t:=by
 induction t using tB with
 |h t ih=>
  by_cases V:bA aa t=true
  .exact Ht aa ((Hs aa t).mpr V) V (xn aa t)<|Y (ab4 aa V)<|Y dW<| .of_eq (mG λx hx=>ih x (qf aa V hx))
  .refine Y (jt aa (λh=>V ((Hs aa t).mp h)))<|Y (jt aa V)<|Y (xn _ _)<|Y (xi aa V) ?_
   show Tm.node t.op ((t.ks.map (nested aa)).map (normal aa))=_
   refine Y dW ?_
   congr 1
   exact mG λx hx=>ih x (vM hx)
mutual
noncomputable def gA:Tm->Tm
 | .node o l=> .node o (if aa.contains o=true then(je l).reverse else je l)
noncomputable def je:List Tm->List Tm
 |[]=>[]
 |t::l=>gA t::je l
end
theorem DJ{aa o l}:gA aa (Tm.node o l)=Tm.node o (if List.contains aa o=true then List.reverse (je aa l) else je aa l):=rfl
theorem abD{aa t l}:je aa (t::l)=gA aa t::je aa l:=rfl
theorem zD:∀l,je aa l=l.map (gA aa)
 |[]=>rfl
 |t::l=>by rw[abD,zD l];rfl
theorem uJ(t:Tm):(gA aa t).op=t.op:=by cases t;rw[DJ];rfl
theorem Hu(t:Tm):(gA aa t).ks.Perm (t.ks.map (gA aa)):=by
 cases t with|node o l=>
 rw[DJ,zD]
 show(if _ then _ else _:List Tm).Perm (l.map _)
 split
 .exact List.reverse_perm _
 .exact .refl _
theorem DK(t:Tm):bA aa (gA aa t)=true↔bA aa t=true:=by
 rw[gv,gv,uJ,(Hu aa t).length_eq,aw]
theorem abh(h:dq aa o t):dq aa o (gA aa t):=λe b=>h (sl (uJ aa t)<|e) ((DK aa t).mp b)
theorem ac8(o:Str)(t:Tm):(sel aa o (gA aa t)).Perm ((sel aa o t).map (gA aa)):=by
 induction t using cU with
 |_ o' l ih=>
  by_cases h:dq aa o (.node o' l)
  .exact Y (im aa h)<|Y (im aa (abh aa h))<| .refl _
  .unfold dq at h
   simp only[pI,pJ] at h
   refine xa h λH O=>?_
   have H:o'=o:=H
   subst H
   have p:=Hu aa (.node o' l)
   have V:=(DK aa (.node o' l)).mpr O
   have e:=uJ aa (.node o' l)
   refine Y (kL aa (show dG aa o' l=true from O)) ?_
   generalize gA aa (.node o' l)=u at p V e
   clear O h H;cases u with|node o2 l2=>
   have e:o2=o':=e
   subst e
   exact Y (kL aa (show dG aa o2 l2=true from V))<|(Zy _ p).trans (DB λk hk=>ih k hk)
theorem abi(t:Tm):normal aa (gA aa t)=normal aa t:=by
 induction t using tB with
 |h t ih=>
  by_cases V:bA aa t=true
  .refine Ht aa ((DK aa t).mpr V) V (uJ aa t) ?_
   have e:=ac8 aa t.op t
   unfold sel at e
   rw[if_pos (uJ aa t),if_pos rfl] at e
   refine(e.map _).trans (.of_eq ?_)
   exact Y dW<|mG λx hx=>ih x (qf aa V hx)
  .refine Y (jt aa (λh=>V ((DK aa t).mp h)))<|Y (jt aa V)<|Y (uJ _ _) ?_
   have e:(gA aa t).ks=t.ks.map (gA aa):=by
    cases t with|node o l=>
    rw[DJ,zD]
    show(if _ then _ else _:List Tm)=l.map _
    split
    .rename_i hc
     have:¬ 2<=l.length:=λO=>V ((gv aa).mpr ⟨hc,O⟩)
     match l,this with
     |[],_=>rfl
     |[_],_=>rfl
     |_::_::_,h=>exact absurd (by simp) h
    .rfl
   refine Y e<|Y dW ?_
   congr 1
   exact mG λx hx=>ih x (vM hx)
end
noncomputable def al:List Str:=[bl "+",bl "*",bl "f",bl "a",bl "b",bl "?x",bl "?y"]
def dZ(t:Tm):Prop:=∀p∈pre t,p.op∈al
theorem vb:∀o∈al,sN o=true:=by
 have:al.all (λo=>sN o)=true:=by decide+kernel
 exact hU.mp this
theorem dZ.ez(g:dZ (.node o l))(hk:k∈l):dZ k:=λp hp=>g p (ly hk hp)
theorem dZ.op(g:dZ t):t.op∈al:=g t (iW t)
theorem oq:∀{l:List α},(∀x∈l,(f x).depth<=n)->eM (l.map f)<=n
 |[],_=>dn _
 |x::l,h=>by
  rw[bE,eM]
  have:=h x (.head _)
  have:=oq λy hy=>h y (.tail _ hy)
  (rename_i aY;exact(eN _ _).elim (λeh=>ph aY (fN eh)) λeh=>ph this (fY eh))
theorem xD:∀{l:List Tm} {k:Tm},k∈l->dp k<=fe l
 |t::l,k,h=>by
  rw[ik]
  rcases bK.mp h with rfl|h
  .exact mI _ _
  .have:=xD h;exact FF this (oo _ _)
theorem uK(t:Tm):(af t).depth<=dp t:=by
 induction t using cU with
 |_ o l ih=>
  rw[iD,jw,gV,eM,kK]
  have:=oq λx hx=>aB (ih x hx) (xD hx)
  have:gV (.str o)=0:=rfl
  (rename_i aY;exact(eN _ _).elim (λeh=>aO [(B,k0),(v1,B)] (J v1 k1,J v2 k1) rfl (aA this) (fN eh)) λeh=>aO [(B,v1),(v2,B)] (J v2 k1,J v1 k1) rfl aY (fY eh))
theorem ox:∀{l:List α},(∀x∈l,(f x).canLay0=true)->eA (l.map f)=true
 |[],_=>rfl
 |x::l,h=>by rw[bE,eA,h x (.head _),ox λy hy=>h y (.tail _ hy)];rfl
theorem xE(t:Tm):dZ t->(af t).canLay0=true:=by
 induction t using cU with
 |_ o l ih=>
  intro g
  rw[iD,jw,mJ,eA,ox λx hx=>ih x hx (g.ez hx)]
  have:(eB o).canLay0=true:=vb o g.op
  refine Y this ?_;rfl
theorem oX(H:d.canLay0=true)(O:d.depth<= 64):ce d=true:=by
 unfold ce DE
 refine Y H<|Y (decide_eq_true O) ?_;rfl
structure Bd(t:Tm):Prop where
 g:dZ t
 s:sz t<=400
 d:dp t<= 50
 l:lv t<= 60
theorem xF:∀{l:List Tm} {k:Tm},k∈l->lv k<=cR l
 |t::l,k,h=>by
  rw[eC]
  rcases bK.mp h with rfl|h
  .exact aM [] (B,J B v1) rfl
  .have:=xF h;exact Mn this
theorem jf(h:l≠[]):lv (.node o l)=cR l:=by
 cases l with
 |nil=>exact absurd rfl h
 |cons t r=>rw[Ez,eC]
theorem Vc(hk:k∈l):lv k<=lv (.node o l):=by
 exact Y (jf (List.ne_nil_of_mem hk))<|xF hk
theorem Bd.ez{l:List Tm}(b:Bd (.node o l))(hk:k∈l):Bd k:=
 ⟨b.g.ez hk,by have:=j0 (o:=o) hk;have:=b.s;(rename_i aY;exact aM [(B,(.num 400)),(J v1 k1,B)] (v1,(.num 400)) rfl this aY),by have h:=xD hk;have:=b.d;rw[kK] at this;(exact aM [(J B k1,(.num 50)),(v1,B)] (v1,(.num 50)) rfl this h),aB (Vc hk) b.l⟩
theorem Bd.ok(b:Bd t):ce (af t)=true:=oX (xE t b.g) (aB (uK t) (aB b.d (by decide)))
theorem qg:∀l:List Tm,l.length<=bG l
 |[]=>a8 _
 |t::l=>by rw[bL,cT];have:=l9 t;have:=qg l;(rename_i aY;exact Mo this aY)
theorem Bd.len{l:List Tm}(b:Bd (.node o l)):l.length<=400:=by
 have:=b.s
 have:=qg l
 rw[dA] at*;(rename_i aY;exact aM [(B,v1),(J v1 k1,(.num 400))] (B,(.num 400)) rfl this aY)
def eqT(t u:Tm):Bool:=cA (af t) (af u)
theorem oG(t u:Tm):eqT t u=true↔t=u:=
 (qm (af t) (af u) (u9 t) (u9 u)).trans ⟨Jk t u,λe=>e▸rfl⟩
theorem Al(a b:Str):cA (.str a) (.str b)=decide (a=b):=by
 have:=qm (.str a) (.str b) rfl rfl
 by_cases e:a=b
 .subst e;simpa using this.mpr rfl
 .have h:¬eB a= .str b:=λq=>e (by cases q;rfl)
  refine Y (decide_eq_false e) ?_
  cases q:cA (.str a) (.str b) with
  |false=>rfl
  |true=>exact absurd (this.mp q) h
noncomputable def bH(aa:List Str):ah:= .list (aa.map .str)
structure ir(aa:List Str):Prop where
 al:∀o∈aa,o∈bh.al
 len:aa.length<=2
theorem xW(h:o∈al):ce (.str o)=true:=oX (vb o h) (by simp[gV])
theorem ir.ok(h:ir aa):ce (bH aa)=true:=by
 refine oX ?_ ?_
 .unfold bH;rw[mJ];exact ox λx hx=>vb x (h.al x hx)
 .unfold bH;rw[gV]
  have:=oq (f:=eB) (n:=0) (l:=aa) λx zz=>a8 _
  exact be [(B,k0)] (J B k1,(.num 64)) rfl this
theorem Jl(o:Str):∀aa:List Str,((aa.map eB).any λy=>cA y (.str o))=aa.contains o
 |[]=>rfl
 |x::l=>by
  refine Y bE<|Y w7<|Y (Jl o l)<|Y List.contains_cons<|Y (Al _ _) ?_
  congr 1
  by_cases e:x=o
  .subst e;simp
  .have e':¬o=x:=λq=>e q.symm
   simp[e,e']
theorem JQ(h:ir aa)(ho:o∈al):gI .isIn (.str o) (bH aa)=some (aa.contains o):=by
 show(if (ce (.str o) && ce (bH aa))=true then some _ else none)=_
 exact Y (xW ho)<|Y h.ok<|Y (if_pos (show(true && true)=true from rfl))<|congrArg some (Jl o aa)
theorem aem(h:ir aa)(ho:o∈al):gI .AL (.str o) (bH aa)=some (!aa.contains o):=by
 show(if (ce (.str o) && ce (bH aa))=true then some _ else none)=_
 exact Y (xW ho)<|Y h.ok<|Y (if_pos (show(true && true)=true from rfl))<|congrArg (λb=>some (!b)) (Jl o aa)
theorem eq_str(ha:a∈al)(V:b∈al):gI .eq (.str a) (.str b)=some (decide (a=b)):=by
 show(if (ce (.str a) && ce (.str b))=true then some _ else none)=_
 exact Y (xW ha)<|Y (xW V)<|Y (if_pos (show(true && true)=true from rfl))<|Y (Al _ _) rfl
theorem ne_str(ha:a∈al)(V:b∈al):gI .ne (.str a) (.str b)=some (!decide (a=b)):=by
 show(if (ce (.str a) && ce (.str b))=true then some _ else none)=_
 exact Y (xW ha)<|Y (xW V)<|Y (if_pos (show(true && true)=true from rfl))<|Y (Al _ _) rfl
theorem qh{n:Nat}(h:n<=100000):fE (n:Int)=some (.int n):=by
 unfold fE df
 rw[if_pos]
 simp only[cm,decide_eq_true_eq]
 exact M3 h (by decide)
theorem ma(h:xs.length<=100000):kY xs=some (.list xs):=by
 unfold kY;rw[if_pos (by unfold lim;exact aV h rfl)]
theorem fJ(h:xs.length<=100000):ue xs=some (.tuple xs):=by
 unfold ue;rw[if_pos (by unfold lim;exact aV h rfl)]
theorem T6{o:Str}{l:List Tm}(h:l.length<=400):fg .len (af (.node o l))=some (.int ((l.length+1:Nat):Int)):=by
 rw[iD,jw]
 show fE (((eB o::l.map af).length:Nat):Int)=_
 exact Y bL<|Y (aw _)<|qh (be [(B,(.num 400))] (J B k1,(.num 100000)) (by kernel_rfl) h)
theorem Rf:mf (af (.node o l)) 0=some (.str o):=by
 rw[iD]
 show(jI (tZ l).length.succ 0).bind _=_
 unfold jI
 simp
theorem oy{n:Nat}(h:n<=100000):df (n:Int)=true:=by
 unfold df
 simp only[cm,decide_eq_true_eq]
 exact M3 h (by decide)
theorem Qs:df (-1)=true:=by
 decide
abbrev RR(n:Nat):=run au sx n
abbrev Ft:=Nat->List as7->Sg->Option (as7×Sg)
theorem bs(h:x=some a)(k:f a=r):x.bind f=r:=by exact Y h<|k
theorem iT(h:b=true)(k:x=r):(if b=true then x else y)=r:=by exact Y (if_pos h)<|k
theorem iF(h:b=false)(k:y=r):(if b=true then x else y)=r:=by exact Y h<|k
section
variable{R:Ft}{ρ:List aK}{σ ae aF:Sg}{e es a b c it ki:E}{v v':as7}{vs:List as7}{x y d:ah}{xs:List ah}{r:Option g9}{S S₁ nY:bh.S}{w:Option (List as7×Sg)}
theorem oV(h:w=some ([v],σ)):jB w=some (v,σ):=bs h rfl
theorem oD(h:w=some ([.d x],σ)):ba w=some (x,σ):=bs (oV h) rfl
theorem oB(h:w=some ([.d (.bool t)],σ)):iu w=some (t,σ):=bs (oD h) rfl
theorem aj(h:ρ[i]? =some (.v v)):ev au R (.loc i) ρ σ=some ([v],σ):=bs (bs h rfl) rfl
theorem bc:ev au R (.lit d) ρ σ=some ([.d d],σ):=rfl
theorem aI:ev au R .nil ρ σ=some ([],σ):=rfl
theorem ay(H:ev au R e ρ σ=some ([v],ae))(O:ev au R es ρ ae=some (vs,aF)):ev au R (.cons e es) ρ σ=some (v::vs,aF):=bs (oV H) (bs O rfl)
theorem dQ(h:ev au R es ρ σ=some (vs,ae))(hd:gF vs=some xs)(hm:xs.length<=100000:=by simp):ev au R (.tup es) ρ σ=some ([.d (.tuple xs)],ae):=bs h (bs hd (bs (fJ hm) rfl))
theorem ji(h:ev au R es ρ σ=some (vs,ae))(hd:gF vs=some xs)(hm:xs.length<=100000:=by simp):ev au R (.lst es) ρ σ=some ([.d (.list xs)],ae):=bs h (bs hd (bs (ma hm) rfl))
theorem eX(H:ev au R e ρ σ=some ([.d x],ae))(O:ev au R it ρ ae=some ([.d (.int k)],aF))(hk:df k=true)(h3:mf x k=some d):ev au R (.item e it) ρ σ=some ([.d d],aF):=bs (oV H) (bs (oD O) (bs (iT hk h3) rfl))
theorem Am(H:ev au R e ρ σ=some ([v],ae))(O:ev au R it ρ ae=some ([.d x],aF))(h3:J' v x aF=some d):ev au R (.item e it) ρ σ=some ([.d d],aF):=bs (oV H) (bs (oD O) (bs h3 rfl))
theorem kR(H:ev au R e ρ σ=some ([.d x],ae))(O:nT k x=some d):ev au R (.dE k e) ρ σ=some ([.d d],ae):=bs (oD H) (bs O rfl)
theorem anj(H:ev au R e ρ σ=some ([.me d],ae)):ev au R (.aa e) ρ σ=some ([.d d],ae):=bs (oV H) rfl
theorem dJ(h:ev au R es ρ σ=some (vs,ae))(hr:R f vs ae=some (v,aF)):ev au R (.call f es) ρ σ=some ([v],aF):=bs h (bs hr rfl)
theorem fB(H:ev au R e ρ σ=some ([.me d],ae))(h:ev au R es ρ ae=some (vs,aF))(hr:R f (.me d::vs) aF=some (v,lA)):ev au R (.eR f e es) ρ σ=some ([v],lA):=bs (oV H) (bs (show F8 _=some d from rfl) (bs h (bs hr rfl)))
theorem cM(H:ev au R e ρ σ=some ([.d x],ae))(O:fg k x=some d):ev au R (.bi k e) ρ σ=some ([.d d],ae):=bs (oD H) (bs O rfl)
theorem apl(H:ev au R e ρ σ=some ([.d x],ae)):ev au R (.mk e) ρ σ=some ([.me x],ae):=bs (oD H) rfl
theorem eP(H:ev au R a ρ σ=some ([.d x],ae))(O:ev au R b ρ ae=some ([.d y],aF))(h3:j7 o x y=some d):ev au R (.bin o a b) ρ σ=some ([.d d],aF):=bs (oD H) (bs (oD O) (bs h3 rfl))
theorem dD(H:ev au R a ρ σ=some ([.d x],ae))(O:ev au R b ρ ae=some ([.d y],aF))(h3:gI o x y=some t):ev au R (.cmp o a b) ρ σ=some ([.d (.bool t)],aF):=bs (oD H) (bs (oD O) (bs h3 rfl))
theorem iw(h:ev au R es ρ σ=some (vs,ae))(hd:gF vs=some xs)(O:jK k xs=some d):ev au R (.op k es) ρ σ=some ([.d d],ae):=bs h (bs hd (bs O rfl))
theorem yh(H:ev au R a ρ σ=some ([.d (.bool t)],ae)):ev au R (.j6 a) ρ σ=some ([.d (.bool (!t))],ae):=bs (oB H) rfl
theorem FB(H:ev au R a ρ σ=some ([.d (.bool t)],ae))(O:t=true->ev au R b ρ ae=some ([.d (.bool u)],ae)):ev au R (.oZ a b) ρ σ=some ([.d (.bool (t && u))],ae):=by
 cases t with
 |true=>exact bs (oB H) (bs (oB (O rfl)) rfl)
 |false=>exact bs (oB H) rfl
theorem yy(H:ev au R a ρ σ=some ([.d (.bool t)],ae))(O:t=false->ev au R b ρ ae=some ([.d (.bool u)],ae)):ev au R (.mw a b) ρ σ=some ([.d (.bool (t||u))],ae):=by
 cases t with
 |true=>exact bs (oB H) rfl
 |false=>exact bs (oB H) (bs (oB (O rfl)) rfl)
theorem nR(H:ev au R c ρ σ=some ([.d (.bool t)],ae))(O:t=true->ev au R a ρ ae=some ([v],aF))(h3:t=false->ev au R b ρ ae=some ([v],aF)):ev au R (.ite c a b) ρ σ=some ([v],aF):=by
 cases t with
 |true=>exact bs (oB H) (bs (oV (O rfl)) rfl)
 |false=>exact bs (oB H) (bs (oV (h3 rfl)) rfl)
theorem zx:∀{l:List α},(∀z∈l,f (m z) σ=some (g z,σ))->l6 f (l.map m) σ=some (l.flatMap g,σ)
 |[],_=>rfl
 |z::l,h=>by rw[bE,zw,h z (.head _),iC,zx λw hw=>h w (.tail _ hw),iC,eK]
theorem Hv:∀l:List α,(l.flatMap λz=>[g z])=l.map g
 |[]=>rfl
 |z::l=>by refine Y eK<|Y (Hv l) ?_;rfl
theorem ahE(h:xs.length<=100000):fL (some ([.d (.list xs)],σ))=some (xs,σ):=by
 show(if xs.length<=lim then some (xs,σ) else none)=_
 rw[if_pos (by unfold lim;exact aV h rfl)]
theorem ai1(h:xs.length<=100000):fL (some ([.d (.tuple xs)],σ))=some (xs,σ):=by
 show(if xs.length<=lim then some (xs,σ) else none)=_
 rw[if_pos (by unfold lim;exact aV h rfl)]
theorem ge{l:List α}{m g:α->ah}(hi:fL (ev au R it ρ σ)=some (l.map m,ae))(hg:∀z∈l,∃aE,cg t (m z) ρ=some aE/\ev au R e aE ae=some ([.d (g z)],ae))(hl:l.length<=100000):
 ev au R (.comp e t it (.lit (.bool true))) ρ σ=some ([.d (.list (l.map g))],ae):=by
 refine bs hi (bs (zx (g:=λz=>[g z]) λz hz=>?_) ?_)
 .exact ar (hg z hz) λaE H O=>bs H (bs (oB bc) (bs (oD O) rfl))
 .exact Y (Hv _)<|bs (ma (Y (aw _)<|hl)) rfl
theorem Qt:∀l:List α,(l.flatMap λz=>if p z=true then[g z] else[])=(l.filter p).map g
 |[]=>rfl
 |z::l=>by
  refine Y eK<|Y (Qt l)<|Y OS ?_
  cases p z<;>rfl
theorem ta{l:List α}{m g:α->ah}{p:α->Bool}(hi:fL (ev au R it ρ σ)=some (l.map m,ae))(hg:∀z∈l,∃aE,cg t (m z) ρ=some aE/\ev au R c aE ae=some ([.d (.bool (p z))],ae)/\(p z=true->ev au R e aE ae=some ([.d (g z)],ae)))(hl:l.length<=100000):
 ev au R (.comp e t it c) ρ σ=some ([.d (.list ((l.filter p).map g))],ae):=by
 refine bs hi (bs (zx (g:=λz=>if p z=true then[g z] else[]) λz hz=>?_) ?_)
 .refine cq (hg z hz) λaE H O h3=>bs H (bs (oB O) ?_)
  cases q:p z with
  |true=>exact bs (oD (h3 q)) rfl
  |false=>rfl
 .exact Y (Qt _)<|bs (ma (Y (aw _)<|aB (zb _ _) hl)) rfl
theorem uS{l:List α}{m:α->ah}{s:α->List β}{m2 g:β->ah}(hi:fL (ev au R it ρ σ)=some (l.map m,ae))(hg:∀z∈l,∃aE,cg t (m z) (cb t2 ρ)=some aE/\fL (ev au R ki aE ae)=some ((s z).map m2,ae)/\∀w∈s z,∃j8,cg t2 (m2 w) aE=some j8/\ev au R e j8 ae=some ([.d (g w)],ae))(hl:(l.flatMap s).length<=100000):
 ev au R (.gY e t it t2 ki) ρ σ=some ([.d (.list ((l.flatMap s).map g))],ae):=by
 refine bs hi (bs (zx (g:=λz=>(s z).map g) λz hz=>?_) ?_)
 .refine cq (hg z hz) λaE H O h3=>bs H (bs O ?_)
  refine(zx (g:=λw=>[g w]) λw hw=>?_).trans (Y (Hv _) rfl)
  exact ar (h3 w hw) λj8 h4 h5=>bs h4 (bs (oD h5) rfl)
 .exact sl G5<|bs (ma (Y (aw _)<|hl)) rfl
theorem dR(h:ev au R e ρ σ=some ([v],ae)):aR au R (.ret e) ρ σ=some (.ret v ae):=bs (oV h) rfl
theorem dy(h:ev au R e ρ σ=some ([v],ae))(k:aR au R S (ρ.set i (.v v)) ae=r):aR au R (.asg i e S) ρ σ=r:=bs (oV h) k
theorem Vd(h:ev au R a ρ σ=some ([v],ae))(h':ev au R b ρ ae=some ([v'],aF))(k:aR au R S ((ρ.set i (.v v)).set j (.v v')) aF=r):aR au R (.yo i j a b S) ρ σ=r:=bs (oV h) (bs (oV h') k)
theorem Ww(h:ev au R c ρ σ=some ([.d (.bool true)],ae))(k:AO (aR au R S₁ ρ ae) (λaE av=>aR au R S aE av)=r):aR au R (.ca c S₁ nY S) ρ σ=r:=bs (oB h) k
theorem Wx(h:ev au R c ρ σ=some ([.d (.bool false)],ae))(k:AO (aR au R nY ρ ae) (λaE av=>aR au R S aE av)=r):aR au R (.ca c S₁ nY S) ρ σ=r:=bs (oB h) k
theorem eQ(hf:sx f=some m)(hl:vs.length=m.rp)(h:aR au (RR n) m.body (vs.map .v++ii m.EY .un) σ=some (.ret v ae)):RR (n+1) f vs σ=some (v,ae):=by
 exact bs hf<|Y (if_pos hl)<|bs h rfl
end
theorem xo(ho:ir aa)(b:Bd t)(n:Nat)(σ:Sg):RR (n+1) 6 [.me (bH aa), .d (af t)] σ=some (.d (.bool (bA aa t)),σ):=by
 cases t with|node o l=>
 refine eQ rfl rfl (dR ?_)
 have:bA aa (.node o l)=(aa.contains o && decide ((2:Int)<((l.length+1:Nat):Int))):=by
  unfold bA dG
  congr 1
  show decide (2<=l.length)=_
  exact si decide_eq_decide XZ
 exact Y this<|FB (dD (eX (aj rfl) bc (oy (by decide)) Rf) (anj (aj rfl)) (JQ ho b.g.op)) λzz=>dD (cM (aj rfl) (T6 b.len)) bc rfl
section
variable{R:Ft}{ρ aE:List aK}{σ ae aF:Sg}{e es a b c it ki:E}{v v':as7}{vs:List as7}{x y d:ah}{xs ys:List ah}{r:Option g9}{S S₁ nY:bh.S}{o:g9}
theorem cX(h:ev au R it ρ σ=some ([.d (.list xs)],ae))(hl:xs.length<=100000):fL (ev au R it ρ σ)=some (xs,ae):=by exact Y h<|ahE hl
theorem kN(h:ev au R it ρ σ=some ([.d (.tuple xs)],ae))(hl:xs.length<=100000):fL (ev au R it ρ σ)=some (xs,ae):=by exact Y h<|ai1 hl
theorem Ve(h:ev au R e ρ σ=some ([.d (.tuple xs)],ae)):ev au R (.enum e) ρ σ=some ([.d (.list (oP 0 xs))],ae):=bs (oD h) rfl
theorem L3(h:ev au R e ρ σ=some (vs,ae))(hd:gF vs=some xs)(hm:xs.length<=100000)(hn:(ρ.set i .un).any kS=false)(k:aR au R S (ρ.set i (.own xs)) ae=r):aR au R (.new i e S) ρ σ=r:=bs h (bs hd (bs (ma hm) (iF hn k)))
theorem Vf(h:ev au R e ρ σ=some ([.d (.tuple xs)],ae))(hm:xs.length<=100000)(hn:(ρ.set i .un).any kS=false)(k:aR au R S (ρ.set i (.own xs)) ae=r):aR au R (.yp i e S) ρ σ=r:=bs (oD h) (bs (a:=xs) rfl (bs (ma hm) (iF hn k)))
theorem ai2(h:ev au R e ρ σ=some (vs,ae))(hd:gF vs=some xs)(O:ev au R f ρ ae=some (ws,aF))(hd2:gF ws=some ys)(hm:xs.length<=100000)(sy:ys.length<=100000)(hn:((ρ.set i .un).set j .un).any kS=false)(k:aR au R S ((ρ.set i (.own xs)).set j (.own ys)) aF=r):aR au R (.qC i j e f S) ρ σ=r:=bs h (bs hd (bs O (bs hd2 (bs (ma hm) (bs (ma sy) (iF hn k))))))
theorem BM(h:ρ[i]? =some (.own xs))(k:aR au R S (ρ.set i (.v (.d (.list xs)))) σ=r):aR au R (.cv i S) ρ σ=r:=bs (bs h rfl) k
theorem Wy(h0:ρ[i]? =some (.own xs))(h:ev au R e ρ σ=some ([.d x],ae))(hs:tF x=some ys)(hm:(xs++ys).length<=100000)(k:aR au R S (ρ.set i (.own (xs++ys))) ae=r):aR au R (.ext i e S) ρ σ=r:=bs (bs h0 rfl) (bs (oD h) (bs hs (bs (ma hm) k)))
theorem Vg(h0:ρ[i]? =some (.own xs))(h:ev au R e ρ σ=some ([.d (.list ys)],ae))(hm:(xs++ys).length<=100000)(k:aR au R S (ρ.set i (.own (xs++ys))) ae=r):aR au R (.ext i e S) ρ σ=r:=Wy h0 h rfl hm k
theorem Vh(h0:ρ[i]? =some (.own xs))(h:ev au R e ρ σ=some ([.d (.tuple ys)],ae))(hm:(xs++ys).length<=100000)(k:aR au R S (ρ.set i (.own (xs++ys))) ae=r):aR au R (.ext i e S) ρ σ=r:=Wy h0 h rfl hm k
theorem ank(h0:ρ[i]? =some (.own xs))(h:ev au R e ρ σ=some ([.d x],ae))(hm:(xs++[x]).length<=100000)(k:aR au R S (ρ.set i (.own (xs++[x]))) ae=r):aR au R (.app i e S) ρ σ=r:=bs (bs h0 rfl) (bs (oD h) (bs (ma hm) k))
theorem anl(h0:ρ[i]? =some (.own (xs++[x])))(k:aR au R S ((ρ.set i (.own xs)).set j (.v (.d x))) σ=r):aR au R (.pop i j S) ρ σ=r:=bs (bs h0 rfl) (bs (a:=x) (by simp) (Y Z2<|k))
theorem Vi(hn:(ρ.set i .un).any kS=false)(k:aR au R S (ρ.set i (.cI [])) σ=r):aR au R (.newD i S) ρ σ=r:=iF hn k
theorem E7(h0:ρ[i]? =some (.cI kvs))(h:ev au R a ρ σ=some ([.d x],ae))(O:ev au R e ρ ae=some ([.d y],aF))(hk:iH y=true)(hl:kvs.length<=1000)(k:aR au R S (ρ.set i (.cI (ml kvs y x))) aF=r):aR au R (.m0 i e a S) ρ σ=r:=bs (bs h0 rfl) (bs (oD h) (bs (oD O) (iT (by refine Y hk<|Y (decide_eq_true hl) ?_;rfl) k)))
theorem Vj(h0:ρ[i]? =some (.cI kvs))(k:aR au R S (ρ.set i (.v (.dk kvs))) σ=r):aR au R (.tQ i S) ρ σ=r:=bs (bs h0 rfl) k
theorem mh(h:fL (ev au R it ρ σ)=some (xs,ae))(cH:gh (λx ρ σ=>(cg t x ρ).bind λaE=>aR au R S₁ aE σ) xs ρ ae=some (.next aE aF))(k:aR au R S aE aF=r):aR au R (.ed t it S₁ S) ρ σ=r:=bs h (bs cH k)
theorem ai3(h:fL (ev au R it ρ σ)=some (xs,ae))(cH:gh (λx ρ σ=>(cg t x ρ).bind λaE=>aR au R S₁ aE σ) xs ρ ae=some (.ret v aF)):aR au R (.ed t it S₁ S) ρ σ=some (.ret v aF):=bs h (bs cH rfl)
theorem l5(h:cg t x ρ=some L4)(H:aR au R S₁ L4 σ=some (.next aE ae))(k:gh (λx ρ σ=>(cg t x ρ).bind λaE=>aR au R S₁ aE σ) xs aE ae=q):gh (λx ρ σ=>(cg t x ρ).bind λaE=>aR au R S₁ aE σ) (x::xs) ρ σ=q:=bs (bs h H) k
theorem ai4(h:cg t x ρ=some L4)(H:aR au R S₁ L4 σ=some (.ret v ae)):gh (λx ρ σ=>(cg t x ρ).bind λaE=>aR au R S₁ aE σ) (x::xs) ρ σ=some (.ret v ae):=bs (bs h H) rfl
end
theorem Rg(h:l.length<=400):nT .eO (af (.node o l))=some (.tuple (l.map af)):=by
 rw[iD,jw]
 refine iT ?_ rfl
 rw[decide_eq_true (by simp),decide_eq_true (by refine Y bL<|Y (aw _) ?_;unfold lim;exact be [(B,(.num 400))] (J B k1,(.num 1000000)) (by kernel_rfl) h)]
 rfl
theorem SO:∀l:List Tm,(jk l).length=bG l:=by
 have h:∀t:Tm,(pre t).length=sz t:=by
  intro t
  induction t using cU with
  |_ o l ih=>
   rw[fH,dA,bL]
   congr 1
   induction l with
   |nil=>rfl
   |cons x l jR=>rw[mN,cT,cS,ih x (.head _),jR λk hk=>ih k (.tail _ hk)]
 intro l
 induction l with
 |nil=>rfl
 |cons x l ih=>rw[mN,cT,cS,h,ih]
theorem qj(t:Tm):(pre t).length=sz t:=by
 cases t with|node o l=>rw[fH,dA,bL,SO]
mutual
noncomputable def j1:Tm->List (List Int×Tm)
 | .node o l=>([], .node o l)::rg 0 l
noncomputable def rg(k:Nat):List Tm->List (List Int×Tm)
 |[]=>[]
 |t::l=>(j1 t).map (λp=>((k:Int)::p.1,p.2))++rg (k+1) l
end
theorem Hw{o l}:j1 (Tm.node o l)=([],Tm.node o l)::rg 0 l:=rfl
theorem Hi{k t l}:rg k (t::l)=z9 (λ(p:List Int×Tm)=>((↑k:Int)::q8 p,IY p)) (j1 t)++rg (k+1) l:=rfl
def rF(p:List Int×Tm):ah:= .tuple [.tuple (p.1.map .int),af p.2]
theorem PL:∀(l:List Tm) (k:Nat),(∀t∈l,(j1 t).map (·.2)=pre t)->(rg k l).map (·.2)=jk l
 |[],_,_=>rfl
 |t::l,k,h=>by
  rw[Hi,mN,fk,dW,PL l (k+1) λx hx=>h x (.tail _ hx),<- h t (.head _)]
  rfl
theorem Qu(t:Tm):(j1 t).map (·.2)=pre t:=by
 induction t using cU with
 |_ o l ih=>rw[Hw,fH,bE,PL l 0 ih]
theorem Qv(t:Tm):(j1 t).length=sz t:=by
 have:=congrArg pR (Qu t)
 rw[aw,qj] at this;exact this
theorem afN(t:Tm):∀p∈j1 t,p.1.length<=sz t:=by
 induction t using cU with
 |_ o l ih=>
  intro p hp
  rw[Hw] at hp
  rcases bK.mp hp with rfl|hp
  .exact dn _
  .rw[dA]
   have:∀(l:List Tm) (k:Nat),(∀t∈l,∀p∈j1 t,p.1.length<=sz t)->∀p∈rg k l,p.1.length<=bG l+1:=by
    intro l
    induction l with
    |nil=>intro k _ p hp;cases hp
    |cons t l jR=>
     intro k h p hp
     rw[Hi] at hp
     rw[cT]
     refine a9 (ln.mp hp) (λhp=>?_) (λhp=>?_)
     .refine cr hp λq hq LY=>?_;clear hp;subst LY
      have:=h t (.head _) q hq
      show((k:Int)::q.1).length<=_
      exact Y bL<|aO [(B,v1)] (J B k1,J (J v1 v2) k1) rfl this
     .have:=jR (k+1) (λx hx=>h x (.tail _ hx)) p hp
      exact aO [(B,J v1 k1)] (B,J (J v2 v1) k1) rfl this
   exact this l 0 ih p hp
theorem Qw:∀(l:List Tm) (k:Nat) (acc:List ah) (b2 b3:aK),(∀t∈l,RR n 1 [.d (af t)] σ=some (.d (.list ((j1 t).map rF)),σ))->(∀t∈l,sz t<=400)->acc.length+bG l<=1000->
 ∃CX km,gh (λx ρ σ=>(cg (.two 2 3) x ρ).bind λaE=>aR au (RR n) (.ext 1 (.comp (cB [.bin .add (cB [L 2]) (L 4),L 5]) (.two 4 5) (Call 1 [L 3]) cY) .bI) aE σ) (oP k (l.map af)) [.v (.d T), .own acc,b2,b3, .un, .un] σ=
  some (.next [.v (.d T), .own (acc++(rg k l).map rF),CX,km, .un, .un] σ)
 |[],k,acc,b2,b3,_,_,_=>⟨b2,b3,by rw[show(rg k []).map rF=[] from rfl,gU];rfl⟩
 |t::l,k,acc,b2,b3,h,hs,hz=>by
  rw[cT] at hz
  have hl:=Qv t
  obtain⟨c2,c3,ih⟩:=Qw l (k+1) (acc++((j1 t).map λp=>((k:Int)::p.1,p.2)).map rF) (.v (.d (.int k))) (.v (.d (af t))) (λx hx=>h x (.tail _ hx)) (λx hx=>hs x (.tail _ hx)) (Y cS<|Y (aw _)<|Y (aw _)<|Y hl<|aO [(J B (J v1 v2),(.num 1000))] (J (J B v1) v2,(.num 1000)) rfl hz)
  refine ie c2 c3 ?_
  rw[bE,zB,gh]
  have dF:=hs t (.head _)
  have step:aR au (RR n) (.ext 1 (.comp (cB [.bin .add (cB [L 2]) (L 4),L 5]) (.two 4 5) (Call 1 [L 3]) cY) .bI) [.v (.d T), .own acc, .v (.d (.int k)), .v (.d (af t)), .un, .un] σ=some (.next [.v (.d T), .own (acc++((j1 t).map λp=>((k:Int)::p.1,p.2)).map rF), .v (.d (.int k)), .v (.d (af t)), .un, .un] σ):=by
   refine Vg (ys:=((j1 t).map λp=>((k:Int)::p.1,p.2)).map rF) rfl ?_ (by refine Y cS<|Y (aw _)<|Y (aw _)<|Y hl ?_;exact aO [(J B (J v1 v2),(.num 1000))] (J B v1,(.num 100000)) rfl hz) rfl
   refine Y dW<|ge (l:=j1 t) (m:=rF) ?_ (λp hp=>?_) (cN (aA hl) dF rfl)
   .exact cX (dJ (ay (aj rfl) aI) (h t (.head _))) (Y (aw _)<|cN (aA hl) dF rfl)
   .refine ai _ rfl ?_
    have hp:=afN t p hp
    refine dQ (ay (eP (dQ (ay (aj rfl) aI) rfl) (aj rfl) (show ue _=_ from fJ ?_)) (ay (aj rfl) aI)) ?_
    .refine Y cS<|Y (aw _) ?_
     simp only[bL,dO]
     exact aM [(B,v1),(v1,(.num 400))] (J (J k0 k1) B,(.num 100000)) (by kernel_rfl) hp dF
    .rfl
  show((cg (.two 2 3) (.tuple [.int k,af t]) _).bind _).bind _=_
  refine Y (show cg (.two 2 3) (.tuple [.int k,af t]) [.v (.d T), .own acc,b2,b3, .un, .un]=some [.v (.d T), .own acc, .v (.d (.int k)), .v (.d (af t)), .un, .un] from rfl) ?_;rewrite[iC];refine Y step<|Y (iC _ _) ?_
  show gh _ _ _ _=_
  rw[ih,Hi,fk,lm]
theorem aen(t:Tm):Bd t->∀n σ,sz t<=n->RR n 1 [.d (af t)] σ=some (.d (.list ((j1 t).map rF)),σ):=by
 induction t using cU with
 |_ o l ih=>
  intro b n σ hn
  refine xe (show ∃k,n=k+1 from⟨n - 1,by have:=l9 (.node o l);(exact bR ((bj _ _)) ((aU (B4 this hn))))⟩) λn LC=>?_;subst LC
  have V:=b.s
  rw[sz] at hn V
  refine iz (Qw (T:=af (.node o l)) l 0 [.tuple [.tuple [],af (.node o l)]] .un .un (λk hk=>ih k hk (b.ez hk) n σ (by have:=uR hk;exact aO [(B,v1),(J v1 k1,J v2 k1)] (B,v2) rfl this hn)) (λk hk=>(b.ez hk).s) (by simp only[bL,dO];exact be [(J B k1,(.num 400))] (J (J k0 k1) B,(.num 1000)) (by kernel_rfl) V)) λb2 b3 cH=>?_
  refine eQ rfl rfl (L3 (ay (dQ (ay (dQ aI rfl) (ay (aj rfl) aI)) rfl) aI) rfl (by simp) rfl (mh ?_ cH (BM rfl (dR (aj ?_)))))
  .exact cX (Ve (kR (aj rfl) (Rg b.len))) (by refine Y (zm _ _)<|Y (aw _) ?_;have:=b.len;exact aV this rfl)
  .show some _=_
   rw[Hw,bE];rfl
theorem Eg(g:dZ t)(h:k∈t.ks):dZ k:=by cases t with|node o l=>exact g.ez h
theorem Bd.pre(b:Bd t):∀p∈bh.pre t,Bd p:=by
 induction t using cU with
 |_ o l ih=>
  intro p hp
  rw[fH,jd] at hp
  rcases bK.mp hp with rfl|hp
  .exact b
  .exact fD hp λk hk hp=>ih k hk (b.ez hk) p hp
theorem xX(t:Tm):1<=lv t:=by
 induction t using cU with
 |_ o l ih=>
  cases l with
  |nil=>rw[xC];exact a8 _
  |cons t r=>rw[Ez];have:=ih t (.head _);exact FN this
theorem tw:∀l:List Tm,l.length<=cR l
 |[]=>a8 _
 |t::l=>by rw[bL,eC];have:=xX t;have:=tw l;(rename_i aY;exact Mo this aY)
theorem lq:∀a b:List Tm,bG (a++b)=bG a+bG b
 |[],b=>by rw[kC,oA,js]
 |t::a,b=>by rw[wU,cT,cT,lq a b,Dy]
theorem HN:∀a b:List Tm,cR (a++b)=cR a+cR b
 |[],b=>by rw[kC,xt,js]
 |t::a,b=>by rw[wU,eC,eC,HN a b,Dy]
theorem Qx:∀a b:List Tm,fe (a++b)=max (fe a) (fe b)
 |[],b=>by rw[kC,zU,Nat.zero_max]
 |t::a,b=>by rw[wU,ik,ik,Qx a b,Nat.max_assoc]
theorem q7(p:a.Perm b):bG a=bG b:=by
 induction p with
 |nil=>rfl
 |cons x _ ih=>rw[cT,cT,ih]
 |swap x y l=>rw[cT,cT,cT,cT];exact aay ..
 |trans _ _ H O=>exact H.trans O
theorem SP(p:a.Perm b):cR a=cR b:=by
 induction p with
 |nil=>rfl
 |cons x _ ih=>rw[eC,eC,ih]
 |swap x y l=>rw[eC,eC,eC,eC];exact aay ..
 |trans _ _ H O=>exact H.trans O
theorem afO(p:a.Perm b):fe a=fe b:=by
 induction p with
 |nil=>rfl
 |cons x _ ih=>rw[ik,ik,ih]
 |swap x y l=>rw[ik,ik,ik,ik];exact Nat.max_left_comm ..
 |trans _ _ H O=>exact H.trans O
theorem Jm:∀{l:List Tm},(∀x∈l,sz (f x)<=sz x)->bG (l.map f)<=bG l
 |[],_=>a8 _
 |t::l,h=>by rw[bE,cT,cT];have:=h t (.head _);have:=Jm λx hx=>h x (.tail _ hx);(rename_i aY;exact vV this aY)
theorem xG:∀{l:List Tm},(∀x∈l,lv (f x)<=lv x)->cR (l.map f)<=cR l
 |[],_=>a8 _
 |t::l,h=>by rw[bE,eC,eC];have:=h t (.head _);have:=xG λx hx=>h x (.tail _ hx);(rename_i aY;exact vV this aY)
theorem Jn:∀{l:List Tm},(∀x∈l,dp (f x)<=dp x)->fe (l.map f)<=fe l
 |[],_=>a8 _
 |t::l,h=>by rw[bE,ik,ik];have:=h t (.head _);have:=Jn λx hx=>h x (.tail _ hx);(rename_i aY;exact(eN _ _).elim (λf7=>FR aY (fN f7) (mI _ _)) λf7=>FR this (fY f7) (oo _ _))
theorem IN:∀{l:List Tm},(∀x∈l,bG (f x)<=sz x)->bG (l.flatMap f)<=bG l
 |[],_=>a8 _
 |t::l,h=>by rw[eK,lq,cT];have:=h t (.head _);have:=IN λx hx=>h x (.tail _ hx);(rename_i aY;exact vV this aY)
theorem zV:∀{l:List Tm},(∀x∈l,cR (f x)<=lv x)->cR (l.flatMap f)<=cR l
 |[],_=>a8 _
 |t::l,h=>by rw[eK,HN,eC];have:=h t (.head _);have:=zV λx hx=>h x (.tail _ hx);(rename_i aY;exact vV this aY)
theorem IP:∀{l:List Tm},(∀x∈l,fe (f x)<=dp x)->fe (l.flatMap f)<=fe l
 |[],_=>a8 _
 |t::l,h=>by rw[eK,Qx,ik];have:=h t (.head _);have:=IP λx hx=>h x (.tail _ hx);(rename_i aY;exact(eN _ _).elim (λf7=>FR aY (fN f7) (mI _ _)) λf7=>FR this (fY f7) (oo _ _))
theorem AD:cR l<=lv (.node o l):=by
 cases l with
 |nil=>rw[xt];exact dn _
 |cons t r=>rw[Ez,eC];exact a8 _
section
variable(aa:List Str)
theorem uH(o:Str)(t:Tm):bG (sel aa o t)<=sz t/\cR (sel aa o t)<=lv t/\fe (sel aa o t)<=dp t:=by
 induction t using cU with
 |_ o' l ih=>
  by_cases h:dq aa o (.node o' l)
  .rw[im aa h,cT,eC,ik,oA,xt,zU]
   exact⟨be [] (J B k0,B) rfl,⟨be [] (J B k0,B) rfl,(eN _ _).elim (λgu=>(fN gu)) λgu=>aM [(B,k0)] (B,v1) rfl (fY gu)⟩⟩
  .unfold dq at h
   rw[pI,pJ] at h
   refine xa h λH O=>?_
   have H:=H
   subst H
   refine Y (kL aa (show dG aa o' l=true from O)) ?_
   have a:=IN λx hx=>(ih x hx).1
   have b:=zV λx hx=>(ih x hx).2.1
   have c:=IP λx hx=>(ih x hx).2.2
   have d:=AD (o:=o') (l:=l)
   rw[dA,kK]
   exact⟨FQ a,⟨ph d b,FQ c⟩⟩
theorem ab6(h:bA aa t=true):bG (ff aa t)<sz t/\cR (ff aa t)<=lv t/\fe (ff aa t)<dp t:=by
 cases t with|node o l=>
 refine Y (oC aa h) ?_
 show bG (l.flatMap (sel aa o))<_/\cR (l.flatMap (sel aa o))<=_/\fe (l.flatMap (sel aa o))<_
 have a:=IN (l:=l) (f:=sel aa o) λx hx=>(uH aa o x).1
 have b:=zV (l:=l) (f:=sel aa o) λx hx=>(uH aa o x).2.1
 have c:=IP (l:=l) (f:=sel aa o) λx hx=>(uH aa o x).2.2
 have d:=AD (o:=o) (l:=l)
 rw[dA,kK]
 exact⟨vU a,⟨ph d b,vU c⟩⟩
theorem sJ(t:Tm):sz (normal aa t)<=sz t/\lv (normal aa t)<=lv t/\dp (normal aa t)<=dp t:=by
 induction t using tB with
 |h t ih=>
  by_cases V:bA aa t=true
  .refine Y (lY aa V) ?_
   have p:=gW ((ff aa t).map (normal aa))
   have f:=ab6 aa V
   have a:=Jm λx hx=>(ih x (qf aa V hx)).1
   have b:=xG λx hx=>(ih x (qf aa V hx)).2.1
   have c:=Jn λx hx=>(ih x (qf aa V hx)).2.2
   have bB:cK ((ff aa t).map (normal aa))≠[]:=by
    intro e
    have:=p.length_eq
    rw[e,aw] at this
    have:=IM aa V
    simp at*;(rename_i aY;exact nz (be [((.num 2),B),(B,k0)] (k1,k0) rfl this (aA aY.symm)))
   rw[dA,jf bB,kK,q7 p,SP p,afO p]
   exact⟨FG a f.1,⟨FF b f.2.1,FG c f.2.2⟩⟩
  .refine Y (jt aa V) ?_
   clear V;cases t with|node o l=>
   have a:=Jm λx hx=>(ih x (j0 hx)).1
   have b:=xG λx hx=>(ih x (j0 hx)).2.1
   have c:=Jn λx hx=>(ih x (j0 hx)).2.2
   show sz (.node o (l.map (normal aa)))<=_/\lv (.node o (l.map (normal aa)))<=_/\dp (.node o (l.map (normal aa)))<=_
   refine bO (by rw[dA,dA];exact vU a) ?_ (by rw[kK,kK];exact vU c)
   clear a c;cases l with
   |nil=>exact a8 _
   |cons x r=>
    rw[jf (by simp),jf (by simp)];exact b
theorem abE(t:Tm):dZ t->dZ (normal aa t):=by
 induction t using tB with
 |h t ih=>
  intro g p hp
  by_cases V:bA aa t=true
  .rw[lY aa V,fH,jd] at hp
   rcases bK.mp hp with rfl|hp
   .exact g.op
   .refine fD hp λk hk hp=>cr (((gW _).mem_iff.mp hk)) λy hy rB=>?_;clear hk;subst rB
    exact ih y (qf aa V hy) (λq hq=>g q (SM aa V hy q hq)) p hp
  .rw[jt aa V,fH,jd] at hp
   rcases bK.mp hp with rfl|hp
   .exact g.op
   .refine fD hp λk hk hp=>cr hk λy hy K8=>?_;clear hk;subst K8
    exact ih y (vM hy) (Eg g hy) p hp
theorem Bd.normal(b:Bd t):Bd (normal aa t):=by
 exact cj (sJ aa t) λH O h3=>⟨abE aa t b.g,aB H b.s,aB h3 b.d,aB O b.l⟩
theorem Bd.sel(b:Bd t):∀x∈sel aa o t,Bd x:=λx hx=>by
 exact cj (uH aa o t) λH O h3=>⟨λp hp=>b.g p (EB aa o t x hx p hp),aB (AC aa o t x hx) b.s,aB (xD hx) (aB h3 b.d),aB (xF hx) (aB O b.l)⟩
end
theorem ib(t:Tm):mf (af t) 0=some (.str t.op):=by cases t with|node o l=>exact Rf
theorem rk(b:Bd t):fg .len (af t)=some (.int ((t.ks.length+1:Nat):Int)):=by cases t with|node o l=>exact T6 b.len
theorem eO(b:Bd t):nT .eO (af t)=some (.tuple (t.ks.map af)):=by cases t with|node o l=>exact Rg b.len
theorem JR(b:Bd t):t.ks.length<=400:=by cases t with|node o l=>exact b.len
theorem gB:df 0=true:=oy (by decide)
theorem ai5:df 1=true:=oy (by decide)
theorem afP{a b:Nat}(h:a<=100000)(V:b<=a):Mr (a:Int) (b:Int)=some (.int ((a - b:Nat):Int)):=by
 unfold Mr
 rw[oy h,oy (aB V h),if_pos (show(true && true)=true from rfl)]
 have:(a:Int) - (b:Int)=((a - b:Nat):Int):=FE (by assumption)
 rw[this]
 exact qh (cN (qY _ _) h rfl)
theorem An:u4 (.int a) (.int b) f=f a b:=rfl
theorem EC(h:k<=1000):j7 .sub (.int ((k+1:Nat):Int)) (.int 1)=some (.int (k:Int)):=by
 have:=afP (a:=k+1) (b:=1) (be [(B,(.num 1000))] (J B k1,(.num 100000)) (by kernel_rfl) h) uc
 rw[Nat.add_sub_cancel] at this
 exact(An).trans this
theorem Rh(b:Bd t)(n:Nat)(σ:Sg)(hn:sz t+1<=n):RR n 2 [.d (af t)] σ=some (.d (m7 t),σ):=by
 refine xe (show ∃k,n=k+1 from⟨n - 1,by (exact bR ((bj _ _)) ((aU (iL hn))))⟩) λn Bg=>?_;subst Bg
 have hp:=aen t b n σ (n4 hn)
 have hl:=Qv t
 have hs:=b.s
 have e1:(j1 t).map (λp=>af p.2)=(pre t).map af:=by refine sl (Qu t)<|Y dW ?_;rfl
 have ct:=qj t
 refine eQ rfl rfl (dy (ae:=σ) (v:= .d (.list ((j1 t).map λp=>af p.2))) ?_ (dR ?_))
 .refine ge (l:=j1 t) (m:=rF) (g:=λp=>af p.2) (cX (dJ (ay (aj rfl) aI) hp) (by refine Y (aw _) ?_;exact cN (aA hl) hs rfl)) (λp zz=>(ai _ rfl (aj rfl))) (cN (aA hl) hs rfl)
 .refine Y e1 ?_
  have c1:fg .len (.list ((pre t).map af))=some (.int ((pre t).length:Int)):=by
   show fE ((((pre t).map af).length:Nat):Int)=_
   exact Y (aw _)<|qh (cN (aA ct) hs rfl)
  have c2:fg .tuple (.list ((pre t).map λp=> .str p.op))=some (.tuple ((pre t).map λp=> .str p.op)):=fJ (Y (aw _)<|cN (aA ct) hs rfl)
  have c3:fg .tuple (.list ((pre t).map λp=> .int (p.ks.length:Int)))=some (.tuple ((pre t).map λp=> .int (p.ks.length:Int))):=fJ (Y (aw _)<|cN (aA ct) hs rfl)
  refine dQ (xs:=[.int ((pre t).length:Int), .tuple ((pre t).map λp=> .str p.op), .tuple ((pre t).map λp=> .int (p.ks.length:Int))]) (vs:=[.d (.int ((pre t).length:Int)), .d (.tuple ((pre t).map λp=> .str p.op)), .d (.tuple ((pre t).map λp=> .int (p.ks.length:Int)))]) ?_ rfl
  refine ay (ae:=σ) (cM (ae:=σ) (aj rfl) c1) (ay (ae:=σ) (cM (ae:=σ) ?_ c2) (ay (ae:=σ) (cM (ae:=σ) ?_ c3) aI))
  .exact ge (l:=pre t) (m:=af) (g:=λp=> .str p.op) (cX (aj rfl) (Y (aw _)<|cN (aA ct) hs rfl)) (λp hp=>(ai _ rfl (eX (aj rfl) bc gB (ib p)))) (cN (aA ct) hs rfl)
  .refine ge (l:=pre t) (m:=af) (g:=λp=> .int (p.ks.length:Int)) (cX (aj rfl) (by refine Y (aw _) ?_;exact cN (aA ct) hs rfl)) (λp hp=>(ai _ rfl (eP (cM (aj rfl) (rk (b.pre p hp))) bc ?_))) (cN (aA ct) hs rfl)
   have hk:=JR (b.pre p hp)
   exact EC (aB hk (by decide))
theorem lz(H:(fO x y).isSome=true)(O:(gP l r).isSome=true):(gP (x::l) (y::r)).isSome=true:=by
 show(if cA x y=true then gP l r else fO x y).isSome=true
 split
 .exact O
 .exact H
theorem SQ:∀{l r:List ah},(∀x∈l,∀y∈r,(fO x y).isSome=true)->(gP l r).isSome=true
 |[],[],_=>rfl
 |[],_::_,_=>rfl
 |_::_,[],_=>rfl
 |x::l,y::r,h=>lz (h x (.head _) y (.head _)) (SQ λa ha b V=>h a (.tail _ ha) b (.tail _ V))
theorem AE{f g:α->ah}{l r:List α}(h:∀x∈l,∀y∈r,(fO (f x) (g y)).isSome=true):(gP (l.map f) (r.map g)).isSome=true:=by
 refine SQ λx hx y hy=>cr hx λa ha L5=>?_;clear hx;subst L5
 refine cr hy λc hc BN=>?_;clear hy;subst BN
 exact h a ha c hc
theorem E8(t:Tm):∀u,(fO (af t) (af u)).isSome=true:=by
 induction t using cU with
 |_ o l ih=>
  intro u
  cases u with|node o' l'=>
  rw[iD,iD,jw,jw]
  exact lz (y:= .str o') rfl (AE λx hx y zz=>ih x hx y)
theorem Vk(t u:Tm):(fO (m7 t) (m7 u)).isSome=true:=
 lz (y:= .int _) rfl (lz (y:= .tuple _) (AE λzz zz zz zz=>rfl) (lz (y:= .tuple _) (AE λzz zz zz zz=>rfl) (r:=[]) rfl))
theorem ahF(t u:Tm):(fO (pairD t) (pairD u)).isSome=true:=
 lz (Vk t u) (lz (E8 t u) (r:=[]) rfl)
theorem D5{α:Type}{f:α->ah}{l:List α}(di:l.length< 64)(M0:∀x∈l,(f x).canLay0=true)(hd:∀x∈l,(f x).depth<= 63)(hg:∀x∈l,gd (f x)=true)(hk:rj (l.map f)=true)(hc:∀x∈l,∀y∈l,(fO (f x) (f y)).isSome=true):gX (l.map f)=true:=by
 by_cases O:l.length<2
 .unfold gX;refine Y (aw _)<|Y (decide_eq_true O) ?_;rfl
 have bX:ce (.list (l.map f))=true:=by
  refine oX ?_ ?_
  .rw[mJ];exact ox M0
  .rw[gV];have:=oq hd;exact be [(B,(.num 63))] (J B k1,(.num 64)) rfl this
 have:td (l.map f)=true:=by
  unfold td
  refine Y bX<|Y (tv hg)<|Y hk ?_
  simp only[aw,cm,decide_eq_true_eq,DA,hU]
  refine⟨⟨by (exact kw O),di⟩,λx hx y hy=>?_⟩
  refine cr hx λa ha vY=>?_;clear hx;subst vY
  refine cr hy λc se j4=>?_;clear hy;subst j4
  exact hc a ha c se
 unfold gX;exact Y this<|Y (Bool.or_true _) rfl
theorem afQ{α:Type}{f:α->Int}(l:List α):eA (l.map λp=> .int (f p))=true:=ox λzz zz=>rfl
theorem Ri(t:Tm):(m7 t).depth<=2:=by
 unfold m7
 simp only[gV,eM]
 have H:=oq (f:=λp:Tm=>eB p.op) (n:=0) (l:=pre t) λx zz=>a8 _
 have O:=oq (f:=λp:Tm=>kG (p.ks.length:Int)) (n:=0) (l:=pre t) λx zz=>a8 _
 exact(eN _ _).elim (λf7=>(eN _ _).elim (λjl=>(eN _ _).elim (λlF=>be [(B,k0)] (J B k1,(.num 2)) rfl (fN lF)) λlF=>aO [(B,k0),(v1,J B k1),(v2,v1)] (J v2 k1,(.num 2)) rfl H (fN jl) (fY lF)) λjl=>(eN _ _).elim (λlF=>be [(B,k0)] (J B k1,(.num 2)) rfl (fN lF)) λlF=>bM [(B,k0),(v1,J B k1),(v2,v1),(v3,v2)] (J v3 k1,(.num 2)) rfl O (fN f7) (fY jl) (fY lF)) λf7=>kw λCs=>nz (be [(J B k1,k0)] (k1,k0) rfl f7)
theorem T7(g:dZ t):(m7 t).canLay0=true:=by
 unfold m7
 simp only[mJ,eA,Pj,DA]
 refine Y (ox (f:=λp:Tm=>eB p.op) λp hp=>vb _ (g p hp))<|Y (afQ _) ?_
 rfl
theorem Pq{l:List Tm}(di:l.length< 64)(V:∀x∈l,Bd x):gX (l.map pairD)=true:=by
 refine D5 di (λx hx=>?_) (λx hx=>?_) (λx zz=>SL x) ?_ λx zz y zz=>ahF x y
 .unfold pairD
  simp only[mJ,eA]
  refine Y (T7 (V x hx).g)<|Y (xE x (V x hx).g) ?_;rfl
 .unfold pairD
  simp only[gV,eM]
  have:=Ri x
  have:=uK x
  have:=(V x hx).d
  (rename_i pB aY;exact(eN _ _).elim (λpC=>(eN _ _).elim (λpc=>aM [(B,(.num 2)),(v1,B)] (J v1 k1,(.num 63)) (by kernel_rfl) pB (fN pc)) λpc=>bM [(B,(.num 50)),(v1,B),(v2,v1),(v3,v2)] (J v3 k1,(.num 63)) (by kernel_rfl) this aY (fN pC) (fY pc)) λpC=>(eN _ _).elim (λpc=>aM [(B,(.num 2)),(v1,B)] (J v1 k1,(.num 63)) (by kernel_rfl) pB (fN pc)) λpc=>aM [(B,k0),(v1,B)] (J v1 k1,(.num 63)) (by kernel_rfl) (fY pC) (fY pc))
 .unfold rj
  have:(l.map pairD).all (qx 4)=true:=by
   refine si hU ?_
   intro y hy
   refine cr hy λx zz rD=>?_;clear hy;subst rD
   rfl
  refine Y this ?_;simp
theorem aeo(di:l.length< 64)(V:∀x∈l,Bd x)(n:Nat)(σ:Sg)(h0:1<=n)(hn:∀x∈l,sz x+2<=n):RR n 3 [.d (.list (l.map af))] σ=some (.d (.tuple ((cK l).map af)),σ):=by
 refine xe (show ∃k,n=k+1 from⟨n - 1,by (exact bR ((bj _ _)) ((aU h0)))⟩) λn Bl=>?_;clear h0;subst Bl
 have hs:fg .sorted (.list (l.map pairD))=some (.list ((cK l).map pairD)):=by
  show(if gX (l.map pairD)=true then _ else _)=_
  exact Y (if_pos (Pq di V))<|Y (H' _) rfl
 have hl:=(gW l).length_eq
 have hT:fg .tuple (.list ((cK l).map af))=some (.tuple ((cK l).map af)):=fJ (Y (aw _)<|tM (aA hl) di)
 refine eQ rfl rfl (dR (cM ?_ hT))
 refine ge (cX (cM ?_ hs) (by refine Y (aw _) ?_;exact tM (aA hl) di)) (λx hx=>(ai _ rfl (aj rfl))) (tM (aA hl) di)
 exact ge (cX (aj rfl) (Y (aw _)<|mu di rfl)) (λx hx=>(ai _ rfl (dQ (ay (dJ (ay (aj rfl) aI) (Rh (V x hx) n σ (by have:=hn x hx;exact aM [(J B (.num 2),J v1 k1)] (J B k1,v1) rfl this))) (ay (aj rfl) aI)) rfl))) (mu di rfl)
section
variable{R:Ft}{ρ aE:List aK}{σ ae aF:Sg}{c:E}{v:as7}{r:Option g9}{S S₁ nY:bh.S}
theorem qu(h:ev au R c ρ σ=some ([.d (.bool true)],ae))(k:aR au R S₁ ρ ae=some (.ret v aF)):aR au R (.ca c S₁ nY S) ρ σ=some (.ret v aF):=Ww h (by refine Y k ?_;rfl)
theorem io(h:ev au R c ρ σ=some ([.d (.bool false)],ae))(k:aR au R S ρ ae=r):aR au R (.ca c S₁ .bI S) ρ σ=r:=Wx h k
theorem AF(h:ev au R c ρ σ=some ([.d (.bool true)],ae))(k1:aR au R S₁ ρ ae=some (.next aE aF))(k:aR au R S aE aF=r):aR au R (.ca c S₁ nY S) ρ σ=r:=Ww h (Y k1<|k)
theorem Vl(h:ev au R c ρ σ=some ([.d (.bool false)],ae))(k1:aR au R nY ρ ae=some (.next aE aF))(k:aR au R S aE aF=r):aR au R (.ca c S₁ nY S) ρ σ=r:=Wx h (Y k1<|k)
theorem fC(h:ev au R e ρ σ=some ([.d x],ae))(q:x=y):ev au R e ρ σ=some ([.d y],ae):=q▸h
end
theorem E9(ha:ce a=true)(V:ce b=true):gI .eq a b=some (cA a b):=by
 show(if (ce a && ce b)=true then some _ else none)=_
 exact Y ha<|Y V<|Y (if_pos (show(true && true)=true from rfl)) rfl
theorem E'(ha:ce a=true)(V:ce b=true):gI .ne a b=some (!cA a b):=by
 show(if (ce a && ce b)=true then some _ else none)=_
 exact Y ha<|Y V<|Y (if_pos (show(true && true)=true from rfl)) rfl
theorem Fa:ce (.int i)=true:=oX rfl (by simp[gV])
theorem T9(a b:Int):cA (.int a) (.int b)=decide (a=b):=by
 have:=qm (.int a) (.int b) rfl rfl
 by_cases e:a=b
 .subst e;simpa using this.mpr rfl
 .have h:¬kG a= .int b:=λq=>e (by cases q;rfl)
  refine Y (decide_eq_false e) ?_
  cases q:cA (.int a) (.int b) with
  |false=>rfl
  |true=>exact absurd (this.mp q) h
theorem eq_int(a b:Int):gI .eq (.int a) (.int b)=some (decide (a=b)):=by exact Y (E9 Fa Fa)<|Y (T9 _ _) rfl
theorem ai6:mf (.tuple (x::xs)) 0=some x:=by
 show(jI (xs.length+1) 0).bind _=_
 unfold jI
 simp
theorem Ua(h:xs.length<=100000):fg .len (.tuple xs)=some (.int (xs.length:Nat)):=by
 show fE ((xs.length:Nat):Int)=_
 exact qh h
theorem rh(h:xs.length<=100000):fg .len (.list xs)=some (.int (xs.length:Nat)):=by
 show fE ((xs.length:Nat):Int)=_
 exact qh h
noncomputable def Fb(o:Str):List Tm->Tm
 |[x]=>x
 |r=> .node o r
theorem Rj(aa:List Str)(o:Str)(l:List Tm):made aa o l=Fb o (cK (l.flatMap (sel aa o))):=by
 have e:l.flatMap (rE aa o)=l.flatMap (sel aa o):=by
  congr 1;funext t;exact Rd aa o t
 unfold made
 refine Y e ?_;rfl
theorem xH(aa:List Str)(o:Str)(b:Bd t):(sel aa o t).length<= 60:=
 aB (tw _) (aB (uH aa o t).2.1 b.l)
section
variable{aa:List Str}(ho:ir aa)
include ho
theorem Eh(iB:o∈al)(t:Tm):Bd t->∀n σ,sz t+1<=n->RR n 7 [.me (bH aa), .d (.str o), .d (af t)] σ=some (.d (.tuple ((sel aa o t).map af)),σ):=by
 induction t using cU with
 |_ o' l ih=>
  intro b n σ hn
  refine xe (show ∃k,n=k+1 from⟨n - 1,by (exact bR ((bj _ _)) ((aU (iL hn))))⟩) λn BF=>?_;subst BF
  have bF:=l9 (.node o' l)
  refine xe (show ∃k,n=k+1 from⟨n - 1,by (exact bR ((bj _ _)) ((aU (aM [(k1,B),(J B k1,J v1 k1)] (k1,v1) rfl bF hn))))⟩) λn' Bx=>?_;subst Bx
  have br:=xH aa o b
  have hc:ev au (RR (n'+1)) (.mw (.cmp .ne (.item (L 2) (I 0)) (L 1)) (.j6 (dc 6 (L 0) [L 2]))) [.v (.me (bH aa)), .v (.d (.str o)), .v (.d (af (.node o' l))), .un, .un] σ=some ([.d (.bool ((!decide (o'=o))||(!bA aa (.node o' l))))],σ):=
   yy (dD (eX (aj rfl) bc gB (ib _)) (aj rfl) (ne_str b.g.op iB)) λzz=>yh (fB (aj rfl) (ay (aj rfl) aI) (xo ho b n' σ))
  refine eQ rfl rfl ?_
  by_cases h:dq aa o (.node o' l)
  .refine Y (im aa h)<|qu (fC hc ?_) (dR (dQ (ay (aj rfl) aI) rfl))
   by_cases H:o'=o
   .have:bA aa (.node o' l)=false:=by simpa using h H
    refine Y this ?_;simp
   .refine Y (decide_eq_false H) ?_;rfl
  .unfold dq at h
   rw[pI,pJ] at h
   refine xa h λH O=>?_
   have H:o'=o:=H
   subst H
   rw[kL aa (show dG aa o' l=true from O)] at br⊢
   refine io (fC hc (by refine Y O<|Y (decide_eq_true rfl) ?_;rfl)) (dR ?_)
   have hT:fg .tuple (.list ((l.flatMap (sel aa o')).map af))=some (.tuple ((l.flatMap (sel aa o')).map af)):=fJ (Y (aw _)<|aV br rfl)
   refine cM ?_ hT
   refine uS (kN (kR (aj rfl) (eO b)) (by refine Y (aw _) ?_;have:=b.len;show l.length<=_;exact aV this rfl)) (λz hz=>(bQ _ rfl ?_ (λw zz=>(ai _ rfl (aj rfl))))) (aV br rfl)
   have wz:=j0 (o:=o') hz
   exact kN (fB (aj rfl) (ay (aj rfl) (ay (aj rfl) aI)) (ih z hz (b.ez hz) (n'+1) σ (aO [(J B k1,v1),(J v1 k1,J (J v2 k1) k1)] (J B k1,J v2 k1) rfl wz hn))) (by refine Y (aw _) ?_;have:=xH aa o' (b.ez hz);exact aV this rfl)
theorem SR(iB:o∈al)(V:∀x∈ts,Bd x)(hd:d= .list (ts.map af)\/d= .tuple (ts.map af))(hl:cR ts<= 60)(n:Nat)(σ:Sg)(h3:3<=n)(hn:∀x∈ts,sz x+4<=n):
 RR n 8 [.me (bH aa), .d (.str o), .d d] σ=some (.d (af (made aa o ts)),σ):=by
 refine xe (show ∃k,n=k+1 from⟨n - 1,by (exact bR ((bj _ _)) ((aU (be [((.num 3),B)] (k1,B) rfl h3))))⟩) λn rB=>?_;subst rB
 have br:(ts.flatMap (sel aa o)).length<= 60:=aB (tw _) (aB (zV λx zz=>(uH aa o x).2.1) hl)
 have YN:∀x∈ts.flatMap (sel aa o),Bd x/\sz x+4<=n+1:=λx hx=>by
  refine fD hx λk hk hx=>?_
  have H:=AC aa o k x hx
  have O:=hn k hk
  exact⟨(V k hk).sel aa x hx,by (exact aO [(J B (.num 4),J v1 k1),(v2,B)] (J v2 (.num 4),J v1 k1) rfl O H)⟩
 have fZ:=(gW (ts.flatMap (sel aa o))).length_eq
 have YO:ts.length<= 60:=aB (tw _) hl
 refine eQ rfl rfl (dy (ae:=σ) (v:= .d (.tuple ((cK (ts.flatMap (sel aa o))).map af))) ?_ (dR ?_))
 .refine dJ (ae:=σ) (vs:=[.d (.list ((ts.flatMap (sel aa o)).map af))]) (ay (ae:=σ) ?_ aI) (aeo (be [(B,(.num 60))] (J B k1,(.num 64)) rfl br) (λx hx=>(YN x hx).1) n σ (be [((.num 3),J B k1)] (k1,B) rfl h3) λx hx=>by have:=(YN x hx).2;exact aM [(J B (.num 4),J v1 k1)] (J B (.num 2),v1) rfl this)
  refine uS (l:=ts) (m:=af) (s:=sel aa o) (m2:=af) (g:=af) ?_ (λz hz=>(bQ _ rfl ?_ (λw zz=>(ai _ rfl (aj rfl))))) (aV br rfl)
  .rcases hd with rfl|rfl
   .exact cX (aj rfl) (Y (aw _)<|aV YO rfl)
   .exact kN (aj rfl) (Y (aw _)<|aV YO rfl)
  .exact kN (fB (aj rfl) (ay (aj rfl) (ay (aj rfl) aI)) (Eh ho iB z (V z hz) n σ (by have:=hn z hz;exact aM [(J B (.num 4),J v1 k1)] (J B k1,v1) rfl this))) (by refine Y (aw _) ?_;have:=xH aa o (V z hz);exact aV this rfl)
 .refine Y (Rj _ _ _) ?_
  generalize cK (ts.flatMap (sel aa o))=r at fZ
  have hc:gI .eq (.int ((r.map af).length:Nat)) (.int 1)=some (decide (((r.map af).length:Int)=1)):=eq_int _ _
  have L6:fg .len (.tuple (r.map af))=some (.int ((r.map af).length:Nat)):=Ua (Y (aw _)<|cN (aA fZ) br rfl)
  refine nR (ae:=σ) (dD (ae:=σ) (cM (aj rfl) L6) bc hc) (λh=>?_) λh=>?_
  .have h:=of_decide_eq_true h
   refine xe (show ∃x,r=[x] from ZE.mp (by rw[aw] at h;exact inj (b:=1) h)) λx vJ=>?_;clear hc L6 h;clear fZ;subst vJ
   .exact Y (show Fb o [x]=x from rfl)<|eX (ae:=σ) (aj rfl) bc gB (ai6 (xs:=[]))
  .have h:=of_decide_eq_false h
   have t8:j7 .add (.tuple [.str o]) (.tuple (r.map af))=some (af (.node o r)):=by
    rw[iD,jw]
    exact fJ (by refine Y cS<|Y (aw _) ?_;simp only[bL,dO];exact aM [(B,v1),(v1,(.num 60))] (J (J k0 k1) B,(.num 100000)) (by kernel_rfl) (aA fZ) br)
   have e:Fb o r= .node o r:=by
    have h:¬r.length=1:=by rw[aw] at h;exact λe=>h (e▸rfl)
    clear hc L6 t8;cases r with
    |nil=>rfl
    |cons x q=>clear fZ;cases q with
     |nil=>exact absurd rfl h
     |cons _ _=>rfl
   exact Y e<|eP (ae:=σ) (dQ (ay (aj rfl) aI) rfl) (aj rfl) t8
theorem DP(t:Tm):Bd t->∀n σ,sz t+6<=n->RR n 9 [.me (bH aa), .d (af t)] σ=some (.d (af (normal aa t)),σ):=by
 induction t using cU with
 |_ o l ih=>
  intro b n σ hn
  refine xe (show ∃k,n=k+1 from⟨n - 1,by (exact bR ((bj _ _)) ((aU (aM [(J B (.num 6),v1)] (k1,v1) rfl hn))))⟩) λn Bg=>?_;subst Bg
  refine xe (show ∃k,n=k+1 from⟨n - 1,by (exact bR ((bj _ _)) ((aU (aM [(J B (.num 6),J v1 k1)] (k1,v1) rfl hn))))⟩) λn' AX=>?_;subst AX
  have br:=b.len
  refine eQ rfl rfl (dy (ae:=σ) (v:= .d (.list (l.map λk=>af (normal aa k)))) ?_ (dR ?_))
  .refine ge (kN (kR (aj rfl) (eO b)) (by refine Y (aw _) ?_;show l.length<=_;exact aV br rfl)) (λk hk=>(ai _ rfl (fB (aj rfl) (ay (aj rfl) aI) (ih k hk (b.ez hk) (n'+1) σ (by have:=j0 (o:=o) hk;exact aO [(J B k1,v1),(J v1 (.num 6),J (J v2 k1) k1)] (J B (.num 6),J v2 k1) rfl this hn))))) (aV br rfl)
  .have em:(l.map λk=>af (normal aa k))=(l.map (normal aa)).map af:=by refine Y dW ?_;rfl
   have hT:fg .tuple (.list (l.map λk=>af (normal aa k)))=some (.tuple (l.map λk=>af (normal aa k))):=fJ (Y (aw _)<|aV br rfl)
   refine nR (fB (aj rfl) (ay (aj rfl) aI) (xo ho b n' σ)) (λh=>?_) λh=>?_
   .refine fB (aj rfl) (ay (eX (aj rfl) bc gB (ib _)) (ay (aj rfl) aI)) ?_
    rw[em,show normal aa (.node o l)=made aa o (l.map (normal aa)) by rw[Hq,if_pos (show dG aa o l=true from h),DN]]
    refine SR ho b.g.op (λx hx=>?_) (.inl rfl) ?_ (n'+1) σ (aM [(J B (.num 6),J (J v1 k1) k1)] ((.num 3),J v1 k1) rfl hn) λx hx=>?_
    .refine cr hx λk hk vp=>?_;clear hx;subst vp
     exact(b.ez hk).normal aa
    .exact aB (xG λk zz=>(sJ aa k).2.1) (aB AD b.l)
    .refine cr hx λk hk vC=>?_;clear hx;subst vC
     have:=(sJ aa k).1
     have:=j0 (o:=o) hk
     (rename_i aY;exact bM [(J B k1,v1),(v2,B),(J v1 (.num 6),J (J v3 k1) k1)] (J v2 (.num 4),J v3 k1) rfl this aY hn)
   .have h':¬bA aa (.node o l)=true:=by refine Y h ?_;simp
    have t8:j7 .add (.tuple [.str o]) (.tuple (l.map λk=>af (normal aa k)))=some (af (normal aa (.node o l))):=by
     rw[jt aa h',iD,jw,em]
     exact fJ (by refine Y cS<|Y (aw _)<|Y (aw _) ?_;simp only[bL,dO];exact be [(B,(.num 400))] (J (J k0 k1) B,(.num 100000)) (by kernel_rfl) br)
    exact eP (dQ (ay (eX (aj rfl) bc gB (ib _)) aI) rfl) (cM (aj rfl) hT) t8
theorem anm(bt:Bd t)(bu:Bd u):gI .eq (af t) (af u)=some (eqT t u):=by
 show(if (ce (af t) && ce (af u))=true then some _ else none)=_
 refine Y bt.ok<|Y bu.ok<|Y (if_pos (show(true && true)=true from rfl)) ?_;rfl
theorem ab7(bt:Bd t)(bu:Bd u)(n:Nat)(σ:Sg)(H:sz t+7<=n)(O:sz u+7<=n):RR n 10 [.me (bH aa), .d (af t), .d (af u)] σ=some (.d (.bool (eqT (normal aa t) (normal aa u))),σ):=by
 refine xe (show ∃k,n=k+1 from⟨n - 1,by (exact bR ((bj _ _)) ((aU (aM [(J B (.num 7),v1)] (k1,v1) rfl O))))⟩) λn ano=>?_;subst ano
 refine eQ rfl rfl (dR ?_)
 exact dD (fB (aj rfl) (ay (aj rfl) aI) (DP ho t bt n σ (aM [(J B (.num 7),J v1 k1)] (J B (.num 6),v1) rfl H))) (fB (aj rfl) (ay (aj rfl) aI) (DP ho u bu n σ (aM [(J B (.num 7),J v1 k1)] (J B (.num 6),v1) rfl O))) (anm ho (bt.normal aa) (bu.normal aa))
end
section
variable(aa:List Str)
theorem PM{Q:Tm->Prop}(hQ:∀x y,Q x->Q (.node o [x,y]))(hq:∀y x,Q x->Q (.node o [x,y])){R:Tm->Prop}:∀{l:List Tm},1<=l.length->(∀x∈l,∀p∈pre x,R p)->(∀x∈l,∀y,R (.node o [x,y]))->∀p∈pre (iq o l),R p
 |[],h,_,_=>by simp at h
 |[x],_,H,_=>H x (.head _)
 |x::y::l,_,H,O=>by
  intro p hp
  rw[HL,fH,mN,mN,xl] at hp
  rcases bK.mp hp with rfl|hp
  .exact O x (.head _) _
  .refine a9 (ln.mp hp) (λhp=>?_) (λhp=>?_)
   .exact H x (.head _) p hp
   .rw[gU] at hp
    exact PM hQ hq (by simp) (λz hz=>H z (.tail _ hz)) (λz hz=>O z (.tail _ hz)) p hp
theorem Pr(o:Str):∀{l:List Tm},l≠[]->sz (iq o l)+1=bG l+l.length/\lv (iq o l)=cR l/\dp (iq o l)+1<=fe l+l.length
 |[],h=>absurd rfl h
 |[x],_=>by
  refine bO ?_ ?_ ?_
  .simp[DO,cT,oA]
  .simp[DO,eC,xt]
  .simp[DO,ik,zU]
 |x::y::l,_=>by
  refine cj (Pr o (l:=y::l) (by simp)) λH O h3=>?_
  rw[HL,dA,cT,cT,oA,jf (by simp),eC,eC,xt,kK,ik,ik,zU,cT,eC,ik,O]
  simp only[bL] at*
  exact⟨bR (bM [(J B k1,J v1 (J v2 k1))] (J (J (J v3 (J B k0)) k1) k1,J (J v3 v1) (J (J v2 k1) k1)) rfl (aA H)) (bM [(J B (J v1 k1),J v2 k1)] (J (J v3 B) (J (J v1 k1) k1),J (J (J v3 (J v2 k0)) k1) k1) rfl (aA H.symm)),⟨bR (aM [] (J B (J v1 k0),J B v1) rfl) (aM [] (J B v1,J B (J v1 k0)) rfl),(eN _ _).elim (λpc=>(eN _ _).elim (λlF=>bM [(B,v1),(v1,v2)] (J (J B k1) k1,J v2 (J (J v3 k1) k1)) rfl (fN lF) (mI _ _)) λlF=>pg [(J B k1,J v1 (J v2 k1)),(v3,B),(v4,v3),(v1,v5)] (J (J v4 k1) k1,J v5 (J (J v2 k1) k1)) rfl h3 (fN pc) (fY lF) (oo _ _)) λpc=>(eN _ _).elim (λlF=>bM [(B,v1),(v1,v2)] (J (J B k1) k1,J v2 (J (J v3 k1) k1)) rfl (fN lF) (mI _ _)) λlF=>bM [(B,k0),(v1,B)] (J (J v1 k1) k1,J v2 (J (J v3 k1) k1)) rfl (fY pc) (fY lF)⟩⟩
theorem JS(h:∀x∈l,dp x<=n):fe l<=n:=by
 induction l with
 |nil=>exact dn _
 |cons x l ih=>
  rw[ik]
  have:=h x (.head _)
  have:=ih λy hy=>h y (.tail _ hy)
  (rename_i aY;exact(eN _ _).elim (λeh=>ph aY (fN eh)) λeh=>ph this (fY eh))
theorem Vm:∀{l:List Tm} {x:Tm},x∈l->lv x+l.length<=cR l+1
 |y::l,x,h=>by
  rw[eC,bL]
  rcases bK.mp h with rfl|h
  .have:=tw l;exact aO [(B,v1)] (J v2 (J B k1),J (J v2 v1) k1) rfl this
  .have:=Vm h;have:=xX y;(rename_i aY;exact bM [(k1,B),(J v1 v2,J v3 k1)] (J v1 (J v2 k1),J (J B v3) k1) rfl this aY)
theorem SS:∀{l:List Tm},(∀x∈l,sz (f x)+1<=2*sz x)->bG (l.map f)+l.length<=2*bG l
 |[],_=>a8 _
 |t::l,h=>by rw[bE,cT,cT,bL];have:=h t (.head _);have:=SS λx hx=>h x (.tail _ hx);(rename_i aY;exact eH [(J B v1,.mulL 2 v2),(J v3 k1,.mulL 2 v4)] (J (J v3 B) (J v1 k1),.mulL 2 (J v4 v2)) rfl this aY)
theorem Pa(t:Tm):sz (nested aa t)+1<=2*sz t/\lv (nested aa t)<=lv t/\dp (nested aa t)+1<=dp t+lv t:=by
 induction t using cU with
 |_ o l ih=>
  have a:=SS λx hx=>(ih x hx).1
  have b:=xG λx hx=>(ih x hx).2.1
  by_cases V:bA aa (.node o l)=true
  .refine Y (xh aa V) ?_
   show sz (iq o (l.map (nested aa)))+1<=_/\lv (iq o (l.map (nested aa)))<=_/\dp (iq o (l.map (nested aa)))+1<=_
   have O:=lx aa V
   have bB:l≠[]:=by rintro rfl;simp[Tm.ks] at O
   refine cj (Pr o (l:=l.map (nested aa)) (by simpa using bB)) λh3 h4 h5=>?_
   rw[aw] at h3 h5
   have hd:fe (l.map (nested aa))+l.length<=fe l+cR l:=by
    have:∀x∈l.map (nested aa),dp x<=fe l+cR l - l.length:=λx hx=>by
     refine cr hx λk hk vq=>?_;clear hx;subst vq
     have:=(ih k hk).2.2
     have:=xD hk
     have:=Vm hk
     (rename_i pB aY;exact lg [_,_,_,_,_,_,_] [(J B v1,J v2 k1),(v3,v4),(J v5 k1,J v3 B),(J v4 v2,J v6 v1)] (v5,v6) rfl this aY pB (bj _ _))
    have:=JS this
    have:=tw l
    (rename_i aY;exact eH [(B,v1),(J v1 v2,J v3 v4)] (J B v2,J v3 v4) rfl aY (aU (Mn this)))
   rw[dA,jf bB,kK,h4]
   exact⟨bM [(J B k1,J v1 v2),(J v1 v2,.mulL 2 v3)] (J B k1,.mulL 2 (J v3 k1)) rfl (aA h3) a,⟨b,eH [(J B v1,J v2 v3),(J v4 k1,J B v1)] (J v4 k1,J (J v2 k1) v3) rfl hd h5⟩⟩
  .refine Y (xi aa V) ?_
   show sz (.node o (l.map (nested aa)))+1<=_/\lv (.node o (l.map (nested aa)))<=_/\dp (.node o (l.map (nested aa)))+1<=_
   clear V;cases l with
   |nil=>
    refine bO (by simp[dA,cT,oA]) (a8 _) ?_
    simp[kK,zU,ik,xC]
   |cons y r=>
    have hd:fe ((y::r).map (nested aa))+1<=fe (y::r)+cR (y::r):=by
     have:∀x∈(y::r).map (nested aa),dp x<=fe (y::r)+cR (y::r) - 1:=λx hx=>by
      refine cr hx λk hk BF=>?_;clear hx;subst BF
      have:=(ih k hk).2.2
      have:=xD hk
      have:=xF hk
      (rename_i pB aY;exact pg [(B,v1),(v2,v3),(J v4 k1,J v2 B),(J v3 v1,J v5 k1)] (v4,v5) rfl this aY pB (bj _ _))
     have:=JS this
     have:=tw (y::r)
     (rename_i aY;exact bM [(B,v1),(J v1 k1,J v2 v3)] (J B k1,J v2 v3) rfl aY (aU (FJ this)))
    rw[dA,dA,jf (by simp),jf (by simp),kK,kK]
    exact⟨aO [(J B v1,.mulL 2 v2)] (J (J B k1) k1,.mulL 2 (J v2 k1)) rfl a,⟨b,aO [(J B k1,J v1 v2)] (J (J B k1) k1,J (J v1 k1) v2) rfl hd⟩⟩
theorem ac9(ho:o∈al)(h:l≠[])(hl:∀x∈l,dZ x):dZ (iq o l):=
 PM (Q:=λzz=>True) (λzz zz zz=>trivial) (λzz zz zz=>trivial) (R:=λp=>p.op∈al) (by clear hl;cases l with|nil=>exact absurd rfl h|cons x r=>simp) (λx hx p hp=>hl x hx p hp) λzz zz zz=>ho
theorem ab8(t:Tm):dZ t->dZ (nested aa t):=by
 induction t using cU with
 |_ o l ih=>
  intro g
  by_cases V:bA aa (.node o l)=true
  .refine Y (xh aa V) ?_
   have O:=lx aa V
   refine ac9 g.op (by intro e;rw[Dk.mp e] at O;simp at O) λx hx=>?_
   refine cr hx λk hk A3=>?_;clear hx;subst A3
   exact ih k hk (g.ez hk)
  .refine Y (xi aa V) ?_
   intro p hp
   rw[fH,jd] at hp
   rcases bK.mp hp with rfl|hp
   .exact g.op
   .refine fD hp λk hk hp=>cr hk λy hy anp=>?_;clear hk;subst anp
    exact ih y hy (g.ez hy) p hp
theorem Bd.nested(b:Bd t)(H:sz t<=200)(O:dp t+lv t<= 50):Bd (nested aa t):=by
 exact cj (Pa aa t) λa c d=>⟨ab8 aa t b.g,by (exact aM [(J B k1,.mulL 2 v1),(v1,(.num 200)),(v1,(.num 200))] (B,(.num 400)) rfl a H H),by (exact aO [(J B k1,J v1 v2),(J v1 v2,(.num 50))] (B,(.num 50)) rfl d O),aB c b.l⟩
theorem Qy(o:Str)(x:Tm):∀init:List Tm,iq o (init++[x])=init.foldr (λk a=> .node o [k,a]) x
 |[]=>rfl
 |[y]=>rfl
 |y::z::r=>by
  refine Y List.foldr_cons<|sl (Qy o x (z::r)) ?_;rfl
end
theorem Jo(hk:J8 k=true)(h:xs.length<=100000):nT k (.list xs)=some (.list (B6 k xs)):=
 iT (by rw[hk,decide_eq_true (show xs.length<=lim by unfold lim;exact aV h rfl)];rfl) rfl
theorem PN(hT:∃l,T= .d (af (.node o l))):∀(r:List Tm) (rV:Tm) (b3:aK),
 ∃km,gh (λx ρ σ=>(cg (.one 3) x ρ).bind λaE=>aR au (RR n) (.asg 4 (cB [.item (L 1) (I 0),L 3,L 4]) .bI) aE σ) (r.map af) [.v sv, .v T, .v so,b3, .v (.d (af rV))] σ=some (.next [.v sv, .v T, .v so,km, .v (.d (af (r.foldl (λa k=> .node o [k,a]) rV)))] σ)
 |[],rV,b3=>⟨b3,rfl⟩
 |k::r,rV,b3=>by
  obtain⟨c3,ih⟩:=PN hT r (.node o [k,rV]) (.v (.d (af k)))
  refine⟨c3,?_⟩
  obtain⟨l,rfl⟩:=hT
  have step:aR au (RR n) (.asg 4 (cB [.item (L 1) (I 0),L 3,L 4]) .bI) [.v sv, .v (.d (af (.node o l))), .v so, .v (.d (af k)), .v (.d (af rV))] σ=some (.next [.v sv, .v (.d (af (.node o l))), .v so, .v (.d (af k)), .v (.d (af (.node o [k,rV])))] σ):=
   dy (dQ (ay (eX (aj rfl) bc gB (ib _)) (ay (aj rfl) (ay (aj rfl) aI))) rfl) rfl
  rw[bE,gh,show cg (.one 3) (af k) [.v sv, .v (.d (af (.node o l))), .v so,b3, .v (.d (af rV))]=some [.v sv, .v (.d (af (.node o l))), .v so, .v (.d (af k)), .v (.d (af rV))] from rfl,iC,step,iC]
  exact ih
theorem aep:mf (.list (xs++[x])) (-1)=some x:=by
 show(jI (xs++[x]).length (-1)).bind _=_
 unfold jI
 refine Y cS ?_
 simp only[bL,dO]
 rw[if_neg XW,if_pos (XX _),iC]
 have:(-1+((xs.length+(0+1):Nat):Int)).toNat=xs.length:=XY _
 refine Y this ?_
 simp
theorem ada(ho:ir aa)(t:Tm):Bd t->∀n σ,sz t+2<=n->RR n 11 [.me (bH aa), .d (af t)] σ=some (.d (af (nested aa t)),σ):=by
 induction t using cU with
 |_ o l ih=>
  intro b n σ hn
  refine xe (show ∃k,n=k+1 from⟨n - 1,by (exact bR ((bj _ _)) ((aU (aM [(J B (.num 2),v1)] (k1,v1) rfl hn))))⟩) λn j4=>?_;subst j4
  refine xe (show ∃k,n=k+1 from⟨n - 1,by (exact bR ((bj _ _)) ((aU (aM [(J B (.num 2),J v1 k1)] (k1,v1) rfl hn))))⟩) λn' BO=>?_;subst BO
  have br:=b.len
  have em:(l.map λk=>af (nested aa k))=(l.map (nested aa)).map af:=by refine Y dW ?_;rfl
  refine eQ rfl rfl (dy (ae:=σ) (v:= .d (.list (l.map λk=>af (nested aa k)))) ?_ ?_)
  .exact ge (kN (kR (aj rfl) (eO b)) (by refine Y (aw _) ?_;show l.length<=_;exact aV br rfl)) (λk hk=>(ai _ rfl (fB (aj rfl) (ay (aj rfl) aI) (ih k hk (b.ez hk) (n'+1) σ (by have:=j0 (o:=o) hk;exact aO [(J B k1,v1),(J v1 (.num 2),J (J v2 k1) k1)] (J B (.num 2),J v2 k1) rfl this hn))))) (aV br rfl)
  .have hc:ev au (RR (n'+1)) (.j6 (dc 6 (L 0) [L 1])) [.v (.me (bH aa)), .v (.d (af (.node o l))), .v (.d (.list (l.map λk=>af (nested aa k)))), .un, .un] σ=some ([.d (.bool (!bA aa (.node o l)))],σ):=
    yh (fB (aj rfl) (ay (aj rfl) aI) (xo ho b n' σ))
   by_cases h:bA aa (.node o l)=true
   .refine io (fC hc (by refine Y h ?_;rfl)) ?_
    have O:=lx aa h
    refine iz (show ∃init x,l.map (nested aa)=init++[x] from by
     have bB:l.map (nested aa)≠[]:=by intro e;rw[Dk.mp e] at O;simp[Tm.ks] at O
     exact ie _ _ ((Ze bB).symm)) λinit x hl=>?_
    have YQ:init.length<=400:=by
     have:=congrArg pR hl
     rw[aw,cS] at this
     exact aM [(J B (J k0 k1),v1),(v1,(.num 400))] (B,(.num 400)) rfl (aA this.symm) br
    refine Y (xh aa h) ?_
    show aR _ _ _ _ _=some (.ret (.d (af (iq o (l.map (nested aa))))) σ)
    refine Y em<|Y hl<|Y fk ?_
    have fZ:nT .s8 (.list (init.map af++[af x]))=some (.list (init.reverse.map af)):=by
     refine(Jo rfl (by refine Y cS<|Y (aw _) ?_;simp only[bL,dO];exact be [(B,(.num 400))] (J B (J k0 k1),(.num 100000)) (by kernel_rfl) YQ)).trans ?_
     show some (jW (init.map af++[af x]).dropLast.reverse)=_
     exact Y Z2<|Y OT rfl
    refine xe (PN (n:=n'+1) (σ:=σ) (sv:= .me (bH aa)) (T:= .d (af (.node o l))) (so:= .d (.list (init.map af++[af x]))) (o:=o) ⟨l,rfl⟩ init.reverse x .un) λb3 cH=>?_
    rw[List.foldl_reverse,<- Qy] at cH
    exact dy (eX (aj rfl) bc Qs aep) (mh (cX (kR (aj rfl) fZ) (Y (aw _)<|Y GS<|aV YQ rfl)) cH (dR (aj rfl)))
   .have fF:bA aa (.node o l)=false:=by simpa using h
    have hT:fg .tuple (.list (l.map λk=>af (nested aa k)))=some (.tuple (l.map λk=>af (nested aa k))):=fJ (Y (aw _)<|aV br rfl)
    have t8:j7 .add (.tuple [.str o]) (.tuple (l.map λk=>af (nested aa k)))=some (af (nested aa (.node o l))):=by
     rw[xi aa h,iD,jw,em]
     exact fJ (by refine Y cS<|Y (aw _)<|Y (aw _) ?_;simp only[bL,dO];exact be [(B,(.num 400))] (J (J k0 k1) B,(.num 100000)) (by kernel_rfl) br)
    exact qu (fC hc (by refine Y fF ?_;rfl)) (dR (eP (dQ (ay (eX (aj rfl) bc gB (ib _)) aI) rfl) (cM (aj rfl) hT) t8))
noncomputable def kn:Nat:=500000000000
theorem D6(h:n<kn):df (n:Int)=true:=by
 unfold df
 simp only[cm,decide_eq_true_eq]
 exact M3 (fA h) (by decide)
theorem ED(h:n<kn):fE (n:Int)=some (.int n):=by
 unfold fE
 exact Y (if_pos (D6 h)) rfl
theorem Fc(a b:Int):gI .lt (.int a) (.int b)=some (decide (a<b)):=rfl
theorem qv(a b:Int):gI .gt (.int a) (.int b)=some (decide (b<a)):=rfl
theorem ahG(h:a+b<kn):fE ((a:Int)+(b:Int))=some (.int ((a+b:Nat):Int)):=by
 exact sl (aaW _ _)<|ED h
theorem ahH(h:a*b<kn):fE ((a:Int)*(b:Int))=some (.int ((a*b:Nat):Int)):=by
 exact sl (Int.natCast_mul _ _)<|ED h
theorem Vn(ha:a<kn)(V:b<kn):(df (a:Int) && df (b:Int))=true:=by
 rw[D6 ha,D6 V];rfl
theorem uT(h:a+b<kn):j7 .add (.int a) (.int b)=some (.int ((a+b:Nat):Int)):=by
 show(intD (.int (b:Int))).bind (λc=>if (df (a:Int) && df c)=true then fE ((a:Int)+c) else none)=_
 rw[show intD (.int (b:Int))=some (b:Int) from rfl,iC,Vn (by (exact aO [(J (J B v1) k1,v2)] (J B k1,v2) rfl h)) (by (exact aO [(J (J B v1) k1,v2)] (J v1 k1,v2) rfl h)),if_pos rfl]
 exact ahG h
theorem Jp(ha:a<kn)(V:b<kn)(h:a*b<kn):j7 .mul (.int a) (.int b)=some (.int ((a*b:Nat):Int)):=by
 show(intD (.int (b:Int))).bind (λc=>Ms (a:Int) c)=_
 refine Y (show intD (.int (b:Int))=some (b:Int) from rfl)<|Y (iC _ _) ?_
 unfold Ms
 exact Y (Vn ha V)<|Y (if_pos rfl)<|ahH h
theorem ahI{a b:Nat}(ha:a<kn)(h0:0<b):j7 .mod (.int a) (.int b)=some (.int ((a % b:Nat):Int)):=by
 show(if decide ((0:Int)<b)=true then fE ((a:Int) % b) else none)=_
 rw[decide_eq_true (show(0:Int)<b from mr (a:=0) (by assumption)),if_pos rfl,<- G3]
 exact ED (wK (Nat.mod_le _ _) ha)
noncomputable def nS(c:Nat):ah:= .int (c:Int)
def sg(cs:List Nat)(k:Nat):Sg:=[(bl "cells", .list (cs.map nS)),(bl "at", .int (k:Int))]
structure BP(cs:List Nat):Prop where
 len:cs.length<= 63
 lt:∀c∈cs,c<1000003
theorem adb(cs:List Nat)(k:Nat):(sg cs k).lookup (bl "cells")=some (.list (cs.map nS)):=rfl
theorem SU(cs:List Nat)(k:Nat):(sg cs k).lookup (bl "at")=some (.int (k:Int)):=by
 unfold sg
 refine Y lT ?_
 have:(bl "at"==bl "cells")=false:=by decide+kernel
 refine Y this ?_
 rfl
theorem ai7(cs:List Nat)(k j:Nat):((sg cs k).map λp=>if p.1=bl "at" then(bl "at",kG (j:Int)) else p)=sg cs j:=by
 unfold sg
 have:¬(bl "cells"=bl "at"):=by decide+kernel
 simp only[bE,uF,if_true]
 exact Y (if_neg this) rfl
section
variable{R:Ft}{ρ:List aK}{σ ae:Sg}{e:E}{x d:ah}{r:Option g9}{S:bh.S}
theorem ai8(h0:ρ[i]? =some (.v .feed))(h:ev au R e ρ σ=some ([.d x],ae))(hl:ae.lookup key=some d0)(k:aR au R S ρ (ae.map λp=>if p.1=key then(key,x) else p)=r):aR au R (.tR i key e S) ρ σ=r:=
 bs (bs h0 rfl) (bs (oD h) (bs hl k))
theorem Vo(H:ev au R e ρ σ=some ([.feed],ae))(h3:ae.lookup k=some d):ev au R (.item e (.lit (.str k))) ρ σ=some ([.d d],ae):=Am H bc h3
end
theorem ahJ(H:cg t x ρ=some aE)(O:ev au R e aE σ=some ([.d d],av)):((cg t x ρ).bind λaE=>(iu (ev au R cY aE σ)).bind λq=>if q.1 then(ba (ev au R e aE q.2)).bind λp=>some ([p.1],p.2) else some ([],q.2))=some ([d],av):=bs H (bs (oB bc) (bs (oD O) rfl))
theorem Ao{cs:List Nat}(hc:BP cs){k wide:Nat}(hk:k<=10000)(hw:0<wide)(n:Nat):∃v,v<wide/\RR (n+1) 16 [.feed, .d (.int wide)] (sg cs k)=some (.d (.int (v:Int)),sg cs (k+1)):=by
 have br:=hc.len
 have i8:kn=500000000000:=rfl
 have sn:3*k*k<=3*10000*10000:=Hd (GQ 3 hk) hk
 have hlc:fg .len (.list (cs.map nS))=some (.int ((cs.map nS).length:Nat)):=rh (Y (aw _)<|aV br rfl)
 have iA:∀ρ:List aK,ρ[0]? =some (.v .feed)->ev au (RR n) (.item (L 0) (Sx "cells")) ρ (sg cs (k+1))=some ([.d (.list (cs.map nS))],sg cs (k+1)):=λρ h=>Vo (aj h) (adb cs (k+1))
 refine ar (show ∃m:Nat,m<kn/\ev au (RR n) (.ite (.cmp .lt (L 2) (.bi .len (.item (L 0) (Sx "cells")))) (.item (.item (L 0) (Sx "cells")) (L 2)) (.bin .add (.bin .add (.bin .mul (.bin .mul (I 3) (L 2)) (L 2)) (.bin .mul (I 8) (L 2))) (I 4))) [.v .feed, .v (.d (.int (wide:Int))), .v (.d (.int (k:Int)))] (sg cs (k+1))=some ([.d (.int (m:Int))],sg cs (k+1)) from by
  have yz:ev au (RR n) (.cmp .lt (L 2) (.bi .len (.item (L 0) (Sx "cells")))) [.v .feed, .v (.d (.int (wide:Int))), .v (.d (.int (k:Int)))] (sg cs (k+1))=some ([.d (.bool (decide ((k:Int)<((cs.map nS).length:Nat))))],sg cs (k+1)):=dD (aj rfl) (cM (iA _ rfl) hlc) (Fc _ _)
  by_cases h:k<cs.length
  .have hi:mf (.list (cs.map nS)) (k:Int)=some (.int (cs[k]:Int)):=by
    show(jI (cs.map nS).length (k:Int)).bind _=_
    unfold jI
    rw[aw,if_pos (i0 _),if_pos (mr (by assumption)),iC]
    simp[h,nS]
   refine ai (cs[k]) (by have:=hc.lt cs[k] (kz h);exact aM [(J B k1,(.num 1000003)),((.num 500000000000),v1)] (J B k1,v1) rfl this (aA i8.symm)) (nR yz (λzz=>eX (iA _ rfl) (aj rfl) (D6 (FO (aA i8.symm) hk)) hi) λq=>?_)
   have:=of_decide_eq_false q
   rw[aw] at this
   exact absurd (mr (by assumption)) this
  .refine ai (3*k*k+8*k+4) (aO [(B,.mulR (.mulL 3 (.num 10000)) 10000),((.num 500000000000),v1),(v2,(.num 10000)),(v2,(.num 10000)),(v2,(.num 10000)),(v2,(.num 10000)),(v2,(.num 10000)),(v2,(.num 10000)),(v2,(.num 10000)),(v2,(.num 10000))] (J (J (J B (.mulL 8 v2)) (.num 4)) k1,v1) rfl sn (aA i8.symm) hk hk hk hk hk hk hk hk) (nR yz (λq=>?_) λzz=>?_)
   .have:=of_decide_eq_true q
    rw[aw] at this
    exact absurd (DC.mp (by assumption)) h
   .exact eP (eP (eP (eP bc (aj rfl) (Jp (a:=3) (b:=k) (be [((.num 500000000000),B)] (J (.num 3) k1,B) rfl (aA i8.symm)) (FO (aA i8.symm) hk) (aM [((.num 500000000000),B),(v1,(.num 10000)),(v1,(.num 10000)),(v1,(.num 10000))] (J (.mulL 3 v1) k1,B) rfl (aA i8.symm) hk hk hk))) (aj rfl) (Jp (aM [((.num 500000000000),B),(v1,(.num 10000)),(v1,(.num 10000)),(v1,(.num 10000))] (J (.mulL 3 v1) k1,B) rfl (aA i8.symm) hk hk hk) (FO (aA i8.symm) hk) (aM [(B,.mulR (.mulL 3 (.num 10000)) 10000),((.num 500000000000),v1)] (J B k1,v1) rfl sn (aA i8.symm)))) (eP bc (aj rfl) (Jp (a:=8) (b:=k) (be [((.num 500000000000),B)] (J (.num 8) k1,B) rfl (aA i8.symm)) (FO (aA i8.symm) hk) (aM [((.num 500000000000),B),(v1,(.num 10000)),(v1,(.num 10000)),(v1,(.num 10000)),(v1,(.num 10000)),(v1,(.num 10000)),(v1,(.num 10000)),(v1,(.num 10000)),(v1,(.num 10000))] (J (.mulL 8 v1) k1,B) rfl (aA i8.symm) hk hk hk hk hk hk hk hk))) (uT (aO [(B,.mulR (.mulL 3 (.num 10000)) 10000),((.num 500000000000),v1),(v2,(.num 10000)),(v2,(.num 10000)),(v2,(.num 10000)),(v2,(.num 10000)),(v2,(.num 10000)),(v2,(.num 10000)),(v2,(.num 10000)),(v2,(.num 10000))] (J (J B (.mulL 8 v2)) k1,v1) rfl sn (aA i8.symm) hk hk hk hk hk hk hk hk))) bc (uT (b:=4) (aO [(B,.mulR (.mulL 3 (.num 10000)) 10000),((.num 500000000000),v1),(v2,(.num 10000)),(v2,(.num 10000)),(v2,(.num 10000)),(v2,(.num 10000)),(v2,(.num 10000)),(v2,(.num 10000)),(v2,(.num 10000)),(v2,(.num 10000))] (J (J (J B (.mulL 8 v2)) (.num 4)) k1,v1) rfl sn (aA i8.symm) hk hk hk hk hk hk hk hk))) λm hm he=>?_
 refine ai (m % wide) (DV _ hw) (eQ rfl rfl (dy (Vo (aj rfl) (SU cs k)) (ai8 rfl (eP (aj rfl) bc (uT (a:=k) (b:=1) (aM [((.num 500000000000),B),(v1,(.num 10000))] (J (J v1 k1) k1,B) rfl (aA i8.symm) hk))) (SU cs k) ?_)))
 exact Y (ai7 _ _ _)<|dR (eP he (aj rfl) (ahI hm hw))
noncomputable def sP:Str:=bl "+"
noncomputable def sM:Str:=bl "*"
noncomputable def sF:Str:=bl "f"
theorem tC(h:(al.contains (bl x))=true):bl x∈al:=by simpa using h
def Gq(lf:List Str)(p:Tm):Prop:=(p.ks=[]/\p.op∈lf)\/(p.op=sF/\p.ks.length=1)\/((p.op=sP\/p.op=sM)/\2<=p.ks.length)
def Sh(lf:List Str)(t:Tm):Prop:=∀p∈pre t,Gq lf p
theorem Sh.node{lf:List Str}(h:Gq lf (.node o l))(hl:∀k∈l,Sh lf k):Sh lf (.node o l):=λp hp=>by
 rw[fH,jd] at hp
 rcases bK.mp hp with rfl|hp
 .exact h
 .exact fD hp λk hk hp=>hl k hk p hp
theorem Sh.good{lf:List Str}(ha:∀o∈lf,o∈al)(h:Sh lf t):dZ t:=λp hp=>by
 rcases h p hp with h|h|h
 .exact ha _ h.2
 .exact Y h.1<|tC (by decide+kernel)
 .refine a9 h.1 (λe=>?_) (λe=>?_)
  .exact Y e<|tC (by decide+kernel)
  .exact Y e<|tC (by decide+kernel)
noncomputable def kD:Nat->Nat
 |0=>1
 |d+1=>3*kD d+2
theorem ahK:kD 0=1:=rfl
theorem EE{d}:kD (xw d)=3*kD d+2:=rfl
noncomputable def sD:Nat->Nat
 |0=>1
 |d+1=>3*sD d+1
theorem Ub{d}:sD (xw d)=3*sD d+1:=rfl
noncomputable def lD:Nat->Nat
 |0=>1
 |d+1=>3*lD d
theorem Uc{d}:lD (xw d)=3*lD d:=rfl
theorem ai9:∀d,1<=sD d
 |0=>a8 _
 |d+1=>by rw[Ub];exact be [] (k1,J (.mulL 3 B) k1) rfl
theorem Vp:∀d,1<=lD d
 |0=>a8 _
 |d+1=>by rw[Uc];have:=Vp d;exact be [(k1,B),(k1,B),(k1,B)] (k1,.mulL 3 B) rfl this this this
structure t9(lf:List Str)(f:Nat)(t:Tm):Prop where
 sh:Sh lf t
 s:sz t<=sD f
 d:dp t<=f+1
 l:lv t<=lD f
 k:∀k∈t.ks,sz k<=sD (f - 1)
structure Gr(lf:List Str)(D:ah)(m:Nat):Prop where
 pos:0<m
 len:fg .len D=some (.int (m:Int))
 le:m<=100
 get:∀v,v<m->∃o∈lf,mf D (v:Int)=some (.str o)
theorem aeq{lf:List Str}(f:Nat)(h:o∈lf):t9 lf f (.node o []):=
 ⟨.node (.inl ⟨rfl,h⟩) (by simp),by have:=ai9 f;simp[sz,bG];(exact this),by simp[dp,fe],by have:=Vp f;simp[lv];(exact this),by simp[Tm.ks]⟩
theorem aja(h:∀x∈l,sz x<=m):bG l<=l.length*m:=by
 induction l with
 |nil=>simp[bG]
 |cons x l ih=>
  rw[cT,bL,sO]
  have:=h x (.head _)
  have:=ih λy hy=>h y (.tail _ hy)
  (rename_i aY;exact FP this aY)
theorem ajb(h:∀x∈l,lv x<=m):cR l<=l.length*m:=by
 induction l with
 |nil=>simp[cR]
 |cons x l ih=>
  rw[eC,bL,sO]
  have:=h x (.head _)
  have:=ih λy hy=>h y (.tail _ hy)
  (rename_i aY;exact FP this aY)
theorem Rk{lf:List Str}(h:Gq lf (.node o l))(H:l≠[])(h3:l.length<=3)(hl:∀t∈l,t9 lf f t):t9 lf (f+1) (.node o l):=by
 have a:=aja λx hx=>(hl x hx).s
 have b:=ajb λx hx=>(hl x hx).l
 have c:=JS λx hx=>(hl x hx).d
 have a':=lS (sD f) h3
 have b':=lS (lD f) h3
 refine⟨.node h λk hk=>(hl k hk).sh,?_,?_,?_,λk hk=>(hl k hk).s⟩
 .rw[dA,Ub];exact aO [(B,.mulL 3 v1),(v2,B)] (J v2 k1,J (.mulL 3 v1) k1) rfl a' a
 .rw[kK];exact aM [(B,J v1 k1)] (J B k1,J (J v1 k1) k1) rfl c
 .rw[jf H,Uc];exact aO [(B,.mulL 3 v1),(v2,B)] (v2,.mulL 3 v1) rfl b' b
theorem Rm{P:Tm->Prop}(h:∀x k,k+st<=K->∃t k',P t/\k'<=k+st/\f x (sg cs k)=some ([af t],sg cs k')):∀(xs:List ah) (k:Nat),k+xs.length*st<=K->∃(ts:List Tm) (k':Nat),ts.length=xs.length/\(∀t∈ts,P t)/\k'<=k+xs.length*st/\l6 f xs (sg cs k)=some (ts.map af,sg cs k')
 |[],k,_=>(Aw ([]) k rfl (by simp) (kx _ _) rfl)
 |x::xs,k,hk=>by
  rw[bL,sO] at hk
  refine bZ (h x k (bM [(J B (J v1 v2),v3)] (J B v2,v3) rfl hk)) λt k1 H O h3=>uX (Rm h xs k1 (eH [(B,J v1 v2),(J v1 (J v3 v2),v4)] (J B v3,v4) rfl O hk)) λts k2 h4 h5 h6 h7=>Aw (t::ts) k2 (Y bL<|Y bL<|Y h4 rfl) ?_ (by refine Y bL<|Y (sO _ _) ?_;exact eH [(B,J v1 v2),(v1,J v3 v4)] (B,J v3 (J v2 v4)) rfl h6 O) (bs h3 (bs h7 rfl))
  intro y hy
  rcases bK.mp hy with rfl|hy
  .exact H
  .exact h5 y hy
theorem Ei:∀(n:Nat) (a:Int),(intsFrom a n).length=n
 |0,_=>rfl
 |n+1,a=>by rw[zi,bL,Ei n]
theorem ahL(v:Nat)(h:v<3):∃o,(o=sP\/o=sM)/\mf (.tuple [.str sP, .str sP, .str sM]) (v:Int)=some (.str o):=by
 match v,h with
 |0,_=>exact ai _ (.inl rfl) rfl
 |1,_=>exact ai _ (.inl rfl) rfl
 |2,_=>exact ai _ (.inr rfl) rfl
def anq:S:=match FA.body with
 | .asg _ _ k=>k
 |_=> .bI
section
variable{cs:List Nat}{lf:List Str}{D:ah}{m:Nat}{k n f:Nat}{way:Nat}
theorem Rn(hc:BP cs)(hD:Gr lf D m)(hk:k<=10000)(hw:way<2)(f:Nat)(F:as7):∃t,t9 lf f t/\aR au (RR (n+1)) anq [.v .feed, .v F, .v (.d D), .v (.d (.int (way:Int))), .un, .un] (sg cs k)=some (.ret (.d (af t)) (sg cs (k+1))):=by
 refine ar (Ao hc hk hD.pos n) λv hv hr=>ar (hD.get v hv) λo ho hi=>?_
 have:=hD.le
 refine ai (.node o []) (aeq f ho) (qu (ae:=sg cs k) (fC (dD (ae:=sg cs k) (aF:=sg cs k) (aj rfl) bc (Fc _ _)) ?_) (dR (dQ (xs:=[.str o]) (vs:=[.d (.str o)]) (ay (eX (aj rfl) (dJ (ay (aj rfl) (ay (cM (aj rfl) hD.len) aI)) hr) (oy (aM [(B,(.num 100)),(J v1 k1,B)] (v1,(.num 100000)) rfl this hv)) hi) aI) rfl)))
 rw[decide_eq_true (show(way:Int)<2 from mr (b:=2) (by assumption))]
theorem Ej(hc:BP cs)(hD:Gr lf D m):∀(f:Nat),f<=3->∀(k:Nat),k+kD f<=10000->∀n,f+2<=n->∃t k',t9 lf f t/\k'<=k+kD f/\RR n 17 [.feed, .d (.int (f:Int)), .d D] (sg cs k)=some (.d (af t),sg cs k')
 |0,_,k,hk,n,hn=>by
  refine xe (show ∃m,n=m+1 from⟨n - 1,by (exact bR ((bj _ _)) ((aU (be [(J k0 (.num 2),B)] (k1,B) rfl hn))))⟩) λn A1=>?_;subst A1
  refine xe (show ∃m,n=m+1 from⟨n - 1,by (exact bR ((bj _ _)) ((aU (be [(J k0 (.num 2),J B k1)] (k1,B) rfl hn))))⟩) λn rC=>?_;subst rC
  rw[ahK] at hk
  exact ar (Rn (way:=0) (n:=n) hc hD (k:=k) (mu hk rfl) (by decide) 0 (.d (.int 0))) λt ht hr=>eY t (k+1) ht (a8 _) (eQ rfl rfl (dy (ae:=sg cs k) (v:= .d (.int ((0:Nat):Int))) (nR (ae:=sg cs k) (t:=false) (dD (ae:=sg cs k) (aF:=sg cs k) (aj rfl) bc (qv _ _)) (λh=>by exact aQ h) λzz=>bc) hr))
 |f+1,hf,k,hk,n,hn=>by
  refine xe (show ∃m,n=m+1 from⟨n - 1,by (exact bR ((bj _ _)) ((aU (aM [(J (J B k1) (.num 2),v1)] (k1,v1) rfl hn))))⟩) λn BG=>?_;subst BG
  refine xe (show ∃m,n=m+1 from⟨n - 1,by (exact bR ((bj _ _)) ((aU (aM [(J (J B k1) (.num 2),J v1 k1)] (k1,v1) rfl hn))))⟩) λn' rB=>?_;subst rB
  rw[EE] at hk
  refine ar (Ao hc (k:=k) (wide:=6) (aM [(J B (J (.mulL 3 v1) (.num 2)),(.num 10000))] (B,(.num 10000)) rfl hk) (by decide) n') λway asB hr=>?_
  have NH:ev au (RR (n'+1)) (.ite (.cmp .gt (L 1) (I 0)) (Call 16 [L 0,I 6]) (I 0)) [.v .feed, .v (.d (.int ((f+1:Nat):Int))), .v (.d D), .un, .un, .un] (sg cs k)=some ([.d (.int (way:Int))],sg cs (k+1)):=
   nR (ae:=sg cs k) (t:=true) (fC (dD (ae:=sg cs k) (aF:=sg cs k) (aj rfl) bc (qv _ _)) (by rw[decide_eq_true (show(0:Int)<((f+1:Nat):Int) from mr (a:=0) (zo _))])) (λzz=>dJ (ay (aj rfl) (ay bc aI)) hr) λh=>by exact aQ h
  by_cases O:way<2
  .exact ar (Rn (n:=n') hc hD (k:=k+1) (aM [(J B (J (.mulL 3 v1) (.num 2)),(.num 10000))] (J B k1,(.num 10000)) (by kernel_rfl) hk) O (f+1) (.d (.int ((f+1:Nat):Int)))) λt ht hr=>eY t (k+1+1) ht (by rw[EE];exact aM [] (J (J B k1) k1,J B (J (.mulL 3 v1) (.num 2))) rfl) (eQ rfl rfl (dy (ae:=sg cs (k+1)) NH hr))
  have pa:∀(ρ:List aK) (σ:Sg),ρ[1]? =some (.v (.d (.int ((f+1:Nat):Int))))->ev au (RR (n'+1)) (.bin .sub (L 1) (I 1)) ρ σ=some ([.d (.int (f:Int))],σ):=λρ σ h=>eP (ae:=σ) (aj h) bc (EC (mu hf rfl))
  have YR:∀(ρ:List aK) (σ:Sg),ρ[3]? =some (.v (.d (.int (way:Int))))->ev au (RR (n'+1)) (.cmp .lt (L 3) (I 2)) ρ σ=some ([.d (.bool false)],σ):=λρ σ h=>fC (dD (ae:=σ) (aF:=σ) (aj h) bc (Fc _ _)) (by rw[decide_eq_false (show ¬(way:Int)<2 from yC (b:=2) (by assumption))])
  have Gs:∀(ρ:List aK) (σ:Sg) (m:Nat),ρ[3]? =some (.v (.d (.int (way:Int))))->ev au (RR (n'+1)) (.cmp .eq (L 3) (I (m:Int))) ρ σ=some ([.d (.bool (decide ((way:Int)=m)))],σ):=λρ σ m h=>dD (ae:=σ) (aF:=σ) (aj h) bc (eq_int _ _)
  by_cases h3:way=2
  .refine bZ (Ej hc hD f (mu hf rfl) (k+1) (aM [(J B (J (.mulL 3 v1) (.num 2)),(.num 10000))] (J (J B k1) v1,(.num 10000)) (by kernel_rfl) hk) (n'+1) (aM [(J (J B k1) (.num 2),J (J v1 k1) k1)] (J B (.num 2),J v1 k1) rfl hn)) λt k1 s1 pn r1=>eY (.node sF [t]) k1 (Rk (.inr (.inl ⟨rfl,rfl⟩)) (by simp) (by simp) (by intro x hx;exact Y (bY.mp hx)<|s1)) (by rw[EE];exact aO [(B,J (J v1 (.num 1)) v2)] (B,J v1 (J (.mulL 3 v2) (.num 2))) rfl pn) (eQ rfl rfl (dy (ae:=sg cs (k+1)) NH (io (ae:=sg cs (k+1)) (YR _ _ rfl) (qu (ae:=sg cs (k+1)) (fC (Gs _ _ 2 rfl) (by rw[decide_eq_true (congrArg _ h3)])) (dR (dQ (xs:=[.str sF,af t]) (vs:=[.d (.str sF), .d (af t)]) (ay (ae:=sg cs (k+1)) bc (ay (dJ (ay (aj rfl) (ay (pa _ _ rfl) (ay (aj rfl) aI))) r1) aI)) rfl))))))
  .refine ar (Ao hc (k:=k+1) (wide:=3) (aM [(J B (J (.mulL 3 v1) (.num 2)),(.num 10000))] (J B k1,(.num 10000)) (by kernel_rfl) hk) (by decide) n') λv hv lP=>ar (ahL v hv) λo ho hi=>cq (show ∃many:Nat,2<=many/\many<=3/\ev au (RR (n'+1)) (.bin .add (I 2) (.bi .B5 (.cmp .eq (L 3) (I 5)))) [.v .feed, .v (.d (.int ((f+1:Nat):Int))), .v (.d D), .v (.d (.int (way:Int))), .un, .un] (sg cs (k+1))=some ([.d (.int (many:Int))],sg cs (k+1)) from by
    have V:(kn:Nat)=500000000000:=rfl
    by_cases h5:(way:Int)=((5:Nat):Int)
    .exact bQ 3 (by decide) (by decide) (eP (ae:=sg cs (k+1)) (aF:=sg cs (k+1)) bc (cM (ae:=sg cs (k+1)) (x:= .bool true) (d:= .int ((1:Nat):Int)) (fC (Gs _ _ 5 rfl) (Y (decide_eq_true h5) rfl)) rfl) (uT (a:=2) (b:=1) (be [((.num 500000000000),B)] (J (J (.num 2) k1) k1,B) rfl (aA V.symm))))
    .exact bQ 2 (by decide) (by decide) (eP (ae:=sg cs (k+1)) (aF:=sg cs (k+1)) bc (cM (ae:=sg cs (k+1)) (x:= .bool false) (d:= .int ((0:Nat):Int)) (fC (Gs _ _ 5 rfl) (Y (decide_eq_false h5) rfl)) rfl) (uT (a:=2) (b:=0) (be [((.num 500000000000),B)] (J (J (.num 2) k0) k1,B) rfl (aA V.symm))))) λmany sy sA anr=>?_
   have hrg:jK .jx [.int (many:Int)]=some (.list (intsFrom 0 many)):=by
    show(intD (.int (many:Int))).bind (λn=>if (df n && decide (n<=1000))=true then some (jW (intsFrom 0 n.toNat)) else none)=_
    rw[show intD (.int (many:Int))=some (many:Int) from rfl,iC,oy (aV sA rfl),decide_eq_true (show(many:Int)<=1000 from n3 (b:=1000) (aB sA (by decide))),sH]
    rfl
   refine uX (Rm (cs:=cs) (K:=10000) (st:=kD f) (P:=t9 lf f) (f:=λx σ=>(cg (.one 5) x [.v .feed, .v (.d (.int ((f+1:Nat):Int))), .v (.d D), .v (.d (.int (way:Int))), .v (.d (.int (many:Int))), .un]).bind λaE=>(iu (ev au (RR (n'+1)) cY aE σ)).bind λq=>if q.1 then(ba (ev au (RR (n'+1)) (Call 17 [L 0, .bin .sub (L 1) (I 1),L 2]) aE q.2)).bind λp=>some ([p.1],p.2) else some ([],q.2)) (λx k1 pn=>by
    exact bZ (Ej hc hD f (wO hf) k1 pn (n'+1) (Ob (Nat.succ_add f 2▸hn))) λt k' s1 jH r1=>eY t k' s1 jH (ahJ rfl (dJ (ay (aj rfl) (ay (pa _ _ rfl) (ay (aj rfl) aI))) r1))) (intsFrom 0 many) (k+1+1) (by refine Y (Ei _ _) ?_;have:=lS (kD f) sA;exact aO [(B,.mulL 3 v1),(J v2 (J (.mulL 3 v1) (.num 2)),(.num 10000))] (J (J (J v2 k1) k1) B,(.num 10000)) (by kernel_rfl) this hk)) λts k2 h4 h5 h6 h7=>?_
   rw[Ei] at h4 h6
   have hmk:=lS (kD f) sA
   have ans:ev au (RR (n'+1)) (.comp (Call 17 [L 0, .bin .sub (L 1) (I 1),L 2]) (.one 5) (dN .jx [L 4]) cY) [.v .feed, .v (.d (.int ((f+1:Nat):Int))), .v (.d D), .v (.d (.int (way:Int))), .v (.d (.int (many:Int))), .un] (sg cs (k+1+1))=some ([.d (.list (ts.map af))],sg cs k2):=
    bs (cX (iw (ay (aj rfl) aI) rfl hrg) (Y (Ei _ _)<|aV sA rfl)) (bs h7 (bs (ma (Y (aw _)<|cN (aA h4) sA rfl)) rfl))
   have hT:fg .tuple (.list (ts.map af))=some (.tuple (ts.map af)):=fJ (Y (aw _)<|cN (aA h4) sA rfl)
   have t8:j7 .add (.tuple [.str o]) (.tuple (ts.map af))=some (af (.node o ts)):=by
    rw[iD,jw]
    exact fJ (by refine Y cS<|Y (aw _) ?_;simp only[bL,dO];exact aM [(B,v1),(v1,(.num 3))] (J (J k0 k1) B,(.num 100000)) (by kernel_rfl) (aA h4) sA)
   refine eY (.node o ts) k2 (Rk (.inr (.inr ⟨ho,by refine Y (show(Tm.node o ts).ks=ts from rfl)<|Y h4 ?_;exact sy⟩)) (by intro e;rw[e] at h4;simp at h4;exact nz (be [(B,k0),((.num 2),B)] (k1,k0) rfl (aA h4.symm) sy)) (cN (aA h4) sA rfl) h5) (by rw[EE];exact bM [(B,.mulL 3 v1),(v2,J (J (J v3 k1) k1) B)] (v2,J v3 (J (.mulL 3 v1) (.num 2))) rfl hmk h6) (eQ rfl rfl (dy (ae:=sg cs (k+1)) NH (io (ae:=sg cs (k+1)) (YR _ _ rfl) (io (ae:=sg cs (k+1)) (fC (Gs _ _ 2 rfl) (by rw[decide_eq_false (λz=>h3 (inj z))])) (dy (ae:=sg cs (k+1)) anr (dR (eP (ae:=sg cs (k+1+1)) (aF:=sg cs k2) (dQ (vs:=[.d (.str o)]) (ay (ae:=sg cs (k+1+1)) (eX (ae:=sg cs (k+1)) (x:= .tuple [.str sP, .str sP, .str sM]) (dQ (vs:=[.d (.str sP), .d (.str sP), .d (.str sM)]) (ay bc (ay bc (ay bc aI))) rfl) (dJ (ay (aj rfl) (ay bc aI)) lP) (oy (mu hv rfl)) hi) aI) rfl) (cM ans hT) t8)))))))
end
theorem PO:∀a b:List Tm,jk (a++b)=jk a++jk b
 |[],b=>by rw[kC,xl,kC]
 |t::a,b=>by rw[wU,mN,mN,PO a b,lm]
theorem EF{l:List Tm}(V:∀x∈l,Bd x):ce (.list (l.map af))=true:=by
 refine oX ?_ ?_
 .rw[mJ];exact ox λx hx=>xE x (V x hx).g
 .rw[gV]
  have:=oq λx hx=>aB (uK x) (V x hx).d
  exact be [(B,(.num 50))] (J B k1,(.num 64)) rfl this
theorem AG{l:List Tm}(V:∀x∈l,Bd x):ce (.tuple (l.map af))=true:=by
 refine oX ?_ ?_
 .rw[mJ];exact ox λx hx=>xE x (V x hx).g
 .rw[gV]
  have:=oq λx hx=>aB (uK x) (V x hx).d
  exact be [(B,(.num 50))] (J B k1,(.num 64)) rfl this
theorem ahM(hk:VI k=true)(H:1<=xs.length)(h:xs.length<=100000):nT k (.tuple xs)=some (.tuple (B6 k xs)):=
 iT (by rw[hk,decide_eq_true H,decide_eq_true (show xs.length<=lim by unfold lim;exact aV h rfl)];rfl) rfl
theorem ahN(b:Bd t):nT .rL (af t)=some (.tuple (t.ks.reverse.map af)):=by
 cases t with|node o l=>
 have:=b.len
 rw[iD,jw,ahM rfl (by simp) (Y bL<|Y (aw _)<|be [(B,(.num 400))] (J B k1,(.num 100000)) (by kernel_rfl) this)]
 refine Y OT ?_;rfl
theorem ade(h0:ρ[i]? =some (.own xs))(bX:ce (.list xs)=true)(bB:xs.isEmpty=false)(hf:f ρ σ=some (.next aE σ))(k:te f i n aE σ=r):te f i (n+1) ρ σ=r:=
 bs (bs h0 rfl) (iT bX (iF bB (bs hf k)))
theorem adf(h0:ρ[i]? =some (.own [])):te f i (n+1) ρ σ=some (.next ρ σ):=
 bs (bs h0 rfl) (iT (EF (l:=[]) (by simp)) rfl)
theorem Ro:∀(m:Nat) (st acc:List Tm) (b3:aK) (f:Nat),bG st<=m->m<f->(∀x∈st,Bd x)->acc.length+bG st<=1000->
 ∃km,te (λρ σ=>aR au (RR n) (.pop 2 3<| .app 1 (L 3)<| .ext 2 (.dE .rL (L 3)) .bI) ρ σ) 2 f [.v T, .own (acc.map af), .own (st.reverse.map af),b3] σ=some (.next [.v T, .own ((acc++jk st).map af), .own [],km] σ)
 |m,[],acc,b3,f,_,hf,_,_=>by
  refine xe (show ∃g,f=g+1 from⟨f - 1,by (exact bR ((bj _ _)) ((aU (iL hf))))⟩) λf ant=>?_;subst ant
  refine⟨b3,?_⟩
  rw[xl,gU]
  exact adf rfl
 |0,t::st,acc,b3,f,hs,hf,_,_=>by
  rw[cT] at hs;have:=l9 t;exact(nz (aM [(k1,B),(J B v1,k0)] (k1,k0) rfl this hs)).elim
 |m+1,t::st,acc,b3,f,hs,hf,V,hl=>by
  refine xe (show ∃g,f=g+1 from⟨f - 1,by (exact bR ((bj _ _)) ((aU (aM [(J (J B k1) k1,v1)] (k1,v1) rfl hf))))⟩) λf j4=>?_;subst j4
  have bt:=V t (.head _)
  have e:sz t=bG t.ks+1:=by cases t;rw[dA];rfl
  rw[bG] at hs hl
  have dF:=qg st
  have hks:=qg t.ks
  refine xe (Ro (n:=n) (σ:=σ) (T:=T) m (t.ks++st) (acc++[t]) (.v (.d (af t))) f (by refine Y (lq _ _) ?_;exact bM [(J B k1,v1),(J v1 v2,J v3 k1)] (J B v2,v3) rfl (aA e.symm) hs) (aM [(J (J B k1) k1,J v1 k1)] (J B k1,v1) rfl hf) (λx hx=>by
   refine a9 (ln.mp hx) (λhx=>?_) (λhx=>?_)
   .exact bt.pre x (by cases t with|node o l=>exact ly hx (iW x))
   .exact V x (.tail _ hx)) (by refine Y (lq _ _)<|Y cS ?_;simp only[bL,dO];exact bM [(J B k1,v1),(J v2 (J v1 v3),(.num 1000))] (J (J v2 (J k0 k1)) (J B v3),(.num 1000)) (by kernel_rfl) (aA e.symm) hl)) λkm ih=>?_
  have ep:acc++jk (t::st)=acc++[t]++jk (t.ks++st):=by
   rw[mN,PO,lm]
   cases t with|node o l=>rw[fH];rfl
  refine⟨km,?_⟩
  refine Y ep<|ade rfl (EF (λx hx=>V x (List.mem_reverse.mp hx))) (by simp) ?_ ih
  refine Y OE<|Y fk<|anl rfl (ank (xs:=acc.map af) (x:=af t) (ae:=σ) rfl (aj rfl) ?_ (Vh (xs:=st.reverse.map af) (ys:=t.ks.reverse.map af) (ae:=σ) rfl (kR (aj rfl) (ahN bt)) ?_ ?_))
  .refine Y cS<|Y (aw _) ?_;simp only[bL,dO];exact aO [(J B (J v1 v2),(.num 1000))] (J B (J k0 k1),(.num 100000)) (by kernel_rfl) hl
  .exact Y cS<|Y (aw _)<|Y (aw _)<|Y GS<|Y GS<|pg [(B,v1),(v2,v3),(J v1 k1,v4),(J v5 (J v4 v3),(.num 1000))] (J v2 B,(.num 100000)) rfl hks dF (aA e.symm) hl
  .refine Y List.reverse_append<|Y fk<|Y fk ?_;rfl
section
variable{R:Ft}{ρ aE:List aK}{σ ae aF:Sg}{e:E}{v:as7}{r:Option g9}{S S₁:bh.S}
theorem ahO(hw:te (λρ σ=>aR au R S₁ ρ σ) i 1000 ρ σ=some (.next aE ae))(k:aR au R S aE ae=r):aR au R (.xR i S₁ S) ρ σ=r:=bs hw k
theorem ajc(b:Bd t)(dh:i≠j)(hi:ρ[i]? =some (.v (.d (.list ((pre t).map af)))))(hj:j<ρ.length):ev au R (cB [.bi .len (L i), .bi .tuple (.comp (.item (L j) (I 0)) (.one j) (L i) cY), .bi .tuple (.comp (.bin .sub (.bi .len (L j)) (I 1)) (.one j) (L i) cY)]) ρ σ=some ([.d (m7 t)],σ):=by
 have hs:=b.s
 have ct:=qj t
 have F5:∀x:ah,(ρ.set j (.v (.d x)))[j]? =some (.v (.d x)):=λx=>by exact Y (Og hj) rfl
 have c1:fg .len (.list ((pre t).map af))=some (.int (((pre t).map af).length:Nat)):=rh (Y (aw _)<|cN (aA ct) hs rfl)
 rw[aw] at c1
 have c2:fg .tuple (.list ((pre t).map λp=> .str p.op))=some (.tuple ((pre t).map λp=> .str p.op)):=fJ (Y (aw _)<|cN (aA ct) hs rfl)
 have c3:fg .tuple (.list ((pre t).map λp=> .int (p.ks.length:Int)))=some (.tuple ((pre t).map λp=> .int (p.ks.length:Int))):=fJ (Y (aw _)<|cN (aA ct) hs rfl)
 refine dQ (xs:=[.int ((pre t).length:Int), .tuple ((pre t).map λp=> .str p.op), .tuple ((pre t).map λp=> .int (p.ks.length:Int))]) (vs:=[.d (.int ((pre t).length:Int)), .d (.tuple ((pre t).map λp=> .str p.op)), .d (.tuple ((pre t).map λp=> .int (p.ks.length:Int)))]) ?_ rfl
 refine ay (ae:=σ) (cM (ae:=σ) (aj hi) c1) (ay (ae:=σ) (cM (ae:=σ) ?_ c2) (ay (ae:=σ) (cM (ae:=σ) ?_ c3) aI))
 .exact ge (l:=pre t) (m:=af) (g:=λp=> .str p.op) (cX (aj hi) (Y (aw _)<|cN (aA ct) hs rfl)) (λp hp=>(ai _ rfl (eX (aj (F5 _)) bc gB (ib p)))) (cN (aA ct) hs rfl)
 .exact ge (l:=pre t) (m:=af) (g:=λp=> .int (p.ks.length:Int)) (cX (aj hi) (Y (aw _)<|cN (aA ct) hs rfl)) (λp hp=>(ai _ rfl (eP (cM (aj (F5 _)) (rk (b.pre p hp))) bc (EC (aB (JR (b.pre p hp)) (by decide)))))) (cN (aA ct) hs rfl)
end
theorem SV(b:Bd t)(n:Nat)(σ:Sg):RR (n+1) 18 [.d (af t)] σ=some (.d (m7 t),σ):=by
 have hs:=b.s
 refine xe (Ro (n:=n) (σ:=σ) (T:= .d (af t)) 400 [t] [] .un 1000 (by rw[cT,oA];exact be [(B,(.num 400))] (J B k0,(.num 400)) rfl hs) (by decide) (by intro x hx;exact Y (bY.mp hx)<|b) (by rw[cT,oA];simp only[dO];exact be [(B,(.num 400))] (J k0 (J B k0),(.num 1000)) rfl hs)) λb3 hw=>?_
 refine eQ rfl rfl (ai2 (xs:=[]) (ys:=[af t]) (ae:=σ) (aF:=σ) aI rfl (ay (aj rfl) aI) rfl (by simp) (by simp) rfl (ahO hw (BM rfl (dR (ajc b (i:=1) (j:=3) (by decide) ?_ (by simp))))))
 rw[kC,mN,xl,gU];rfl
theorem HO(t:Tm):Bd t->∀n σ,sz t<=n->RR n 21 [.d (af t)] σ=some (.d (.list ((pre t).map af)),σ):=by
 induction t using cU with
 |_ o l ih=>
  intro b n σ hn
  refine xe (show ∃k,n=k+1 from⟨n - 1,by have:=l9 (.node o l);(exact bR ((bj _ _)) ((aU (B4 this hn))))⟩) λn BQ=>?_;subst BQ
  have hs:=b.s
  rw[sz] at hs hn
  have br:=b.len
  have hp:=SO l
  rw[jd] at hp
  refine eQ rfl rfl (dR (eP (y:= .list ((l.flatMap pre).map af)) (ji (ay (aj rfl) aI) rfl) (uS (kN (kR (aj rfl) (eO b)) (by refine Y (aw _) ?_;show l.length<=_;exact aV br rfl)) (λz hz=>(bQ _ rfl (cX (dJ (ay (aj rfl) aI) (ih z hz (b.ez hz) n σ (by have:=uR hz;exact aO [(B,v1),(J v1 k1,J v2 k1)] (B,v2) rfl this hn))) (by refine Y (aw _)<|Y (qj _) ?_;have:=uR hz;exact aM [(B,v1),(J v1 k1,(.num 400))] (B,(.num 100000)) rfl this hs)) (λw zz=>(ai _ rfl (aj rfl))))) (aM [(B,v1),(J v1 k1,(.num 400))] (B,(.num 100000)) rfl (aA hp) hs)) ?_))
  rw[fH,jd,bE]
  exact ma (by refine Y cS<|Y (aw _) ?_;simp only[bL,dO];exact aM [(B,v1),(J v1 k1,(.num 400))] (J (J k0 k1) B,(.num 100000)) (by kernel_rfl) (aA hp) hs)
section
variable{aa:List Str}(ho:ir aa)
include ho
theorem adg(t:Tm):Bd t->∀n σ,sz t<=n->RR n 24 [.d (af t), .d (bH aa)] σ=some (.d (af (gA aa t)),σ):=by
 induction t using cU with
 |_ o l ih=>
  intro b n σ hn
  refine xe (show ∃k,n=k+1 from⟨n - 1,by have:=l9 (.node o l);(exact bR ((bj _ _)) ((aU (B4 this hn))))⟩) λn rO=>?_;subst rO
  have br:=b.len
  have em:(l.map λk=>af (gA aa k))=(je aa l).map af:=by refine Y (zD _ _)<|Y dW ?_;rfl
  have i9:(je aa l).length<=400:=by exact Y (zD _ _)<|Y (aw _)<|br
  refine eQ rfl rfl (dy (ae:=σ) (v:= .d (.list ((je aa l).map af))) ?_ (dR ?_))
  .exact sl em<|ge (l:=l) (m:=af) (g:=λk=>af (gA aa k)) (kN (kR (aj rfl) (eO b)) (by refine Y (aw _) ?_;show l.length<=_;exact aV br rfl)) (λk hk=>(ai _ rfl (dJ (ay (aj rfl) (ay (aj rfl) aI)) (ih k hk (b.ez hk) n σ (by have:=j0 (o:=o) hk;exact ub this hn))))) (aV br rfl)
  .rw[DJ]
   have hr:nT .rev (.list ((je aa l).map af))=some (.list ((je aa l).reverse.map af)):=by
    refine(Jo rfl (by refine Y (aw _) ?_;exact aV i9 rfl)).trans ?_
    refine Y OT ?_;rfl
   have po:(if aa.contains o=true then(je aa l).reverse else je aa l).length<=400:=by
    split
    .exact Y GS<|i9
    .exact i9
   refine eP (ae:=σ) (aF:=σ) (x:= .tuple [.str o]) (y:= .tuple ((if aa.contains o=true then(je aa l).reverse else je aa l).map af)) (dQ (ay (eX (ae:=σ) (aF:=σ) (aj rfl) bc gB (ib _)) aI) rfl) (cM (ae:=σ) (x:= .list ((if aa.contains o=true then(je aa l).reverse else je aa l).map af)) (nR (ae:=σ) (dD (ae:=σ) (aF:=σ) (eX (ae:=σ) (aF:=σ) (aj rfl) bc gB (ib _)) (aj rfl) (JQ ho b.g.op)) (λh=>?_) λh=>?_) (fJ (by refine Y (aw _) ?_;exact aV po rfl))) ?_
   .exact Y (if_pos (show aa.contains o=true from h))<|kR (aj rfl) hr
   .rw[if_neg (show ¬aa.contains o=true from by refine Y (show aa.contains o=false from h) ?_;simp)];exact aj rfl
   .rw[iD,jw]
    exact fJ (by refine Y cS<|Y (aw _) ?_;simp only[bL,dO];exact be [(B,(.num 400))] (J (J k0 k1) B,(.num 100000)) (by kernel_rfl) po)
end
def Nf(aa:List Str)(t:Tm):Prop:=normal aa t=t
theorem sW(aa:List Str)(t:Tm):Nf aa (normal aa t):=ab5 aa t
theorem Ud(h:Nf aa t)(V:bA aa t=true):ff aa t=t.ks:=by
 have e:=PK aa V
 have e2:=lY aa V
 rw[h] at e e2
 exact Y e<|(congrArg Tm.ks e2).symm
theorem AH(h:Nf aa t)(o:Str):sel aa o t=if t.op=o/\bA aa t=true then t.ks else[t]:=by
 by_cases H:t.op=o/\bA aa t=true
 .refine Y (if_pos H) ?_
  unfold sel
  exact Y (if_pos H.1)<|Y (Ud h H.2) rfl
 .exact Y (if_neg H)<|im aa λe b=>H ⟨e,b⟩
theorem afR(hl:cR l<=m):((l.map (normal aa)).flatMap (sel aa o)).length<=m:=
 aB (tw _) (aB (zV λx zz=>(uH aa o x).2.1) (aB (xG λk zz=>(sJ aa k).2.1) hl))
theorem EG(h:l.length<=1000):j7 .add (.tuple [.str o]) (.tuple (l.map af))=some (af (.node o l)):=by
 rw[iD,jw]
 exact fJ (by refine Y cS<|Y (aw _) ?_;simp only[bL,dO];exact be [(B,(.num 1000))] (J (J k0 k1) B,(.num 100000)) (by kernel_rfl) h)
theorem Wz{S₁ S:bh.S}(h:ev au R c ρ σ=some ([.d (.bool t)],ae))(k1:t=true->aR au R S₁ ρ ae=some (.ret v aF))(k2:t=false->aR au R S ρ ae=some (.ret v aF)):aR au R (.ca c S₁ .bI S) ρ σ=some (.ret v aF):=by
 cases t with
 |true=>exact qu h (k1 rfl)
 |false=>exact io h (k2 rfl)
section
variable{aa:List Str}(ho:ir aa)
include ho
omit ho in
theorem Rp(iB:o∈al)(qO:aa.contains o=true):∀(l acc:List Tm) (b3:aK),(∀x∈l,Bd x/\Nf aa x)->acc.length+(l.flatMap (sel aa o)).length<=1000->
 ∃km,gh (λx ρ σ=>(cg (.one 3) x ρ).bind λaE=>aR au (RR n) (.ext 4 (.ite (.oZ (.cmp .eq (.item (L 3) (I 0)) (.item (L 0) (I 0))) (.cmp .gt (.bi .len (L 3)) (I 2))) (.dE .eO (L 3)) (cB [L 3])) .bI) aE σ) (l.map af) [.v (.d (af (.node o l0))), .v V1, .v V2,b3, .own (acc.map af),b5] σ=some (.next [.v (.d (af (.node o l0))), .v V1, .v V2,km, .own ((acc++l.flatMap (sel aa o)).map af),b5] σ)
 |[],acc,b3,_,_=>⟨b3,by refine Y uD<|Y (gU _) ?_;rfl⟩
 |x::l,acc,b3,h,hl=>by
  rw[eK,cS] at hl
  refine xe (Rp (n:=n) (σ:=σ) (l0:=l0) (V1:=V1) (V2:=V2) (b5:=b5) iB qO l (acc++sel aa o x) (.v (.d (af x))) (λy hy=>h y (.tail _ hy)) (by refine Y cS ?_;exact aO [(J B (J v1 v2),(.num 1000))] (J (J B v1) v2,(.num 1000)) rfl hl)) λkm ih=>?_
  refine⟨km,?_⟩
  refine Y eK<|sl (lm _ _ _)<|xa (h x (.head _)) λbx nx=>?_
  have hc:x.op=o/\bA aa x=true↔(decide (x.op=o) && decide ((2:Int)<((x.ks.length+1:Nat):Int)))=true:=by
   refine si (gv _)<|Y (cm _ _)<|Y decide_eq_true_eq<|Y decide_eq_true_eq ?_
   constructor
   .intro L7;obtain⟨rfl,_,h⟩:=L7;exact⟨rfl,mr (a:=2) (pK h)⟩
   .intro anu;obtain⟨rfl,h⟩:=anu;exact bO rfl qO (Ob (DC.mp h))
  have hs:=AH nx o
  refine l5 rfl (Vh (xs:=acc.map af) (ys:=(sel aa o x).map af) (ae:=σ) rfl (nR (ae:=σ) (FB (ae:=σ) (dD (ae:=σ) (aF:=σ) (eX (ae:=σ) (aF:=σ) (aj rfl) bc gB (ib _)) (eX (ae:=σ) (aF:=σ) (aj rfl) bc gB (ib _)) (eq_str bx.g.op iB)) λzz=>dD (ae:=σ) (aF:=σ) (cM (aj rfl) (rk bx)) bc (qv _ _)) (λq=>?_) λq=>?_) ?_ rfl) (by refine sl fk ?_;exact ih)
  .exact Y hs<|Y (if_pos (hc.mpr q))<|kR (aj rfl) (eO bx)
  .exact Y hs<|Y (if_neg (λz=>aQ ((hc.mp z).symm.trans q)))<|dQ (ay (aj rfl) aI) rfl
  .exact Y cS<|Y (aw _)<|Y (aw _)<|aO [(J B (J v1 v2),(.num 1000))] (J B v1,(.num 100000)) rfl hl
theorem IQ(t:Tm):Bd t->∀n σ,sz t+1<=n->RR n 19 [.d (af t), .d (bH aa)] σ=some (.d (af (normal aa t)),σ):=by
 induction t using cU with
 |_ o l ih=>
  intro b n σ hn
  refine xe (show ∃k,n=k+1 from⟨n - 1,by (exact bR ((bj _ _)) ((aU (iL hn))))⟩) λn AT=>?_;subst AT
  refine xe (show ∃k,n=k+1 from⟨n - 1,by have:=l9 (.node o l);(exact bR ((bj _ _)) ((aU (aM [(k1,B),(J B k1,J v1 k1)] (k1,v1) rfl this hn))))⟩) λn rA=>?_;subst rA
  have br:=b.len
  have em:(l.map λk=>af (normal aa k))=(l.map (normal aa)).map af:=by refine Y dW ?_;rfl
  have i9:fg .len (.list ((l.map (normal aa)).map af))=some (.int (l.length:Nat)):=by
   have:=rh (xs:=(l.map (normal aa)).map af) (Y (aw _)<|Y (aw _)<|aV br rfl)
   rw[aw,aw] at this;exact this
  refine eQ rfl rfl (dy (ae:=σ) (v:= .d (.list ((l.map (normal aa)).map af))) ?_ (Wz (ae:=σ) (t:= !aa.contains o||decide ((l.length:Int)<2)) (yy (ae:=σ) (dD (ae:=σ) (aF:=σ) (eX (ae:=σ) (aF:=σ) (aj rfl) bc gB (ib _)) (aj rfl) (aem ho b.g.op)) λzz=>dD (ae:=σ) (aF:=σ) (cM (aj rfl) i9) bc (Fc _ _)) (λq=>?_) λq=>?_))
  .exact sl em<|ge (l:=l) (m:=af) (g:=λk=>af (normal aa k)) (kN (kR (aj rfl) (eO b)) (by refine Y (aw _) ?_;show l.length<=_;exact aV br rfl)) (λk hk=>(ai _ rfl (dJ (ay (aj rfl) (ay (aj rfl) aI)) (ih k hk (b.ez hk) (n+1) σ (by have:=j0 (o:=o) hk;exact aO [(J B k1,v1),(J v1 k1,J (J v2 k1) k1)] (J B k1,J v2 k1) rfl this hn))))) (aV br rfl)
  .have h':¬bA aa (.node o l)=true:=by
    refine si (gv _) ?_
    intro L7;obtain⟨H,O⟩:=L7
    have H:aa.contains o=true:=H
    have O:2<=l.length:=O
    rw[H,decide_eq_false (show ¬(l.length:Int)<2 from yC (b:=2) (sT.mpr (by assumption)))] at q
    exact aQ q
   exact Y (jt aa h')<|dR (eP (ae:=σ) (aF:=σ) (x:= .tuple [.str o]) (y:= .tuple ((l.map (normal aa)).map af)) (dQ (ay (eX (ae:=σ) (aF:=σ) (aj rfl) bc gB (ib _)) aI) rfl) (cM (aj rfl) (fJ (Y (aw _)<|Y (aw _)<|aV br rfl))) (EG (by refine Y (aw _) ?_;show l.length<=_;exact aV br rfl)))
  .refine xa (show aa.contains o=true/\2<=l.length from by
    rw[ZV] at q
    exact⟨by simpa using q.1,kw λz=>of_decide_eq_false q.2 (mr (b:=2) z)⟩) λH O=>?_
   have V:bA aa (.node o l)=true:=(gv aa).mpr ⟨H,O⟩
   have NI:=aB AD b.l
   have sB:=afR (aa:=aa) (o:=o) NI
   refine Y ((zC aa V).1) ?_
   show _=some (g9.ret (.d (af (.node o (cK ((l.map (normal aa)).flatMap (sel aa o)))))) σ)
   generalize hr:(l.map (normal aa)).flatMap (sel aa o)=r at sB
   have YS:∀x∈r,Bd x/\sz x<=sz (.node o l):=λx hx=>by
    rw[<- hr] at hx
    refine fD hx λy hy hx=>cr hy λk hk BR=>?_;clear hy;subst BR
    have:=AC aa o _ x hx
    have:=(sJ aa k).1
    have:=j0 (o:=o) hk
    exact⟨((b.ez hk).normal aa).sel aa x hx,by (rename_i pB aY;exact bM [(J B k1,v1),(v2,B),(v3,v2)] (v3,v1) rfl this aY pB)⟩
   refine xe (Rp (aa:=aa) (n:=n+1) (σ:=σ) (o:=o) (l0:=l) (V1:= .d (bH aa)) (V2:= .d (.list ((l.map (normal aa)).map af))) (b5:= .un) b.g.op H (l.map (normal aa)) [] .un (λx hx=>by
    refine cr hx λk hk BQ=>?_;clear hx;subst BQ
    exact⟨(b.ez hk).normal aa,sW aa k⟩) (by refine Y hr ?_;simp only[dO];exact be [(B,(.num 60))] (J k0 B,(.num 1000)) rfl sB)) λb3 cH=>?_
   rw[hr,kC] at cH
   have fZ:=(gW r).length_eq
   have hs:fg .sorted (.list (r.map pairD))=some (.list ((cK r).map pairD)):=by
    show(if gX (r.map pairD)=true then _ else _)=_
    rw[if_pos (Pq (be [(B,(.num 60))] (J B k1,(.num 64)) rfl sB) λx hx=>(YS x hx).1),H']
   refine L3 (xs:=[]) (ae:=σ) aI rfl (dn _) rfl (mh (ae:=σ) (cX (aj rfl) (by refine Y (aw _)<|Y (aw _) ?_;exact aV br rfl)) cH (BM rfl (dR ?_)))
   refine eP (ae:=σ) (aF:=σ) (x:= .tuple [.str o]) (y:= .tuple ((cK r).map af)) (dQ (ay (eX (ae:=σ) (aF:=σ) (aj rfl) bc gB (ib _)) aI) rfl) (cM (ae:=σ) (ge (l:=cK r) (m:=pairD) (g:=af) (cX (cM (ae:=σ) ?_ hs) (by refine Y (aw _) ?_;exact cN (aA fZ) sB rfl)) (λx hx=>(ai _ rfl (aj rfl))) (cN (aA fZ) sB rfl)) (fJ (Y (aw _)<|cN (aA fZ) sB rfl))) (EG (cN (aA fZ) sB rfl))
   exact ge (l:=r) (m:=af) (g:=pairD) (cX (aj rfl) (Y (aw _)<|aV sB rfl)) (λx hx=>(ai _ rfl (dQ (ay (dJ (ay (aj rfl) aI) (SV (YS x hx).1 n σ)) (ay (aj rfl) aI)) rfl))) (aV sB rfl)
end
noncomputable def sX:Str:=bl "?x"
noncomputable def sY:Str:=bl "?y"
def bJ(o:Str):Bool:=o==sX||o==sY
theorem qk:bJ o=true↔o=sX\/o=sY:=by unfold bJ;simp
theorem zJ [BEq α][LawfulBEq α]:∀{l m:List α},l.Nodup->(∀x∈l,x∈m)->l.length<=m.length
 |[],_,_,_=>dn _
 |x::l,m,h,hs=>by
  rw[lW] at h
  have hx:=hs x (.head _)
  have:=zJ (m:=m.erase x) h.2 λy hy=>(List.mem_erase_of_ne λe=>h.1 (by exact sl e<|hy)).mpr (hs y (.tail _ hy))
  rw[List.length_erase_of_mem hx] at this
  have:=List.length_pos_of_mem hx
  refine Y bL ?_
  (rename_i aY;exact FG aY (aU (Mm this)))
abbrev Tb:=List (Str×Tm)
def fz(p:Str×Tm):ah×ah:=(.str p.1,af p.2)
def cy(r:Tb):ah:= .dict (r.map fz)
noncomputable def lk(r:Tb)(o:Str):Option Tm:=(r.find? λp=>p.1==o).map (·.2)
structure fh(r:Tb):Prop where
 key:∀p∈r,bJ p.1=true
 nd:(r.map (·.1)).Nodup
 bd:∀p∈r,Bd p.2
theorem Rq(r:Tb)(o:Str):nM (r.map fz) o=(lk r o).map af:=by
 unfold nM lk
 refine Y aa9<|Y (O9 _ _ _)<|Y (O9 _ _ _) ?_
 rfl
theorem EH(r:Tb)(o:Str):(r.map fz).any (tG o)=(lk r o).isSome:=by
 unfold lk
 refine Y DG<|Y Option.isSome_map<|si O2<|si uC<|si List.find?_isSome ?_
 rfl
theorem mW(h:lk r o=some v):(o,v)∈r:=by
 refine iK h λp hp rt=>?_;clear h;subst rt
 have H:=Zm hp
 have O:=O0 hp
 have O:p.1=o:=by simpa using O
 exact sl O<|H
theorem Jq(h:lk r o=none):∀p∈r,p.1≠o:=λp hp e=>by
 unfold lk at h
 rw[Option.map_eq_none_iff,aaj] at h
 exact h p hp (by simpa using e)
theorem tK(nd:(r.map (·.1)).Nodup)(hp:p∈r):lk r p.1=some p.2:=by
 cases h:lk r p.1 with
 |none=>exact absurd rfl (Jq h p hp)
 |some v=>
  have hm:=mW h
  have:∀{l:Tb},(l.map (·.1)).Nodup->∀{a b:Str×Tm},a∈l->b∈l->a.1=b.1->a=b:=by
   intro l
   induction l with
   |nil=>intro _ a b ha;cases ha
   |cons c l ih=>
    intro hn a b ha V e
    rw[bE,lW] at hn
    refine a9 (bK.mp ha) (λH=>?_) (λH=>?_)
    .refine a9 (bK.mp V) (λO=>?_) (λO=>?_)
     .exact Y H<|Y O rfl
     .exact absurd (fQ.mpr (ai b O (e.symm.trans (Y H rfl)))) hn.1
    .refine a9 (bK.mp V) (λO=>?_) (λO=>?_)
     .exact absurd (fQ.mpr (ai a H (e.trans (Y O rfl)))) hn.1
     .exact ih hn.2 H O e
  exact sl (this nd hm hp rfl) rfl
theorem Vq(h:bJ o=true):oL (.str o)=true:=by
 rcases qk.mp h with rfl|rfl<;>decide+kernel
theorem Rr:∀{r:Tb},(∀p∈r,bJ p.1=true)->(r.map (·.1)).Nodup->iZ (r.map fz)=true
 |[],_,_=>rfl
 |p::r,h,nd=>by
  rw[bE,lW] at nd
  rw[bE,HD,Rr (λq hq=>h q (.tail _ hq)) nd.2]
  have H:=Vq (h p (.head _))
  have O:((r.map fz).any λq=>cA q.1 (fz p).1)=false:=by
   refine si OD ?_
   intro q hq
   refine cr hq λa ha Bf=>?_;subst Bf
   have:cA (fz a).1 (fz p).1=decide (a.1=p.1):=Al _ _
   refine Y this ?_
   simp only[decide_eq_true_eq]
   exact λe=>nd.1 (fQ.mpr (ai a ha e))
  refine Y H<|Y O ?_;rfl
theorem fh.ok(h:fh r):iZ (r.map fz)=true:=Rr h.key h.nd
theorem fh.nil:fh []:=⟨by simp,by simp,by simp⟩
theorem fh.len(h:fh r):r.length<=2:=by
 have:=h.nd
 have hs:∀k∈r.map (·.1),k∈[sX,sY]:=λk hk=>by
  refine cr hk λp hp rD=>?_;clear hk;subst rD
  simpa using qk.mp (h.key p hp)
 have:=zJ this hs
 rw[aw] at this
 exact this
theorem fh.push(h:fh r)(ho:bJ o=true)(hn:lk r o=none)(hv:Bd v):fh (r++[(o,v)]):=by
 refine⟨?_,?_,?_⟩
 .intro p hp
  refine a9 (ln.mp hp) (λhp=>?_) (λhp=>?_)
  .exact h.key p hp
  .exact Y (bY.mp hp)<|ho
 .refine Y fk<|si Dq<|bO h.nd (by simp) ?_
  intro a ha b V e
  rw[bE,uF,bY] at V
  refine cr ha λp hp BG=>?_;clear ha;subst BG
  exact Jq hn p hp (e.trans V)
 .intro p hp
  refine a9 (ln.mp hp) (λhp=>?_) (λhp=>?_)
  .exact h.bd p hp
  .exact Y (bY.mp hp)<|hv
theorem Ue(hn:lk r o=none)(q:Str):lk (r++[(o,v)]) q=if q=o then some v else lk r q:=by
 unfold lk at*
 refine Y List.find?_append<|Y Option.map_or ?_
 split
 .rename_i e;subst e
  refine Y hn ?_;simp
 .rename_i e
  rw[show List.find? (λp:Str×Tm=>p.1==q) [(o,v)]=none by simp[oH e]]
  simp
mutual
noncomputable def fill(f:Str->Option Tm):Tm->Tm
 | .node o l=>(f o).getD (.node o (qA f l))
noncomputable def qA(f:Str->Option Tm):List Tm->List Tm
 |[]=>[]
 |t::l=>fill f t::qA f l
end
theorem pV{f o l}:fill f (Tm.node o l)=acr (f o) (Tm.node o (qA f l)):=rfl
theorem adh{f t l}:qA f (t::l)=fill f t::qA f l:=rfl
theorem pY(f:Str->Option Tm):∀l,qA f l=l.map (fill f)
 |[]=>rfl
 |t::l=>by rw[adh,pY f l];rfl
theorem Uf(h:fh r)(o:Str):jK .pi [.str o,cy r]=some (.bool (lk r o).isSome):=by
 exact sl (EH _ _)<|iT h.ok rfl
theorem Ic(h:fh r)(hv:lk r o=some v):J9 (cy r) (.str o)=some (af v):=by
 have:nM (r.map fz) o=some (af v):=by refine Y (Rq _ _)<|Y hv ?_;rfl
 exact iT h.ok this
theorem Qz(h:fh r)(t:Tm):Bd t->∀n σ,sz t<=n->RR n 20 [.d (af t), .d (cy r)] σ=some (.d (af (fill (lk r) t)),σ):=by
 induction t using cU with
 |_ o l ih=>
  intro b n σ hn
  refine xe (show ∃k,n=k+1 from⟨n - 1,by have:=l9 (.node o l);(exact bR ((bj _ _)) ((aU (B4 this hn))))⟩) λn BN=>?_;subst BN
  have br:=b.len
  have em:(l.map λk=>af (fill (lk r) k))=(qA (lk r) l).map af:=by refine Y (pY _ _)<|Y dW ?_;rfl
  have i9:(qA (lk r) l).length<=400:=by exact Y (pY _ _)<|Y (aw _)<|br
  have yX:∀ρ:List aK,ρ[0]? =some (.v (.d (af (.node o l))))->ev au (RR n) (.item (L 0) (I 0)) ρ σ=some ([.d (.str o)],σ):=λρ h=>eX (aj h) bc gB (ib _)
  refine eQ rfl rfl (Wz (iw (ay (yX _ rfl) (ay (aj rfl) aI)) rfl (Uf h o)) (λq=>?_) λq=>?_)
  .refine ua q λv hv=>?_
   rw[pV,hv]
   exact dR (Am (aj rfl) (yX _ rfl) (Ic h hv))
  .rw[pV,show lk r o=none by cases e:lk r o with|none=>rfl|some v=>rw[e] at q;exact aQ q]
   refine dR (eP (ae:=σ) (aF:=σ) (x:= .tuple [.str o]) (y:= .tuple ((qA (lk r) l).map af)) (dQ (ay (yX _ rfl) aI) rfl) (cM (ae:=σ) (x:= .list ((qA (lk r) l).map af)) ?_ (fJ (by refine Y (aw _) ?_;exact aV i9 rfl))) (EG (aV i9 rfl)))
   exact sl em<|ge (kN (kR (aj rfl) (eO b)) (by refine Y (aw _) ?_;show l.length<=_;exact aV br rfl)) (λk hk=>(ai _ rfl (dJ (ay (aj rfl) (ay (aj rfl) aI)) (ih k hk (b.ez hk) n σ (by have:=j0 (o:=o) hk;exact ub this hn))))) (aV br rfl)
def wc(t:Tm):Bool:=decide (t.ks.length=0) && bJ t.op
theorem ahP:∀o∈al,jK .str1 [.str o]=some (.str ⟨o.cps.extract 0 1⟩)/\sN ⟨o.cps.extract 0 1⟩=true/\decide ((⟨o.cps.extract 0 1⟩:Str)=bl "?")=bJ o:=by
 have:al.all (λo=>sN ⟨o.cps.extract 0 1⟩ && (decide ((⟨o.cps.extract 0 1⟩:Str)=bl "?")==bJ o))=true:=by decide+kernel
 intro o ho
 have:=hU.mp this o ho
 rw[cm,beq_iff_eq] at this
 exact bO rfl this.1 this.2
theorem Ug(ho:o∈al)(h:ev au R e ρ σ=some ([.d (.str o)],ae)):ev au R (.cmp .eq (dN .str1 [e]) (Sx "?")) ρ σ=some ([.d (.bool (bJ o))],ae):=by
 refine cj (ahP o ho) λH O h3=>dD (iw (ay h aI) rfl H) bc ?_
 have q1:ce (.str ⟨o.cps.extract 0 1⟩)=true:=oX O (by simp[gV])
 have q2:ce (.str (bl "?"))=true:=oX (by decide+kernel) (by simp[gV])
 exact Y (E9 q1 q2)<|Y (Al _ _)<|Y h3 rfl
theorem Ie(b:Bd t)(n:Nat)(σ:Sg):RR (n+1) 0 [.d (af t)] σ=some (.d (.bool (wc t)),σ):=by
 refine eQ rfl rfl (dR (FB (fC (dD (cM (aj rfl) (rk b)) bc (eq_int _ _)) ?_) λzz=>Ug b.g.op (eX (aj rfl) bc gB (ib _))))
 congr 1
 exact si decide_eq_decide<|ic1
def wo:List Tm->List Tm->Option (List Tm)
 |left,[]=>some left
 |left,t::l=>if left.any (λy=>eqT y t)=true then wo (left.eraseP λy=>eqT y t) l else none
theorem EI{x t l}:wo x (t::l)=if (Eo x λ(y:Tm)=>eqT y t)=true then wo (List.eraseP (λ(y:Tm)=>eqT y t) x) l else none:=rfl
theorem xI{l:List Tm}:(l.any λy=>eqT y t)=true↔t∈l:=by
 refine si uC ?_
 constructor
 .intro anv;exact ar anv λy hy e=>sl ((oG y t).mp e)<|hy
 .exact λh=>(ai t h ((oG t t).mpr rfl))
theorem uG{l:List Tm}(h:t∈l):l.Perm (t::l.eraseP λy=>eqT y t):=by
 refine mP (List.exists_of_eraseP (p:=λy=>eqT y t) h ((oG t t).mpr rfl)) λa asC asD zz e H O=>?_
 have e:=(oG a t).mp e
 clear h;subst e
 exact Y O<|Y H<|G6
theorem xJ:∀{l left r:List Tm},wo left l=some r->left.Perm (l++r)
 |[],left,r,h=>by injection h with anw;subst anw;exact .refl _
 |t::l,left,r,h=>by
  rw[EI] at h
  split at h
  .rename_i q
   exact(uG (xI.mp q)).trans ((xJ h).cons t)
  .exact aC h
theorem Uh:∀{l left L:List Tm},left.Perm (l++L)->∃r,wo left l=some r
 |[],left,L,_=>⟨left,rfl⟩
 |t::l,left,L,h=>by
  have ht:=h.mem_iff.mpr (.head _)
  rw[EI,if_pos (xI.mpr ht)]
  exact Uh (L:=L) (Dn ((uG ht).symm.trans h))
def Ci:Option (List Tm)->ah
 |none=> .none
 |some l=> .tuple (l.map af)
theorem PP(l:List Tm)(t:Tm):((l.map af).any λy=>cA y (af t))=l.any λy=>eqT y t:=by
 refine Y DG ?_;rfl
theorem aa7(l:List Tm)(t:Tm):((l.map af).eraseP λy=>cA y (af t))=(l.eraseP λy=>eqT y t).map af:=by
 refine Y List.eraseP_map ?_;rfl
section
variable{R:Ft}{ρ aE:List aK}{σ ae:Sg}{e:E}{x:ah}{xs:List ah}{r:Option g9}{S:bh.S}
theorem afS(h:ev au R e ρ σ=some ([.d x],ae))(h0:ρ[i]? =some (.own xs))(H:ce x=true)(O:ce (.list xs)=true):ev au R (.ql e i) ρ σ=some ([.d (.bool (!(xs.any λy=>cA y x)))],ae):=
 bs (oD h) (bs (bs h0 rfl) (iT (by refine Y H<|Y O ?_;rfl) rfl))
theorem anx(h0:ρ[i]? =some (.own xs))(h:ev au R e ρ σ=some ([.d x],ae))(H:ce x=true)(O:ce (.list xs)=true)(h3:(xs.any λy=>cA y x)=true)(k:aR au R S (ρ.set i (.own (xs.eraseP λy=>cA y x))) ae=r):aR au R (.rem i e S) ρ σ=r:=
 bs (bs h0 rfl) (bs (oD h) (iT (by refine Y H<|Y O<|Y h3 ?_;rfl) k))
end
theorem Ps:∀(l left:List Tm) (b3:aK),(∀x∈l,Bd x)->(∀x∈left,Bd x)->left.length<=400->
 (∀r,wo left l=some r->∃km,gh (λx ρ σ=>(cg (.one 3) x ρ).bind λaE=>aR au (RR n) (.ca (.ql (L 3) 2) (.ret (.lit .none)) .bI<| .rem 2 (L 3) .bI) aE σ) (l.map af) [.v V0, .v V1, .own (left.map af),b3] σ=some (.next [.v V0, .v V1, .own (r.map af),km] σ)/\r.length<=400)/\
 (wo left l=none->gh (λx ρ σ=>(cg (.one 3) x ρ).bind λaE=>aR au (RR n) (.ca (.ql (L 3) 2) (.ret (.lit .none)) .bI<| .rem 2 (L 3) .bI) aE σ) (l.map af) [.v V0, .v V1, .own (left.map af),b3] σ=some (.ret (.d .none) σ))
 |[],left,b3,_,_,hl=>⟨λr h=>by injection h with vK;subst vK;exact(ai b3 rfl hl),λh=>by exact ft h⟩
 |t::l,left,b3,h,V,hl=>by
  have bt:=h t (.head _)
  have hc:ev au (RR n) (.ql (L 3) 2) [.v V0, .v V1, .own (left.map af), .v (.d (af t))] σ=some ([.d (.bool (!(left.any λy=>eqT y t)))],σ):=
   fC (afS (aj rfl) rfl bt.ok (EF V)) (Y (PP _ _) rfl)
  by_cases q:(left.any λy=>eqT y t)=true
  .refine xa (Ps (n:=n) (σ:=σ) (V0:=V0) (V1:=V1) l (left.eraseP λy=>eqT y t) (.v (.d (af t))) (λx hx=>h x (.tail _ hx)) (λx hx=>V x (List.mem_of_mem_eraseP hx)) (aB List.length_eraseP_le hl)) λi1 i2=>?_
   have hs:aR au (RR n) (.ca (.ql (L 3) 2) (.ret (.lit .none)) .bI<| .rem 2 (L 3) .bI) [.v V0, .v V1, .own (left.map af), .v (.d (af t))] σ=some (.next [.v V0, .v V1, .own ((left.eraseP λy=>eqT y t).map af), .v (.d (af t))] σ):=by
    refine io (fC hc (by refine Y q ?_;rfl)) (anx rfl (aj rfl) bt.ok (EF V) (Y (PP _ _)<|q) ?_)
    refine Y (aa7 _ _) ?_;rfl
   rw[EI,if_pos q]
   exact⟨λr hr=>by
    exact ar (i1 r hr) λkm H O=>(ai km (l5 rfl hs H) O),λhr=>l5 rfl hs (i2 hr)⟩
  .rw[EI,if_neg q]
   refine⟨λr hr=>by (exact aC hr),λzz=>ai4 rfl (qu (fC hc ?_) (dR bc))⟩
   rw[show(left.any λy=>eqT y t)=false by simpa using q];rfl
theorem ab9{l left:List Tm}(h:∀x∈l,Bd x)(V:∀x∈left,Bd x)(hl:left.length<=400)(i9:l.length<=400)(n:Nat)(σ:Sg):RR (n+1) 4 [.d (.tuple (left.map af)), .d (.tuple (l.map af))] σ=some (.d (Ci (wo left l)),σ):=by
 refine xa (Ps (n:=n) (σ:=σ) (V0:= .d (.tuple (left.map af))) (V1:= .d (.tuple (l.map af))) l left .un h V hl) λi1 i2=>?_
 cases q:wo left l with
 |none=>exact eQ rfl rfl (Vf (ae:=σ) (aj rfl) (Y (aw _)<|aV hl rfl) rfl (ai3 (ae:=σ) (kN (aj rfl) (Y (aw _)<|aV i9 rfl)) (i2 q)))
 |some r=>
  exact ar (i1 r q) λb3 cH hr=>eQ rfl rfl (Vf (ae:=σ) (aj rfl) (Y (aw _)<|aV hl rfl) rfl (mh (ae:=σ) (kN (aj rfl) (Y (aw _)<|aV i9 rfl)) cH (BM rfl (dR (cM (aj rfl) (fJ (Y (aw _)<|aV hr rfl)))))))
def dd:List Tm->List Tm->List Tm
 |acc,[]=>acc
 |acc,t::l=>if acc.any (λy=>eqT y t)=true then dd acc l else dd (acc++[t]) l
theorem ahQ{x}:dd x []=x:=rfl
theorem Ap{x t l}:dd x (t::l)=if (Eo x λ(y:Tm)=>eqT y t)=true then dd x l else dd (x++[t]) l:=rfl
theorem qw:∀{l acc:List Tm} {x:Tm},x∈dd acc l↔x∈acc\/x∈l
 |[],acc,x=>by rw[ahQ];simp
 |t::l,acc,x=>by
  rw[Ap]
  split
  .rename_i q
   refine si qw<|si bK ?_
   have:=xI.mp q
   constructor
   .rintro(h|h)
    .exact .inl h
    .exact .inr (.inr h)
   .rintro(h|rfl|h)
    .exact .inl h
    .exact .inl this
    .exact .inr h
  .rw[qw,ln,bY,bK,or_assoc]
theorem uN:∀{l acc:List Tm},acc.Nodup->(dd acc l).Nodup
 |[],acc,h=>h
 |t::l,acc,h=>by
  rw[Ap]
  split
  .exact uN h
  .rename_i q
   refine uN<|si Dq<|bO h (by simp) (λa ha b V e=>?_)
   rw[bY] at V
   rw[e,V] at ha
   exact q (xI.mpr ha)
theorem tD:∀{l acc:List Tm},(dd acc l).length<=acc.length+l.length
 |[],acc=>a8 _
 |t::l,acc=>by
  rw[Ap]
  split
  .have:=tD (l:=l) (acc:=acc);exact Y bL<|aO [(B,J v1 v2)] (B,J v1 (J v2 k1)) rfl this
  .have:=tD (l:=l) (acc:=acc++[t]);rw[cS] at this;simp only[bL,dO] at*;exact aO [(B,J (J v1 (J k0 k1)) v2)] (B,J v1 (J v2 k1)) rfl this
mutual
theorem JT:∀t:Tm,jJ (af t)=true
 | .node o l=>by rw[iD,zP,qZ,Ui l];rfl
theorem Ui:∀l:List Tm,pj (tZ l)=true
 |[]=>rfl
 |t::l=>by rw[Ra,qZ,JT t,Ui l];rfl
end
theorem D7(b:Bd t)(h:dp t<=8):iH (af t)=true:=by
 unfold iH
 refine Y (JT _)<|Y b.ok<|Y (decide_eq_true (aB (uK t) h)) ?_
 clear b h;cases t with|node o l=>rw[iD];rfl
def fX(t:Tm):ah×ah:=(af t, .bool true)
def BS(t:Tm):ah:= .tuple [af t, .bool true]
theorem Uj:∀l:List Tm,pairsOf (l.map BS)=some (l.map fX)
 |[]=>rfl
 |t::l=>by
  exact bs (show tx (BS t)=some (fX t) from rfl) (by refine Y (Uj l) ?_;rfl)
theorem Fd(acc:List Tm)(t:Tm):ml (acc.map fX) (af t) (.bool true)=(if acc.any (λy=>eqT y t)=true then acc else acc++[t]).map fX:=by
 unfold ml
 have e:(acc.map fX).any (mR (af t))=acc.any λy=>eqT y t:=by refine Y DG ?_;rfl
 refine Y e ?_
 split
 .refine Y dW<|mG λx zz=>?_
  show(if _ then((fX x).1,PyData.bool true) else fX x)=fX x
  split<;>rfl
 .refine Y fk ?_;rfl
theorem Uk:∀{l acc:List Tm},(∀x∈l,Bd x/\dp x<=8)->x8 (acc.map fX) (l.map fX)=some ((dd acc l).map fX)
 |[],acc,_=>rfl
 |t::l,acc,h=>by
  have ht:=h t (.head _)
  rw[bE,Ap]
  refine iT (D7 ht.1 ht.2)<|Y (show(fX t).2= .bool true from rfl)<|Y (show(fX t).1=af t from rfl)<|Y (Fd _ _)<|Y (Uk λx hx=>h x (.tail _ hx)) ?_
  split<;>rfl
theorem Ul(V:∀x∈l,Bd x/\dp x<=8)(hl:l.length<=400)(hi:ρ[i]? =some (.v (.d (.tuple (l.map af)))))(hj:j<ρ.length):ev au R (dN .dedup [.comp (cB [L j,cY]) (.one j) (L i) cY]) ρ σ=some ([.d (.list ((dd [] l).map af))],σ):=by
 refine iw (ay (ge (l:=l) (m:=af) (g:=BS) (kN (aj hi) (by refine Y (aw _) ?_;exact aV hl rfl)) (λx hx=>(ai _ rfl (dQ (ay (aj (Y (Og hj) rfl)) (ay bc aI)) rfl))) (aV hl rfl)) aI) rfl ?_
 show(if decide ((l.map BS).length<=1000)=true then(pairsOf (l.map BS)).bind λps=>(x8 [] ps).map λkvs=>jW (kvs.map (·.1)) else none)=_
 rw[decide_eq_true (Y (aw _)<|(aV hl rfl)),if_pos rfl,Uj,iC,show x8 [] (l.map fX)=some ((dd [] l).map fX) from Uk (acc:=[]) V,uE,dW]
 rfl
def cnt(l:List Tm)(t:Tm):Nat:=l.countP λy=>eqT y t
theorem xu(t:Tm):eqT t t=true:=(oG t t).mpr rfl
theorem Vr(h:t≠u):eqT t u=false:=by
 cases q:eqT t u with
 |false=>rfl
 |true=>exact absurd ((oG t u).mp q) h
theorem cnt_cons(x:Tm)(l:List Tm)(t:Tm):cnt (x::l) t=cnt l t+if eqT x t=true then 1 else 0:=List.countP_cons ..
theorem cnt_append(a b:List Tm)(t:Tm):cnt (a++b) t=cnt a t+cnt b t:=List.countP_append ..
theorem SW(p:a.Perm b)(t:Tm):cnt a t=cnt b t:=p.countP_eq _
theorem Um:0<cnt l t↔t∈l:=by
 unfold cnt
 refine si List.countP_pos_iff ?_
 constructor
 .intro anz;exact ar anz λy hy e=>sl ((oG y t).mp e)<|hy
 .exact λh=>(ai t h (xu t))
theorem PQ:∀{a b:List Tm},(∀t,cnt a t=cnt b t)->a.Perm b
 |[],b,h=>by
  cases b with
  |nil=>exact .refl _
  |cons x b=>have:=h x;rw[cnt_cons,xu] at this;simp[cnt] at this
 |x::a,b,h=>by
  have hx:=Um.mp (by refine sl (h x)<|Y (cnt_cons _ _ _)<|Y (xu _) ?_;simp)
  have p:=uG hx
  refine((PQ λt=>?_).cons x).trans p.symm
  have H:=h t
  rw[SW p t,cnt_cons,cnt_cons] at H
  exact bR (aO [(J B v1,J v2 v1)] (B,v2) rfl (aA H)) (aO [(J B v1,J v2 v1)] (B,v2) rfl (aA H.symm))
theorem ahR(k:Nat)(t u:Tm):cnt (ii k t) u=if eqT t u=true then k else 0:=by
 unfold cnt;exact Y List.countP_replicate rfl
def j'(rest:List Tm):List Tm->Nat
 |[]=>0
 |t::ts=>cnt rest t+j' rest ts
theorem aer{rest}:j' rest []=0:=rfl
theorem uL{rest t ts}:j' rest (t::ts)=cnt rest t+j' rest ts:=rfl
theorem EJ(nd:ts.Nodup):∀rest,j' rest ts<=rest.length
 |[]=>by
  induction ts with
  |nil=>exact a8 _
  |cons t ts ih=>rw[uL,show cnt [] t=0 from rfl,js];exact ih (lW.mp nd).2
 |x::rest=>by
  have ih:=EJ nd rest
  have:j' (x::rest) ts<=j' rest ts+1/\(x ∉ ts->j' (x::rest) ts=j' rest ts):=by
   clear ih
   induction ts with
   |nil=>exact⟨dn _,λzz=>rfl⟩
   |cons t ts ih=>
    refine xa (ih (lW.mp nd).2) λi1 i2=>?_
    rw[uL,uL,cnt_cons]
    by_cases e:x=t
    .have:=i2 (Y e<|(lW.mp nd).1)
     refine⟨by split;exact aO [(v1,v2)] (J (J B k1) v1,J (J B v2) k1) rfl (aA this);exact aO [(v1,v2)] (J (J B k0) v1,J (J B v2) k1) rfl (aA this),λh=>absurd (Y e<| .head _) h⟩
    .refine Y (Vr e)<|⟨by simp only[nw,if_false];(exact aO [(B,J v1 k1)] (J (J v2 k0) B,J (J v2 v1) k1) rfl i1),λh=>?_⟩
     refine Y (i2 λq=>h (.tail _ q)) ?_;simp
  exact Y bL<|aO [(B,J v1 k1),(v1,v2)] (B,J v2 k1) rfl this.1 ih
def jE(rest:List Tm)(t:Tm)(rows:List (List Tm)):List (List Tm):=(rows.flatMap λrow=>(lr (cnt rest t+1)).map λk=>(row,k)).map λp=>p.1++ii p.2 t
def sb(rest:List Tm):List Tm->List (List Tm)->List (List Tm)
 |[],rows=>rows
 |t::ts,rows=>sb rest ts (jE rest t rows)
theorem ahS{rest x}:sb rest [] x=x:=rfl
theorem Un{rest x t ts}:sb rest (t::ts) x=sb rest ts (jE rest t x):=rfl
theorem Ek:r∈jE rest t rows↔∃row∈rows,∃k,k<=cnt rest t/\r=row++ii k t:=by
 unfold jE
 refine si fQ ?_
 constructor
 .intro WA;refine ar WA λBv h oR=>?_;clear WA;obtain⟨row,k⟩:=Bv;subst oR
  refine fD h λapm H O=>cr O λk' h3 h4=>xa (acu h4) λrr rC=>?_;clear h O h4;subst rr rC
  exact gC apm H k' (aaX.mp (zh.mp h3)) rfl
 .intro WB;refine Fj WB λrow H k O vq=>?_;clear WB;subst vq
  exact ai ((row,k)) (jr.mpr (ai row H (fQ.mpr (ai k (zh.mpr (aal O)) rfl)))) rfl
theorem SX(rest:List Tm)(t:Tm)(rows:List (List Tm)):(jE rest t rows).length=rows.length*(cnt rest t+1):=by
 unfold jE
 refine Y (aw _) ?_
 induction rows with
 |nil=>simp
 |cons r rows ih=>exact Y eK<|Y cS<|Y ih<|Y (aw _)<|Y G2<|Y bL<|Y (sO _ _)<|Y (xb _ _) rfl
theorem IR:∀{ts:List Tm} {rows:List (List Tm)},(∀t∈ts,t∈rest)->(∀r∈rows,∀x∈r,x∈rest)->∀r∈sb rest ts rows,∀x∈r,x∈rest
 |[],_,_,h=>h
 |t::ts,rows,ht,h=>by
  refine IR (ts:=ts) (rows:=jE rest t rows) (λu hu=>ht u (.tail _ hu)) λr hr x hx=>Fj (Ek.mp hr) λrow H k zz oQ=>?_;subst oQ
  refine a9 (ln.mp hx) (λhx=>?_) (λhx=>?_)
  .exact h row H x hx
  .exact Y ((List.mem_replicate.mp hx).2)<|ht t (.head _)
def canon(l:List Tm):List Tm->List Tm
 |[]=>[]
 |t::ts=>ii (cnt l t) t++canon l ts
theorem adi{l}:canon l []=[]:=rfl
theorem QA{l t ts}:canon l (t::ts)=ii (cnt l t) t++canon l ts:=rfl
theorem SY(hc:∀t,cnt l t<=cnt rest t):∀{ts:List Tm} {rows:List (List Tm)} {row:List Tm},row∈rows->row++canon l ts∈sb rest ts rows
 |[],rows,row,h=>by rw[adi,gU];exact h
 |t::ts,rows,row,h=>by
  rw[QA,<- lm,Un]
  exact SY hc (Ek.mpr (gC row h (cnt l t) (hc t) rfl))
theorem Rs(u:Tm):∀{ts:List Tm},ts.Nodup->cnt (canon l ts) u=if ts.any (λy=>eqT y u)=true then cnt l u else 0
 |[],_=>rfl
 |t::ts,nd=>by
  rw[QA,cnt_append,ahR,Rs u (lW.mp nd).2,w7]
  by_cases e:t=u
  .subst e
   refine Y (xu _) ?_;rw[if_pos rfl]
   have:¬(ts.any λy=>eqT y t)=true:=λq=>(lW.mp nd).1 (xI.mp q)
   refine Y (if_neg this) ?_;simp
  .refine Y (Vr e) ?_;simp
theorem adj{rest l L:List Tm}(p:(l++L).Perm rest):(canon l (dd [] rest)).Perm l:=by
 refine PQ λu=>Y (Rs u (uN .nil)) ?_
 split
 .rfl
 .rename_i h
  have:¬ 0<cnt l u:=λq=>h (xI.mpr (qw.mpr (.inr (p.mem_iff.mp (pH _ (Um.mp q))))))
  exact bR lJ ((kw this))
def BU(rest:List Tm):List (List Tm):=(sb rest (dd [] rest) [[]]).filter λr=> !r.isEmpty
theorem Rt:∀r∈BU rest,r≠[]/\∀x∈r,x∈rest:=λr hr=>by
 refine xa (kE.mp hr) λH O=>⟨by rintro rfl;simp at O,IR (λt ht=>?_) (by simp) r H⟩
 simpa using qw.mp ht
theorem aes{rest l L:List Tm}(p:(l++L).Perm rest)(h:l≠[]):∃r∈BU rest,r.Perm l:=by
 have hc:∀t,cnt l t<=cnt rest t:=λt=>by exact sl ((SW p) _)<|Y (cnt_append _ _ _)<|kx _ _
 have q:=adj p
 have:=SY hc (ts:=dd [] rest) (rows:=[[]]) (row:=[]) (.head _)
 refine ai _ (kE.mpr ⟨this,?_⟩) q
 refine Y (kC _) ?_
 cases e:canon l (dd [] rest) with
 |nil=>rw[e] at q;exact absurd (Pc.mp q) h
 |cons _ _=>rfl
theorem Jr(n:Nat):n+1<=2^n:=Nat.lt_two_pow_self
theorem JU:∀{ts:List Tm} {rows:List (List Tm)},(sb rest ts rows).length<=rows.length*2^j' rest ts
 |[],rows=>by rw[ahS,aer];simp
 |t::ts,rows=>by
  rw[Un,uL,PZ,<- zj]
  refine aB JU (lS _ ?_)
  exact Y (SX _ _ _)<|GQ _ (Jr _)
theorem Ru(rest:List Tm):(BU rest).length<=2^rest.length:=by
 refine aB (zb ..) (aB JU ?_)
 exact Y bL<|Y dO<|Y (js _)<|Y (sQ _)<|kr (by decide) (EJ (uN .nil) rest)
def cV(l:List Tm):ah:= .tuple (l.map af)
theorem HP:∀(n a:Nat),intsFrom (a:Int) n=(P0 a n).map λ(k:Nat)=>kG (k:Int)
 |0,a=>rfl
 |n+1,a=>by
  rw[zi,List.range'_succ,bE]
  have:=HP n (a+1)
  rw[aaW] at this
  rw[show((1:Nat):Int)=1 from rfl] at this
  exact Y this rfl
theorem Rv{n:Nat}(h:n<=1000):jK .jx [.int (n:Int)]=some (.list ((lr n).map λ(k:Nat)=>kG (k:Int))):=by
 show(intD (.int (n:Int))).bind (λn=>if (df n && decide (n<=1000))=true then some (jW (intsFrom 0 n.toNat)) else none)=_
 rw[show intD (.int (n:Int))=some (n:Int) from rfl,iC,oy (aV h rfl),decide_eq_true (show(n:Int)<=1000 from n3 (b:=1000) h),sH,List.range_eq_range',<- HP n 0]
 rfl
theorem SZ(t:Tm):∀k,qD [af t] k=(ii k t).map af
 |0=>rfl
 |k+1=>by rw[HR,SZ t k,GR,bE];rfl
theorem ajd{k:Nat}(h:k<=1000):j7 .mul (.tuple [af t]) (.int (k:Int))=some (.tuple ((ii k t).map af)):=by
 show(intD (.int (k:Int))).bind (λb=>if (decide (0<=b) && decide (b<=1000) && decide ([af t].length<=1))=true then some (sL (qD [af t] b.toNat)) else none)=_
 rw[show intD (.int (k:Int))=some (k:Int) from rfl,iC,decide_eq_true (i0 k),decide_eq_true (show(k:Int)<=1000 from n3 (b:=1000) h),sH,SZ]
 rfl
theorem afT(V:∀x∈rest,Bd x)(bt:Bd t)(hl:rest.length<=400):jK .count [.tuple (rest.map af),af t]=some (.int (cnt rest t:Nat)):=by
 show(if (ce (.tuple (rest.map af)) && ce (af t))=true then fE ((rest.map af).countP λx=>cA x (af t)) else none)=_
 exact Y (AG V)<|Y bt.ok<|Y (if_pos (show(true && true)=true from rfl))<|Y aaS<|qh (aB ZT (aV hl rfl))
theorem afU(V:∀x∈rest,Bd x)(hl:rest.length<= 10)(bt:Bd t)(hr:rows.length<=1024)(lP:(jE rest t rows).length<=1024)(apn:∀r∈rows,r.length<=100):
 aR au (RR n) (.asg 1 (.gY (.bin .add (L 4) (.bin .mul (cB [L 2]) (L 5))) (.one 4) (L 1) (.one 5) (dN .jx [.bin .add (dN .count [L 0,L 2]) (I 1)]))<| .ca (.cmp .gt (.bi .len (L 1)) (.lit yf)) .bad .bI .bI) [.v (.d (cV rest)), .v (.d (.list (rows.map cV))), .v (.d (af t)),V3,b4,b5] σ=some (.next [.v (.d (cV rest)), .v (.d (.list ((jE rest t rows).map cV))), .v (.d (af t)),V3,b4,b5] σ):=by
 have iA:cnt rest t<= 10:=aB ZT hl
 have i8:kn=500000000000:=rfl
 have e:(jE rest t rows).map cV=(rows.flatMap λrow=>(lr (cnt rest t+1)).map λk=>(row,k)).map λp=>cV (p.1++ii p.2 t):=by unfold jE;refine Y dW ?_;rfl
 have el:(rows.flatMap λrow=>(lr (cnt rest t+1)).map λk=>(row,k)).length<=100000:=by
  have:(jE rest t rows).length=(rows.flatMap λrow=>(lr (cnt rest t+1)).map λk=>(row,k)).length:=by unfold jE;exact Y (aw _) rfl
  exact cN (aA this.symm) lP rfl
 refine dy (ae:=σ) (v:= .d (.list ((jE rest t rows).map cV))) ?_ (io (ae:=σ) (fC (dD (ae:=σ) (aF:=σ) (cM (aj rfl) (rh (by refine Y (aw _) ?_;exact aV lP rfl))) bc (qv _ _)) ?_) rfl)
 .refine Y e<|uS (l:=rows) (m:=cV) (s:=λrow=>(lr (cnt rest t+1)).map λk=>(row,k)) (m2:=λp=> .int (p.2:Int)) (g:=λp=>cV (p.1++ii p.2 t)) (cX (aj rfl) (by refine Y (aw _) ?_;exact aV hr rfl)) (λrow hrw=>(bQ _ rfl ?_ (λp hp=>(ai _ rfl ?_)))) el
  .exact Y dW<|cX (iw (ay (eP (ae:=σ) (aF:=σ) (iw (ay (aj rfl) (ay (aj rfl) aI)) rfl (afT V bt (aV hl rfl))) bc (uT (b:=1) (aM [((.num 500000000000),B),(v1,(.num 10))] (J (J v1 k1) k1,B) (by kernel_rfl) (aA i8.symm) iA))) aI) rfl (Rv (be [(B,(.num 10))] (J B k1,(.num 1000)) (by kernel_rfl) iA))) (Y (aw _)<|Y G2<|be [(B,(.num 10))] (J B k1,(.num 100000)) (by kernel_rfl) iA)
  .refine cr hp λk hk BR=>?_;clear hp;subst BR
   have hk:=zh.mp hk
   have:=apn row hrw
   refine eP (ae:=σ) (aF:=σ) (aj rfl) (eP (ae:=σ) (aF:=σ) (dQ (ay (aj rfl) aI) rfl) (aj rfl) (ajd (aM [(J B k1,J v1 k1),(v1,(.num 10))] (B,(.num 1000)) rfl hk iA))) ?_
   unfold cV
   exact Y fk<|fJ (Y cS<|Y (aw _)<|Y (aw _)<|Y Oj<|aO [(B,(.num 100)),(J v1 k1,J v2 k1),(v2,(.num 10))] (J B v1,(.num 100000)) rfl this hk iA)
 .rw[decide_eq_false]
  refine Y (aw _) (yC (a:=4096) (sT.mpr (aB (by assumption) (by decide))))
theorem S0(V:∀x∈rest,Bd x)(hl:rest.length<= 10):∀(ts:List Tm) (rows:List (List Tm)) (b2:aK),(∀t∈ts,Bd t)->rows.length*2^j' rest ts<=1024->(∀r∈rows,r.length+j' rest ts<=100)->
 ∃CX,gh (λx ρ σ=>(cg (.one 2) x ρ).bind λaE=>aR au (RR n) (.asg 1 (.gY (.bin .add (L 4) (.bin .mul (cB [L 2]) (L 5))) (.one 4) (L 1) (.one 5) (dN .jx [.bin .add (dN .count [L 0,L 2]) (I 1)]))<| .ca (.cmp .gt (.bi .len (L 1)) (.lit yf)) .bad .bI .bI) aE σ) (ts.map af) [.v (.d (cV rest)), .v (.d (.list (rows.map cV))),b2,b3,b4,b5] σ=
  some (.next [.v (.d (cV rest)), .v (.d (.list ((sb rest ts rows).map cV))),CX,b3,b4,b5] σ)
 |[],rows,b2,_,_,_=>⟨b2,rfl⟩
 |t::ts,rows,b2,h,H,O=>by
  rw[uL] at O
  rw[uL,PZ,<- zj] at H
  have h3:(jE rest t rows).length*2^j' rest ts<=1024:=by
   refine aB (lS _ ?_) H
   exact Y (SX _ _ _)<|GQ _ (Jr _)
  have hp:0<2^j' rest ts:=sS (by decide)
  have og:0<2^cnt rest t:=sS (by decide)
  have h4:(jE rest t rows).length<=1024:=aB (Db _ hp) h3
  have h5:rows.length<=1024:=aB (Db _ og) (aB (Db _ hp) H)
  refine xe (S0 (n:=n) (σ:=σ) V hl (b3:=b3) (b4:=b4) (b5:=b5) ts (jE rest t rows) (.v (.d (af t))) (λx hx=>h x (.tail _ hx)) h3 (λr hr=>by
   refine Fj (Ek.mp hr) λrow NJ k hk anA=>?_;subst anA
   have:=O row NJ
   exact Y cS<|Y Oj<|bM [(J B (J v1 v2),(.num 100)),(v3,v1)] (J (J B v3) v2,(.num 100)) rfl this hk)) λCX ih=>?_
  exact⟨CX,l5 rfl (afU V hl (h t (.head _)) h5 h4 λr hr=>by have:=O r hr;exact aO [(J B (J v1 v2),(.num 100))] (B,(.num 100)) rfl this) ih⟩
theorem Uo(V:∀x∈l,Bd x):gI .ne (cV l) (.tuple [])=some (!l.isEmpty):=by
 have g1:gd (cV l)=true:=by unfold cV;simp only[gd];exact tv λx zz=>u9 x
 have H:=AG V
 have O:=AG (l:=[]) (by simp)
 refine Y (E' H O) ?_
 congr 2
 have:=qm (cV l) (.tuple []) g1 rfl
 clear H;clear V;cases l with
 |nil=>exact this.mpr rfl
 |cons x l=>
  cases q:cA (cV (x::l)) (.tuple []) with
  |false=>rfl
  |true=>have:=this.mp q;unfold cV at this;simp at this
theorem Up:∀{ts:List Tm} {rows:List (List Tm)},(∀r∈rows,r.length+j' rest ts<=100)->∀r∈sb rest ts rows,r.length<=100
 |[],rows,h=>λr hr=>by have:=h r hr;exact aM [(J B v1,(.num 100))] (B,(.num 100)) rfl this
 |t::ts,rows,h=>Up (ts:=ts) (rows:=jE rest t rows) λr hr=>by
  refine Fj (Ek.mp hr) λrow NJ k hk anB=>?_;subst anB
  have:=h row NJ
  rw[uL] at this
  exact Y cS<|Y Oj<|bM [(J B (J v1 v2),(.num 100)),(v3,v1)] (J (J B v3) v2,(.num 100)) rfl this hk
theorem aca(V:∀x∈rest,Bd x/\dp x<=8)(hl:rest.length<= 10)(n:Nat)(σ:Sg):RR (n+1) 5 [.d (cV rest)] σ=some (.d (.list ((BU rest).map cV)),σ):=by
 have yP:∀x∈rest,Bd x:=λx hx=>(V x hx).1
 have hs:=EJ (uN (l:=rest) .nil) rest
 have hp:2^j' rest (dd [] rest)<=1024:=aB (kr (by decide) (aB hs hl)) (by decide)
 have hr0:∀r∈[([]:List Tm)],r.length+j' rest (dd [] rest)<=100:=λr hr=>by exact Y (bY.mp hr)<|Y dO<|aM [(B,v1),(v1,(.num 10))] (J k0 B,(.num 100)) rfl hs hl
 refine xe (S0 (n:=n) (σ:=σ) yP hl (b3:= .un) (b4:= .un) (b5:= .un) (dd [] rest) [[]] .un (λt ht=>yP t (by simpa using qw.mp ht)) (by refine Y bL<|Y dO<|Y (js _)<|Y (sQ _) ?_;exact hp) hr0) λb2 cH=>?_
 have br:(sb rest (dd [] rest) [[]]).length<=1024:=aB JU (Y bL<|Y dO<|Y (js _)<|Y (sQ _)<|hp)
 have i7:=tD (l:=rest) (acc:=[])
 refine eQ rfl rfl (dy (ae:=σ) (v:= .d (.list [cV []])) (ji (ay (dQ aI rfl) aI) rfl) (mh (ae:=σ) (cX (Ul (i:=0) (j:=3) V (aV hl rfl) rfl (show 3<6 by decide)) (by refine Y (aw _) ?_;simp only[dO] at i7;exact aM [(B,J k0 v1),(v1,(.num 10))] (B,(.num 100000)) rfl i7 hl)) cH (dR ?_)))
 exact ta (l:=sb rest (dd [] rest) [[]]) (m:=cV) (g:=cV) (p:=λr=> !r.isEmpty) (cX (aj rfl) (Y (aw _)<|aV br rfl)) (λr hr=>(bQ _ rfl (dD (ae:=σ) (aF:=σ) (aj rfl) (dQ aI rfl) (Uo λx hx=>yP x (IR (λt ht=>by simpa using qw.mp ht) (by simp) r hr x hx))) (λzz=>aj rfl))) (aV br rfl)
noncomputable def NB:Nat->Nat
 |0=>1
 |s+1=>NB s*2^(s+1)
theorem ahT:NB 0=1:=rfl
theorem ahU{s}:NB (xw s)=NB s*2^(s+1):=rfl
theorem Fe:∀s,1<=NB s
 |0=>a8 _
 |s+1=>Nat.mul_pos (Fe s) (sS (by decide))
theorem xK:∀{a b:Nat},a<=b->NB a<=NB b:=by
 intro a b h
 induction h with
 |refl=>exact a8 _
 |step _ ih=>exact aB ih (Db _ (sS (by decide)))
theorem JV(a:Nat):∀b,NB a*NB b<=NB (a+b)
 |0=>by rw[ahT,Nat.mul_one];exact a8 _
 |b+1=>by
  show NB a*(NB b*2^(b+1))<=NB (a+b)*2^(a+b+1)
  exact sl (zj _ _ _)<|Hd (JV a b) (kr (by decide) (aM [] (J B k1,J (J v1 B) k1) rfl))
theorem aje(h:k<s):2^s*NB k<=NB s:=by
 obtain⟨s,rfl⟩:∃m,s=m+1:=⟨s - 1,by (exact bR ((bj _ _)) ((aU (iL h))))⟩
 rw[ahU,zp]
 exact lS _ (xK (aaX.mp h))
section
variable{aa:List Str}
theorem AI(h:Nf aa t)(hk:k∈t.ks):Nf aa k:=by
 by_cases V:bA aa t=true
 .have e:=lY aa V
  rw[show normal aa t=t from h] at e
  rw[e] at hk
  obtain⟨x,_,rfl⟩:=fQ.mp ((gW _).mem_iff.mp hk)
  exact sW aa x
 .have e:=jt aa V
  rw[show normal aa t=t from h] at e
  rw[e] at hk
  obtain⟨x,_,rfl⟩:=fQ.mp hk
  exact sW aa x
theorem xL(t:Tm):Nf aa t->∀p∈pre t,Nf aa p:=by
 induction t using cU with
 |_ o l ih=>
  intro h p hp
  rw[fH,jd] at hp
  rcases bK.mp hp with rfl|hp
  .exact h
  .obtain⟨k,hk,hp⟩:=jr.mp hp
   exact ih k hk (AI h hk) p hp
theorem Rw(h:Nf aa t)(V:bA aa t=true):cK t.ks=t.ks:=by
 have e:=congrArg Tm.ks (lY aa V)
 rw[show normal aa t=t from h] at e
 have e:=e
 exact Y e<|xc (gW _)
theorem aet(h:Nf aa t)(V:bA aa t=true)(hk:k∈t.ks):dq aa t.op k:=by
 rw[<- Ud h V] at hk
 exact SG aa V hk
structure gL(aa:List Str)(o:Str)(l:List Tm):Prop where
 nf:∀x∈l,Nf aa x
 nb:∀x∈l,dq aa o x
theorem gL.perm(h:gL aa o a)(p:a.Perm b):gL aa o b:=⟨λx hx=>h.nf x (p.mem_iff.mpr hx),λx hx=>h.nb x (p.mem_iff.mpr hx)⟩
theorem gL.left(h:gL aa o (a++b)):gL aa o a:=⟨λx hx=>h.nf x (pH _ hx),λx hx=>h.nb x (pH _ hx)⟩
theorem gL.right(h:gL aa o (a++b)):gL aa o b:=⟨λx hx=>h.nf x (wI _ hx),λx hx=>h.nb x (wI _ hx)⟩
theorem El:∀{l:List Tm},(∀x∈l,dq aa o x)->l.flatMap (sel aa o)=l
 |[],_=>rfl
 |x::l,h=>by refine Y eK<|Y (im aa (h x (.head _)))<|Y (El λy hy=>h y (.tail _ hy)) ?_;rfl
theorem Aq(h:Nf aa t)(V:bA aa t=true):gL aa t.op t.ks:=⟨λzz hk=>AI h hk,λzz hk=>aet h V hk⟩
theorem zK(h:gL aa o l):made aa o l=Fb o (cK l):=by exact Y (Rj _ _ _)<|Y (El h.nb) rfl
theorem Ig(h:gL aa o a)(p:a.Perm b):made aa o a=made aa o b:=by
 exact Y (zK h)<|Y (zK (h.perm p))<|Y (xc p) rfl
theorem qW(h:gL aa o l)(bB:l≠[]):(∃x,l=[x]/\made aa o l=x)\/(2<=l.length/\made aa o l= .node o (cK l)):=by
 have hl:=(gW l).length_eq
 refine Y (zK h) ?_
 match l,bB with
 |[x],_=>exact .inl ⟨x,rfl,rfl⟩
 |x::y::r,_=>
  refine .inr ⟨by simp,?_⟩
  generalize cK (x::y::r)=s at hl
  match s,hl with
  |_::_::_,_=>rfl
theorem Rx(h:gL aa o l)(hc:aa.contains o=true)(O:2<=l.length):bA aa (.node o (cK l))=true/\Nf aa (.node o (cK l)):=by
 have p:=gW l
 have V:bA aa (.node o (cK l))=true:=(gv aa).mpr ⟨hc,by show 2<=(cK l).length;exact Y p.length_eq<|O⟩
 refine⟨V,?_⟩
 unfold Nf
 refine Y (lY aa V)<|Y (oC aa V) ?_
 show Tm.node o (cK (((cK l).flatMap (sel aa o)).map (normal aa)))=_
 have hf:=h.perm p.symm
 refine Y (El hf.nb) ?_
 congr 1
 refine xc (.trans (.of_eq ?_) p)
 conv=>rhs;rw[<- HC (cK l)]
 exact mG λx hx=>hf.nf x hx
theorem Uq(h:gL aa o l)(hc:aa.contains o=true)(bB:l≠[]):Nf aa (made aa o l):=by
 rcases qW h bB with⟨x,rfl,e⟩|⟨O,e⟩
 .exact Y e<|h.nf x (.head _)
 .exact Y e<|(Rx h hc O).2
theorem afV(h:gL aa o l)(hc:aa.contains o=true)(bB:l≠[]):(sel aa o (made aa o l)).Perm l:=by
 rcases qW h bB with⟨x,rfl,e⟩|⟨O,e⟩
 .rw[e,im aa (h.nb x (.head _))]
 .obtain⟨V,hn⟩:=Rx h hc O
  rw[e,AH hn o,if_pos ⟨rfl,V⟩]
  exact gW l
theorem S1(h:Nf aa v)(o:Str):gL aa o (sel aa o v):=by
 refine⟨λx hx=>?_,λx hx=>EA aa o v x hx⟩
 rw[AH h o] at hx
 split at hx
 .exact AI h hx
 .exact Y (bY.mp hx)<|h
theorem afW(h:Nf aa v)(o:Str):made aa o (sel aa o v)=v:=by
 have hf:=S1 h o
 refine Y (zK hf)<|Y (AH h o) ?_
 split
 .rename_i q
  obtain⟨rfl,V⟩:=q
  refine Y (Rw h V) ?_
  have:=lx aa V
  cases v with|node o l=>
  match l,this with
  |_::_::_,_=>rfl
 .rfl
theorem EK(h:gL aa o l)(bB:l≠[]):sz (made aa o l)<=bG l+1:=by
 rcases qW h bB with⟨x,rfl,e⟩|⟨O,e⟩
 .rw[e,cT];exact aM [] (B,J (J B v1) k1) rfl
 .rw[e,dA,q7 (gW l)];exact a8 _
def fP(p:Tm):Prop:=∀q∈pre p,bJ q.op=true->q.ks=[]
theorem fP.ez(h:fP p)(hk:k∈p.ks):fP k:=λq hq=>h q (by clear h;cases p with|node o l=>exact ly hk hq)
theorem fP.M1(h:fP p)(hk:p.ks≠[]):bJ p.op=false:=by
 cases q:bJ p.op with
 |false=>rfl
 |true=>exact absurd (h p (iW p) q) hk
theorem fP.wc(h:fP p):wc p=bJ p.op:=by
 unfold bh.wc
 cases q:bJ p.op with
 |false=>exact Y (O7 _) rfl
 |true=>refine Y (h p (iW p) q) ?_;rfl
theorem fP.sel(h:fP p)(o:Str):∀q∈sel aa o p,fP q:=λq hq u hu=>h u (EB aa o p q hq u hu)
structure oh(aa:List Str)(σ:Str->Option Tm):Prop where
 lb:∀o,(σ o).isSome=bJ o
 nf:∀o v,σ o=some v->Nf aa v
section
variable{σ:Str->Option Tm}(bU:oh aa σ)
include bU
theorem zW(h:bJ p.op=false):fill σ p= .node p.op (p.ks.map (fill σ)):=by
 cases p with|node o l=>
 rw[pV,pY]
 have:σ o=none:=by
  have:=bU.lb o
  rw[show bJ o=false from h] at this
  simpa using this
 refine Y this ?_;rfl
omit bU in
theorem afX(h:σ o=some v):fill σ (.node o l)=v:=by
 rw[pV,h];rfl
theorem D8(h:bJ p.op=false):bA aa (fill σ p)=true↔bA aa p=true:=by
 refine Y (zW bU h)<|si (gv _)<|si (gv _) ?_
 show _/\2<=(p.ks.map (fill σ)).length↔_
 refine Y (aw _) ?_;rfl
theorem Ar(h:bJ p.op=false):(fill σ p).op=p.op:=by refine Y (zW bU h) ?_;rfl
def jS(aa:List Str)(o:Str)(σ:Str->Option Tm)(q:Tm):List Tm:=sel aa o (normal aa (fill σ q))
omit bU in
theorem Pb{f g:α->List Tm}:∀{l:List α},(∀k∈l,(f k).Perm (g k))->(l.flatMap f).Perm (l.flatMap g)
 |[],_=> .refl _
 |k::l,p=>by
  exact Y eK<|Y eK<|(p k (.head _)).append (Pb λx hx=>p x (.tail _ hx))
theorem afY(o:Str)(p:Tm):fP p->((sel aa o (fill σ p)).map (normal aa)).Perm ((sel aa o p).flatMap (jS aa o σ)):=by
 induction p using cU with
 |_ o' l ih=>
  intro hp
  by_cases h:dq aa o (.node o' l)
  .exact Y (im aa h)<|Y eK<|Y uD<|Y (gU _)<|(Qq aa o _).symm
  .unfold dq at h
   rw[pI,pJ] at h
   obtain⟨H,O⟩:=h
   have H:=H
   subst H
   have hx:=hp.M1 (by have:=lx aa O;intro e;rw[e] at this;simp at this)
   refine Y (kL aa (show dG aa o' l=true from O))<|Y (zW bU (p:= .node o' l) hx) ?_
   have V:=(D8 bU (p:= .node o' l) hx).mpr O
   rw[zW bU (p:= .node o' l) hx] at V
   show((sel aa o' (.node o' (l.map (fill σ)))).map _).Perm _
   exact Y (kL aa (show dG aa o' (l.map (fill σ))=true from V))<|Y G5<|Y (List.flatMap_map _ _ _)<|Y List.flatMap_assoc<|Pb λk hk=>ih k hk (hp.ez hk)
theorem Js(hp:fP p)(V:bA aa p=true)(ht:Nf aa t):normal aa (fill σ p)=t↔t.op=p.op/\bA aa t=true/\((sel aa p.op p).flatMap (jS aa p.op σ)).Perm t.ks:=by
 have hx:=hp.M1 (by have:=lx aa V;intro e;rw[e] at this;simp at this)
 have qM:=(D8 bU hx).mpr V
 have e:ff aa (fill σ p)=sel aa p.op (fill σ p):=by unfold sel;exact Y (if_pos (Ar bU hx)) rfl
 have q:=afY bU p.op p hp
 have en:=lY aa qM
 rw[e,Ar bU hx] at en
 constructor
 .rintro rfl
  refine⟨by exact Y (xm _ _)<|Y (Ar bU hx) rfl,(xd aa _).mpr qM,?_⟩
  exact Y en<|q.symm.trans (gW _).symm
 .rintro⟨H,O,h3⟩
  have hs:=Rw ht O
  refine Y en<|Y (xc (q.trans h3))<|Y hs<|sl H ?_
  clear H h3 hs;clear ht O;cases t;rfl
theorem ahV(hx:bJ q.op=false)(V:dq aa o q):jS aa o σ q=[normal aa (fill σ q)]:=
 im aa (Dx aa λe b=>V (sl (Ar bU hx)<|e) ((D8 bU hx).mp b))
theorem IS(hx:bJ p.op=false)(V:¬bA aa p=true):normal aa (fill σ p)=t↔t.op=p.op/\t.ks=p.ks.map λk=>normal aa (fill σ k):=by
 have qM:=λh=>V ((D8 bU hx).mp h)
 refine Y (jt aa qM)<|Y (Ar bU hx)<|Y (zW bU hx) ?_
 show Tm.node p.op ((p.ks.map (fill σ)).map (normal aa))=t↔_
 refine Y dW ?_
 cases t with|node o l=>
 constructor
 .intro h;injection h with KQ anC;subst KQ anC;exact⟨rfl,rfl⟩
 .rintro⟨H,O⟩
  have H:o=p.op:=H
  have O:l=_:=O
  refine Y H<|Y O ?_;rfl
end
end
theorem FC(t:Tm):lv t<=sz t:=by
 induction t using cU with
 |_ o l ih=>
  have:cR l<=bG l:=by
   induction l with
   |nil=>exact a8 _
   |cons x l jR=>rw[eC,cT];have:=ih x (.head _);have:=jR λk hk=>ih k (.tail _ hk);(rename_i aY;exact vV this aY)
  cases l with
  |nil=>rw[xC,dA];exact uc
  |cons x r=>rw[jf (by simp),dA];exact FQ this
theorem Ur:∀l:List Tm,cR l<=bG l
 |[]=>a8 _
 |x::l=>by rw[eC,cT];have:=FC x;have:=Ur l;(rename_i aY;exact vV this aY)
theorem rG(t:Tm):dp t<=sz t:=by
 induction t using cU with
 |_ o l ih=>
  have:fe l<=bG l:=by
   induction l with
   |nil=>exact a8 _
   |cons x l jR=>rw[ik,cT];have:=ih x (.head _);have:=jR λk hk=>ih k (.tail _ hk);(rename_i aY;exact(eN _ _).elim (λf7=>bM [(B,v1),(v2,B)] (v2,J v1 v3) rfl aY (fN f7)) λf7=>bM [(B,v1),(v2,B)] (v2,J v3 v1) rfl this (fY f7))
  rw[kK,dA];exact vU this
def jF(x:Tb×List Tm):ah:= .tuple [cy x.1,cV x.2]
def lG(f:List Tm->List Tb)(left a0:List Tm):List (Tb×List Tm):=match wo left a0 with
 |some l=>(f a0).map λr=>(r,l)
 |none=>[]
def gM(rows:List Tb):as7:= .d (.list (rows.map cy))
theorem abj(l:List Tm):jK .qc [Ci (some l)]=some (.bool true):=rfl
theorem abk:jK .qc [Ci none]=some (.bool false):=rfl
def JW:S:= .asg 10 (Call 4 [L 4,L 9])<| .ca (dN .qc [L 10]) (.ext 8 (.comp (cB [L 11,L 10]) (.one 11) (dc 12 (L 0) [L 1,L 3,dc 8 (L 0) [L 2,L 9]]) cY) .bI) .bI .bI
section
variable{aa:List Str}(ho:ir aa)
include ho
theorem adk(iB:o∈al){left a0:List Tm}(hn: 20<=n)(V:∀x∈left,Bd x)(bF:bG left<= 10)(f:List Tm->List Tb)(YT:∀x∈a0,Bd x)(pD:a0.length<=100)
 (hf:∀l,wo left a0=some l->RR (n+1) 12 [.me (bH aa), .d (cy a4), .d (af q), .d (af (made aa o a0))] σ=some (gM (f a0),σ)/\(f a0).length<=1024) (acc:List (Tb×List Tm)) (ha:acc.length<=90000):
 aR au (RR (n+1)) JW [.v (.me (bH aa)), .v (.d (cy a4)), .v (.d (.str o)), .v (.d (af q)), .v (.d (cV left)),V5,b6,b7, .own (acc.map jF), .v (.d (cV a0)),b10,b11] σ=
  some (.next [.v (.me (bH aa)), .v (.d (cy a4)), .v (.d (.str o)), .v (.d (af q)), .v (.d (cV left)),V5,b6,b7, .own ((acc++lG f left a0).map jF), .v (.d (cV a0)), .v (.d (Ci (wo left a0))),b11] σ):=by
 have apo:=qg left
 refine dy (dJ (ay (aj rfl) (ay (aj rfl) aI)) (ab9 YT V (cN apo bF rfl) (aV pD rfl) n σ)) ?_
 unfold lG
 cases e:wo left a0 with
 |none=>
  refine io (iw (ay (aj rfl) aI) rfl abk)<|Y (gU _) ?_;rfl
 |some l=>
  refine xa (hf l e) λH O=>?_
  have p:=xJ e
  have hs:bG a0<= 10:=by have:=q7 p;rw[lq] at this;exact aO [(J B v1,v2),(v2,(.num 10))] (B,(.num 10)) rfl (aA this.symm) bF
  have hm:=SR ho iB YT (d:=cV a0) (.inr rfl) (aB (Ur a0) (aV hs rfl)) (n+1) σ (be [((.num 20),B)] ((.num 3),J B k1) rfl hn) λx hx=>by have:=uR hx;exact aO [(B,v1),(v1,(.num 10)),((.num 20),v2)] (J B (.num 4),J v2 k1) rfl this hs hn
  refine AF (ae:=σ) (iw (ay (aj rfl) aI) rfl (abj l)) (Vg (xs:=acc.map jF) (ys:=((f a0).map λr=>(r,l)).map jF) (ae:=σ) rfl ?_ ?_ rfl) ?_
  .exact Y dW<|ge (cX (fB (aj rfl) (ay (aj rfl) (ay (aj rfl) (ay (fB (aj rfl) (ay (aj rfl) (ay (aj rfl) aI)) hm) aI))) H) (Y (aw _)<|aV O rfl)) (λr zz=>(ai _ rfl (dQ (ay (aj rfl) (ay (aj rfl) aI)) rfl))) (aV O rfl)
  .exact Y cS<|Y (aw _)<|Y (aw _)<|Y (aw _)<|aM [(B,(.num 1024)),(v1,(.num 90000))] (J v1 B,(.num 100000)) rfl O ha
  .refine Y fk ?_;rfl
theorem S4(iB:o∈al){left:List Tm}(hn: 20<=n)(V:∀x∈left,Bd x)(bF:bG left<= 10)(f:List Tm->List Tb):∀(fw:List (List Tm)) (acc:List (Tb×List Tm)) (b9 b10:aK),(∀a0∈fw,(∀x∈a0,Bd x)/\a0.length<=100/\∀l,wo left a0=some l->RR (n+1) 12 [.me (bH aa), .d (cy a4), .d (af q), .d (af (made aa o a0))] σ=some (gM (f a0),σ)/\(f a0).length<=1024)->acc.length+fw.length*1024<=90000->
 ∃CY wd,gh (λx ρ σ=>(cg (.one 9) x ρ).bind λaE=>aR au (RR (n+1)) JW aE σ) (fw.map cV) [.v (.me (bH aa)), .v (.d (cy a4)), .v (.d (.str o)), .v (.d (af q)), .v (.d (cV left)),V5,b6,b7, .own (acc.map jF),b9,b10,b11] σ=
  some (.next [.v (.me (bH aa)), .v (.d (cy a4)), .v (.d (.str o)), .v (.d (af q)), .v (.d (cV left)),V5,b6,b7, .own ((acc++fw.flatMap (lG f left)).map jF),CY,wd,b11] σ)
 |[],acc,b9,b10,_,_=>(ie b9 b10 (by refine Y uD<|Y (gU _) ?_;rfl))
 |a0::fw,acc,b9,b10,h,hl=>by
  refine cj (h a0 (.head _)) λH O h3=>?_
  rw[bL,sO] at hl
  have br:(lG f left a0).length<=1024:=by
   unfold lG
   cases e:wo left a0 with
   |none=>exact dn _
   |some l=>exact Y (aw _)<|(h3 l e).2
  refine iz (S4 iB hn V bF f (V5:=V5) (b6:=b6) (b7:=b7) (b11:=b11) fw (acc++lG f left a0) (.v (.d (cV a0))) (.v (.d (Ci (wo left a0)))) (λx hx=>h x (.tail _ hx)) (by refine Y cS ?_;exact aO [(B,(.num 1024)),(J v1 (J (.mulR v2 1024) (.num 1024)),(.num 90000))] (J (J v1 B) (.mulR v2 1024),(.num 90000)) (by kernel_rfl) br hl)) λc9 lQ ih=>?_
  exact ie c9 lQ<|Y eK<|sl (lm _ _ _)<|l5 rfl (adk ho iB hn V bF f H O h3 acc (aM [(J B (J (.mulR v1 1024) (.num 1024)),(.num 90000))] (B,(.num 90000)) rfl hl)) ih
def fw(aa:List Str)(a4:Tb)(o:Str)(q:Tm)(left:List Tm):List (List Tm):=
 if bJ q.op=false then(dd [] left).map λt=>[t] else match lk a4 q.op with
  |some v=>[sel aa o v]
  |none=>BU left
theorem aeu(iB:o∈al)(hh:fh a4)(jm:∀x v,lk a4 x=some v->sz v<= 10)(hq:Bd q)(hp:fP q){left:List Tm}(hn: 20<=n)(V:∀x∈left,Bd x)(bF:bG left<=5)(f:List Tm->List Tb)
 (h:∀a0∈fw aa a4 o q left,∀l,wo left a0=some l->RR (n+1) 12 [.me (bH aa), .d (cy a4), .d (af q), .d (af (made aa o a0))] σ=some (gM (f a0),σ)/\(f a0).length<=1024):
 RR (n+2) 14 [.me (bH aa), .d (cy a4), .d (.str o), .d (af q), .d (cV left)] σ=some (.d (.list (((fw aa a4 o q left).flatMap (lG f left)).map jF)),σ):=by
 have pD:=qg left
 have YU:∀x∈left,Bd x/\dp x<=8:=λx hx=>⟨V x hx,by have:=rG x;have:=uR hx;(rename_i aY;exact aO [(B,v1),(v2,B),(v1,(.num 5))] (v2,(.num 8)) rfl this aY bF)⟩
 have anD:(∀a0∈fw aa a4 o q left,(∀x∈a0,Bd x)/\a0.length<=100)/\(fw aa a4 o q left).length<= 40:=by
  unfold fw
  split
  .refine⟨λa0 hl=>?_,?_⟩
   .refine cr hl λt ht Lx=>?_;clear hl;subst Lx
    exact⟨λx hx=>by exact Y (bY.mp hx)<|V t (by simpa using qw.mp ht),by simp⟩
   .refine Y (aw _) ?_;have:=tD (l:=left) (acc:=[]);simp only[dO] at this;exact aO [(B,J k0 v1),(v1,v2),(v2,(.num 5))] (B,(.num 40)) rfl this pD bF
  .split
   .rename_i v hv
    refine⟨λa0 hl=>?_,by simp⟩
    refine Y (bY.mp hl) ?_
    have bv:=hh.bd _ (mW hv)
    exact⟨bv.sel aa,aB (xH aa o bv) (by decide)⟩
   .refine⟨λa0 hl=>⟨λx hx=>V x ((Rt a0 hl).2 x hx),?_⟩,aB (Ru left) (aB (kr (by decide) (aB pD bF)) (by decide))⟩
    refine xa (kE.mp hl) λH O=>?_
    have:=EJ (uN (l:=left) .nil) left
    exact Up (rest:=left) (ts:=dd [] left) (rows:=[[]]) (λr hr=>by exact Y (bY.mp hr)<|Y dO<|aO [(B,v1),(v1,v2),(v2,(.num 5))] (J k0 B,(.num 100)) rfl this pD bF) a0 H
 refine xa anD λqS i9=>?_
 have kW:∀ρ:List aK,ρ[3]? =some (.v (.d (af q)))->ev au (RR (n+1)) (Call 0 [L 3]) ρ σ=some ([.d (.bool (bJ q.op))],σ):=λρ h3=>by
  exact sl hp.wc<|dJ (ay (aj h3) aI) (Ie hq n σ)
 have yX:∀ρ:List aK,ρ[3]? =some (.v (.d (af q)))->ev au (RR (n+1)) (.item (L 3) (I 0)) ρ σ=some ([.d (.str q.op)],σ):=λρ h3=>eX (aj h3) bc gB (ib q)
 have fin:aR au (RR (n+1)) (.new 8 .nil<| .ed (.one 9) (L 5) JW<| .cv 8<| .ret (L 8)) [.v (.me (bH aa)), .v (.d (cy a4)), .v (.d (.str o)), .v (.d (af q)), .v (.d (cV left)), .v (.d (.list ((fw aa a4 o q left).map cV))), .un, .un, .un, .un, .un, .un] σ=some (.ret (.d (.list (((fw aa a4 o q left).flatMap (lG f left)).map jF))) σ):=by
  exact iz (S4 ho iB hn V (aV bF rfl) f (fw aa a4 o q left) [] .un .un (λa0 hl=>(bO ((qS a0 hl).1) ((qS a0 hl).2) (h a0 hl))) (aB (aA (js _)) (aB (lS _ i9) (by decide)))) λb9 b10 cH=>L3 aI rfl (dn _) rfl (mh (cX (aj rfl) (Y (aw _)<|aV i9 rfl)) cH (BM rfl (dR (aj rfl))))
 refine eQ rfl rfl ?_
 by_cases hx:bJ q.op=false
 .refine AF (fC (yh (kW _ rfl)) (by refine Y hx ?_;rfl)) (dy ?_ rfl) fin
  have i7:=tD (l:=left) (acc:=[])
  unfold fw
  exact Y (if_pos hx)<|Y dW<|ge (cX (Ul (i:=4) (j:=7) YU (cN pD bF rfl) rfl (show 7< 12 by decide)) (Y (aw _)<|aO [(B,J k0 v1),(v1,v2),(v2,(.num 5))] (B,(.num 100000)) rfl i7 pD bF)) (λt zz=>(ai _ rfl (dQ (ay (aj rfl) aI) rfl))) (aO [(B,J k0 v1),(v1,v2),(v2,(.num 5))] (B,(.num 100000)) rfl i7 pD bF)
 .have ng:bJ q.op=true:=by simpa using hx
  refine Vl (fC (yh (kW _ rfl)) (by refine Y ng ?_;rfl)) ?_ fin
  have Gu:ev au (RR (n+1)) (dN .pi [.item (L 3) (I 0),L 1]) [.v (.me (bH aa)), .v (.d (cy a4)), .v (.d (.str o)), .v (.d (af q)), .v (.d (cV left)), .un, .un, .un, .un, .un, .un, .un] σ=some ([.d (.bool (lk a4 q.op).isSome)],σ):=iw (ay (yX _ rfl) (ay (aj rfl) aI)) rfl (Uf hh q.op)
  cases e:lk a4 q.op with
  |some v=>
   rw[e] at Gu
   refine AF Gu (dy ?_ rfl) rfl
   unfold fw
   refine Y (if_neg hx)<|Y e ?_
   have bv:=hh.bd _ (mW e)
   exact ji (ay (fB (aj rfl) (ay (aj rfl) (ay (Am (aj rfl) (yX _ rfl) (show J' (.d (cy a4)) (.str q.op) σ=some (af v) from Ic hh e)) aI)) (Eh ho iB v bv (n+1) σ (by have:=jm _ _ e;exact aM [(B,(.num 10)),((.num 20),v1)] (J B k1,J v1 k1) rfl this hn))) aI) rfl
  |none=>
   rw[e] at Gu
   refine Vl Gu (dy ?_ rfl) rfl
   unfold fw
   exact Y (if_neg hx)<|Y e<|dJ (ay (aj rfl) aI) (aca YU (cN pD bF rfl) n σ)
end
structure TG(aa:List Str)(r:Tb):Prop where
 tok:fh r
 nf:∀o v,lk r o=some v->Nf aa v
 sz:∀o v,lk r o=some v->sz v<=5
def Ag(σ:Str->Option Tm)(r:Tb):Prop:=∀o v,lk r o=some v->σ o=some v
def kc(p:Tm)(o:Str):Prop:=bJ o=true/\∃u∈pre p,u.op=o
def jq(aa:List Str)(t v:Tm):Prop:=∃p∈pre t,v=p\/(bA aa p=true/\∃l L,l≠[]/\(l++L).Perm p.ks/\v=made aa p.op l)
structure mo(aa:List Str)(I:Tm->Prop)(as7:Str->Prop)(r q:Tb):Prop where
 tg:TG aa q
 lb:∀o,(lk q o).isSome=true↔(lk r o).isSome=true\/as7 o
 val:∀o v,lk q o=some v->lk r o=some v\/I v
 sub:∀o v,lk r o=some v->lk q o=some v
theorem mo.trans{I:Tm->Prop}{as7 W:Str->Prop}(a:mo aa I as7 r q)(b:mo aa I W q s):mo aa I (λo=>as7 o\/W o) r s:=
 ⟨b.tg,λo=>by rw[b.lb,a.lb,or_assoc],λo v h=>(b.val o v h).elim (a.val o v) .inr,λo v h=>b.sub o v (a.sub o v h)⟩
theorem mo.mono{I as3:Tm->Prop}{as7 W:Str->Prop}(a:mo aa I as7 r q)(h:∀v,I v->as3 v)(w:∀o,as7 o↔W o):mo aa as3 W r q:=
 ⟨a.tg,λo=>by rw[a.lb,w],λo v q=>(a.val o v q).imp id (h v),a.sub⟩
theorem mo.ag{I:Tm->Prop}{as7:Str->Prop}(a:mo aa I as7 r q)(h:Ag σ q):Ag σ r:=λo v e=>h o v (a.sub o v e)
structure nr(aa:List Str)(p t:Tm)(r:Tb)(rows:List Tb):Prop where
 grow:∀q∈rows,mo aa (jq aa t) (kc p) r q
 snd:∀q∈rows,∀σ,oh aa σ->Ag σ q->normal aa (fill σ p)=t
 pE:∀σ,oh aa σ->Ag σ r->normal aa (fill σ p)=t->∃q∈rows,Ag σ q
 len:rows.length<=NB (sz t - 1)
 one:bJ p.op=true->rows.length<=1
def jG:List (Tb×List Tm)->Nat
 |[]=>0
 |x::l=>NB (bG x.2)+jG l
theorem Ry:jG []=0:=rfl
theorem zL{dv l}:jG (dv::l)=NB (bG (IY dv))+jG l:=rfl
theorem Hx:∀a b,jG (a++b)=jG a+jG b
 |[],b=>by rw[kC,Ry,js]
 |x::a,b=>by rw[wU,zL,zL,Hx a b,Dy]
theorem xv:∀l,l.length<=jG l
 |[]=>a8 _
 |x::l=>by rw[bL,zL];have:=xv l;have:=Fe (bG x.2);(rename_i aY;exact aO [(k1,B),(v1,v2)] (J v1 k1,J B v2) rfl this aY)
theorem Ih:∀{l:List α},(∀x∈l,jG (f x)<=m)->jG (l.flatMap f)<=l.length*m
 |[],_=>by exact Y uD<|dn _
 |x::l,h=>by
  refine Y eK<|Y (Hx _ _)<|Y bL<|Y (sO _ _) ?_
  have:=h x (.head _)
  have:=Ih λy hy=>h y (.tail _ hy)
  (rename_i aY;exact FP this aY)
theorem S5(l:List Tm):∀rows:List Tb,jG (rows.map λr=>(r,l))=rows.length*NB (bG l)
 |[]=>by rw[uF,Ry,dO,Pu]
 |r::rows=>by rw[bE,zL,S5 l rows,bL,sO,xb]
structure Tk(aa:List Str)(I:Tm->Prop)(o:Str)(q:Tm)(a4:Tb)(left:List Tm)(rows:List (Tb×List Tm)):Prop where
 grow:∀x∈rows,mo aa I (kc q) a4 x.1
 snd:∀x∈rows,∃a0,a0≠[]/\left.Perm (a0++x.2)/\∀σ,oh aa σ->Ag σ x.1->(jS aa o σ q).Perm a0
 pE:∀σ L,oh aa σ->Ag σ a4->(jS aa o σ q++L).Perm left->∃x∈rows,Ag σ x.1
 len:jG rows<=NB (bG left)
open Classical in
theorem Ii [Inhabited β]{Q:α->β->Prop}{l:List α}(h:∀x∈l,∃y,Q x y):∃f:α->β,∀x∈l,Q x (f x):=by
 refine⟨λx=>if hx:x∈l then(h x hx).choose else default,λx hx=>?_⟩
 show Q x (if hx:x∈l then(h x hx).choose else default)
 exact Y (dif_pos hx)<|(h x hx).choose_spec
theorem pZ(g:dZ t)(h:sz t<= 50):Bd t:=⟨g,aB h (by decide),aB (rG t) h,aB (FC t) (aB h (by decide))⟩
theorem DQ(h:o∈al)(hl:∀k∈l,dZ k):dZ (.node o l):=λp hp=>by
 rw[fH,jd] at hp
 rcases bK.mp hp with rfl|hp
 .exact h
 .exact fD hp λk hk hp=>hl k hk p hp
section
variable{aa:List Str}
theorem Ij(ho:o∈al)(h:gL aa o l)(bB:l≠[])(hg:∀x∈l,dZ x):dZ (made aa o l):=by
 rcases qW h bB with⟨x,rfl,e⟩|⟨_,e⟩
 .exact Y e<|hg x (.head _)
 .exact Y e<|DQ ho λk hk=>hg k ((gW l).mem_iff.mp hk)
theorem ahW{left l L:List Tm}(h:gL aa o l)(bB:l≠[])(p:(l++L).Perm left)(hv:jq aa (made aa o l) v):(∃t∈left,jq aa t v)\/∃l' L',l'≠[]/\(l'++L').Perm left/\v=made aa o l':=by
 have hm:∀x∈l,x∈left:=λx hx=>p.mem_iff.mp (pH _ hx)
 rcases qW h bB with⟨x,rfl,e⟩|⟨O,e⟩
 .rw[e] at hv
  exact .inl (ai x (hm x (.head _)) hv)
 .refine ar hv λq hq hv=>?_
  rw[e,fH,jd] at hq
  rcases bK.mp hq with rfl|hq
  .rcases hv with rfl|⟨_,l',L',h3,h4,h5⟩
   .exact .inr (eY l L bB p e.symm)
   .refine .inr (eY l' (L'++L) h3 ?_ h5)
    exact sl (lm _ _ _)<|((h4.trans (gW l)).append_right L).trans p
  .exact fD hq λk hk hq=> .inl (gC k (hm k ((gW l).mem_iff.mp hk)) q hq hv)
theorem IT{left a0:List Tm}:x∈lG f left a0↔wo left a0=some x.2/\x.1∈f a0:=by
 unfold lG
 cases e:wo left a0 with
 |none=>simp
 |some l=>
  refine si fQ ?_
  constructor
  .intro WC;refine ar WC λr hr vx=>?_;clear WC;subst vx;exact⟨rfl,hr⟩
  .intro WD;refine xa WD λH O=>?_
   clear e WD;injection H with AR;subst AR
   exact ai x.1 O rfl
theorem xM{left:List Tm}:∀a0∈fw aa a4 o q left,a0≠[]:=by
 intro a0 hl
 unfold fw at hl
 split at hl
 .refine cr hl λt zz BI=>?_;subst BI
  simp
 .split at hl
  .rename_i v _
   refine Y (bY.mp hl) ?_
   have:=E6 aa o v
   intro e
   rw[e] at this
   simp at this
  .exact(Rt a0 hl).1
theorem afZ{left:List Tm}:(fw aa a4 o q left).length<=2^bG left:=by
 have H:=qg left
 unfold fw
 split
 .refine Y (aw _) ?_
  have:=tD (l:=left) (acc:=[])
  rw[dO] at this
  have:=Jr (bG left)
  (rename_i aY;exact bM [(J B k1,v1),(v2,J k0 v3),(v3,B)] (v2,v1) rfl this aY H)
 .split
  .exact sS (by decide)
  .exact aB (Ru left) (kr (by decide) H)
theorem zM(bU:oh aa σ)(h:σ q.op=some v):normal aa (fill σ q)=v:=by
 cases q with|node o l=>
 exact Y (afX (show σ o=some v from h))<|bU.nf o v h
set_option tactic.hygienic true in
theorem adl(ho:ir aa)(iB:o∈al)(hc:aa.contains o=true){I:Tm->Prop}(hh:TG aa a4)(hq:Bd q)(hp:fP q)(NK:dq aa o q){left:List Tm}(hn: 20<=n)(V:∀x∈left,Bd x)(wy:gL aa o left)(bF:bG left<=4)
 (hI1:∀t∈left,∀v,jq aa t v->I v) (wx:∀l L,l≠[]->(l++L).Perm left->I (made aa o l))
 (X:∀t,Nf aa t->Bd t->sz t<=5->∃rows,RR (n+1) 12 [.me (bH aa), .d (cy a4), .d (af q), .d (af t)] s=some (gM rows,s)/\nr aa q t a4 rows):
 ∃rows,RR (n+2) 14 [.me (bH aa), .d (cy a4), .d (.str o), .d (af q), .d (cV left)] s=some (.d (.list (rows.map jF)),s)/\Tk aa I o q a4 left rows:=by
 have hex:∀a0∈fw aa a4 o q left,∃rows,∀l,wo left a0=some l->RR (n+1) 12 [.me (bH aa), .d (cy a4), .d (af q), .d (af (made aa o a0))] s=some (gM rows,s)/\nr aa q (made aa o a0) a4 rows:=λa0 hl=>by
  cases e:wo left a0 with
  |none=>exact⟨[],λl h=>by exact aC h⟩
  |some l=>
   have p:=xJ e
   have bB:=xM a0 hl
   have hf:=(wy.perm p).left
   have hs:=q7 p
   rw[lq] at hs
   have bF:=EK hf bB
   have hg:=Ij iB hf bB λx hx=>(V x (p.mem_iff.mpr (pH _ hx))).g
   refine ar (X (made aa o a0) (Uq hf hc bB) (pZ hg (by (rename_i aY;exact bM [(B,J v1 k1),(J v1 v2,v3),(v3,(.num 4))] (B,(.num 50)) rfl bF (aA hs.symm) aY))) (by (rename_i aY;exact bM [(B,J v1 k1),(J v1 v2,v3),(v3,(.num 4))] (B,(.num 5)) rfl bF (aA hs.symm) aY))) λrows H O=>?_
   exact⟨rows,λzz zz=>⟨H,O⟩⟩
 refine xe (Ii hex) λf hf=>?_
 have CZ:∀{a0 l},a0∈fw aa a4 o q left->wo left a0=some l->gL aa o a0/\bG a0+bG l=bG left/\1<=bG a0:=λ{a0 l} hl e=>by
  have p:=xJ e
  have hs:=q7 p
  rw[lq] at hs
  refine bO ((wy.perm p).left) hs.symm ?_
  have bB:=xM a0 hl
  clear p;clear e;cases a0 with
  |nil=>exact absurd rfl bB
  |cons x r=>rw[cT];have:=l9 x;exact FN this
 refine ai ((fw aa a4 o q left).flatMap (lG f left)) (aeu ho iB hh.tok (λx v h=>aB (hh.sz x v h) (by decide)) hq hp hn V (aV bF rfl) f λa0 hl l e=>?_) ⟨?_,?_,?_,?_⟩
 .refine xa (hf a0 hl l e) λH O=>cj (CZ hl e) λh3 h4 h5=>?_
  have:=EK h3 (xM a0 hl)
  exact⟨H,aB O.len (aB (xK (b:=4) ((eN _ _).elim (λpC=>eH [(B,J v1 k1),(J v1 v2,v3),(v3,(.num 4)),(J v4 k1,B)] (v4,(.num 4)) rfl this (aA h4) bF (aU pC)) λpC=>(aV (wj pC) rfl))) (by decide))⟩
 .intro x hx
  refine fD hx λa0 hl hx=>xa (IT.mp hx) λe hr=>((hf a0 hl _ e).2.grow x.1 hr).mono (λv hv=>?_) λzz=>Iff.rfl
  rcases ahW (CZ hl e).1 (xM a0 hl) (xJ e).symm hv with⟨t,ht,h⟩|⟨l',L',H,O,rfl⟩
  .exact hI1 t ht v h
  .exact wx l' L' H O
 .intro x hx
  refine fD hx λa0 hl hx=>xa (IT.mp hx) λe hr=>bQ a0 (xM a0 hl) (xJ e) (λσ bU dB=>?_)
  unfold jS
  exact Y ((hf a0 hl _ e).2.snd x.1 hr σ bU dB)<|afV (CZ hl e).1 hc (xM a0 hl)
 .intro σ L bU dB p
  refine cq (show ∃a0∈fw aa a4 o q left,a0.Perm (jS aa o σ q)/\normal aa (fill σ q)=made aa o a0 from by
   have YV:=sW aa (fill σ q)
   have NL:=afW YV o
   unfold fw
   by_cases hx:bJ q.op=false
   .refine Y (if_pos hx) ?_
    have e:=ahV bU hx NK
    refine bQ (jS aa o σ q) ?_ (.refl _) NL.symm
    rw[e] at p⊢
    exact fQ.mpr (ai _ (qw.mpr (.inr (p.mem_iff.mp (.head _)))) rfl)
   .refine Y (if_neg hx) ?_
    have ng:bJ q.op=true:=by simpa using hx
    split
    .rename_i v hv
     have e:=zM bU (dB _ _ hv)
     refine bQ (sel aa o v) (.head _) ?_ ?_
     .unfold jS;rw[e]
     .exact sl e<|NL.symm
    .have bB:jS aa o σ q≠[]:=λe=>by
      have:=E6 aa o (normal aa (fill σ q))
      rw[show sel aa o (normal aa (fill σ q))=[] from e] at this
      simp at this
     exact ar (aes p bB) λa0 H O=>bQ a0 H O (NL.symm.trans (Ig (S1 YV o) O.symm))) λa0 hl nu hm=>?_
  exact xe (Uh (left:=left) (L:=L) (p.symm.trans (nu.symm.append_right L))) λl e=>ar ((hf a0 hl l e).2.pE σ bU dB hm) λr hr lP=>ai ((r,l)) (jr.mpr (ai a0 hl (IT.mpr ⟨e,hr⟩))) lP
 .by_cases h0:bG left=0
  .have:∀a0∈fw aa a4 o q left,jG (lG f left a0)<=0:=λa0 hl=>by
    unfold lG
    cases e:wo left a0 with
    |none=>exact a8 _
    |some l=>have:=CZ hl e;exact kw λCs=>nz (aO [(J B v1,v2),(k1,B),(v2,k0)] (k1,k0) rfl (aA this.2.1) this.2.2 (aA h0))
   have:=Ih this
   rw[Nat.mul_zero] at this
   exact aB this (dn _)
  .have apq:∀a0∈fw aa a4 o q left,jG (lG f left a0)<=NB (bG left - 1):=λa0 hl=>by
    unfold lG
    cases e:wo left a0 with
    |none=>exact dn _
    |some l=>
     refine cj (CZ hl e) λh3 h4 h5=>?_
     have hx:=(hf a0 hl l e).2
     refine Y (S5 _ _) ?_
     by_cases hv:bJ q.op=true
     .have:=lS (NB (bG l)) (hx.one hv)
      rw[sQ] at this
      exact aB this (xK (bM [(k1,B),(J B v1,v2),(v2,J v3 k1)] (v1,v3) rfl h5 (aA h4) (bj _ _)))
     .have yG:bJ q.op=false:=by simpa using hv
      refine xe (show ∃t,a0=[t] from by
       unfold fw at hl
       rw[if_pos yG] at hl
       refine cr hl λt zz Lz=>?_;clear e h3 h4 h5 hx;subst Lz
       exact⟨t,rfl⟩) λt vg=>?_;subst vg
      have em:made aa o [t]=t:=by refine Y (zK h3) ?_;rfl
      have br:=hx.len
      rw[em] at br
      rw[bG,bG] at h4 h5
      exact aB (lS _ br) (aB (JV _ _) (xK (eH [(J (J B k0) v1,v2),(v2,J v3 k1),(J v4 k1,B)] (J v4 v1,v3) rfl (aA h4) (bj _ _) (aU (be [(k1,J B k0)] (k1,B) rfl h5)))))
   refine aB (Ih apq) (aB (lS _ afZ) (aje (Nat.sub_lt (Ov (by assumption)) Nat.one_pos)))
end
structure wE(aa:List Str)(I:Tm->Prop)(o:Str)(r:Tb)(rest done:List Tm)(rows:List (Tb×List Tm)):Prop where
 grow:∀x∈rows,mo aa I (λv=>∃q∈done,kc q v) r x.1
 snd:∀x∈rows,∃M,rest.Perm (M++x.2)/\∀σ,oh aa σ->Ag σ x.1->(done.flatMap (jS aa o σ)).Perm M
 pE:∀σ L,oh aa σ->Ag σ r->(done.flatMap (jS aa o σ)++L).Perm rest->∃x∈rows,Ag σ x.1
 len:jG rows<=NB (bG rest)
theorem Rz:∀{l:List (Tb×List Tm)},(∀x∈l,jG (f x)<=NB (bG x.2))->jG (l.flatMap f)<=jG l
 |[],_=>a8 _
 |x::l,h=>by
  rw[eK,Hx,zL]
  exact wZ (h x (.head _)) (Rz λy hy=>h y (.tail _ hy))
theorem af0(V:∀x∈l,Bd x):gI .eq (cV l) (.tuple [])=some l.isEmpty:=by
 have h:=Uo V
 have H:ce (cV l)=true:=AG V
 have O:ce (.tuple [])=true:=AG (l:=[]) (by simp)
 rw[E' H O] at h
 refine Y (E9 H O) ?_
 have:=gS h
 have:=Bool.not_inj this
 exact Y this rfl
section
variable{aa:List Str}{o:Str}{I:Tm->Prop}{r:Tb}{rest:List Tm}
theorem ahX(h:TG aa r):wE aa I o r rest [] [(r,rest)]:=by
 refine⟨?_,?_,?_,?_⟩
 .intro x hx
  exact Y (bY.mp hx)<|⟨h,λo=>by simp,λo v e=> .inl e,λo v e=>e⟩
 .intro x hx
  exact Y (bY.mp hx)<|ai ([]) (.refl _) (λzz zz zz=> .refl _)
 .intro σ L _ dB _
  exact ai ((r,rest)) (.head _) dB
 .skip
  exact a8 _
structure xY(aa:List Str)(o:Str)(I:Tm->Prop)(rest:List Tm):Prop where
 b:∀x∈rest,Bd x
 fr:gL aa o rest
 s:bG rest<=4
 i1:∀t∈rest,∀v,jq aa t v->I v
 i2:∀l L,l≠[]->(l++L).Perm rest->I (made aa o l)
theorem xY.sub(h:xY aa o I rest){M left:List Tm}(p:rest.Perm (M++left)):xY aa o I left:=by
 have hm:∀x∈left,x∈rest:=λx hx=>p.mem_iff.mpr (wI _ hx)
 refine⟨λx hx=>h.b x (hm x hx),(h.fr.perm p).right,?_,λt ht=>h.i1 t (hm t ht),λl L hl q=>h.i2 l (L++M) hl ?_⟩
 .have:=q7 p;rw[lq] at this;have:=h.s;(rename_i aY;exact aO [(B,(.num 4)),(J v1 v2,B)] (v2,(.num 4)) rfl this (aA aY.symm))
 .exact sl (lm _ _ _)<|(q.append_right M).trans (List.perm_append_comm.trans p.symm)
theorem af1(S:wE aa I o r rest done rows)(hF:∀x∈rows,Tk aa I o q x.1 x.2 (F x)):wE aa I o r rest (done++[q]) (rows.flatMap F):=by
 have fm:∀σ,(done++[q]).flatMap (jS aa o σ)=done.flatMap (jS aa o σ)++jS aa o σ q:=λσ=>by exact Y Z9<|Y eK<|Y uD<|Y (gU _) rfl
 refine⟨?_,?_,?_,?_⟩
 .intro y hy
  refine fD hy λx hx hy=>((S.grow x hx).trans ((hF x hx).grow y hy)).mono (λzz h=>h) λv=>?_
  constructor
  .rintro(⟨u,H,O⟩|h)
   .exact ai u (pH _ H) O
   .exact ai q (wI _ (.head _)) h
  .intro anE;refine ar anE λu H O=>a9 (ln.mp H) (λH=>?_) (λH=>?_)
   .exact .inl (ai u H O)
   .rw[bY.mp H] at O;exact .inr O
 .intro y hy
  refine fD hy λx hx hy=>ar (S.snd x hx) λM p h=>cq ((hF x hx).snd y hy) λa0 zz p2 O=>ai (M++a0) ?_ (λσ bU dB=>?_)
  .exact Y (lm _ _ _)<|p.trans (p2.append_left M)
  .exact Y (fm _)<|(h σ bU (((hF x hx).grow y hy).ag dB)).append (O σ bU dB)
 .intro σ L bU dB p
  rw[fm,lm] at p
  refine ar (S.pE σ _ bU dB p) λx hx yD=>ar (S.snd x hx) λM pM h=>?_
  have p3:(jS aa o σ q++L).Perm x.2:=(List.perm_append_left_iff M).mp ((((h σ bU yD).symm.append_right _).trans p).trans pM)
  exact ar ((hF x hx).pE σ L bU yD p3) λy hy Cr=>ai y (jr.mpr (ai x hx hy)) Cr
 .exact aB (Rz λx hx=>(hF x hx).len) S.len
def ahY:S:= .asg 5 (.gY (L 10) (.two 8 9) (L 5) (.one 10) (dc 14 (L 0) [L 8,L 2,L 6,L 9]))<| .ca (.cmp .gt (.bi .len (L 5)) (.lit yf)) .bad .bI .bI
theorem uq(h:s<=4):NB s<=1024:=aB (xK h) (by decide)
theorem RA(ho:ir aa)(iB:o∈al)(hc:aa.contains o=true)(hn: 20<=n)(R:xY aa o I rest):∀(qs done:List Tm) (rows:List (Tb×List Tm)) (b6:aK),(∀q∈qs,Bd q/\fP q/\dq aa o q/\∀a4 t,TG aa a4->Nf aa t->Bd t->sz t<=5->∃rows,RR (n+1) 12 [.me (bH aa), .d (cy a4), .d (af q), .d (af t)] s=some (gM rows,s)/\nr aa q t a4 rows)->wE aa I o r rest done rows->
 ∃rH NM,gh (λx ρ σ=>(cg (.one 6) x ρ).bind λaE=>aR au (RR (n+2)) ahY aE σ) (qs.map af) [.v (.me (bH aa)),V1, .v (.d (.str o)),V3,V4, .v (.d (.list (rows.map jF))),b6,b7, .un, .un, .un] s=
  some (.next [.v (.me (bH aa)),V1, .v (.d (.str o)),V3,V4, .v (.d (.list (rH.map jF))),NM,b7, .un, .un, .un] s)/\wE aa I o r rest (done++qs) rH
 |[],done,rows,b6,_,S=>(gq rows b6 rfl (Y (gU _)<|S))
 |q::qs,done,rows,b6,h,S=>by
  refine fU (h q (.head _)) λhq hp NK X=>?_
  have hex:=λx hx=>by
   refine ar (S.snd x hx) λM p zz=>?_
   have R2:=R.sub p
   have g:=(S.grow x hx).tg
   exact adl ho iB hc g hq hp NK hn R2.b R2.fr R2.s R2.i1 R2.i2 λt H O h3=>X x.1 t g H O h3
  refine xe (Ii hex) λF hF=>?_
  have S2:=af1 S λx hx=>(hF x hx).2
  refine cP (RA ho (s:=s) iB hc hn R (V1:=V1) (V3:=V3) (V4:=V4) (b7:=b7) qs (done++[q]) (rows.flatMap F) (.v (.d (af q))) (λu hu=>h u (.tail _ hu)) S2) λrH NM ih S3=>?_
  have l1:=aB (xv rows) (aB S.len (uq R.s))
  have l2:=aB (xv _) (aB S2.len (uq R.s))
  refine gq rH NM (l5 rfl (dy (ae:=s) (v:= .d (.list ((rows.flatMap F).map jF))) ?_ (io (ae:=s) (fC (dD (ae:=s) (aF:=s) (cM (aj rfl) (rh (by refine Y (aw _) ?_;exact aV l2 rfl))) bc (qv _ _)) ?_) rfl)) ih) (by rw[lm] at S3;exact S3)
  .refine uS (l:=rows) (m:=jF) (s:=F) (m2:=jF) (g:=jF) (cX (aj rfl) (by refine Y (aw _) ?_;exact aV l1 rfl)) (λx hx=>(bQ _ rfl ?_ (λw zz=>(ai _ rfl (aj rfl))))) (aV l2 rfl)
   have l3:(F x).length<=1024:=by
    exact ar (S.snd x hx) λM p zz=>aB (xv _) (aB (hF x hx).2.len (uq (R.sub p).s))
   exact cX (fB (ae:=s) (aF:=s) (aj rfl) (ay (aj rfl) (ay (aj rfl) (ay (aj rfl) (ay (aj rfl) aI)))) (hF x hx).1) (Y (aw _)<|aV l3 rfl)
  .rw[decide_eq_false]
   exact Y (aw _)<|yC (a:=4096) (sT.mpr (aB (by assumption) (by decide)))
theorem adm(ho:ir aa)(iB:o∈al)(hc:aa.contains o=true)(hn: 20<=n)(hr:TG aa r)(R:xY aa o I rest)(ps:List Tm)(bW:ps.length<=100)
 (h:∀q∈ps,Bd q/\fP q/\dq aa o q/\∀a4 t,TG aa a4->Nf aa t->Bd t->sz t<=5->∃rows,RR (n+1) 12 [.me (bH aa), .d (cy a4), .d (af q), .d (af t)] s=some (gM rows,s)/\nr aa q t a4 rows):
 ∃qs rows,qs.Perm ps/\wE aa I o r rest qs rows/\RR (n+3) 13 [.me (bH aa), .d (cy r), .d (.str o), .d (.tuple (ps.map af)), .d (cV rest)] s=some (gM ((rows.filter λx=>x.2.isEmpty).map (·.1)),s):=by
 have NN:(ps.filter (λq=> !bJ q.op)++ps.filter λq=>bJ q.op).Perm ps:=by
  have:=List.filter_append_perm (λq:Tm=> !bJ q.op) ps
  simpa only[Bool.not_not] using this
 refine cP (RA ho (s:=s) (r:=r) iB hc hn R (V1:= .v (.d (cy r))) (V3:= .v (.d (.tuple (ps.map af)))) (V4:= .v (.d (cV rest))) (b7:= .un) (ps.filter (λq=> !bJ q.op)++ps.filter λq=>bJ q.op) [] [(r,rest)] .un (λq hq=>h q (NN.mem_iff.mp hq)) (ahX hr)) λrows b6 cH S=>eY _ rows NN S ?_
 have l1:rows.length<=1024:=aB (xv rows) (aB S.len (uq R.s))
 have WE:=NN.length_eq
 have kW:∀(ρ:List aK) (q:Tm),q∈ps->ρ[7]? =some (.v (.d (af q)))->ev au (RR (n+2)) (Call 0 [L 7]) ρ s=some ([.d (.bool (bJ q.op))],s):=λρ q hq h7=>by
  exact cj (h q hq) λbq pq zz=>sl pq.wc<|dJ (ay (aj h7) aI) (Ie bq (n+1) s)
 have hL:fL (ev au (RR (n+2)) (L 3) [.v (.me (bH aa)), .v (.d (cy r)), .v (.d (.str o)), .v (.d (.tuple (ps.map af))), .v (.d (cV rest)), .v (.d (.list [jF (r,rest)])), .un, .un, .un, .un, .un] s)=some (ps.map af,s):=kN (aj rfl) (Y (aw _)<|aV bW rfl)
 refine eQ rfl rfl (dy (ae:=s) (v:= .d (.list [jF (r,rest)])) (ji (ay (dQ (ay (aj rfl) (ay (aj rfl) aI)) rfl) aI) rfl) (mh (ae:=s) (xs:=(ps.filter (λq=> !bJ q.op)++ps.filter λq=>bJ q.op).map af) (cX (eP (ae:=s) (aF:=s) (x:= .list ((ps.filter λq=> !bJ q.op).map af)) (y:= .list ((ps.filter λq=>bJ q.op).map af)) ?_ ?_ ?_) (by refine Y (aw _) ?_;exact cN (aA WE) bW rfl)) cH (dR ?_)))
 .exact ta (l:=ps) (m:=af) (g:=af) (p:=λq=> !bJ q.op) hL (λq hq=>(bQ _ rfl (yh (kW _ q hq rfl)) (λzz=>aj rfl))) (aV bW rfl)
 .exact ta (l:=ps) (m:=af) (g:=af) (p:=λq=>bJ q.op) hL (λq hq=>(bQ _ rfl (kW _ q hq rfl) (λzz=>aj rfl))) (aV bW rfl)
 .exact Y fk<|ma<|sl fk<|Y (aw _)<|cN (aA WE) bW rfl
 .unfold gM
  exact Y dW<|ta (l:=rows) (m:=jF) (g:=λx=>cy x.1) (p:=λx=>x.2.isEmpty) (cX (aj rfl) (Y (aw _)<|aV l1 rfl)) (λx hx=>by
   exact ar (S.snd x hx) λM p zz=>bQ _ rfl (dD (ae:=s) (aF:=s) (aj rfl) (dQ aI rfl) (af0 (R.sub p).b)) (λzz=>aj rfl)) (aV l1 rfl)
end
section
variable{aa:List Str}
theorem RB{I:Tm->Prop}{as7:Str->Prop}(h:TG aa r)(hv:∀o,as7 o->(lk r o).isSome=true):mo aa I as7 r r:=
 ⟨h,λo=>⟨.inl,λq=>q.elim id (hv o)⟩,λo v e=> .inl e,λo v e=>e⟩
theorem RC:kc (.node x []) v->v=x:=by
 intro BV;refine vQ BV λzz u hu BQ=>?_;clear BV;subst BQ
 rw[fH,xl] at hu
 refine Y (bY.mp hu) ?_;rfl
theorem ahZ(t:Tm):jq aa t t:=ai t (iW t) (.inl rfl)
def As(a4:Tb)(x:Str)(t:Tm):List Tb:=match lk a4 x with
 |some v=>if eqT v t=true then[a4] else[]
 |none=>[a4++[(x,t)]]
theorem ah0(h:TG aa a4)(hx:bJ x=true)(ht:Nf aa t)(bt:Bd t)(hs:sz t<=5):nr aa (.node x []) t a4 (As a4 x t):=by
 have hv:kc (.node x []) x:=oY hx _ (iW _) rfl
 unfold As
 cases e:lk a4 x with
 |some v=>
  show nr aa _ _ _ (if eqT v t=true then[a4] else[])
  by_cases q:eqT v t=true
  .refine Y (if_pos q) ?_
   have q:=(oG v t).mp q
   clear ht bt hs;subst q
   refine⟨λr hr=>?_,λr hr σ bU dB=>?_,λσ bU dB zz=>(ai a4 (.head _) dB),Fe _,λzz=>a8 _⟩
   .exact Y (bY.mp hr)<|RB h λo ho=>by refine Y (RC ho)<|Y e ?_;rfl
   .rw[bY.mp hr] at dB
    exact zM bU (dB x v e)
  .refine Y (if_neg q)<|⟨by simp,by simp,λσ bU dB hn=>?_,dn _,λzz=>dn _⟩
   rw[zM bU (q:= .node x []) (dB x v e)] at hn
   exact absurd ((oG v t).mpr hn) q
 |none=>
  have hp:=Ue (v:=t) e
  refine⟨λr hr=>?_,λr hr σ bU dB=>?_,λσ bU dB hn=>(ai _ (.head _) ?_),Fe _,λzz=>a8 _⟩
  .refine Y (bY.mp hr)<|⟨⟨h.tok.push hx e bt,λo v q=>?_,λo v q=>?_⟩,λo=>?_,λo v q=>?_,λo v q=>?_⟩
   .rw[hp] at q
    split at q
    .injection q with Bs;subst Bs;exact ht
    .exact h.nf o v q
   .rw[hp] at q
    split at q
    .injection q with vE;subst vE;exact hs
    .exact h.sz o v q
   .refine Y (hp _) ?_
    clear hp hr;clear e;split
    .rename_i z;subst z
     exact⟨λzz=> .inr hv,λzz=>rfl⟩
    .rename_i z
     exact⟨.inl,λq=>q.elim id λq=>absurd (RC q) z⟩
   .rw[hp] at q
    split at q
    .injection q with vL;subst vL;exact .inr (ahZ t)
    .exact .inl q
   .refine Y (hp _) ?_
    clear hv hp hr;clear hx;split
    .rename_i z;subst z;rw[e] at q;exact aC q
    .exact q
  .rw[bY.mp hr] at dB
   exact zM bU (dB x t (Y (hp _)<|Y (if_pos rfl) rfl))
  .intro o v q
   rw[hp] at q
   clear hv;split at q
   .rename_i z;subst z;injection q with vi;subst vi
    have:=bU.lb o
    rw[hx] at this
    refine ua this λw hw=>?_
    rw[zM bU (q:= .node o []) hw] at hn
    exact sl hn<|hw
   .exact dB o v q
theorem af2(a4:Tb)(x:Str)(t:Tm):∃d,jK .tO [cy a4, .str x,af t]=(if (iZ (a4.map fz) && decide ((a4.map fz).length<=1000) && oL (.str x))=true then some d else none)/\(lk a4 x=none->d=cy (a4++[(x,t)]))/\(fh a4->lk a4 x=some t->d=cy a4):=by
 refine bQ _ rfl (λe=>?_) (λh e=>?_)
 .unfold m3
  refine Y (EH _ _)<|Y e ?_
  unfold cy
  refine Y fk ?_;rfl
 .unfold m3
  refine Y (EH _ _)<|Y e ?_
  show PyData.dict ((a4.map fz).map _)=_
  unfold cy
  refine Y dW ?_
  congr 1
  refine mG λp hp=>?_
  show(if (p.1==x)=true then((fz p).1,af t) else fz p)=fz p
  split
  .rename_i q
   have q:p.1=x:=by simpa using q
   have:=tK h.nd hp
   rw[q,e] at this
   injection this with vh;clear e;subst vh;rfl
  .rfl
theorem af3(h:fh a4)(x:Str)(t:Tm):jK .tP [cy a4, .str x,af t]=some (af ((lk a4 x).getD t)):=by
 refine iT h.ok<|Y (Rq _ _) ?_
 cases lk a4 x<;>rfl
theorem Vs(bt:Bd t)(bu:Bd u):gI .eq (af t) (af u)=some (eqT t u):=E9 bt.ok bu.ok
structure Sq(aa:List Str)(I:Tm->Prop)(r:Tb)(dp dk:List Tm)(rows:List Tb):Prop where
 grow:∀x∈rows,mo aa I (λv=>∃q∈dp,kc q v) r x
 snd:∀x∈rows,∀σ,oh aa σ->Ag σ x->(dp.map λq=>normal aa (fill σ q))=dk
 pE:∀σ,oh aa σ->Ag σ r->(dp.map λq=>normal aa (fill σ q))=dk->∃x∈rows,Ag σ x
 len:rows.length<=NB (bG dk)
theorem ajf{I:Tm->Prop}(h:TG aa r):Sq aa I r [] [] [r]:=by
 refine⟨λx hx=>?_,λzz zz zz zz zz=>rfl,λσ zz dB zz=>(ai r (.head _) dB),a8 _⟩
 exact Y (bY.mp hx)<|RB h λo ho=>by refine ar ho λq hq zz=>?_;cases hq
theorem zX{f:α->List β}:∀{l:List α},(∀x∈l,(f x).length<=m)->(l.flatMap f).length<=l.length*m
 |[],_=>by exact Y uD<|dn _
 |x::l,h=>by
  refine Y eK<|Y cS<|Y bL<|Y (sO _ _) ?_
  have:=h x (.head _)
  have:=zX λy hy=>h y (.tail _ hy)
  (rename_i aY;exact FP this aY)
theorem ah1{I:Tm->Prop}{dp dk:List Tm}(S:Sq aa I r dp dk rows)(hF:∀x∈rows,nr aa q k x (F x))(hI:∀v,jq aa k v->I v):Sq aa I r (dp++[q]) (dk++[k]) (rows.flatMap F):=by
 refine⟨λy hy=>?_,λy hy σ bU dB=>?_,λσ bU dB e=>?_,?_⟩
 .refine fD hy λx hx hy=>((S.grow x hx).trans (((hF x hx).grow y hy).mono hI λzz=>Iff.rfl)).mono (λzz h=>h) λv=>?_
  constructor
  .rintro(⟨u,H,O⟩|h)
   .exact ai u (pH _ H) O
   .exact ai q (wI _ (.head _)) h
  .intro apr;refine ar apr λu H O=>a9 (ln.mp H) (λH=>?_) (λH=>?_)
   .exact .inl (ai u H O)
   .rw[bY.mp H] at O;exact .inr O
 .exact fD hy λx hx hy=>Y fk<|Y (S.snd x hx σ bU (((hF x hx).grow y hy).ag dB))<|Y bE<|Y uF<|Y ((hF x hx).snd y hy σ bU dB) rfl
 .rw[fk,bE,uF] at e
  exact xa (List.append_inj' e rfl) λe1 e2=>ar (S.pE σ bU dB e1) λx hx yD=>ar ((hF x hx).pE σ bU yD (List.cons.inj e2).1) λy hy Cr=>ai y (jr.mpr (ai x hx hy)) Cr
 .rw[lq,cT,oA,Pw]
  refine aB (zX λx hx=>(hF x hx).len) (aB (lS _ S.len) (aB (JV _ _) (xK (aO [(B,v1)] (J v2 B,J v2 v1) rfl (qY _ _)))))
def aps:S:= .asg 6 (.gY (L 4) (.one 9) (L 6) (.one 4) (dc 12 (L 0) [L 9,L 7,L 8])) .bI
theorem Vt{I:Tm->Prop}:∀(ps ks dp dk:List Tm) (rows:List Tb) (b7 b8:aK),ps.length=ks.length->bG (dk++ks)<=4->(∀q∈ps,∀k∈ks,∀a4,TG aa a4->∃rows,RR n 12 [.me (bH aa), .d (cy a4), .d (af q), .d (af k)] s=some (gM rows,s)/\nr aa q k a4 rows)->(∀k∈ks,∀v,jq aa k v->I v)->Sq aa I r dp dk rows->
 ∃rH NO NP,gh (λx ρ σ=>(cg (.two 7 8) x ρ).bind λaE=>aR au (RR n) aps aE σ) (mj (ps.map af) (ks.map af)) [.v (.me (bH aa)),V1,V2,V3, .un,b5, .v (gM rows),b7,b8, .un] s=
  some (.next [.v (.me (bH aa)),V1,V2,V3, .un,b5, .v (gM rH),NO,NP, .un] s)/\Sq aa I r (dp++ps) (dk++ks) rH
 |[],[],dp,dk,rows,b7,b8,_,_,_,_,S=>(tE rows b7 b8 rfl (Y (gU _)<|Y (gU _)<|S))
 |[],k::ks,_,_,_,_,_,h,_,_,_,_=>by cases h
 |q::ps,[],_,_,_,_,_,h,_,_,_,_=>by cases h
 |q::ps,k::ks,dp,dk,rows,b7,b8,hl,bF,hX,hI,S=>by
  have hex:=λx hx=>hX q (.head _) k (.head _) x (S.grow x hx).tg
  refine xe (Ii hex) λF hF=>?_
  have S2:=ah1 S (λx hx=>(hF x hx).2) (hI k (.head _))
  rw[lq,cT] at bF
  refine gE (Vt (V1:=V1) (V2:=V2) (V3:=V3) (b5:=b5) ps ks (dp++[q]) (dk++[k]) (rows.flatMap F) (.v (.d (af q))) (.v (.d (af k))) (zq hl) (by rw[lq,lq,cT,oA];exact aO [(J B (J v1 v2),(.num 4))] (J (J B (J v1 k0)) v2,(.num 4)) rfl bF) (λa ha b V=>hX a (.tail _ ha) b (.tail _ V)) (λb V=>hI b (.tail _ V)) S2) λrH c7 c8 ih S3=>?_
  have l1:=aB S.len (uq (aO [(J B (J v1 v2),(.num 4))] (B,(.num 4)) rfl bF))
  have l2:=aB S2.len (uq (by rw[lq,cT,oA];exact aO [(J B (J v1 v2),(.num 4))] (J B (J v1 k0),(.num 4)) rfl bF))
  refine tE rH c7 c8 (l5 rfl (dy (ae:=s) (v:=gM (rows.flatMap F)) ?_ rfl) ih) (by rw[lm,lm] at S3;exact S3)
  refine uS (l:=rows) (m:=cy) (s:=F) (m2:=cy) (g:=cy) (cX (aj rfl) (by refine Y (aw _) ?_;exact aV l1 rfl)) (λx hx=>(bQ _ rfl ?_ (λw zz=>(ai _ rfl (aj rfl))))) (aV l2 rfl)
  have l3:=aB (hF x hx).2.len (uq (bM [(J B (J v1 v2),(.num 4)),(v3,v1)] (v3,(.num 4)) rfl bF (qY _ _)))
  exact cX (fB (ae:=s) (aF:=s) (aj rfl) (ay (aj rfl) (ay (aj rfl) (ay (aj rfl) aI))) (hF x hx).1) (Y (aw _)<|aV l3 rfl)
theorem af4(hx:bJ o=false)(p:Tm):∀u∈pre p,bJ u.op=true->∃q∈sel aa o p,u∈pre q:=by
 induction p using cU with
 |_ o' l ih=>
  intro u hu hv
  by_cases h:dq aa o (.node o' l)
  .exact Y (im aa h)<|ai _ (.head _) hu
  .unfold dq at h
   simp only[pI,pJ] at h
   refine xa h λH O=>?_
   have H:=H
   subst H
   refine Y (kL aa (show dG aa o' l=true from O)) ?_
   rw[fH,jd] at hu
   rcases bK.mp hu with rfl|hu
   .exact aQ (hx.symm.trans hv)
   .exact fD hu λk hk hu=>ar (ih k hk u hu hv) λq hq h3=>ai q (jr.mpr (ai k hk hq)) h3
theorem af5(hx:bJ o=false){qs:List Tm}(hq:qs.Perm (sel aa o p))(v:Str):(∃q∈qs,kc q v)↔kc p v:=by
 constructor
 .intro anF;exact UK anF λq H O u h3 h4=>oY O u (EB aa o p q (hq.mem_iff.mp H) u h3) h4
 .intro WF;refine vQ WF λH u O rD=>?_;clear WF;subst rD
  exact ar (af4 (aa:=aa) hx p u O H) λq h3 h4=>UL q (hq.mem_iff.mpr h3) H u h4 rfl
theorem aev(hx:bJ p.op=false)(v:Str):(∃q∈p.ks,kc q v)↔kc p v:=by
 cases p with|node o l=>
 constructor
 .intro anG;exact UK anG λq H O u h3 h4=>oY O u (ly H h3) h4
 .intro WG;refine vQ WG λH u O BR=>?_;clear WG;subst BR
  rw[fH,jd] at O
  rcases bK.mp O with rfl|O
  .exact aQ ((show bJ o=false from hx).symm.trans H)
  .exact fD O λk hk h3=>UL k hk H u h3 rfl
theorem ah2(hp:fP p)(V:bA aa p=true)(ht:Nf aa t)(qM:bA aa t=true)(he:t.op=p.op)(hq:qs.Perm (sel aa p.op p))(S:wE aa (jq aa t) p.op a4 t.ks qs rows):nr aa p t a4 ((rows.filter λx=>x.2.isEmpty).map (·.1)):=by
 have hx:bJ p.op=false:=hp.M1 (by have:=lx aa V;intro e;rw[e] at this;simp at this)
 have bF:bG t.ks=sz t - 1:=by clear ht qM he S;cases t with|node o l=>rw[dA];rfl
 have hm:∀r∈(rows.filter λx=>x.2.isEmpty).map (·.1),∃x∈rows,x.2=[]/\r=x.1:=λr hr=>by
  refine cr hr λx hx rC=>?_;clear hr;subst rC
  exact xa (kE.mp hx) λH O=>bQ x H (List.isEmpty_iff.mp O) rfl
 have pz:∀σ,(qs.flatMap (jS aa p.op σ)).Perm ((sel aa p.op p).flatMap (jS aa p.op σ)):=λσ=>Zy _ hq
 refine⟨λr hr=>?_,λr hr σ bU dB=>?_,λσ bU dB hn=>?_,?_,λh=>aQ (hx.symm.trans h)⟩
 .refine cq (hm r hr) λx H O rt=>?_;clear hr;subst rt
  exact(S.grow x H).mono (λzz h=>h) λv=>af5 hx hq v
 .refine cq (hm r hr) λx H O L8=>?_;clear hr;subst L8
  refine ar (S.snd x H) λM p1 h=>?_
  rw[O,gU] at p1
  exact(Js bU hp V ht).mpr (bO he qM ((pz σ).symm.trans ((h σ bU dB).trans p1.symm)))
 .refine cj ((Js bU hp V ht).mp hn) λzz zz h3=>?_
  have p3:=(pz σ).trans h3
  refine ar (S.pE σ [] bU dB (by refine Y (gU _) ?_;exact p3)) λx H O=>?_
  refine ar (S.snd x H) λM p1 h=>?_
  have e:x.2=[]:=by
   have l1:=(h σ bU O).length_eq
   have l2:=p1.length_eq
   have l3:=p3.length_eq
   rw[cS] at l2
   exact Da.mp (bR (bM [(B,v1),(J v2 v3,B),(v1,v2)] (v3,k0) rfl (aA l3.symm) (aA l2.symm) (aA l1)) lJ)
  exact ai x.1 (fQ.mpr (ai x (kE.mpr ⟨H,by refine Y e ?_;rfl⟩) rfl)) O
 .exact Y (aw _)<|sl bF<|aB (zb ..) (aB (xv rows) S.len)
theorem ah3(hx:bJ p.op=false)(V:¬bA aa p=true)(he:t.op=p.op)(S:Sq aa (jq aa t) a4 p.ks t.ks rows):nr aa p t a4 rows:=by
 have bF:bG t.ks=sz t - 1:=by clear he S;cases t with|node o l=>rw[dA];rfl
 refine⟨λr hr=>(S.grow r hr).mono (λzz h=>h) λv=>aev hx v,λr hr σ bU dB=>?_,λσ bU dB hn=>?_,?_,λh=>aQ (hx.symm.trans h)⟩
 .exact(IS bU hx V).mpr ⟨he,(S.snd r hr σ bU dB).symm⟩
 .exact S.pE σ bU dB ((IS bU hx V).mp hn).2.symm
 .exact sl bF<|S.len
theorem Vu(h:∀σ,oh aa σ->normal aa (fill σ p)≠t):nr aa p t a4 []:=
 ⟨by simp,by simp,λσ bU zz hn=>absurd hn (h σ bU),dn _,λzz=>dn _⟩
end
theorem ajg(h:xs.length=ys.length):jK .zip2 [.tuple xs, .tuple ys]=some (.list (mj xs ys)):=by
 show(if xs.length=ys.length then some (jW (mj xs ys)) else none)=_
 exact Y (if_pos h) rfl
theorem S7:∀(xs ys:List ah),(mj xs ys).length<=xs.length
 |[],_=>dn _
 |_::_,[]=>dn _
 |x::xs,y::ys=>by rw[HS,bL,bL];exact pK (S7 xs ys)
theorem ne_int(a b:Int):gI .ne (.int a) (.int b)=some (!decide (a=b)):=by exact Y (E' Fa Fa)<|Y (T9 _ _) rfl
section
variable{aa:List Str}(ho:ir aa)
include ho
theorem ah4(p:Tm):Bd p->fP p->∀n,4*sz p+ 40<=n->∀a4 t s,TG aa a4->Nf aa t->Bd t->sz t<=5->∃rows,RR n 12 [.me (bH aa), .d (cy a4), .d (af p), .d (af t)] s=some (gM rows,s)/\nr aa p t a4 rows:=by
 induction p using tB with
 |h p ih=>
  intro bp hp n hn a4 t s hh ht bt hs
  refine xe (show ∃k,n=k+4 from⟨n - 4,by (exact bR ((bj _ _)) ((aU (aM [(J (.mulL 4 B) (.num 40),v1)] ((.num 4),v1) rfl hn))))⟩) λn oT=>?_;subst oT
  have XD:=l9 p
  have ro:∀ρ:List aK,ρ[2]? =some (.v (.d (af p)))->ev au (RR (n+3)) (.item (L 2) (I 0)) ρ s=some ([.d (.str p.op)],s):=λρ h=>eX (ae:=s) (aF:=s) (aj h) bc gB (ib p)
  have kW:ev au (RR (n+3)) (Call 0 [L 2]) [.v (.me (bH aa)), .v (.d (cy a4)), .v (.d (af p)), .v (.d (af t)), .un, .un, .un, .un, .un, .un] s=some ([.d (.bool (bJ p.op))],s):=by
   exact sl hp.wc<|dJ (ay (aj rfl) aI) (Ie bp (n+2) s)
  by_cases hx:bJ p.op=true
  .rw[hx] at kW
   refine cq (af2 a4 p.op t) λd H O h3=>?_
   rw[if_pos (show _=true from by rw[hh.tok.ok,decide_eq_true (by refine Y (aw _) ?_;have:=hh.tok.len;exact aV this rfl),Vq hx];rfl)] at H
   refine ai (As a4 p.op t) (eQ rfl rfl (qu (ae:=s) kW (dy (ae:=s) (v:= .d d) (iw (ay (aj rfl) (ay (ro _ rfl) (ay (aj rfl) aI))) rfl H) (dR ?_)))) ?_
   .refine nR (ae:=s) (t:=eqT ((lk a4 p.op).getD t) t) (dD (ae:=s) (aF:=s) (iw (ay (aj rfl) (ay (ro _ rfl) (ay (aj rfl) aI))) rfl (af3 hh.tok p.op t)) (aj rfl) (Vs ?_ bt)) (λq=>?_) λq=>?_
    .cases e:lk a4 p.op with
     |none=>exact bt
     |some v=>exact hh.tok.bd _ (mW e)
    .unfold As
     cases e:lk a4 p.op with
     |none=>
      exact Y (O e)<|ji (ay (aj rfl) aI) rfl
     |some v=>
      rw[e] at q
      have q:eqT v t=true:=q
      have ev:=(oG v t).mp q
      refine Y (h3 hh.tok (ev▸e)) ?_
      show _=some ([gM (if eqT v t=true then[a4] else[])],s)
      exact Y (if_pos q)<|ji (ay (aj rfl) aI) rfl
    .unfold As
     cases e:lk a4 p.op with
     |none=>rw[e] at q;exact aQ ((xu t).symm.trans q)
     |some v=>
      rw[e] at q
      have q:eqT v t=false:=q
      show _=some ([gM (if eqT v t=true then[a4] else[])],s)
      rw[if_neg (by refine Y q ?_;simp)]
      exact ji aI rfl
   .have e:=hp p (iW p) hx
    clear ih bp hn XD ro O h3;cases p with|node o l=>
    have e:l=[]:=e
    clear hp kW H;subst e
    exact ah0 hh hx ht bt hs
  .have hx:bJ p.op=false:=by simpa using hx
   rw[hx] at kW
   by_cases V:bA aa p=true
   .have Cj:=xo ho bp (n+2) s
    rw[V] at Cj
    have hc:=((gv aa).mp V).1
    have YW:=Eh ho bp.g.op t bt (n+3) s (aO [(J (.mulL 4 B) (.num 40),J v1 (.num 4)),(v2,(.num 5))] (J v2 k1,J v1 (.num 3)) rfl hn hs)
    have wv:=Eh ho bp.g.op p bp (n+3) s (aM [(J (.mulL 4 B) (.num 40),J v1 (.num 4))] (J B k1,J v1 (.num 3)) rfl hn)
    have br:(sel aa p.op t).length<= 60:=xH aa p.op bt
    have lL:=AH ht p.op
    have NQ:ev au (RR (n+3)) (.cmp .gt (.bi .len (L 5)) (I 1)) [.v (.me (bH aa)), .v (.d (cy a4)), .v (.d (af p)), .v (.d (af t)), .un, .v (.d (cV (sel aa p.op t))), .un, .un, .un, .un] s=some ([.d (.bool (decide ((1:Int)<((sel aa p.op t).map af).length)))],s):=dD (ae:=s) (aF:=s) (cM (aj rfl) (Ua (Y (aw _)<|aV br rfl))) bc (qv _ _)
    rw[aw] at NQ
    have go:∀rows,ev au (RR (n+3)) (.ite (.cmp .gt (.bi .len (L 5)) (I 1)) (dc 13 (L 0) [L 1, .item (L 2) (I 0),dc 7 (L 0) [.item (L 2) (I 0),L 2],L 5]) (hO [])) [.v (.me (bH aa)), .v (.d (cy a4)), .v (.d (af p)), .v (.d (af t)), .un, .v (.d (cV (sel aa p.op t))), .un, .un, .un, .un] s=some ([gM rows],s)->RR (n+4) 12 [.me (bH aa), .d (cy a4), .d (af p), .d (af t)] s=some (gM rows,s):=λrows h=>
     eQ rfl rfl (io (ae:=s) kW (qu (ae:=s) (fB (ae:=s) (aF:=s) (aj rfl) (ay (aj rfl) aI) Cj) (dy (ae:=s) (fB (ae:=s) (aF:=s) (aj rfl) (ay (ro _ rfl) (ay (aj rfl) aI)) YW) (dR h))))
    by_cases hq:t.op=p.op/\bA aa t=true
    .rw[if_pos hq] at lL
     clear YW br;obtain⟨H,O⟩:=hq
     have h3:=lx aa O
     have Ck:sz t=bG t.ks+1:=by clear ht go H h3;clear bt hs O;cases t with|node o l=>rw[dA];rfl
     have Cm:∀k∈t.ks,∀q∈pre k,q∈pre t:=λk hk q hq=>by clear Ck;clear ht bt hs go H h3;cases t with|node o l=>exact ly hk hq
     have hR:xY aa p.op (jq aa t) t.ks:=⟨λx hx=>bt.pre x (Cm x hx x (iW x)),H▸Aq ht O,by (exact aM [(J B k1,v1),(v1,(.num 5))] (B,(.num 4)) rfl (aA Ck.symm) hs),λk hk v f4_=>ar f4_ λq hq hv=>(ai q (Cm k hk q hq) hv),λl L hl nu=>(ai t (iW t) (.inr (uW O l L hl nu (Y H rfl))))⟩
     have e:ff aa p=sel aa p.op p:=by unfold sel;exact Y (if_pos rfl) rfl
     refine bZ (adm ho (n:=n) (s:=s) bp.g.op hc (aM [(J (.mulL 4 B) (.num 40),J v1 (.num 4))] ((.num 20),v1) rfl hn) hh hR (sel aa p.op p) (aB (xH aa p.op bp) (by decide)) λq hq=>by
      have a5:sz q<sz p:=qf aa V (Y e<|hq)
      exact fb (bp.sel aa q hq) (hp.sel p.op q hq) (EA aa p.op p q hq) (λL9 t2 a b c d=>ih q a5 (bp.sel aa q hq) (hp.sel p.op q hq) (n+1) (aO [(J B k1,v1),(J B k1,v1),(J B k1,v1),(J B k1,v1),(J (.mulL 4 v1) (.num 40),J v2 (.num 4))] (J (.mulL 4 B) (.num 40),J v2 k1) rfl a5 a5 a5 a5 hn) L9 t2 s a b c d)) λqs rows hqs S hr=>?_
     refine ai _ (go _ (nR (ae:=s) NQ (λzz=>?_) λz=>?_)) (ah2 hp V ht O H hqs S)
     .exact Y lL<|fB (ae:=s) (aF:=s) (aj rfl) (ay (aj rfl) (ay (ro _ rfl) (ay (fB (ae:=s) (aF:=s) (aj rfl) (ay (ro _ rfl) (ay (aj rfl) aI)) wv) (ay (aj rfl) aI)))) hr
     .rw[lL] at z
      have:=of_decide_eq_false z
      exact absurd (mr (a:=1) (by assumption)) this
    .rw[if_neg hq] at lL
     refine ai ([]) (go _ (nR (ae:=s) NQ (λz=>?_) λzz=>ji aI rfl)) (Vu λσ bU NR=>?_)
     .rw[lL] at z
      have:=of_decide_eq_true z
      simp at this
     .exact cj ((Js bU hp V ht).mp NR) λH O zz=>hq ⟨H,O⟩
   .have fF:bA aa p=false:=by simpa using V
    have Cj:=xo ho bp (n+2) s
    rw[fF] at Cj
    have qI:ev au (RR (n+3)) (.mw (.cmp .ne (.item (L 2) (I 0)) (.item (L 3) (I 0))) (.mw (.cmp .ne (.bi .len (L 2)) (.bi .len (L 3))) (dc 6 (L 0) [L 3]))) [.v (.me (bH aa)), .v (.d (cy a4)), .v (.d (af p)), .v (.d (af t)), .un, .un, .un, .un, .un, .un] s=some ([.d (.bool (!decide (p.op=t.op)||(!decide (((p.ks.length+1:Nat):Int)=((t.ks.length+1:Nat):Int))||bA aa t)))],s):=
     yy (ae:=s) (dD (ae:=s) (aF:=s) (ro _ rfl) (eX (ae:=s) (aF:=s) (aj rfl) bc gB (ib t)) (ne_str bp.g.op bt.g.op)) λzz=>yy (ae:=s) (dD (ae:=s) (aF:=s) (cM (aj rfl) (rk bp)) (cM (aj rfl) (rk bt)) (ne_int _ _)) λzz=>fB (ae:=s) (aF:=s) (aj rfl) (ay (aj rfl) aI) (xo ho bt (n+2) s)
    have yY:ev au (RR (n+3)) (dc 6 (L 0) [L 2]) [.v (.me (bH aa)), .v (.d (cy a4)), .v (.d (af p)), .v (.d (af t)), .un, .un, .un, .un, .un, .un] s=some ([.d (.bool false)],s):=fB (ae:=s) (aF:=s) (aj rfl) (ay (aj rfl) aI) Cj
    by_cases hq:t.op=p.op/\t.ks.length=p.ks.length
    .clear XD;obtain⟨H,O⟩:=hq
     have NT:bA aa t=false:=by
      have:¬bA aa t=true:=λh=>V ((gv aa).mpr (sl H<|sl O<|(gv aa).mp h))
      simpa using this
     have Ck:sz t=bG t.ks+1:=by clear ht hs qI yY NT;clear bt H O;cases t with|node o l=>rw[dA];rfl
     have Cm:∀k∈t.ks,∀q∈pre k,q∈pre t:=λk hk q hq=>by clear Ck;clear ht hs qI yY NT;cases t with|node o l=>exact ly hk hq
     have wv:=JR bp
     refine gE (Vt (aa:=aa) (n:=n+3) (s:=s) (I:=jq aa t) (r:=a4) (V1:= .v (.d (cy a4))) (V2:= .v (.d (af p))) (V3:= .v (.d (af t))) (b5:= .un) p.ks t.ks [] [] [a4] .un .un O.symm (by refine Y (kC _) ?_;exact aM [(J B k1,v1),(v1,(.num 5))] (B,(.num 4)) rfl (aA Ck.symm) hs) (λq hq k hk L9 hh2=>by
      have a5:sz q<sz p:=vM hq
      have bk:Bd k:=bt.pre k (Cm k hk k (iW k))
      have:=vM hk
      exact ih q a5 (bp.pre q (by clear ih hp hn wv a5;cases p with|node o l=>exact ly hq (iW q))) (hp.ez hq) (n+3) (aO [(J B k1,v1),(J B k1,v1),(J B k1,v1),(J B k1,v1),(J (.mulL 4 v1) (.num 40),J v2 (.num 4))] (J (.mulL 4 B) (.num 40),J v2 (.num 3)) rfl a5 a5 a5 a5 hn) L9 k s hh2 (AI ht hk) bk (aM [(J B k1,v1),(v1,(.num 5))] (B,(.num 5)) rfl this hs)) (λk hk v Nc=>ar Nc λq hq hv=>(ai q (Cm k hk q hq) hv)) (ajf hh)) λrows b7 b8 cH S=>?_
     rw[kC,kC] at S
     refine ai rows (eQ rfl rfl (io (ae:=s) kW (io (ae:=s) yY (io (ae:=s) (fC qI ?_) (dy (ae:=s) (v:=gM [a4]) (ji (ay (aj rfl) aI) rfl) (mh (ae:=s) (cX (iw (ay (kR (aj rfl) (eO bp)) (ay (kR (aj rfl) (eO bt)) aI)) rfl (ajg (Y (aw _)<|Y (aw _)<|Y O rfl))) (aB (S7 _ _) (by refine Y (aw _) ?_;exact aV wv rfl))) cH (dR (aj rfl)))))))) (ah3 hx V H S)
     rw[decide_eq_true H.symm,decide_eq_true (Y O rfl),NT];rfl
    .refine ai ([]) (eQ rfl rfl (io (ae:=s) kW (io (ae:=s) yY (qu (ae:=s) (fC qI ?_) (dR (ji aI rfl)))))) (Vu λσ bU NR=>?_)
     .congr 1
      refine Y (lU _ _)<|Y (lU _ _)<|Y (wP _)<|Y (wP _)<|si decide_eq_false_iff_not<|si decide_eq_false_iff_not ?_
      by_cases H:p.op=t.op
      .refine .inr (.inl λO=>hq ⟨H.symm,?_⟩)
       exact(zq (inj O)).symm
      .exact .inl H
     .exact xa ((IS bU hx V).mp NR) λH O=>hq ⟨H,by exact Y O<|Y (aw _) rfl⟩
end
def cW(p:Str×Tm):ah:= .tuple [.str p.1,af p.2]
def pd(p:Str×Tm):ah:= .tuple [.str p.1,m7 p.2]
def de(r:Tb):ah:= .tuple (r.map cW)
def mq(r:Tb):ah:= .tuple (r.map pd)
def gZ(r:Tb):ah:= .tuple [mq r,de r]
abbrev mi:List Tb->List Tb:=qz gZ
theorem JX(p:Str×Tm):gd (cW p)=true:=by unfold cW;simp only[gd,fx,u9];rfl
theorem Ff(r:Tb):gd (de r)=true:=by unfold de;simp only[gd];exact tv λx zz=>JX x
theorem S8(r:Tb):gd (gZ r)=true:=by
 have:gd (mq r)=true:=by
  unfold mq;simp only[gd]
  refine tv λx zz=>?_
  unfold pd;simp only[gd,fx,T5];rfl
 unfold gZ
 simp only[gd,fx,this,Ff,DA]
theorem ah5(h:cW p=cW q):p=q:=by
 unfold cW at h
 simp only[ze,gT,aaL,and_true] at h
 exact Prod.ext h.1 (Jk _ _ h.2)
theorem Us(h:de r=de q):r=q:=by
 unfold de at h
 simp only[ze] at h
 exact map_inj (λx zz y zz e=>ah5 e) h
theorem aew(h:gZ r=gZ q):r=q:=by
 unfold gZ at h
 simp only[ze,gT,and_true] at h
 exact Us h.2
theorem acb(p:l.Perm r):mi l=mi r:=PJ gZ (λx zz=>S8 x) (λx zz y zz h=>aew h) p
def C0(a b:Tb):Bool:=cA (de a) (de b)
theorem At(a b:Tb):C0 a b=true↔a=b:=(qm _ _ (Ff a) (Ff b)).trans ⟨Us,λe=>e▸rfl⟩
theorem Ut{l:List Tb}:(l.any λy=>C0 y t)=true↔t∈l:=by
 refine si uC ?_
 constructor
 .intro anH;exact ar anH λy hy e=>sl ((At y t).mp e)<|hy
 .exact λh=>(ai t h ((At t t).mpr rfl))
def rW(acc:List Tb)(t:Tb):List Tb:=if acc.any (λy=>C0 y t)=true then acc else acc++[t]
theorem af6:x∈rW acc t↔x∈acc\/x=t:=by
 unfold rW
 split
 .rename_i q
  have:=Ut.mp q
  exact⟨.inl,λh=>h.elim id λe=>e▸this⟩
 .rw[ln,bY]
theorem QB(h:acc.Nodup):(rW acc t).Nodup:=by
 unfold rW
 split
 .exact h
 .rename_i q
  refine si Dq<|bO h (by simp) (λa ha b V e=>?_)
  rw[bY] at V
  rw[e,V] at ha
  exact q (Ut.mpr ha)
def nZ(r:Tb):ah×ah:=(de r,mq r)
theorem ajh(acc:List Tb)(t:Tb):ml (acc.map nZ) (de t) (mq t)=(rW acc t).map nZ:=by
 unfold ml rW
 have e:(acc.map nZ).any (mR (de t))=acc.any λy=>C0 y t:=by refine Y DG ?_;rfl
 refine Y e ?_
 split
 .refine Y dW<|mG λx zz=>?_
  show(if C0 x t=true then((nZ x).1,mq t) else nZ x)=nZ x
  split
  .rename_i q;refine Y ((At x t).mp q) ?_;rfl
  .rfl
 .refine Y fk ?_;rfl
theorem ah6{acc:List Tb}(h:t∈acc):ve (acc.map nZ) (de t)=some (mq t):=by
 unfold ve
 refine Y aa9<|Y (O9 _ _ _) ?_
 have:acc.find? (mR (de t)∘nZ)=some t:=by
  cases e:acc.find? (mR (de t)∘nZ) with
  |none=>rw[aaj] at e;exact absurd ((At t t).mpr rfl) (e t h)
  |some x=>
   have:=O0 e
   exact Y ((At x t).mp this) rfl
 refine Y this ?_;rfl
def dS(r:Tb):Tb:=[sX,sY].filterMap λk=>(lk r k).map λv=>(k,v)
theorem Gv:(sX==sY)=false:=by decide+kernel
theorem zY:p∈dS r↔bJ p.1=true/\lk r p.1=some p.2:=by
 unfold dS
 refine si List.mem_filterMap ?_
 constructor
 .intro WH;refine ar WH λk hk h=>iK h λv hv AU=>?_;clear WH h;subst AU
  exact⟨qk.mpr (by simpa using hk),hv⟩
 .intro anI;exact xa anI λH O=>ai p.1 (by simpa using qk.mp H) (by refine Y O ?_;rfl)
theorem zN(r:Tb):((dS r).map (·.1)).Nodup:=by
 have:((dS r).map (·.1)).Sublist [sX,sY]:=by
  unfold dS
  generalize [sX,sY]=l
  induction l with
  |nil=>exact .refl _
  |cons k l ih=>
   refine Y Oo ?_
   cases lk r k with
   |none=>exact ih.cons k
   |some v=>exact ih.cons_cons k
 refine this.nodup ?_
 have:=Gv
 rw[beq_eq_false_iff_ne] at this
 simpa using this
theorem Uu(h:∀p∈r,bJ p.1=true)(o:Str):lk (dS r) o=lk r o:=by
 cases e:lk r o with
 |some v=>exact tK (zN r) (zY.mpr ⟨h _ (mW e),e⟩)
 |none=>
  cases e2:lk (dS r) o with
  |none=>rfl
  |some v=>
   have:=(zY.mp (mW e2)).2
   rw[show lk r (o,v).1=none from e] at this
   exact aC this
theorem QC(h:∀o,lk r o=lk q o):dS r=dS q:=by
 unfold dS
 exact Y (show lk r=lk q from funext h) rfl
theorem Pt{f:α->β}{l:List α}(h:(l.map f).Nodup):l.Nodup:=arX f (λzz zz h e=>h (congrArg f e)) h
theorem aex(h:fh r):r.Perm (dS r):=by
 have n1:=Pt h.nd
 have n2:=Pt (zN r)
 refine si (N4 n1 n2) ?_
 intro p
 exact si zY<|⟨λhp=>⟨h.key p hp,tK h.nd hp⟩,λhp=>mW hp.2⟩
theorem af7(r:Tb):rZ ((dS r).map cW):=by
 have hn:∀v:Option Tm,∀w:Option Tm,rZ ((((v.map λv=>(sX,v)).toList++(w.map λv=>(sY,v)).toList)).map cW):=by
  intro v w
  unfold rZ
  cases v with
  |none=>cases w<;>simp
  |some a=>
   cases w with
   |none=>simp
   |some b=>
    show abo _ [cW (sX,a),cW (sY,b)]
    refine si wL<|⟨λx hx=>?_,by simp⟩
    refine Y (bY.mp hx) ?_
    have H:cD (.str sX) (.str sY)= .lt:=by decide+kernel
    show((cD (.str sX) (.str sY)).then (cL [af a] [af b]))≠_
    exact Y H<|λh=>by exact oj h
 have e:dS r=((lk r sX).map λv=>(sX,v)).toList++((lk r sY).map λv=>(sY,v)).toList:=by
  unfold dS
  cases H:lk r sX<;>cases O:lk r sY<;>simp[H,O]
 exact Y e<|hn _ _
theorem adn(h:fh r):gf (r.map cW)=(dS r).map cW:=by
 have g:∀y∈r.map cW,gd y=true:=λy hy=>by refine cr hy λx zz Bu=>?_;clear hy;subst Bu;exact JX x
 exact xf (λy hy=>g y ((mK _).mem_iff.mp hy)) ((mK _).trans ((aex h).map cW)) (sV g) (af7 r)
theorem S9(r:Tb):(dS r).length<=2:=by
 unfold dS;exact aB (List.length_filterMap_le _ _) (a8 _)
theorem JY(h:bJ o=true):o∈al:=by
 rcases qk.mp h with rfl|rfl<;>exact tC (by decide+kernel)
structure pF(r:Tb):Prop where
 key:∀p∈r,bJ p.1=true
 len:r.length<=2
 bd:∀p∈r,Bd p.2
 dp:∀p∈r,dp p.2<=5
theorem Uv:∀{l:List α},(∀x∈l,jJ (f x)=true)->pj (l.map f)=true
 |[],_=>rfl
 |x::l,h=>by rw[bE,qZ,h x (.head _),Uv λy hy=>h y (.tail _ hy)];rfl
theorem Uw(h:bJ p.1=true)(b:Bd p.2):(cW p).canLay0=true:=by
 unfold cW
 have:(eB p.1).canLay0=true:=vb _ (JY h)
 simp only[mJ,eA] at*
 refine Y this<|Y (xE _ b.g) ?_;rfl
theorem af8(h:bJ p.1=true)(b:Bd p.2):(pd p).canLay0=true:=by
 unfold pd
 have:(eB p.1).canLay0=true:=vb _ (JY h)
 simp only[mJ,eA] at*
 refine Y this<|Y (T7 b.g) ?_;rfl
theorem Ux:(cW p).depth<=dp p.2+1:=by
 unfold cW
 have:=uK p.2
 have:gV (.str p.1)=0:=rfl
 simp only[gV,eM]
 (rename_i aY;exact(eN _ _).elim (λf7=>(eN _ _).elim (λjl=>aM [(B,k0)] (J B k1,J v1 k1) rfl (fN jl)) λjl=>bM [(B,v1),(v2,B),(v3,v2)] (J v3 k1,J v1 k1) rfl aY (fN f7) (fY jl)) λf7=>(eN _ _).elim (λjl=>aM [(B,k0)] (J B k1,J v1 k1) rfl (fN jl)) λjl=>aO [(B,k0),(v1,B)] (J v1 k1,J v2 k1) rfl (fY f7) (fY jl))
theorem af9:(pd p).depth<=3:=by
 unfold pd
 have:=Ri p.2
 have:gV (.str p.1)=0:=rfl
 simp only[gV,eM]
 (rename_i aY;exact(eN _ _).elim (λeh=>(eN _ _).elim (λwF=>be [(B,k0)] (J B k1,(.num 3)) rfl (fN wF)) λwF=>aO [(B,(.num 2)),(v1,B),(v2,v1)] (J v2 k1,(.num 3)) rfl aY (fN eh) (fY wF)) λeh=>(eN _ _).elim (λwF=>be [(B,k0)] (J B k1,(.num 3)) rfl (fN wF)) λwF=>aM [(B,k0),(v1,B)] (J v1 k1,(.num 3)) rfl (fY eh) (fY wF))
theorem Jt(h:pF r):(de r).canLay0=true:=by
 unfold de;rw[mJ];exact ox λp hp=>Uw (h.key p hp) (h.bd p hp)
theorem EL(h:pF r):(de r).depth<=7:=by
 unfold de;rw[gV]
 have:=oq (f:=cW) (n:=6) (l:=r) λp hp=>aB Ux (by have:=h.dp p hp;exact be [(B,(.num 5))] (J B k1,(.num 6)) rfl this)
 exact be [(B,(.num 6))] (J B k1,(.num 7)) rfl this
theorem RD(h:pF r):iH (de r)=true:=by
 have H:jJ (de r)=true:=by
  unfold de;rw[zP]
  refine Uv λp zz=>?_
  unfold cW;rw[zP,qZ,qZ,JT];rfl
 have O:=oX (Jt h) (aB (EL h) (by decide))
 unfold iH
 rw[H,O,decide_eq_true (aB (EL h) (by decide))]
 rfl
theorem ah7(r q:Tb):(fO (mq r) (mq q)).isSome=true:=
 AE λx zz y zz=>lz (y:= .str _) rfl (lz (Vk _ _) (r:=[]) rfl)
theorem aji(r q:Tb):(fO (de r) (de q)).isSome=true:=
 AE λx zz y zz=>lz (y:= .str _) rfl (lz (E8 _ _) (r:=[]) rfl)
theorem acd{l:List Tb}(di:l.length< 64)(h:∀r∈l,pF r):gX (l.map gZ)=true:=by
 refine D5 di (λr hr=>?_) (λr hr=>?_) (λr zz=>S8 r) ?_ λx zz y zz=>lz (ah7 x y) (lz (aji x y) (r:=[]) rfl)
 .have H:(mq r).canLay0=true:=by unfold mq;rw[mJ];exact ox λp hp=>af8 ((h r hr).key p hp) ((h r hr).bd p hp)
  unfold gZ
  simp only[mJ,eA]
  refine Y H<|Y (Jt (h r hr)) ?_;rfl
 .have H:(mq r).depth<=4:=by
   unfold mq;rw[gV]
   have:=oq (f:=pd) (n:=3) (l:=r) λp zz=>af9
   exact be [(B,(.num 3))] (J B k1,(.num 4)) rfl this
  have:=EL (h r hr)
  unfold gZ
  simp only[gV,eM]
  exact(eN _ _).elim (λf7=>(eN _ _).elim (λjl=>aM [(B,(.num 4)),(v1,B)] (J v1 k1,(.num 63)) (by kernel_rfl) H (fN jl)) λjl=>aO [(B,(.num 7)),(v1,B),(v2,v1)] (J v2 k1,(.num 63)) (by kernel_rfl) this (fN f7) (fY jl)) λf7=>(eN _ _).elim (λjl=>aM [(B,(.num 4)),(v1,B)] (J v1 k1,(.num 63)) (by kernel_rfl) H (fN jl)) λjl=>aM [(B,k0),(v1,B)] (J v1 k1,(.num 63)) (by kernel_rfl) (fY f7) (fY jl)
 .unfold rj
  have:(l.map gZ).all (qx 4)=true:=by
   refine si hU ?_
   intro y hy
   refine cr hy λx zz rt=>?_;clear hy;subst rt
   rfl
  refine Y this ?_;simp
theorem abF(h:fh r):gX (r.map cW)=true:=by
 have:=h.len
 refine D5 (be [(B,(.num 2))] (J B k1,(.num 64)) rfl this) (λp hp=>Uw (h.key p hp) (h.bd p hp)) (λp hp=>aB Ux (by have:=(h.bd p hp).d;exact be [(B,(.num 50))] (J B k1,(.num 63)) rfl this)) (λp zz=>JX p) ?_ λx zz y zz=>lz (y:= .str _) rfl (lz (E8 _ _) (r:=[]) rfl)
 unfold rj
 have:(r.map cW).all (qx 3)=true:=by
  refine si hU ?_
  intro y hy
  refine cr hy λx zz vx=>?_;clear hy;subst vx
  rfl
 refine Y this ?_;simp
structure mZ(aa:List Str)(p t:Tm)(ρ:Tb):Prop where
 yZ:dS ρ=ρ
 lb:∀o,(lk ρ o).isSome=true↔kc p o
 val:∀o v,lk ρ o=some v->jq aa t v
 ok:normal aa (fill (lk ρ) p)=t
section
variable{aa:List Str}
theorem vc(ho:ir aa)(ht:Nf aa t)(g:dZ t)(h:jq aa t v):Nf aa v/\dZ v/\sz v<=sz t:=by
 have bF:∀t:Tm,∀p∈pre t,sz p<=sz t:=by
  intro t
  induction t using cU with
  |_ o l ih=>
   intro p hp
   rw[fH,jd] at hp
   rcases bK.mp hp with rfl|hp
   .exact a8 _
   .exact fD hp λk hk hp=>aB (ih k hk p hp) (fA (j0 hk))
 have hg:∀{t:Tm},dZ t->∀p∈pre t,dZ p:=by
  intro t
  induction t using cU with
  |_ o l ih=>
   intro g p hp
   rw[fH,jd] at hp
   rcases bK.mp hp with rfl|hp
   .exact g
   .exact fD hp λk hk hp=>ih k hk (g.ez hk) p hp
 refine ar h λp hp A2=>?_;clear h;rcases A2 with h|⟨V,l,L,bB,hl,rfl⟩
 .subst h
  exact bO (xL t ht _ hp) (hg g _ hp) (bF t _ hp)
 .have np:=xL t ht p hp
  have fl:=((Aq np V).perm hl.symm).left
  have gp:=hg g p hp
  have hc:=((gv aa).mp V).1
  refine bO (Uq fl hc bB) (Ij gp.op fl bB λx hx=>Eg gp (hl.mem_iff.mp (pH _ hx))) (aB (EK fl bB) ?_)
  have H:=q7 hl
  rw[lq] at H
  have O:=bF t p hp
  have h3:sz p=bG p.ks+1:=by clear fl gp hc O;clear V hl np;cases p with|node o l=>rw[dA];rfl
  exact eH [(J B k1,v1),(v1,v2),(J v3 v4,B)] (J v3 k1,v2) rfl (aA h3.symm) O (aA H)
theorem mZ.C1(ho:ir aa)(ht:Nf aa t)(g:dZ t)(hs:sz t<=5)(h:mZ aa p t ρ):pF ρ:=by
 have hm:∀p∈ρ,bJ p.1=true/\lk ρ p.1=some p.2:=λp hp=>by rw[<- h.yZ] at hp;exact zY.mp hp
 have hv:∀p∈ρ,dZ p.2/\sz p.2<=5:=λp hp=>by
  exact cj (vc ho ht g (h.val _ _ (hm p hp).2)) λzz O h3=>⟨O,aB h3 hs⟩
 exact⟨λp hp=>(hm p hp).1,by exact sl h.yZ<|S9 ρ,λp hp=>pZ (hv p hp).1 (aB (hv p hp).2 (by decide)),λp hp=>aB (rG _) (hv p hp).2⟩
theorem ado(t:Tm):(∀u∈pre t,f u.op=g u.op)->fill f t=fill g t:=by
 induction t using cU with
 |_ o l ih=>
  intro h
  have e:f o=g o:=h _ (iW _)
  have e2:l.map (fill f)=l.map (fill g):=mG λk hk=>ih k hk λu hu=>h u (ly hk hu)
  rw[pV,pV,pY,pY,e,e2]
def sC(r:Tb)(o:Str):Option Tm:=if bJ o=true then some ((lk r o).getD (.node o [])) else none
theorem ah8(o:Str):Nf aa (.node o []):=by
 have:¬bA aa (.node o [])=true:=λh=>by have:=lx aa h;simp[Tm.ks] at this
 unfold Nf
 refine Y (jt aa this) ?_;rfl
theorem Uy(h:∀o v,lk r o=some v->Nf aa v):oh aa (sC r):=by
 refine⟨λo=>?_,λo v e=>?_⟩
 .unfold sC
  cases q:bJ o with
  |true=>refine Y (if_pos rfl) ?_;rfl
  |false=>rw[if_neg (by simp)];rfl
 .unfold sC at e
  split at e
  .cases q:lk r o with
   |none=>rw[q] at e;injection e with Ce;subst Ce;exact ah8 o
   |some w=>rw[q] at e;injection e with Br;subst Br;exact h o _ q
  .exact aC e
theorem Vv(h:∀p∈r,bJ p.1=true):Ag (sC r) r:=λo v e=>by
 unfold sC
 refine Y (if_pos (h _ (mW e)))<|Y e ?_;rfl
theorem S'(hk:∀q∈r,bJ q.1=true)(h:∀o,kc p o->(lk r o).isSome=true):fill (sC r) p=fill (lk r) p:=by
 refine ado p λu hu=>?_
 unfold sC
 cases q:bJ u.op with
 |true=>
  refine ua ((h u.op (oY q u hu rfl))) λv hv=>Y (if_pos rfl)<|Y hv ?_;rfl
 |false=>
  rw[if_neg (by simp)]
  cases e:lk r u.op with
  |none=>rfl
  |some v=>exact aQ (q.symm.trans (hk _ (mW e)))
theorem aey(ho:ir aa)(ht:Nf aa t)(g:dZ t)(E:nr aa p t [] rows)(ρ:Tb):mZ aa p t ρ↔∃q∈rows,dS q=ρ:=by
 constructor
 .intro h
  have hk:∀q∈ρ,bJ q.1=true:=λq hq=>by rw[<- h.yZ] at hq;exact(zY.mp hq).1
  have hs:=Uy (aa:=aa) (r:=ρ) λo v e=>(vc ho ht g (h.val o v e)).1
  refine ar (E.pE (sC ρ) hs (λo v e=>by exact aC e) (by refine Y (S' hk λo ho=>(h.lb o).mpr ho) ?_;exact h.ok)) λq hq dB=>?_
  have G:=E.grow q hq
  refine ai q hq<|sl h.yZ<|QC λo=>?_
  have d1:=G.lb o
  have d2:=h.lb o
  have:(lk q o).isSome=true↔(lk ρ o).isSome=true:=d1.trans ⟨λz=>z.elim (λz=>by exact aQ z) d2.mpr,λz=> .inr (d2.mp z)⟩
  cases e:lk q o with
  |none=>
   cases e2:lk ρ o with
   |none=>rfl
   |some w=>rw[e,e2] at this;exact absurd (this.mpr rfl) (by simp)
  |some v=>
   have e3:=dB o v e
   rw[e] at this
   refine ua (this.mp rfl) λw hw=>?_
   have e4:=Vv hk o w hw
   exact Y hw<|sl e4<|Y e3 rfl
 .intro BW;refine ar BW λq hq AQ=>?_;clear BW;subst AQ
  have G:=E.grow q hq
  have hk:=G.tg.tok.key
  have el:=Uu hk
  have d:=λo=>(G.lb o).trans ⟨λz=>z.elim (λz=>by exact aQ z) id, .inr⟩
  refine⟨QC el,λo=>by refine Y (el _) ?_;exact d o,λo v e=>?_,?_⟩
  .rw[el] at e
   refine a9 (G.val o v e) (λh=>?_) (λh=>?_)
   .exact aC h
   .exact h
  .exact Y (show lk (dS q)=lk q from funext el)<|sl (S' hk λo ho=>(d o).mpr ho)<|E.snd q hq (sC q) (Uy G.tg.nf) (Vv hk)
def j5(acc:List Tb):List Tb->List Tb
 |[]=>acc
 |r::l=>j5 (rW acc (dS r)) l
theorem adp{acc}:j5 acc []=acc:=rfl
theorem adq{acc r l}:j5 acc (r::l)=j5 (rW acc (dS r)) l:=rfl
theorem Ik:∀{l acc:List Tb} {x:Tb},x∈j5 acc l↔x∈acc\/∃r∈l,dS r=x
 |[],acc,x=>by rw[adp];simp
 |r::l,acc,x=>by
  rw[adq,Ik,af6]
  constructor
  .rintro((h|rfl)|⟨q,H,O⟩)
   .exact .inl h
   .exact .inr (ai r (.head _) rfl)
   .exact .inr (ai q (.tail _ H) O)
  .rintro(h|⟨q,H,O⟩)
   .exact .inl (.inl h)
   .rcases bK.mp H with rfl|H
    .exact .inl (.inr O.symm)
    .exact .inr (ai q H O)
theorem PR:∀{l acc:List Tb},acc.Nodup->(j5 acc l).Nodup
 |[],_,h=>h
 |r::l,acc,h=>PR (l:=l) (QB h)
def ajj:S:= .asg 5 (.bi .tuple (.bi .sorted (dN .oJ [L 4])))<| .m0 3 (L 5) (.bi .tuple (.comp (cB [L 6,Call 2 [L 7]]) (.two 6 7) (L 5) cY)) .bI
theorem ah9(h:fh r):fg .sorted (.list (r.map cW))=some (.list ((dS r).map cW)):=by
 show(if gX (r.map cW)=true then some (jW (gf (r.map cW))) else none)=_
 exact Y (if_pos (abF h))<|Y (adn h) rfl
theorem RE(h:fh r):jK .oJ [cy r]=some (.list (r.map cW)):=by
 show(if (iZ (r.map fz) && decide ((r.map fz).length<=1000))=true then some (jW ((r.map fz).map oO)) else none)=_
 rw[h.ok,decide_eq_true (by refine Y (aw _) ?_;have:=h.len;exact aV this rfl),if_pos (show(true && true)=true from rfl),dW]
 rfl
theorem Ta{n:Nat}{s:Sg}{V0 V1 V2:aK}{hB:List Tb->Prop}:∀(rows acc:List Tb) (b4 b5:aK),(∀r∈rows,fh r/\pF (dS r)/\∀p∈dS r,sz p.2+1<=n)->acc.Nodup->(∀l:List Tb,l.Nodup->(∀x∈l,x∈j5 acc rows)->l.length< 64)->
 ∃C2 C3,gh (λx ρ σ=>(cg (.one 4) x ρ).bind λaE=>aR au (RR n) ajj aE σ) (rows.map cy) [V0,V1,V2, .cI (acc.map nZ),b4,b5, .un, .un, .un] s=
  some (.next [V0,V1,V2, .cI ((j5 acc rows).map nZ),C2,C3, .un, .un, .un] s)
 |[],acc,b4,b5,_,_,_=>(ie b4 b5 rfl)
 |r::rows,acc,b4,b5,h,nd,hl=>by
  refine iz (Ta (n:=n) (s:=s) (V0:=V0) (V1:=V1) (V2:=V2) (hB:=hB) rows (rW acc (dS r)) (.v (.d (cy r))) (.v (.d (de (dS r)))) (λq hq=>h q (.tail _ hq)) (QB nd) hl) λc4 c5 ih=>cj (h r (.head _)) λH O h3=>?_
  have fM:=hl acc nd λx hx=>Ik.mpr (.inl hx)
  have y5:=S9 r
  refine ie c4 c5 (l5 rfl (dy (ae:=s) (v:= .d (de (dS r))) (cM (ae:=s) (cM (ae:=s) (iw (ay (aj rfl) aI) rfl (RE H)) (ah9 H)) (fJ (by refine Y (aw _) ?_;exact aV y5 rfl))) (E7 (x:=mq (dS r)) (y:=de (dS r)) (ae:=s) (aF:=s) rfl (cM (ae:=s) (x:= .list ((dS r).map pd)) ?_ (fJ (Y (aw _)<|aV y5 rfl))) (aj rfl) (RD O) (Y (aw _)<|mu fM rfl) ?_)) ih)
  .exact ge (l:=dS r) (m:=cW) (g:=pd) (kN (aj rfl) (Y (aw _)<|aV y5 rfl)) (λp hp=>(ai _ rfl (dQ (ay (aj rfl) (ay (dJ (ay (aj rfl) aI) (Rh (O.bd p hp) n s (h3 p hp))) aI)) rfl))) (aV y5 rfl)
  .refine Y (ajh _ _) ?_;rfl
theorem anJ(h:ev au R it ρ σ=some ([.dk kvs],ae))(hl:kvs.length<=100000):fL (ev au R it ρ σ)=some (kvs.map (·.1),ae):=by
 refine Y h ?_
 show(if (kvs.map (·.1)).length<=lim then some (kvs.map (·.1),ae) else none)=_
 rw[if_pos (by refine Y (aw _) ?_;unfold lim;exact aV hl rfl)]
theorem RF(di:R.length< 64)(h:∀r∈R,pF r):fg .sorted (.list (R.map gZ))=some (.list ((mi R).map gZ)):=by
 show(if gX (R.map gZ)=true then some (jW (gf (R.map gZ))) else none)=_
 exact Y (if_pos (acd di h))<|Y (zI _ _) rfl
theorem ace(ho:ir aa){p t0 t:Tm}(bp:Bd p)(hp:fP p)(b0:Bd t0)(e0:normal aa t0=t)(hs:sz t<=5)(hB:∀R:List Tb,R.Nodup->(∀ρ∈R,mZ aa p t ρ)->R.length< 64)(n:Nat)(hn:4*sz p+ 40<=n)(wm:sz t0+6<=n)(s:Sg):
 ∃R:List Tb,R.Nodup/\(∀ρ,ρ∈R↔mZ aa p t ρ)/\RR (n+1) 15 [.me (bH aa), .d (af p), .d (af t0)] s=some (.d (.list ((mi R).map de)),s):=by
 have ht:Nf aa t:=e0▸sW aa t0
 have bt:Bd t:=e0▸b0.normal aa
 have g0:TG aa []:=⟨fh.nil,λo v h=>(nomatch h),λo v h=>(nomatch h)⟩
 refine ar (ah4 ho p bp hp n hn [] t s g0 ht bt hs) λrows hr E=>?_
 have as7:=aey ho ht bt.g E
 have hm:∀ρ,ρ∈j5 [] rows↔mZ aa p t ρ:=λρ=>by
  refine si Ik<|si (as7 _) ?_;simp
 have nd:(j5 [] rows).Nodup:=PR .nil
 have di:(j5 [] rows).length< 64:=hB _ nd λρ h=>(hm ρ).mp h
 have bX:∀ρ∈j5 [] rows,pF ρ:=λρ h=>((hm ρ).mp h).C1 ho ht bt.g hs
 refine iz (Ta (n:=n) (s:=s) (V0:= .v (.me (bH aa))) (V1:= .v (.d (af p))) (V2:= .v (.d (af t0))) (hB:=λzz=>True) rows [] .un .un (λr lP=>by
  have hv:=(as7 (dS r)).mpr (ai r lP rfl)
  have hk:=hv.C1 ho ht bt.g hs
  refine bO ((E.grow r lP).tg.tok) hk (λq hq=>?_)
  have e:lk (dS r) q.1=some q.2:=tK (zN r) hq
  have:=(vc ho ht bt.g (hv.val _ _ e)).2.2
  exact bM [(B,v1),(J (.mulL 4 v2) (.num 40),v3),(v1,(.num 5))] (J B k1,v3) rfl this hn hs) .nil λl H O=>hB l H λρ h=>(hm ρ).mp (O ρ h)) λb4 b5 cH=>?_
 have y5:rows.length<=1024:=aB E.len (uq ((eN _ _).elim (λpC=>aM [(B,(.num 5)),(J v1 k1,B)] (v1,(.num 4)) rfl hs (aU pC)) λpC=>(aV (wj pC) rfl)))
 have fZ:=(qV gZ (j5 [] rows)).length_eq
 refine bQ (j5 [] rows) nd hm (eQ rfl rfl (Vi rfl (mh (ae:=s) (cX (fB (ae:=s) (aF:=s) (aj rfl) (ay (iw (xs:=[]) aI rfl rfl) (ay (aj rfl) (ay (fB (ae:=s) (aF:=s) (aj rfl) (ay (aj rfl) aI) (DP ho t0 b0 n s wm)) aI))) (by refine Y e0 ?_;exact hr)) (Y (aw _)<|aV y5 rfl)) cH (Vj rfl (dR ?_)))))
 refine ge (l:=mi (j5 [] rows)) (m:=gZ) (g:=de) (cX (cM (ae:=s) ?_ (RF di bX)) (by refine Y (aw _) ?_;exact tM (aA fZ) di)) (λr zz=>(ai _ rfl (aj rfl))) (tM (aA fZ) di)
 refine ge (l:=j5 [] rows) (m:=de) (g:=gZ) ?_ (λr lP=>(ai _ rfl (dQ (ay (Am (ae:=s) (aF:=s) (aj rfl) (aj rfl) ?_) (ay (aj rfl) aI)) rfl))) (mu di rfl)
 .have:=anJ (R:=RR n) (it:=L 3) (σ:=s) (ρ:=[.v (.me (bH aa)), .v (.d (af p)), .v (.d (af t0)), .v (.dk ((j5 [] rows).map nZ)),b4,b5, .un, .un, .un]) (aj rfl) (Y (aw _)<|mu di rfl)
  rw[dW] at this
  exact this
 .exact iT (RD (bX r lP)) (ah6 lP)
end
noncomputable def gN:Nat->List Tm->List Tm
 |_,[]=>[]
 |m,x::l=>if m % 2=1 then x::gN (m / 2) l else gN (m / 2) l
theorem uM{x dT l}:gN x (dT::l)=if x % 2=1 then dT::gN (x / 2) l else gN (x / 2) l:=rfl
noncomputable def en:Nat->List Tm->List (Nat×Tm)
 |_,[]=>[]
 |k,x::l=>(k,x)::en (k+1) l
theorem EM{x dT l}:en x (dT::l)=(x,dT)::en (x+1) l:=rfl
theorem Uz(m:Nat):∀(l:List Tm) (k:Nat),((en k l).filter λp=>decide (m / 2^p.1 % 2=1)).map (·.2)=gN (m / 2^k) l
 |[],_=>rfl
 |x::l,k=>by
  have ih:=Uz m l (k+1)
  rw[zv,<- Nat.div_div_eq_div_mul] at ih
  rw[EM,OS,uM]
  by_cases h:m / 2^k % 2=1
  .rw[if_pos (by simpa using h),if_pos h,bE,ih]
  .rw[if_neg (by simpa using h),if_neg h,ih]
theorem Vw:∀(l:List Tm) (k:Nat),oP k (l.map af)=(en k l).map λp=> .tuple [.int (p.1:Int),af p.2]
 |[],_=>rfl
 |x::l,k=>by rw[bE,zB,EM,bE,Vw l (k+1)]
theorem WI:∀{l:List Tm} {k:Nat},∀p∈en k l,p.1<k+l.length/\p.2∈l
 |[],_,p,h=>nomatch h
 |x::l,k,p,h=>by
  rw[EM] at h
  refine Y bL ?_
  rcases bK.mp h with rfl|h
  .exact⟨by show k<_;(exact aM [] (J B k1,J B (J v1 k1)) rfl), .head _⟩
  .exact xa (WI p h) λH O=>⟨by (exact aO [(J B k1,J (J v1 k1) v2)] (J B k1,J v1 (J v2 k1)) rfl H), .tail _ O⟩
theorem Vx:∀(l:List Tm) (k:Nat),(en k l).length=l.length
 |[],_=>rfl
 |x::l,k=>by rw[EM,bL,bL,Vx l]
theorem Il:∀(l:List Tm) (m:Nat),∃L,(gN m l++L).Perm l
 |[],m=>⟨[], .refl _⟩
 |x::l,m=>by
  refine xe (Il l (m / 2)) λL h=>?_
  rw[uM]
  split
  .exact⟨L,h.cons x⟩
  .exact⟨x::L,G6.trans (h.cons x)⟩
theorem RG:∀l:List Tm,gN 0 l=[]
 |[]=>rfl
 |x::l=>by rw[uM,if_neg (by decide)];exact RG l
theorem Ju:∀{l:List Tm} {m:Nat},m≠0->m<2^l.length->gN m l≠[]
 |[],m,h,O=>absurd (by simpa using O) h
 |x::l,m,h,O=>by
  rw[uM]
  split
  .simp
  .rw[bL,zv] at O
   exact Ju (λz=>h (by rcases m with _|_|m;rfl;exact absurd rfl (by assumption);exact absurd (z.symm.trans (Nat.add_div_right m DL)) (aaC _).symm)) (ZU (zp 2 _▸O))
theorem IU:∀{ks l L:List Tm},(l++L).Perm ks->∃m,m<2^ks.length/\(gN m ks).Perm l
 |[],l,L,h=>(ai 0 (a8 _) (by
  have:=h.length_eq
  rw[cS,dO] at this
  rw[Da.mp (show l.length=0 by (exact bR (aM [(J B v1,k0)] (B,k0) rfl (aA this)) lJ))]
  exact .refl _))
 |x::ks,l,L,h=>by
  have hx:=h.mem_iff.mpr (.head _)
  refine Y bL<|Y (zv _ _)<|a9 (ln.mp hx) (λhx=>?_) (λhx=>?_)
  .have p:=uG hx
   refine ar (IU (Dn (((p.append_right L).symm).trans h))) λm H O=>ai (2*m+1) (aM [(J B k1,v1),(J B k1,v1)] (J (J (.mulL 2 B) k1) k1,.mulR v1 2) rfl H H) ?_
   rw[uM,if_pos (od1 m),od2 m]
   exact(O.cons x).trans p.symm
  .have p:=uG hx
   refine ar (IU (Dn ((G6.symm.trans ((p.append_left l).symm)).trans h))) λm H O=>ai (2*m) (aM [(J B k1,v1),(J B k1,v1)] (J (.mulL 2 B) k1,.mulR v1 2) rfl H H) ?_
   rw[uM,if_neg (od3 m),od4 m]
   exact O
theorem Tc:∀(l:List Tm) (m:Nat),(gN m l).length<=l.length
 |[],_=>a8 _
 |x::l,m=>by
  rw[uM]
  have:=Tc l (m / 2)
  split
  .exact Y bL<|Y bL<|vU this
  .exact Y bL<|FQ this
noncomputable def rI(n:Nat):List Nat:=P0 1 (2^n - 1)
def kd(aa:List Str)(p:Tm):List Tm:=if bA aa p=true then(rI p.ks.length).map λm=>made aa p.op (gN m p.ks) else[]
def j2(aa:List Str)(t:Tm):List Tm:=(pre t).flatMap λp=>p::kd aa p
theorem IV:m∈rI n↔m≠0/\m<2^n:=by
 unfold rI
 refine si List.mem_range'_1 ?_
 have:0<2^n:=sS (by decide)
 refine Y (aao this) ⟨λh=>⟨lX h.1,h.2⟩,λh=>⟨Ov h.1,h.2⟩⟩
theorem D9(ht:Nf aa t)(v:Tm):v∈j2 aa t↔jq aa t v:=by
 unfold j2
 refine si jr ?_
 constructor
 .intro WJ;refine ar WJ λp hp h=>ai p hp<|a9 (bK.mp h) (λh=>?_) (λh=>?_)
  .exact .inl h
  .unfold kd at h
   clear WJ;split at h
   .rename_i V
    refine cr h λm hm A3=>?_;subst A3
    exact xa (IV.mp hm) λH O=>xe (Il p.ks m) λL hL=> .inr (uW V _ L (Ju H O) hL rfl)
   .cases h
 .intro XE;refine ar XE λp hp BO=>?_;clear XE;rcases BO with h|⟨V,l,L,bB,hl,rfl⟩
  .exact ai p hp (Y h<| .head _)
  .refine ai p hp (.tail _ ?_)
   refine ar (IU hl) λm H O=>?_
   unfold kd
   refine Y (if_pos V) ?_
   have fp:=Aq (xL t ht p hp) V
   refine fQ.mpr (ai m (IV.mpr ⟨λe=>?_,H⟩) ((Ig ((fp.perm hl.symm).left) O.symm).symm))
   rw[e,RG] at O
   exact bB (Pc.mp O)
theorem aia(ha:1<=a)(V:1<=b):2^a+2^b<=2^(a+b):=by
 have H:2^1<=2^a:=kr (by decide) ha
 have O:2^1<=2^b:=kr (by decide) V
 refine Y (PZ _ _ _) ?_
 have h3:=Hd H (a8 (2^b))
 have h4:=Hd (a8 (2^a)) O
 generalize 2^a*2^b=z at*
 exact Nat.le_of_mul_le_mul_left (aO [(.mulL 2 v1,v2),(.mulR B 2,v2)] (.mulL 2 (J B v1),.mulL 2 v2) rfl h3 h4) DL
theorem RH(aa:List Str)(t:Tm):(j2 aa t).length<=2^sz t:=by
 induction t using cU with
 |_ o l ih=>
  have hl:((jk l).flatMap λp=>p::kd aa p).length<=2^bG l/\(l≠[]->1<=bG l)/\(l=[]->((jk l).flatMap λp=>p::kd aa p).length=0):=by
   induction l with
   |nil=>exact bO (dn _) (λh=>absurd rfl h) (λzz=>rfl)
   |cons x l jR=>
    refine cj (jR λk hk=>ih k (.tail _ hk)) λH O h3=>?_
    have hx:=ih x (.head _)
    have h4:=l9 x
    refine bO ?_ (λzz=>by rw[cT];exact FN h4) (λe=>by exact WQ e)
    rw[mN,Z9,cS,cT]
    by_cases e:l=[]
    .refine Y (h3 e) ?_
     clear jR H O h3;subst e
     exact aB hx (kr (by decide) (kx _ _))
    .exact aB (wZ hx H) (aia h4 (O e))
  unfold j2
  rw[fH,eK,cS,bL,dA,zv]
  have H:(kd aa (.node o l)).length+1<=2^bG l:=by
   have O:2^l.length<=2^bG l:=kr (by decide) (qg l)
   have h3:0<2^l.length:=sS (by decide)
   unfold kd
   split
   .refine Y (aw _) ?_;unfold rI;exact Y aak<|aO [(B,v1),(J v2 k1,B)] (J v2 k1,v1) rfl O (aU (Mm h3))
   .exact Y dO<|FM h3 O
  have:=hl.1
  exact aO [(B,v1),(J v2 k1,v1)] (J (J v2 k1) B,.mulR v1 2) rfl this H
theorem PS(h:gL aa o l)(hc:aa.contains o=true)(O:2<=l.length):normal aa (.node o l)=made aa o l:=by
 have V:bA aa (.node o l)=true:=(gv aa).mpr ⟨hc,O⟩
 refine Y (lY aa V)<|Y (oC aa V) ?_
 show Tm.node o (cK ((l.flatMap (sel aa o)).map (normal aa)))=_
 refine Y (El h.nb) ?_
 have e:l.map (normal aa)=l:=by
  conv=>rhs;rw[<- HC l]
  exact mG λx hx=>h.nf x hx
 refine Y e ?_
 clear V e;rcases qW h (by intro e;rw[e] at O;simp at O) with⟨x,rfl,_⟩|⟨_,e⟩
 .simp at O
 .exact e.symm
theorem ajk:mf (.list (x::xs)) 0=some x:=by
 show(jI (xs.length+1) 0).bind _=_
 unfold jI
 simp
theorem ajl{m k:Nat}(hm:m<=1000)(hk:k<= 30):j7 .shr (.int (m:Int)) (.int (k:Int))=some (.int ((m / 2^k:Nat):Int)):=by
 refine(An).trans ?_
 unfold WV
 rw[decide_eq_true (i0 m),decide_eq_true (show(m:Int)<2^ 32 from GW (n3 (b:=1000) (by assumption)) (by decide)),decide_eq_true (i0 k),decide_eq_true (show(k:Int)<= 30 from n3 (b:= 30) (aB (by assumption) (by decide))),if_pos (show(true && true && true && true)=true from rfl),sH]
 have:(m:Int) / 2^k=((m / 2^k:Nat):Int):=by refine Y (Int.natCast_ediv _ _)<|Y (aaY _ _) ?_;rfl
 exact Y this<|qh (aB (aaZ _ _) (aV hm rfl))
theorem aib{m:Nat}(hm:m<=1000):j7 .band (.int (m:Int)) (.int 1)=some (.int ((m % 2:Nat):Int)):=by
 refine(An).trans ?_
 unfold VH
 rw[decide_eq_true (i0 m),decide_eq_true (show(m:Int)<2^ 32 from GW (n3 (b:=1000) (by assumption)) (by decide)),decide_eq_true (rfl:(1:Int)=1),if_pos (show(true && true && true)=true from rfl)]
 have:(m:Int) % 2=((m % 2:Nat):Int):=by refine Y (G3 _ _) ?_;rfl
 exact Y this<|qh (aB (Nat.mod_le _ _) (aB (by assumption) (by decide)))
theorem ajm{k:Nat}(hk:k<= 10):j7 .pow (.int 2) (.int (k:Int))=some (.int ((2^k:Nat):Int)):=by
 refine(An).trans ?_
 unfold WU
 rw[decide_eq_true (rfl:(2:Int)=2),decide_eq_true (i0 k),decide_eq_true (show(k:Int)<= 30 from n3 (b:= 30) (aB (by assumption) (by decide))),if_pos (show(true && true && true)=true from rfl),sH]
 have:(2:Int)^k=((2^k:Nat):Int):=by refine Y (aaY _ _) ?_;rfl
 exact Y this<|qh (aB (kr (by decide) hk) (by decide))
theorem aez{k:Nat}(H:1<=k)(h:k<=1000):jK .oK [.int 1, .int (k:Int)]=some (.list ((P0 1 (k - 1)).map λ(m:Nat)=>kG (m:Int))):=by
 show(intD (.int 1)).bind (λa=>(intD (.int (k:Int))).bind λb=>if (df a && df b && decide (b - a<=1000))=true then some (jW (intsFrom a (b - a).toNat)) else none)=_
 rw[show intD (.int 1)=some 1 from rfl,iC,show intD (.int (k:Int))=some (k:Int) from rfl,iC,ai5,oy (aV h rfl),decide_eq_true (show(k:Int) - 1<=1000 from sK (aaO _ (by decide)) (n3 (b:=1000) h)),if_pos (show(true && true && true)=true from rfl)]
 have:((k:Int) - 1).toNat=k - 1:=by rw[tL (by assumption)];rfl
 rw[this,<- HP (k - 1) 1]
 rfl
def pe(acc:List Tm)(t:Tm):List Tm:=if acc.any (λy=>eqT y t)=true then acc else acc++[t]
theorem Td:(pe acc t).length<=acc.length+1:=by
 unfold pe
 split
 .exact sR _
 .exact Y cS<|a8 _
theorem EN(acc:List Tm)(t:Tm)(l:List Tm):dd acc (t::l)=dd (pe acc t) l:=by
 rw[Ap];unfold pe;split<;>rfl
theorem RI:∀(a acc b:List Tm),dd acc (a++b)=dd (dd acc a) b
 |[],acc,b=>rfl
 |t::a,acc,b=>by exact Y wU<|Y (EN _ _ _)<|Y (EN _ _ _)<|Y ((RI a) _ _) rfl
def Ma:S:= .asg 5 (.comp (L 6) (.two 7 6) (.enum (.dE .eO (L 3))) (.cmp .eq (.bin .band (.bin .shr (L 4) (L 7)) (I 1)) (I 1)))<| .m0 2 (.ite (.cmp .eq (.bi .len (L 5)) (I 1)) (.item (L 5) (I 0)) (Call 19 [.bin .add (cB [.item (L 3) (I 0)]) (.bi .tuple (L 5)),L 1])) cY .bI
def Mb:S:= .m0 2 (L 3) cY<| .ca (.oZ (.cmp .isIn (.item (L 3) (I 0)) (L 1)) (.cmp .gt (.bi .len (L 3)) (I 2))) (.ed (.one 4) (dN .oK [I 1, .bin .pow (I 2) (.bin .sub (.bi .len (L 3)) (I 1))]) Ma .bI) .bI .bI
section
variable{aa:List Str}(ho:ir aa)
include ho
theorem aeA(bp:Bd p)(np:Nf aa p)(V:bA aa p=true)(hs:sz p<=5)(hn: 10<=n)(hm:m∈rI p.ks.length)(acc:List Tm)(ha:acc.length<=900):
 aR au (RR n) Ma [V0, .v (.d (bH aa)), .cI (acc.map fX), .v (.d (af p)), .v (.d (.int (m:Int))),b5, .un, .un] s=some (.next [V0, .v (.d (bH aa)), .cI ((pe acc (made aa p.op (gN m p.ks))).map fX), .v (.d (af p)), .v (.d (.int (m:Int))), .v (.d (.list ((gN m p.ks).map af))), .un, .un] s):=by
 have lH:sz p=bG p.ks+1:=by clear bp np V hs hm;cases p with|node o l=>rw[dA];rfl
 have pG:=qg p.ks
 refine xa (IV.mp hm) λhm0 jN=>?_
 have sy:m<=1000:=aB (fA jN) (aB (kr (by decide) (show p.ks.length<=4 by (exact aO [(B,v1),(J v1 k1,v2),(v2,(.num 5))] (B,(.num 4)) rfl pG (aA lH.symm) hs))) (by decide))
 have ct:=Tc p.ks m
 refine xe (Il p.ks m) λL hL=>?_
 have fp:=((Aq np V).perm hL.symm).left
 have bB:=Ju hm0 jN
 have hc:=((gv aa).mp V).1
 have pf:∀x∈gN m p.ks,x∈p.ks:=λx hx=>hL.mem_iff.mp (pH _ hx)
 have bW:=q7 hL
 rw[lq] at bW
 have gm:=Ij bp.g.op fp bB λx hx=>Eg bp.g (pf x hx)
 have sm:=EK fp bB
 have bm:Bd (made aa p.op (gN m p.ks)):=pZ gm (eH [(B,J v1 k1),(J v1 v2,v3),(J v3 k1,v4),(v4,(.num 5))] (B,(.num 50)) rfl sm (aA bW) (aA lH.symm) hs)
 have dm:=rG (made aa p.op (gN m p.ks))
 refine dy (ae:=s) (v:= .d (.list ((gN m p.ks).map af))) ?_ (E7 (x:= .bool true) (y:=af (made aa p.op (gN m p.ks))) (ae:=s) (aF:=s) rfl bc (nR (ae:=s) (dD (ae:=s) (aF:=s) (cM (aj rfl) (rh (by refine Y (aw _) ?_;exact bM [(B,v1),(v1,v2),(J v2 k1,v3),(v3,(.num 5))] (B,(.num 100000)) rfl ct pG (aA lH.symm) hs))) bc (eq_int _ _)) (λq=>?_) λq=>?_) (D7 bm (pg [(B,v1),(v1,J v2 k1),(J v2 v3,v4),(J v4 k1,v5),(v5,(.num 5))] (B,(.num 8)) rfl dm sm (aA bW) (aA lH.symm) hs)) (Y (aw _)<|aV ha rfl) ?_)
 .have e:=Uz m p.ks 0
  rw[Nat.pow_zero,Nat.div_one] at e
  refine sl e<|Y dW<|ta (l:=en 0 p.ks) (m:=λq=> .tuple [.int (q.1:Int),af q.2]) (g:=λq=>af q.2) (p:=λq=>decide (m / 2^q.1 % 2=1)) ?_ (λq hq=>(bQ _ rfl (fC (dD (ae:=s) (aF:=s) (eP (ae:=s) (aF:=s) (eP (ae:=s) (aF:=s) (aj rfl) (aj rfl) (ajl sy ?_)) bc (aib (aB (aaZ _ _) sy))) bc (eq_int _ _)) ?_) (λzz=>aj rfl))) (by refine Y (Vx _ _) ?_;exact aO [(B,v1),(J v1 k1,v2),(v2,(.num 5))] (B,(.num 100000)) rfl pG (aA lH.symm) hs)
  .exact sl (Vw _ _)<|cX (Ve (kR (aj rfl) (eO bp))) (Y (zm _ _)<|Y (aw _)<|aO [(B,v1),(J v1 k1,v2),(v2,(.num 5))] (B,(.num 100000)) rfl pG (aA lH.symm) hs)
  .have:=(WI q hq).1;exact bM [(J B k1,J k0 v1),(v1,v2),(J v2 k1,v3),(v3,(.num 5))] (B,(.num 30)) rfl this pG (aA lH.symm) hs
  .congr 1
   refine si decide_eq_decide ⟨λh=>inj (b:=1) h,λh=>congrArg _ h⟩
 .have q:=of_decide_eq_true q
  rw[aw] at q
  rcases qW fp bB with⟨x,e,e2⟩|⟨O,_⟩
  .exact Y e2<|Y e<|eX (ae:=s) (aF:=s) (aj rfl) bc gB (ajk (xs:=[]))
  .exact absurd (inj (b:=1) q) (lX (by assumption))
 .have q:=of_decide_eq_false q
  rw[aw] at q
  rcases qW fp bB with⟨x,e,e2⟩|⟨O,_⟩
  .rw[e] at q;exact absurd rfl q
  .refine sl (PS fp hc O) ?_
   have bq:Bd (.node p.op (gN m p.ks)):=pZ (DQ bp.g.op λx hx=>Eg bp.g (pf x hx)) (by rw[dA];exact bM [(J B v1,v2),(J v2 k1,v3),(v3,(.num 5))] (J B k1,(.num 50)) rfl (aA bW) (aA lH.symm) hs)
   exact dJ (ae:=s) (ay (ae:=s) (eP (ae:=s) (aF:=s) (dQ (ay (eX (ae:=s) (aF:=s) (aj rfl) bc gB (ib p)) aI) rfl) (cM (aj rfl) (fJ (Y (aw _)<|bM [(B,v1),(v1,v2),(J v2 k1,v3),(v3,(.num 5))] (B,(.num 100000)) rfl ct pG (aA lH.symm) hs))) (EG (bM [(B,v1),(v1,v2),(J v2 k1,v3),(v3,(.num 5))] (B,(.num 1000)) rfl ct pG (aA lH.symm) hs))) (ay (aj rfl) aI)) (IQ ho _ bq n s (by rw[dA];exact eH [(J B v1,v2),(J v2 k1,v3),((.num 10),v4),(v3,(.num 5))] (J (J B k1) k1,v4) rfl (aA bW) (aA lH.symm) hn hs))
 .refine Y (Fd _ _) ?_;rfl
theorem UA(bp:Bd p)(np:Nf aa p)(V:bA aa p=true)(hs:sz p<=5)(hn: 10<=n):∀(ms:List Nat) (acc:List Tm) (b4 b5:aK),(∀m∈ms,m∈rI p.ks.length)->acc.length+ms.length<=900->
 ∃C2 C3,gh (λx ρ σ=>(cg (.one 4) x ρ).bind λaE=>aR au (RR n) Ma aE σ) (ms.map λ(m:Nat)=> .int (m:Int)) [V0, .v (.d (bH aa)), .cI (acc.map fX), .v (.d (af p)),b4,b5, .un, .un] s=
  some (.next [V0, .v (.d (bH aa)), .cI ((dd acc (ms.map λm=>made aa p.op (gN m p.ks))).map fX), .v (.d (af p)),C2,C3, .un, .un] s)
 |[],acc,b4,b5,_,_=>(ie b4 b5 rfl)
 |m::ms,acc,b4,b5,h,hl=>by
  rw[bL] at hl
  have:=Td (acc:=acc) (t:=made aa p.op (gN m p.ks))
  exact iz (UA bp np V hs hn (s:=s) (V0:=V0) ms (pe acc (made aa p.op (gN m p.ks))) (.v (.d (.int (m:Int)))) (.v (.d (.list ((gN m p.ks).map af)))) (λx hx=>h x (.tail _ hx)) (aO [(B,J v1 k1),(J v1 (J v2 k1),(.num 900))] (J B v2,(.num 900)) rfl this hl)) λc4 c5 ih=>ie c4 c5<|Y bE<|Y bE<|Y (EN _ _ _)<|l5 rfl (aeA ho bp np V hs hn (h m (.head _)) acc (aM [(J B (J v1 k1),(.num 900))] (B,(.num 900)) rfl hl)) ih
theorem UB(hn: 10<=n):∀(ps acc:List Tm) (b3 b4 b5:aK),(∀p∈ps,Bd p/\Nf aa p/\sz p<=5)->acc.length+(ps.flatMap λp=>p::kd aa p).length<=900->
 ∃km C2 C3,gh (λx ρ σ=>(cg (.one 3) x ρ).bind λaE=>aR au (RR n) Mb aE σ) (ps.map af) [V0, .v (.d (bH aa)), .cI (acc.map fX),b3,b4,b5, .un, .un] s=
  some (.next [V0, .v (.d (bH aa)), .cI ((dd acc (ps.flatMap λp=>p::kd aa p)).map fX),km,C2,C3, .un, .un] s)
 |[],acc,b3,b4,b5,_,_=>(Mf b3 b4 b5 rfl)
 |p::ps,acc,b3,b4,b5,h,hl=>by
  refine cj (h p (.head _)) λbp np hs=>?_
  rw[eK,cS,bL] at hl
  have YX:=Td (acc:=acc) (t:=p)
  have i7:=tD (l:=kd aa p) (acc:=pe acc p)
  have lH:sz p=bG p.ks+1:=by cases p with|node o l=>rw[dA];rfl
  have pG:=qg p.ks
  have uh:=rG p
  have FD:ev au (RR n) (.oZ (.cmp .isIn (.item (L 3) (I 0)) (L 1)) (.cmp .gt (.bi .len (L 3)) (I 2))) [V0, .v (.d (bH aa)), .cI ((pe acc p).map fX), .v (.d (af p)),b4,b5, .un, .un] s=some ([.d (.bool (bA aa p))],s):=by
   refine fC (FB (ae:=s) (dD (ae:=s) (aF:=s) (eX (ae:=s) (aF:=s) (aj rfl) bc gB (ib p)) (aj rfl) (JQ ho bp.g.op)) λzz=>dD (ae:=s) (aF:=s) (cM (aj rfl) (rk bp)) bc (qv _ _)) ?_
   congr 2
   refine si decide_eq_decide XZ.symm
  refine iz (show ∃c4 c5,aR au (RR n) Mb [V0, .v (.d (bH aa)), .cI (acc.map fX), .v (.d (af p)),b4,b5, .un, .un] s=some (.next [V0, .v (.d (bH aa)), .cI ((dd (pe acc p) (kd aa p)).map fX), .v (.d (af p)),c4,c5, .un, .un] s) from by
   by_cases V:bA aa p=true
   .rw[V] at FD
    have e:kd aa p=(rI p.ks.length).map λm=>made aa p.op (gN m p.ks):=by unfold kd;exact Y (if_pos V) rfl
    have hml:(kd aa p).length=(rI p.ks.length).length:=by exact Y e<|Y (aw _) rfl
    refine iz (UA ho bp np V hs hn (s:=s) (V0:=V0) (rI p.ks.length) (pe acc p) b4 b5 (λzz h=>h) (eH [(B,v1),(v2,J v3 k1),(J v3 (J (J v1 k1) v4),(.num 900))] (J v2 B,(.num 900)) rfl (aA hml.symm) YX hl)) λc4 c5 cH=>?_
    rw[<- e] at cH
    have yO:1<=2^p.ks.length:=sS (by decide)
    have og:2^p.ks.length<=1000:=aB (kr (by decide) (show p.ks.length<=4 by (exact aO [(B,v1),(J v1 k1,v2),(v2,(.num 5))] (B,(.num 4)) rfl pG (aA lH.symm) hs))) (by decide)
    refine ie c4 c5 (E7 (x:= .bool true) (y:=af p) (ae:=s) (aF:=s) rfl bc (aj rfl) (D7 bp (cN uh hs rfl)) (by refine Y (aw _) ?_;exact aO [(J B (J (J v1 k1) v2),(.num 900))] (B,(.num 1000)) rfl hl) ?_)
    exact Y (Fd _ _)<|AF (ae:=s) FD (mh (ae:=s) (cX (iw (ay bc (ay (eP (ae:=s) (aF:=s) bc (eP (ae:=s) (aF:=s) (cM (aj rfl) (rk bp)) bc (EC (aO [(B,v1),(J v1 k1,v2),(v2,(.num 5))] (B,(.num 1000)) rfl pG (aA lH.symm) hs))) (ajm (aO [(B,v1),(J v1 k1,v2),(v2,(.num 5))] (B,(.num 10)) rfl pG (aA lH.symm) hs))) aI)) rfl (aez yO og)) (Y (aw _)<|Y aak<|cN (qY _ _) og rfl)) cH rfl) rfl
   .have fF:bA aa p=false:=by simpa using V
    rw[fF] at FD
    have e:kd aa p=[]:=by unfold kd;exact Y (if_neg V) rfl
    refine ie b4 b5 (E7 (x:= .bool true) (y:=af p) (ae:=s) (aF:=s) rfl bc (aj rfl) (D7 bp (cN uh hs rfl)) (by refine Y (aw _) ?_;exact aO [(J B (J (J v1 k1) v2),(.num 900))] (B,(.num 1000)) rfl hl) ?_)
    exact Y (Fd _ _)<|Y e<|io (ae:=s) FD rfl) λc4 c5 anK=>?_
  exact Me (UB hn (s:=s) (V0:=V0) ps (dd (pe acc p) (kd aa p)) (.v (.d (af p))) c4 c5 (λq hq=>h q (.tail _ hq)) (eH [(B,J v1 v2),(v1,J v3 k1),(J v3 (J (J v2 k1) v4),(.num 900))] (J B v4,(.num 900)) rfl i7 YX hl)) λd3 d4 d5 ih=>Mf d3 d4 d5<|Y bE<|Y eK<|Y (RI _ _ _)<|Y (EN _ _ _)<|l5 rfl anK ih
theorem ads{l:List Tm}(di:l.length< 64)(V:∀x∈l,Bd x):gX (l.map af)=true:=by
 refine D5 di (λx hx=>xE x (V x hx).g) (λx hx=>aB (uK x) (aB (V x hx).d (by decide))) (λx zz=>u9 x) ?_ λx zz y zz=>E8 x y
 unfold rj
 have:(l.map af).all (qx 3)=true:=by
  refine si hU ?_
  intro y hy
  refine cr hy λx zz apt=>?_;clear hy;subst apt
  cases x with|node o k=>rw[iD];rfl
 refine Y this ?_;simp
theorem aeB(bt:Bd t)(nt:Nf aa t)(hs:sz t<=5)(n:Nat)(hn: 10<=n)(s:Sg):∃St:List Tm,St.Nodup/\St.length<= 32/\(∀v,v∈St↔jq aa t v)/\RR (n+1) 22 [.d (af t), .d (bH aa)] s=some (.d (.list (St.map af)),s):=by
 have fZ:=RH aa t
 have C4:(j2 aa t).length<= 32:=aB fZ (aB (kr (by decide) hs) (by decide))
 have tX:∀p∈pre t,sz p<=5:=λp hp=>aB (vc ho nt bt.g (ai p hp (.inl rfl))).2.2 hs
 refine Me (UB ho (n:=n) (s:=s) (V0:= .v (.d (af t))) hn (pre t) [] .un .un .un (λp hp=>(bO (bt.pre p hp) (xL t nt p hp) (tX p hp))) (by refine Y dO ?_;show 0+(j2 aa t).length<=_;exact be [(B,(.num 32))] (J k0 B,(.num 900)) rfl C4)) λb3 b4 b5 cH=>?_
 have apu:gh (λx ρ σ=>(cg (.one 3) x ρ).bind λaE=>aR au (RR n) Mb aE σ) ((pre t).map af) [.v (.d (af t)), .v (.d (bH aa)), .cI [], .un, .un, .un, .un, .un] s=some (.next [.v (.d (af t)), .v (.d (bH aa)), .cI ((dd [] (j2 aa t)).map fX),b3,b4,b5, .un, .un] s):=cH
 have i7:=tD (l:=j2 aa t) (acc:=[])
 rw[dO] at i7
 have yY:∀v∈dd [] (j2 aa t),jq aa t v:=λv hv=>(D9 nt v).mp (by simpa using qw.mp hv)
 have hbd:∀v∈dd [] (j2 aa t),Bd v:=λv hv=>by
  exact cj (vc ho nt bt.g (yY v hv)) λzz g h=>pZ g (cN h hs rfl)
 have Cu:=qV af (dd [] (j2 aa t))
 have ct:=qj t
 have YY:((dd [] (j2 aa t)).map fX).map (·.1)=(dd [] (j2 aa t)).map af:=by refine Y dW ?_;rfl
 refine nL (qz af (dd [] (j2 aa t))) (Cu.nodup_iff.mpr (uN .nil)) (by refine Y Cu.length_eq ?_;exact aM [(B,J k0 v1),(v1,(.num 32))] (B,(.num 32)) rfl i7 C4) (λv=>by refine si Cu.mem_iff<|si qw<|si ((D9 nt) _) ?_;simp) (eQ rfl rfl (Vi rfl (mh (ae:=s) (cX (dJ (ay (aj rfl) aI) (HO t bt n s (aM [((.num 10),B),(v1,(.num 5))] (v1,B) rfl hn hs))) (Y (aw _)<|cN (aA ct) hs rfl)) apu (Vj rfl (dR ?_)))))
 refine bs (oV (aj rfl)) (bs (show M7 (.dk _)=some _ from rfl) ?_)
 have hso:gX (((dd [] (j2 aa t)).map fX).map (·.1))=true:=by exact Y YY<|ads ho (aM [(B,J k0 v1),(v1,(.num 32))] (J B k1,(.num 64)) rfl i7 C4) hbd
 exact Y (if_pos hso)<|Y YY<|Y (zI _ _) rfl
end
theorem RJ:∀{l:List Tm},(∀x∈l,cR (f x)=lv x)->cR (l.flatMap f)=cR l
 |[],_=>rfl
 |x::l,h=>by rw[eK,HN,eC,h x (.head _),RJ λy hy=>h y (.tail _ hy)]
theorem IW:∀{l:List Tm},(∀x∈l,lv (f x)=lv x)->cR (l.map f)=cR l
 |[],_=>rfl
 |x::l,h=>by rw[bE,eC,eC,h x (.head _),IW λy hy=>h y (.tail _ hy)]
theorem ajn(aa:List Str)(o:Str)(t:Tm):cR (sel aa o t)=lv t:=by
 induction t using cU with
 |_ o' l ih=>
  by_cases h:dq aa o (.node o' l)
  .rw[im aa h,eC,xt,Pw]
  .unfold dq at h
   rw[pI,pJ] at h
   refine xa h λH O=>?_
   have H:o'=o:=H
   subst H
   have:=lx aa O
   rw[kL aa (show dG aa o' l=true from O),RJ ih,jf (by intro e;rw[e] at this;simp[Tm.ks] at this)]
theorem Im(aa:List Str)(t:Tm):lv (normal aa t)=lv t:=by
 induction t using tB with
 |h t ih=>
  by_cases V:bA aa t=true
  .refine Y (lY aa V) ?_
   have p:=gW ((ff aa t).map (normal aa))
   have e:ff aa t=sel aa t.op t:=by unfold sel;exact Y (if_pos rfl) rfl
   have bB:cK ((ff aa t).map (normal aa))≠[]:=by
    intro e
    have:=p.length_eq
    rw[e,aw] at this
    have:=IM aa V
    simp at*;(rename_i aY;exact nz (be [((.num 2),B),(B,k0)] (k1,k0) rfl this (aA aY.symm)))
   exact Y (jf bB)<|Y (SP p)<|Y (IW λx hx=>ih x (qf aa V hx))<|Y e<|Y (ajn _ _ _) rfl
  .refine Y (jt aa V) ?_
   clear V;cases t with|node o l=>
   show lv (.node o (l.map (normal aa)))=_
   cases l with
   |nil=>rfl
   |cons x r=>rw[jf (by simp),jf (by simp)];exact IW λy hy=>ih y (j0 hy)
theorem aic(f:Str->Option Tm)(p:Tm):fP p->(∀o v,f o=some v->bJ o=true)->lv p<=lv (fill f p):=by
 induction p using cU with
 |_ o l ih=>
  intro hp hx
  rw[pV,pY]
  cases e:f o with
  |some v=>
   have e2:=hp (.node o l) (iW _) (hx o v e)
   clear ih;subst e2
   rw[xC];exact xX v
  |none=>
   show lv _<=lv (.node o (l.map (fill f)))
   cases l with
   |nil=>exact a8 _
   |cons x r=>
    rw[jf (by simp),jf (by simp)]
    have:∀l:List Tm,(∀k∈l,lv k<=lv (fill f k))->cR l<=cR (l.map (fill f)):=by
     intro l
     induction l with
     |nil=>intro _;exact a8 _
     |cons y l jR=>
      intro h
      rw[bE,eC,eC]
      have:=h y (.head _)
      have:=jR λk hk=>h k (.tail _ hk)
      (rename_i aY;exact vV this aY)
    exact this _ λk hk=>ih k hk (hp.ez hk) hx
theorem adt(t:Tm):((pre t).filter λu=>decide (((u.ks.length+1:Nat):Int)=1)).length=lv t:=by
 induction t using cU with
 |_ o l ih=>
  rw[fH,OS]
  have:((jk l).filter λu=>decide (((u.ks.length+1:Nat):Int)=1)).length=cR l:=by
   induction l with
   |nil=>rfl
   |cons x l jR=>rw[mN,List.filter_append,cS,eC,ih x (.head _),jR λk hk=>ih k (.tail _ hk)]
  cases l with
  |nil=>rfl
  |cons x r=>
   rw[if_neg (by simp only[decide_eq_true_eq];show ¬(((x::r).length+1:Nat):Int)=1;exact ine),this,jf (by simp)]
theorem PT(f:Str->Option Tm)(h:∀o v,f o=some v->sz v<=5/\dZ v)(p:Tm):dZ p->sz (fill f p)<=5*sz p/\lv (fill f p)<=5*lv p/\dp (fill f p)<=dp p+5/\dZ (fill f p):=by
 induction p using cU with
 |_ o l ih=>
  intro g
  rw[pV,pY]
  cases e:f o with
  |some v=>
   refine xa (h o v e) λH O=>?_
   have:=rG v
   have:=FC v
   have:=xX (.node o l)
   have:=l9 (.node o l)
   exact fb (aM [(k1,B),(k1,B),(k1,B),(k1,B),(k1,B),(v1,(.num 5))] (v1,.mulL 5 B) rfl this this this this this H) (by (rename_i pB aY;exact aO [(k1,B),(k1,B),(k1,B),(k1,B),(k1,B),(v1,v2),(v2,(.num 5))] (v1,.mulL 5 B) rfl aY aY aY aY aY pB H)) (by (rename_i iq3 pB aY;exact aO [(B,v1),(v1,(.num 5))] (B,J v2 (.num 5)) rfl iq3 H)) O
  |none=>
   show sz (.node o (l.map (fill f)))<=_/\lv (.node o (l.map (fill f)))<=_/\dp (.node o (l.map (fill f)))<=_/\dZ (.node o (l.map (fill f)))
   have hl:∀l:List Tm,(∀k∈l,sz (fill f k)<=5*sz k/\lv (fill f k)<=5*lv k/\dp (fill f k)<=dp k+5)->bG (l.map (fill f))<=5*bG l/\cR (l.map (fill f))<=5*cR l/\fe (l.map (fill f))<=fe l+5:=by
    intro l
    induction l with
    |nil=>intro _;exact bO (a8 _) (a8 _) (dn _)
    |cons y l jR=>
     intro h
     refine cj (h y (.head _)) λa1 a2 a3=>cj (jR λk hk=>h k (.tail _ hk)) λb1 b2 b3=>?_
     rw[bE,cT,cT,eC,eC,ik,ik]
     exact bO (bM [(B,.mulL 5 v1),(v2,.mulL 5 v3)] (J v2 B,.mulL 5 (J v3 v1)) rfl b1 a1) (bM [(B,.mulL 5 v1),(v2,.mulL 5 v3)] (J v2 B,.mulL 5 (J v3 v1)) rfl b2 a2) ((eN _ _).elim (λM2=>bM [(B,J v1 (.num 5)),(v2,B),(v1,v3)] (v2,J v3 (.num 5)) rfl a3 (fN M2) (mI _ _)) λM2=>bM [(B,J v1 (.num 5)),(v2,B),(v1,v3)] (v2,J v3 (.num 5)) rfl b3 (fY M2) (oo _ _))
   refine cj (hl l λk hk=>(bO ((ih k hk (g.ez hk)).1) ((ih k hk (g.ez hk)).2.1) ((ih k hk (g.ez hk)).2.2.1))) λc1 c2 c3=>fb (by rw[dA,dA];exact aM [(B,.mulL 5 v1)] (J B k1,.mulL 5 (J v1 k1)) rfl c1) ?_ (by rw[kK,kK];exact aM [(B,J v1 (.num 5))] (J B k1,J (J v1 k1) (.num 5)) rfl c3) (DQ g.op λk hk=>?_)
   .clear ih g c1 c3;cases l with
    |nil=>rw[uF,xC];decide
    |cons x r=>rw[jf (by simp),jf (by simp)];exact c2
   .refine cr hk λy hy rO=>?_;clear hk;subst rO
    exact(ih y hy (g.ez hy)).2.2.2
theorem WK:∀(ss acc:List Str),acc.Nodup->(ss.foldl fu acc).Nodup/\∀x,x∈ss.foldl fu acc↔x∈acc\/x∈ss
 |[],acc,h=>⟨h,λx=>by simp⟩
 |k::ss,acc,h=>by
  have hk:(fu acc k).Nodup/\∀x,x∈fu acc k↔x∈acc\/x=k:=by
   unfold fu
   split
   .rename_i q
    have q:k∈acc:=by simpa using q
    exact⟨h,λx=>⟨.inl,λz=>z.elim id λe=>e▸q⟩⟩
   .rename_i q
    have q:k ∉ acc:=by simpa using q
    refine⟨?_,λx=>by rw[ln,bY]⟩
    rw[Dq]
    exact bO h (by simp) (λa ha b V e=>by rw[bY] at V;rw[e,V] at ha;exact q ha)
  refine xa (WK ss (fu acc k) hk.1) λi1 i2=>⟨i1,λx=>?_⟩
  rw[OW,i2,hk.2,bK,or_assoc]
def namesOf(ss:List Str):List Str:=[sX,sY].filter λk=>ss.contains k
theorem adu(h:∀x∈ss,bJ x=true):gf ((ss.foldl fu []).map .str)=(namesOf ss).map .str:=by
 refine xa (WK ss [] .nil) λnd hm=>?_
 have NU:(namesOf ss).Nodup:=by
  refine Oz GU ?_
  have:=Gv
  rw[beq_eq_false_iff_ne] at this
  simpa using this
 have p:(ss.foldl fu []).Perm (namesOf ss):=by
  refine si (N4 nd NU) ?_
  intro x
  refine si (hm _) ?_
  unfold namesOf
  rw[kE,zc]
  constructor
  .rintro(z|z)
   .cases z
   .exact⟨by simpa using qk.mp (h x z),z⟩
  .exact λz=> .inr z.2
 have g:∀y∈(ss.foldl fu []).map eB,gd y=true:=λy hy=>by refine cr hy λx zz BE=>?_;clear hy;subst BE;rfl
 refine xf (λy hy=>g y ((mK _).mem_iff.mp hy)) ((mK _).trans (p.map _)) (sV g) ?_
 have hs:List.Sublist (([sX,sY].filter λk=>ss.contains k).map eB) ([sX,sY].map .str):=(GU).map _
 refine arW hs ?_
 show abo _ [eB sX, .str sY]
 refine si wL<|⟨λx hx=>?_,by simp⟩
 refine Y (bY.mp hx) ?_
 have H:cD (.str sX) (.str sY)= .lt:=by decide+kernel
 exact Y H<|λh=>by exact oj h
theorem UC:∀ss:List Str,u5 (ss.map .str)=some ss
 |[]=>rfl
 |x::ss=>by rw[bE,abO,UC ss];rfl
theorem adv(h:∀x∈ss,bJ x=true)(hl:ss.length< 60):jK .rc [.list (ss.map .str)]=some (.list ((namesOf ss).map .str)):=by
 show(u5 (ss.map .str)).bind (λss=>if (decide (ss.length< 60) && ss.all sN)=true then some (jW (gf ((ss.foldl fu []).map .str))) else none)=_
 have:ss.all sN=true:=hU.mpr λx hx=>vb x (JY (h x hx))
 exact Y (UC _)<|Y (iC _ _)<|Y (decide_eq_true hl)<|Y this<|Y (if_pos (show(true && true)=true from rfl))<|Y (adu h) rfl
noncomputable def n0(St:List Tm):List Tb->List Str->List Tb
 |acc,[]=>acc
 |acc,k::ks=>n0 St (acc.flatMap λone=>St.map λv=>one++[(k,v)]) ks
theorem RK{St x}:n0 St x []=x:=rfl
theorem Io{St x k ks}:n0 St x (k::ks)=n0 St (PB (λ(one:Tb)=>z9 (λ(v:Tm)=>one++[(k,v)]) St) x) ks:=rfl
theorem zZ:∀{ks:List Str} {acc:List Tb} {ρ:Tb},ρ∈n0 St acc ks↔∃a∈acc,∃b:Tb,ρ=a++b/\b.map (·.1)=ks/\∀q∈b,q.2∈St
 |[],acc,ρ=>by
  rw[RK]
  constructor
  .exact λh=>(EW ρ h ([]) (by simp) rfl (by simp))
  .intro anL;refine xP anL λa ha b anM V zz=>?_;subst anM
   exact Y (Dk.mp V)<|Y (gU _)<|ha
 |k::ks,acc,ρ=>by
  rw[Io,zZ]
  constructor
  .intro apv;refine xP apv λa ha b anN V hs=>?_;subst anN
   refine fD ha λone H O=>cr O λv hv vY=>?_;subst vY
   refine EW one H ((k,v)::b) (by simp) (Y bE<|Y V rfl) (λq hq=>?_)
   rcases bK.mp hq with rfl|hq
   .exact hv
   .exact hs q hq
  .intro anO;refine xP anO λa ha b anP V hs=>?_;subst anP
   cases b with
   |nil=>exact nol V
   |cons q b=>
    rw[bE,gT] at V
    obtain⟨rfl,V⟩:=V
    exact⟨a++[q],jr.mpr ⟨a,ha,fQ.mpr ⟨q.2,hs q (.head _),rfl⟩⟩,b,by simp,V,λp hp=>hs p (.tail _ hp)⟩
theorem QD(nd:St.Nodup):∀{ks:List Str} {acc:List Tb},acc.Nodup->(n0 St acc ks).Nodup
 |[],_,h=>h
 |k::ks,acc,h=>by
  rw[Io]
  refine QD nd ?_
  unfold List.Nodup
  refine si List.pairwise_flatMap<|⟨λone zz=>?_,?_⟩
  .exact si List.pairwise_map<|nd.imp λbB e=>bB (by
    have:=List.append_cancel_left e
    cases this;rfl)
  .refine h.imp λbB x hx y hy e=>cr hx λv zz rO=>?_;subst rO
   refine cr hy λw zz j4=>?_;subst j4
   exact bB (List.append_inj_left' e rfl)
theorem Em(h:St.length<=m):∀{ks:List Str} {acc:List Tb},(n0 St acc ks).length<=acc.length*m^ks.length
 |[],acc=>by rw[RK];simp
 |k::ks,acc=>by
  rw[Io,bL,zv,zp (m^ks.length),<- zj]
  refine aB (Em h) (lS _ ?_)
  exact zX λx zz=>by exact Y (aw _)<|h
theorem RL:∀l:Tb,pairsOf (l.map cW)=some (l.map fz)
 |[]=>rfl
 |p::l=>by
  exact bs (show tx (cW p)=some (fz p) from rfl) (by refine Y (RL l) ?_;rfl)
theorem PU:∀{l a:Tb},((a++l).map (·.1)).Nodup->uQ (a.map fz) (l.map fz)=some ((a++l).map fz)
 |[],a,_=>by refine Y (gU _) ?_;rfl
 |p::l,a,h=>by
  show(o0 (.str p.1)).bind (λk=>uQ (m3 (a.map fz) k (af p.2)) (l.map fz))=_
  have hn:lk a p.1=none:=by
   cases e:lk a p.1 with
   |none=>rfl
   |some v=>
    rw[fk,Dq] at h
    exact absurd rfl (h.2.2 p.1 (fQ.mpr (ai ((p.1,v)) (mW e) rfl)) p.1 (.head _))
  have e:m3 (a.map fz) p.1 (af p.2)=(a++[p]).map fz:=by
   unfold m3
   refine Y (EH _ _)<|Y hn<|Y fk ?_;rfl
  rw[show o0 (.str p.1)=some p.1 from rfl,iC,e,PU (a:=a++[p]) (Y (lm _ _ _)<|h),lm]
  rfl
theorem UD(h:fh l):B7 (l.map cW)=some (cy l):=by
 unfold B7
 have hl:=h.len
 rw[decide_eq_true (show(l.map cW).length<=1000 by exact Y (aw _)<|aV hl rfl),if_pos rfl,RL,iC,show uQ [] (l.map fz)=some (l.map fz) from PU (a:=[]) h.nd,iC,h.ok,if_pos rfl]
 rfl
theorem adw(e:l.map (·.1)=r.map (·.1))(nl:(l.map (·.1)).Nodup)(h:∀o,lk l o=lk r o):l=r:=by
 have key:∀{l:Tb},(l.map (·.1)).Nodup->l=(l.map (·.1)).map λk=>(k,(lk l k).getD (.node k [])):=λ{l} nl=>by
  refine Y dW ?_
  conv=>lhs;rw[<- HC l]
  refine mG λp hp=>?_
  show p=(p.1,(lk l p.1).getD _)
  refine Y (tK nl hp) ?_;rfl
 exact Y (key nl)<|Y (key (l:=r) (e▸nl))<|Y e<|Y (show lk l=lk r from funext h) rfl
theorem Te(r:Tb):(dS r).map (·.1)=[sX,sY].filter λk=>(lk r k).isSome:=by
 unfold dS
 cases H:lk r sX<;>cases O:lk r sY<;>simp[H,O]
def we(p:Tm):List Str:=((pre p).filter λu=>bJ u.op).map Tm.op
def NS(p:Tm):List Str:=namesOf (we p)
theorem aga:∀x∈we p,bJ x=true:=λx hx=>by
 refine cr hx λu hu Mc=>?_;clear hx;subst Mc
 exact(kE.mp hu).2
theorem xZ:o∈NS p↔kc p o:=by
 unfold NS namesOf
 rw[kE,zc]
 unfold we
 refine si fQ ?_
 constructor
 .intro BV;refine vQ BV λH u O anQ=>?_;clear BV H;subst anQ
  exact xa (kE.mp O) λh3 h4=>oY h4 u h3 rfl
 .intro BW;refine vQ BW λH u O rC=>?_;clear BW;subst rC
  exact oY (by simpa using qk.mp H) u (kE.mpr ⟨O,H⟩) rfl
theorem z0(p:Tm):(NS p).Nodup:=by
 refine Oz GU ?_
 have:=Gv
 rw[beq_eq_false_iff_ne] at this
 simpa using this
theorem Fg(p:Tm):(NS p).length<=2:=aB (zb ..) (a8 _)
theorem Tf:o∈r.map (·.1)↔(lk r o).isSome=true:=by
 refine si fQ ?_
 constructor
 .intro WL;refine ar WL λp hp LF=>?_;clear WL;subst LF
  cases e:lk r p.1 with
  |none=>exact absurd rfl (Jq e p hp)
  |some v=>rfl
 .intro h
  exact ua h λv hv=>ai ((o,v)) (mW hv) rfl
theorem QE(nt:Nf aa t)(yL:∀v,v∈St↔jq aa t v)(ρ:Tb):mZ aa p t ρ↔ρ∈n0 St [[]] (NS p)/\normal aa (fill (lk ρ) p)=t:=by
 refine si zZ ?_
 constructor
 .intro h
  have ek:ρ.map (·.1)=NS p:=by
   refine sl h.yZ<|Y (Te _)<|aaz λk hk=>?_
   rw[O2,h.lb,zc,<- xZ]
   unfold NS namesOf
   rw[kE,zc]
   exact⟨λz=>z.2,λz=>⟨hk,z⟩⟩
  refine⟨(EW ([]) (.head _) ρ rfl ek (λq hq=>(yL q.2).mpr (h.val q.1 q.2 (tK (ek▸z0 p) hq)))),h.ok⟩
 .intro FU;refine xa FU λFv bX=>xP Fv λa ha b anR V hs=>?_;clear FU Fv;subst anR
  rw[bY.mp ha,kC] at bX⊢
  have nd:=V▸z0 p
  have hd:∀o,(lk b o).isSome=true↔kc p o:=λo=>by rw[<- Tf,V,xZ]
  have hk:=λq hq=>((hd q.1).mp (Tf.mp (fQ.mpr (ai q hq rfl)))).1
  refine⟨adw ?_ (zN b) (Uu hk),hd,λo v e=>(yL v).mp (hs _ (mW e)),bX⟩
  refine Y (Te _)<|Y V<|aaz λk hk=>?_
  rw[O2,hd,zc,<- xZ]
  unfold NS namesOf
  rw[kE,zc]
  exact⟨λz=>z.2,λz=>⟨hk,z⟩⟩
theorem agb(h:fh l)(bB:l≠[]):jK .m9 [.list (l.map cW)]=some (cy l):=by
 show(if (fc (.list (l.map cW))==5 && (l.map cW).isEmpty)=true then none else B7 (l.map cW))=_
 have:(l.map cW).isEmpty=false:=by clear h;cases l with|nil=>exact absurd rfl bB|cons _ _=>rfl
 rw[this,O7,if_neg (by simp),UD h]
theorem aid(h:fh l):jK .m9 [de l]=some (cy l):=by
 show(if (fc (.tuple (l.map cW))==5 && (l.map cW).isEmpty)=true then none else B7 (l.map cW))=_
 rw[show(fc (.tuple (l.map cW))==5)=false from rfl,Bool.false_and,if_neg (by simp),UD h]
def apw:S:= .asg 5 (.gY (dN .m9 [.bin .add (dN .oJ [L 8]) (hO [cB [L 7,L 9]])]) (.one 8) (L 5) (.one 9) (L 6)) .bI
theorem Vy(V:∀v∈St,Bd v)(sw:St.length<= 32):∀(ks:List Str) (acc:List Tb) (b7:aK),ks.Nodup->(∀k∈ks,bJ k=true)->(∀one∈acc,fh one/\∀k∈ks,lk one k=none)->acc.length* 32^ks.length<=1024->
 ∃NO,gh (λx ρ σ=>(cg (.one 7) x ρ).bind λaE=>aR au (RR n) apw aE σ) (ks.map .str) [V0,V1,V2,V3,V4, .v (gM acc), .v (.d (.list (St.map af))),b7, .un, .un, .un, .un, .un] s=
  some (.next [V0,V1,V2,V3,V4, .v (gM (n0 St acc ks)), .v (.d (.list (St.map af))),NO, .un, .un, .un, .un, .un] s)/\(∀one∈n0 St acc ks,fh one)
 |[],acc,b7,_,_,h,_=>(ai b7 rfl (λone ho=>(h one ho).1))
 |k::ks,acc,b7,nd,hx,h,hl=>by
  have hk:=hx k (.head _)
  rw[lW] at nd
  rw[bL,zv,zp (32^ks.length),<- zj] at hl
  have hp:0< 32^ks.length:=sS (by decide)
  have l1:acc.length* 32<=1024:=aB (Db _ hp) hl
  have l2:(acc.flatMap λone=>St.map λv=>one++[(k,v)]).length<=acc.length* 32:=zX λx zz=>by exact Y (aw _)<|sw
  have O:∀one∈(acc.flatMap λone=>St.map λv=>one++[(k,v)]),fh one/\∀j∈ks,lk one j=none:=λone ho=>by
   refine fD ho λa ha ho=>cr ho λv hv L8=>?_;subst L8
   refine xa (h a ha) λh3 h4=>⟨h3.push hk (h4 k (.head _)) (V v hv),λj hj=>?_⟩
   have hjk:¬j=k:=λe=>nd.1 (sl e<|hj)
   exact Y ((Ue (h4 k (.head _))) _)<|Y (if_neg hjk)<|h4 j (.tail _ hj)
  refine ar (Vy (n:=n) (s:=s) (V0:=V0) (V1:=V1) (V2:=V2) (V3:=V3) (V4:=V4) V sw ks (acc.flatMap λone=>St.map λv=>one++[(k,v)]) (.v (.d (.str k))) nd.2 (λj hj=>hx j (.tail _ hj)) O (aB (lS _ l2) hl)) λc7 ih bX=>ai c7 (l5 rfl (dy (ae:=s) (v:=gM (acc.flatMap λone=>St.map λv=>one++[(k,v)])) ?_ rfl) ih) bX
  have e:(acc.flatMap λone=>St.map λv=>one++[(k,v)]).map cy=(acc.flatMap λone=>St.map λv=>(one,v)).map λq=>cy (q.1++[(k,q.2)]):=by
   refine Y G5<|Y G5 ?_
   congr 1
   funext one
   refine Y dW<|Y dW ?_;rfl
  have l3:(acc.flatMap λone=>St.map λv=>(one,v)).length<=acc.length* 32:=zX λx zz=>by exact Y (aw _)<|sw
  unfold gM
  refine Y e<|uS (l:=acc) (m:=cy) (s:=λone=>St.map λv=>(one,v)) (m2:=λq=>af q.2) (g:=λq=>cy (q.1++[(k,q.2)])) (cX (aj rfl) (by refine Y (aw _) (be [(.mulR B 32,(.num 1024))] (B,(.num 100000)) rfl l1))) (λone ho=>(bQ _ rfl ?_ (λq hq=>(ai _ rfl ?_)))) (aM [(B,.mulR v1 32),(.mulR v1 32,(.num 1024))] (B,(.num 100000)) rfl l3 l1)
  .exact Y dW<|cX (aj rfl) (Y (aw _)<|aV sw rfl)
  .refine cr hq λv hv BO=>?_;subst BO
   refine xa (h one ho) λh3 h4=>?_
   have h5:=h3.push hk (h4 k (.head _)) (V v hv)
   have h6:=h3.len
   refine iw (ay (eP (ae:=s) (aF:=s) (x:= .list (one.map cW)) (y:= .list [cW (k,v)]) (d:= .list ((one++[(k,v)]).map cW)) (iw (ay (aj rfl) aI) rfl (RE h3)) (ji (ay (dQ (ay (aj rfl) (ay (aj rfl) aI)) rfl) aI) rfl) ?_) aI) rfl (agb h5 (by simp))
   exact Y fk<|ma (by refine Y cS<|Y (aw _) ?_;simp only[bL,dO];exact be [(B,(.num 2))] (J B (J k0 k1),(.num 100000)) (by kernel_rfl) h6)
section
variable{aa:List Str}(ho:ir aa)
include ho
theorem aie(bp:Bd p)(hp:fP p)(bW:sz p<= 13)(ct:lv p<=9)(bt:Bd t)(nt:Nf aa t)(hs:sz t<=5)(hB:∀R:List Tb,R.Nodup->(∀ρ∈R,mZ aa p t ρ)->R.length< 64)(n:Nat)(hn:100<=n)(s:Sg):
 ∃R:List Tb,R.Nodup/\(∀ρ,ρ∈R↔mZ aa p t ρ)/\RR (n+1) 23 [.d (af p), .d (af t), .d (bH aa)] s=some (.d (.list ((mi R).map de)),s):=by
 refine xe (show ∃k,n=k+1 from⟨n - 1,by (exact bR ((bj _ _)) ((aU (be [((.num 100),B)] (k1,B) rfl hn))))⟩) λn L5=>?_;subst L5
 refine jg (aeB ho bt nt hs n (be [((.num 100),J B k1)] ((.num 10),B) rfl hn) s) λSt hSn sw YZ Y0=>?_
 have qR:=qj p
 have hpt:=qj t
 have NV:∀v∈St,dZ v/\sz v<=5:=λv hv=>by
  exact cj (vc ho nt bt.g ((YZ v).mp hv)) λzz g h=>⟨g,aB h hs⟩
 have hSb:∀v∈St,Bd v:=λv hv=>pZ (NV v hv).1 (aB (NV v hv).2 (by decide))
 have hnk:∀k∈NS p,bJ k=true:=λk hk=>(xZ.mp hk).1
 have apx:(we p).length< 60:=by
  unfold we
  rw[aw]
  exact wK (zb ..) (aM [(B,v1),(v1,(.num 13))] (J B k1,(.num 60)) rfl (aA qR) bW)
 have nu:∀(u:Tm) (ρ:List aK) (i:Nat),Bd u->sz u<= 13->ρ[i]? =some (.v (.d (af u)))->fL (ev au (RR (n+1)) (Call 21 [L i]) ρ s)=some ((pre u).map af,s):=λu ρ i bu hu h=>cX (dJ (ay (aj h) aI) (HO u bu (n+1) s (aM [(B,(.num 13)),((.num 100),J v1 k1)] (B,J v1 k1) rfl hu hn))) (by rw[aw,qj];exact aV hu rfl)
 have Vz:ev au (RR (n+1)) (dN .rc [.comp (.item (L 4) (I 0)) (.one 4) (Call 21 [L 0]) (.cmp .eq (dN .str1 [.item (L 4) (I 0)]) (Sx "?"))]) [.v (.d (af p)), .v (.d (af t)), .v (.d (bH aa)), .un, .un, .un, .un, .un, .un, .un, .un, .un, .un] s=some ([.d (.list ((NS p).map .str))],s):=by
  refine iw (ay (ta (l:=pre p) (m:=af) (g:=λu=> .str u.op) (p:=λu=>bJ u.op) (nu p _ 0 bp bW rfl) (λu hu=>(bQ _ rfl (Ug (bp.pre u hu).g.op (eX (ae:=s) (aF:=s) (aj rfl) bc gB (ib u))) (λzz=>eX (ae:=s) (aF:=s) (aj rfl) bc gB (ib u)))) (cN (aA qR) bW rfl)) aI) rfl ?_
  have:=adv (ss:=we p) aga apx
  unfold we at this
  rw[dW] at this
  exact this
 have Fh:∀(u:Tm) (i:Nat),Bd u->sz u<= 13->i≠4->∀ρ:List aK,ρ[i]? =some (.v (.d (af u)))->4<ρ.length->ev au (RR (n+1)) (.bi .len (.comp (I 1) (.one 4) (Call 21 [L i]) (.cmp .eq (.bi .len (L 4)) (I 1)))) ρ s=some ([.d (.int ((lv u:Nat):Int))],s):=λu i bu hu hi4 ρ h h4=>by
  have hl:=qj u
  have F5:∀x:ah,(ρ.set 4 (.v (.d x)))[4]? =some (.v (.d x)):=λx=>by rw[Og h4]
  have e:=rh (xs:=((pre u).filter λu=>decide (((u.ks.length+1:Nat):Int)=1)).map λzz=>kG 1) (by rw[aw];exact aB (zb ..) (cN (aA hl) hu rfl))
  rw[aw,adt] at e
  exact cM (ta (l:=pre u) (m:=af) (g:=λzz=> .int 1) (p:=λu=>decide (((u.ks.length+1:Nat):Int)=1)) (nu u ρ i bu hu h) (λv hv=>(bQ _ rfl (dD (ae:=s) (aF:=s) (cM (aj (F5 _)) (rk (bu.pre v hv))) bc (eq_int _ _)) (λzz=>bc))) (cN (aA hl) hu rfl)) e
 have XF:=QE (p:=p) nt YZ
 by_cases NI:lv t<lv p
 .have dU:∀ρ,¬mZ aa p t ρ:=λρ h=>by
   have H:=aic (lk ρ) p hp λo v e=>((h.lb o).mp (by rw[e];rfl)).1
   rw[<- Im aa (fill (lk ρ) p),h.ok] at H
   exact nz (aM [(B,v1),(J v1 k1,B)] (k1,k0) rfl H NI)
  refine bQ ([]) (.nil) (λρ=>⟨λh=>(nomatch h),λh=>absurd h (dU ρ)⟩) (eQ rfl rfl (dy (ae:=s) Vz (Vd (ae:=s) (aF:=s) (v:=gM [[]]) (ji (ay (iw (xs:=[]) aI rfl rfl) aI) rfl) (dJ (ay (aj rfl) (ay (aj rfl) aI)) Y0) (qu (ae:=s) (fC (dD (ae:=s) (aF:=s) (Fh p 0 bp bW (by decide) _ rfl (show 4< 13 by decide)) (Fh t 1 bt (aV hs rfl) (by decide) _ rfl (show 4< 13 by decide)) (qv _ _)) ?_) (dR (ji (xs:=[]) aI rfl))))))
  rw[decide_eq_true (mr (by assumption))]
 .have Gw:=Em (St:=St) sw (ks:=NS p) (acc:=[[]])
  have NW: 32^(NS p).length<=1024:=aB (kr (by decide) (Fg p)) (by decide)
  refine ar (Vy (n:=n+1) (s:=s) (V0:= .v (.d (af p))) (V1:= .v (.d (af t))) (V2:= .v (.d (bH aa))) (V3:= .v (.d (.list ((NS p).map .str)))) (V4:= .un) hSb sw (NS p) [[]] .un (z0 p) hnk (λone h=>by rw[bY.mp h];exact⟨fh.nil,λzz zz=>rfl⟩) (by rw[bL,dO,js,sQ];exact NW)) λb7 cH XG=>?_
  generalize hT:n0 St [[]] (NS p)=T at Gw XG cH XF
  rw[bL,dO,js,sQ] at Gw
  have hTm:∀one∈T,one.map (·.1)=NS p/\∀q∈one,q.2∈St:=λone h=>by
   rw[<- hT] at h
   refine xP (zZ.mp h) λa ha b anS V hs=>?_;subst anS
   rw[bY.mp ha];exact⟨V,hs⟩
  have nd:(T.filter λone=>eqT (normal aa (fill (lk one) p)) t).Nodup:=by
   refine Oz GU ?_
   rw[<- hT];exact QD hSn (by simp)
  have hm:∀ρ,ρ∈(T.filter λone=>eqT (normal aa (fill (lk one) p)) t)↔mZ aa p t ρ:=λρ=>by
   rw[XF,kE,oG]
  have di:=hB _ nd λρ h=>(hm ρ).mp h
  have bX:∀ρ∈(T.filter λone=>eqT (normal aa (fill (lk one) p)) t),pF ρ:=λρ h=>((hm ρ).mp h).C1 ho nt bt.g hs
  generalize hR:(T.filter λone=>eqT (normal aa (fill (lk one) p)) t)=R at nd hm di bX
  have fZ:=(qV gZ R).length_eq
  refine bQ R nd hm (eQ rfl rfl (dy (ae:=s) Vz (Vd (ae:=s) (aF:=s) (v:=gM [[]]) (ji (ay (iw (xs:=[]) aI rfl rfl) aI) rfl) (dJ (ay (aj rfl) (ay (aj rfl) aI)) Y0) (io (ae:=s) (fC (dD (ae:=s) (aF:=s) (Fh p 0 bp bW (by decide) _ rfl (show 4< 13 by decide)) (Fh t 1 bt (aV hs rfl) (by decide) _ rfl (show 4< 13 by decide)) (qv _ _)) ?_) (mh (ae:=s) (cX (aj rfl) (by rw[aw];have:=Fg p;exact aV this rfl)) cH (dy (ae:=s) (v:= .d (.list (R.map de))) ?_ (dR ?_)))))))
  .rw[decide_eq_false (yC (by assumption))]
  .rw[<- hR]
   refine ta (l:=T) (m:=cy) (g:=de) (p:=λone=>eqT (normal aa (fill (lk one) p)) t) (cX (aj rfl) (by rw[aw];exact cN Gw NW rfl)) (λone h=>?_) (cN Gw NW rfl)
   refine xa (hTm one h) λH O=>?_
   have h3:=XG one h
   refine fU (PT (lk one) (λo v e=>(NV v (O _ (mW e))).symm) p bp.g) λf1 f2 f3 f4=>?_
   have uh:=rG p
   have bf:Bd (fill (lk one) p):=⟨f4,by (exact aM [(B,.mulL 5 v1),(v1,(.num 13)),(v1,(.num 13)),(v1,(.num 13)),(v1,(.num 13)),(v1,(.num 13))] (B,(.num 400)) rfl f1 bW bW bW bW bW),by (exact aO [(B,v1),(v2,J B (.num 5)),(v1,(.num 13))] (v2,(.num 50)) rfl uh f3 bW),by (exact aM [(B,.mulL 5 v1),(v1,(.num 9)),(v1,(.num 9)),(v1,(.num 9)),(v1,(.num 9)),(v1,(.num 9))] (B,(.num 60)) rfl f2 ct ct ct ct ct)⟩
   refine bQ _ rfl (dD (ae:=s) (aF:=s) (dJ (ae:=s) (ay (ae:=s) (dJ (ay (aj rfl) (ay (aj rfl) aI)) (Qz h3 p bp (n+1) s (aM [((.num 100),J B k1),(v1,(.num 13))] (v1,J B k1) rfl hn bW))) (ay (aj rfl) aI)) (IQ ho _ bf (n+1) s (aO [(B,.mulL 5 v1),((.num 100),J v2 k1),(v1,(.num 13)),(v1,(.num 13)),(v1,(.num 13)),(v1,(.num 13)),(v1,(.num 13))] (J B k1,J v2 k1) rfl f1 hn bW bW bW bW bW))) (aj rfl) (Vs (bf.normal aa) bt)) (λzz=>?_)
   refine cM (ae:=s) (x:= .list (one.map cW)) (ge (l:=one) (m:=λq=> .str q.1) (g:=cW) ?_ (λq hq=>(ai _ rfl (dQ (ay (aj rfl) (ay (Am (ae:=s) (aF:=s) (x:= .str q.1) (v:= .d (cy one)) (aj rfl) (aj rfl) (Ic h3 (tK h3.nd hq))) aI)) rfl))) (by have:=h3.len;exact aV this rfl)) (fJ (by rw[aw];have:=h3.len;exact aV this rfl))
   have:one.map (λq=>eB q.1)=(NS p).map .str:=by rw[<- H,dW];rfl
   rw[this]
   exact cX (aj rfl) (by rw[aw];have:=Fg p;exact aV this rfl)
  .refine ge (l:=mi R) (m:=gZ) (g:=de) (cX (cM (ae:=s) ?_ (RF di bX)) (by rw[aw];exact tM (aA fZ) di)) (λr zz=>(ai _ rfl (aj rfl))) (tM (aA fZ) di)
   refine ge (l:=R) (m:=de) (g:=gZ) (cX (aj rfl) (by rw[aw];exact mu di rfl)) (λr hr=>(ai _ rfl (dQ (ay (cM (ae:=s) (x:= .list (r.map pd)) (ge (l:=r) (m:=cW) (g:=pd) (kN (aj rfl) ?_) (λq hq=>(ai _ rfl (dQ (ay (aj rfl) (ay (dJ (ay (aj rfl) aI) (SV ((bX r hr).bd q hq) n s)) aI)) rfl))) ?_) (fJ ?_)) (ay (aj rfl) aI)) rfl))) (mu di rfl)
   .rw[aw];have:=(bX r hr).len;exact aV this rfl
   .have:=(bX r hr).len;exact aV this rfl
   .rw[aw];have:=(bX r hr).len;exact aV this rfl
end
def rX(p:Tm)(o:Str):Prop:=∃u∈pre p,u.op=o
section
variable{f:Str->Option Tm}(hf:∀o v,f o=some v->bJ o=true)
include hf
theorem Fi(ha:f a=some v)(p:Tm):fP p->rX p a->lv v<=lv (fill f p):=by
 induction p using cU with
 |_ o l ih=>
  intro hp WM;refine ar WM λu hu rA=>?_;clear WM;subst rA
  rw[pV,pY]
  rw[fH,jd] at hu
  cases e:f o with
  |some w=>
   have e2:=hp (.node o l) (iW _) (hf o w e)
   clear ih;subst e2
   rw[uD,bY] at hu
   subst hu
   have ha:f o=some v:=ha
   rw[e] at ha
   injection ha with vL;subst vL
   exact a8 _
  |none=>
   show lv v<=lv (.node o (l.map (fill f)))
   rcases bK.mp hu with rfl|hu
   .have ha:f o=some v:=ha
    rw[e] at ha;exact aC ha
   .exact fD hu λk hk hu=>aB (ih k hk (hp.ez hk) (ai u hu rfl)) (Vc (fQ.mpr (ai k hk rfl)))
theorem ajo(nk:a≠b)(ha:f a=some v)(V:f b=some w)(p:Tm):fP p->rX p a->rX p b->lv v+lv w<=lv (fill f p):=by
 induction p using cU with
 |_ o l ih=>
  rintro hp H O
  have split:f o=none->∀c,rX (.node o l) c->(f c).isSome=true->∃k∈l,rX k c:=λe c apy hc=>ar apy λu hu h3=>by
   rw[fH,jd] at hu
   rcases bK.mp hu with rfl|hu
   .have h3:o=c:=h3
    rw[<- h3,e] at hc;exact aQ hc
   .exact fD hu λk hk hu=>gC k hk u hu h3
  rw[pV,pY]
  cases e:f o with
  |some x=>
   have e2:=hp (.node o l) (iW _) (hf o x e)
   clear ha V ih split;subst e2
   refine ar H λu hu Cg=>?_;clear H;subst Cg
   refine ar O λu2 sd oT=>?_;clear O;subst oT
   rw[fH,xl,bY] at hu sd
   exact absurd (Y hu<|Y sd rfl) nk
  |none=>
   have k1:=split e a H (by refine Y ha ?_;rfl)
   have k2:=split e b O (by refine Y V ?_;rfl)
   have:∀l:List Tm,(∀k∈l,fP k->rX k a->rX k b->lv v+lv w<=lv (fill f k))->(∀k∈l,fP k)->(∃k∈l,rX k a)->(∃k∈l,rX k b)->lv v+lv w<=cR (l.map (fill f)):=by
    intro l
    induction l with
    |nil=>intro _ _ Fs;refine ar Fs λk hk zz=>?_;cases hk
    |cons x l jR=>
     intro hi hq WN WO;refine ar WN λk hk ka=>ar WO λj hj jb=>?_
     rw[bE,eC]
     have px:=hq x (.head _)
     clear WN WO;rcases bK.mp hk with rfl|hk
     .clear hk;rcases bK.mp hj with rfl|hj
      .have:=hi _ (.head _) px ka jb;exact bM [(J B v1,v2)] (J B v1,J v2 v3) rfl this
      .have h3:=Fi hf ha _ px ka
       have h4:=Fi hf V _ (hq j (.tail _ hj)) jb
       have h5:=xF (fQ.mpr (ai j hj rfl):fill f j∈l.map (fill f))
       exact eH [(B,v1),(v2,B),(v3,v4)] (J v3 v2,J v4 v1) rfl h5 h4 h3
     .refine a9 (bK.mp hj) (λhj0=>?_) (λhj=>?_)
      .have h3:=Fi hf V _ px (hj0▸jb)
       have h4:=Fi hf ha _ (hq k (.tail _ hk)) ka
       have h5:=xF (fQ.mpr (ai k hk rfl):fill f k∈l.map (fill f))
       exact eH [(B,v1),(v2,B),(v3,v4)] (J v2 v3,J v4 v1) rfl h5 h4 h3
      .have:=jR (λk hk=>hi k (.tail _ hk)) (λk hk=>hq k (.tail _ hk)) (ai k hk ka) (ai j hj jb)
       exact bM [(J B v1,v2)] (J B v1,J v3 v2) rfl this
   exact aB (this l ih (λk hk=>hp.ez hk) k1 k2) AD
end
inductive Tr where
 |mk (o:Nat) (l:List Tr)
mutual
noncomputable def y6:Tr->Tr->Bool
 | .mk a l, .mk b m=>a==b && yA l m
noncomputable def yA:List Tr->List Tr->Bool
 |[],[]=>true
 |x::l,y::m=>y6 x y && yA l m
 |_,_=>false
end
theorem agc{a l b m}:y6 (Tr.mk a l) (Tr.mk b m)=(a==b && yA l m):=rfl
theorem aeC{dT l y m}:yA (dT::l) (y::m)=(y6 dT y && yA l m):=rfl
mutual
theorem VA:∀a b,y6 a b=true->a=b
 | .mk a l, .mk b m,h=>by
   rw[agc,cm,beq_iff_eq] at h
   exact Y h.1<|Y (UE l m h.2) rfl
theorem UE:∀a b,yA a b=true->a=b
 |[],[],_=>rfl
 |x::l,y::m,h=>by
  rw[aeC,cm] at h
  exact Y (VA x y h.1)<|Y (UE l m h.2) rfl
 |[],_::_,h=>aQ h
 |_::_,[],h=>aQ h
end
mutual
noncomputable def Gx:Tr->Nat
 | .mk _ l=>qF l+1
noncomputable def qF:List Tr->Nat
 |[]=>0
 |x::l=>Gx x+qF l
end
theorem agd{o l}:Gx (Tr.mk o l)=qF l+1:=rfl
theorem aeD{dv l}:qF (dv::l)=Gx dv+qF l:=rfl
mutual
noncomputable def sE:Tr->Nat
 | .mk _ l=>match l with
   |[]=>1
   |x::r=>sE x+yB r
noncomputable def yB:List Tr->Nat
 |[]=>0
 |x::l=>sE x+yB l
end
theorem age{o}:sE (Tr.mk o [])=1:=rfl
theorem agf{o dT Y1}:sE (Tr.mk o (dT::Y1))=sE dT+yB Y1:=rfl
theorem aeE{dv l}:yB (dv::l)=sE dv+yB l:=rfl
mutual
noncomputable def Cn:Tr->List Tr
 | .mk o l=> .mk o l::yi l
noncomputable def yi:List Tr->List Tr
 |[]=>[]
 |x::l=>Cn x++yi l
end
theorem aeF{o l}:Cn (Tr.mk o l)=Tr.mk o l::yi l:=rfl
theorem adx{dv l}:yi (dv::l)=Cn dv++yi l:=rfl
def y7(n:Nat):Str:=if n=0 then bl "a" else if n=1 then bl "b" else if n=2 then sF else if n=3 then sP else sM
mutual
def gR:Tr->Tm
 | .mk o l=> .node (y7 o) (i6 l)
def i6:List Tr->List Tm
 |[]=>[]
 |x::l=>gR x::i6 l
end
theorem uO{o l}:gR (Tr.mk o l)=Tm.node (y7 o) (i6 l):=rfl
theorem RM:i6 []=[]:=rfl
theorem xp{dv l}:i6 (dv::l)=gR dv::i6 l:=rfl
theorem Jv:∀l,i6 l=l.map gR
 |[]=>rfl
 |x::l=>by rw[xp,Jv l];rfl
mutual
theorem ajp:∀r,sz (gR r)=Gx r
 | .mk o l=>by rw[uO,dA,agd,En l]
theorem En:∀l,bG (i6 l)=qF l
 |[]=>rfl
 |x::l=>by rw[xp,cT,aeD,ajp x,En l]
end
mutual
theorem x4:∀r,lv (gR r)=sE r
 | .mk o []=>by rw[uO,RM,xC,age]
 | .mk o (x::l)=>by rw[uO,xp,Ez,agf,x4 x,Tg l]
theorem Tg:∀l,cR (i6 l)=yB l
 |[]=>rfl
 |x::l=>by rw[xp,eC,aeE,x4 x,Tg l]
end
mutual
theorem Jw:∀r,pre (gR r)=(Cn r).map gR
 | .mk o l=>by rw[uO,fH,aeF,bE,RN l,uO]
theorem RN:∀l,jk (i6 l)=(yi l).map gR
 |[]=>rfl
 |x::l=>by rw[xp,mN,adx,fk,Jw x,RN l]
end
noncomputable def rl:List Tr->List Tr
 |[]=>[.mk 0 [], .mk 1 []]
 |[x]=>[.mk 2 [x]]
 |x::y::l=>[.mk 3 (x::y::l), .mk 4 (x::y::l)]
def fo:Nat->List (List Tr)
 |0=>[[]]
 |n+1=>[]::(fo n).flatMap λks=>(rl ks).flatMap λr=>((fo n).filter λm=>decide (qF ks+qF m<=n)).map (r:: ·)
theorem aif{n}:fo (xw n)=[]::PB (λ(ks:List Tr)=>PB (λ(r:Tr)=>z9 (λ(x:List Tr)=>r::x) (List.filter (λ(m:List Tr)=>OP (qF ks+qF m<=n)) (fo n))) (rl ks)) (fo n):=rfl
noncomputable def wf:List Tr->List (List Tr)
 |[]=>[[]]
 |x::l=>(wf l).map (x:: ·)++wf l
theorem aeG{dv l}:wf (dv::l)=z9 (λ(x:List Tr)=>dv::x) (wf l)++wf l:=rfl
noncomputable def Gy:Tr->Nat
 | .mk o _=>o
def Co(x:Tr):List Tr->List Tr
 |[]=>[x]
 |y::l=>if Gy x<=Gy y then x::y::l else y::Co x l
theorem aeH{x dT l}:Co x (dT::l)=if Gy x<=Gy dT then x::dT::l else dT::Co x l:=rfl
def wh:List Tr->List Tr
 |[]=>[]
 |x::l=>Co x (wh l)
theorem RO(x:Tr):∀l,(Co x l).Perm (x::l)
 |[]=> .refl _
 |y::l=>by
  rw[aeH]
  split
  .exact .refl _
  .exact((RO x l).cons y).trans (.swap x y l)
theorem RP:∀l,(wh l).Perm l
 |[]=> .refl _
 |x::l=>(RO x _).trans ((RP l).cons x)
def anT(r:Tr):List Tr:=(Cn r).flatMap λp=>match p with
 | .mk o l=>p::((wf l).filter λm=>decide (2<=m.length)).map λm=> .mk o (wh m)
def ur(acc:List Tr):List Tr->List Tr
 |[]=>acc
 |x::l=>if acc.any (λy=>y6 y x)=true then ur acc l else ur (acc++[x]) l
theorem agg{acc}:ur acc []=acc:=rfl
theorem agh{acc dv l}:ur acc (dv::l)=if (Eo acc λ(y:Tr)=>y6 y dv)=true then ur acc l else ur (acc++[dv]) l:=rfl
theorem EO:∀{l acc:List Tr} {x:Tr},x∈acc\/x∈l->x∈ur acc l
 |[],acc,x,h=>by rw[agg];simpa using h
 |y::l,acc,x,h=>by
  rw[agh]
  split
  .rename_i q
   refine EO<|a9 h (λh=>?_) (λh=>?_)
   .exact .inl h
   .rcases bK.mp h with rfl|h
    .rw[uC] at q
     exact ar q λz hz e=>sl (VA z x e)<| .inl hz
    .exact .inr h
  .refine EO<|a9 h (λh=>?_) (λh=>?_)
   .exact .inl (pH _ h)
   .rcases bK.mp h with rfl|h
    .exact .inl (wI _ (.head _))
    .exact .inr h
def xN(r:Tr):List Tr:=ur [] ((anT r).filter λc=>decide (sE c<sE r))
theorem aih:((fo 4).flatMap rl).all (λr=>decide ((xN r).length<=7))=true:=by decide+kernel
noncomputable def mC:List Str:=[bl "a",bl "b"]
theorem Th(l:List Tr):(i6 l).length=l.length:=by exact Y (Jv _)<|Y (aw _) rfl
theorem Ti{o:Str}{l:List Tm}(h:Gq mC (.node o l)){rs:List Tr}(e:i6 rs=l):∃r∈rl rs,gR r= .node o l:=by
 subst e
 have hl:=Th rs
 rcases h with⟨H,O⟩|⟨H,O⟩|⟨H,O⟩
 .have H:i6 rs=[]:=H
  have O:o∈mC:=O
  rw[H] at hl
  have e:rs=[]:=Da.mp hl.symm
  clear O;subst e
  unfold mC at O
  simp only[bK,mH,or_false] at O
  rcases O with rfl|rfl
  .exact(ai (.mk 0 []) (by simp[rl]) rfl)
  .exact(ai (.mk 1 []) (by simp[rl]) rfl)
 .have H:o=sF:=H
  have O:(i6 rs).length=1:=O
  rw[hl] at O
  refine xe (ZE.mp O) λx oT=>?_;clear H;subst oT
  subst H
  exact(ai (.mk 2 [x]) (by simp[rl]) rfl)
 .have H:o=sP\/o=sM:=H
  have O:2<=(i6 rs).length:=O
  rw[hl] at O
  match rs,O with
  |x::y::m,_=>
   clear O;rcases H with rfl|rfl
   .exact(ai (.mk 3 (x::y::m)) (by simp[rl]) rfl)
   .exact(ai (.mk 4 (x::y::m)) (by simp[rl]) rfl)
theorem Sh.ez{lf:List Str}{o:Str}{l:List Tm}(h:Sh lf (.node o l)){k:Tm}(hk:k∈l):Sh lf k:=λp hp=>h p (ly hk hp)
theorem JZ:∀(n:Nat) (l:List Tm),(∀k∈l,Sh mC k)->bG l<=n->∃rs∈fo n,i6 rs=l
 |0,[],_,_=>(ai ([]) (.head _) rfl)
 |n+1,[],_,_=>(ai ([]) (.head _) rfl)
 |0,t::l,_,h=>by rw[cT] at h;have:=l9 t;(exact(nz (aM [(k1,B),(J B v1,k0)] (k1,k0) rfl this h)).elim)
 |n+1, .node o ks::l,hs,h=>by
  have ht:=hs _ (.head _)
  rw[cT,dA] at h
  refine ar (JZ n ks (λk hk=>ht.ez hk) (by (exact aO [(J (J B k1) v1,J v2 k1)] (B,v2) rfl h))) λr1 H e1=>?_
  refine ar (JZ n l (λk hk=>hs k (.tail _ hk)) (by (exact aO [(J (J B k1) v1,J v2 k1)] (v1,v2) rfl h))) λr2 O e2=>?_
  refine ar (Ti (ht _ (iW _)) e1) λr h3 e3=>?_
  refine(ai (r::r2) ?_ (by rw[xp,e3,e2]))
  rw[aif]
  refine .tail _ (jr.mpr (ai r1 H (jr.mpr (ai r h3 (fQ.mpr (ai r2 (kE.mpr ⟨O,?_⟩) rfl))))))
  refine Y decide_eq_true_eq<|sl (En _)<|sl (En _)<|Y e1<|Y e2 ?_
  (exact aO [(J (J B k1) v1,J v2 k1)] (J B v1,v2) rfl h)
theorem aii{t:Tm}(h:Sh mC t)(hs:sz t<=5):∃r,gR r=t/\(xN r).length<=7:=by
 cases t with|node o ks=>
 rw[dA] at hs
 refine ar (JZ 4 ks (λk hk=>h.ez hk) (by (exact be [(J B k1,(.num 5))] (B,(.num 4)) rfl hs))) λr1 H e1=>?_
 refine ar (Ti (h _ (iW _)) e1) λr h3 e3=>?_
 exact(ai r e3 (of_decide_eq_true (hU.mp aih r (jr.mpr (ai r1 H h3)))))
theorem IX:∀{m:List Tr} {l L:List Tm},(l++L).Perm (i6 m)->∃s∈wf m,(i6 s).Perm l
 |[],l,L,h=>(ai ([]) (.head _) (by
  have:=h.length_eq
  rw[cS,RM,dO] at this
  rw[Da.mp (show l.length=0 by (exact bR (aM [(J B v1,k0)] (B,k0) rfl (aA this)) lJ))]
  exact .refl _))
 |x::m,l,L,h=>by
  have hx:gR x∈l++L:=h.mem_iff.mpr (.head _)
  rw[aeG]
  refine a9 (ln.mp hx) (λhx=>?_) (λhx=>?_)
  .have p:=uG hx
   refine ar (IX (Dn (((p.append_right L).symm).trans h))) λs H O=>?_
   exact(ai (x::s) (pH _ (fQ.mpr (ai s H rfl))) ((O.cons _).trans p.symm))
  .have p:=uG hx
   refine ar (IX (Dn ((G6.symm.trans ((p.append_left l).symm)).trans h))) λs H O=>?_
   exact(ai s (wI _ H) O)
section
variable{aa:List Str}
theorem ady{r:Tr}(nt:Nf aa (gR r)){v:Tm}(h:jq aa (gR r) v)(hl:lv v<lv (gR r)):v∈(xN r).map λc=>normal aa (gR c):=by
 have part:∀q∈pre (gR r),lv q<lv (gR r)->q∈(xN r).map λc=>normal aa (gR c):=λq hq ut=>by
  have nq:=xL _ nt q hq
  rw[Jw] at hq
  refine cr hq λc hc Lj=>?_;subst Lj
  rw[x4,x4] at ut
  refine fQ.mpr (ai c (EO (.inr (kE.mpr ⟨?_,by refine Y decide_eq_true_eq ?_;exact ut⟩))) nq)
  refine jr.mpr (ai c hc ?_)
  clear hc hq nq;cases c with|mk o l=>exact .head _
 refine ar h λp hp rD=>?_;clear h;rcases rD with h|⟨V,l,L,bB,nu,rfl⟩
 .subst h;exact part _ hp hl
 .have np:=xL _ nt p hp
  have fp:=((Aq np V).perm nu.symm).left
  have hc:=((gv aa).mp V).1
  rcases qW fp bB with⟨x,rfl,e⟩|⟨O,_⟩
  .rw[e] at hl⊢
   have hx:x∈p.ks:=nu.mem_iff.mp (.head _)
   have pa:∀t:Tm,∀p∈pre t,∀q∈pre p,q∈pre t:=by
    intro t
    induction t using cU with
    |_ o l ih=>
     intro p hp q hq
     rw[fH,jd] at hp
     rcases bK.mp hp with rfl|hp
     .exact hq
     .refine fD hp λk hk hp=>?_
      exact ly hk (ih k hk p hp q hq)
   exact part x (pa _ p hp x (by clear np hc fp e;clear hp V;cases p with|node o l=>exact ly hx (iW x))) hl
  .rw[Jw] at hp
   refine cr hp λc hcr j4=>?_;clear V np;subst j4
   clear hp;cases c with|mk o m=>
   rw[uO] at nu fp hc hl⊢
   have nu:(l++L).Perm (i6 m):=nu
   have fp:gL aa (y7 o) l:=fp
   have hc:aa.contains (y7 o)=true:=hc
   have hl:lv (made aa (y7 o) l)<lv (gR r):=hl
   refine ar (IX nu) λs ul gu=>?_
   have eh:(i6 (wh s)).Perm l:=by
    rw[Jv] at gu⊢
    exact((RP s).map gR).trans gu
   have fs:=fp.perm eh.symm
   have e:normal aa (gR (.mk o (wh s)))=made aa (y7 o) l:=by
    rw[uO,PS fs hc (by refine Y eh.length_eq ?_;exact O)]
    exact Ig fs eh
   refine fQ.mpr (ai (.mk o (wh s)) (EO (.inr (kE.mpr ⟨?_,?_⟩))) e)
   .skip
    refine jr.mpr (ai _ hcr (.tail _ (fQ.mpr (ai s (kE.mpr ⟨ul,?_⟩) rfl))))
    refine Y decide_eq_true_eq<|sl (Th _)<|Y gu.length_eq ?_;exact O
   .refine Y decide_eq_true_eq<|sl (x4 _)<|sl (x4 _)<|sl (Im aa (gR (.mk o (wh s))))<|Y e ?_
    exact hl
open Classical in
theorem aij{p t:Tm}(hp:fP p)(nt:Nf aa t)(jm:Sh mC t)(hs:sz t<=5):∀R:List Tb,R.Nodup->(∀ρ∈R,mZ aa p t ρ)->R.length< 64:=by
 intro R nd hv
 have XH:=QE (p:=p) nt (St:=j2 aa t) (λv=>D9 nt v)
 by_cases BX:kc p sX/\kc p sY
 .refine ar (aii jm hs) λr anU h7=>?_;clear jm hs;subst anU
  have pa:∀ρ∈R,ρ∈n0 ((xN r).map λc=>normal aa (gR c)) [[]] (NS p):=λρ qN=>by
   have as7:=hv ρ qN
   refine xP (zZ.mp ((XH ρ).mp as7).1) λa ha b e V dF=>?_
   rw[bY.mp ha,kC] at e
   subst e
   refine zZ.mpr (EW ([]) (.head _) ρ rfl V (λq hq=>?_))
   have Nv:(ρ.map (·.1)).Nodup:=V▸z0 p
   have ut:=tK Nv hq
   have hf:∀o v,lk ρ o=some v->bJ o=true:=λo v e=>((as7.lb o).mp (by refine Y e ?_;rfl)).1
   refine ua (((as7.lb sX).mpr BX.1)) λx hx=>?_
   refine ua (((as7.lb sY).mpr BX.2)) λy hy=>?_
   have bB:sX≠sY:=by have:=Gv;rw[beq_eq_false_iff_ne] at this;exact this
   have O:=ajo hf bB hx hy p hp BX.1.2 BX.2.2
   rw[<- Im aa (fill (lk ρ) p),as7.ok] at O
   have p1:=xX x
   have p2:=xX y
   refine ady nt ((D9 nt q.2).mp (dF q hq)) ?_
   refine a9 (qk.mp (hf _ _ ut)) (λe=>?_) (λe=>?_)
   .rw[e,hx] at ut;refine sl (gS ut) ?_;(exact aO [(k1,B),(J v1 B,v2)] (J v1 k1,v2) rfl p2 O)
   .rw[e,hy] at ut;refine sl (gS ut) ?_;(exact aO [(k1,B),(J B v1,v2)] (J v1 k1,v2) rfl p1 O)
  have H:=zJ nd pa
  have O:=Em (St:=(xN r).map λc=>normal aa (gR c)) (m:=7) (by refine Y (aw _) ?_;exact h7) (ks:=NS p) (acc:=[[]])
  rw[bL,dO,js,sQ] at O
  have h3:7^(NS p).length<=7^2:=kr (by decide) (Fg p)
  have:(7:Nat)^2= 49:=by decide
  (exact bM [(B,(.num 49)),(v1,B),(v2,v1),(v3,v2)] (J v3 k1,(.num 64)) rfl (aA this) h3 O H)
 .have hn1:(NS p).length<=1:=by
   have mA:∃c,∀x∈NS p,x∈[c]:=by
    by_cases h:kc p sX
    .refine⟨sX,λx hx=>?_⟩
     have H:=xZ.mp hx
     refine a9 (qk.mp H.1) (λe=>?_) (λe=>?_)
     .refine Y e ?_;simp
     .rw[e] at H;exact absurd ⟨h,H⟩ BX
    .refine⟨sY,λx hx=>?_⟩
     have H:=xZ.mp hx
     refine a9 (qk.mp H.1) (λe=>?_) (λe=>?_)
     .rw[e] at H;exact absurd H h
     .refine Y e ?_;simp
   refine xe mA λc hc=>?_
   exact zJ (z0 p) hc
  have H:=zJ nd λρ qN=>((XH ρ).mp (hv ρ qN)).1
  have C4:(j2 aa t).length<= 32:=aB (RH aa t) (aB (kr (by decide) hs) (by decide))
  have O:=Em C4 (ks:=NS p) (acc:=[[]])
  rw[bL,dO,js,sQ] at O
  have h3: 32^(NS p).length<= 32^1:=kr (by decide) hn1
  exact wK (aB H (aB O h3)) (by decide)
theorem RQ{lf:List Str}(t:Tm):Sh lf t->Sh lf (normal aa t):=by
 induction t using tB with
 |h t ih=>
  intro h
  by_cases V:bA aa t=true
  .refine Y (lY aa V) ?_
   have O:=lx aa V
   have hf:=IM aa V
   refine Sh.node ?_ λk hk=>?_
   .have hp:=h t (iW t)
    refine .inr (.inr ⟨?_,?_⟩)
    .rcases hp with⟨e,_⟩|⟨_,e⟩|⟨e,_⟩
     .rw[e] at O;simp at O
     .rw[e] at O;(exact(nz (lg [] [((.num 2),k1)] (k1,k0) rfl O)).elim)
     .exact e
    .show 2<=(cK ((ff aa t).map (normal aa))).length
     refine Y ((gW _).length_eq)<|Y (aw _) ?_;exact hf
   .refine cr (((gW _).mem_iff.mp hk)) λx hx Mc=>?_;clear hk;subst Mc
    exact ih x (qf aa V hx) λp hp=>h p (SM aa V hx p hp)
  .refine Y (jt aa V) ?_
   refine Sh.node ?_ λk hk=>?_
   .have hp:=h t (iW t)
    rcases hp with⟨e,q⟩|⟨q,e⟩|⟨q,e⟩
    .exact .inl ⟨by show t.ks.map _=[];refine Y e ?_;rfl,q⟩
    .exact .inr (.inl ⟨q,by show(t.ks.map _).length=1;refine Y (aw _) ?_;exact e⟩)
    .exact .inr (.inr ⟨q,by show 2<=(t.ks.map _).length;refine Y (aw _) ?_;exact e⟩)
   .refine cr hk λx hx L0=>?_;clear V hk;subst L0
    exact ih x (vM hx) λp hp=>h p (by clear ih h;cases t with|node o l=>exact ly hx hp)
end
theorem abG(aa:List Str)(t:Tm):dZ t->dZ (gA aa t)/\sz (gA aa t)=sz t:=by
 induction t using cU with
 |_ o l ih=>
  intro g
  have p:=Hu aa (.node o l)
  have e:=uJ aa (.node o l)
  generalize gA aa (.node o l)=u at p e
  cases u with|node o2 l2=>
  have e:o2=o:=e
  subst e
  have p:l2.Perm (l.map (gA aa)):=p
  refine⟨DQ g.op λk hk=>?_,?_⟩
  .refine cr (p.mem_iff.mp hk) λy hy rA=>?_;clear hk;subst rA
   exact(ih y hy (g.ez hy)).1
  .rw[dA,dA,q7 p]
   congr 1
   have:∀m:List Tm,(∀k∈m,sz (gA aa k)=sz k)->bG (m.map (gA aa))=bG m:=by
    intro m
    induction m with
    |nil=>intro _;rfl
    |cons x m ihm=>intro h;rw[bE,cT,cT,h x (.head _),ihm λk hk=>h k (.tail _ hk)]
   exact this l λk hk=>(ih k hk (g.ez hk)).2
def pL:List Str:=[sX,sY,bl "a",sX]
theorem ajq:bJ sF=false:=by decide+kernel
theorem ajr:bJ sP=false:=by decide+kernel
theorem ajs:bJ sM=false:=by decide+kernel
theorem Sh.pat{lf:List Str}{t:Tm}(h:Sh lf t):fP t:=λq hq hx=>by
 rcases h q hq with h|h|h
 .exact h.1
 .rw[h.1] at hx;exact aQ (ajq.symm.trans hx)
 .refine a9 h.1 (λe=>?_) (λe=>?_)
  .rw[e] at hx;exact aQ (ajr.symm.trans hx)
  .rw[e] at hx;exact aQ (ajs.symm.trans hx)
theorem anV:∀o∈pL,o∈al:=by
 intro o ho
 unfold pL at ho
 simp only[bK,mH,or_false] at ho
 rcases ho with rfl|rfl|rfl|rfl<;>exact tC (by decide+kernel)
theorem VB:∀o∈mC,o∈al:=by
 intro o ho
 unfold mC at ho
 simp only[bK,mH,or_false] at ho
 rcases ho with rfl|rfl<;>exact tC (by decide+kernel)
theorem UF{d:ah}(h:ce d=true)(g:gd d=true):gI .ne d d=some false:=by
 refine Y (E' h h)<|Y ((qm d d g g).mpr rfl) ?_;rfl
theorem aik{R:List Tb}(h:∀r∈R,pF r):ce (.list (R.map de))=true:=by
 refine oX ?_ ?_
 .rw[mJ];exact ox λr hr=>Jt (h r hr)
 .rw[gV]
  have:=oq (f:=de) (n:=7) (l:=R) λr hr=>EL (h r hr)
  (exact be [(B,(.num 7))] (J B k1,(.num 64)) rfl this)
def XI:S:= .ca (.j6 (dc 10 (L 5) [Call 20 [L 7,dN .m9 [L 10]],L 6])) (.ret no) .bI .bI
def XJ:S:= .asg 9 (Call 23 [L 7,L 8,L 4])<| .ca (.mw (.cmp .ne (dc 9 (L 5) [L 6]) (L 8)) (.mw (.cmp .ne (dc 15 (L 5) [L 7,L 6]) (L 9)) (.cmp .ne (dc 15 (L 5) [L 7,dc 11 (L 5) [L 6]]) (L 9)))) (.ret no) .bI<| .ca (.cmp .ne (dc 15 (L 5) [L 7,Call 24 [L 6,L 4]]) (L 9)) (.ret no) .bI<| .ed (.one 10) (L 9) XI .bI
section
variable{aa:List Str}(ho:ir aa)
include ho
theorem UG{s:Sg}{V0 V1 V2 V3 V4 V8 V9:aK}{p t fm:Tm}(bp:Bd p)(bW:sz p<= 13)(ct:lv p<=9)(bt:Bd t)(iR:sz t<= 13)(e:normal aa t=fm)(hs:sz fm<=5):∀(R:List Tb) (b10:aK),(∀ρ∈R,mZ aa p fm ρ)->∃wd,gh (λx ρ σ=>(cg (.one 10) x ρ).bind λaE=>aR au (RR 400) XI aE σ) (R.map de) [V0,V1,V2,V3,V4, .v (.me (bH aa)), .v (.d (af t)), .v (.d (af p)),V8,V9,b10] s=some (.next [V0,V1,V2,V3,V4, .v (.me (bH aa)), .v (.d (af t)), .v (.d (af p)),V8,V9,wd] s)
 |[],b10,_=>⟨b10,rfl⟩
 |ρ::R,b10,h=>by
  have as7:=h ρ (.head _)
  have nf:Nf aa fm:=e▸sW aa t
  have bf:Bd fm:=e▸bt.normal aa
  have K:=as7.C1 ho nf bf.g hs
  have tk:fh ρ:=⟨K.key,by refine sl as7.yZ ?_;exact zN ρ,K.bd⟩
  refine fU (PT (lk ρ) (λo v q=>by
   refine cj (vc ho nf bf.g (as7.val o v q)) λzz g h=>?_
   exact⟨aB h hs,g⟩) p bp.g) λf1 f2 f3 f4=>?_
  have uh:=rG p
  have bfl:Bd (fill (lk ρ) p):=⟨f4,by (exact aM [(B,.mulL 5 v1),(v1,(.num 13)),(v1,(.num 13)),(v1,(.num 13)),(v1,(.num 13)),(v1,(.num 13))] (B,(.num 400)) rfl f1 bW bW bW bW bW),by (exact aO [(B,v1),(v2,J B (.num 5)),(v1,(.num 13))] (v2,(.num 50)) rfl uh f3 bW),by (exact aM [(B,.mulL 5 v1),(v1,(.num 9)),(v1,(.num 9)),(v1,(.num 9)),(v1,(.num 9)),(v1,(.num 9))] (B,(.num 60)) rfl f2 ct ct ct ct ct)⟩
  refine xe (UG (s:=s) (V0:=V0) (V1:=V1) (V2:=V2) (V3:=V3) (V4:=V4) (V8:=V8) (V9:=V9) bp bW ct bt iR e hs R (.v (.d (de ρ))) λr hr=>h r (.tail _ hr)) λlQ ih=>?_
  refine⟨lQ,l5 rfl (io (ae:=s) (fC (yh (fB (ae:=s) (aF:=s) (aj rfl) (ay (ae:=s) (dJ (ae:=s) (ay (aj rfl) (ay (iw (ay (aj rfl) aI) rfl (aid tk)) aI)) (Qz tk p bp 400 s (by (exact(aV bW rfl))))) (ay (aj rfl) aI)) (ab7 ho bfl bt 400 s (by (exact aM [(B,.mulL 5 v1),(v1,(.num 13)),(v1,(.num 13)),(v1,(.num 13)),(v1,(.num 13)),(v1,(.num 13))] (J B (.num 7),(.num 400)) (by kernel_rfl) f1 bW bW bW bW bW)) (by (exact be [(B,(.num 13))] (J B (.num 7),(.num 400)) (by kernel_rfl) iR))))) ?_) rfl) ih⟩
  refine Y as7.ok<|Y e<|Y (xu _) ?_;rfl
theorem Tj{s:Sg}{V0 V1 V2 V3 b9 b10:aK}{p t fm:Tm}(bp:Bd p)(hp:fP p)(bW:sz p<= 13)(ct:lv p<=9)(bt:Bd t)(iR:sz t<= 13)(e:normal aa t=fm)(hs:sz fm<=5)(jm:Sh mC fm):
 ∃CY wd,aR au (RR 400) XJ [V0,V1,V2,V3, .v (.d (bH aa)), .v (.me (bH aa)), .v (.d (af t)), .v (.d (af p)), .v (.d (af fm)),b9,b10] s=some (.next [V0,V1,V2,V3, .v (.d (bH aa)), .v (.me (bH aa)), .v (.d (af t)), .v (.d (af p)), .v (.d (af fm)),CY,wd] s):=by
 have nf:Nf aa fm:=e▸sW aa t
 have bf:Bd fm:=e▸bt.normal aa
 have hB:=aij (p:=p) hp nf jm hs
 refine cq (aie ho bp hp bW ct bf nf hs hB 399 (by decide) s) λR nd hm hr=>?_
 have same:∀u:Tm,Bd u->sz u<= 50->normal aa u=fm->RR 400 15 [.me (bH aa), .d (af p), .d (af u)] s=some (.d (.list ((mi R).map de)),s):=λu bu hu eu=>by
  refine cq (ace ho bp hp bu eu hs hB 399 (by (exact be [(B,(.num 13)),(B,(.num 13)),(B,(.num 13)),(B,(.num 13))] (J (.mulL 4 B) (.num 40),(.num 399)) (by kernel_rfl) bW bW bW bW)) (by (exact be [(B,(.num 50))] (J B (.num 6),(.num 399)) (by kernel_rfl) hu)) s) λR2 NU sy lP=>?_
  have:R2.Perm R:=by
   rw[N4 NU nd]
   intro ρ
   rw[hm,sy]
  rw[acb this] at lP
  exact lP
 have bX:∀r∈mi R,pF r:=λr h=>((hm r).mp ((qV gZ R).mem_iff.mp h)).C1 ho nf bf.g hs
 have bB:gI .ne (.list ((mi R).map de)) (.list ((mi R).map de))=some false:=UF (aik bX) (by simp only[gd];exact tv λr zz=>Ff r)
 have hnf:gI .ne (af fm) (af fm)=some false:=UF bf.ok (u9 fm)
 have i7:=rG t
 have pD:=FC t
 have bn:=bt.nested aa (by (exact(aV iR rfl))) (by (exact aO [(B,v1),(v2,v1),(v1,(.num 13)),(v1,(.num 13))] (J v2 B,(.num 50)) rfl pD i7 iR iR))
 have Gz:=Pa aa t
 refine xa (abG aa t bt.g) λgt st=>?_
 have btu:Bd (gA aa t):=pZ gt (by (exact(cN (aA st) iR rfl)))
 have di:R.length< 64:=hB R nd λρ h=>(hm ρ).mp h
 have fZ:=(qV gZ R).length_eq
 refine xe (UG ho (s:=s) (V0:=V0) (V1:=V1) (V2:=V2) (V3:=V3) (V4:= .v (.d (bH aa))) (V8:= .v (.d (af fm))) (V9:= .v (.d (.list ((mi R).map de)))) bp bW ct bt iR e hs (mi R) b10 λρ h=>(hm ρ).mp ((qV gZ R).mem_iff.mp h)) λlQ cH=>?_
 refine(ie (.v (.d (.list ((mi R).map de)))) lQ (dy (ae:=s) (dJ (ay (aj rfl) (ay (aj rfl) (ay (aj rfl) aI))) hr) (io (ae:=s) (fC (yy (t:=false) (u:=false) (dD (ae:=s) (aF:=s) (fB (ae:=s) (aF:=s) (aj rfl) (ay (aj rfl) aI) (DP ho t bt 400 s (by (exact be [(B,(.num 13))] (J B (.num 6),(.num 400)) (by kernel_rfl) iR)))) (aj rfl) (by rw[e];exact hnf)) λzz=>yy (t:=false) (u:=false) (dD (ae:=s) (aF:=s) (fB (ae:=s) (aF:=s) (aj rfl) (ay (aj rfl) (ay (aj rfl) aI)) (same t bt (by (exact(aV iR rfl))) e)) (aj rfl) bB) λzz=>dD (ae:=s) (aF:=s) (fB (ae:=s) (aF:=s) (aj rfl) (ay (aj rfl) (ay (fB (ae:=s) (aF:=s) (aj rfl) (ay (aj rfl) aI) (ada ho t bt 400 s (by (exact be [(B,(.num 13))] (J B (.num 2),(.num 400)) (by kernel_rfl) iR)))) aI)) (same _ bn (by (exact aM [(J B k1,.mulL 2 v1),(v1,(.num 13)),(v1,(.num 13))] (B,(.num 50)) (by kernel_rfl) Gz.1 iR iR)) (by rw[abg,e]))) (aj rfl) bB) rfl) (io (ae:=s) (dD (ae:=s) (aF:=s) (fB (ae:=s) (aF:=s) (aj rfl) (ay (aj rfl) (ay (dJ (ay (aj rfl) (ay (aj rfl) aI)) (adg ho t bt 400 s (by (exact(aV iR rfl))))) aI)) (same _ btu (by (exact(cN (aA st) iR rfl))) (by rw[abi,e]))) (aj rfl) bB) (mh (ae:=s) (cX (aj rfl) (by rw[aw];(exact tM (aA fZ) di))) cH rfl)))))
def XK:S:= .asg 8 (Call 19 [L 6,L 4])<| .ca (.cmp .gt (.bi .len (Call 21 [L 8])) (I 5)) (.asg 8 (.item (L 8) (I (-1)))<| .asg 6 (L 8) .bI) .bI XJ
omit ho in
theorem agi{x:ah}{xs:List ah}:mf (.tuple (xs++[x])) (-1)=some x:=by
 show(jI (xs++[x]).length (-1)).bind _=_
 unfold jI
 refine Y cS ?_
 simp only[bL,dO]
 rw[if_neg XW,if_pos (XX _),iC]
 have:(-1+((xs.length+(0+1):Nat):Int)).toNat=xs.length:=XY _
 refine Y this ?_
 simp
theorem agj{s:Sg}{V0 V1 V2 V3 b8 b9 b10:aK}{p t:Tm}{f:Nat}(hf:f<=2)(hp:t9 pL f p)(ht:t9 mC 2 t):
 ∃b6 NP CY wd,aR au (RR 400) XK [V0,V1,V2,V3, .v (.d (bH aa)), .v (.me (bH aa)), .v (.d (af t)), .v (.d (af p)),b8,b9,b10] s=some (.next [V0,V1,V2,V3, .v (.d (bH aa)), .v (.me (bH aa)),b6, .v (.d (af p)),NP,CY,wd] s):=by
 have bounds:∀f,f<=2->sD f<= 13/\lD f<=9:=by
  intro f hf
  match f,hf with
  |0,_=>decide
  |1,_=>decide
  |2,_=>decide
 have bW:=aB hp.s (bounds f hf).1
 have ct:=aB hp.l (bounds f hf).2
 have iR:=aB ht.s (bounds 2 (by decide)).1
 have bp:Bd p:=pZ (hp.sh.good anV) (by (exact(aV bW rfl)))
 have bt:Bd t:=pZ (ht.sh.good VB) (by (exact(aV iR rfl)))
 have qR:=hp.sh.pat
 have bn:=bt.normal aa
 have Gz:=sJ aa t
 have tX:=qj (normal aa t)
 have yz:ev au (RR 400) (.cmp .gt (.bi .len (Call 21 [L 8])) (I 5)) [V0,V1,V2,V3, .v (.d (bH aa)), .v (.me (bH aa)), .v (.d (af t)), .v (.d (af p)), .v (.d (af (normal aa t))),b9,b10] s=some ([.d (.bool (decide ((5:Int)<(((pre (normal aa t)).map af).length:Nat))))],s):=dD (ae:=s) (aF:=s) (cM (dJ (ay (aj rfl) aI) (HO _ bn 400 s (by (exact(cN Gz.1 iR rfl))))) (rh (by refine Y (aw _) ?_;(exact aO [(B,v1),(v1,v2),(v2,(.num 13))] (B,(.num 100000)) rfl (aA tX) Gz.1 iR)))) bc (qv _ _)
 rw[aw,tX] at yz
 have WP:=IQ ho t bt 400 s (by (exact be [(B,(.num 13))] (J B k1,(.num 400)) (by kernel_rfl) iR))
 by_cases h5:5<sz (normal aa t)
 .refine iz (show ∃init fm,(normal aa t).ks=init++[fm] from by
   have bB:(normal aa t).ks≠[]:=by
    intro q
    have:sz (normal aa t)=bG (normal aa t).ks+1:=by cases normal aa t;rw[dA];rfl
    rw[q,oA] at this
    (exact nz (be [(B,J k0 k1),(J (.num 5) k1,B)] (k1,k0) rfl (aA this) h5))
   exact(ie _ _ ((Ze bB).symm))) λinit fm hl=>?_
  have pf:fm∈(normal aa t).ks:=by refine Y hl ?_;simp
  have nf:=AI (sW aa t) pf
  have f7:sz fm<=4:=by
   by_cases V:bA aa t=true
   .rw[lY aa V] at pf
    refine cr (((gW _).mem_iff.mp pf)) λy hy rt=>?_;clear hl nf;subst rt
    rw[oC aa V] at hy
    refine fD hy λk hk hy=>?_
    exact aB (sJ aa y).1 (aB (AC aa _ k y hy) (ht.k k hk))
   .rw[jt aa V] at pf
    refine cr pf λk hk LG=>?_;clear hl nf;subst LG
    exact aB (sJ aa k).1 (ht.k k hk)
  have apz:=RQ (aa:=aa) t ht.sh
  have XM:Sh mC fm:=λq hq=>apz q (by revert pf;cases normal aa t with|node o l=>exact λpf=>ly pf hq)
  have bfm:Bd fm:=pZ (XM.good VB) (by (exact(aV f7 rfl)))
  have anW:mf (af (normal aa t)) (-1)=some (af fm):=by
   revert hl
   cases normal aa t with|node o l=>
   intro hl
   have hl:l=init++[fm]:=hl
   rw[iD,jw,hl,fk,bE,uF,<- wU]
   exact agi
  refine iz (Tj ho (s:=s) (V0:=V0) (V1:=V1) (V2:=V2) (V3:=V3) (b9:=b9) (b10:=b10) bp qR bW ct bfm (by (exact(aV f7 rfl))) nf (by (exact(aV f7 rfl))) XM) λc9 lQ hu=>?_
  exact(AJ _ _ c9 lQ (dy (ae:=s) (dJ (ay (aj rfl) (ay (aj rfl) aI)) WP) (AF (ae:=s) (fC yz (by rw[decide_eq_true (show(5:Int)<_ from mr (a:=5) (by assumption))])) (dy (ae:=s) (eX (ae:=s) (aF:=s) (aj rfl) bc Qs anW) (dy (ae:=s) (aj rfl) rfl)) hu)))
 .refine iz (Tj ho (s:=s) (V0:=V0) (V1:=V1) (V2:=V2) (V3:=V3) (b9:=b9) (b10:=b10) bp qR bW ct bt iR rfl (by (exact(kw h5))) (RQ (aa:=aa) t ht.sh)) λc9 lQ hu=>?_
  exact(AJ _ _ c9 lQ (dy (ae:=s) (dJ (ay (aj rfl) (ay (aj rfl) aI)) WP) (io (ae:=s) (fC yz (by rw[decide_eq_false (show ¬(5:Int)<_ from yC (a:=5) (by assumption))])) hu)))
end
def XN:ah:= .list [.list [.str sP], .list [.str sP, .str sM], .list []]
theorem agk(v:Nat)(h:v<3):∃aa,ir aa/\mf XN (v:Int)=some (bH aa):=by
 have hP:sP∈al:=tC (by decide+kernel)
 have hM:sM∈al:=tC (by decide+kernel)
 match v,h with
 |0,_=>exact ai ([sP]) (⟨by intro o ho;exact Y (bY.mp ho)<|hP,by simp⟩) rfl
 |1,_=>exact(ai ([sP,sM]) (⟨by
  intro o ho
  simp only[bK,mH,or_false] at ho
  refine a9 ho (λe=>?_) (λe=>?_)
  .exact Y e<|hP
  .exact Y e<|hM,by simp⟩) rfl)
 |2,_=>exact ai ([]) (⟨(λo ho=>absurd ho (by simp)),by simp⟩) rfl
theorem ajt:Gr mC (.str (bl "ab")) 2:=by
 refine⟨by decide,?_,by decide,λv hv=>?_⟩
 .have:(bl "ab").cps.size=2:=by decide+kernel
  show fE ((bl "ab").cps.size:Nat)=_
  exact Y this<|qh (by decide)
 .match v,hv with
  |0,_=>exact ai (bl "a") (by simp[mC]) (by kernel_rfl)
  |1,_=>exact ai (bl "b") (by simp[mC]) (by kernel_rfl)
theorem anY:Gr pL (.list [.str sX, .str sY, .str (bl "a"), .str sX]) 4:=by
 refine⟨by decide,rh (by decide),by decide,λv hv=>?_⟩
 match v,hv with
 |0,_=>exact ai sX (by simp[pL]) rfl
 |1,_=>exact ai sY (by simp[pL]) rfl
 |2,_=>exact ai (bl "a") (by simp[pL]) rfl
 |3,_=>exact ai sX (by simp[pL]) rfl
theorem anZ:∀v,v<2->kD (1+v)<= 17:=by decide
def XO:S:= .asg 4 (.item (hO [hO [Sx "+"],hO [Sx "+",Sx "*"],hO []]) (Call 16 [L 2,I 3]))<| .asg 5 (.mk (L 4))<| .asg 6 (Call 17 [L 2,I 2,Sx "ab"])<| .asg 7 (Call 17 [L 2, .bin .add (I 1) (Call 16 [L 2,I 2]),hO [Sx "?x",Sx "?y",Sx "a",Sx "?x"]]) XK
theorem UH(hc:BP cs)(hk:k<=1000):
 ∃k' c4 c5 c6 c7 c8 c9 lQ,k'<=k+100/\aR au (RR 400) XO [V0,V1, .v .feed,V3,b4,b5,b6,b7,b8,b9,b10] (sg cs k)=some (.next [V0,V1, .v .feed,V3,c4,c5,c6,c7,c8,c9,lQ] (sg cs k')):=by
 have i8:kn=500000000000:=rfl
 have e2:kD 2= 17:=rfl
 have e1:kD 1=5:=rfl
 refine ar (Ao hc (k:=k) (wide:=3) (aV hk rfl) (by decide) 399) λv1 Y2 r1=>ar (agk v1 Y2) λaa ho hi=>bZ (Ej hc ajt 2 (by decide) (k+1) (aB (Df (pK hk) _) (by decide)) 400 (by decide)) λt k2 ht po r2=>ar (Ao hc (k:=k2) (wide:=2) (aB po (aB (Df (pK (by assumption)) _) (by decide))) (by decide) 399) λv2 C5 r3=>?_
 have Y3:=anZ v2 C5
 refine bZ (Ej hc anY (1+v2) (Dj (fA C5) 1) (k2+1) (aB (wZ (pK (aB po (Df (pK hk) _))) Y3) (by decide)) 400 (aB (Df (Dj (fA C5) 1) 2) (by decide))) λp k3 hp hk3 r4=>x6 (agj ho (s:=sg cs k3) (V0:=V0) (V1:=V1) (V2:= .v .feed) (V3:=V3) (b8:=b8) (b9:=b9) (b10:=b10) (f:=1+v2) (be [(J B k1,(.num 2))] (J k1 B,(.num 2)) rfl C5) hp ht) λc6 c8 c9 lQ hT=>acB k3 _ _ c6 _ c8 c9 lQ (aB hk3 (aB (wZ (pK po) Y3) (be [] (J (J (J (J B k1) (.num 17)) k1) (.num 17),J B (.num 100)) rfl))) (dy (ae:=sg cs (k+1)) (eX (ae:=sg cs k) (aF:=sg cs (k+1)) (x:=XN) (ji (vs:=[.d (.list [.str sP]), .d (.list [.str sP, .str sM]), .d (.list [])]) (ay (ji (ay bc aI) rfl) (ay (ji (ay bc (ay bc aI)) rfl) (ay (ji aI rfl) aI))) rfl) (dJ (ae:=sg cs k) (ay (aj rfl) (ay bc aI)) r1) (oy (aB (fA Y2) (by decide))) hi) (dy (ae:=sg cs (k+1)) (apl (aj rfl)) (dy (ae:=sg cs k2) (dJ (ae:=sg cs (k+1)) (ay (aj rfl) (ay bc (ay bc aI))) r2) (dy (ae:=sg cs k3) (dJ (ae:=sg cs (k2+1)) (ay (aj rfl) (ay (eP (ae:=sg cs k2) (aF:=sg cs (k2+1)) bc (dJ (ae:=sg cs k2) (ay (aj rfl) (ay bc aI)) r3) (uT (a:=1) (b:=v2) (wK (Dj (fA C5) 1) (by decide)))) (ay (ji (ay bc (ay bc (ay bc (ay bc aI)))) rfl) aI))) r4) hT))))
noncomputable def uU(ns:List Int):List Nat:=(ns.take 63).map λi=>i.natAbs % 1000003
theorem agl(ns:List Int):BP (uU ns):=by
 refine⟨by unfold uU;refine Y (aw _)<|Y G4 ?_;(exact nA _ _),λc hc=>?_⟩
 refine cr hc λi zz BN=>?_;clear hc;subst BN
 exact DV _ (by decide)
theorem ail(a:Nat):j7 .mod (.int (a:Int)) (.int 1000003)=some (.int ((a % 1000003:Nat):Int)):=by
 refine(An).trans ?_
 unfold WT
 rw[decide_eq_true (show(0:Int)<1000003 by decide),if_pos rfl]
 have:(a:Int) % 1000003=((a % 1000003:Nat):Int):=by refine Y (G3 _ _) ?_;rfl
 refine Y this ?_
 have:=DV a (show 0<1000003 by decide)
 exact ED (by unfold kn;exact be [(J B k1,(.num 1000003))] (J B k1,(.num 500000000000)) (by kernel_rfl) this)
theorem agm(ns:List Int)(h:ns.length<= 63)(n:Nat):ev au (RR n) BL (yx ns) []=some ([.d (.list ((uU ns).map nS))],[]):=by
 have hs:nT (.tN 63) (.list (ns.map .int))=some (.list ((ns.take 63).map .int)):=by
  refine(Jo rfl (by refine Y (aw _) ?_;exact aV h rfl)).trans ?_
  refine Y List.map_take ?_;rfl
 have e:(uU ns).map nS=(ns.take 63).map λi=>kG ((i.natAbs % 1000003:Nat):Int):=by
  unfold uU
  refine Y dW ?_;rfl
 exact Y e<|ge (cX (kR (aj rfl) hs) (Y (aw _)<|Y G4<|aV (nA _ _) rfl)) (λi zz=>(ai _ rfl (eP (cM (d:= .int (i.natAbs:Int)) (aj rfl) rfl) bc (ail _)))) (Y G4<|aV (nA _ _) rfl)
theorem runs:LZ:=by
 intro ns h
 have hc:=agl ns
 generalize Gb:uU ns=cs at hc
 refine P9 (UH hc (k:=0) (by decide) (V0:= .v (.d (.list (ns.map .int)))) (V1:= .un) (V3:= .v (.d (.int ((0:Nat):Int)))) (b4:= .un) (b5:= .un) (b6:= .un) (b7:= .un) (b8:= .un) (b9:= .un) (b10:= .un)) λk1 c4 c5 c6 c7 c8 c9 lQ pn H=>P9 (UH hc (k:=k1) (be [(B,J k0 (.num 100))] (B,(.num 1000)) rfl pn) (V0:= .v (.d (.list (ns.map .int)))) (V1:= .un) (V3:= .v (.d (.int ((1:Nat):Int)))) (b4:=c4) (b5:=c5) (b6:=c6) (b7:=c7) (b8:=c8) (b9:=c9) (b10:=lQ)) λk2 d4 d5 d6 d7 d8 d9 d10 po O=>gq ((uU ns).map nS) (sg cs k2) (agm ns h 400)<|Y Gb ?_
 show aR au (RR 400) F4 (MY ns) (sg cs 0)=_
 have hr:=Rv (n:=2) (by decide)
 exact mh (S₁:=XO) (ae:=sg cs 0) (cX (iw (ay bc aI) rfl hr) (by decide)) (l5 rfl H (l5 rfl O rfl)) (dR bc)
end bh
open PySem PySem.W PyProof.Rows
set_option maxRecDepth 100000 in
set_option maxHeartbeats 8000000 in
theorem bh.cw(runs:bh.LZ):PySem.Challenge.rw_pq0116_02.Holds:=by
 w_on
 refine holds_law (by decide+kernel) λasE=>?_
 refine holds_open (q:=bh.BK) (loose:=[]) (Xt:=λs=>xlAt bh.BK [] s && recOk (abM PySem.Challenge.rw_pq0116_02.row.toRowW) s) (XP:=XL bh.BK []) (Yf:=Hook.obs bh.hook) (Ya:=Hook.val bh.hook) (YP:=Hook.says bh.hook) (N:=3716) bh.left (Hook.of bh.hook) (Hook.keeps bh.hook) (λs e=>xl_of s (oi.mp e).1) XL.keeps (by rfl) (by rfl) (by rfl) (λs e=>recFacts_of (oi.mp e).2) (by rfl) (by first|assumption|decide+kernel) (by decide+kernel) ⟨rfl,rfl,rfl,rfl,rfl,by decide+kernel⟩ ?hw ?hc
 case hw=>w_witness2
 case hc=>
  intro w aZ an mg mb G as0 fa o pm cd doc dV kV ho hd Nh hD Y4 hg args vals as tX M0 hrd hwl Nw
  have KX:=kIn_of as0
  have X:=(Ground.X G).1
  have as7:=(Ground.X G).2
  refine Ground.open G ?_
  intro T as6 D TE TW
  try (refine guard_noD D (by decide+kernel) ?_;clear D)
  obtain⟨_,_,M⟩:=bmod_of_top T
  have TA:=at_of_top T
  try (obtain⟨_,_,he,B0⟩:=based_of_top T rfl Y4 ho hd;have uf:cd=_:=he;subst uf;clear he)
  clear Y4
  wrow_args tX M0 hrd hwl Nw
  refine enter_call ?_
  w_top on
  try refine zu ?_ (λzz zz g=>GoodW.toG g)
  have K0:=below_caller (Top.heap T)
  w_call any ho hd Nh hD T F
  clear hd TA
  exact bh.ai0 runs (by kernel_rfl) (by kernel_rfl) (by assumption) (by assumption) (by assumption) (by assumption) (by kernel_rfl) (by assumption) (by assumption) (by assumption)
theorem PySem.Challenge.cw_pq0116_02_holds : PySem.Challenge.rw_pq0116_02.Holds := by
 exact bh.cw bh.runs
