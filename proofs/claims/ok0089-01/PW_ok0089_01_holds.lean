import PyProof.Rows.All
import Wide.All
import OpenK.AllK
import Wide.FinOn
import PyProof.DictDisplay
import PyProof.AttrMissHeap
import KE.KSortTup
import KE.KDictList
import Lean
import PySem.Challenge.RW_ok0089_01
set_option Elab.async false
set_option autoImplicit true
set_option maxRecDepth 100000
set_option tactic.hygienic false
set_option genInjectivity false
set_option genSizeOf false
set_option maxHeartbeats 8000000
set_option linter.unusedVariables false
set_option linter.unusedSectionVars false
set_option linter.unusedSimpArgs false
section
open Option renaming some→aa,none→ab,none→bd,bind_some→eG,map→gc,map_some→lG,isSome_iff_exists→mO,elim→nr,map_eq_some_iff→sn,isNone_iff_eq_none→wd
open PySem renaming wpAny_bind→af,wpAny→ak,Addr→am,Str→aq,Value→ar,wpAny_pure→au,model→av,Shared→aw,Heap→aB,wpAny_mono→aF,Pos→aK,Env→aS,Keeps→bb,World→bh,Program→bm,Around→bo,intKind→bt,eval→b5,hashInt→cq,NameKind→cF,cellsFrom→dx,pyNext→dZ,Stmt→ej,codeAny→er,cLine→eA,wpAny_holding→fm,Obj→fK,wpAny_call_entry→fO,mainGlobals→fP,wpAny_field→fQ,IsTupleKey→fR,pyIter→fW,wpAny_newObj_type→f8,starEach→gh,execs→gq,foldedSetIterable→gu,codeAny_builtin→gv,sysModules→gy,assign→gL,CmpOp→gQ,again→gR,Flow→gT,notIn_one→g8,standAt→hK,IsPair→hV,wpAny_seqItems→iq,wpAny_standAt→iu,rawInt→iG,wpAny_callSpecial?_slot→iW,wpAny_setState_of→iZ,wpAny_typeOf→i8,sizeLine_eq→ja,wpAny_If→je,IsZip→jp,letOwnedTupleGo→jD,codeAny_mono→jF,wpAny_rule→jG,tupleKind→jK,DictEntry→jL,wpAny_execs_cons→ko,Comprehension→kr,assignEach→ky,relabel→kL,collect→kM,wpAny_Assign_Name→lB,wpAny_setField→lH,plainId_quiet→lI,wpAny_load→lP,scanBound→lR,swapsWith→lT,holding→mi,Result→mj,wpAny_setField_rec→mS,wpAny_assign_Name→mX,wpAny_askSetting→m0,intKind_is→m3,behindInMarks→ni,wpAny_attempt→nj,sizeLine→nA,Operator→nC,compTurn→nD,valueAt→nP,newList→nQ,wpAny_assignInOrder_more→o9,wpAny_pyIter_tuple→ph,wpAny_isInstance→pA,wpAny_runValue→pH,isSubtype_type→pJ,wpAny_onRaise→pM,wpAny_of_eq→pW,lastMarks→qs,relayAll→qH,IsRange→qY,DefRec→rk,wpAny_typeNameOfWhole_keyiter→sd,wpAny_typeNameOf_keyiter→sh,wpAny_Call_method1_late→sk,wpAny_storeSet_of→sB,fits_of_scanBound→sC,wpAny_items_cons→sF,wpAny_forIn_list→sG,codeAny_of_tree→sQ,pushCells_keeps→sR,wpAny_ite_split→sU,wpAny_execs_nil→sV,wpAny_fieldsOf→sZ,firstArgMember→s0,wpAny_Expr_any→tc,attributeBase→tm,swappedStores→tn,strIterType→tE,wpAny_noted→tF,interactive→tG,list_getitem_lookup→v9,wpAny_assignInOrder_none→wg,builtinLookup_eq_fast→wt,wpAny_updateSeq_pair→wz,wpAny_setEntries_of→wC,wpAny_pyIter_list→wG,wpAny_pyIter_slot→wH,wpAny_dictEntries→wI,wpAny_Return_some→wM,noFill_tuple_add→wT,slot_list_append→wU,type_list_append→wV,wpAny_items_nil→wZ,wpAny_dictEpoch→w0,theTreesLotGoes→w2,typeLookup_type→w3,isSubtype_stop→w9,constantsAlone→xa,seq_tuple_add→xg,wpAny_handled→xm,comprehension→xn,foldedForSure→xo,concat_meets→xK,codeAny_loop→xN,wpAny_notOrdered_dict→CH,wpAny_isOneOf_keyiter→CJ,hashByValue_scannable→CK,wpAny_eqIsQuiet_tuple→CL,weight_type_call_type→CN,exec_Assign_Name_used→CP,codeAny_call_builtin→CW,wpAny_isTrue_BoolOp→Dd,wpAny_assign_Tuple→Dp,wpAny_getItem_list→Dq,wpAny_tupleItemsOf→Dr,wpAny_eqBool_tuple→Ds,wpAny_sequenceKey→DA,wpAny_collect_seq→DI,ofAClassStatement→DK,slot_list_setitem→DL,Value→E3
open Eq renaming symm→az,trans→qG
open Nat renaming le_trans→aH,add_right_comm→cf,not_lt→ch,ne_of_lt→cz,zero_le→cG,le_refl→cH,lt_of_le_of_lt→cN,le_add_right→c0,le_of_eq→c5,le_of_lt→c6,lt_of_lt_of_le→du,succ_pos→ef,le_succ→fo,le_add_left→f9,add_le_add_left→gs,add_sub_cancel'→ip,le_of_lt_succ→iY,succ_ne_zero→i0,lt_succ_self→i3,lt_irrefl→i6,ne_of_gt→jE,min_le_left→kq,succ_add→lM,lt_of_le_of_ne→mR,le_succ_of_le→mV,min_le_right→mZ,min_eq_left→m4,not_le→nu,add_le_add_right→pd,add_right_cancel→pe,lt_or_eq_of_le→pf,sub_add_cancel→pg,le_of_succ_le→po,le_antisymm→pD,add_le_add→pG,lt_trans→pR,lt_min→qf,sub_le→qg,lt_of_sub_eq_succ→so,lt_of_lt_of_eq→sv,lt_succ_of_lt→sD,not_lt_zero→sM,ne_add_one→sY,zero_add→tx,add_comm→ty,sub_eq_zero_of_le→wp,lt_sub_of_add_lt→ww,le_sub_one_of_lt→wx,one_lt_succ_succ→wy,min_eq_right→wR,succ_le_succ→wS,le_total→xH,le_of_add_right_le→CD,sub_one_lt_of_lt→CS,div_lt_of_lt_mul→CT,add_lt_add_right→CU,mul_le_mul_left→Dc
open List renaming mem_cons→aL,mem_cons_of_mem→aN,mem_singleton→aV,mem_cons_self→aY,length_map→aZ,not_mem_nil→a7,all_eq_true→bq,mem_append→bC,mem_filter→b3,map_cons→b7,size_toArray→cx,getElem?_map→cy,map_map→cU,range→c8,mem_map→dj,getElem?_eq_getElem→dt,length_cons→el,mem_range→en,mem_append_right→fi,getElem?_eq_some_iff→fL,mem_of_getElem?→fM,getD_eq_getElem?_getD→f7,map_congr_left→gt,length_append→gX,isEmpty_iff→gY,nodup_cons→gZ,getElem?_eq_none→ij,mem_append_left→im,pairwise_cons→iX,map_append→i4,length_filter_le→jA,append_assoc→lA,lookup_cons→lC,map_nil→lL,drop_eq_getElem_cons→mN,zip_cons_cons→mT,append_nil→m6,forIn_cons→m7,getElem?_zip_eq_some→o8,contains_iff_mem→pc,flatten_cons→pp,filter_cons→pB,length_take→pC,map_id→pX,range'→pY,getElem?_eq_none_iff→sg,filterMap_cons→su,ext_getElem?→sy,length_range→sA,drop_length→sH,mem_flatMap→sJ,getElem_mem→sK,mem_flatten→sL,isPerm_iff→sT,of_mem_zip→sW,forIn_nil→ta,getElem?_toArray→wq,take_append_drop→ws,dropLast_eq_take→wv,mem_of_getLast?→wA,getElem?_range→wB,getElem?_take→wE,contains_cons→wF,getElem?_inj→wK,pairwise_map→wL,nodup_append→wO,flatMap_cons→wP,any_eq_true→wW,find?_cons→w5,nodup_nil→xc,any_cons→xq,all_cons→xw,map_set→xP,eraseIdx_eq_take_drop_succ→Cj,length_eq_zero_iff→Cz,dropLast_sublist→CQ,mem_of_mem_take→CX,filter_sublist→Df,flatten_append→Dg,length_pos_iff→Dj,getElem?_drop→Dm,findIdx?_cons→Do,take_add_one→DD,map_inj_left→DM,mem_of_head?→DO
open PySem.Heap renaming get?_push_of_some→bc,lt_size→bH,get?_push_size→b9,size_push→em,SameBut→g5,get?_update_self→pb,IsTuple→xM
open Bool renaming and_eq_true→bX,false_ne_true→fN,not_eq_true→jB,or_eq_true→lF,and_true→lJ,not_eq_true'→pn,and_eq_true_iff→sq,false_eq_true→sw,eq_iff_iff→sS,false_or→tj,decide_and→w4,or_eq_true_iff→Dh,eq_false_iff→DN
open Int renaming toNat→bY,fmod_nonneg_of_pos→lx,toNat_natCast→lz,natAbs→lO,fmod_lt_of_pos→mU,le_of_lt→nk,lt_trans→pQ,one_mul→tH,not_lt→tQ,fmod_eq_emod_of_nonneg→v8,natCast_nonneg→wD,ofNat_lt→xG,ne_of_lt→xI,ediv_one→xL,eq_ofNat_of_zero_le→Cy,sub_nonneg_of_le→CR,toNat_of_nonneg→CZ,ne_iff_lt_or_gt→Db,sub_add_cancel→Dk,lt_of_le_of_lt→Dl
open PySem.Value renaming none→c7,ref→dw,type→jH,int→jM,noConfusion→si
open PySem.SetTable renaming insertAt→di,grown→i5,sizeAbove→pi,Probe→xd,layClean→DF
open Ne renaming symm→dp
open PySem.NameKind renaming free→dE,cell→gw
open PyProof.Rows renaming seqObj→dG,IntsAre→gG,get?_update_seq→m8,listUpdate_at→xu,slicePart_none→Cq,slot_tuple_getitem→Dn
open LawfulBEq renaming eq_of_beq→eq
open PySem.Heap.SameBut renaming update→eF,refl→DJ
open PySem.Env renaming kindOf→eH
open PySem.F renaming called_set→fj,slot_dict_keyiterator_next→o7,plainAttrs_list→pv,slot_tuple_iterator_next→sf,plain_list_iadd→sj,slot_zip_next→sO,args_tuple_add_2→we,slot_list_getattribute→wh,entry_tuple_add→wi,slot_tuple_add→wl,args_dict_keyiterator_next_1→Ck,entry_dict_keyiterator_next→Cm,args_tuple_iterator_next_1→Co,entry_tuple_iterator_next→Cr,entry_proto_collect→Cs,plain_proto_collect→Ct,slot_tuple_getitem→Cv,entry_list_iadd→CA,entry_type_call→CC,typeCall_set_1→CE,entry_set_init→CF,plain_set_new→CM,slot_set_iter→CO,slot_list_extend→Dw,args_zip_next_1→DC,plain_list_iadd→DH
open PySem.Obj renaming mapSeq→fq,data_mapFields→kn,putSet→kz,isFreed_of_fields→sp,cls_mapFields→sz,mapFields→xj
open Iff renaming rfl→gH
open PySem.Around renaming under_plainId→io,under_plain→Dv
open PySem.Str renaming ofString→i7
open PySem.Calls renaming docDef→i9,Name_function_global→ki,loadGlobal_builtin→lw,callWith_builtin→pa,evalArgs_plain→sr,spliced_cons→sx,spliced_nil→sE,call_len_list→Di
open Option.some renaming inj→jC,injEq→mY
open PySem.Builtin.SmallTypes renaming nextOf→kj,ownedTupleIsFree→Ci,ownedTupleHandOut→Rh
open Array renaming getElem?_eq_getElem→kl,getElem?_toList→mP,length_toList→mQ,getD→tR,getElem?_eq_none→wm,toList_filterMap→wo,getD_eq_getD_getElem?→Cu,getElem?_eq_some_iff→Cw,mem_toList_iff→CV,forIn_toList→Dt
open PySem.Builtin.Range renaming rangeSize→km,small→ly,rangeFitsLong→se
open PySem.W.Hook renaming none→kA
open PySem.W renaming kas_asc→kN,kas_sort→l7,kas_place→qt
open PySem.Pv renaming callWith_type1→mW
open PySem.PyData renaming depthAll→m5,strOk→xJ,canLayAll0→Dz
open Nat.succ renaming inj→nm
open Decidable renaming isFalse→nO
open PySem.SetTable.probe renaming go→pj
open List.Perm renaming refl→pI
open PUnit renaming unit→qh
open ForInStep renaming yield→sP
open Prod.mk renaming injEq→ti
open PySem.Builtin.List renaming listExtendWith→v7
open PySem.Builtin.Slice renaming sliceAdjust→wa,slicePlaces→wb
open PySem.Builtin.Tuple renaming tupleExact→wf
open PyProof.Rows.F renaming plain_set_update_loop→wj,entry_set_update_loop→CB
open List.Pairwise renaming nil→wJ
open PySem.P renaming lt_int→w8
open PySem.Shared renaming TypeIs→xp
open PySem.pickOrder renaming go→xO
open PySem.Builtin.Dict_items renaming ownsTuple→Cn
open PySem.Builtin.Frozenset renaming updateFrom→Cp
open PySem.Builtin.Dict renaming showsAll→CI
open PySem.Code renaming quiet_builtin→Du
open PySem.Heap.IsTuple renaming push→DB
open List.Sublist renaming refl→DE
open PySem.Challenge renaming pw_ok0089_01→Ri,rw_ok0089_01→Rj
namespace Mine
open PySem PySem.Calls PySem.W PyProof.Rows
section
universe u1 u2 u3 u4 u5 u6 u7 u8 u9 u10
theorem nS{α:Type}{a:α}{P:Prop}(h:ab=aa a):P:=by cases h
theorem sN{α:Type}{a:α}{P:Prop}(h:aa a=ab):P:=by cases h
theorem sI{α:Type}{a b:α}(h:aa a=aa b):a=b:=jC h
theorem nB{P:Prop}(h:false=true):P:=nomatch h
theorem nT{P:Prop}(h:true=false):P:=nomatch h
theorem lk{P:Prop}(h:∀ G:Prop,(P->G)->G):P:=h P id
@[elab_as_elim] theorem rl {α:Type} {a b:α} {p:α->Prop} (h:a=b) (x:p b):p a:=h ▸ x
@[elab_as_elim] theorem rp {a b:Prop} {p:Prop->Prop} (h:a↔b) (x:p b):p a:=propext h ▸ x
theorem ae{α1:Sort u1}{P:α1->Prop}{G:Prop}(h:∃ x1,P x1)(f:∀ x1,P x1->G):G:=h.elim f
theorem aM{α1:Sort u1}{α2:Sort u2}{P:α1->α2->Prop}{G:Prop}(h:∃ x1 x2,P x1 x2)(f:∀ x1 x2,P x1 x2->G):G:=ae h fun x1 q=>ae q (f x1)
theorem aP{α1:Sort u1}{α2:Sort u2}{α3:Sort u3}{P:α1->α2->α3->Prop}{G:Prop}(h:∃ x1 x2 x3,P x1 x2 x3)(f:∀ x1 x2 x3,P x1 x2 x3->G):G:=ae h fun x1 q=>aM q (f x1)
theorem dK{α1:Sort u1}{α2:Sort u2}{α3:Sort u3}{α4:Sort u4}{P:α1->α2->α3->α4->Prop}{G:Prop}(h:∃ x1 x2 x3 x4,P x1 x2 x3 x4)(f:∀ x1 x2 x3 x4,P x1 x2 x3 x4->G):G:=ae h fun x1 q=>aP q (f x1)
theorem k5{α1:Sort u1}{α2:Sort u2}{α3:Sort u3}{α4:Sort u4}{α5:Sort u5}{P:α1->α2->α3->α4->α5->Prop}{G:Prop}(h:∃ x1 x2 x3 x4 x5,P x1 x2 x3 x4 x5)(f:∀ x1 x2 x3 x4 x5,P x1 x2 x3 x4 x5->G):G:=ae h fun x1 q=>dK q (f x1)
theorem Bk{α1:Sort u1}{α2:Sort u2}{α3:Sort u3}{α4:Sort u4}{α5:Sort u5}{α6:Sort u6}{P:α1->α2->α3->α4->α5->α6->Prop}{G:Prop}(h:∃ x1 x2 x3 x4 x5 x6,P x1 x2 x3 x4 x5 x6)(f:∀ x1 x2 x3 x4 x5 x6,P x1 x2 x3 x4 x5 x6->G):G:=ae h fun x1 q=>k5 q (f x1)
theorem Bl{α1:Sort u1}{α2:Sort u2}{α3:Sort u3}{α4:Sort u4}{α5:Sort u5}{α6:Sort u6}{α7:Sort u7}{P:α1->α2->α3->α4->α5->α6->α7->Prop}{G:Prop}(h:∃ x1 x2 x3 x4 x5 x6 x7,P x1 x2 x3 x4 x5 x6 x7)(f:∀ x1 x2 x3 x4 x5 x6 x7,P x1 x2 x3 x4 x5 x6 x7->G):G:=ae h fun x1 q=>Bk q (f x1)
theorem Px{α1:Sort u1}{α2:Sort u2}{α3:Sort u3}{α4:Sort u4}{α5:Sort u5}{α6:Sort u6}{α7:Sort u7}{α8:Sort u8}{P:α1->α2->α3->α4->α5->α6->α7->α8->Prop}{G:Prop}(h:∃ x1 x2 x3 x4 x5 x6 x7 x8,P x1 x2 x3 x4 x5 x6 x7 x8)(f:∀ x1 x2 x3 x4 x5 x6 x7 x8,P x1 x2 x3 x4 x5 x6 x7 x8->G):G:=ae h fun x1 q=>Bl q (f x1)
theorem ac{p1 p2 G:Prop}(h:p1/\p2)(f:p1->p2->G):G:=h.elim f
theorem aE{p1 p2 p3 G:Prop}(h:p1/\p2/\p3)(f:p1->p2->p3->G):G:=ac h.2 (f h.1)
theorem bR{p1 p2 p3 p4 G:Prop}(h:p1/\p2/\p3/\p4)(f:p1->p2->p3->p4->G):G:=aE h.2 (f h.1)
theorem cX{p1 p2 p3 p4 p5 G:Prop}(h:p1/\p2/\p3/\p4/\p5)(f:p1->p2->p3->p4->p5->G):G:=bR h.2 (f h.1)
theorem d4{p1 p2 p3 p4 p5 p6 G:Prop}(h:p1/\p2/\p3/\p4/\p5/\p6)(f:p1->p2->p3->p4->p5->p6->G):G:=cX h.2 (f h.1)
theorem vA{p1 p2 p3 p4 p5 p6 p7 G:Prop}(h:p1/\p2/\p3/\p4/\p5/\p6/\p7)(f:p1->p2->p3->p4->p5->p6->p7->G):G:=d4 h.2 (f h.1)
theorem Py{p1 p2 p3 p4 p5 p6 p7 p8 G:Prop}(h:p1/\p2/\p3/\p4/\p5/\p6/\p7/\p8)(f:p1->p2->p3->p4->p5->p6->p7->p8->G):G:=vA h.2 (f h.1)
theorem vB{p1 p2 p3 p4 p5 p6 p7 p8 p9 G:Prop}(h:p1/\p2/\p3/\p4/\p5/\p6/\p7/\p8/\p9)(f:p1->p2->p3->p4->p5->p6->p7->p8->p9->G):G:=Py h.2 (f h.1)
theorem oA{n i:Nat}(h:i < n):n - (i+1) < n - i:=Nat.sub_succ_lt_self _ _ h
theorem oQ{x:Nat}(h:x < 2):x=0\/x=1:=(pf (iY h)).imp Nat.lt_one_iff.mp id
theorem vQ{x:Nat}(h:x < 3):x=0\/x=1\/x=2:=(pf (iY h)).elim (fun h=>(oQ h).imp id .inl) fun h=>.inr (.inr h)
theorem oB4{x:Nat}(h:x < 4):x=0\/x=1\/x=2\/x=3:=(pf (iY h)).elim (fun h=>(vQ h).imp id fun h=>h.imp id .inl) fun h=>.inr (.inr (.inr h))
theorem oB5{x:Nat}(h:x<=4):x=0\/x=1\/x=2\/x=3\/x=4:=(pf h).elim (fun h=>(oB4 h).imp id fun h=>h.imp id fun h=>h.imp id .inl) fun h=>.inr (.inr (.inr (.inr h)))
theorem rQ{x:Int}(h:0<=x)(k:x < 4):x=0\/x=1\/x=2\/x=3:=by
 obtain ⟨n,rfl⟩:=Cy h;rcases oB4 (xG.mp k) with rfl|rfl|rfl|rfl
 . exact .inl rfl
 . exact .inr (.inl rfl)
 . exact .inr (.inr (.inl rfl))
 . exact .inr (.inr (.inr rfl))
theorem vR{x:Int}(h:0<=x)(k:x < 3):x=0\/x=1\/x=2:=(rQ h (pQ k (by decide))).imp id fun e=>e.imp id fun e=>e.elim id fun e=>absurd (e ▸ k) (by decide)
theorem oI2{x:Int}(h:0<=x)(k:x < 2):x=0\/x=1:=(vR h (pQ k (by decide))).imp id fun e=>e.elim id fun e=>absurd (e ▸ k) (by decide)
theorem oJ{x a:Int}(h:x - 1=a):x=a+1:=by rw [←h,Dk]
theorem vS{x:Int}(h:1<=x/\x<=4):x=1\/x=2\/x=3\/x=4 :=
 (rQ (x:=x - 1) (CR h.1) (Dl (Int.sub_le_sub_right h.2 1) (by decide))).imp oJ fun e=>e.imp oJ fun e=>e.imp oJ oJ
theorem oC{n e:Nat}:min n e+(e - n+1)=e+1:=by rw [←Nat.add_assoc];congr 1;rcases xH n e with h|h;(rw [m4 h,ip h]);(rw [wR h,wp h];rfl)
theorem oS{a b k:Nat}(h:a - b=k+1):a - (b+1)=k:=by rw [Nat.sub_succ,h];rfl
theorem oT{a b k:Nat}(h:a - b=k+1):b < a:=Nat.lt_of_sub_pos (h ▸ ef k)
theorem oZ{a b:Nat}(h:a - b=0)(k:b<=a):b=a:=pD k (Nat.le_of_sub_eq_zero h)
theorem oV{a:Int}{n:Nat}(h:a.natAbs<=n):a.toNat<=n:=aH (Int.toNat_le.mpr Int.le_natAbs) h
theorem oE{a b:Nat}(h:a<=b)(k:¬ a < b):a=b:=pD h (ch.mp k)
theorem aR{α1:Sort u1}{α2:Sort u2}{P:α1->α2->Prop}(x1:α1)(x2:α2)(h:P x1 x2):∃ x1 x2,P x1 x2:=⟨x1,x2,h⟩
theorem ck{α1:Sort u1}{α2:Sort u2}{α3:Sort u3}{P:α1->α2->α3->Prop}(x1:α1)(x2:α2)(x3:α3)(h:P x1 x2 x3):∃ x1 x2 x3,P x1 x2 x3:=⟨x1,x2,x3,h⟩
theorem h8{α1:Sort u1}{α2:Sort u2}{α3:Sort u3}{α4:Sort u4}{P:α1->α2->α3->α4->Prop}(x1:α1)(x2:α2)(x3:α3)(x4:α4)(h:P x1 x2 x3 x4):∃ x1 x2 x3 x4,P x1 x2 x3 x4:=⟨x1,x2,x3,x4,h⟩
theorem k9{α1:Sort u1}{α2:Sort u2}{α3:Sort u3}{α4:Sort u4}{α5:Sort u5}{P:α1->α2->α3->α4->α5->Prop}(x1:α1)(x2:α2)(x3:α3)(x4:α4)(x5:α5)(h:P x1 x2 x3 x4 x5):∃ x1 x2 x3 x4 x5,P x1 x2 x3 x4 x5:=⟨x1,x2,x3,x4,x5,h⟩
theorem Pz{α1:Sort u1}{α2:Sort u2}{α3:Sort u3}{α4:Sort u4}{α5:Sort u5}{α6:Sort u6}{α7:Sort u7}{α8:Sort u8}{P:α1->α2->α3->α4->α5->α6->α7->α8->Prop}(x1:α1)(x2:α2)(x3:α3)(x4:α4)(x5:α5)(x6:α6)(x7:α7)(x8:α8)(h:P x1 x2 x3 x4 x5 x6 x7 x8):∃ x1 x2 x3 x4 x5 x6 x7 x8,P x1 x2 x3 x4 x5 x6 x7 x8:=⟨x1,x2,x3,x4,x5,x6,x7,x8,h⟩
theorem iT{β:Type}{c:Prop}[i:Decidable c]{x:Option β}{r:β}(h:(if c then x else ab)=aa r):c/\x=aa r:=by
 cases i with
 |isFalse _=>exact nS h
 |isTrue q=>exact ⟨q,h⟩
theorem iF{β:Type}{c:Prop}[i:Decidable c]{x:Option β}{r:β}(h:(if c then ab else x)=aa r):¬c/\x=aa r:=by
 cases i with
 |isTrue _=>exact nS h
 |isFalse q=>exact ⟨q,h⟩
theorem oB{α β:Type}{o:Option α}{f:α->Option β}{r:β}(h:o.bind f=aa r):∃ a,o=aa a/\f a=aa r:=by
 rcases o with _|a
 . cases h
 . exact ⟨a,rfl,h⟩
theorem oM{α β:Type}{o:Option α}{f:α->β}{r:β}(h:o.map f=aa r):∃ a,o=aa a/\f a=r:=by
 rcases o with _|a
 . cases h
 . exact ⟨a,rfl,jC h⟩
theorem iN{β:Type}{b:Bool}{x:Option β}{r:β}(h:(if b=true then ab else x)=aa r):b=false/\x=aa r:=by
 rcases b with _|_
 . exact ⟨rfl,h⟩
 . cases h
theorem iS{β:Type}{b:Bool}{x:Option β}{r:β}(h:(if b=true then x else ab)=aa r):b=true/\x=aa r:=by
 rcases b with _|_
 . cases h
 . exact ⟨rfl,h⟩
theorem iP{β:Type}{c:Prop}[i:Decidable c]{x:Option β}{r:β}(h:(if c then x else ab)=aa r):c/\x=aa r:=by
 cases i with
 |isFalse _=>cases h
 |isTrue q=>exact ⟨q,h⟩
theorem bA{a b:Bool}(h:(a && b)=true):a=true/\b=true:=sq.mp h
theorem bO{a b:Bool}(h:(a || b)=false):a=false/\b=false:=Bool.or_eq_false_iff.mp h
theorem bN{a:Bool}(h:(!a)=true):a=false:=by cases a<;>first|rfl|cases h
theorem ax{α β:Type}{o:Option α}{f:α->Option β}{r:β}(h:o.bind f=aa r){G:Prop}(k:∀ a,o=aa a->f a=aa r->G):G:=(oB h).elim fun a q=>k a q.1 q.2
theorem aG{α β:Type}{o:Option α}{f:α->β}{r:β}(h:o.map f=aa r){G:Prop}(k:∀ a,o=aa a->f a=r->G):G:=(oM h).elim fun a q=>k a q.1 q.2
theorem bJ{β:Type}{b:Bool}{x:Option β}{r:β}(h:(if b=true then x else ab)=aa r){G:Prop}(k:b=true->x=aa r->G):G:=k (iS h).1 (iS h).2
theorem bL{β:Type}{c:Prop}[i:Decidable c]{x:Option β}{r:β}(h:(if c then x else ab)=aa r){G:Prop}(k:c->x=aa r->G):G:=k (iP h).1 (iP h).2
theorem ju{β:Type}{b:Bool}{x:Option β}{r:β}(h:(if b=true then ab else x)=aa r){G:Prop}(k:b=false->x=aa r->G):G:=k (iN h).1 (iN h).2
theorem oR{β:Type}{c:Prop}[i:Decidable c]{x:Option β}{r:β}(h:(if c then ab else x)=aa r){G:Prop}(k:¬c->x=aa r->G):G:=k (iF h).1 (iF h).2
theorem ct{a b:Bool}(h:(a && b)=true){G:Prop}(k:a=true->b=true->G):G:=k (bA h).1 (bA h).2
theorem bB{α β:Type}{f:α->β}{l:List α}{b:β}(h:b∈l.map f){G:Prop}(k:∀ a,a∈l->f a=b->G):G:=(dj.mp h).elim fun a q=>k a q.1 q.2
theorem jv{α:Type}{p:α->Bool}{l:List α}{a:α}(h:a∈l.filter p){G:Prop}(k:a∈l->p a=true->G):G:=k (b3.mp h).1 (b3.mp h).2
theorem j9{α:Type}{l:List α}{a:α}(h:a∈l){G:Prop}(k:∀ i:Nat,l[i]? = aa a->G):G:=(List.mem_iff_getElem?.mp h).elim k
theorem ln{α β:Type}{l₁:List α}{l₂:List β}{z:α×β}{i:Nat}(h:(l₁.zip l₂)[i]? = aa z){G:Prop}(k:l₁[i]? = aa z.1->l₂[i]? = aa z.2->G):G:=k (o8.mp h).1 (o8.mp h).2
theorem iO{s s':PySem.Shared}(h:PySem.Keeps s s'){G:Prop}(k:∀ h' tk,s' = { s with heap:=h',toks:=tk }->(∀ b o,s.heap.get? b=aa o->h'.get? b=aa o)->G):G:=h.elim fun a h=>h.elim fun b h=>k a b h.1 h.2
theorem nsK{h:PySem.Heap}{a:PySem.Addr}{m:PySem.Str->Option E3}(h_:h.Ns a m){G:Prop}(k:∀ o es ep,h.get? a=aa o->o.data = .dict es ep->PySem.StrKeys es->(∀ name,PySem.nsFind es name=m name)->G):G:=aP h_ fun o es ep y1=>bR y1 fun h1 h2 h3 h4=>k o es ep h1 h2 h3 h4
theorem f4{h:PySem.Heap}{c:PySem.Addr}{v:Option E3}(h_:h.IsCell c v){G:Prop}(k:∀ o,h.get? c=aa o->o.data = .cell v->G):G:=ae h_ fun o y1=>ac y1 fun h1 h2=>k o h1 h2
section
variable {a b c d e f g h i j:Nat} {p q r t u v w:Int}
theorem ka(h0:a+(c+1)<=b):a < b:=Nat.lt_of_add_right_lt h0
theorem vT(h0:b=c)(h1:a < c):a < b:=sv h1 (id (az h0))
theorem vU(h0:a+(b+1)<=c):a+1+b<=c:=aH (c5 (cf a 1 b)) h0
theorem oq3(h0:b < 1):¬(a < b):=fun z=>absurd (cN (cG _) z) (ch.mpr (iY h0))
theorem oq4(h0:b<=100)(h1:a<=1000):a+b<=10000:=aH (pG h1 h0) (by decide)
theorem oU(h0:0<=p):¬(p < 0):=Int.not_lt_of_ge h0
theorem oW(h0:1<=a):a - 1 < a:=CS h0
theorem oq7(h0:2<=a):1+1+(a - (1+1))<=a:=c5 (ip h0)
theorem oq8(h0:2<=a):1 < a:=Nat.lt_of_succ_le h0
theorem oq9(h0:2<=a):1 < 1+(a - 1):=Nat.lt_add_of_pos_right (ww h0)
theorem om:a<=a:=cH a
theorem rB(h0:a+1<=a):False:=Nat.not_succ_le_self a h0
theorem on(h0:b < a):0 < a:=Nat.zero_lt_of_lt h0
theorem rC(h0:b<=10)(h1:a<=b):a<=10000:=aH h1 (aH h0 (by decide))
theorem PA(h0:c+(b+1)<=10000)(h1:a<=c+1):a+b<=10000:=aH (pd h1 b) (aH (c5 (cf c 1 b)) h0)
theorem PB(h0:a<=5000)(h1:b<=60):a+b<=10000:=aH (pG h0 h1) (by decide)
theorem rE:a < a+(b+1):=by simp at * <;> first|assumption|grind
theorem vC(h0:a < b+1+c):a < b+(c+1):=du h0 (c5 (cf b 1 c))
theorem vE(h0:a<=b)(h1:b < a):False:=ch.mpr h0 h1
theorem Bm(h0:c < a/\a<=b):a - 1 < b:=du (Nat.sub_lt (cN (cG _) h0.1) Nat.one_pos) h0.2
theorem vF(h0:b<=10000)(h1:a=b):a<=100000:=h1.symm ▸ aH h0 (by decide)
theorem vG(h0:p < q):p < q+1:=pQ h0 (Int.lt_succ q)
theorem vH(h0:p < q):p≠q:=xI h0
theorem PC(h0:a+(b+1)<=10):a+1+b<=10:=aH (c5 (cf a 1 b)) h0
theorem PE(h0:c+(b+1)<=10000)(h1:a<=c+1/\d<=e+1):a+b<=10000:=aH (pd h1.1 b) (aH (c5 (cf c 1 b)) h0)
theorem PF(h0:c+(b+1)<=10000)(h1:d<=e+1/\a<=c+1):a+b<=10000:=aH (pd h1.2 b) (aH (c5 (cf c 1 b)) h0)
theorem vI(h0:a=20):a<=100:=by subst h0;decide
theorem Bn(h0:bY p+b < a):bY p<=a:=c6 (cN (c0 _ _) h0)
theorem Bo(h0:¬(bY p+b < a)):a<=min (bY p) a+b:=by rcases xH (bY p) a with k|k;(rw [m4 k];exact ch.mp h0);(rw [wR k];exact c0 _ _)
theorem Bp:(¬((a:Int) < 0)):=Int.not_ofNat_neg a
theorem Bq:a+3≠a+1:=by simp at * <;> first|assumption|grind
theorem Br:a≠a+1:=sY a
theorem Bs(h0:a+10 * 1 < b):a+1 < b:=cN (gs (by decide:1<=10*1) a) h0
theorem Bt(h0:b<=9)(h1:a+10 * 1 < d):a+min b c < d:=cN (gs (aH (kq _ _) (mV h0)) _) h1
theorem Bu(h0:a < b):a < b+c:=Nat.lt_add_right c h0
theorem Bv(h0:¬(a < 2)):0 < a:=du (by decide) (ch.mp h0)
theorem Bw(h0:a < b)(h1:¬(a=b - 1)):a < b - 1:=mR (wx h0) h1
theorem Bx(h0:a < b+1)(h1:¬(a=b)):a < b:=mR (iY h0) h1
theorem By(h0:a<=b+1+c):a<=b+(c+1):=aH h0 (c5 (cf b 1 c))
theorem PG(h0:2<=a):1+(a - 1)<=a:=c5 (ip (c6 h0))
theorem PH(h0:2<=b)(h1:a<=1+1+(b - (1+1))):a+(b - a)<=b:=by rw [ip h0] at h1;exact c5 (ip h1)
theorem PJ(h0:2<=b)(h1:a<=1+1+(b - (1+1))):a<=b:=by rwa [ip h0] at h1
theorem Bz(h0:b<=c)(h1:¬(a ≥ b)):(a+b) / 2 < c:=du (CT (by rw [Nat.two_mul];exact CU (nu.mp h1) _)) h0
theorem PK(h0:b < a):¬(a<=b):=Nat.not_le_of_lt h0
theorem BA(h0:b+1 < c):min a b+(b - a+1) < c:=oC.symm ▸ h0
theorem BB:a+1<=a+1:=cH (a+1)
theorem BC(h0:p < r)(h1:r < q):p < q:=pQ h0 h1
theorem BD(h0:a<=1000):a+1 < 4096:=cN (wS h0) (by decide)
theorem BE(h0:p≠q)(h1:¬(q < p)):p < q:=by omega
theorem PM(h0:p=r)(h1:q=r):p=q:=h0.trans h1.symm
theorem PN(h0:¬(p=q))(h1:q=p):False:=(iff_false_intro h0).mp (id (az h1))
theorem BF(h0:b<=3)(h1:a<=b):a<=100000:=aH h1 (aH h0 (by decide))
theorem BG(h0:a=2):a<=3:=by subst h0;decide
theorem BH(h0:p - q=0):p=q:=Int.eq_of_sub_eq_zero h0
theorem BI(h0:q < p):p≠q:=dp (xI h0)
theorem BJ(h0:0<=a/\a < 0+b):a < b:=tx b ▸ h0.2
theorem BK(h0:b<=10)(h1:a<=b):a<=100000:=aH h1 (aH h0 (by decide))
theorem rF(h0:a < 0+b):a < b:=by simp at * <;> first|assumption|grind
theorem BL:min 20 a<=20:=kq 20 a
theorem BM:min (bY p) 3<=3:=mZ p.toNat 3
theorem BO(h0:a+b<=10000):a<=100000:=aH (c0 a _) (aH h0 (by decide))
theorem PO(h0:a+(b+1)<=64):a+1+b<=64:=aH (c5 (cf a 1 b)) h0
theorem PP(h0:a+10 * (b+1) < c):a+1+10 * b < c:=cN (c5 (cf a 1 _)) (cN (gs (by decide:1<=10) _) h0)
theorem PQ(h0:a+(b+1) < c):a+1+b < c:=cN (c5 (cf a 1 b)) h0
theorem PR(h0:a+10 * (b+1) < c):a+3+10 * b < c:=cN (c5 (cf a 3 _)) (cN (gs (by decide:3<=10) _) h0)
theorem PS(h0:c+d<=100000)(h1:c=a)(h2:d=b):a+b<=100000:=h1 ▸ h2 ▸ h0
theorem PT(h0:bY p < a)(h1:¬(p < 0)):((0<=p)/\(p < (a:Int))):=⟨tQ.mp h1,Dl (Int.self_le_toNat p) (xG.mpr h0)⟩
theorem PU(h0:a < b)(h1:a < bY p):a < min (bY p) b:=qf.mpr ⟨h1,h0⟩
theorem PV(h0:¬(a < bY p)):¬(a < min (bY p) b):=fun z=>h0 (qf.mp z).1
theorem PW(h0:¬(a < b)):¬(a < min (bY p) b):=fun z=>h0 (qf.mp z).2
theorem PX(h0:bY p+a < b):a < b - min (bY p) b:=ww (cN (gs (kq _ _) _) (ty _ a ▸ h0))
theorem PY(h0:bY q+a < b)(h1:bY q+a < bY p):a < min (bY p) b - min (bY q) b:=by rw [m4 (c6 (cN (c0 _ _) h0))];exact ww (ty a _ ▸ qf.mpr ⟨h1,h0⟩)
theorem PZ(h0:¬(bY q+a < bY p)):¬(a < min (bY p) b - min (bY q) b):=fun z=>by have z:=Nat.add_lt_of_lt_sub z;have w:=qf.mp z;rcases xH (bY q) b with k|k;(rw [m4 k] at w;exact h0 (ty _ _ ▸ w.1));(rw [wR k] at w;exact absurd w.2 (ch.mpr (f9 _ _)))
theorem P0:min (bY p) a<=a+b:=aH (mZ _ _) (c0 _ _)
theorem P3(h0:0<=p):((max 0 (min p (a:Int)))=(min p (a:Int))):=Int.max_eq_right (Int.le_min.mpr ⟨h0,wD _⟩)
theorem P4:¬(1 < 0):=sM 1
theorem P5:1 > 0:=Nat.one_pos
theorem P6:((bY ((((a:Int) - (b:Int)) - 1)+1))=(a - b)):=by simp at * <;> first|assumption|grind
theorem P7(h0:(¬((b:Int) < (a:Int)))):bY 0=a - b:=(wp (Int.ofNat_le.mp (tQ.mp h0))).symm
theorem P8:((bY ((a:Int)+((b:Int) * 1)))=(a+b)):=by rw [Int.mul_one];rfl
theorem P9:((bY (max 0 (min p (a:Int))))<=a):=Int.toNat_le.mpr (Int.max_le.mpr ⟨wD _,Int.min_le_right _ _⟩)
theorem Qa(h0:b<=c)(h1:a<=b):a+(b - a)<=c:=by rw [ip h1];exact h0
theorem Qb(h0:a<=c)(h1:¬(a<=b)):a+(b - a)<=c:=by rw [wp (c6 (nu.mp h1))];exact h0
theorem Qc(h0:q < p):((((p - q) - 1)+1)=(((bY (p - q)):Nat):Int)):=by rw [Dk,CZ (CR (nk h0))]
theorem Qd(h0:¬(q < p)):(0=(((bY (p - q)):Nat):Int)):=(congrArg Int.ofNat (Int.toNat_of_nonpos (Int.sub_nonpos_of_le (tQ.mp h0)))).symm
theorem Qe:lO 1<=200001:=Nat.le_of_ble_eq_true rfl
theorem Qf(h0:lO q<=100000)(h1:lO p<=100000):((lO (((bY (p - q)):Nat):Int))<=200001):=show (p - q).toNat<=200001 from oV (aH (Int.natAbs_sub_le p q) (aH (pG h1 h0) (by decide)))
theorem Qg(h0:lO p<=100000):lO (p+(1 - 1))<=200001:=by rw [show (1:Int) - 1=0 from rfl,Int.add_zero];exact aH h0 (by decide)
theorem Qh:min a b=a\/min a b=b:=Std.MinEqOr.min_eq_or a b
theorem Qi:a+2≠a+4:=by grind
theorem Qj:a+3≠a+4:=sY (a+3)
theorem Qk:a≠a+4:=by simp at * <;> first|assumption|grind
theorem Ql:a+1≠a+4:=by simp at * <;> first|assumption|grind
theorem Qm:a+2≠a+3:=sY (a+2)
theorem Qn:a+2≠a:=by grind
theorem LX:a+2≠a+1:=dp (sY (a+1))
theorem LY:a+3≠a:=by grind
theorem LZ:a < a+4:=by simp at * <;> first|assumption|grind
theorem L0:a < a+3:=by simp at * <;> first|assumption|grind
theorem L1:a+4≠a+1:=by simp at * <;> first|assumption|grind
theorem L2(h0:a+c<=100000)(h1:b<=c):a+b<=100000:=aH (gs h1 a) h0
theorem L3(h0:a+d<=100000)(h1:b+c<=d):a+b+c<=100000:=aH (c5 (Nat.add_assoc a b c)) (aH (gs h1 a) h0)
theorem L4(h0:a+10 * 1 < b):a < b:=ka h0
theorem L5(h0:a=b)(h1:c+1=a)(h2:0=b):False:=by subst h0;subst h2;exact i0 _ h1
theorem L6(h0:c<=15)(h1:a=c):min a b<=15:=aH (kq _ _) (h1.symm ▸ h0)
theorem L7(h0:c=d)(h1:b=d)(h2:a=c):a=b:=h2.trans (h0.trans h1.symm)
theorem L8(h0:b < 64)(h1:a=b):a<=16777216+1:=h1.symm ▸ aH (c6 h0) (by decide)
theorem L9(h0:a+1=0):False:=by grind
theorem Ma(h0:2<=a)(h1:0=a):False:=by subst h1;exact absurd h0 (by decide)
theorem Mb(h0:2<=b)(h1:a=b):0 < a:=by subst h1;exact du (by decide) h0
theorem Mc(h0:b=a)(h1:b < 64):a < 64:=lt_of_eq_of_lt (id (az h0)) h1
theorem Md(h0:a+10 * 4 < b):a+1+1 < b:=cN (gs (by decide:2<=10*4) a) h0
theorem Me(h0:b < 64)(h1:b=c)(h2:c=a):a<=100000:=by subst h1 h2;exact aH (c6 h0) (by decide)
theorem Mf(h0:a < c)(h1:c < d)(h2:b=d):a < b:=h2.symm ▸ pR h0 h1
theorem Mg(h0:a < b)(h1:a=b):False:=cz h0 h1
theorem Mh(h0:a < b+(c+1)):a < b+1+c:=du h0 (c5 (cf b c 1))
theorem AG:¬(0 > 0):=sM 0
theorem Mi(h0:a < c)(h1:c < b):0<=a/\a < b:=⟨cG _,pR h0 h1⟩
theorem Mj(h0:a < b):0<=a/\a < b:=if_false_right.mp h0
theorem Mk(h0:c < b)(h1:b < a):0+a - 1 - b < 0+a - 1 - c:=by rw [tx];exact Nat.sub_lt_sub_left (du h0 (wx h1)) h0
theorem Ml(h0:c < a):0+a - 1 - b < a:=cN (qg _ _) (by rw [tx];exact Nat.sub_lt (cN (cG _) h0) Nat.one_pos)
theorem Mm(h0:a > 1):0 < a - 1:=Nat.zero_lt_sub_of_lt h0
theorem Mn(h0:a > 1):a - 1 < a:=CS h0
theorem Mo(h0:a<=1+(b - 1))(h1:a > 1):a<=b:=by rcases b with _|b;(exact absurd h1 (ch.mpr h0));exact ty b 1 ▸ h0
theorem Mp(h0:1<=a)(h1:¬(a > 1)):a=1:=pD (ch.mp h1) h0
theorem Mq(h0:1+1<=b)(h1:b<=a):1<=a:=aH (c6 h0) h1
theorem Mr(h0:2<=b)(h1:c<=1+1+(b - (1+1)))(h2:a<=c+(b - c)):a<=b:=by rw [ip h0] at h1;rwa [ip h1] at h2
theorem Ms(h0:a<=b)(h1:b - a<=0):a=b:=oZ (Nat.le_zero.mp h1) h0
theorem Mu(h0:a<=b)(h1:a ≥ b):a=b:=pD h0 h1
theorem Mv(h0:¬(a ≥ b)):a<=(a+b) / 2:=(Nat.le_div_iff_mul_le (by decide)).mpr (by rw [Nat.mul_two];exact gs (c6 (nu.mp h0)) _)
theorem Mw(h0:b<=c)(h1:¬(a ≥ b)):(a+b) / 2<=c:=Nat.div_le_of_le_mul (by rw [Nat.two_mul];exact pG (aH (c6 (nu.mp h1)) h0) h0)
theorem Mx(h0:b - a<=c+1):(a+b) / 2 - a<=c:=by simp at * <;> first|assumption|grind
theorem My(h0:(a+b) / 2<=c)(h1:¬(c=(a+b) / 2)):(a+b) / 2 < c:=mR h0 fun a_1=>h1 (id (az a_1))
theorem Mz(h0:¬(a ≥ b)):(a+b) / 2+1<=b:=CT (by rw [Nat.two_mul];exact CU (nu.mp h0) _)
theorem MA(h0:a - b<=c+1):a - ((b+a) / 2+1)<=c:=by simp at * <;> first|assumption|grind
theorem MB(h0:a < (b+c) / 2+1)(h1:¬(a=(b+c) / 2)):a < (b+c) / 2:=mR (iY h0) h1
theorem MC:a+(b+1)=a+1+b:=az (Nat.succ_add_eq_add_succ a b)
theorem MD(h0:b<=a):a - (a - b)=b:=Nat.sub_sub_self h0
theorem ME(h0:a < b)(h1:a=c)(h2:b=c):False:=cz h0 (h1.trans h2.symm)
theorem MF(h0:a < b)(h1:b < c+1)(h2:a=d)(h3:¬(d < b/\b<=c)):False:=h3 ⟨h2 ▸ h0,iY h1⟩
theorem MG(h0:a < b)(h1:c < a/\a<=d)(h2:b=c):False:=Nat.lt_asymm h0 (h2.symm ▸ h1.1)
theorem MH(h0:a < b)(h1:b < c+1)(h2:d < a/\a<=c)(h3:¬(d < b/\b<=c)):False:=h3 ⟨pR h2.1 h0,iY h1⟩
theorem MI(h0:a < c)(h1:c=b):a < b:=sv h0 h1
theorem MJ(h0:a < b/\b<=c):a<=b - 1:=wx h0.1
theorem MK(h0:c<=b)(h1:a < b+1)(h2:¬(a=c))(h3:¬(c < a/\a<=b)):a < b:=du (mR (ch.mp fun z=>h3 ⟨z,iY h1⟩) h2) h0
theorem ML(h0:1<=a):max a 1=a:=Nat.max_eq_left h0
theorem MM(h0:a < b):a+(b - a)<=b:=c5 (ip (c6 h0))
theorem MN(h0:a < b):a+(b - a)=b:=ip (c6 h0)
theorem MO(h0:2<=a):0 < a:=on h0
theorem MP(h0:a<=100000):¬(a > 16777216):=ch.mpr (aH h0 (by decide))
theorem MQ(h0:c=b)(h1:a<=b)(h2:0=c - a):a=b:=by subst h0;exact oZ h2.symm h1
theorem MR(h0:c=b)(h1:d+1=c - a):a < b:=h0 ▸ oT h1.symm
theorem MT(h0:a+(c+1)+1 < b):a+1 < b:=cN (wS (c0 a (c+1))) h0
theorem MU(h0:d+(b+1)+1 < c)(h1:a<=d+1):a+b+1 < c:=cN (wS (aH (pd h1 b) (c5 (cf d 1 b)))) h0
theorem AH(h0:a=b+1):0 < a:=so h0
theorem MV(h0:a=b+1):a - 1=b:=az (Nat.eq_sub_of_add_eq (id (az h0)))
theorem MW(h0:a < b)(h1:¬(a < b)):False:=(iff_false_intro h1).mp h0
theorem MX(h0:¬(p=q)):p < q\/q < p:=Db.mp h0
theorem MY(h0:p < r)(h1:r < q):p≠q:=xI (pQ h0 h1)
theorem MZ(h0:p≠q):p < q\/q < p:=Db.mp h0
theorem M0(h0:a+10 * 4 < b):a+5 < b:=cN (gs (by decide:5<=10*4) a) h0
theorem Na(h0:b < 64)(h1:a=b):a < 64:=lt_of_eq_of_lt h1 h0
theorem Nb(h0:0<=p/\bY p < b/\b<=100000)(h1:b=a):bY p < a:=h1 ▸ h0.2.1
theorem Nc(h0:0<=p/\bY p < b/\b<=100000)(h1:b=a):a<=100000:=h1 ▸ h0.2.2
theorem Nd(h0:a+b<=100000):a<=100000:=CD h0
theorem Nf(h0:b=a)(h1:0 < b):0 < a:=sv h1 h0
theorem Ng(h0:0 < a):a - 1 < a:=oW h0
theorem Nh:a<=a - 1+1:=Nat.sub_le_iff_le_add.mp (cH _)
theorem Ni(h0:b=a):a<=b:=c5 (id (az h0))
theorem Nj(h0:b<=10000)(h1:a=b):a<=10000:=h1.symm ▸ h0
theorem Nk:0<=0:=om
theorem Nl(h0:a<=3)(h1:¬(a < 2)):a=2\/a=3:=by rcases pf h0 with k|k;(exact .inl (pD (iY k) (ch.mp h1)));exact .inr k
theorem Nm:0 < 2:=AH rfl
theorem Nn:0 < 3:=Nat.zero_lt_succ 2
theorem No(h0:¬(p=q))(h1:p=r)(h2:r=q):False:=by grind
theorem Np:(((1 * p)+((-1) * q))=(p - q)):=by grind
theorem Nq(h0:a<=3):285 - a+8+a=293:=by rw [cf,pg (aH h0 (by decide))]
theorem Nr:p - p=0:=Int.sub_self p
theorem Nt(h0:p=q):p - q=0:=Int.sub_eq_zero.mpr h0
theorem Nu(h0:q < p):¬(p < q):=Int.lt_asymm h0
theorem Nv(h0:q≠p)(h1:¬(q < p)):p < q:=by lia
theorem Nw(h0:a+1<=b/\b < a+1+c):a<=b:=c6 h0.1
theorem Nx(h0:b+1<=a/\a < b+1+c):a < b+(c+1):=du h0.2 (c5 (cf b 1 c))
theorem Ny:p < p+1:=Int.lt_succ p
theorem Nz:(((a:Int) > 1)↔(1 < a)):=xG
theorem NA(h0:b<=10)(h1:a<=c)(h2:c<=b):a<=100000:=aH h1 (aH h2 (aH h0 (by decide)))
theorem NB(h0:q<=4)(h1:p < q):p<=4:=Int.le_trans (nk h1) h0
theorem NC(h0:p=1\/p=2\/p=3\/p=4):1<=p/\p<=4:=by rcases h0 with rfl|rfl|rfl|rfl<;>decide
theorem ND(h0:a+(b+1)<=1000):a<=100000:=aH (c0 a _) (aH h0 (by decide))
theorem NE(h0:a+(b+1)<=1000):a+1+b<=1000:=aH (c5 (cf a 1 b)) h0
theorem NG:2<=3/\2<=2:=by decide
theorem NH:3<=3/\2<=3:=by decide
theorem NI(h0:a<=3/\2<=a):a<=3:=h0.1
theorem NJ(h0:b<=3/\2<=b)(h1:a=b):a<=3:=h1.symm ▸ h0.1
theorem NK(h0:b<=3/\2<=b)(h1:a=b):2<=a:=h1.symm ▸ h0.2
theorem NL(h0:0 < a):((a:Int)≠0):=Int.natCast_ne_zero_iff_pos.mpr h0
theorem NM(h0:a<=20)(h1:b < a):(¬(((a:Int)=0)\/(1073741824<=(lO (a:Int))))):=fun z=>z.elim (fun z=>absurd (Int.ofNat.inj z ▸ h1) (sM _)) fun z=>absurd (aH z h0) (by decide)
theorem NN:min 20 a<=100000:=aH (kq _ _) (by decide)
theorem NO:1+p % 4≠1+(p+1+p / 4 % 3) % 4:=by omega
theorem NP(h0:0<=p)(h1:(p < (2:Int))):p=0\/p=1\/p=2/\2=3:=(oI2 h0 h1).imp id .inl
theorem NQ(h0:0<=p)(h1:(p < (3:Int))):p=0\/p=1\/p=2/\3=3:=(vR h0 h1).imp id fun e=>e.imp id fun e=>⟨e,rfl⟩
theorem NR(h0:a+(b+1)<=10):a<=10:=CD h0
theorem NS:a+b+1+20=a+21+b:=az (cf a 21 b)
theorem NT(h0:a<=3):276 - a+21+a=297:=by rw [cf,pg (aH h0 (by decide))]
theorem NU(h0:b=20)(h1:a < 20):a < b:=sv h1 (id (az h0))
theorem NV:(((a:Int) > 0)↔(0 < a)):=Int.natCast_pos
theorem NW(h0:a<=1000):a - 1<=1000:=aH (qg _ _) h0
theorem NX:a+19+b=a+17+b+2:=az (cf (a+17) b 2)
theorem NY(h0:a<=100):237 - a+40+20+a=297:=by rw [cf _ 20,cf _ 40,pg (aH h0 (by decide))]
theorem NZ(h0:a<=d+c)(h1:d<=b+1):a<=b+(c+1):=aH h0 (aH (pd h1 c) (c5 (cf b 1 c)))
theorem N0(h0:16<=a):10≠a:=by rintro rfl;exact absurd h0 (by decide)
theorem N1(h0:16<=a):12≠a:=by rintro rfl;exact absurd h0 (by decide)
theorem N2(h0:16<=a):13≠a:=by rintro rfl;exact absurd h0 (by decide)
theorem N3(h0:16<=a):14≠a:=by rintro rfl;exact absurd h0 (by decide)
theorem N4(h0:16<=a):15≠a:=cz h0
theorem N5(h0:a+(b+1)<=10000):a<=100000:=aH (c0 a _) (aH h0 (by decide))
theorem N6(h0:a=b)(h1:b=2):a<=3:=by subst h0;subst h1;decide
theorem N7(h0:a=b)(h1:b=3):a<=3:=by subst h0;subst h1;decide
theorem N8(h0:b<=60):a+90 - b+5+b=a+95:=by rw [cf _ 5,pg (aH h0 (aH (by decide) (f9 90 a)))]
theorem N9(h0:0=a)(h1:a=2):False:=by subst h0;exact absurd h1 (by decide)
theorem Oa(h0:0=a)(h1:a=3):False:=by lia
theorem Ob(h0:a<=60 * b):a<=60 * (b+1):=aH h0 (c0 _ 60)
theorem Oc:a+101+b=a+95+b+6:=az (cf (a+95) b 6)
theorem Od(h0:a<=60 * b)(h1:b+(c+1)<=64):a<=5000:=aH h0 (aH (Dc 60 (aH (c0 b (c+1)) h1)) (by decide))
theorem Oe:a+101+b=a+1+b+100:=az (cf (a+1) b 100)
theorem Of(h0:c<=60 * b)(h1:a<=c+d)(h2:d<=60):a<=60 * (b+1):=aH h1 (pG h0 h2)
theorem Og(h0:a=b)(h1:b=2):2<=a:=by subst h0;subst h1;decide
theorem Oh(h0:a=b)(h1:b=3):2<=a:=by subst h0;subst h1;decide
theorem Oi(h0:a=20):1 < a:=by subst h0;decide
theorem Oj(h0:(¬(((63:Nat):Int) < (a:Int)))):a<=63:=Int.ofNat_le.mp (tQ.mp h0)
theorem Ol(h0:a<=64):185 - a+101+a=286:=by rw [cf,pg (aH h0 (by decide))]
theorem Om(h0:a=20):0 < a:=so h0
theorem On(h0:a=20):2 < a:=by subst h0;decide
end
noncomputable def Kk(s:ej):Bool:=s.ctorIdx == 0
noncomputable def pw:Program:=Ri
noncomputable def qw:Program:={ pw with main:={ pw.main with body:=pw.main.body.filter Kk } }
noncomputable abbrev oo:OpenLaw:=Rj
noncomputable abbrev xtD(s:aw):Bool:=xlAt qw [] s && recOk (RowW.records oo.row.toRowW) s
theorem IK:LeftO oo.row.prog qw [] xtD (Hook.obs kA) (Hook.val kA) 1674:=by intro w;kernel_rfl
theorem zS1:namesResolve oo.row.prog=true:=by rw [PySem.W.Fast.te8377067652309620493];kernel_rfl
theorem zS2:readsOut oo.prog oo.prog.main.body "vars"=false:=by rw [PySem.W.Fast.te13343964577679436407];kernel_rfl
theorem zS3:readsOut oo.prog oo.prog.main.body "dir"=false:=by rw [PySem.W.Fast.te13343964577679436407];kernel_rfl
theorem zS4:readsOut oo.prog oo.prog.main.body "locals"=false:=by rw [PySem.W.Fast.te13343964577679436407];kernel_rfl
theorem zS5:noRoadLSs { strict := false, foot := none, bare := [] } oo.prog.main.body=true:=by rw [PySem.W.Fast.te8326940854005059898];kernel_rfl
theorem zS6:(namesMeet oo.row.prog oo.row.prog.main.body fun _ n => attrL n)=true:=by rw [PySem.W.Fast.te17119622794617984870];kernel_rfl
theorem zS7:(["vars","dir","locals"]:List PySem.Str).filter (readsOut oo.prog oo.prog.main.body)=[]:=by simp [zS2,zS3,zS4]
theorem zS8:noRoadLSs { strict := !(importedModules oo.row.prog.main.body).all cThrough.contains, foot := none, bare := (["vars","dir","locals"]:List PySem.Str).filter (readsOut oo.row.prog oo.row.prog.main.body) } oo.row.prog.main.body=true:=by
 show noRoadLSs { strict := _, foot := _, bare := (["vars","dir","locals"]:List PySem.Str).filter (readsOut oo.prog oo.prog.main.body) } oo.prog.main.body=true
 rw [zS7];exact zS5
theorem zS9:oo.bound'.all (fun n => !builtinNamed n || oo.about == [n] || !oo.reads n)=true:=by rw [PySem.W.Fast.named_eq];kernel_rfl
theorem zSA:oo.own.all (fun n => !builtinNamed n)=true:=by rw [PySem.W.Fast.named_eq];kernel_rfl
theorem IL:oo.wellSaid=true:=by
 delta OpenLaw.wellSaid OpenRow.wellSaid OpenRow.partSaid looksOpen
 repeat' with_reducible apply look_both
 all_goals with_reducible first|exact zS1|exact zS6|exact zS8|exact zS9|exact zSA|decide +kernel
theorem zSs {t cx sc}:∀ {l:List PySem.Stmt} k,PySem.TablesWhole.wSs PySem.TablesWhole.holds t cx sc (l.take k)=true->PySem.TablesWhole.wSs PySem.TablesWhole.holds t cx sc (l.drop k)=true->PySem.TablesWhole.wSs PySem.TablesWhole.holds t cx sc l=true
 |[],_,_,_=>rfl
 |_::_,0,_,h=>h
 |_::_,k+1,h,g=>look_both (sq.mp h).1 (zSs k (sq.mp h).2 g)
theorem zSt:PySem.TablesWhole.wSs PySem.TablesWhole.gather oo.row.prog.main.scope ⟨oo.row.prog.main.scope,[],[],[],none⟩ oo.row.prog.main.scope oo.row.prog.main.body=[]:=by rw [PySem.W.Fast.te16421684217811934046];decide +kernel
theorem zSP {p:PySem.Program} (h:PySem.TablesWhole.noTwice p.main.scope=true) (g:PySem.TablesWhole.wSs PySem.TablesWhole.gather p.main.scope ⟨p.main.scope,[],[],[],none⟩ p.main.scope p.main.body=[]) (a:PySem.TablesWhole.wSs PySem.TablesWhole.holds p.main.scope ⟨p.main.scope,[],[],[],none⟩ p.main.scope p.main.body=true) (m:p.modules=[]) (n:p.parses=[]) (o:p.harvested=[]):p.tablesWhole=true:=by
 delta PySem.Program.tablesWhole PySem.TablesWhole.wProgram PySem.TablesWhole.wModule PySem.TablesWhole.Alg.all
 dsimp only [List.foldr]
 rw [m,n,o,g]
 show ((true && (PySem.TablesWhole.noTwice p.main.scope && (PySem.TablesWhole.wSs PySem.TablesWhole.holds p.main.scope ⟨p.main.scope,[],[],[],none⟩ p.main.scope p.main.body && true))) && true)=true
 rw [h,a];rfl
theorem zSB:oo.row.prog.tablesWhole=true:=by
 refine zSP (by decide +kernel) zSt (zSs 7 ?_ (zSs 7 ?_ (zSs 7 ?_ ?_))) rfl rfl rfl<;>rw [PySem.W.Fast.te16421684217811934046]<;>decide +kernel
noncomputable def BP:rk×List (aq×PySem.Expr):=(defOf qw oo.row.name).get (by kernel_rfl)
theorem hd(call:WalkO qw [] (XL qw []) (Hook.says kA) oo.row.toRowW BP.1 BP.2 fun f vs=>PySem.call f vs):PySem.Challenge.rw_ok0089_01.Holds:=by
 refine holds_law IL fun D=>holds_open (q:=qw) (loose:=[]) (Xt:=xtD) (XP:=XL qw []) (Yf:=Hook.obs kA) (Ya:=Hook.val kA) (YP:=Hook.says kA) (N:=1674) IK (Hook.of kA) (Hook.keeps kA)
  (fun s e=>xl_of s (sq.mp e).1) XL.keeps (by kernel_rfl) (by kernel_rfl) (by kernel_rfl) (fun s e=>recFacts_of (sq.mp e).2) (by rfl) D (by decide +kernel) ⟨rfl,rfl,rfl,rfl,rfl,zSB⟩
  ⟨[.list []],by decide +kernel,by decide +kernel⟩ call
variable {B:bm}{w:bh}{U U':List am}{h h':aB}
inductive ai {α β:Type} (R:α->β->Prop):List α->List β->Prop
 |nil:ai R [] []
 |cons {a:α} {b:β} {as:List α} {bs:List β}:R a b->ai R as bs->ai R (a::as) (b::bs)
section
variable {α β:Type} {R:α->β->Prop} {as:List α} {bs:List β}
theorem ai.imp(hi:∀ a b,R a b->S a b)(h:ai R as bs):ai S as bs:=by
 induction h with
 |nil=>exact .nil
 |cons h _ ih=>exact .cons (hi _ _ h) ih
theorem ai.length(h:ai R as bs):as.length=bs.length:=by
 induction h with
 |nil=>rfl
 |cons _ _ ih=>refine rl el ?_;refine rl el ?_;refine rl ih ?_;rfl
theorem ai.right(h:ai R as bs):∀ b∈bs,∃ a∈as,R a b:=by
 induction h with
 |nil=>exact fun F hb=>nomatch hb
 |cons h _ ih =>
  intro b hb;rcases aL.mp hb with rfl|hb
  . exact ⟨_,aY,h⟩
  . refine ae (ih b hb) fun a D=>ac D fun ha hr=>?_;clear D;exact ⟨a,aN _ ha,hr⟩
theorem ai.rightK(h:ai R as bs)(b)(J:b∈bs){G:Prop}(k:∀ a,a∈as->R a b->G):G:=ae (ai.right h b J) fun F D=>ac D fun z1 z2=>k F z1 z2
theorem ai.left(h:ai R as bs):∀ a∈as,∃ b∈bs,R a b:=by
 induction h with
 |nil=>exact fun F hb=>nomatch hb
 |cons h _ ih =>
  intro a ha;rcases aL.mp ha with rfl|ha
  . exact ⟨_,aY,h⟩
  . refine ae (ih a ha) fun b D=>ac D fun hb hr=>?_;clear D;exact ⟨b,aN _ hb,hr⟩
theorem ai.get(h:ai R as bs):∀ {i:Nat} {a:α},as[i]? = aa a->∃ b,bs[i]? = aa b/\R a b:=by
 induction h with
 |nil=>intro i a e;exact nomatch (show ab=aa a from e)
 |cons h _ ih =>
  intro i a e;rcases i with _|i
  . replace e:=sI e;subst e;exact ⟨_,rfl,h⟩
  . exact ih e
theorem ai.getR(h:ai R as bs):∀ {i:Nat} {b:β},bs[i]? = aa b->∃ a,as[i]? = aa a/\R a b:=by
 induction h with
 |nil=>intro i a e;exact nomatch (show ab=aa a from e)
 |cons h _ ih =>
  intro i a e;rcases i with _|i
  . replace e:=sI e;subst e;exact ⟨_,rfl,h⟩
  . exact ih e
theorem ai.getK(h:ai R as bs){i:Nat}(e:as[i]? = aa a){G:Prop}(k:∀ b,bs[i]? = aa b->R a b->G):G:=ae (h.get e) fun b D=>ac D fun h1 F=>k b h1 F
theorem ai.getRK(h:ai R as bs){i:Nat}(J:bs[i]? = aa b){G:Prop}(k:∀ a,as[i]? = aa a->R a b->G):G:=ae (ai.getR h J) fun F D=>ac D fun z1 z2=>k F z1 z2
theorem ai.i(h:ai R as bs):(List.casesOn (motive:=fun _=>Prop) as (bs = []) fun a as=>∃ b l,bs=b::l/\R a b/\ai R as l):=ai.casesOn (motive:=fun x y _=>List.casesOn (motive:=fun _=>Prop) x (y = []) fun a as=>∃ b l,y=b::l/\R a b/\ai R as l) h rfl fun h t=>⟨_,_,rfl,h,t⟩
theorem ai.c(h:ai R (a::as) bs){G:Prop}(k:∀ b l,bs=b::l->R a b->ai R as l->G):G:=aM h.i fun b l q=>aE q (k b l)
theorem ai.n(h:ai R [] bs):bs = []:=h.i
theorem ai.append{D:List α}(h:ai R as bs)(k:ai R D bs'):ai R (as++D) (bs++bs'):=by
 induction h with
 |nil=>exact k
 |cons h _ ih=>exact .cons h ih
theorem ai.take(h:ai R as bs):∀ n,ai R (as.take n) (bs.take n):=by
 induction h with
 |nil=>intro n;refine rl List.take_nil ?_;refine rl List.take_nil ?_;exact .nil
 |cons h _ ih =>
  intro n;rcases n with _|n
  . exact .nil
  . exact .cons h (ih n)
theorem ai.drop(h:ai R as bs):∀ n,ai R (as.drop n) (bs.drop n):=by
 induction h with
 |nil=>intro n;refine rl List.drop_nil ?_;refine rl List.drop_nil ?_;exact .nil
 |cons h t ih =>
  intro n;rcases n with _|n
  . exact .cons h t
  . exact ih n
end
inductive D where
 |none
 |bool (b:Bool)
 |int (i:Int)
 |str (s:List Nat)
 |tup (l:List D)
 |list (l:List D)
 |idict (l:List (Int×Int))
 |bdict (l:List Int)
 |tdict (l:List (List Int))
section
variable (B w)
noncomputable abbrev dY(vs:List ar)(n:Nat):Obj:=dG "tuple" vs.toArray n
noncomputable abbrev cL(vs:List ar)(n:Nat):Obj:=dG "list" vs.toArray n
def fT(h:aB)(a:am)(l:List (Int×Int)):Prop :=
 (a == gy)=false /\ ∃ kvs,h.DictOf (bt B w) a kvs/\ai (fun (p:Int×Int) (q:Int×ar)=>q.1=p.1 /\ ∃ t,q.2 = .int p.2 t) l kvs
def iz(h:aB)(a:am)(l:List Int):Prop :=
 (a == gy)=false /\ ∃ kvs,h.DictOf (bt B w) a kvs/\ai (fun (p:Int) (q:Int×ar)=>q.1=p/\q.2 = .bool true) l kvs
def dX(U:List am)(h:aB)(a:am)(l:List (List Int)):Prop :=
 (a == gy)=false /\ ∃ xs,h.DictOfH (jK (bt B w)) a xs /\
  ai (fun (p:List Int) (q:List Int×am×ar)=>q.1=p/\q.2.1 ∉ U/\q.2.2 = .bool true /\ ∃ vs n,h.get? q.2.1=aa (dY vs n)/\gG vs p) l xs
theorem dX.iK{B:bm}{w:bh}{U:List am}{h:aB}:(a == gy)=false->∀ xs,h.DictOfH (jK (bt B w)) a xs->ai (fun p q=>q.1=p/\q.2.1 ∉ U/\q.2.2 = .bool true /\ ∃ vs n,h.get? q.2.1=aa (dY vs n)/\gG vs p) l xs->dX B w U h a l:=fun h1 x F D=>⟨h1,x,F,D⟩
theorem dX.eK{B:bm}{w:bh}{U:List am}{h:aB}(r:dX B w U h a l){G:Prop}(k:(a == gy)=false->∀ xs,h.DictOfH (jK (bt B w)) a xs->ai (fun (p:List Int) (q:List Int×am×ar)=>q.1=p/\q.2.1 ∉ U/\q.2.2 = .bool true /\ ∃ vs n,h.get? q.2.1=aa (dY vs n)/\gG vs p) l xs->G):G:=ac r fun h1 J=>ae J fun kvs D=>ac D fun F L=>k h1 kvs F L
mutual
def aC(U:List am)(h:aB):D->ar->Prop
 | .none,v=>v = .none
 | .bool b,v=>v = .bool b
 | .int i,v=>∃ t,v = .int i t
 | .str s,v=>∃ t,v = .str ⟨s.toArray⟩ t
 | .tup l,v=>∃ a vs n,v = .ref a/\a ∉ U/\h.get? a=aa (dY vs n)/\fD U h l vs
 | .list l,v=>∃ a vs n,v = .ref a/\a ∉ U/\h.get? a=aa (cL vs n)/\fD U h l vs
 | .idict l,v=>∃ a,v = .ref a/\a ∉ U/\fT B w h a l
 | .bdict l,v=>∃ a,v = .ref a/\a ∉ U/\iz B w h a l
 | .tdict l,v=>∃ a,v = .ref a/\a ∉ U/\dX B w U h a l
def fD(U:List am)(h:aB):List D->List ar->Prop
 |[],vs=>vs = []
 |d::ds,vs=>∃ v r,vs=v::r/\aC U h d v/\fD U h ds r
end
end
structure bj (U:List am) (h:aB) (U':List am) (h':aB):Prop where
 new:∀ u∈U',u∈U\/h.get? u=ab
 keep:∀ b o,b ∉ U->h.get? b=aa o->h'.get? b=aa o
theorem bj.notin(S:bj U h U' h')(ha:a ∉ U)(F:h.get? a=aa o):a ∉ U':=fun hm =>
 (S.new a hm).elim ha fun D=>by rw [F] at D;exact sN D
theorem bj.ext(hk:∀ b o,h.get? b=aa o->h'.get? b=aa o):bj U h U h':=⟨fun D F=>.inl F,fun b o D e=>hk b o e⟩
theorem tz{K:Type}[DecidableEq K]{knd:KeyKind B w K}{a:am}{kvs:List (K×ar)}(hm:h.DictOf knd a kvs)(e:∀ o,h.get? a=aa o->h'.get? a=aa o):h'.DictOf knd a kvs :=
 by refine aP hm fun o es ep D=>ac D fun F r=>?_;clear hm D;exact ck o es ep ⟨e o F,r⟩
theorem to(r:fT B w h a l)(e:∀ o,h.get? a=aa o->h'.get? a=aa o):fT B w h' a l :=
 by refine ac r ?_;clear r;intro G D;refine ae D fun kvs F=>ac F fun hd hl=>?_;clear D F;exact ⟨G,kvs,tz hd e,hl⟩
theorem xx(r:iz B w h a l)(e:∀ o,h.get? a=aa o->h'.get? a=aa o):iz B w h' a l :=
 by refine ac r ?_;clear r;intro G D;refine ae D fun kvs F=>ac F fun hd hl=>?_;clear D F;exact ⟨G,kvs,tz hd e,hl⟩
theorem pN(S:bj U h U' h')(r:dX B w U h a l)(e:∀ o,h.get? a=aa o->h'.get? a=aa o):dX B w U' h' a l:=by
 refine ac r fun b G=>?_;clear r;refine ae G fun xs T=>ac T fun D hl=>?_;clear G T;refine aP D fun o es ep Q=>d4 Q fun g F L i hk f=>?_;clear D Q;have J:∀ x∈xs,x.2.1 ∉ U:=fun x F=>by refine hl.rightK x F fun _ _ hr=>?_;exact hr.2.1
 refine ⟨b,xs,⟨o,es,ep,e o g,F,L,i,fun x F=>?_,f⟩,hl.imp fun p q hq=>?_⟩
 . refine lk fun _ V=>aP (hk x F) fun k items c D=>ac D fun N j=>?_;clear D;refine V (ck k items c ⟨S.keep _ _ (J x F) N,j⟩)
 . refine bR hq fun h1 P d D=>?_;clear hq;refine aM D fun vs n G=>ac G fun h4 X=>?_;clear D G;exact ⟨h1,S.notin P h4,d,vs,n,S.keep _ _ P h4,X⟩
theorem pO(r:fT B w h a l):∃ o,h.get? a=aa o:=by refine ac r fun _ G=>?_;clear r;refine ae G fun _ F=>ac F fun D _=>?_;clear G F;refine aP D fun o _ _ J=>ac J fun L _=>?_;clear D J;exact ⟨o,L⟩
theorem D4(r:fT B w h a l){G:Prop}(k:∀ o,h.get? a=aa o->G):G:=ae (pO r) fun D z1=>k D z1
theorem tp(r:iz B w h a l):∃ o,h.get? a=aa o:=by refine ac r fun _ G=>?_;clear r;refine ae G fun _ F=>ac F fun D _=>?_;clear G F;refine aP D fun o _ _ J=>ac J fun L _=>?_;clear D J;exact ⟨o,L⟩
theorem tq(r:dX B w U h a l):∃ o,h.get? a=aa o:=by refine ac r fun _ G=>?_;clear r;refine ae G fun _ F=>ac F fun D _=>?_;clear G F;refine aP D fun o _ _ J=>ac J fun L _=>?_;clear D J;exact ⟨o,L⟩
mutual
theorem aC.move(S:bj U h U' h'):∀ d v,aC B w U h d v->aC B w U' h' d v
 | .none,_,r=>by exact r
 | .bool b,_,r=>by exact r
 | .int i,_,r=>by exact r
 | .str s,_,r=>by exact r
 | .tup l,_,r=>by
  refine aP r fun a vs n F=>bR F fun J ha G L=>?_;clear r F;subst J;exact ck a vs n ⟨rfl,S.notin ha G,S.keep a _ ha G,fD.move S l vs L⟩
 | .list l,_,r=>by
  refine aP r fun a vs n F=>bR F fun J ha G L=>?_;clear r F;subst J;exact ck a vs n ⟨rfl,S.notin ha G,S.keep a _ ha G,fD.move S l vs L⟩
 | .idict l,_,r=>by
  refine ae r fun a F=>aE F fun J ha hd=>?_;clear r F;subst J;refine D4 hd fun o G=>⟨a,rfl,S.notin ha G,to hd fun o e=>S.keep a o ha e⟩
 | .bdict l,_,r=>by
  refine ae r fun a F=>aE F fun J ha hd=>?_;clear r F;subst J;refine ae (tp hd) fun o G=>⟨a,rfl,S.notin ha G,xx hd fun o e=>S.keep a o ha e⟩
 | .tdict l,_,r=>by
  refine ae r fun a F=>aE F fun J ha hd=>?_;clear r F;subst J;refine ae (tq hd) fun o G=>⟨a,rfl,S.notin ha G,pN S hd fun o e=>S.keep a o ha e⟩
theorem fD.move(S:bj U h U' h'):∀ l vs,fD B w U h l vs->fD B w U' h' l vs
 |[],_,r=>by exact r
 |d::ds,_,r=>by
  refine aM r fun v q F=>aE F fun G L J=>?_;clear r F;subst G;exact aR v q ⟨rfl,aC.move S d v L,fD.move S ds q J⟩
end
variable {H:aB}{Z:aS}{wc:List aq}{W:List am}{s s':aw}
theorem yZ:∀ {l:List D} {vs:List ar},fD B w U h l vs↔ai (aC B w U h) l vs:=by
 intro l;induction l with
 |nil=>intro vs;exact ⟨fun e=>by subst e;exact .nil,fun e=>by replace e:=e.n;subst e;rfl⟩
 |cons d ds ih =>
  intro vs;constructor
  . intro h;refine aM h fun v r q=>aE q fun e h1 F=>?_;subst e;exact .cons h1 (ih.mp F)
  . intro h;cases h with
    |cons h1 F=>exact aR _ _ ⟨rfl,h1,ih.mpr F⟩
theorem l8{i:Int}:aC B w U h (.int i) v ↔ ∃ t,v = .int i t:=gH
theorem Hc:aC B w U h .none v↔v = .none:=gH
theorem uc:aC B w U h (.bool b) v↔v = .bool b:=gH
theorem zH:aC B w U h (.str x) v ↔ ∃ t,v = .str ⟨x.toArray⟩ t:=gH
theorem qI:aC B w U h (.tup l) v ↔ ∃ a vs n,v = .ref a/\a ∉ U/\h.get? a=aa (dY vs n)/\ai (aC B w U h) l vs:=by simp only [←yZ];exact gH
theorem gd{i:Int}(r:aC B w U h (.int i) v){G:Prop}(k:∀ t,v = .int i t->G):G:=(l8.mp r).elim k
theorem jb(r:aC B w U h (.str x) v){G:Prop}(k:∀ t,v = .str ⟨x.toArray⟩ t->G):G:=(zH.mp r).elim k
theorem jc(r:aC B w U h (.tup l) v){G:Prop}(k:∀ a vs n,v = .ref a->a ∉ U->h.get? a=aa (dY vs n)->ai (aC B w U h) l vs->G):G:=aP (qI.mp r) fun a vs n F=>bR F fun h1 L J h4=>k a vs n h1 L J h4
theorem lU:aC B w U h (.list l) v ↔ ∃ a vs n,v = .ref a/\a ∉ U/\h.get? a=aa (cL vs n)/\ai (aC B w U h) l vs:=by simp only [←yZ];exact gH
structure SP where
 P:List am->aB->ar->Prop
 mv:∀ {U U':List am} {h h':aB} {v:ar},bj U h U' h'->P U h v->P U' h' v
inductive X where
 |d (x:D)
 |o (a:am)
 |p (P:SP)
inductive OB where
 |list (l:List X)
 |idict (l:List (Int×Int))
 |bdict (l:List Int)
 |tdict (l:List (List Int))
structure MS where
 vars:List (aq×X)
 own:List (am×OB)
 wr:List am
section
variable (B w)
def aT(U:List am)(h:aB):X->ar->Prop
 | .d x,v=>aC B w U h x v
 | .o a,v=>v = .ref a
 | .p P,v=>P.P U h v
def b0(U:List am)(h:aB)(a:am):OB->Prop
 | .list l=>∃ vs n,h.get? a=aa (cL vs n)/\ai (aT B w U h) l vs
 | .idict l=>fT B w h a l
 | .bdict l=>iz B w h a l
 | .tdict l=>dX B w U h a l
end
section
variable {v:ar}
theorem eL{i:Int}:aT B w U h (.d (.int i)) v ↔ ∃ t,v = .int i t:=gH
theorem kG:aT B w U h (.d .none) v↔v = .none:=gH
theorem ei:aT B w U h (.d (.bool b)) v↔v = .bool b:=gH
theorem Al:aT B w U h (.d (.str x)) v ↔ ∃ t,v = .str ⟨x.toArray⟩ t:=gH
theorem qZ:aT B w U h (.d (.tup l)) v ↔ ∃ a vs n,v = .ref a/\a ∉ U/\h.get? a=aa (dY vs n)/\ai (aC B w U h) l vs:=qI
theorem jQ:aT B w U h (.d (.list l)) v ↔ ∃ a vs n,v = .ref a/\a ∉ U/\h.get? a=aa (cL vs n)/\ai (aC B w U h) l vs:=lU
theorem cJ{i:Int}(r:aT B w U h (.d (.int i)) v){G:Prop}(k:∀ t,v = .int i t->G):G:=(eL.mp r).elim k
theorem zI(r:aT B w U h (.d (.str x)) v){G:Prop}(k:∀ t,v = .str ⟨x.toArray⟩ t->G):G:=(Al.mp r).elim k
theorem gD(r:aT B w U h (.d (.tup l)) v){G:Prop}(k:∀ a vs n,v = .ref a->a ∉ U->h.get? a=aa (dY vs n)->ai (aC B w U h) l vs->G):G:=aP (qZ.mp r) fun a vs n F=>bR F fun h1 L J h4=>k a vs n h1 L J h4
theorem He(r:aT B w U h (.d (.list l)) v){G:Prop}(k:∀ a vs n,v = .ref a->a ∉ U->h.get? a=aa (cL vs n)->ai (aC B w U h) l vs->G):G:=aP (jQ.mp r) fun a vs n F=>bR F fun h1 L J h4=>k a vs n h1 L J h4
theorem b0.liK(r:b0 B w U h a (.list l)){G:Prop}(k:∀ vs n,h.get? a=aa (cL vs n)->ai (aT B w U h) l vs->G):G:=aM r fun vs n D=>ac D fun h1 F=>k vs n h1 F
theorem fv:aT B w U h (.o a) v↔v = .ref a:=gH
end
section
variable (B w)
structure ay (H:aB) (Z:aS) (wc:List aq) (U W:List am) (C:MS) (s:aw):Prop where
 base:∀ b o,H.get? b=aa o->s.heap.get? b=aa o
 sub:∀ a∈W,a∈U
 live:∀ a∈U,∃ o,s.heap.get? a=aa o
 old:∀ a∈U,H.get? a=ab
 ek:Z.scope.kind = .function
 eg:Z.globals=fP
 eb:Z.builtins=builtinsNs
 loc:Z.locals∈W
 ns:∃ m,s.heap.Ns Z.locals m /\ ∀ p∈C.vars,Z.kindOf (p.1)=aa .local->∃ v,m (p.1)=aa v/\aT B w U s.heap p.2 v
 cl:∀ p∈C.vars,Z.kindOf (p.1)≠aa .local->∃ c v,Z.cells.lookup (p.1)=aa c/\s.heap.IsCell c (aa v)/\aT B w U s.heap p.2 v
 cellU:∀ x c,Z.cells.lookup x=aa c->c∈U /\ ∃ v,s.heap.IsCell c v
 cellI:∀ x y c,Z.cells.lookup x=aa c->Z.cells.lookup y=aa c->x=y
 cellW:∀ x∈wc,∃ c,Z.cells.lookup x=aa c/\c∈W
 own:∀ p∈C.own,p.1∈U/\p.1≠Z.locals/\b0 B w U s.heap p.1 p.2
 ownN:(C.own.map (·.1)).Nodup
 wr:∀ a∈C.wr,a∈W
end
section
variable {C:MS}
theorem aT.move(S:bj U h U' h')(r:aT B w U h x v):aT B w U' h' x v:=by
 cases x with
 |d x=>exact aC.move S x v r
 |o a=>exact r
 |p P=>exact P.mv S r
theorem b0.move(S:bj U h U' h')(r:b0 B w U h a o)(e:∀ o,h.get? a=aa o->h'.get? a=aa o):b0 B w U' h' a o:=by
 rcases o with l|l|l|l
 . refine b0.liK r fun vs n F hl=>?_;clear r;exact aR vs n ⟨e _ F,hl.imp fun D D q=>q.move S⟩
 . exact to r e
 . exact xx r e
 . exact pN S r e
theorem cb s:bb s s:=⟨s.heap,s.toks,rfl,fun D D e=>e⟩
theorem bp{s s' s'':aw}(a:bb s s')(b:bb s' s''):bb s s'':=by refine iO a fun h1 N D G=>?_;clear a;subst D;refine iO b fun L F D J=>?_;clear b;subst D;exact aR L F ⟨rfl,fun b o e=>J b o (G b o e)⟩
theorem cj{s s':aw}(a:bb s s'):∀ b o,s.heap.get? b=aa o->s'.heap.get? b=aa o:=by refine iO a fun h1 G F D=>?_;clear a;subst F;exact D
theorem cu{s s':aw}(a:bb s s'):bj U s.heap U s'.heap:=bj.ext (cj a)
theorem eY s t:bb s { s with toks:=t }:=⟨s.heap,t,rfl,fun D D e=>e⟩
theorem ur(s:aw){h:aB}t(k:∀ b o,s.heap.get? b=aa o->h.get? b=aa o):bb s { s with heap:=h,toks:=t }:=⟨h,t,rfl,k⟩
theorem gE s o:bb s { s with heap:=s.heap.push o }:=⟨_,s.toks,rfl,fun D D e=>bc _ e⟩
theorem ay.keeps(S:ay B w H Z wc U W C s)(k:bb s s'):ay B w H Z wc U W C s' where
 base:=fun b o e=>cj k b o (S.base b o e)
 sub:=S.sub
 live:=fun a ha=>by refine ae (S.live a ha) fun o e=>?_;exact ⟨o,cj k a o e⟩
 old:=S.old
 ek:=S.ek
 eg:=S.eg
 eb:=S.eb
 loc:=S.loc
 ns:=by refine ae S.ns fun m D=>ac D fun J hm=>?_;clear D;exact ⟨m,J.keeps (cj k),fun p F hk=>by refine ae (hm p F hk) fun v D=>ac D fun e r=>?_;clear D;exact ⟨v,e,r.move (cu k)⟩⟩
 cl:=fun p F hk=>by refine aM (S.cl p F hk) fun c v D=>aE D fun e hc r=>?_;clear D;exact aR c v ⟨e,hc.keeps (cj k),r.move (cu k)⟩
 cellU:=fun x c e=>by refine ac (S.cellU x c e) fun G D=>?_;refine ae D fun v hc=>?_;clear D;exact ⟨G,v,hc.keeps (cj k)⟩
 cellI:=S.cellI
 cellW:=S.cellW
 own:=fun p F=>by refine aE (S.own p F) fun G hl r=>?_;exact ⟨G,hl,r.move (cu k) fun o e=>cj k _ o e⟩
 ownN:=S.ownN
 wr:=S.wr
theorem ay.liveK(S:ay B w H Z wc U W C s)a(e:a∈U){G:Prop}(k:∀ o,s.heap.get? a=aa o->G):G:=(S.live a e).elim k
theorem ay.nsK(S:ay B w H Z wc U W C s){G:Prop}(k:∀ m,s.heap.Ns Z.locals m->(∀ p∈C.vars,Z.kindOf (p.1)=aa .local->∃ v,m (p.1)=aa v/\aT B w U s.heap p.2 v)->G):G:=ae S.ns fun m D=>ac D fun h1 F=>k m h1 F
theorem ay.clK(S:ay B w H Z wc U W C s)p(D:p∈C.vars)(hk:Z.kindOf (p.1)≠aa .local){G:Prop}(k:∀ c v,Z.cells.lookup (p.1)=aa c->s.heap.IsCell c (aa v)->aT B w U s.heap p.2 v->G):G:=aM (S.cl p D hk) fun c v F=>aE F fun h1 L J=>k c v h1 L J
theorem ay.cellUK(S:ay B w H Z wc U W C s)x c(e:Z.cells.lookup x=aa c){G:Prop}(k:c∈U->∀ v,s.heap.IsCell c v->G):G:=ac (S.cellU x c e) fun h1 D=>ae D fun v F=>k h1 v F
theorem ay.ownK(S:ay B w H Z wc U W C s)p(D:p∈C.own){G:Prop}(k:p.1∈U->p.1≠Z.locals->b0 B w U s.heap p.1 p.2->G):G:=aE (S.own p D) fun h1 J F=>k h1 J F
structure aW (n:Nat) (A:bo):Prop where
 h:A.handled=ab
 d:A.depth+n < recursionLimit
 u:A.units+10 * n < eA
theorem aW.mono{n m:Nat}{A:bo}(r:aW n A)(h:m<=n):aW m A:=⟨r.h,cN (gs h _) r.d,cN (gs (Dc _ h) _) r.u⟩
theorem aW.in1{n:Nat}{A:bo}(r:aW (n+1) A):aW n A.in1:=by obtain ⟨h,d,u⟩:=r;exact ⟨h,by show A.depth+n < _;exact c6 (du ‹_› (by decide)),by show A.units+1+10 * n < _;exact PP u⟩
theorem aW.deeper{n:Nat}{A:bo}(r:aW (n+1) A)Z:aW n (A.deeper Z):=by obtain ⟨h,d,u⟩:=r;exact ⟨h,by show A.depth+1+n < _;exact PQ d,by show A.units+3+10 * n < _;exact PR u⟩
end
section
variable (B w)
def OP(A:bo)(U:List am)(s:aw)(t:Sem ar)(x:X):Prop :=
 ak (av B w) A t (fun v s'=>bb s s'/\aT B w U s'.heap x v) (fun D D=>False) s
def mG(A:bo)(s:aw)(t:Sem Bool)(b:Bool):Prop :=
 ak (av B w) A t (fun v s'=>bb s s'/\v=b) (fun D D=>False) s
def EV(H:aB)(A:bo)(Z:aS)(wc:List aq)(C:MS)(e:Expr)(x:X):Prop :=
 ∀ U W s,ay B w H Z wc U W C s->OP B w A U s (b5 e Z) x
def TT(H:aB)(A:bo)(Z:aS)(wc:List aq)(C:MS)(e:Expr)(b:Bool):Prop :=
 ∀ U W s,ay B w H Z wc U W C s->mG B w A s (isTrue e Z (b5 e Z)) b
end
variable {A:bo}{C:MS}
theorem OP.mono{t:Sem ar}{x:X}{Q:ar->aw->Prop}(h:OP B w A U s t x)(hq:∀ v s',bb s s'->aT B w U s'.heap x v->Q v s'):
 ak (av B w) A t Q (fun D D=>False) s:=aF h (fun v s' q=>hq v s' q.1 q.2) fun D D e=>e
theorem mG.mono{t:Sem Bool}{b:Bool}{Q:Bool->aw->Prop}(h:mG B w A s t b)(hq:∀ s',bb s s'->Q b s'):
 ak (av B w) A t Q (fun D D=>False) s:=aF h (fun v s' q=>by refine rl q.2 ?_;exact hq s' q.1) fun D D e=>e
def dM(U:List am)(s:aw):Prop:=∀ a∈U,∃ o,s.heap.get? a=aa o
theorem dM.fresh(L:dM U s):s.heap.objs.size ∉ U:=fun h=>by refine ae (L _ h) fun o e=>?_;exact absurd (bH e) (i6 _)
theorem dM.ge(L:dM U s){a:am}(h:s.heap.objs.size<=a):a ∉ U:=fun hm=>by refine ae (L _ hm) fun o e=>?_;exact absurd (bH e) (ch.mpr h)
theorem uI{x:aq}{y:X}{pos:aK}(hm:(x,y)∈C.vars)(hl:Z.kindOf x=aa .local)
 (hd:(x == ("__debug__" : aq))=false):EV B w H A Z wc C (.Name x pos) y:=fun U W s S=>by
 refine lk fun _ F=>?_
 refine S.nsK fun m G hv=>?_
 refine ae (hv _ hm hl) fun v D=>ac D fun e r=>?_;clear D
 refine F ?_
 exact wpAny_Name (wpAny_loadName_local S.ek hl G e ⟨cb s,r⟩) hd
theorem ut{x:aq}{y:X}{pos:aK}(hm:(x,y)∈C.vars)(hl:Z.kindOf x=aa .cell)
 (hd:(x == ("__debug__" : aq))=false):EV B w H A Z wc C (.Name x pos) y:=fun U W s S=>by
 refine S.clK _ hm (by refine rl hl ?_;intro h;replace h:=sI h;injection h) fun c v e hc r=>?_
 exact wpAny_Name (wpAny_loadName_cell S.ek hl e hc ⟨cb s,r⟩) hd
theorem IM{x:aq}{y:X}{pos:aK}(hm:(x,y)∈C.vars)(hl:Z.kindOf x=aa .free)
 (hd:(x == ("__debug__" : aq))=false) (D:(x == ("__classdict__" : aq))=false):EV B w H A Z wc C (.Name x pos) y:=fun U W s S=>by
 refine S.clK _ hm (by refine rl hl ?_;intro h;replace h:=sI h;injection h) fun c v e hc r=>?_
 exact wpAny_Name (wpAny_loadName_free S.ek hl e hc ⟨cb s,r⟩ D) hd
theorem uJ{i:Int}{k:Nat}{pos:aK}:EV B w H A Z wc C (.Constant (.int i) k pos) (.d (.int i)):=fun U W s S =>
 wpAny_Constant_int ⟨eY s _,eL.mpr ⟨_,rfl⟩⟩
theorem qJ{k:Nat}{pos:aK}:EV B w H A Z wc C (.Constant .none k pos) (.d .none):=fun U W s S =>
 wpAny_Constant_none ⟨cb s,kG.mpr rfl⟩
theorem IN{b:Bool}{k:Nat}{pos:aK}:EV B w H A Z wc C (.Constant (.bool b) k pos) (.d (.bool b)):=fun U W s S =>
 wpAny_Constant_bool ⟨cb s,ei.mpr rfl⟩
theorem Kl{x:aq}{k:Nat}{pos:aK}:EV B w H A Z wc C (.Constant (.str x) k pos) (.d (.str x.cps.toList)):=fun U W s S =>
 wpAny_Constant_str ⟨eY s _,Al.mpr ⟨_,rfl⟩⟩
def ES(B:bm)(w:bh)(H:aB)(A:bo)(Z:aS)(wc:List aq)(C:MS)(pos:aK)(es:List Expr)(xs:List X):Prop :=
 ∀ U W s,ay B w H Z wc U W C s->ak (av B w) A (spliced (backTo pos (gh es Z))) (fun vs s'=>bb s s'/\ai (aT B w U s'.heap) xs vs) (fun D D=>False) s
theorem hM{pos:aK}:ES B w H A Z wc C pos [] []:=fun U W s S=>wZ ⟨cb s,.nil⟩
theorem gi{pos:aK}{e:Expr}{es:List Expr}{x:X}{xs:List X}(h:EV B w H A Z wc C e x)(D:ES B w H A Z wc C pos es xs)
 (G:gh (e::es) Z=(false,b5 e Z)::gh es Z:=by rfl):ES B w H A Z wc C pos (e::es) (x::xs):=fun U W s S =>
 sF ((h U W s S).mono fun v s' k r=>aF (D U W s' (S.keeps k)) (fun vs s'' q=>⟨bp k q.1,.cons (r.move (cu q.1)) q.2⟩) fun F F e=>e) G
theorem jI{h:aB}:∀ {ds:List D} {vs:List ar},ai (aT B w U h) (ds.map .d) vs->ai (aC B w U h) ds vs:=by
 intro G;induction G with
 |nil =>
  intro _ r;replace r:=r.n;subst r;exact .nil
 |cons _ _ F =>
  intro _ r;cases r with|cons h t=>exact .cons h (F t)
theorem nv{h:aB}{ds:List D}{vs:List ar}(q:ai (aC B w U h) ds vs):ai (aT B w U h) (ds.map .d) vs:=by
 induction q with
 |nil=>exact .nil
 |cons h _ ih=>exact .cons h ih
theorem np(L:dM U s){ds:List D}{vs:List ar}(r:ai (aC B w U s.heap) ds vs):aC B w U (s.heap.push (dY vs 0)) (.tup ds) (.ref s.heap.objs.size) :=
 qI.mpr ⟨_,vs,0,rfl,L.fresh,b9 _ rfl,r.imp fun d v q=>q.move (bj.ext fun F F e=>bc _ e)⟩
theorem xy(L:dM U s){ds:List D}{vs:List ar}(r:ai (aC B w U s.heap) ds vs):aC B w U (s.heap.push (cL vs 0)) (.list ds) (.ref s.heap.objs.size) :=
 lU.mpr ⟨_,vs,0,rfl,L.fresh,b9 _ rfl,r.imp fun d v q=>q.move (bj.ext fun F F e=>bc _ e)⟩
theorem ay.lives{W:List am}(S:ay B w H Z wc U W C s):dM U s:=S.live
theorem dm{n:Nat}(h:n<=100000):n<=sizeLine:=by refine rl ja ?_;exact aH ‹_› (by decide)
theorem y0{pos:aK}{k:Nat}{es:List Expr}{ds:List D}(h:ES B w H A Z wc C pos es (ds.map .d))(J:ds.length<=100000):EV B w H A Z wc C (.Tuple es k pos) (.d (.tup ds)):=fun U W s S=>by
 refine wpAny_Tuple (aF (h U W s S) (fun vs s' q=>?_) fun G G e=>e);have F:=jI q.2;exact ⟨dm (by refine rl (az F.length) ?_;exact J),bp q.1 (gE _ _),np (S.keeps q.1).lives F⟩
theorem IP{pos:aK}{es:List Expr}{ds:List D}(h:ES B w H A Z wc C pos es (ds.map .d))(J:ds.length<=100000):EV B w H A Z wc C (.List es pos) (.d (.list ds)):=fun U W s S=>by
 refine wpAny_List (aF (h U W s S) (fun vs s' q=>?_) fun G G e=>e);have F:=jI q.2;exact ⟨dm (by refine rl (az F.length) ?_;exact J),bp q.1 (gE _ _),xy (S.keeps q.1).lives F⟩
def jR(B:bm)(w:bh)(H:aB)(A:bo)(Z:aS)(wc:List aq)(C:MS)(op:nC)(a b c:X):Prop :=
 ∀ U W s F D,ay B w H Z wc U W C s->aT B w U s.heap a F->aT B w U s.heap b D->OP B w A U s (binaryOp op F D) c
theorem Km{l r:Expr}{op:nC}{pos:aK}{a b c:X}(T:EV B w H A Z wc C l a)(Q:EV B w H A Z wc C r b)(V:jR B w H A Z wc C op a b c):
 EV B w H A Z wc C (.BinOp l op r pos) c:=fun U W s S =>
 wpAny_BinOp ((T U W s S).mono fun F s₁ D G=>(Q U W s₁ (S.keeps D)).mono fun P s₂ k₂ N =>
  (V U W s₂ F P ((S.keeps D).keeps k₂) (G.move (cu k₂)) N).mono fun d d J L=>⟨bp D (bp k₂ J),L⟩)
def eJ(B:bm)(w:bh)(H:aB)(A:bo)(Z:aS)(wc:List aq)(C:MS)(op:gQ)(a b:X)(c:Bool):Prop :=
 ∀ U W s F D,ay B w H Z wc U W C s->aT B w U s.heap a F->aT B w U s.heap b D->OP B w A U s (compareOp op F D) (.d (.bool c))
theorem Kn{l r:Expr}{op:gQ}{pos:aK}{a b:X}{c:Bool}(T:EV B w H A Z wc C l a)(Q:EV B w H A Z wc C r b)(V:eJ B w H A Z wc C op a b c)
 (hm:ni op r=false:=by with_unfolding_all rfl):EV B w H A Z wc C (.Compare l [op] [r] pos) (.d (.bool c)):=fun U W s S =>
 wpAny_Compare1 ((T U W s S).mono fun F s₁ D G=>(Q U W s₁ (S.keeps D)).mono fun P s₂ k₂ N =>
  (V U W s₂ F P ((S.keeps D).keeps k₂) (G.move (cu k₂)) N).mono fun e e J L=>⟨bp D (bp k₂ J),L⟩) hm
theorem nt{A:bo}{b:Bool}{v:ar}{h:aB}{Q:Bool->aw->Prop}{E:ar->aw->Prop}(r:aT B w U h (.d (.bool b)) v)(hq:Q b s):ak (av B w) A (truthy v) Q E s:=by obtain rfl:=ei.mp r;exact wpAny_truthy_bool hq
theorem rb{l r:Expr}{op:gQ}{pos:aK}{a b:X}{c:Bool}(T:EV B w H A Z wc C l a)(Q:EV B w H A Z wc C r b)(V:eJ B w H A Z wc C op a b c)
 (hm:ni op r=false:=by with_unfolding_all rfl):TT B w H A Z wc C (.Compare l [op] [r] pos) c:=fun U W s S =>
 wpAny_isTrue_Compare1 ((T U W s S).mono fun F s₁ D G=>(Q U W s₁ (S.keeps D)).mono fun P s₂ k₂ N =>
  (V U W s₂ F P ((S.keeps D).keeps k₂) (G.move (cu k₂)) N).mono fun d d J L=>nt L ⟨bp D (bp k₂ J),rfl⟩) hm
theorem FO{l F D:Expr}{G J:gQ}{pos:aK}{a b c:X}{p q:Bool}(r:EV B w H A Z wc C l a)(o:EV B w H A Z wc C F b)(n:EV B w H A Z wc C D c)
 (T:eJ B w H A Z wc C G a b p) (V:eJ B w H A Z wc C J b c q)
 (hm:qs [G,J] [F,D]=false:=by with_unfolding_all rfl):TT B w H A Z wc C (.Compare l [G,J] [F,D] pos) (p && q):=fun U W s S =>
 isTrue_chain ((r U W s S).mono fun e s₁ N F=>test_link ((o U W s₁ (S.keeps N)).mono fun Q s₂ k₂ D =>
  (T U W s₂ e Q ((S.keeps N).keeps k₂) (F.move (cu k₂)) D).mono fun u s₃ P j=>nt j (by
   have k:bb s s₃:=bp N (bp k₂ P);rcases p with _|_
   . exact ⟨k,rfl⟩
   . exact test_last ((n U W s₃ (S.keeps k)).mono fun f m L d=>(V U W m Q f ((S.keeps k).keeps L) ((D.move (cu P)).move (cu L)) d).mono fun u t i g =>
      nt g ⟨bp k (bp L i),rfl⟩)))) hm
def Am(B:bm)(w:bh)(H:aB)(A:bo)(Z:aS)(wc:List aq)(C:MS)(op:UnaryOp)(a c:X):Prop :=
 ∀ U W s v,ay B w H Z wc U W C s->aT B w U s.heap a v->OP B w A U s (unaryOp op v) c
theorem Oo{e:Expr}{op:UnaryOp}{pos:aK}{a c:X}(h:EV B w H A Z wc C e a)(G:Am B w H A Z wc C op a c):EV B w H A Z wc C (.UnaryOp op e pos) c:=fun U W s S =>
 wpAny_UnaryOp ((h U W s S).mono fun v s₁ k r=>(G U W s₁ v (S.keeps k) r).mono fun F F k₂ D=>⟨bp k k₂,D⟩)
theorem Ko{e:Expr}{pos:aK}{b:Bool}(h:TT B w H A Z wc C e b):TT B w H A Z wc C (.UnaryOp .Not e pos) (!b):=fun U W s S =>
 wpAny_isTrue_Not ((h U W s S).mono fun D k=>⟨k,rfl⟩)
theorem An{e:Expr}{b:Bool}(h:EV B w H A Z wc C e (.d (.bool b)))
 (G:∀ D,isTrue e Z D=(do let v ← D;hK e.pos;mi [v] (truthy v)):=by intro _;rfl):TT B w H A Z wc C e b:=fun U W s S =>
 wpAny_isTrue_value ((h U W s S).mono fun F F k r=>nt r ⟨k,rfl⟩) (G _)
def oq(B:bm)(w:bh)(H:aB)(A:bo)(Z:aS)(wc:List aq)(C:MS)(es:List Expr)(b:Bool):Prop :=
 ∀ U W s,ay B w H Z wc U W C s->mG B w A s (allTrue .And es Z) b
def oX(B:bm)(w:bh)(H:aB)(A:bo)(Z:aS)(wc:List aq)(C:MS)(es:List Expr)(b:Bool):Prop :=
 ∀ U W s,ay B w H Z wc U W C s->mG B w A s (allTrue .Or es Z) b
theorem Hf:oq B w H A Z wc C [] true:=fun D D s D=>wpAny_allTrue_And_nil ⟨cb s,rfl⟩
theorem IQ:oX B w H A Z wc C [] false:=fun D D s D=>wpAny_allTrue_Or_nil ⟨cb s,rfl⟩
theorem yq{e:Expr}{es:List Expr}{b c:Bool}(h:TT B w H A Z wc C e b)(D:b=true->oq B w H A Z wc C es c):oq B w H A Z wc C (e::es) (b && c):=fun U W s S =>
 wpAny_allTrue_And_cons ((h U W s S).mono fun s' k=>by
  clear e h;rcases b with _|_
  . exact ⟨k,rfl⟩
  . exact (D rfl U W s' (S.keeps k)).mono fun s'' k'=>⟨bp k k',rfl⟩)
theorem y2{e:Expr}{es:List Expr}{b c:Bool}(h:TT B w H A Z wc C e b)(D:b=false->oX B w H A Z wc C es c):oX B w H A Z wc C (e::es) (b || c):=fun U W s S =>
 wpAny_allTrue_Or_cons ((h U W s S).mono fun s' k=>by
  clear e h;cases b with
  |true=>exact ⟨k,rfl⟩
  |false=>exact (D rfl U W s' (S.keeps k)).mono fun s'' k'=>⟨bp k k',rfl⟩)
theorem Kp{es:List Expr}{pos:aK}{b:Bool}(h:oq B w H A Z wc C es b):TT B w H A Z wc C (.BoolOp .And es pos) b:=fun U W s S=>Dd (h U W s S)
theorem Op{es:List Expr}{pos:aK}{b:Bool}(h:oX B w H A Z wc C es b):TT B w H A Z wc C (.BoolOp .Or es pos) b:=fun U W s S=>Dd (h U W s S)
theorem zJ{D e₂:Expr}{pos:aK}{b c:Bool}(h:EV B w H A Z wc C D (.d (.bool b)))(F:b=true->EV B w H A Z wc C e₂ (.d (.bool c))):
 EV B w H A Z wc C (.BoolOp .And [D,e₂] pos) (.d (.bool (b && c))):=fun U W s S =>
 wpAny_And2 ((h U W s S).mono fun v s' k r=>nt r (by
  clear h pos;clear D;rcases b with _|_
  . exact ⟨k,r⟩
  . exact (F rfl U W s' (S.keeps k)).mono fun G G k' J=>⟨bp k k',J⟩))
theorem AI{t D e₂:Expr}{pos:aK}{b:Bool}{x:X}(h:TT B w H A Z wc C t b)(G:b=true->EV B w H A Z wc C D x)(F:b=false->EV B w H A Z wc C e₂ x):
 EV B w H A Z wc C (.IfExp t D e₂ pos) x:=fun U W s S =>
 wpAny_IfExp ((h U W s S).mono fun s' k=>by
  clear h pos;clear t;rcases b with _|_
  . exact (F rfl U W s' (S.keeps k)).mono fun J J k' L=>⟨bp k k',L⟩
  . exact (G rfl U W s' (S.keeps k)).mono fun J J k' L=>⟨bp k k',L⟩)
def qK(B:bm)(w:bh)(H:aB)(A:bo)(Z:aS)(wc:List aq)(C:MS)(a i c:X):Prop :=
 ∀ U W s D F,ay B w H Z wc U W C s->aT B w U s.heap a D->aT B w U s.heap i F ->
  ∃ T id,s.TypeIs D T/\typeLookup (.type T) "__getitem__" = pure (aa (.builtin id))/\OP B w A U s (getItem D F) c
theorem Ap{e i:Expr}{pos:aK}{a b c:X}(V:EV B w H A Z wc C e a)(Q:EV B w H A Z wc C i b)(f:qK B w H A Z wc C a b c)
 (hb:∀ o j,subscripted i false o j=operate [o,j] (getItem o j):=by intro _ _;rfl):EV B w H A Z wc C (.Subscript e i pos) c:=fun U W s S =>
 Subscript_ ((V U W s S).mono fun F s₁ D J=>(Q U W s₁ (S.keeps D)).mono fun G s₂ k₂ P=>by
  refine aM (f U W s₂ F G ((S.keeps D).keeps k₂) (J.move (cu k₂)) P) fun T id d=>aE d fun l hl k=>?_;clear d;exact tail_any l hl (k.mono fun g g L N=>⟨bp D (bp k₂ L),N⟩) (hb F G))
mutual
noncomputable def dN:D->PyData
 | .none=>.none
 | .bool b=>.bool b
 | .int i=>.int i
 | .str s=>.str ⟨s.toArray⟩
 | .tup l=>.tuple (fx l)
 | .list l=>.list (fx l)
 | .idict _=>.none
 | .bdict _=>.none
 | .tdict _=>.none
noncomputable def fx:List D->List PyData
 |[]=>[]
 |d::ds=>dN d::fx ds
end
mutual
noncomputable def pl:Nat->D->Bool
 |n+1,.tup l=>dC n l
 |n+1,.list l=>dC n l
 |0,.tup _=>false
 |0,.list _=>false
 |_,.idict _=>false
 |_,.bdict _=>false
 |_,.tdict _=>false
 |_,.none=>true
 |_,.bool _=>true
 |_,.int _=>true
 |_,.str s=>xJ ⟨s.toArray⟩
noncomputable def dC:Nat->List D->Bool
 |_,[]=>true
 |n,d::ds=>pl n d && dC n ds
end
theorem Hg:∀ l:List D,fx l=l.map dN:=by
 intro F;induction F with
 |nil =>
  exact rfl
 |cons d ds G =>
  exact congrArg _ ‹_›
theorem nE{n:Nat}:∀ {l:List D},dC n l=true ↔ ∀ d∈l,pl n d=true:=by
 intro J;induction J with
 |nil =>
  exact ⟨fun F F h=>(a7 h).elim,fun F=>rfl⟩
 |cons d ds G =>
  exact (sq (x:=pl n d) (y:=dC n ds)).trans ((and_congr_right fun F=>G).trans (List.forall_mem_cons (p:=fun d=>pl n d=true)).symm)
mutual
theorem aC.reads:∀ n d v,pl n d=true->aC B w U h d v->∃ as,Reads h v (dN d) as
 |_,.none,v,_,r=>by obtain rfl:=Hc.mp r;exact ⟨_,Reads.none⟩
 |_,.bool b,v,_,r=>by obtain rfl:=uc.mp r;exact ⟨_,Reads.bool b⟩
 |_,.int i,v,_,r=>by refine gd r fun t F=>?_;subst F;exact ⟨_,Reads.int i t⟩
 |_,.str s,v,_,r=>by refine jb r fun t F=>?_;subst F;exact ⟨_,Reads.str _ t⟩
 |0,.tup _,_,p,_=>nB p
 |0,.list _,_,p,_=>nB p
 |0,.idict _,_,p,_=>nB p
 |0,.bdict _,_,p,_=>nB p
 |0,.tdict _,_,p,_=>nB p
 |n+1,.idict _,_,p,_=>nB p
 |n+1,.bdict _,_,p,_=>nB p
 |n+1,.tdict _,_,p,_=>nB p
 |n+1,.tup l,v,p,r=>by
  refine aP r fun a vs k G=>bR G fun F _ J L=>?_;clear r G;subst F;refine ae (fD.reads n l vs p L) fun as q=>⟨as,by exact reads_tuple_at J rfl rfl (by simpa using q)⟩
 |n+1,.list l,v,p,r=>by
  refine aP r fun a vs k G=>bR G fun F _ J L=>?_;clear r G;subst F;refine ae (fD.reads n l vs p L) fun as q=>⟨a::as,by exact reads_list_at J rfl rfl (by simpa using q)⟩
theorem fD.reads:∀ n l vs,dC n l=true->fD B w U h l vs->∃ as,ReadsAll h vs (fx l) as
 |_,[],vs,_,r=>by obtain rfl:vs = []:=r;exact ⟨_,ReadsAll.nil⟩
 |n,d::ds,vs,p,r=>by
  refine ct p fun G N=>aM r fun v q F=>aE F fun J P L=>?_;clear r F;subst J;refine ae (aC.reads n d v G P) fun as x=>ae (fD.reads n ds q N L) fun bs y=>⟨_,by exact ReadsAll.cons x y⟩
end
theorem E4 n s(p:pl n (.str s)=true):(dN (.str s)).canLay0=true/\(dN (.str s)).depth<=n:=by
 have:pl n (.str s)=xJ ⟨s.toArray⟩:=by obtain ⟨⟩:=n<;>rfl
 rw [this] at p;exact ⟨by exact p,by exact cG _⟩
mutual
theorem iB:∀ n d,pl n d=true->(dN d).canLay0=true/\(dN d).depth<=n
 |_,.none,_=>by exact ⟨rfl,cG _⟩
 |_,.bool b,_=>by exact ⟨rfl,cG _⟩
 |_,.int i,_=>by exact ⟨rfl,cG _⟩
 |n,.str s,p=>E4 n s p
 |0,.tup _,p=>nB p
 |0,.list _,p=>nB p
 |0,.idict _,p=>nB p
 |0,.bdict _,p=>nB p
 |0,.tdict _,p=>nB p
 |n+1,.idict _,p=>nB p
 |n+1,.bdict _,p=>nB p
 |n+1,.tdict _,p=>nB p
 |n+1,.tup l,p=>by
  have:=l9 n l p;dsimp only [dN,PyData.canLay0,PyData.depth];exact ⟨this.1,by omega⟩
 |n+1,.list l,p=>by
  have:=l9 n l p;dsimp only [dN,PyData.canLay0,PyData.depth];exact ⟨this.1,by omega⟩
theorem l9:∀ n l,dC n l=true->Dz (fx l)=true/\m5 (fx l)<=n
 |_,[],_=>by exact ⟨rfl,cG _⟩
 |n,d::ds,p=>by
  refine ct p fun F G=>?_;have h1:=iB n d F;have J:=l9 n ds G;simp only [fx,Dz,m5,bX];exact ⟨⟨h1.1,J.1⟩,by omega⟩
end
noncomputable def bf(a b:D):Bool:=PyData.eqv (dN a) (dN b)
noncomputable def j5(a b:List D):Bool:=PyData.eqvAll (fx a) (fx b)
theorem nF a b:bf (.tup a) (.tup b)=j5 a b:=by rfl
theorem kB a b:bf (.list a) (.list b)=j5 a b:=by rfl
theorem yr a b as bs:j5 (a::as) (b::bs)=(bf a b && j5 as bs):=by rfl
theorem IR a as:j5 (a::as) []=false:=by rfl
theorem ma a b:bf (.int a) (.int b)=decide (a=b):=by by_cases h:a=b<;>rfl
theorem Hh a b:bf (.bool a) (.bool b)=decide (a=b):=by by_cases h:a=b<;>rfl
theorem IS a b:bf (.str a) (.str b)=decide (a=b):=by dsimp only [bf,dN,PyData.eqv];by_cases h:a=b<;>simp [h]
theorem Ef l:bf (.tup l) .none=false:=by rfl
theorem kC{α:Type}[DecidableEq α](f:α->D)(N:∀ a b,bf (f a) (f b)=decide (a=b)):∀ (l m:List α),j5 (l.map f) (m.map f)=decide (l=m):=by
 intro S;induction S with
 |nil =>
  intro F;rcases F with _|⟨L,G⟩
  iterate 2 rfl
 |cons Q P J =>
  intro F;rcases F with _|⟨L,G⟩
  . rfl
  . refine rl b7 (rl b7 (rl (yr ..) (rl (N ..) (rl (J G) ?_))));by_cases h1:Q=L<;>by_cases T:P=G<;>simp [h1,T]
noncomputable def aj(l:List Int):D:=.tup (l.map .int)
theorem tS a b:bf (aj a) (aj b)=decide (a=b):=by refine rl (nF ..) ?_;rw [kC _ ma]
noncomputable def h9(l:List D)(x:D):Bool:=l.any fun y=>bf y x
theorem qL l x:((fx l).any fun y=>PyData.eqv y (dN x))=h9 l x:=by refine rl (Hg ..) (rl List.any_map rfl)
theorem FP(T:aW 1 A)(Q:pl 8 x=true)(gl:pl 9 (.tup l)=true):eJ B w H A Z wc C .In (.d x) (.d (.tup l)) (h9 l x):=fun U W s F N S J L=>by
 refine ae (aC.reads 8 x F Q J) fun as G=>ae (aC.reads 9 (.tup l) N gl L) fun bs P=>?_;have l₁:=iB 8 x Q;have l₂:=l9 8 l gl;exact SeqAt.in_tuple_reads P G l₂.1 l₁.1 (by have:=T.u;have:=mZ (m5 (fx l)) (dN x).depth;omega) (by refine rl (qL ..) ?_;exact ⟨cb s,ei.mpr rfl⟩)
theorem Eg(T:aW 1 A)(Q:pl 8 x=true)(gl:pl 9 (.tup l)=true):eJ B w H A Z wc C .NotIn (.d x) (.d (.tup l)) (!h9 l x):=fun U W s F N S J L=>by
 refine ae (aC.reads 8 x F Q J) fun as G=>ae (aC.reads 9 (.tup l) N gl L) fun bs P=>?_;have l₁:=iB 8 x Q;have l₂:=l9 8 l gl;exact SeqAt.notIn_tuple_reads P G l₂.1 l₁.1 (by have:=T.u;have:=mZ (m5 (fx l)) (dN x).depth;omega) (by refine rl (qL ..) ?_;exact ⟨cb s,ei.mpr rfl⟩)
theorem Oq:eJ B w H A Z wc C .Lt (.d (.int a)) (.d (.int b)) (decide (a < b)):=fun U W s L J S F D=>by
 refine cJ F fun t G=>?_;subst G;refine cJ D fun u G=>?_;subst G;exact w8 ⟨cb s,ei.mpr rfl⟩
theorem Os:eJ B w H A Z wc C .LtE (.d (.int a)) (.d (.int b)) (decide (a<=b)):=fun U W s L J S F D=>by
 refine cJ F fun t G=>?_;subst G;refine cJ D fun u G=>?_;subst G;exact PySem.P.le_int ⟨cb s,ei.mpr rfl⟩
theorem Ot:eJ B w H A Z wc C .Gt (.d (.int a)) (.d (.int b)) (decide (a > b)):=fun U W s L J S F D=>by
 refine cJ F fun t G=>?_;subst G;refine cJ D fun u G=>?_;subst G;exact PySem.P.gt_int ⟨cb s,ei.mpr rfl⟩
noncomputable def isNone:D->Bool
 | .none=>true
 |_=>false
theorem yt{U:List am}{h:aB}(r:aT B w U h (.d x) v):(v == c7)=isNone x:=by
 rcases x with _|b|i|i|l|l|l|l|l
 . obtain rfl:=kG.mp r;rfl
 . obtain rfl:=ei.mp r;rfl
 . refine cJ r fun t G=>?_;subst G;rfl
 . refine zI r fun t G=>?_;subst G;rfl
 . refine aP (qZ.mp r) fun a vs n F=>ac F fun G _=>?_;clear F;subst G;rfl
 . refine aP (jQ.mp r) fun a vs n F=>ac F fun G _=>?_;clear F;subst G;rfl
 . refine ae r fun a F=>ac F fun G _=>?_;clear r F;subst G;rfl
 . refine ae r fun a F=>ac F fun G _=>?_;clear r F;subst G;rfl
 . refine ae r fun a F=>ac F fun G _=>?_;clear r F;subst G;rfl
theorem E5:eJ B w H A Z wc C .IsNot (.o a) (.d .none) true:=fun U W s J G S F D=>by
 obtain rfl:=kG.mp D;obtain rfl:=fv.mp F;exact PySem.isNot_none ⟨cb s,ei.mpr rfl⟩
theorem Ou:eJ B w H A Z wc C .Is (.d x) (.d .none) (isNone x):=fun U W s L J S G F=>by
 obtain rfl:=kG.mp F;exact PySem.is_none (by refine rl (yt G) ?_;exact ⟨cb s,ei.mpr rfl⟩)
theorem y3:eJ B w H A Z wc C .IsNot (.d x) (.d .none) (!isNone x):=fun U W s L J S G F=>by
 obtain rfl:=kG.mp F;exact PySem.isNot_none (by refine rl (yt G) ?_;exact ⟨cb s,ei.mpr rfl⟩)
theorem Kq:jR B w H A Z wc C .Add (.d (.int a)) (.d (.int b)) (.d (.int (a+b))):=fun U W s L J S F D=>by
 refine cJ F fun t G=>?_;subst G;refine cJ D fun u G=>?_;subst G;exact PySem.P.add_int ⟨eY s _,eL.mpr ⟨_,rfl⟩⟩
theorem Kr:jR B w H A Z wc C .Sub (.d (.int a)) (.d (.int b)) (.d (.int (a - b))):=fun U W s L J S F D=>by
 refine cJ F fun t G=>?_;subst G;refine cJ D fun u G=>?_;subst G;exact PySem.P.sub_int ⟨eY s _,eL.mpr ⟨_,rfl⟩⟩
theorem Ks(h:a.natAbs < 2 ^ 60):jR B w H A Z wc C .Mult (.d (.int a)) (.d (.int b)) (.d (.int (a * b))):=fun U W s N L S F D=>by
 refine cJ F fun t G=>?_;subst G;refine cJ D fun u G=>?_;subst G;refine PySem.P.mul_int ⟨eY s _,eL.mpr ⟨_,rfl⟩⟩ (IntMulOk.of_left ?_);unfold Builtin.Int.intBits;split
 . exact cG _
 . rename_i Q;have J:a.natAbs≠0:=by intro e;apply Q;simpa using e
   have:=(Nat.log2_lt J).mpr h;exact aH ‹_› (by decide)
theorem Kt(h:b≠0):jR B w H A Z wc C .Mod (.d (.int a)) (.d (.int b)) (.d (.int (a.fmod b))):=fun U W s L J S F D=>by
 refine cJ F fun t G=>?_;subst G;refine cJ D fun u G=>?_;subst G;exact PyProof.Rows.mod_int h ⟨eY s _,eL.mpr ⟨_,rfl⟩⟩
theorem IT(h:b≠0)(hb:b.natAbs < 1073741824):jR B w H A Z wc C .FloorDiv (.d (.int a)) (.d (.int b)) (.d (.int (a.fdiv b))):=fun U W s L J S F D=>by
 refine cJ F fun t G=>?_;subst G;refine cJ D fun u G=>?_;subst G;exact PyProof.Rows.floordiv_int h ⟨eY s _,eL.mpr ⟨_,rfl⟩⟩ (.inl (PyProof.noPylong_small hb))
theorem Ku:Am B w H A Z wc C .USub (.d (.int a)) (.d (.int (-a))):=fun U W s v S r=>by
 refine cJ r fun t D=>?_;subst D;exact PySem.P.neg_int ⟨eY s _,eL.mpr ⟨_,rfl⟩⟩
theorem Kv(X:a.length+b.length<=100000):jR B w H A Z wc C .Add (.d (.tup a)) (.d (.tup b)) (.d (.tup (a++b))):=fun U W s g j S J L=>by
 refine gD J fun t vs n V ht N T=>?_;subst V;refine gD L fun u P m V k G Q=>?_;subst V;have e:vs.toArray++P.toArray=(vs++P).toArray:=by simp
 have f:=T.length;have c:=Q.length;by_cases hv:vs = []
 . clear Q k ht c f e X;subst hv;obtain ⟨⟩:=T;exact xK ⟨_,N,rfl⟩ ⟨_,G,rfl⟩ wT xg wl wi (we _ _)
    (tuple_addW0 t u _ P.toArray n m ab ab #[] #[] (by rfl)) ⟨N,G,cb s,L⟩
 . by_cases i:P = []
   . clear k T ht c f e X;subst i;obtain ⟨⟩:=Q;refine rl (m6 ..) (xK ⟨_,N,rfl⟩ ⟨_,G,rfl⟩ wT xg wl wi (we _ _))
      (tuple_addW1 t u vs.toArray _ n m ab ab #[] #[] (by simpa using hv) (by rfl)) ⟨N,G,cb s,J⟩
   . refine xK ⟨_,N,rfl⟩ ⟨_,G,rfl⟩ wT xg wl wi (we _ _)
      (tuple_addW2 t u vs.toArray P.toArray n m ab ab #[] #[] (by simpa using hv) (by simpa using i) (by refine rl cx ?_;refine rl cx ?_;exact dm (PS X f c))) ⟨N,G,?_⟩
     refine rl e ⟨gE _ _,np S.lives (T.append Q)⟩
theorem Kw{i:Int}(a:0<=i)(hi:i < 2 ^ 63)(V:l[i.toNat]? = aa x):qK B w H A Z wc C (.d (.tup l)) (.d (.int i)) (.d x):=fun U W s N T S G J=>by
 refine gD G fun t vs n L ht Q b=>?_;subst L;refine cJ J fun u L=>?_;subst L;refine b.getK V fun v hv X=>aR ("tuple") _ ⟨⟨_,Q,rfl⟩,Cv.lookup,?_⟩;refine P.getItem_tuple (k:=i.toNat) (y:=v) Q (by omega) hi ?_ (by exact qG wq (hv)) ⟨cb s,X⟩;unfold seqIndex?;have h1:¬ i < 0:=oU a
 simp only [h1,if_false];refine rl (if_pos (by simp only [bX,decide_eq_true_eq,cx];exact PT ((fL.mp hv).1) h1)) rfl
noncomputable def fI(l:List (Int×Int))(k:Int):Option Int:=(l.find? fun p=>p.1=k).map (·.2)
theorem y4{h:aB}{kvs:List (Int×ar)}{k:Int}:∀ {l:List (Int×Int)},ai (fun (p:Int×Int) (q:Int×ar)=>q.1=p.1 /\ ∃ t,q.2 = .int p.2 t) l kvs ->
 match fI l k with
 |some i=>∃ t,nP kvs k=aa (.int i t)
 |none=>nP kvs k=none:=by
 intro l r
 induction r with
 |nil=>rfl
 | @cons p q D J hq _ ih =>
  refine lk fun _ G=>ac hq fun h1 F=>?_;clear hq;refine ae F fun t N=>?_;clear F;by_cases hk:p.1=k
  . have:fI (p::D) k=aa p.2:=by simp [fI,hk]
    refine G (rl this ?_);exact ⟨t,by simp [nP,h1,hk,N]⟩
  . have P:fI (p::D) k=fI D k:=by simp [fI,hk]
    have L:nP (q::J) k=nP J k:=by simp [nP,h1,hk]
    refine G (rl P (rl L ih))
inductive kb (B:bm) (w:bh) (H:aB) (A:bo) (Z:aS) (wc:List aq) (C:MS):Option Expr->Option Int->Prop
 |none:kb B w H A Z wc C ab ab
 |some {e:Expr} {i:Int}:EV B w H A Z wc C e (.d (.int i))->kb B w H A Z wc C (aa e) (aa i)
theorem kb.go{U W:List am}{s:aw}{i:Option Int}(h:kb B w H A Z wc C e i)(S:ay B w H Z wc U W C s)
 (hq:∀ v s',bb s s'->IsPart v i->Q v s'):ak (av B w) A (evalPart e Z) Q (fun D D=>False) s:=by
 rcases h with _|h
 . exact au (hq _ s (cb s) .none)
 . exact (h U W s S).mono fun v s' k r=>by refine cJ r fun t F=>?_;subst F;exact hq _ s' k (.int _ _)
def qi(B:bm)(w:bh)(H:aB)(A:bo)(Z:aS)(wc:List aq)(C:MS)(a:X)(lo hi:Option Int)(c:X):Prop :=
 ∀ U W s D sl F G,ay B w H Z wc U W C s->aT B w U s.heap a D->IsPart F lo->IsPart G hi->s.heap.IsSliceOf sl F G .none ->
  ∃ T id,s.TypeIs D T/\typeLookup (.type T) "__getitem__" = pure (aa (.builtin id))/\OP B w A U s (getItem D (.ref sl)) c
theorem Hj{a c:X}{lo hi:Option Int}(P:EV B w H A Z wc C e a)(hl:kb B w H A Z wc C F lo)(n:kb B w H A Z wc C G hi)
 (g:qi B w H A Z wc C a lo hi c):EV B w H A Z wc C (.Subscript e (.Slice F G ab p) pos) c:=fun U W s S =>
 Subscript_ ((P U W s S).mono fun J s₁ D L=>wpAny_Slice (hl.go (S.keeps D) fun d s₂ k₂ pl=>n.go ((S.keeps D).keeps k₂) fun f s₃ N i=>au (by
  have V:bb s₁ { s₃ with heap:=s₃.heap.push { cls:=.type "slice",data:=.fields #[d,f,.none] } }:=bp k₂ (bp N (gE _ _));refine aM (g U W _ J s₃.heap.objs.size d f ((S.keeps D).keeps V) (L.move (cu V)) pl i (Heap.IsSliceOf.new ..)) fun T id b=>aE b fun m Q l=>?_;clear b;exact tail_any (ops:=[.ref s₃.heap.objs.size,J]) m Q (l.mono fun j j k r=>⟨bp D (bp V k),r⟩) rfl)))
noncomputable def eB{α:Type}(l:List α)(lo hi:Option Int):List α:=((hi.elim l fun b=>l.take b.toNat).drop (lo.elim 0 bY))
def gU:Option Int->Prop
 |none=>True
 |some i=>0<=i
theorem tT{α:Type}(l:List α)lo hi(h1:gU lo)(D:gU hi):
 ((l.drop (lo.elim 0 (clipAt l.length))).take (hi.elim l.length (clipAt l.length) - lo.elim 0 (clipAt l.length)))=eB l lo hi:=by
 have c:∀ i:Int,0<=i->clipAt l.length i=min i.toNat l.length:=by
  intro i hi
  have:=clipAt_nat l.length i.toNat;rwa [CZ hi] at this
 unfold eB;apply sy;intro k;rcases lo with _|a
 . rcases hi with _|b
   . simp
   . simp only [nr,c b D,List.drop_zero,Nat.sub_zero,wE];by_cases hk:k < l.length
     . by_cases hb:k < b.toNat
       . refine rl (if_pos (PU hk hb)) (rl (if_pos hb) rfl)
       . refine rl (if_neg (PV hb)) (rl (if_neg hb) rfl)
     . refine rl (if_neg (PW hk)) ?_;split
       . refine rl (ij (ch.mp ‹_›)) rfl
       . rfl
 . rcases hi with _|b
   . simp only [nr,c a h1,wE,Dm];by_cases hk:a.toNat+k < l.length
     . refine rl (if_pos (PX hk)) ?_;refine rl (m4 (Bn hk)) rfl
     . refine rl (ij (l:=l) (i:=a.toNat+k) (ch.mp ‹_›)) ?_;split
       . refine rl (ij (Bo hk)) rfl
       . rfl
   . simp only [nr,c a h1,c b D,wE,Dm];by_cases hk:a.toNat+k < l.length
     . by_cases hb:a.toNat+k < b.toNat
       . refine rl (if_pos (PY hk hb)) (rl (if_pos hb) ?_);refine rl (m4 (Bn hk)) rfl
       . refine rl (if_neg (PZ hb)) (rl (if_neg hb) rfl)
     . have e:l[a.toNat+k]? = none:=ij (ch.mp ‹_›);refine rl e ?_;split
       . refine rl (ij (Bo hk)) ?_;split<;>rfl
       . split<;>rfl
theorem y5{U:List am}{h:aB}(r:ai (aC B w U h) l vs)lo hi :
 ai (aC B w U h) (eB l lo hi) (eB vs lo hi):=by
 rcases hi with _|b
 . exact r.drop _
 . exact (r.take _).drop _
theorem DX{α:Type}(l:List α)lo hi:(eB l lo hi).length<=l.length:=by unfold eB;obtain ⟨⟩:=hi<;>simp<;>exact P0
theorem IU{lo hi:Option Int}(h1:gU lo)(Q:gU hi)(P:l.length<=100000):qi B w H A Z wc C (.d (.list l)) lo hi (.d (.list (eB l lo hi))):=fun U W s G sl V X S r pl T F=>by
 refine He r fun t vs n N ht J L=>?_;subst N;refine aR ("list") _ ⟨⟨_,J,rfl⟩,v9,wpAny_getItem_list_slice ⟨_,J,rfl,n,rfl⟩ F pl T .none (fun h=>nS h) ?_ (by refine rl cx ?_;refine rl (az L.length) ?_;exact dm P)⟩;have e:slicePick vs.toArray lo hi ab=(eB vs lo hi).toArray:=by
  refine rl (slicePick_plain ..) (rl (az (tT vs lo hi h1 Q)) rfl)
 refine rl e ⟨gE _ _,xy S.lives (y5 L lo hi)⟩
theorem Dx lo hi(n:Nat)(h1:gU lo)(D:gU hi):wa lo hi 1 (n:Int)=(((lo.elim 0 (clipAt n):Nat):Int),((hi.elim n (clipAt n):Nat):Int)):=by
 have c:∀ i:Int,0<=i->((clipAt n i:Nat):Int)=min i n:=by
  intro i hi;refine rl (clipAt_cast ..) ?_;refine rl (if_neg (oU hi)) (P3 hi)
 unfold wa;have F:¬ ((1:Int) < 0):=by first|exact P4|omega
 rcases lo with _|a
 . rcases hi with _|b
   . rfl
   . have hb:¬ b < 0:=by have:0<=b:=D;exact oU this
     simp only [F,if_false,hb,nr,c b D];rfl
 . have ha:¬ a < 0:=by have:0<=a:=h1;exact oU this
   rcases hi with _|b
   . simp only [F,if_false,ha,nr,c a h1]
   . have hb:¬ b < 0:=by have:0<=b:=D;exact oU this
     simp only [F,if_false,ha,hb,nr,c a h1,c b D]
theorem xe{s:aw}{i:Option Int}{E:ar->aw->Prop}(p:IsPart v i)(h:Q i s):ak (av B w) A (Builtin.Slice.slicePartIndex v) Q E s:=by
 cases p with
 |none=>exact Cq h
 |int i t=>exact PyProof.Rows.slicePart_int h
theorem Eh(a b:Nat):wb (a:Int) (b:Int) 1=b - a:=by
 unfold wb;have h1:(1:Int) > 0:=by first|exact P5|omega
 simp only [h1,if_true,xL];split<;>(first|exact P6|exact P7 ‹_›)
theorem IV(xs:Array ar)a m(h:a+m<=xs.size):((c8 m).filterMap fun (k:Nat)=>xs[((a:Int)+(k:Int) * 1).toNat]?)=((xs.toList.drop a).take m):=by
 have e:(fun (k:Nat)=>xs[((a:Int)+(k:Int) * 1).toNat]?)=fun k=>xs[a+k]? := by
  funext k;have:((a:Int)+(k:Int) * 1).toNat=a+k:=P8
  refine rl this rfl
 refine rl e ?_
 have:=pick_run xs a m;rw [List.filterMap_map] at this;exact this
theorem zK n(i:Option Int)d(hd:d<=n):i.elim d (clipAt n)<=n:=by
 rcases i with _|i
 . exact hd
 . show clipAt n i<=n;exact P9
theorem Kx{lo hi:Option Int}(h1:gU lo)(c:gU hi)(hz:l.length<=100000):qi B w H A Z wc C (.d (.tup l)) lo hi (.d (.tup (eB l lo hi))):=fun U W s z sl vl vu S r pl pu g=>by
 refine gD r fun t vs n b ht ho u=>?_;subst b;have G:IsTup s.heap t vs.toArray:=⟨_,ho,rfl,n,rfl⟩;refine aR ("tuple") _ ⟨⟨_,ho,rfl⟩,Cv.lookup,?_⟩;refine ae (id g) fun os b=>aE b fun N f P=>?_;clear b;have J:((vs.drop (lo.elim 0 (clipAt vs.length))).take (hi.elim vs.length (clipAt vs.length) - lo.elim 0 (clipAt vs.length)))=eB vs lo hi:=tT vs lo hi h1 c;unfold OP getItem;try with_reducible refine fm ?_
 first|refine af (au ?_)|skip
 refine af (DA G.typeIs (by decide) ?_);refine af (iW (name:=i7 "__getitem__") G.typeIs Dn
  (fO Dn G.typeIs entry_tuple_getitem ?_ (args_tuple_getitem _ _)))
 show ak _ _ (Builtin.Tuple.tupleItemsOf (.ref t) >>= _) _ _ s;refine af (tupleItemsOf_ G ?_);refine af (i8 (⟨os,N,f⟩) ?_);refine rl (if_pos (by decide)) (af (Q:=_) (af (af (fQ N P (x:=vl) rfl (af (fQ N P (x:=vu) rfl (af (fQ N P (x:=.none) rfl (au ?_)))))))));refine af (Cq ?_);show ak _ _ (if ((1:Int) == 0)=true then _ else _) _ _ s
 refine rl (if_neg (by decide)) (af (xe pl (af (xe pu (af (au ?_))))));show ak _ _ (match wa lo hi 1 ((vs.toArray.size:Nat):Int) with|(lo,hi)=>pure (lo,(1:Int),wb lo hi 1)) _ _ s
 refine rl (Dx lo hi _ h1 c) (au ?_);dsimp only;refine rl (Eh ..) ?_;have hlen:vs.toArray.size=vs.length:=cx ..;refine rl hlen ?_;generalize V:lo.elim 0 (clipAt vs.length)=L at J ⊢;generalize T:hi.elim vs.length (clipAt vs.length)=Hi at J ⊢;have o:Hi<=vs.length:=by refine rl (az T) ?_;exact zK _ _ _ (cH _)
 have p:L<=vs.length:=by refine rl (az V) ?_;exact zK _ _ _ (cG _)
 have fresh:∀ m,L+m<=vs.length->m=Hi - L->ak (av B w) A.in1 (wf ((c8 m).filterMap fun (k:Nat)=>vs.toArray[((L:Int)+(k:Int) * 1).toNat]?).toArray) (fun v s'=>bb s s'/\aT B w U s'.heap (.d (.tup (eB l lo hi))) v) (fun X X=>False) s:=by
  intro m hm i;refine rl (IV _ _ _ (by refine rl hlen ?_;exact hm)) ?_;refine rl i ?_;show ak _ _ (wf ((vs.drop L).take (Hi - L)).toArray) _ _ s;refine rl J (f8 ⟨gE _ _,np S.lives (y5 u lo hi)⟩ ?_);show (eB vs lo hi).toArray.size<=nA;refine rl cx ?_;exact aH (DX _ _ _) (by refine rl (az u.length) ?_;exact dm hz)
 by_cases j:((L:Int) == 0 && (1:Int) == 1 && (Hi - L) == vs.length)=true
 . refine rl (if_pos j) (af (m:=Builtin.Tuple.tupleIsExact (.ref t)) (af (i8 G.typeIs (au ?_))));refine rl (if_pos (by decide)) (af (jG (au ⟨_,rfl,au ⟨cb s,?_⟩⟩)));simp only [bX,beq_iff_eq] at j;have y:L=0:=by omega
   have e1:Hi=vs.length:=by omega
   have e2:eB vs lo hi=vs:=by refine rl (az J) ?_;refine rl y ?_;refine rl e1 ?_;simp
   have e3:eB l lo hi=l:=by
    have ll:=u.length
    have:=tT l lo hi h1 c;rw [ll,V,T,y,e1] at this;refine rl (az this) (rl (az ll) ?_);simp
   refine rl e3 r
 . refine rl (if_neg j) ?_;by_cases a:L<=Hi
   . exact af (aF (fresh (Hi - L) (Qa o a) rfl) (fun v s' q=>au ⟨_,rfl,au q⟩) fun X X e=>e)
   . exact af (aF (fresh (Hi - L) (Qb p a) rfl) (fun v s' q=>au ⟨_,rfl,au q⟩) fun X X e=>e)
variable {mg mb:aq → Option ar}
structure GW (mg mb:aq->Option ar) (H:aB):Prop where
 g:H.Ns fP mg
 b:H.Ns builtinsNs mb
 nl:H.NoLimit
def BN(mg mb:aq->Option ar)(x:aq)(v:ar):Prop:=mg x=ab/\mb x=aa v
def eW(B:bm)(w:bh)(H:aB)(A:bo)(Z:aS)(wc:List aq)(C:MS)(f:ar)(xs:List X)(c:X):Prop :=
 ∀ U W s vs,ay B w H Z wc U W C s->ai (aT B w U s.heap) xs vs->OP B w A U s (call f vs) c
theorem y6{x:aq}{id:String}{p pos:aK}{e:Expr}{es:List Expr}{xs:List X}{c:X}(G:GW mg mb H)(F:BN mg mb x (.builtin id))(hk:Z.kindOf x=aa .globalImplicit)
 (hd:(x == ("__debug__" : aq))=false) (ha:ES B w H A Z wc C pos (e::es) xs) (hc:eW B w H A Z wc C (.builtin id) xs c)
 (L:gh (e::es) Z=(false,b5 e Z)::gh es Z:=by rfl) (J:(backTo pos (gh es Z)).any (·.1)=false:=by rfl) :
 EV B w H A Z wc C (.Call (.Name x p) (e::es) [] pos) c:=fun U W s S =>
 Call_ (ki S.ek hk (lw (by refine rl S.eg ?_;exact G.g.keeps S.base) F.1 (by refine rl S.eb ?_;exact G.b.keeps S.base) F.2
  (callWith_builtin1 (aF (ha U W s S) (fun vs s' q=>(hc U W s' vs (S.keeps q.1) q.2).mono fun D D k r=>⟨bp q.1 k,r⟩) fun D D e=>e) L J)) hd)
theorem Hk{x:aq}{T:String}{p pos:aK}{e:Expr}{es:List Expr}{xs:List X}{c:X}(G:GW mg mb H)(F:BN mg mb x (.type T))(hk:Z.kindOf x=aa .globalImplicit)
 (hd:(x == ("__debug__" : aq))=false) (ha:ES B w H A Z wc C pos (e::es) xs) (hc:eW B w H A Z wc C (.type T) xs c)
 (L:gh (e::es) Z=(false,b5 e Z)::gh es Z:=by rfl) (J:(backTo pos (gh es Z)).any (·.1)=false:=by rfl) :
 EV B w H A Z wc C (.Call (.Name x p) (e::es) [] pos) c:=fun U W s S =>
 Call_ (ki S.ek hk (lw (by refine rl S.eg ?_;exact G.g.keeps S.base) F.1 (by refine rl S.eb ?_;exact G.b.keeps S.base) F.2
  (mW (aF (ha U W s S) (fun vs s' q=>(hc U W s' vs (S.keeps q.1) q.2).mono fun D D k r=>⟨bp q.1 k,r⟩) fun D D e=>e) L J)) hd)
structure FN (mg:aq->Option ar) (H:aB) (x:aq) (a:am):Prop where
 g:mg x=aa (.ref a)
 f:∃ o fd,H.get? a=aa o/\o.data = .func fd
def kT(B:bm)(w:bh)(H:aB)(n:Nat)(a:am)(xs:List D)(c:D):Prop :=
 ∀ A U s vs,aW n A->(∀ b o,H.get? b=aa o->s.heap.get? b=aa o)->dM U s->(∀ u∈U,H.get? u=ab)->ai (aC B w U s.heap) xs vs->OP B w A U s (call (.ref a) vs) (.d c)
theorem Hl{x:aq}{a:am}{n:Nat}{p pos:aK}{e:Expr}{es:List Expr}{xs:List D}{c:D}(G:GW mg mb H)(N:FN mg H x a)(hk:Z.kindOf x=aa .globalImplicit)
 (hd:(x == ("__debug__" : aq))=false) (P:aW n A) (ha:ES B w H A Z wc C pos (e::es) (xs.map .d)) (hc:kT B w H n a xs c)
 (T:gh (e::es) Z=(false,b5 e Z)::gh es Z:=by rfl) :
 EV B w H A Z wc C (.Call (.Name x p) (e::es) [] pos) (.d c):=fun U W s S=>by
 refine aM N.f fun o V L=>ac L fun Q J=>?_;clear L
 refine Call_ (ki S.ek hk (Calls.loadGlobal_global (by refine rl S.eg ?_;exact G.g.keeps S.base) N.g
  (callWith_def (o:=o) J (aF (ha U W s S) (fun vs s' q=>⟨(S.keeps q.1).base _ _ Q,?_⟩) fun F F e=>e) T)) hd)
 exact (hc A U s' vs P (S.keeps q.1).base (S.keeps q.1).lives S.old (jI q.2)).mono fun F F k r=>⟨bp q.1 k,r⟩
theorem fits{n:Nat}(h:n<=100000):¬ (n:Int) ≥ 2 ^ 63:=by omega
theorem FQ(J:l.length<=100000):eW B w H A Z wc C (.builtin "len") [.d (.tup l)] (.d (.int l.length)):=fun U W s vs S r=>by
 refine r.c fun V X T Q F=>?_;subst T;replace F:=F.n;subst F;refine gD Q fun a vs n G _ L N=>?_;subst G;have e:(vs.toArray.size:Int)=l.length:=by refine rl cx ?_;refine rl N.length ?_;rfl
 refine P.len_tuple L (by refine rl e ?_;exact fits J) ?_;refine rl e (⟨eY s _,eL.mpr ⟨_,rfl⟩⟩)
variable {st':MS}{W':List am}
noncomputable def upd(l:List (aq×X))(x:aq)(y:X):List (aq×X):=(x,y)::l.filter fun p=>p.1 != x
theorem nG(h:p∈upd l x y):p=(x,y)\/(p∈l/\p.1≠x):=by
 rcases aL.mp h with e|h
 . exact .inl e
 . have:=b3.mp h;exact .inr ⟨this.1,by simpa using this.2⟩
noncomputable def MS.set(C:MS)(x:aq)(y:X):MS:={ C with vars:=upd C.vars x y }
section
variable {U'' W'':List am} {s'':aw}
structure aO (U W:List am) (s:aw) (U' W':List am) (s':aw):Prop where
 same:∃ h tk,s' = { s with heap:=h,toks:=tk }
 uu:∀ u∈U,u ∉ W->u∈U'
 un:∀ u∈U',u∈U\/s.heap.get? u=ab
 al:∀ a o,s.heap.get? a=aa o->∃ o',s'.heap.get? a=aa o'
 wn:∀ a∈W',a∈W\/s.heap.get? a=ab
 keep:∀ b o,b ∉ W->s.heap.get? b=aa o->s'.heap.get? b=aa o
theorem aO.of_keeps(k:bb s s'):aO U W s U W s' where
 same:=by refine iO k fun h t e _=>?_;clear k;exact aR h t e
 uu:=fun D h D=>h
 un:=fun D h=>.inl h
 al:=fun a o e=>⟨o,cj k a o e⟩
 wn:=fun D h=>.inl h
 keep:=fun b o D e=>cj k b o e
theorem aO.refl:aO U W s U W s:=.of_keeps (cb s)
theorem aO.dead(T:aO U W s U' W' s')(h:s'.heap.get? u=ab):s.heap.get? u=none:=by
 cases e:s.heap.get? u with
 |none=>rfl
 |some o=>refine ae (T.al u o e) fun D e'=>?_;rw [h] at e';exact nS e'
theorem aO.trans(T:aO U W s U' W' s')(D:aO U' W' s' U'' W'' s'')(L:∀ a∈U,∃ o,s.heap.get? a=aa o):aO U W s U'' W'' s'' where
 same:=by
  clear L;refine aM T.same fun h t J=>?_;subst J;clear T;refine aM D.same fun h' P J=>?_;subst J;exact aR h' P rfl
 uu:=fun u F N=>D.uu u (T.uu u F N) fun G=>(T.wn u G).elim N fun e=>by refine ae (L u F) fun o e'=>?_;rw [e] at e';exact nS e'
 un:=fun u F=>(D.un u F).elim (T.un u) fun h=>.inr (T.dead h)
 al:=fun a o e=>by refine ae (T.al a o e) fun Q e'=>?_;exact D.al a Q e'
 wn:=fun u F=>(D.wn u F).elim (T.wn u) fun h=>.inr (T.dead h)
 keep:=fun b o hb e=>D.keep b o (fun h=>(T.wn b h).elim hb fun h=>by rw [e] at h;exact sN h) (T.keep b o hb e)
theorem aO.stab(T:aO U W s U' W' s')(D:∀ a∈W,a∈U):bj U s.heap U' s'.heap:=⟨T.un,fun b o hb e=>T.keep b o (fun h=>hb (D b h)) e⟩
theorem ay.touch(S:ay B w H Z wc U W C s){T:List am}{h:aB}(Q:∀ a∈T,a∈U)(hk:∀ b o,b ∉ T->s.heap.get? b=aa o->h.get? b=aa o)
 (hl:∀ a∈T,∃ o,h.get? a=aa o) (V:Z.locals ∉ T) (P:∀ x c,Z.cells.lookup x=aa c->c ∉ T) (X:∀ p∈C.own,p.1 ∉ T) :
 ay B w H Z wc U W C { s with heap:=h,toks:=tk }:=by
 have stab:bj U s.heap U h:=⟨fun f G=>.inl G,fun b o hb e=>hk b o (fun hm=>hb (Q b hm)) e⟩
 exact {
  base:=fun b o e=>hk b o (fun hm=>by have:=S.old b (Q b hm);rw [e] at this;exact sN this) (S.base b o e)
  sub:=S.sub
  live:=fun a ha=>by
   refine lk fun _ N=>?_;by_cases hm:a∈T
   . refine N (hl a hm)
   . refine S.liveK a ha fun o e=>N ?_;exact ⟨o,hk a o hm e⟩
  old:=S.old
  ek:=S.ek
  eg:=S.eg
  eb:=S.eb
  loc:=S.loc
  ns:=by refine S.nsK fun m d hm=>?_;exact ⟨m,d.at' fun o e=>hk _ o V e,fun p F D=>by refine ae (hm p F D) fun v L=>ac L fun e r=>?_;clear L;exact ⟨v,e,r.move stab⟩⟩
  cl:=fun p F D=>by refine S.clK p F D fun c v e hc r=>?_;exact aR c v ⟨e,by refine f4 hc fun o J hd=>?_;clear hc;exact ⟨o,hk c o (P _ c e) J,hd⟩,r.move stab⟩
  cellU:=fun x c e=>by refine S.cellUK x c e fun G v hc=>?_;exact ⟨G,v,by (first|(refine f4 hc fun o J hd=>?_)|(refine f4 hc fun o J hd=>?_;clear hc));exact ⟨o,hk c o (P _ c e) J,hd⟩⟩
  cellI:=S.cellI
  cellW:=S.cellW
  own:=fun p F=>by refine S.ownK p F fun G hl r=>?_;exact ⟨G,hl,r.move stab fun o e=>hk _ o (X p F) e⟩
  ownN:=S.ownN
  wr:=S.wr }
theorem ay.forget(S:ay B w H Z wc U W C s)(hv:∀ p∈st'.vars,p∈C.vars)(F:st'.own.Sublist C.own)(G:∀ a∈st'.wr,a∈C.wr):ay B w H Z wc U W st' s :=
 { S with
   ns:=let ⟨m,hn,hm⟩:=S.ns;⟨m,hn,fun p D hk=>hm p (hv p D) hk⟩
   cl:=fun p D hk=>S.cl p (hv p D) hk
   own:=fun p D=>S.own p (F.subset D)
   ownN:=S.ownN.sublist (F.map _)
   wr:=fun a ha=>S.wr a (G a ha) }
theorem mx{b c:am}{V:List am}(h:b ∈ [c])(hc:c∈V):b∈V:=by refine rl (aV.mp h) ?_;exact hc
def eX(Z:aS)(wc:List aq)(x:aq):Prop:=Z.kindOf x=aa .local\/(Z.kindOf x=aa .cell/\x∈wc)
theorem ft(S:ay B w H Z wc U W C s)(hx:eX Z wc x)(r:aT B w U s.heap y v){Q:Unit->aw->Prop}{E:ar->aw->Prop}
 (hq:∀ s',aO U W s U W s'->ay B w H Z wc U W (C.set x y) s'->Q () s'):ak (av B w) A (storeName Z x v) Q E s:=by
 have hLW:=S.loc
 have hLU:=S.sub _ hLW
 refine lk fun _ g=>?_
 rcases hx with hx|⟨hx,hxw⟩
 . refine S.nsK fun m hn hm=>?_
   refine g ?_;refine wpAny_storeName_local hx hn (fun h' hn' hs'=>?_) (by refine rl S.ek ?_;rfl);have D:∀ b o,b ∉ [Z.locals]->s.heap.get? b=aa o->h'.get? b=aa o:=fun b o hb e=>hs'.extBut b o (fun q=>hb (by simp [q])) e;have k:∀ a ∈ [Z.locals],∃ o,h'.get? a=aa o:=by
    intro a ha;have:a=Z.locals:=by simpa using ha
    clear ha hm hn hx D hLU hLW hq;subst this;refine aP hn' fun o _ _ F=>ac F fun i _=>?_;clear hn' F;exact ⟨o,i⟩
   have stab:bj U s.heap U h':=⟨fun u f=>.inl f,fun b o hb e=>D b o (fun hm=>hb (mx hm hLU)) e⟩;have b10:∀ z c,Z.cells.lookup z=aa c->c≠Z.locals:=by
    intro z c hc e;refine lk fun _ g=>ac (S.cellU z c hc) fun _ F=>aM F fun vv oc q1=>ac q1 fun G P=>?_;clear F q1;refine aP hn fun oL es ep F=>aE F fun hoL hdL _=>?_;clear hn F;rw [e,hoL] at G;replace G:=sI G;subst G;rw [hdL] at P;contradiction
   refine hq _ ⟨⟨h',_,rfl⟩,fun u h u=>h,fun u h=>.inl h,fun a o e=>?_,fun u h=>.inl h,fun b o hb e=>D b o (fun hm=>hb (mx hm hLW)) e⟩ ?_
   . by_cases hm:a ∈ [Z.locals]
     . exact k a hm
     . exact ⟨o,D a o hm e⟩
   exact {
    base:=fun b o e=>D b o (fun hm=>by rw [S.old b (mx hm hLU)] at e;exact nS e) (S.base b o e)
    sub:=S.sub
    live:=fun a ha=>by
     by_cases hm:a=Z.locals
     . exact k a (by simp [hm])
     . refine S.liveK a ha fun o e=>⟨o,D a o (g8 hm) e⟩
    old:=S.old
    ek:=S.ek
    eg:=S.eg
    eb:=S.eb
    loc:=S.loc
    ns:=⟨_,hn',fun p L hk=>by
     rcases nG L with rfl|⟨L,N⟩
     . exact ⟨v,by exact if_pos rfl,r.move stab⟩
     . refine ae (hm p L hk) fun v' F=>ac F fun e j=>?_;clear F;exact ⟨v',by refine rl (if_neg fun q=>N q) ?_;exact e,j.move stab⟩⟩
    cl:=fun p L hk=>by
     refine lk fun _ g=>?_;rcases nG L with rfl|⟨L,N⟩
     . exact absurd hx hk
     . refine S.clK p L hk fun c v' e F j=>f4 F fun o i hd=>?_;clear F;refine g ?_;exact aR c v' ⟨e,⟨o,D c o (by exact g8 (b10 p.fst c e)) i,hd⟩,j.move stab⟩
    cellU:=fun z c e=>by refine S.cellUK z c e fun f v' F=>?_;refine f4 F fun o i hd=>?_;clear F;exact ⟨f,v',⟨o,D c o (by exact g8 (b10 z c e)) i,hd⟩⟩
    cellI:=S.cellI
    cellW:=S.cellW
    own:=fun p L=>by refine S.ownK p L fun f hl j=>?_;exact ⟨f,hl,j.move stab fun o e=>D _ o (g8 hl) e⟩
    ownN:=S.ownN
    wr:=S.wr }
 . refine ae (S.cellW x hxw) fun c F=>ac F fun hc hcW=>?_;clear F;refine S.cellUK _ c hc fun hcU b12 J=>g ?_;refine wpAny_storeName_cell S.ek hx hc J fun h' V hs'=>?_;have D:∀ b o,b ∉ [c]->s.heap.get? b=aa o->h'.get? b=aa o:=fun b o hb e=>hs'.extBut b o (fun q=>hb (by simp [q])) e;have stab:bj U s.heap U h':=⟨fun u f=>.inl f,fun b o hb e=>D b o (fun hm=>hb (mx hm hcU)) e⟩;have hcL:Z.locals≠c:=by
    intro e;refine lk fun _ g=>S.nsK fun m F _=>aP F fun oL es ep q1=>aE q1 fun hoL hdL _=>?_;clear F q1;refine f4 J fun oc G P=>?_;clear J;rw [←e,hoL] at G;replace G:=sI G;subst G;rw [hdL] at P;contradiction
   refine hq _ ⟨⟨h',_,rfl⟩,fun u h u=>h,fun u h=>.inl h,fun a o e=>?_,fun u h=>.inl h,fun b o hb e=>D b o (fun hm=>hb (mx hm hcW)) e⟩ ?_
   . by_cases hm:a ∈ [c]
     . refine rl (aV.mp hm) (f4 V fun o' ho' _=>?_);clear V;exact ⟨o',ho'⟩
     . exact ⟨o,D a o hm e⟩
   have T:∀ z d,Z.cells.lookup z=aa d->z≠x->d≠c:=fun z d hd N e=>N (S.cellI z _ d hd (e ▸ hc));exact {
    base:=fun b o e=>D b o (fun hm=>by rw [S.old b (mx hm hcU)] at e;exact nS e) (S.base b o e)
    sub:=S.sub
    live:=fun a ha=>by
     by_cases hm:a=c
     . refine f4 V fun o i _=>?_;clear V;exact ⟨o,hm ▸ i⟩
     . refine S.liveK a ha fun o e=>⟨o,D a o (g8 hm) e⟩
    old:=S.old
    ek:=S.ek
    eg:=S.eg
    eb:=S.eb
    loc:=S.loc
    ns:=by
     refine S.nsK fun m hn hm=>⟨m,hn.at' fun o e=>D _ o (g8 hcL) e,fun p L hk=>?_⟩;clear hn;rcases nG L with rfl|⟨L,N⟩
     . rw [hx] at hk;replace hk:=sI hk;injection hk
     . refine ae (hm p L hk) fun v' F=>ac F fun e j=>?_;clear F;exact ⟨v',e,j.move stab⟩
    cl:=fun p L hk=>by
     refine lk fun _ g=>?_;rcases nG L with rfl|⟨L,N⟩
     . refine g (aR c v ⟨hc,V,r.move stab⟩)
     . refine S.clK p L hk fun d v' e F j=>f4 F fun o i hd=>?_;clear F;refine g ?_;exact aR d v' ⟨e,⟨o,D d o (by exact g8 (T p.fst d e N)) i,hd⟩,j.move stab⟩
    cellU:=fun z d e=>by
     refine lk fun _ g=>S.cellUK z d e fun f v' F=>f4 F fun o i hd=>?_;clear F;by_cases hz:z=x
     . clear hd i f;clear o v';subst hz;rw [hc] at e;replace e:=sI e;subst e;refine g ⟨hcU,aa v,V⟩
     . refine g ?_;exact ⟨f,v',⟨o,D d o (by exact g8 (T z d e hz)) i,hd⟩⟩
    cellI:=S.cellI
    cellW:=S.cellW
    own:=fun p L=>by
     refine S.ownK p L fun f hl j=>⟨f,hl,j.move stab fun o e=>D _ o ?_ e⟩;intro hm;have e2:p.1=c:=by simpa using hm
     refine f4 J fun oc G P=>?_;clear J;have t:∀ (o':fK),s.heap.get? p.1=aa o'->o'=oc:=fun o' e'=>by rw [e2,G] at e';replace e':=sI e';subst e';rfl
     revert j;clear G hm hl f o e;cases p.2 with
     |list l=>rintro ⟨vs,n,h1,_⟩;have:=t _ h1;subst this;contradiction
     |idict l=>rintro ⟨_,kvs,⟨o1,es,ep,h1,_,h2,_⟩,_⟩;have:=t _ h1;subst this;rw [h2] at P;contradiction
     |bdict l=>rintro ⟨_,kvs,⟨o1,es,ep,h1,_,h2,_⟩,_⟩;have:=t _ h1;subst this;rw [h2] at P;contradiction
     |tdict l=>rintro ⟨_,kvs,⟨o1,es,ep,h1,_,h2,_⟩,_⟩;have:=t _ h1;subst this;rw [h2] at P;contradiction
    ownN:=S.ownN
    wr:=S.wr }
end
noncomputable def la(l:List (am×OB))(a:am)(ob:OB):List (am×OB):=l.map fun p=>if p.1=a then (a,ob) else p
theorem Hm(l:List (am×OB))(a:am)(ob:OB):(la l a ob).map (·.1)=l.map (·.1):=by refine rl cU ?_;apply gt;intro p _;by_cases h:p.1=a<;>simp [h]
theorem Hn(h:p∈la l a ob):p=(a,ob)\/(p∈l/\p.1≠a):=by
 refine bB h fun q hq D=>?_;subst D;by_cases e:q.1=a
 . refine rl (if_pos e) (.inl rfl)
 . refine rl (if_neg e) (.inr ⟨hq,e⟩)
noncomputable def MS.setO(C:MS)(a:am)(ob:OB):MS:={ C with own:=la C.own a ob }
theorem tr{h:aB}(r:b0 B w U h a ob):¬ h.IsCell a v:=by
 rintro ⟨oc,G,F⟩;have D:∀ (L:fK),h.get? a=aa L->L=oc:=fun L e'=>by rw [G] at e';replace e':=sI e';subst e';rfl
 revert r;clear G;rcases ob with l|l|l|l
 . rintro ⟨vs,n,h1,_⟩;have:=D _ h1;subst this;contradiction
 . rintro ⟨_,kvs,⟨o1,es,ep,h1,_,J,_⟩,_⟩;have:=D _ h1;subst this;rw [J] at F;contradiction
 . rintro ⟨_,kvs,⟨o1,es,ep,h1,_,J,_⟩,_⟩;have:=D _ h1;subst this;rw [J] at F;contradiction
 . rintro ⟨_,kvs,⟨o1,es,ep,h1,_,J,_⟩,_⟩;have:=D _ h1;subst this;rw [J] at F;contradiction
theorem ay.own_upd(S:ay B w H Z wc U W C s){D ob:OB}(hm:(a,D)∈C.own){h:aB}
 (hk:∀ b o,b≠a->s.heap.get? b=aa o->h.get? b=aa o) (r:b0 B w U h a ob) (ha:∃ o,h.get? a=aa o) :
 ay B w H Z wc U W (C.setO a ob) { s with heap:=h,toks:=tk }:=by
 refine S.ownK _ hm fun G F L=>?_
 have Q:∀ b o,b ∉ [a]->s.heap.get? b=aa o->h.get? b=aa o:=fun b o hb e=>hk b o (List.ne_of_not_mem_cons hb) e
 have X:∀ x c,Z.cells.lookup x=aa c->c ∉ [a]:=fun x c e hm=>by
  refine S.cellUK x c e fun _ v hc=>?_;rw [aV.mp hm] at hc;exact tr L hc
 let N:MS:={ C with own:=C.own.filter fun p=>p.1≠a }
 have f:ay B w H Z wc U W N s:=S.forget (fun d h=>h) Df (fun d h=>h);have V:=f.touch (T:=[a]) (h:=h) (tk:=tk) (fun b hb=>by refine rl (aV.mp hb) ?_;exact G) Q (fun b hb=>by refine rl (aV.mp hb) ?_;exact ha)
  (fun hm=>F (aV.mp hm).symm) X (fun p J hm=>by
   have:=(b3.mp J).2;rw [aV.mp hm] at this;simp at this)
 exact { V with
  own:=fun p J=>by
   rcases Hn J with rfl|⟨J,P⟩
   . exact ⟨G,F,r⟩
   . exact V.own p (b3.mpr ⟨J,by exact decide_eq_true P⟩)
  ownN:=by show ((la C.own a ob).map (·.1)).Nodup;refine rl (Hm ..) ?_;exact S.ownN }
theorem y7{h:aB}(hW:a∈W)(hk:∀ b o,b≠a->s.heap.get? b=aa o->h.get? b=aa o)(ha:∃ o,h.get? a=aa o):
 aO U W s U W { s with heap:=h,toks:=tk } where
 same:=⟨h,tk,rfl⟩
 uu:=fun D h D=>h
 un:=fun D h=>.inl h
 al:=fun b o e=>by
  by_cases hb:b=a
  . refine rl hb ha
  . exact ⟨o,hk b o hb e⟩
 wn:=fun D h=>.inl h
 keep:=fun b o hb e=>hk b o (fun q=>hb (q ▸ hW)) e
noncomputable def MS.addO(C:MS)(a:am)(ob:OB):MS:={ C with own:=(a,ob)::C.own,wr:=a::C.wr }
theorem ay.own_new(S:ay B w H Z wc U W C s)(G:s.heap.get? a=ab)(k:bb s s')(r:b0 B w (a::U) s'.heap a ob)(ha:∃ o,s'.heap.get? a=aa o):
 ay B w H Z wc (a::U) (a::W) (C.addO a ob) s':=by
 have hk:=cj k
 have stab:bj U s.heap (a::U) s'.heap:=⟨fun u L=>by
  clear ha r k S;clear ob;rcases aL.mp L with rfl|L
  . exact .inr G
  . exact .inl L,fun b o X e=>hk b o e⟩
 have D:∀ b,(∃ o,s.heap.get? b=aa o)->b≠a:=fun b P q=>by refine ae P fun o e=>?_;clear P;exact by rw [q,G] at e;exact nS e
 exact {
  base:=fun b o e=>hk b o (S.base b o e)
  sub:=fun b hb=>by
   clear D stab hk ha r k G;rcases aL.mp hb with rfl|hb
   . exact aY
   . exact aN _ (S.sub b hb)
  live:=fun b hb=>by
   clear D stab r k G;clear ob;rcases aL.mp hb with rfl|hb
   . exact ha
   . refine S.liveK b hb fun o e=>⟨o,hk b o e⟩
  old:=fun b hb=>by
   clear D stab hk ha r k;clear ob;rcases aL.mp hb with rfl|hb
   . cases e:H.get? b with
     |none=>rfl
     |some o=>rw [S.base b o e] at G;exact sN G
   . exact S.old b hb
  ek:=S.ek
  eg:=S.eg
  eb:=S.eb
  loc:=aN _ S.loc
  ns:=by refine S.nsK fun m G hm=>?_;exact ⟨m,G.keeps hk,fun p F J=>by refine ae (hm p F J) fun v N=>ac N fun e Q=>?_;clear N;exact ⟨v,e,Q.move stab⟩⟩
  cl:=fun p F J=>by refine S.clK p F J fun c v e hc Q=>?_;exact aR c v ⟨e,hc.keeps hk,Q.move stab⟩
  cellU:=fun x c e=>by refine S.cellUK x c e fun L v hc=>?_;exact ⟨aN _ L,v,hc.keeps hk⟩
  cellI:=S.cellI
  cellW:=fun x V=>by refine ae (S.cellW x V) fun c N=>ac N fun e T=>?_;clear N;exact ⟨c,e,aN _ T⟩
  own:=fun p F=>by
   clear ha k G;rcases aL.mp F with rfl|F
   . exact ⟨aY,(fun q=>D _ (S.live _ (S.sub _ S.loc)) q.symm),r⟩
   . refine S.ownK p F fun L hl Q=>⟨aN _ L,hl,Q.move stab fun o e=>hk _ o e⟩
  ownN:=by
   refine gZ.mpr ⟨fun hm=>?_,S.ownN⟩;refine bB hm fun p F e=>D _ (S.live _ (S.own p F).1) e
  wr:=fun b hb=>by
   clear D stab hk;rcases aL.mp hb with rfl|hb
   . exact aY
   . exact aN _ (S.wr b hb) }
theorem yu(G:s.heap.get? a=ab)(k:bb s s'):aO U W s (a::U) (a::W) s' where
 same:=by refine iO k fun h t e _=>?_;clear k;exact aR h t e
 uu:=fun F h F=>aN _ h
 un:=fun u D=>by
  clear k;rcases aL.mp D with rfl|D
  . exact .inr G
  . exact .inl D
 al:=fun b o e=>⟨o,cj k b o e⟩
 wn:=fun u D=>by
  clear k;rcases aL.mp D with rfl|D
  . exact .inr G
  . exact .inl D
 keep:=fun b o F e=>cj k b o e
noncomputable def ot:List X->Option (List D)
 |[]=>aa []
 | .d x::r=>(ot r).map (x :: ·)
 |_::_=>ab
theorem Ho:∀ l,ot (l.map .d)=aa l:=by
 intro F;induction F with
 |nil =>
  exact rfl
 |cons d ds G =>
  exact congrArg _ ‹_›
theorem qj:∀ {l:List X} {ds:List D},ot l=aa ds->l=ds.map .d
 |[],ds,h=>by replace h:=sI h;subst h;rfl
 | .d x::r,ds,h=>by
  refine aG h fun t ht F=>?_;clear h;subst F;refine rl (qj ht) rfl
 | .o _::_,ds,h=>by exact nS h
 | .p _::_,ds,h=>by exact nS h
noncomputable def cv:OB->Option D
 | .list l=>(ot l).map .list
 | .idict l=>aa (.idict l)
 | .bdict l=>aa (.bdict l)
 | .tdict l=>aa (.tdict l)
def j6(B:bm)(w:bh)(U:List am)(h:aB):D->ar->Prop
 | .list l,v=>∃ a vs n,v = .ref a/\h.get? a=aa (cL vs n)/\ai (aC B w U h) l vs
 | .idict l,v=>∃ a,v = .ref a/\fT B w h a l
 | .bdict l,v=>∃ a,v = .ref a/\iz B w h a l
 | .tdict l,v=>∃ a,v = .ref a/\dX B w U h a l
 |d,v=>aC B w U h d v
theorem aC.weak{h:aB}(r:aC B w U h d v):j6 B w U h d v:=by
 cases d with
 |list l=>refine aP (lU.mp r) fun a vs n F=>bR F fun e _ G hl=>?_;clear F;exact ck a vs n ⟨e,G,hl⟩
 |idict l=>refine ae r fun a F=>aE F fun e _ hd=>?_;clear r F;exact ⟨a,e,hd⟩
 |bdict l=>refine ae r fun a F=>aE F fun e _ hd=>?_;clear r F;exact ⟨a,e,hd⟩
 |tdict l=>refine ae r fun a F=>aE F fun e _ hd=>?_;clear r F;exact ⟨a,e,hd⟩
 |_=>exact r
theorem b0.weak{h:aB}(r:b0 B w U h a ob)(e:cv ob=aa d):j6 B w U h d (.ref a):=by
 rcases ob with l|l|l|l
 . simp only [cv,sn] at e;refine ae e fun ds F=>ac F fun hd J=>?_;clear e F;subst J;refine b0.liK r fun vs n G hl=>?_;clear r;rw [qj hd] at hl;exact ck a vs n ⟨rfl,G,jI hl⟩
 . replace e:=sI e;subst e;exact ⟨a,rfl,r⟩
 . replace e:=sI e;subst e;exact ⟨a,rfl,r⟩
 . replace e:=sI e;subst e;exact ⟨a,rfl,r⟩
theorem bj.less{h:aB}(G:∀ u∈U',u∈U):bj U h U' h:=⟨fun u F=>.inl (G u F),fun D D D e=>e⟩
theorem j6.strong{h:aB}(r:j6 B w U h d (.ref a))(L:∀ u∈U',u∈U)(ha:a ∉ U'):aC B w U' h d (.ref a):=by
 have S:bj U h U' h:=bj.less L;refine lk fun _ G=>?_;rcases d with _|b|b|b|l|l|l|l|l
 . refine G (aC.move S _ _ r)
 . refine G (aC.move S _ _ r)
 . refine G (aC.move S _ _ r)
 . refine G (aC.move S _ _ r)
 . refine G (aC.move S _ _ r)
 . refine aP r fun b vs n F=>aE F fun e N hl=>?_;clear r F;obtain ⟨⟩:=e;refine G (lU.mpr ⟨a,vs,n,rfl,ha,N,hl.imp fun J J q=>q.move S⟩)
 . refine ae r fun b F=>ac F fun e hd=>?_;clear r F;obtain ⟨⟩:=e;refine G ⟨a,rfl,ha,hd⟩
 . refine ae r fun b F=>ac F fun e hd=>?_;clear r F;obtain ⟨⟩:=e;refine G ⟨a,rfl,ha,hd⟩
 . refine ae r fun b F=>ac F fun e hd=>?_;clear r F;obtain ⟨⟩:=e;refine G ⟨a,rfl,ha,pN S hd fun J e=>e⟩
noncomputable def frX(a:am)(d:D):X->X
 | .o b=>if b=a then .d d else .o b
 |x=>x
noncomputable def MS.freeze(C:MS)(a:am)(d:D):MS :=
 { vars:=C.vars.map fun p=>(p.1,frX a d p.2),own:=C.own.filter fun p=>p.1≠a,wr:=C.wr.filter fun b=>b≠a }
theorem zL{h:aB}(S:bj U h U' h)(r:aC B w U' h d (.ref a))(F:aT B w U h x v):aT B w U' h (frX a d x) v:=by
 cases x with
 |d y=>exact aC.move S _ _ F
 |p P=>exact P.mv S F
 |o b =>
  show aT B w U' h (if b=a then .d d else .o b) v
  by_cases hb:b=a
  . subst hb;refine rl (if_pos rfl) (rl (fv.mp F) r)
  . refine rl (if_neg hb) F
theorem ay.freeze(S:ay B w H Z wc U W C s){a:am}{ob:OB}{d:D}(hm:(a,ob)∈C.own)(hd:cv ob=aa d):
 ay B w H Z wc (U.filter (· ≠ a)) (W.filter (· ≠ a)) (C.freeze a d) s:=by
 refine S.ownK _ hm fun f T J=>?_
 have F:∀ u∈U.filter (· ≠ a),u∈U:=fun u Q=>(b3.mp Q).1
 have stab:bj U s.heap (U.filter (· ≠ a)) s.heap:=bj.less F
 have G:aC B w (U.filter (· ≠ a)) s.heap d (.ref a):=(J.weak hd).strong F (fun h=>by have:=(b3.mp h).2;simp at this)
 have X:∀ x c,Z.cells.lookup x=aa c->c≠a:=fun x c e q=>by
  refine S.cellUK x c e fun _ v hc=>?_;rw [q] at hc;exact tr J hc
 have mk:∀ {V:List am} {b:am},b∈V->b≠a->b∈V.filter (· ≠ a):=fun h1 g=>b3.mpr ⟨h1,by exact decide_eq_true g⟩;exact {
  base:=S.base
  sub:=fun b hb=>mk (S.sub b (b3.mp hb).1) (by simpa using (b3.mp hb).2)
  live:=fun b hb=>S.live b (F b hb)
  old:=fun b hb=>S.old b (F b hb)
  ek:=S.ek
  eg:=S.eg
  eb:=S.eb
  loc:=mk S.loc (dp T)
  ns:=by
   refine S.nsK fun m j hv=>⟨m,j,fun p L hk=>?_⟩;refine bB L fun q hq P=>?_;subst P;refine ae (hv q hq hk) fun v P=>ac P fun e r=>?_;clear P;exact ⟨v,e,zL stab G r⟩
  cl:=fun p L hk=>by
   refine bB L fun q hq P=>?_;subst P;refine S.clK q hq hk fun c v e hc r=>aR c v ⟨e,hc,zL stab G r⟩
  cellU:=fun x c e=>let ⟨Q,v,hc⟩:=S.cellU x c e;⟨mk Q (X x c e),v,hc⟩
  cellI:=S.cellI
  cellW:=fun x i=>let ⟨c,e,hw⟩:=S.cellW x i;⟨c,e,mk hw (X x c e)⟩
  own:=fun p L=>by
   refine jv L fun L N=>S.ownK p L fun Q hl r=>⟨mk Q (by simpa using N),hl,r.move stab fun k e=>e⟩
  ownN:=S.ownN.sublist (Df.map _)
  wr:=fun b hb=>by
   refine jv hb fun hb N=>?_;exact mk (S.wr b hb) (by simpa using N) }
theorem Ei{a:am}(ha:a∈W):aO U W s (U.filter (· ≠ a)) (W.filter (· ≠ a)) s where
 same:=⟨s.heap,s.toks,rfl⟩
 uu:=fun u D F=>b3.mpr ⟨D,by simp;exact fun q=>F (q ▸ ha)⟩
 un:=fun u D=>.inl (b3.mp D).1
 al:=fun a o e=>⟨o,e⟩
 wn:=fun u D=>.inl (b3.mp D).1
 keep:=fun b o G e=>e
variable {E:ar → aw → Prop}
structure WK (B:bm) (w:bh) (A:bo) (tgt:Expr) (I:am) (fp wr:List am) (U₀:List am) (h₀:aB) (xs:List X) (St:Nat->aB->Prop):Prop where
 sub:∀ b∈wr,b∈fp
 frame:∀ i h h',St i h->(∀ b∈fp,∀ o,h.get? b=aa o->h'.get? b=aa o)->St i h'
 live:∀ i h,St i h->∀ b∈wr,∃ o,h.get? b=aa o
 turn:∀ i x,xs[i]? = aa x->∀ (U:List am) (s:aw) (Q:ar->aw->Prop) (E:ar->aw->Prop),St i s.heap->bj U₀ h₀ U s.heap->(∀ b∈wr,b∈U)->dM U s ->
  (∀ v h' tk,aT B w U h' x v->St (i+1) h'->(∀ b o,b ∉ wr->s.heap.get? b=aa o->h'.get? b=aa o)->Q v { s with heap:=h',toks:=tk }) ->
  ak (av B w) A (dZ (.ref I)) (fun r s₁=>∃ v,r=aa v/\ak (av B w) A (jD tgt (.ref I) v) (fun ο s₂=>Q v s₂) E s₁) E s
 done:∀ (s:aw) (Q:Option ar->aw->Prop) (E:ar->aw->Prop),St xs.length s.heap ->
  (∀ h' tk,(∀ b o,b ∉ wr->s.heap.get? b=aa o->h'.get? b=aa o)->Q ab { s with heap:=h',toks:=tk })->ak (av B w) A (dZ (.ref I)) Q E s
 self:∀ i (s:aw) (Q:ar->aw->Prop) (E:ar->aw->Prop),St i s.heap->Q (.ref I) s->ak (av B w) A (fW (.ref I)) Q E s
theorem zM{I a:am}{n:String}(F:s.heap.get? I=aa o)(hc:o.cls = .type n)
 (G:["enumerate", "zip", "dict_itemiterator", "dict_reverseitemiterator", "odict_iterator", "itertools.zip_longest", "itertools.pairwise"].contains n=false) (z:ak (av B w) A (pure ()) Q E s) :
 ak (av B w) A (jD (.Tuple es k p) (.ref I) (.ref a)) Q E s:=by
 show ak _ _ (load I >>= _) _ _ _
 refine af (lP F ?_)
 rcases o with ⟨c,d,D,sl⟩
 clear F p k es
 obtain rfl:c = .type n:=hc
 cases D with
 |fields vs =>
  show ak _ _ (if (_ && _)=true then _ else _) _ _ _
  refine rl G (rl (Bool.false_and ..) z)
 |_=>exact z
theorem EH{I:am}{n:String}(D:s.heap.get? I=aa o)(hc:o.cls = .type n)
 (F:["enumerate", "zip", "dict_itemiterator", "dict_reverseitemiterator", "odict_iterator", "itertools.zip_longest", "itertools.pairwise"].contains n=false) (G:Q () s) :
 ak (av B w) A (jD tgt (.ref I) v) Q E s:=by
 have z:ak (av B w) A (pure ()) Q E s:=au G
 cases tgt with
 |Tuple es k p =>
  cases v with
  |ref a=>exact zM D hc F z
  |_=>exact z
 |List es p =>
  cases v with
  |ref a=>exact zM (es:=es) (k:=0) (p:=p) D hc F z
  |_=>exact z
 |_=>exact z
theorem WK.ofWalks{I:am}{fp wr:List am}{n:Nat}{St:Nat->aB->Prop}
 (W:Walks B w A I fp wr n P St) (d:xs.length=n) (k:wr = [I]) T (f:∀ i h,St i h->∃ o,h.get? I=aa o/\o.cls = .type T)
 (hc:["enumerate", "zip", "dict_itemiterator", "dict_reverseitemiterator", "odict_iterator", "itertools.zip_longest", "itertools.pairwise"].contains T=false)
 (j:∀ i x v,xs[i]? = aa x->P i v->aT B w G h₀ x v):WK B w A tgt I fp wr G h₀ xs St where
 sub:=W.sub
 frame:=W.frame
 live:=fun i h D b hb=>by rw [k,aV] at hb;subst hb;refine ae (f i h D) fun o N=>ac N fun c _=>?_;clear N;exact ⟨o,c⟩
 turn:=fun i x L U s Q E D J V hl a=>by
  have hi:i < n:=by refine rl (az d) ?_;exact (fL.mp L).1
  refine W.item i s _ _ hi D fun v h' tk g F hk=>⟨v,rfl,?_⟩;refine ae (f _ _ F) fun o N=>ac N fun c S=>?_;clear N;refine EH (s:={ s with heap:=h',toks:=tk }) c S hc (a v h' tk ?_ F hk);exact ((j i x v L g).move J).move ⟨fun m l=>.inl l,fun b o hb e=>hk b o (fun hm=>hb (V b hm)) e⟩
 done:=fun s Q E D a=>W.done s Q E (d ▸ D) a
 self:=W.self
def ke(B:bm)(w:bh)(A:bo)(tgt:Expr)(U:List am)(s:aw)(v:ar)(xs:List X)(ao:List am):Prop :=
 ak (av B w) A (fW v) (fun it s₂=>bb s s₂ /\ ∃ I fp wr St,it = .ref I/\WK B w A tgt I fp wr (wr++U) s₂.heap xs St/\St 0 s₂.heap/\(∀ b∈wr,s.heap.get? b=ab) /\
  (∀ b∈fp,(∃ o,s₂.heap.get? b=aa o)/\(b∈wr\/b ∉ U\/b∈ao))) (fun D D=>False) s
theorem eV(s:aw):s.heap.get? s.heap.objs.size=none:=by
 cases e:s.heap.get? s.heap.objs.size with
 |none=>rfl
 |some o=>exact absurd (bH e) (i6 _)
theorem ud(k:s.heap.get? s.heap.objs.size=ab)o:bj U s.heap ([s.heap.objs.size]++U) (s.heap.push o) :=
 ⟨fun u D=>by
  rcases bC.mp D with D|D
  . refine rl (aV.mp D) (.inr k)
  . exact .inl D,fun b G F e=>bc _ e⟩
theorem rc{ao:List am}{St:Nat->aB->Prop}(L:o.isFreed=false)
 (F:WK B w A tgt s.heap.objs.size fp [s.heap.objs.size] ([s.heap.objs.size]++U) (s.heap.push o) xs St) (G:St 0 (s.heap.push o))
 (D:∀ b∈fp,b=s.heap.objs.size\/((∃ o,s.heap.get? b=aa o)/\(b ∉ U\/b∈ao))) :
 (fun it s₂=>bb s s₂ /\ ∃ I fp wr St,it=dw I/\WK B w A tgt I fp wr (wr++U) s₂.heap xs St/\St 0 s₂.heap/\(∀ b∈wr,s.heap.get? b=ab) /\
 (∀ b∈fp,(∃ o,s₂.heap.get? b=aa o)/\(b∈wr\/b ∉ U\/b∈ao))) (.ref s.heap.objs.size) { s with heap:=s.heap.push o }:=by
 refine ⟨gE _ _,s.heap.objs.size,fp,[s.heap.objs.size],St,rfl,F,G,?_,?_⟩
 . intro b hb;refine rl (aV.mp hb) (eV s)
 . intro b hb
   rcases D b hb with rfl|⟨⟨J,e⟩,h⟩
   . exact ⟨⟨_,b9 _ L⟩,.inl (.head _)⟩
   . exact ⟨⟨J,bc _ e⟩,.inr h⟩
theorem ue{n:Nat}(hh:A.handled=ab)(J:s.heap.get? a=aa (cL vs n))(hr:ai (aT B w U s.heap) xs vs)(ha:a ∉ U\/a∈ao):
 ke B w A tgt U s (.ref a) xs ao:=by
 have hl:s.heap.IsList a vs.toArray:=⟨_,J,rfl,n,rfl⟩
 refine wG hl (rc rfl (WK.ofWalks (Walks.list hh _ a (cz (bH J)) vs.toArray) (by refine rl cx ?_;exact hr.length) rfl "list_iterator" (fun i h F=>by refine ae F.1 fun o N=>aE N fun h1 D _=>?_;clear N;exact ⟨o,h1,D⟩) (by decide) (fun i x v Q P=>?_))
  ⟨⟨_,b9 _ rfl,rfl,rfl⟩,hl.push _⟩ fun b hb=>?_)
 . refine hr.getK Q fun v' L G=>?_;have:v=v':=by
    have D:vs[i]? = aa v:=by simpa using P
    rw [L] at D;replace D:=sI D;subst D;rfl
   subst this;exact G.move (ud (eV s) _)
 . rcases aL.mp hb with rfl|hb
   . exact .inl rfl
   . refine rl (aV.mp hb) (.inr ⟨⟨_,J⟩,ha⟩)
theorem FR{n:Nat}(hh:A.handled=ab)(J:s.heap.get? a=aa (dY vs n))(hr:ai (aT B w U s.heap) xs vs)(ha:a ∉ U\/a∈ao):
 ke B w A tgt U s (.ref a) xs ao:=by
 have hl:s.heap.IsTuple a vs.toArray:=⟨_,J,rfl,n,rfl⟩
 refine ph hl (rc rfl (WK.ofWalks (Walks.tuple hh _ a (cz (bH J)) vs.toArray) (by refine rl cx ?_;exact hr.length) rfl "tuple_iterator" (fun i h F=>by refine ae F.1 fun o N=>aE N fun h1 D _=>?_;clear N;exact ⟨o,h1,D⟩) (by decide) (fun i x v Q P=>?_))
  ⟨⟨_,b9 _ rfl,rfl,rfl⟩,hl.at fun o e=>bc _ e⟩ fun b hb=>?_)
 . refine hr.getK Q fun v' L G=>?_;have:v=v':=by
    have D:vs[i]? = aa v:=by simpa using P
    rw [L] at D;replace D:=sI D;subst D;rfl
   subst this;exact G.move (ud (eV s) _)
 . rcases aL.mp hb with rfl|hb
   . exact .inl rfl
   . refine rl (aV.mp hb) (.inr ⟨⟨_,J⟩,ha⟩)
noncomputable def iJ(a:Int)(n:Nat):List D:=(c8 n).map fun (i:Nat)=>D.int (a+(i:Int))
set_option tactic.hygienic true in
theorem yv (hh:A.handled=ab) (hr:qY s.heap r a b 1 t u v) (ha:a.natAbs<=100000) (hb:b.natAbs<=100000) :
 ke B w A tgt U s (.ref r) ((iJ a (b - a).toNat).map .d) ao:=by
 have D:km a b 1=((b - a).toNat:Nat):=by
  unfold km;by_cases h:a < b
  . rw [if_pos (by decide),if_pos h,xL] at ⊢;exact Qc h
  . rw [if_pos (by decide),if_neg h] at ⊢;exact Qd h
 have fit:∀ i:Int,i.natAbs<=200001->se i=true:=fun i hi=>by
  unfold se;rw [bX] at ⊢;exact ⟨decide_eq_true (by omega),decide_eq_true (by omega)⟩
 have J:ly a b 1=true:=by
  unfold ly;rw [D,fit a (by exact aH ‹_› (by decide)),fit b (by exact aH ‹_› (by decide)),fit 1 Qe,fit _ (Qf ha hb),if_pos (by decide),fit _ (Qg hb)] at ⊢;simp
 refine wpAny_pyIter_range hr J (rc rfl (WK.ofWalks (Walks.range hh _ a 1 (b - a).toNat) (by simp [iJ]) rfl "range_iterator" (fun i h N=>⟨_,N,rfl⟩) (by decide) (fun i x v P Q=>?_))
  ?_ fun b hb=>.inl (aV.mp hb))
 . clear J fit D hb ha hr hh ao;clear r tgt;refine ae Q fun t L=>?_;clear Q;subst L;unfold iJ at P;rw [cU,cy] at P;clear v u;refine aG P fun j F L=>?_;subst L;have G:=(fL.mp F).1;have:j=i:=by
    rw [wB (by simpa using G)] at F;replace F:=sI F;subst F;rfl
   clear F G;subst this;exact eL.mpr ⟨t,by simp⟩
 . have:=b9 s.heap (o:={ cls:=jH "range_iterator",data:=.fields #[iG a,iG (km a b 1),iG 1] }) rfl;rw [D] at this;rw [D] at ⊢;show IsRangeIter _ _ _ _ _;simpa using this
def dB(h:aB)(d:am)(es:Array jL)(ep:Nat):Prop:=∃ o,h.get? d=aa o/\o.ExactDict/\o.data = .dict es ep
theorem dB.eK{h:aB}(D:dB h d es ep){G:Prop}(F:∀ o,h.get? d=aa o->o.ExactDict->o.data = .dict es ep->G):G:=ae D fun L J=>aE J fun z1 z2 N=>F L z1 z2 N
theorem dB.at{h h':aB}(r:dB h d es ep)(e:∀ o,h.get? d=aa o->h'.get? d=aa o):dB h' d es ep:=by refine ae r fun o D=>?_;clear r;refine ac D fun F r=>?_;clear D;exact ⟨o,e o F,r⟩
theorem x0(hd:(d == gy)=false)(hm:dB s.heap d es ep)
 (L:Q (.ref s.heap.objs.size) { s with heap:=s.heap.push { cls:=.type "dict_keyiterator",data:=.fields #[.ref d,.int 0 0,.int es.size 0,.int ep 0] } }) :
 ak (av B w) A (fW (.ref d)) Q E s:=by
 refine dB.eK hm fun o G hc D=>?_;clear hm
 have J:s.TypeIs (.ref d) "dict" := ⟨o,G,hc.1⟩
 refine wH J F.slot_dict_iter (fO F.slot_dict_iter J F.entry_dict_iter ?_ (F.args_dict_iter_1 _))
 unfold Builtin.«dict.__iter__»
 refine af ?_
 unfold Builtin.Dict.dictSlotNone
 refine af (CH J ?_)
 show ak _ _ (pure (dw d)) _ _ s
 refine au ?_
 show ak _ _ (CI d >>= _) _ _ s
 unfold CI
 refine rl (if_neg (by refine rl hd ?_;exact fN)) ?_
 refine af (au (af (wI G D (af (w0 G D ?_)))))
 refine af (f8 (au ⟨_,rfl, "dict_keyiterator",_,⟨_,b9 _ rfl,rfl⟩,o7.lookup,?_⟩))
 exact L
theorem Hp{it d:am}{i ep:Nat}{es:Array jL}{e:jL}{Q:Option ar->aw->Prop}(D:s.heap.IsKeyIter it d i es.size ep)
 (hm:dB s.heap d es ep) (T:es[i]? = aa e) (a:∀ h',h'.IsKeyIter it d (i+1) es.size ep->g5 it s.heap h'->Q (aa e.key) { s with heap:=h' }) :
 ak (av B w) A (dZ (.ref it)) Q E s:=by
 refine lk fun _ X=>?_
 refine ae (id D) fun o S=>aE S fun N hc hd=>?_;clear S
 refine dB.eK hm fun f J b L=>?_;clear hm
 refine X ?_
 delta dZ
 refine af (nj (iW (name:=i7 "__next__") D.typeIs o7
  (fO o7 D.typeIs Cm ?_ (Ck _))))
 refine af (au (af (af ?_)));first|refine af (sd D.typeIs (au ?_))|refine af (sh D.typeIs (au ?_))
 refine af (sZ N hd ?_);have P:Cn "dict_keyiterator" = false:=by decide
 show ak _ _ (if (dw d == c7)=true then _ else _) _ _ s
 refine rl (if_neg (show ¬ ((dw d == c7)=true) from fN)) (af (au (af (wI J L ?_))));refine rl (if_neg (by simp)) (af (au (af (w0 J L ?_))));refine rl (if_neg (by simp)) (au (ae (Cw.mp T) fun V c=>?_));simp only [show ¬ ((i:Int) < 0) from by exact Bp,if_false,lz,T];refine af ?_;first|refine af (sd D.typeIs (au ?_))|refine af (sh D.typeIs (au ?_))
 refine af (CJ D.typeIs ?_);show ak _ _ (setField (.ref it) 1 (iG ((i:Int)+1)) >>= _) _ _ s;refine af (lH N hd (by exact wy [jM (↑es.size) 0,jM (↑ep) 0].length) ?_);have G:(s.heap.update it (xj (·.setIfInBounds 1 (iG ((i:Int)+1))))).IsKeyIter it d (i+1) es.size ep :=
  ⟨_,pb _ N (sp (kn hd _)),(sz ..).trans hc,by rw [kn hd];rfl⟩
 refine af (fm (af (CJ (s:={ s with heap:=s.heap.update it (xj (·.setIfInBounds 1 (iG ((i:Int)+1)))) }) G.typeIs ?_)));show ak _ _ (pure e.key) _ _ _;exact au (au ⟨_,rfl,au (a _ G (eF ..))⟩)
theorem IW{it d:am}{i ep:Nat}{Q:Option ar->aw->Prop}(hh:A.handled=ab)(D:s.heap.IsKeyIter it d i es.size ep)
 (hm:dB s.heap d es ep) (c:es.size<=i) (V:∀ h',Heap.ExtBut it s.heap h'->Q ab { s with heap:=h' }):ak (av B w) A (dZ (.ref it)) Q E s:=by
 refine lk fun _ S=>?_
 refine ae (id D) fun o N=>aE N fun P hc hd=>?_;clear N
 refine dB.eK hm fun e G X J=>?_;clear hm
 refine S ?_
 delta dZ
 refine af (nj (iW (name:=i7 "__next__") D.typeIs o7
  (fO o7 D.typeIs Cm ?_ (Ck _))))
 refine af (au (af (af ?_)));first|refine af (sd D.typeIs (au ?_))|refine af (sh D.typeIs (au ?_))
 refine af (sZ P hd ?_);have L:Cn "dict_keyiterator" = false:=by decide
 show ak _ _ (if (dw d == c7)=true then _ else _) _ _ s
 refine rl (if_neg (show ¬ ((dw d == c7)=true) from fN)) (af (au (af (wI G J ?_))));refine rl (if_neg (by simp)) (af (au (af (w0 G J ?_))));refine rl (if_neg (by simp)) (au ?_);simp only [show ¬ ((i:Int) < 0) from by exact Bp,if_false,lz,wm c];refine af ?_;first|refine af (sd D.typeIs (au ?_))|refine af (sh D.typeIs (au ?_))
 show ak _ _ (setField (.ref it) 0 .none >>= _) _ _ s;refine af (lH P hd (ef _) ?_);show ak _ _ (newExc (.type "StopIteration") [] >>= _) _ _ _;refine af ?_;refine af (f8 ?_ (by size_fits));refine af (m:=s0 _ _) (pW (a:=c7) (by first|rfl|(rfl)) ?_)
 refine f8 ?_ (by size_fits);refine af (xm ?_);refine rl (show A.in1.handled=ab from hh) (af (au (wpAny_throw ?_)));refine af (pA (T := "StopIteration") (b:=true) ⟨_,b9 _ rfl,rfl⟩ w9 ?_);exact au (V _ (((eF ..).extBut.push _).push _))
theorem Walks.rawKeys(hh:A.handled=ab)I d(L:d≠I)es ep :
 Walks B w A I [I,d] [I] es.size (fun i v=>∃ e,es[i]? = aa e/\v=e.key) (fun i h=>h.IsKeyIter I d i es.size ep/\dB h d es ep) where
 sub:=fun b hb=>by simp at hb;simp [hb]
 frame:=fun D D D C hk=>⟨C.1.at fun o e=>hk I (.head _) o e,C.2.at fun o e=>hk d (by exact .tail _ (.head _)) o e⟩
 item:=fun i s Q E hi C F=>by
  refine Hp C.1 C.2 (e:=es[i]) (by simp [hi]) fun h' J G=>F _ h' s.toks ⟨es[i],by simp [hi],rfl⟩ ⟨J,C.2.at fun o e=>G.extBut d o L e⟩ fun b o hb e=>G.extBut b o (fun h=>hb (by simp [h])) e
 done:=fun s Q E C F=>IW hh C.1 C.2 (cH _) fun h' N=>F h' s.toks fun b o hb e=>N b o (fun h=>hb (by simp [h])) e
 self:=fun D D D D C F=>wpAny_pyIter_keyiter C.1 F
theorem zN(hh:A.handled=ab)(hd:(d == gy)=false)(hm:dB s.heap d es ep)
 (hr:ai (fun x (e:jL)=>aT B w U s.heap x e.key) xs es.toList) (ha:d ∉ U\/d∈ao):ke B w A tgt U s (.ref d) xs ao:=by
 refine ae (id hm) fun o D=>ac D fun P _=>?_;clear D
 have G:d≠s.heap.objs.size:=cz (bH P)
 refine x0 hd hm (rc rfl (WK.ofWalks (Walks.rawKeys hh _ d G es ep) (by refine rl hr.length ?_;simp) rfl "dict_keyiterator" (fun i h J=>by refine ae J.1 fun o D=>aE D fun h1 F _=>?_;clear D;exact ⟨o,h1,F⟩) (by decide) (fun i x v V Q=>?_))
  ⟨⟨_,b9 _ rfl,rfl,rfl⟩,hm.at fun o e=>bc _ e⟩ fun b hb=>?_)
 . refine lk fun _ T=>?_;clear P G ha hm hd hh;refine ae Q fun e S=>ac S fun a D=>?_;clear Q S;subst D;refine hr.getK V fun e' N L=>?_;have:e=e':=by
    have F:es.toList[i]? = aa e:=by simpa using a
    rw [N] at F;replace F:=sI F;subst F;rfl
   subst this;refine T (L.move (ud (eV s) _))
 . rcases aL.mp hb with rfl|hb
   . exact .inl rfl
   . refine rl (aV.mp hb) (.inr ⟨⟨_,P⟩,ha⟩)
set_option tactic.hygienic true in
theorem intKind_is (h:(bt B w).is k v=true):∃ t,v = .int k t:=by
 have h':Value.isInt k v=true:=h;delta Value.isInt at h';refine lk fun _ D=>?_;split at h'
 . rename_i i t;refine D ?_;exact ⟨t,by refine rl (eq h') ?_;rfl⟩
 . exact nB h'
theorem tA(h:(bt B w).is k v=true){G:Prop}(F:∀ t,v = .int k t->G):G:=ae (intKind_is h) fun D z1=>F D z1
theorem lV{U:List am}{h:aB}:gG vs l↔ai (aC B w U h) (l.map .int) vs:=by
 constructor
 . intro h;induction h with
   |nil=>exact .nil
   |cons n t r ih=>exact .cons (l8.mpr ⟨t,rfl⟩) ih
 . induction l generalizing vs with
   |nil=>intro h;cases h;exact .nil
   |cons i l ih =>
    intro h;cases h with
    |cons a b=>refine gd a fun t D=>?_;subst D;exact .cons i t (ih b)
theorem tI{K:Type}[DecidableEq K]{knd:KeyKind B w K}{es:List jL}{kvs:List (K×ar)}(h:Pairs knd es kvs):ai (fun (p:K×ar) (e:jL)=>knd.is p.1 e.key=true) kvs es:=by
 induction h with
 |nil=>exact .nil
 |cons h1 D _ ih=>exact .cons h1 ih
theorem ai.trans'{α D F:Type}{R:α->D->Prop}{S:D->F->Prop}{T:α->F->Prop}(h:∀ a b c,R a b->S b c->T a c){as:List α}{bs:List D}{cs:List F}(p:ai R as bs)(q:ai S bs cs):ai T as cs:=by
 induction p generalizing cs with
 |nil=>replace q:=q.n;subst q;exact .nil
 |cons a _ ih=>cases q with|cons c d=>exact .cons (h _ _ _ a c) (ih d)
theorem ai.mapL{α D F:Type}{R:F->D->Prop}{f:α->F}{as:List α}{bs:List D}(h:ai (fun a b=>R (f a) b) as bs):ai R (as.map f) bs:=by
 induction h with
 |nil=>exact .nil
 |cons a _ ih=>exact .cons a ih
theorem ai.mapR{α D F:Type}{R:α->F->Prop}{f:D->F}{as:List α}{bs:List D}(h:ai (fun a b=>R a (f b)) as bs):ai R as (bs.map f):=by
 induction h with
 |nil=>exact .nil
 |cons a _ ih=>exact .cons a ih
theorem FS(hh:A.handled=ab)(hm:fT B w s.heap d l)(ha:d ∉ U\/d∈ao):
 ke B w A tgt U s (.ref d) (l.map fun p=>.d (.int p.1)) ao:=by
 refine lk fun _ N=>?_
 refine ac hm fun hd L=>?_;clear hm;refine ae L fun kvs J=>ac J fun F hl=>?_;clear L J;refine aP F fun o es ep G=>d4 G fun T S D hk Q V=>?_;clear F G
 refine N ?_
 refine zN hh hd ⟨o,T,S,D⟩ (ai.mapL (hl.trans' (fun a b c h1 P=>?_) (tI Q))) ha
 refine tA P fun t e=>?_
 rw [h1.1] at e
 exact eL.mpr ⟨t,e⟩
theorem FT(hm:dX B w U s.heap d l):∃ es ep,dB s.heap d es ep/\ai (fun x e=>aC B w U s.heap (aj x) e.key) l es.toList:=by refine lk fun _ G=>dX.eK hm fun hd xs D hl=>?_;clear hm;refine aP D fun o es ep F=>d4 F fun Q P J S hk V=>?_;clear D F;refine G (aR es ep ⟨⟨o,Q,P,J⟩,?_⟩);refine rl S (ai.mapR (hl.imp fun a b h=>?_));refine lk fun _ G=>bR h fun h1 N T D=>?_;clear h;refine aM D fun vs n F=>ac F fun h4 L=>?_;clear D F;refine G (qI.mpr ⟨b.2.1,vs,n,rfl,N,h4,lV.mp L⟩)
theorem x9(hm:dX B w U s.heap d l){G:Prop}(k:∀ es ep,dB s.heap d es ep->ai (fun x (e:jL)=>aC B w U s.heap (aj x) e.key) l es.toList->G):G:=aM (FT hm) fun F z1 D=>ac D fun z2 J=>k F z1 z2 J
theorem FU(hh:A.handled=ab)(hm:dX B w U s.heap d l)(ha:d ∉ U\/d∈ao):
 ke B w A tgt U s (.ref d) (l.map fun p=>.d (aj p)) ao:=by
 refine x9 hm fun es ep hr D=>?_
 exact zN hh hm.1 hr D.mapL ha
section
theorem Ej{it t:am}{i:Nat}{items:Array ar}{x:ar}{Q:ar->aw->Prop}(D:s.heap.IsTupleIter it t i)
 (ht:s.heap.IsTuple t items) (V:items[i]? = aa x) (T:∀ h',h'.IsTupleIter it t (i+1)->g5 it s.heap h'->Q x { s with heap:=h' }) :
 ak (av B w) A (kj (.ref it)) Q E s:=by
 refine lk fun _ S=>?_
 refine ae (id D) fun o G=>aE G fun J hc hd=>?_;clear G
 refine ae ht fun X G=>?_;clear ht;refine aE G fun N _ P=>?_;clear G;refine ae P fun nl L=>?_;clear P
 refine S ?_
 delta kj
 refine af (iW (name:=i7 "__next__") D.typeIs sf
  (fO sf D.typeIs Cr ?_ (Co _)))
 show ak _ _ (field (.ref it) 0 >>= _) _ _ s;refine af (fQ J hd (x:=.ref t) rfl ?_);show ak _ _ (if (dw t == c7)=true then _ else _) _ _ s
 refine rl (if_neg (show ¬ ((dw t == c7)=true) from fN)) ?_;show ak _ _ (field (.ref it) 1 >>= _) _ _ s;refine af (fQ J hd (x:=.int i 0) rfl ?_);show ak _ _ (seqItems? (.ref t) >>= _) _ _ s;refine af (iq N L ?_);simp only [lz,V];refine af (lH J hd (i3 _) (au ⟨x,rfl,au (T _ ?_ (eF ..))⟩));exact ⟨_,pb _ J (sp (kn hd _)),(sz ..).trans hc,by
  rw [kn hd];rfl⟩
theorem DP{it t:am}{i:Nat}(hh:A.handled=ab)(D:s.heap.IsTupleIter it t i)
 (ht:s.heap.IsTuple t items) (T:items[i]? = ab) (V:∀ h' e,Heap.ExtBut it s.heap h'->(∃ o,h'.get? e=aa o/\o.cls = .type "StopIteration")->E (.ref e) { s with heap:=h' }) :
 ak (av B w) A (kj (.ref it)) Q E s:=by
 refine lk fun _ S=>?_
 refine ae (id D) fun o G=>aE G fun L hc hd=>?_;clear G
 refine ae ht fun X G=>?_;clear ht;refine aE G fun N _ P=>?_;clear G;refine ae P fun nl J=>?_;clear P
 refine S ?_
 delta kj
 refine af (iW (name:=i7 "__next__") D.typeIs sf
  (fO sf D.typeIs Cr ?_ (Co _)))
 show ak _ _ (field (.ref it) 0 >>= _) _ _ s;refine af (fQ L hd (x:=.ref t) rfl ?_);show ak _ _ (if (dw t == c7)=true then _ else _) _ _ s
 refine rl (if_neg (show ¬ ((dw t == c7)=true) from fN)) ?_;show ak _ _ (field (.ref it) 1 >>= _) _ _ s;refine af (fQ L hd (x:=.int i 0) rfl ?_);show ak _ _ (seqItems? (.ref t) >>= _) _ _ s;refine af (iq N J ?_);simp only [lz,T];refine af (jG (af (lH L hd (ef _) ?_)));show ak _ _ (newExc (.type "StopIteration") [] >>= _) _ _ _;refine af ?_;refine af (f8 ?_ (by size_fits));refine af (m:=s0 _ _) (pW (a:=c7) (by first|rfl|(simp only [s0];rfl)) ?_)
 refine f8 ?_ (by size_fits);refine af (xm ?_);first|refine rl (show A.in1.handled=ab from hh) ?_|rw [hh]
 refine af (au (wpAny_throw ?_));exact V _ _ (((eF ..).extBut.push _).push _) ⟨_,b9 _ rfl,rfl⟩
theorem Draws.tuple(hh:A.handled=ab)it l(J:l≠it)items :
 Draws B w A it [it,l] items.size (fun i v=>items[i]? = aa v) (fun i h=>h.IsTupleIter it l i/\h.IsTuple l items) where
 live:=fun G G C=>by refine ae C.1 fun o L=>ac L fun S _=>?_;clear L;exact ⟨o,S⟩
 frame:=fun G G G C hk=>⟨C.1.at fun o e=>hk it (.head _) o e,C.2.at fun o e=>hk l (by exact .tail _ (.head _)) o e⟩
 item:=fun i s Q E hi C N=>by
  refine Ej C.1 C.2 (x:=items[i]) (by simp [hi]) fun h' F D=>N _ h' s.toks (by simp [hi]) ⟨F,C.2.extBut D.extBut J⟩ D
 done:=fun s Q E C P=>DP hh C.1 C.2 Array.getElem?_size P
structure ZA (z TI TO i1 i2:am) (fp1 fp2:List am):Prop where
 TIz:TI≠z
 TOz:TO≠z
 i1z:i1≠z
 i2z:i2≠z
 TITO:TI≠TO
 TIi1:TI≠i1
 TIi2:TI≠i2
 TOi1:TO≠i1
 TOi2:TO≠i2
 i12:i1≠i2
 z1:z ∉ fp1
 z2:z ∉ fp2
 o1:TO ∉ fp1
 o2:TO ∉ fp2
 i1f:i1 ∉ fp2
 i2f:i2 ∉ fp1
variable {z TI TO i1 i2:am} {fp1 fp2:List am} {n1 n2:Nat} {P1 P2:Nat->ar->Prop} {S1 S2:Nat->aB->Prop}
def fJ(z TI TO i1 i2:am)(S1 S2:Nat->aB->Prop)(G:ar)(F D:Nat)(h:aB):Prop :=
 jp h z TI TO G/\hV h TI (.ref i1) (.ref i2)/\(∃ a b,hV h TO a b)/\S1 F h/\S2 D h
theorem fJ.eK{D J:Nat}{h:aB}(Q:fJ z TI TO i1 i2 S1 S2 F D J h){G:Prop}(L:jp h z TI TO F->hV h TI (.ref i1) (.ref i2)->(∃ a b,hV h TO a b)->S1 D h->S2 J h->G):G:=cX Q fun N z1 z2 S P=>L N z1 z2 S P
theorem fJ.iK{F D:Nat}{h:aB}:jp h z TI TO G->hV h TI (.ref i1) (.ref i2)->(∃ a b,hV h TO a b)->S1 F h->S2 D h->fJ z TI TO i1 i2 S1 S2 G F D h:=fun J z1 z2 N L=>⟨J,z1,z2,N,L⟩
theorem Hq(D:ZA z TI TO i1 i2 fp1 fp2)(d1:Draws B w A i1 fp1 n1 P1 S1)(d2:Draws B w A i2 fp2 n2 P2 S2)(h1:k < n1)(h2:k < n2)
 (hst:fJ z TI TO i1 i2 S1 S2 .none k k s.heap) {Q:ar->aw->Prop}
 (hQ:∀ T x y h' tk,P1 k x->P2 k y->s.heap.objs.size<=T->hV h' T x y->fJ z TI TO i1 i2 S1 S2 (iG T) (k+1) (k+1) h' ->
  (∀ c o,c ∉ [z,TO,i1,i2]->s.heap.get? c=aa o->h'.get? c=aa o)->Q (.ref T) { s with heap:=h',toks:=tk }) :
 ak (av B w) A (Builtin.«zip.__next__» ⟨[.ref z],[]⟩) (fun fin s'=>∃ v,fin = .done (.ret v)/\Q v s') E s:=by
 refine fJ.eK hst fun hz hTI q0 hs1 hs2=>?_;clear hst;refine aM q0 fun a b hTO=>?_;clear q0;show ak _ _ (field (.ref z) 2 >>= _) _ _ _;refine af (fQ hz rfl (x:=.bool false) rfl ?_);show ak _ _ (field (.ref z) 3 >>= _) _ _ _;refine af (fQ hz rfl (x:=.ref TI) rfl ?_);refine af (iq hTI rfl ?_);show ak _ _ (Ci (.ref z) >>= _) _ _ _;refine af (af (fQ hz rfl (x:=.none) rfl (au ?_)));first|refine rl (if_pos rfl) ?_|refine rl (if_pos (by decide)) ?_|refine rl (if_pos (by simp)) ?_
 refine af (jG ?_);refine af (fQ hz rfl (x:=.ref TO) rfl ?_);refine af (mS hz (ef _) fun r f N=>?_);replace f:jp r z TI TO .ellipsis:=f;have a2:=d2.frame k _ r hs2 fun b hb o e=>N.extBut b o (fun q=>D.z2 (q ▸ hb)) e;refine af ?_;simp only [List.zipIdx_cons,List.zipIdx_nil,m7,ta];refine af (af (pM ?_));show ak _ _ (kj (.ref i1) >>= _) _ _ _;refine af (d1.item k _ _ _ h1 (d1.frame k _ r hs1 fun b hb o e=>N.extBut b o (fun q=>D.z1 (q ▸ hb)) e) fun x u b11 px b1 J=>au ?_);have j:hV u TO a b:=J.extBut _ _ D.TOi1 (N.extBut _ _ D.TOz hTO);refine af (iq j rfl ?_);refine af (wz j fun p V S=>?_);replace V:hV p TO x b:=V;have c1:=d1.frame _ _ p b1 fun b hb o e=>S.extBut b o (fun q=>D.o1 (q ▸ hb)) e;have c2:=d2.frame _ _ p (d2.frame k _ u a2 fun b hb o e=>J.extBut b o (fun q=>D.i1f (q ▸ hb)) e) fun b hb o e=>S.extBut b o (fun q=>D.o2 (q ▸ hb)) e;refine af (wpAny_letGo (au ?_));refine af (af (pM ?_));show ak _ _ (kj (.ref i2) >>= _) _ _ _;refine af (d2.item k _ _ _ h2 c2 fun y t c11 py e2 L=>au ?_);have e1:=d1.frame _ _ t c1 fun b hb o e=>L.extBut b o (fun q=>D.i2f (q ▸ hb)) e;have i:hV t TO x b:=L.extBut _ _ D.TOi2 V;refine af (iq i rfl ?_);refine af (wz i fun F G P=>?_);replace G:hV F TO x y:=G;refine af (wpAny_letGo (au (au ?_)));refine af (iq G rfl ?_);refine af (wpAny_newTuple ?_);have hsz:F.objs.size=s.heap.objs.size:=by refine rl P.1 ?_;refine rl L.1 ?_;refine rl S.1 ?_;refine rl J.1 ?_;refine rl N.1 ?_;rfl
 have l:jp F z TI TO .ellipsis:=P.extBut _ _ D.TOz.symm (L.extBut _ _ D.i2z.symm (S.extBut _ _ D.TOz.symm (J.extBut _ _ D.i1z.symm f)));have hkk:∀ c o,c≠z->c≠TO->c≠i1->c≠i2->s.heap.get? c=aa o->F.get? c=aa o:=fun c o c1 c2 c3 c4 e =>
  P.extBut _ _ c2 (L.extBut _ _ c4 (S.extBut _ _ c2 (J.extBut _ _ c3 (N.extBut _ _ c1 e))))
 have a10:z < F.objs.size:=bH l;show ak _ _ (Rh (.ref z) (.ref F.objs.size) >>= _) _ _ _;refine af ?_;refine af (mS (bc _ l) (ef _) fun a11 g m=>?_);replace g:jp a11 z TI TO (iG F.objs.size):=g;refine mS g (by exact wy [Value.bool false,dw TI,dw TO].length) fun X d n=>?_;replace d:jp X z TI TO (iG F.objs.size):=d;have up:∀ c o,c≠z->F.get? c=aa o->X.get? c=aa o:=fun c o c1 e=>n.extBut _ _ c1 (m.extBut _ _ c1 (bc _ e));refine au ⟨_,rfl,?_⟩;refine hQ _ x y X _ px py (c5 hsz.symm) (n.extBut _ _ (jE a10) (m.extBut _ _ (jE a10) (b9 _ rfl))) ⟨d,up _ _ D.TIz (hkk _ _ D.TIz D.TITO D.TIi1 D.TIi2 hTI),⟨_,_,up _ _ D.TOz G⟩,
  d1.frame _ _ X (d1.frame _ _ F e1 fun b hb o e=>P.extBut b o (fun q=>D.o1 (q ▸ hb)) e) fun b hb o e=>up b o (fun q=>D.z1 (q ▸ hb)) e,d2.frame _ _ X (d2.frame _ _ F e2 fun b hb o e=>P.extBut b o (fun q=>D.o2 (q ▸ hb)) e) fun b hb o e=>up b o (fun q=>D.z2 (q ▸ hb)) e⟩ fun c o hc e=>?_
 simp only [aL,a7,or_false,not_or] at hc;exact up c o hc.1 (hkk c o hc.1 hc.2.1 hc.2.2.1 hc.2.2.2 e)
theorem IX(hh:A.handled=ab)(D:ZA z TI TO i1 i2 fp1 fp2)(d1:Draws B w A i1 fp1 n1 P1 S1)(d2:Draws B w A i2 fp2 n2 P2 S2){k:Nat}(h1:k<=n1)(h2:k<=n2)(v:k=n1\/k=n2)
 (p:fJ z TI TO i1 i2 S1 S2 .none k k s.heap) {Q:Fin->aw->Prop}
 (hE:∀ h' tk e,(∀ c o,c ∉ [z,TO,i1,i2]->s.heap.get? c=aa o->h'.get? c=aa o)->(∃ o,h'.get? e=aa o/\o.cls = .type "StopIteration")->E (.ref e) { s with heap:=h',toks:=tk }) :
 ak (av B w) A (Builtin.«zip.__next__» ⟨[.ref z],[]⟩) Q E s:=by
 refine fJ.eK p fun n hTI l hs1 hs2=>?_;clear p;refine aM l fun a b hTO=>?_;clear l
 have J:∀ {c:am},c ∉ [z,TO,i1,i2]->c≠z/\c≠TO/\c≠i1/\c≠i2:=fun hc=>by
  simp only [aL,a7,or_false,not_or] at hc;exact hc
 show ak _ _ (field (.ref z) 2 >>= _) _ _ _;refine af (fQ n rfl (x:=.bool false) rfl ?_);show ak _ _ (field (.ref z) 3 >>= _) _ _ _;refine af (fQ n rfl (x:=.ref TI) rfl ?_);refine af (iq hTI rfl ?_);show ak _ _ (Ci (.ref z) >>= _) _ _ _;refine af (af (fQ n rfl (x:=.none) rfl (au ?_)));first|refine rl (if_pos rfl) ?_|refine rl (if_pos (by decide)) ?_|refine rl (if_pos (by simp)) ?_
 refine af (jG ?_);refine af (fQ n rfl (x:=.ref TO) rfl ?_);refine af (mS n (ef _) fun i P L=>?_);replace P:jp i z TI TO .ellipsis:=P;have a1:=d1.frame k _ i hs1 fun b hb o e=>L.extBut b o (fun q=>D.z1 (q ▸ hb)) e;have a2:=d2.frame k _ i hs2 fun b hb o e=>L.extBut b o (fun q=>D.z2 (q ▸ hb)) e;refine af ?_;simp only [List.zipIdx_cons,List.zipIdx_nil,m7,ta];refine af (af (pM ?_));show ak _ _ (kj (.ref i1) >>= _) _ _ _;by_cases hk:k=n1
 . subst hk;refine af (d1.done _ _ _ a1 fun T e F u=>?_);refine ae u fun oe l=>ac l fun N X=>?_;clear u l;have j:jp T z TI TO .ellipsis:=F _ _ D.i1z.symm P;have m:e≠z:=fun x=>by subst x;rw [j] at N;replace N:=sI N;subst N;simp at X
   exact mS j (ef _) fun g ο G=>hE g _ e (fun c o hc x=>G.extBut _ _ (J hc).1 (F _ _ (J hc).2.2.1 (L.extBut _ _ (J hc).1 x))) ⟨oe,G.extBut _ _ m N,X⟩
 . have hk2:k=n2:=v.resolve_left hk;subst hk2;refine af (d1.item k _ _ _ (mR ‹_› ‹_›) a1 fun x T b10 px b1 F=>au ?_);have b2:=d2.frame k _ T a2 fun b hb o e=>F.extBut b o (fun q=>D.i1f (q ▸ hb)) e;have S:hV T TO a b:=F.extBut _ _ D.TOi1 (L.extBut _ _ D.TOz hTO);refine af (iq S rfl ?_);refine af (wz S fun g y G=>?_);refine af (wpAny_letGo (au ?_));refine af (af (pM ?_));show ak _ _ (kj (.ref i2) >>= _) _ _ _;refine af (d2.done _ _ _ (d2.frame _ _ g b2 fun b hb o e=>G.extBut b o (fun q=>D.o2 (q ▸ hb)) e) fun t e V u=>?_);refine ae u fun oe l=>ac l fun N X=>?_;clear u l;have d:jp t z TI TO .ellipsis:=V _ _ D.i2z.symm (G.extBut _ _ D.TOz.symm (F.extBut _ _ D.i1z.symm P));have m:e≠z:=fun x=>by subst x;rw [d] at N;replace N:=sI N;subst N;simp at X
   exact mS d (ef _) fun r ο f=>hE r _ e (fun c o hc x=>f.extBut _ _ (J hc).1 (V _ _ (J hc).2.2.2 (G.extBut _ _ (J hc).2.1 (F.extBut _ _ (J hc).2.2.1
    (L.extBut _ _ (J hc).1 x))))) ⟨oe,f.extBut _ _ m N,X⟩
end
noncomputable abbrev kf(t:am):Obj:={ cls:=.type "tuple_iterator",data:=.fields #[.ref t,.int 0 0] }
noncomputable abbrev rR(x:aq)(t:Tok):Obj:={ cls:=.type (tE x),data:=.fields #[.str x t,.int 0 0] }
noncomputable abbrev rT(h:aB)(o1 o2:fK):Heap:=(h.push o1).push o2
noncomputable abbrev rU(h:aB)(o1 o2:fK):Heap:=(rT h o1 o2).push { cls:=.type "tuple",data:=.seq #[.ref h.objs.size,.ref (h.push o1).objs.size] }
noncomputable abbrev mH(h:aB)(o1 o2:fK):Heap:=(rU h o1 o2).push { cls:=.type "tuple",data:=.seq #[.none,.none] }
noncomputable abbrev iQ(h:aB)(o1 o2:fK):Heap:=(mH h o1 o2).push { cls:=.type "zip",data:=.fields #[.none,.bool false,.bool false,.ref (rT h o1 o2).objs.size,.ref (rU h o1 o2).objs.size] }
set_option tactic.hygienic true in
theorem Ek l1 l2 xs ys :
 Meets (Builtin.«zip.__new__» ⟨[.type "zip",.ref l1,.ref l2],[]⟩) (fun P R s=>s.heap.IsTuple l1 xs/\s.heap.IsTuple l2 ys /\
  R (.ok (.ret (.ref (mH s.heap (kf l1) (kf l2)).objs.size))) { s with heap:=iQ s.heap (kf l1) (kf l2) }) :=
 .of_wp fun B w A R s h=>by
  obtain ⟨N,g,d,tk,os⟩:=s;obtain ⟨D,F,h⟩:=h;have L:=sub_zip;have G:xM (Shared.heap ⟨N,g,d,tk,os⟩) l1 xs:=D;have J:xM (Shared.heap ⟨N.push (kf l1),g,d,tk,os⟩) l2 ys:=DB F _;wp_walk using ph G,ph J;exact ⟨_,rfl,h⟩
set_option maxHeartbeats 4000000 in
theorem El x t l2 ys :
 Meets (Builtin.«zip.__new__» ⟨[.type "zip",.str x t,.ref l2],[]⟩) (fun L R s=>s.heap.IsTuple l2 ys /\
  R (.ok (.ret (.ref (mH s.heap (rR x t) (kf l2)).objs.size))) { s with heap:=iQ s.heap (rR x t) (kf l2) }) :=
 .of_wp fun B w A R s h=>by
  obtain ⟨J,g,d,tk,os⟩:=s;obtain ⟨D,h⟩:=h;have G:=sub_zip;have F:xM (Shared.heap ⟨J.push (rR x t),g,d,tk,os⟩) l2 ys:=DB D _;wp_walk using wpAny_pyIter_strU (x:=x) (t:=t),ph F;exact ⟨_,rfl,h⟩
noncomputable def w1:Nat:=0
structure DR (B:bm) (w:bh) (U:List am) (s:aw) (o:fK) (ds:List D) (it:am) (fp:List am) (P:Nat->ar->Prop) (S:Nat->aB->Prop):Prop where
 draws:∀ A:bo,A.handled=ab->Draws B w A it fp ds.length P S
 fp:∀ b∈fp,b=it\/((∃ o,s.heap.get? b=aa o)/\b ∉ U)
 start:∀ h:aB,(∀ b o,s.heap.get? b=aa o->h.get? b=aa o)->h.get? it=aa o->S 0 h
 item:∀ i d v,ds[i]? = aa d->P i v->aC B w U s.heap d v
theorem DR.tuple{n:Nat}(J:s.heap.get? l=aa (dY vs n))(hl:l ∉ U)(hr:ai (aC B w U s.heap) ds vs){it:am}(F:s.heap.objs.size<=it):
 DR B w U s (kf l) ds it [it,l] (fun i v=>vs.toArray[i]? = aa v) (fun i h=>h.IsTupleIter it l i/\h.IsTuple l vs.toArray) where
 draws:=fun A hh=>by
  have:=Draws.tuple (B:=B) (w:=w) hh it l (cz (du (bH J) F)) vs.toArray;rwa [cx,← hr.length] at this
 fp:=fun b hb=>by
  clear F hr;clear ds;rcases aL.mp hb with rfl|hb
  . exact .inl rfl
  . refine rl (aV.mp hb) (.inr ⟨⟨_,J⟩,hl⟩)
 start:=fun h hk hi=>⟨⟨_,hi,rfl,rfl⟩,⟨_,hk _ _ J,rfl,n,rfl⟩⟩
 item:=fun i d v hd hv=>by
  refine hr.getK hd fun v' L G=>?_;have:vs[i]? = aa v:=by simpa using hv
  rw [L] at this;replace this:=sI this;subst this;exact G
noncomputable def kU(x:List Nat):List D:=x.map fun c=>.str [c]
theorem DR.str{x:List Nat}{t:Tok}{it:am}(ha:x.all (· < 128)=true):
 DR B w U s (rR ⟨x.toArray⟩ t) (kU x) it [it] (fun i v=>∃ c u,(⟨x.toArray⟩:aq).cps[i]? = aa c/\v = .str ⟨#[c]⟩ u) (fun i h=>h.IsStrIter it "str_ascii_iterator" ⟨x.toArray⟩ t i) where
 draws:=fun A hh=>by
  have:=Draws.strAscii (prog:=B) (w:=w) hh it ⟨x.toArray⟩ t;have e:(⟨x.toArray⟩:aq).cps.size=(kU x).length:=by simp [kU]
  rwa [e] at this
 fp:=fun b hb=>.inl (aV.mp hb)
 start:=fun h hk hi=>by
  have e:tE ⟨x.toArray⟩ = "str_ascii_iterator" := by
   unfold tE;refine rl (if_pos (by simpa using ha)) rfl
  exact ⟨_,hi,by show jH (tE _)=_;refine rl e ?_;rfl,rfl⟩
 item:=fun i d v hd hv=>by
  refine aM hv fun c u G=>ac G fun hc D=>?_;clear hv G;subst D;unfold kU at hd;rw [cy] at hd;refine aG hd fun J F D=>?_;subst D;have:x[i]? = aa c:=by simpa using hc
  rw [F] at this;replace this:=sI this;subst this;exact zH.mpr ⟨u,rfl⟩
noncomputable def iL(a b:List D):List D:=(a.zip b).map fun p=>.tup [p.1,p.2]
theorem Hr{i:Nat}(h:(iL a b)[i]? = aa d):∃ x y,a[i]? = aa x/\b[i]? = aa y/\d = .tup [x,y]:=by unfold iL at h;rw [cy] at h;refine aG h fun p F G=>?_;subst G;refine ln F fun h1 J=>aR p.1 p.2 ⟨h1,J,rfl⟩
theorem EI a b:(iL a b).length=min a.length b.length:=by simp [iL]
theorem Ky{h₀:aB}
 (hh:A.handled=ab) (D:ZA z TI m l i2 fp1 fp2) (d1:DR B w U s o1 g l fp1 P1 S1) (d2:DR B w U s o2 f i2 fp2 P2 S2)
 (hf:∀ b ∈ [z,m,l,i2],s.heap.get? b=ab) (hk:∀ b o,s.heap.get? b=aa o->h₀.get? b=aa o) :
 WK B w A (.Tuple es k pos) z ([z,TI,m]++(l::i2::(fp1++fp2))) [z,m,l,i2] ([z,m,l,i2]++U) h₀ ((iL g f).map .d) (fun i h=>fJ z TI m l i2 S1 S2 .none i i h) where
 sub:=fun b hb=>by simp at hb ⊢;rcases hb with rfl|rfl|rfl|rfl<;>(first|exact Or.inl rfl|exact .inr (.inr (.inl rfl))|exact .inr (.inr (.inr (.inl rfl)))|exact .inr (.inr (.inr (.inr (.inl rfl)))))
 frame:=fun i h h' G L=>by
  refine lk fun _ c=>fJ.eK G fun hz S P h1 h2=>?_;clear G;refine aM P fun a b N=>?_;clear P;refine c ?_;exact fJ.iK (L z (.head _) _ hz) (L TI (by exact .tail _ (.head _)) _ S) ⟨a,b,L m (by exact .tail _ (.tail _ (.head _))) _ N⟩ ((d1.draws A hh).frame i h h' h1 fun b hb o e=>L b (by simp [hb]) o e) ((d2.draws A hh).frame i h h' h2 fun b hb o e=>L b (by simp [hb]) o e)
 live:=fun i h G b hb=>by
  refine lk fun _ c=>fJ.eK G fun hz S P h1 h2=>?_;clear G;refine aM P fun a b' N=>?_;clear P;simp only [aL,a7,or_false] at hb;clear S hk hf D;clear h₀;rcases hb with rfl|rfl|rfl|rfl
  . refine c ⟨_,hz⟩
  . refine c ⟨_,N⟩
  . refine c ((d1.draws A hh).live i h h1)
  . refine c ((d2.draws A hh).live i h h2)
 turn:=fun i x hx V s' Q E G p hwr n hQ=>by
  rw [cy] at hx;refine lk fun _ c=>?_;refine aG hx fun d hd P=>?_;subst P;refine aM (Hr hd) fun x y q1=>aE q1 fun hx1 hy1 P=>?_;clear q1;subst P;have hT:s'.TypeIs (.ref z) "zip" := ⟨_,G.1,rfl⟩;refine c ?_;refine af (nj (iW (name:=i7 "__next__") hT sO
   (fO sO hT F.entry_zip_next
    (Hq D (d1.draws A.in1 (show A.in1.handled=ab from hh)) (d2.draws A.in1 (show A.in1.handled=ab from hh)) (fL.mp hx1).1 (fL.mp hy1).1 G fun T vx vy h' tk px py hTs hTo j L=>au ?_) (DC _))))
  refine ⟨_,rfl,?_⟩;refine lk fun _ c=>?_;refine fJ.eK j fun hz S N h1 h2=>?_;clear j;refine c ?_;refine wpAny_letOwnedTupleGo_zip (s:={ s' with heap:=h',toks:=tk }) hz fun h'' b11 J=>?_;have st1:bj U s.heap ([z,m,l,i2]++U) h₀:=⟨fun u t=>by
   rcases bC.mp t with t|t
   . exact .inr (hf u t)
   . exact .inl t,fun b o ο e=>hk b o e⟩
  have mv:∀ {d:Mine.D} {v:ar},aC B w U s.heap d v->aC B w V h'' d v:=fun r=>((r.move st1).move p).move (⟨fun ο t=>.inl t,fun b o hb e=>J.extBut b o (fun q=>hb (hwr b (by simp [q]))) (L b o (fun q=>hb (hwr b q)) e)⟩);refine hQ (.ref T) h'' tk ?_ ⟨b11,J.extBut _ _ D.TIz S,?_,?_,?_⟩ fun b o hb e=>J.extBut b o (fun q=>hb (by simp [q])) (L b o hb e)
  . refine qZ.mpr ⟨T,[vx,vy],0,rfl,(n.ge hTs),J.extBut _ _ (fun e=>i6 _ (du (bH G.1) (e ▸ hTs))) hTo,.cons (mv (d1.item i x vx hx1 px)) (.cons (mv (d2.item i y vy hy1 py)) .nil)⟩
  . refine aM N ?_;clear N;intro a b N;exact aR a b (J.extBut _ _ D.TOz N)
  . exact (d1.draws A hh).frame _ _ _ h1 fun b hb o e=>J.extBut b o (fun q=>D.z1 (q ▸ hb)) e
  . exact (d2.draws A hh).frame _ _ _ h2 fun b hb o e=>J.extBut b o (fun q=>D.z2 (q ▸ hb)) e
 done:=fun s' Q E G hQ=>by
  have hT:s'.TypeIs (.ref z) "zip" := ⟨_,G.1,rfl⟩;have hlen:((iL g f).map X.d).length=min g.length f.length:=by refine rl (aZ ..) ?_;refine rl (EI ..) ?_;rfl
  rw [hlen] at G;refine af (nj (iW (name:=i7 "__next__") hT sO
   (fO sO hT F.entry_zip_next (IX (show A.in1.handled=ab from hh) D (d1.draws A.in1 (show A.in1.handled=ab from hh)) (d2.draws A.in1 (show A.in1.handled=ab from hh)) (kq _ _) (mZ _ _) Qh G fun h' tk e L he=>?_) (DC _))))
  refine ae he fun o P=>ac P fun ho hc=>?_;clear he P;refine af (pA (s:={ s' with heap:=h',toks:=tk }) (T := "StopIteration") (b:=true) ⟨o,ho,hc⟩ w9 ?_);exact au (hQ h' tk L)
 self:=fun i s' Q E G hQ=>wpAny_pyIter_zip G.1 hQ
theorem y8{T V:List D}{va n:ar}{ao:List am}(hh:A.handled=ab)(L:dM U s)
 (y:o1.isFreed=false) (z:o2.isFreed=false)
 (r:∀ it,s.heap.objs.size<=it->∃ fp P S,it∈fp/\DR B w U s o1 T it fp P S) (t:∀ it,s.heap.objs.size<=it->∃ fp P S,it∈fp/\DR B w U s o2 V it fp P S)
 (hm:Meets (Builtin.«zip.__new__» ⟨[.type "zip",va,n],[]⟩) (fun f R s'=>s'=s/\R (.ok (.ret (.ref (mH s'.heap o1 o2).objs.size))) { s' with heap:=iQ s'.heap o1 o2 })) :
 ak (av B w) A (call (.type "zip") [va,n]) (fun v s₁=>ak (av B w) A (fW v) (fun it s₂=>bb s s₂ /\ ∃ I fp wr St,it = .ref I/\WK B w A (.Tuple es k pos) I fp wr (wr++U) s₂.heap ((iL T V).map .d) St/\St 0 s₂.heap /\
  (∀ b∈wr,s.heap.get? b=ab)/\(∀ b∈fp,(∃ o,s₂.heap.get? b=aa o)/\(b∈wr\/b ∉ U\/b∈ao))) (fun f f=>False) s₁) (fun f f=>False) s:=by
 refine callType_new F.called_zip (by decide) (F.typeCall_zip_2 _ _) (F.newCall_zip_2 _ _) (fun m=>F.args_object_init_3 m _ _) F.entry_zip_new hm ⟨rfl,?_⟩;have q:(s.heap.push o1).objs.size=s.heap.objs.size+1:=em ..;have j:(rT s.heap o1 o2).objs.size=s.heap.objs.size+2:=by refine rl (em ..) ?_;refine rl q ?_;rfl
 have e3:(rU s.heap o1 o2).objs.size=s.heap.objs.size+3:=by refine rl (em ..) ?_;refine rl j ?_;rfl
 have p:(mH s.heap o1 o2).objs.size=s.heap.objs.size+4:=by refine rl (em ..) ?_;refine rl e3 ?_;rfl
 have X:(iQ s.heap o1 o2).get? (mH s.heap o1 o2).objs.size=aa _:=b9 _ rfl;have g4:(iQ s.heap o1 o2).get? (rU s.heap o1 o2).objs.size=aa _:=bc _ (b9 _ rfl);have g3:(iQ s.heap o1 o2).get? (rT s.heap o1 o2).objs.size=aa _:=bc _ (bc _ (b9 _ rfl));have g2:(iQ s.heap o1 o2).get? (s.heap.push o1).objs.size=aa o2:=bc _ (bc _ (bc _ (b9 _ z)));have g1:(iQ s.heap o1 o2).get? s.heap.objs.size=aa o1:=bc _ (bc _ (bc _ (bc _ (b9 _ y))));have keep:∀ b o,s.heap.get? b=aa o->(iQ s.heap o1 o2).get? b=aa o:=fun c o x =>
  bc _ (bc _ (bc _ (bc _ (bc _ x))))
 rw [q] at g2 g3;rw [j,e3,p] at X;rw [e3] at g4;rw [j] at g3;refine rl p (⟨⟨_,X,rfl⟩,?_⟩);refine lk fun _ J=>aP (r s.heap.objs.size (cH _)) fun fp1 P1 S1 N=>ac N fun m1 i=>?_;clear N;refine aP (t (s.heap.objs.size+1) (fo _)) fun fp2 P2 S2 N=>ac N fun m2 g=>?_;clear N;have G:∀ b,s.heap.objs.size<=b->s.heap.get? b=none:=fun b hb=>by
  cases e:s.heap.get? b with
  |none=>rfl
  |some o=>exact absurd (bH e) (ch.mpr hb)
 have a:∀ b,s.heap.objs.size < b->b ∉ fp1:=fun b hb hm=>by
  rcases i.fp b hm with e|⟨⟨o,e⟩,_⟩
  . exact i6 _ (e ▸ hb)
  . exact Nat.lt_asymm hb (bH e)
 have Q:∀ b,s.heap.objs.size<=b->b≠s.heap.objs.size+1->b ∉ fp2:=fun b hb l hm=>by
  rcases g.fp b hm with e|⟨⟨o,e⟩,_⟩
  . exact l e
  . exact absurd (bH e) (ch.mpr hb)
 have u:ZA (s.heap.objs.size+4) (s.heap.objs.size+2) (s.heap.objs.size+3) s.heap.objs.size (s.heap.objs.size+1) fp1 fp2:=by
  constructor<;>first|(show @Ne Nat _ _;(first|exact Qi|exact Qj|exact Qk|exact Ql|exact Qm|exact Qn|exact LX|exact LY|exact Bq|exact Br))|(apply a;(first|exact LZ|exact L0|with_reducible exact i3 _|omega))|(apply Q<;>(first|with_reducible exact c0 _ _|exact L1|exact Bq|exact om|exact Br|omega))
 refine J (wpAny_pyIter_zip (s:={ s with heap:=iQ s.heap o1 o2 }) X ⟨⟨_,s.toks,rfl,keep⟩,_,_,_,_,rfl,Ky hh u i g ?_ keep,?_,?_,?_⟩)
 . intro b hb;simp only [aL,a7,or_false] at hb;rcases hb with rfl|rfl|rfl|rfl<;>exact G _ (by first|with_reducible exact c0 _ _|exact om|with_reducible exact fo _|omega)
 . exact fJ.iK X g3 ⟨_,_,g4⟩ (i.start _ keep g1) (g.start _ keep g2)
 . intro b hb;simp only [aL,a7,or_false] at hb;rcases hb with rfl|rfl|rfl|rfl<;>exact G _ (by first|with_reducible exact c0 _ _|exact om|with_reducible exact fo _|omega)
 . intro b hb;simp only [bC,aL,a7,or_false] at hb;refine lk fun _ J=>?_;rcases hb with (rfl|rfl|rfl)|rfl|rfl|hb|hb
   . refine J ?_;exact ⟨⟨_,X⟩,.inl (.head _)⟩
   . refine J ?_;exact ⟨⟨_,g3⟩,.inr (.inl (L.ge (c0 _ _)))⟩
   . refine J ?_;exact ⟨⟨_,g4⟩,.inl (by exact .tail _ (.head _))⟩
   . refine J ?_;exact ⟨⟨_,g1⟩,.inl (by exact .tail _ (.tail _ (.head _)))⟩
   . refine J ?_;exact ⟨⟨_,g2⟩,.inl (by exact .tail _ (.tail _ (.tail _ (.head _))))⟩
   . rcases i.fp b hb with rfl|⟨⟨o,e⟩,h⟩
     . refine J ?_;exact ⟨⟨_,g1⟩,.inl (by exact .tail _ (.tail _ (.head _)))⟩
     . refine J (⟨⟨o,keep b o e⟩,.inr (.inl h)⟩)
   . rcases g.fp b hb with rfl|⟨⟨o,e⟩,h⟩
     . refine J ?_;exact ⟨⟨_,g2⟩,.inl (by exact .tail _ (.tail _ (.tail _ (.head _))))⟩
     . refine J (⟨⟨o,keep b o e⟩,.inr (.inl h)⟩)
theorem Kz{ao:List am}(hh:A.handled=ab)(L:dM U s)
 {va X:ar} (ha:aC B w U s.heap (.tup S) va) (hb:aC B w U s.heap (.tup T) X) :
 ak (av B w) A (call (.type "zip") [va,X]) (fun v s₁=>ak (av B w) A (fW v) (fun it s₂=>bb s s₂ /\ ∃ I fp wr St,it = .ref I/\WK B w A (.Tuple es k pos) I fp wr (wr++U) s₂.heap ((iL S T).map .d) St/\St 0 s₂.heap /\
  (∀ b∈wr,s.heap.get? b=ab)/\(∀ b∈fp,(∃ o,s₂.heap.get? b=aa o)/\(b∈wr\/b ∉ U\/b∈ao))) (fun c c=>False) s₁) (fun c c=>False) s:=by
 refine jc ha fun a va n F J Q G=>?_;subst F;clear ha;refine jc hb fun b X m F N P V=>?_;subst F;refine y8 hh L rfl rfl (fun it hi=>⟨_,_,_,by exact .head _,DR.tuple Q J G hi⟩) (fun it hi=>⟨_,_,_,by exact .head _,DR.tuple P N V hi⟩) ?_;exact (Ek a b va.toArray X.toArray).of_imp fun c R s' h=>by
  clear V N G J hb L hh;refine ac h ?_;clear h;intro F h;subst F;exact ⟨⟨_,Q,rfl,n,rfl⟩,⟨_,P,rfl,m,rfl⟩,h⟩
theorem KA{x:List Nat}{N:List D}{es:List Expr}{k:Nat}{pos:aK}{ao:List am}(hh:A.handled=ab)(L:dM U s)(T:x.all (· < 128)=true)
 {va Q:ar} (ha:aC B w U s.heap (.str x) va) (hb:aC B w U s.heap (.tup N) Q) :
 ak (av B w) A (call (.type "zip") [va,Q]) (fun v s₁=>ak (av B w) A (fW v) (fun it s₂=>bb s s₂ /\ ∃ I fp wr St,it = .ref I/\WK B w A (.Tuple es k pos) I fp wr (wr++U) s₂.heap ((iL (kU x) N).map .d) St/\St 0 s₂.heap /\
  (∀ b∈wr,s.heap.get? b=ab)/\(∀ b∈fp,(∃ o,s₂.heap.get? b=aa o)/\(b∈wr\/b ∉ U\/b∈ao))) (fun S S=>False) s₁) (fun S S=>False) s:=by
 refine jb ha fun t F=>?_;subst F;clear ha;refine jc hb fun b Q m F G J P=>?_;subst F;refine y8 hh L rfl rfl (fun it hi=>⟨_,_,_,by exact .head _,DR.str (t:=t) T⟩) (fun it hi=>⟨_,_,_,by exact .head _,DR.tuple J G P hi⟩) ?_;exact (El ⟨x.toArray⟩ t b Q.toArray).of_imp fun S R s' h=>by
  clear P G hb T L hh ao;refine ac h ?_;clear h;intro F h;subst F;exact ⟨⟨_,J,rfl,m,rfl⟩,h⟩
theorem ay.addU(S:ay B w H Z wc U W C s)(k:bb s s')(Q:∀ b∈N,s.heap.get? b=ab)(hl:∀ b∈N,∃ o,s'.heap.get? b=aa o):ay B w H Z wc (N++U) W C s':=by
 have hk:=cj k;have stab:bj U s.heap (N++U) s'.heap:=⟨fun u G=>(bC.mp G).elim (fun h=>.inr (Q u h)) .inl,fun b o T e=>hk b o e⟩;exact {
  base:=fun b o e=>hk b o (S.base b o e)
  sub:=fun b hb=>fi _ (S.sub b hb)
  live:=fun b hb=>(bC.mp hb).elim (hl b) fun hb=>by refine S.liveK b hb fun o e=>?_;exact ⟨o,hk b o e⟩
  old:=fun b hb=>(bC.mp hb).elim (fun h=>by
   cases e:H.get? b with
   |none=>rfl
   |some o=>have:=S.base b o e;rw [Q b h] at this;exact nS this) (S.old b)
  ek:=S.ek
  eg:=S.eg
  eb:=S.eb
  loc:=S.loc
  ns:=by refine S.nsK fun m hm hv=>?_;exact ⟨m,hm.keeps hk,fun p F D=>by refine ae (hv p F D) fun v P=>ac P fun e J=>?_;clear P;exact ⟨v,e,J.move stab⟩⟩
  cl:=fun p F D=>by refine S.clK p F D fun c v e hc J=>?_;exact aR c v ⟨e,hc.keeps hk,J.move stab⟩
  cellU:=fun x c e=>by refine S.cellUK x c e fun G v hc=>?_;exact ⟨fi _ G,v,hc.keeps hk⟩
  cellI:=S.cellI
  cellW:=S.cellW
  own:=fun p F=>by refine S.ownK p F fun G L J=>?_;exact ⟨fi _ G,L,J.move stab fun o e=>hk _ o e⟩
  ownN:=S.ownN
  wr:=S.wr }
noncomputable def my(T:List am)(U:List am):List Addr:=U.filter fun b=>decide (b ∉ T)
theorem gA{T U:List am}:b∈my T U↔b∈U/\b ∉ T:=by simp [my]
theorem ay.dropU(S:ay B w H Z wc U W C s){h:aB}(Q:∀ a∈T,a∈U)(hk:∀ b o,b ∉ T->s.heap.get? b=aa o->h.get? b=aa o)
 (hW:∀ a∈T,a ∉ W) (L:∀ x c,Z.cells.lookup x=aa c->c ∉ T) (P:∀ p∈C.own,p.1 ∉ T):ay B w H Z wc (my T U) W C { s with heap:=h,toks:=tk }:=by
 have stab:bj U s.heap (my T U) h:=⟨fun u G=>.inl (gA.mp G).1,fun b o hb e=>hk b o (fun hm=>hb (Q b hm)) e⟩
 exact {
  base:=fun b o e=>hk b o (fun hm=>by have:=S.old b (Q b hm);rw [e] at this;exact sN this) (S.base b o e)
  sub:=fun b hb=>gA.mpr ⟨S.sub b hb,fun hm=>hW b hm hb⟩
  live:=fun a ha=>by refine ac (gA.mp ha) fun h1 V=>?_;exact by refine S.liveK a h1 fun o e=>?_;exact ⟨o,hk a o V e⟩
  old:=fun b hb=>S.old b (gA.mp hb).1
  ek:=S.ek
  eg:=S.eg
  eb:=S.eb
  loc:=S.loc
  ns:=by refine S.nsK fun m X hm=>?_;exact ⟨m,X.at' fun o e=>hk _ o (fun hm=>hW _ hm S.loc) e,fun p D F=>by refine ae (hm p D F) fun v N=>ac N fun e r=>?_;clear N;exact ⟨v,e,r.move stab⟩⟩
  cl:=fun p D F=>by refine S.clK p D F fun c v e hc r=>?_;exact aR c v ⟨e,by refine f4 hc fun o J hd=>?_;clear hc;exact ⟨o,hk c o (L _ c e) J,hd⟩,r.move stab⟩
  cellU:=fun x c e=>by refine S.cellUK x c e fun G v hc=>?_;exact ⟨gA.mpr ⟨G,L x c e⟩,v,by (first|(refine f4 hc fun o J hd=>?_)|(refine f4 hc fun o J hd=>?_;clear hc));exact ⟨o,hk c o (L _ c e) J,hd⟩⟩
  cellI:=S.cellI
  cellW:=S.cellW
  own:=fun p D=>by refine S.ownK p D fun G hl r=>?_;exact ⟨gA.mpr ⟨G,P p D⟩,hl,r.move stab fun o e=>hk _ o (P p D) e⟩
  ownN:=S.ownN
  wr:=S.wr }
noncomputable def MS.setL(C:MS):List (aq×X)->MS
 |[]=>C
 |(x,y)::r=>(C.set x y).setL r
inductive e8:Expr->X->List (aq×X)->Prop
 |name {x:aq} {p:aK} {y:X}:e8 (.Name x p) y [(x,y)]
 |tup {es:List Expr} {k:Nat} {p:aK} {xs:List aq} {ds:List D}:ai (fun (e:Expr) x=>∃ p,e = .Name x p) es xs->xs.length=ds.length->e8 (.Tuple es k p) (.d (.tup ds)) (xs.zip (ds.map .d))
theorem DS{Z:aS}:∀ {es:List Expr} {xs:List aq},ai (fun (e:Expr) x=>∃ p,e = .Name x p) es xs ->
 (ky es Z).length=xs.length/\(ky es Z).findIdx? (·.1)=ab /\ ∃ D:List aK,D.length=xs.length/\(ky es Z).map (·.2)=(xs.zip D).map fun q=>gL (.Name q.1 q.2) Z:=by
 intro es xs L
 induction L with
 |nil=>exact ⟨rfl,rfl,[],rfl,rfl⟩
 |cons e t ih =>
  refine ae e fun p e=>?_;subst e;refine aE ih fun h1 N F=>ae F fun D G=>ac G fun J h4=>?_;clear F G;refine ⟨?_,?_,p::D,?_,?_⟩
  . show (ky _ Z).length+1=_;refine rl h1 rfl
  . refine rl Do (rl N rfl)
  . exact congrArg _ J
  . show gL _ Z::(ky _ Z).map (·.2)=_;refine rl h4 rfl
theorem Dy{Z:aS}{es:List Expr}{xs:List aq}(N:ai (fun (e:Expr) x=>∃ p,e = .Name x p) es xs){G:Prop}(k:(ky es Z).length=xs.length->(ky es Z).findIdx? (·.1)=ab->∀ (D:List aK),D.length=xs.length->((ky es Z).map (·.2)=(xs.zip D).map fun q=>gL (.Name q.1 q.2) Z)->G):G:=aE (DS N) fun L z1 J=>ae J fun z2 F=>ac F fun Q P=>k L z1 z2 Q P
theorem Em{E:ar->aw->Prop}:∀ {xs:List aq} {G:List aK} {ds:List D} {vs:List ar} {C:MS} {s:aw} {Q:Unit->aw->Prop},G.length=xs.length->xs.length=ds.length->ay B w H Z wc U W C s->(∀ x∈xs,eX Z wc x) ->
 ai (aC B w U s.heap) ds vs->(∀ s',aO U W s U W s'->ay B w H Z wc U W (C.setL (xs.zip (ds.map .d))) s'->Q () s') ->
 ak (av B w) A (assignInOrder ((xs.zip G).map fun q=>gL (.Name q.1 q.2) Z) vs) Q E s:=by
 intro xs
 induction xs with
 |nil =>
  intro G ds vs C s Q _ h S _ r hq;cases r with
  |nil=>exact wg (hq s .refl S)
  |cons _ _=>exact absurd h.symm (i0 _)
 |cons x xs ih =>
  intro G ds vs C s Q h1 T S P r hq;rcases G with _|⟨p,G⟩
  . exact absurd h1.symm (i0 _)
  cases r with
  |nil=>exact absurd T (i0 _)
  | @cons d v ds vs a X =>
   refine o9 (mX (ft S (P x (.head _)) (y:=.d d) a fun s₁ F J=>?_));refine ih (pe h1) (pe T) J (fun y b=>P y (aN _ ‹_›)) (X.imp fun V V q=>q.move (F.stab S.sub)) fun s₂ L N=>hq s₂ (F.trans L S.live) N
theorem yw(hh:A.handled=ab){E:ar->aw->Prop}(S:ay B w H Z wc U W C s)(g:e8 tgt y bs)(P:∀ b∈bs,eX Z wc b.1)(r:aT B w U s.heap y v){Q:Unit->aw->Prop}
 (hq:∀ s',aO U W s U W s'->ay B w H Z wc U W (C.setL bs) s'->Q () s'):ak (av B w) A (gL tgt Z v) Q E s:=by
 cases g with
 | @name x p _=>exact mX (ft S (P (x,y) (.head _)) r fun s' L J=>hq s' L J)
 | @tup es k p xs ds ha hlen =>
  refine lk fun _ V=>gD r fun a vs n T _ m hr=>?_;subst T;refine Dy (Z:=Z) ha fun h1 c t l h4=>?_;have N:vs.toArray.size=xs.length:=by refine rl cx ?_;refine rl hlen ?_;refine rl hr.length ?_;rfl
  refine V ?_;refine Dp hh ⟨_,m,rfl,n,rfl⟩ (by refine rl h1 ?_;refine rl N ?_;rfl) c fun h' D=>?_;have G:bb s { s with heap:=h' }:=⟨h',s.toks,rfl,fun b o e=>D b o (cz (bH e)) e⟩;refine rl h4 (Em l hlen (S.keeps G) (fun x j=>?_) (hr.imp fun f f q=>q.move (cu G)) fun s' L J=>hq s' ((aO.of_keeps G).trans L S.live) J);refine j9 j fun i hi=>?_;have F:i < ds.length:=by refine rl (az hlen) ?_;exact (fL.mp hi).1
  have:(xs.zip (ds.map X.d))[i]? = aa (x,.d ds[i]):=by
   refine rp (o8 ..) ?_;exact ⟨hi,by simp [F]⟩
  exact P _ (fM this)
noncomputable abbrev jS(ifs:List Expr)(Z:aS)(r:Bool):Sem Bool :=
 forIn ifs r fun c r=>if r=true then do let ok ← isTrue c Z (b5 c Z);pure (sP ok) else pure (sP r)
def TS(B:bm)(w:bh)(H:aB)(A:bo)(Z:aS)(wc:List aq)(C:MS)(ifs:List Expr)(b:Bool):Prop :=
 ∀ U W s,ay B w H Z wc U W C s->mG B w A s (jS ifs Z true) b
theorem KB:TS B w H A Z wc C [] true:=fun U W s S=>au ⟨cb s,rfl⟩
theorem EJ{M:Model}{E:ar->aw->Prop}(hq:Q false s):∀ ifs:List Expr,ak M A (jS ifs Z false) Q E s:=by
 intro F;induction F with
 |nil =>
  exact au hq
 |cons c r D =>
  show ak M A (forIn (c::r) false _) Q E s;refine rl (m7 ..) (af (au (D)))
theorem zO{c:Expr}(h:TT B w H A Z wc C c a)(hr:a=true->TS B w H A Z wc C r b):TS B w H A Z wc C (c::r) (a && b):=fun U W s S=>by
 show ak _ A (forIn (c::r) true _) _ _ s;refine rl (m7 ..) (af (af ((h U W s S).mono fun s' k=>au ?_)));clear c h;rcases a with _|_
 . exact EJ ⟨k,rfl⟩ r
 . exact aF (hr rfl U W s' (S.keeps k)) (fun v s'' q=>⟨bp k q.1,by exact q.2⟩) fun D D e=>e
noncomputable abbrev jw(elt t₁ i₁:Expr)(f₁:List Expr)(Y:Scope)(pos:aK):Expr:=.ListComp elt [⟨t₁,i₁,f₁,0⟩] Y pos
noncomputable abbrev d9(elt t₁ i₁:Expr)(f₁:List Expr)(t₂ i₂:Expr)(f₂:List Expr)(Y:Scope)(pos:aK):Expr:=.ListComp elt [⟨t₁,i₁,f₁,0⟩,⟨t₂,i₂,f₂,0⟩] Y pos
theorem KC(elt t₁ i₁:Expr)(f₁:List Expr)(Y:Scope)(pos:aK)(it acc:ar)(Z:aS):
 nD (jw elt t₁ i₁ f₁ Y pos) 0 it acc Z=(hK i₁.pos >>= fun D=>dZ it >>= fun r=>match r with
  |none=>pure (.done .next)
  |some v=>jD t₁ it v >>= fun D=>gL t₁ Z v >>= fun D=>jS f₁ Z true >>= fun ok =>
   if ok=true then (do let x ← b5 elt Z;let _ ← call (.builtin "list.append") [acc,x];pure ()) >>= fun D=>gR (.compLoop (jw elt t₁ i₁ f₁ Y pos) 0 it acc Z)
   else gR (.compLoop (jw elt t₁ i₁ f₁ Y pos) 0 it acc Z)):=by rfl
theorem IY(elt t₁ i₁:Expr)(f₁:List Expr)(t₂ i₂:Expr)(f₂:List Expr)(Y:Scope)(pos:aK)(it acc:ar)(Z:aS):
 nD (d9 elt t₁ i₁ f₁ t₂ i₂ f₂ Y pos) 0 it acc Z=(hK i₁.pos >>= fun D=>dZ it >>= fun r=>match r with
  |none=>pure (.done .next)
  |some v=>jD t₁ it v >>= fun D=>gL t₁ Z v >>= fun D=>jS f₁ Z true >>= fun ok =>
   if ok=true then (do
    let x ← b5 i₂ Z
    hK i₂.pos
    let x ← gu i₂ Z x
    let _ ← runOwn (.compStart (d9 elt t₁ i₁ f₁ t₂ i₂ f₂ Y pos) 1 (← mi [x] (fW x)) acc Z) Z
    gR (.compLoop (d9 elt t₁ i₁ f₁ t₂ i₂ f₂ Y pos) 0 it acc Z))
   else gR (.compLoop (d9 elt t₁ i₁ f₁ t₂ i₂ f₂ Y pos) 0 it acc Z)):=by rfl
theorem IZ(elt t₁ i₁:Expr)(f₁:List Expr)(t₂ i₂:Expr)(f₂:List Expr)(Y:Scope)(pos:aK)(it acc:ar)(Z:aS):
 nD (d9 elt t₁ i₁ f₁ t₂ i₂ f₂ Y pos) 1 it acc Z=(hK i₂.pos >>= fun D=>dZ it >>= fun r=>match r with
  |none=>pure (.done .next)
  |some v=>jD t₂ it v >>= fun D=>gL t₂ Z v >>= fun D=>jS f₂ Z true >>= fun ok =>
   if ok=true then (do let x ← b5 elt Z;let _ ← call (.builtin "list.append") [acc,x];pure ()) >>= fun D=>gR (.compLoop (d9 elt t₁ i₁ f₁ t₂ i₂ f₂ Y pos) 1 it acc Z)
   else gR (.compLoop (d9 elt t₁ i₁ f₁ t₂ i₂ f₂ Y pos) 1 it acc Z)):=by rfl
section
variable {R:mj->aw->Prop}
def ou(B:bm)(w:bh)(A:bo)(tgt:Expr)(it:ar)(ifs:List Expr)(Z:aS)(G:(aw->Prop)->aw->Prop)(J next:aw->Prop)(s:aw):Prop :=
 ak (av B w) A (dZ it) (fun r s₁=>match r with
  |none=>J s₁
  |some v=>ak (av B w) A (jD tgt it v) (fun D s₂=>ak (av B w) A (gL tgt Z v) (fun D s₃=>ak (av B w) A (jS ifs Z true) (fun ok F =>
   if ok=true then G next F else next F) (fun D D=>False) s₃) (fun D D=>False) s₂) (fun D D=>False) s₁) (fun D D=>False) s
def rm(B:bm)(w:bh)(A:bo)(elt:Expr)(acc:ar)(Z:aS)(k:aw->Prop)(s:aw):Prop :=
 ak (av B w) A (b5 elt Z) (fun x s₁=>ak (av B w) A (call (.builtin "list.append") [acc,x]) (fun D s₂=>k s₂) (fun D D=>False) s₁) (fun D D=>False) s
def uR(B:bm)(w:bh)(A:bo)(c:Expr)(i₂:Expr)(acc:ar)(Z:aS)(k:aw->Prop)(s:aw):Prop :=
 ak (av B w) A (b5 i₂ Z) (fun x s₁=>ak (av B w) A (fW x) (fun it s₂=>er (av B w) A (.compStart c 1 it acc Z) (fun r s₃=>r = .ok .next/\k s₃) s₂) (fun D D=>False) s₁) (fun D D=>False) s
theorem Hs{Y:Scope}{it acc:ar}{Z:aS}(I:Nat->aw->Prop)
 (turn:∀ n s,I n s->ou B w A t₁ it f₁ Z (rm B w A elt acc Z) (fun s'=>R (.ok .next) s') (fun s'=>∃ m,m < n/\I m s') s) n (h:I n s) :
 er (av B w) A (.compLoop (jw elt t₁ i₁ f₁ Y pos) 0 it acc Z) R s:=by
 refine xN rfl I (fun n s V=>?_) n h
 show ak _ A ((nD (jw elt t₁ i₁ f₁ Y pos) 0 it acc Z).onRaise (fun x=>do noteFrame x Z;w2 x)) _ _ s
 refine tF ?_
 refine rl (KC ..) ?_
 refine af (iu (af (aF (turn n s V) (fun r s₁ G=>?_) fun D D h'=>h'.elim)))
 rcases r with _|v
 . exact au G
 . refine af (aF G (fun D s₂ P=>af (aF P (fun D s₃ N=>af (aF N (fun ok T F=>?_) fun D D h'=>h'.elim)) fun D D h'=>h'.elim)) fun D D h'=>h'.elim)
   rcases ok with _|_
   . exact au ⟨rfl,F⟩
   . exact af (af (aF F (fun x Q L=>af (aF L (fun D S J=>au (au ⟨rfl,J⟩)) fun D D h'=>h'.elim)) fun D D h'=>h'.elim))
theorem FV{Y:Scope}{it acc:ar}{Z:aS}(I:Nat->aw->Prop)
 (turn:∀ n s,I n s->ou B w A t₂ it f₂ Z (rm B w A elt acc Z) (fun s'=>R (.ok .next) s') (fun s'=>∃ m,m < n/\I m s') s) n (h:I n s) :
 er (av B w) A (.compLoop (d9 elt t₁ i₁ f₁ t₂ i₂ f₂ Y pos) 1 it acc Z) R s:=by
 refine xN rfl I (fun n s V=>?_) n h
 show ak _ A ((nD (d9 elt t₁ i₁ f₁ t₂ i₂ f₂ Y pos) 1 it acc Z).onRaise (fun x=>do noteFrame x Z;w2 x)) _ _ s
 refine tF ?_
 refine rl (IZ ..) ?_
 refine af (iu (af (aF (turn n s V) (fun r s₁ G=>?_) fun D D h'=>h'.elim)))
 rcases r with _|v
 . exact au G
 . refine af (aF G (fun D s₂ P=>af (aF P (fun D s₃ N=>af (aF N (fun ok T F=>?_) fun D D h'=>h'.elim)) fun D D h'=>h'.elim)) fun D D h'=>h'.elim)
   rcases ok with _|_
   . exact au ⟨rfl,F⟩
   . exact af (af (aF F (fun x Q L=>af (aF L (fun D S J=>au (au ⟨rfl,J⟩)) fun D D h'=>h'.elim)) fun D D h'=>h'.elim))
theorem FW{Y:Scope}{it acc:ar}{Z:aS}(hi:∀ x,gu i₂ Z x=pure x)(I:Nat->aw->Prop)
 (turn:∀ n s,I n s->ou B w A t₁ it f₁ Z (uR B w A (d9 elt t₁ i₁ f₁ t₂ i₂ f₂ Y pos) i₂ acc Z) (fun s'=>R (.ok .next) s') (fun s'=>∃ m,m < n/\I m s') s) n (h:I n s) :
 er (av B w) A (.compLoop (d9 elt t₁ i₁ f₁ t₂ i₂ f₂ Y pos) 0 it acc Z) R s:=by
 refine xN rfl I (fun n s c=>?_) n h
 show ak _ A ((nD (d9 elt t₁ i₁ f₁ t₂ i₂ f₂ Y pos) 0 it acc Z).onRaise (fun x=>do noteFrame x Z;w2 x)) _ _ s
 refine tF ?_
 refine rl (IY ..) ?_
 refine af (iu (af (aF (turn n s c) (fun r s₁ J=>?_) fun F F h'=>h'.elim)))
 rcases r with _|v
 . exact au J
 . refine af (aF J (fun F s₂ Q=>af (aF Q (fun F s₃ P=>af (aF P (fun ok X G=>?_) fun F F h'=>h'.elim)) fun F F h'=>h'.elim)) fun F F h'=>h'.elim)
   rcases ok with _|_
   . exact au ⟨rfl,G⟩
   . refine af (aF G (fun x T N=>af (iu (af (pW (hi x) (af (fm (aF N (fun b V L=>?_) fun F F h'=>h'.elim))))))) fun F F h'=>h'.elim);refine af (wpAny_runOwn (jF L fun r S D=>?_));refine ac D ?_;clear D;intro a D;subst a;exact au ⟨rfl,D⟩
theorem E6{Y:Scope}{it acc:ar}{Z:aS}
 (G:er (av B w) A (.compLoop (d9 elt t₁ i₁ f₁ t₂ i₂ f₂ Y pos) 1 it acc Z) R s)
 (h:ak (av B w) A (fW it) (fun D s'=>er (av B w) A (.compLoop (d9 elt t₁ i₁ f₁ t₂ i₂ f₂ Y pos) 1 D acc Z) R s') (notedBy (av B w) A Z fun x s'=>R (.error x) s') s) :
 er (av B w) A (.compStart (d9 elt t₁ i₁ f₁ t₂ i₂ f₂ Y pos) 1 it acc Z) R s:=by
 refine sQ ?_
 refine wpAny_notedAt ?_
 delta compStart
 refine af (m0 (wpAny_ite ?_))
 split
 . first
    |exact af (au (au (And.intro rfl G)))
    |exact au (And.intro rfl G)
 . first
    |exact af (jG (af (iu (af (aF h (fun D s' h'=>au (And.intro rfl h')) fun F F x=>x)))))
    |(refine af (jG ?_);show ak _ _ (hK i₂.pos >>= _) _ _ s;exact af (iu (af (aF h (fun D s' h'=>au (And.intro rfl h')) fun F F x=>x))))
end
theorem bj.trans{U U' U'':List am}{h h' h'':aB}(a:bj U h U' h')(b:bj U' h' U'' h''):bj U h U'' h'':=by
 refine ⟨fun u F=>?_,fun c o hc e=>b.keep c o (a.notin hc e) (a.keep c o hc e)⟩;by_cases hm:u∈U
 . exact .inl hm
 . refine .inr ?_;cases e:h.get? u with
   |none=>rfl
   |some o =>
    rcases b.new u F with D|D
    . exact absurd D (a.notin hm e)
    . rw [(a.keep u o hm e)] at D;exact sN D
section
variable (B w H Z wc)
structure LI (U W:List am) (s:aw) (U₀:List am) (h₀:aB) (fp wr:List am) (St:Nat->aB->Prop) (C:MS) (i:Nat) (U' W':List am) (s':aw):Prop where
 T:aO U W s U' W' s'
 sb:bj U₀ h₀ U' s'.heap
 S:ay B w H Z wc U' W' C s'
 h:St i s'.heap
 wu:∀ b∈wr,b∈U'
 ff:∀ b∈fp,b ∉ W' /\ ∃ o,s'.heap.get? b=aa o
 ow:∀ p∈C.own,p.1 ∉ wr
structure LS (A:bo) (tgt:Expr) (U W:List am) (s:aw) (U₀:List am) (h₀:aB) (I:am) (fp wr:List am) (xs:List X) (St:Nat->aB->Prop):Prop where
 wk:WK B w A tgt I fp wr U₀ h₀ xs St
 new:∀ b∈wr,s.heap.get? b=ab
 L:dM U s
 ce:∀ x c,Z.cells.lookup x=aa c->c ∉ wr
end
section
variable {U'' W'' U₀:List am} {h₀:aB} {s₂ s'':aw} {tgt:Expr} {I:am} {fp wr:List am} {xs:List X} {St:Nat->aB->Prop} {i:Nat}
theorem LS.wrs(l:LS B w Z A tgt U W s U₀ h₀ I fp wr xs St)(e:s.heap.get? b=aa o):b ∉ wr:=fun hm=>by rw [l.new b hm] at e;exact nS e
theorem LI.step(v:LI B w H Z wc U W s U₀ h₀ fp wr St C i U' W' s')(l:LS B w Z A tgt U W s U₀ h₀ I fp wr xs St)(T:aO U' W' s' U'' W'' s'')(S:ay B w H Z wc U'' W'' st' s'')
 (G:∀ p∈st'.own,(∃ q∈C.own,q.1=p.1)\/s'.heap.get? p.1=ab):LI B w H Z wc U W s U₀ h₀ fp wr St st' i U'' W'' s'' where
 T:=v.T.trans T l.L
 sb:=v.sb.trans (T.stab v.S.sub)
 S:=S
 h:=l.wk.frame _ _ _ v.h fun b hb o e=>T.keep b o (v.ff b hb).1 e
 wu:=fun b hb=>T.uu b (v.wu b hb) (v.ff b (l.wk.sub b hb)).1
 ff:=fun b hb=>by
  refine ac (v.ff b hb) fun h1 D=>ae D fun o e=>?_;clear D;exact ⟨fun hm=>(T.wn b hm).elim h1 fun e'=>(by rw [e] at e';exact sN e'),T.al b o e⟩
 ow:=fun p F hm=>by
  rcases G p F with ⟨q,hq,e⟩|e
  . exact v.ow q hq (e ▸ hm)
  . refine ae ((v.ff _ (l.wk.sub _ hm)).2) fun o e'=>?_;rw [e] at e';exact nS e'
theorem LI.keeps(v:LI B w H Z wc U W s U₀ h₀ fp wr St C i U' W' s')(l:LS B w Z A tgt U W s U₀ h₀ I fp wr xs St)(k:bb s' s''):LI B w H Z wc U W s U₀ h₀ fp wr St C i U' W' s'' :=
 v.step l (.of_keeps k) (v.S.keeps k) fun p D=>.inl ⟨p,D,rfl⟩
theorem LI.forget(v:LI B w H Z wc U W s U₀ h₀ fp wr St C i U' W' s')(l:LS B w Z A tgt U W s U₀ h₀ I fp wr xs St)(hv:∀ p∈st'.vars,p∈C.vars)(D:st'.own.Sublist C.own)(G:∀ a∈st'.wr,a∈C.wr):
 LI B w H Z wc U W s U₀ h₀ fp wr St st' i U' W' s' :=
 v.step l .refl (v.S.forget hv D G) fun p F=>.inl ⟨p,D.subset F,rfl⟩
theorem lW:∀ bs (C:MS),(C.setL bs).own=C.own:=by
 intro G;induction G with
 |nil =>
  intro _;exact rfl
 |cons F r D =>
  intro C;obtain ⟨x,y⟩:=F;exact D (C.set x y)
theorem zP:∀ bs (C:MS),(C.setL bs).wr=C.wr:=by
 intro G;induction G with
 |nil =>
  intro _;exact rfl
 |cons F r D =>
  intro C;obtain ⟨x,y⟩:=F;exact D (C.set x y)
theorem uf:∀ {bs:List (aq×X)} {C:MS},p∈C.vars->(∀ b∈bs,b.1≠p.1)->p∈(C.setL bs).vars
 |[],_,h,_=>h
 |(x,y)::r,C,h,hn=>by
  refine uf (bs:=r) (C:=C.set x y) ?_ (fun b hb=>hn b (aN _ ‹_›));show p∈upd C.vars x y;exact aN _ (b3.mpr ⟨h,by simpa using fun e=>hn (x,y) (.head _) e.symm⟩)
theorem LI.turn(hh:A.handled=ab)(v:LI B w H Z wc U W s U₀ h₀ fp wr St C i U' W' s')(l:LS B w Z A tgt U W s U₀ h₀ I fp wr xs St)(f:xs[i]? = aa x)(g:e8 tgt x bs)
 (c:∀ b∈bs,eX Z wc b.1) {Q:aw->Prop} (hq:∀ s'',LI B w H Z wc U W s U₀ h₀ fp wr St (C.setL bs) (i+1) U' W' s''->Q s'') :
 ak (av B w) A (dZ (.ref I)) (fun r s₁=>∃ v,r=aa v/\ak (av B w) A (jD tgt (.ref I) v) (fun D s₂=>ak (av B w) A (gL tgt Z v) (fun D s₃=>Q s₃) (fun D D=>False) s₂) (fun D D=>False) s₁) (fun D D=>False) s':=by
 refine l.wk.turn i x f U' s' _ _ v.h v.sb v.wu v.S.lives fun y h' tk r F hk=>?_
 have hl:=l.wk.live _ _ F
 have N:=v.S.touch (T:=wr) (h:=h') (tk:=tk) v.wu hk hl (fun hm=>(v.ff _ (l.wk.sub _ hm)).1 v.S.loc) l.ce v.ow
 have d:aO U W s U' W' { s' with heap:=h',toks:=tk }:={
  same:=by refine aM v.T.same fun h t e=>?_;exact aR h' tk (by refine rl e ?_;rfl)
  uu:=v.T.uu
  un:=v.T.un
  al:=fun a o e=>by
   refine ae (v.T.al a o e) fun P e'=>⟨P,hk a P (l.wrs e) e'⟩
  wn:=v.T.wn
  keep:=fun b o hb e=>hk b o (l.wrs e) (v.T.keep b o hb e) }
 have m:LI B w H Z wc U W s U₀ h₀ fp wr St C (i+1) U' W' { s' with heap:=h',toks:=tk } :=
  ⟨d,v.sb.trans ⟨fun D k=>.inl k,fun b o hb e=>hk b o (fun hm=>hb (v.wu b hm)) e⟩,N,F,v.wu,fun b hb=>by
  refine lk fun _ J=>ac (v.ff b hb) fun h1 G=>ae G fun o e=>?_;clear G;by_cases hm:b∈wr
  . refine J ⟨h1,hl b hm⟩
  . refine J ?_;exact ⟨h1,o,hk b o hm e⟩,v.ow⟩
 refine yw hh N g c r fun s3 V j=>hq s3 (m.step l V j fun p L=>.inl ⟨p,?_,rfl⟩);rw [lW] at L;exact L
theorem LI.finish(v:LI B w H Z wc U W s U₀ h₀ fp wr St C xs.length U' W' s')(l:LS B w Z A tgt U W s U₀ h₀ I fp wr xs St){Q:Option ar->aw->Prop}
 (hq:∀ s'',aO U W s (my wr U') W' s''->ay B w H Z wc (my wr U') W' C s''->Q ab s''):ak (av B w) A (dZ (.ref I)) Q (fun J J=>False) s':=by
 refine l.wk.done s' _ _ v.h fun h' tk hk=>hq _ ?_ (v.S.dropU v.wu hk (fun a ha=>(v.ff a (l.wk.sub a ha)).1) l.ce v.ow)
 exact {
  same:=by refine aM v.T.same fun h t e=>?_;exact aR h' tk (by refine rl e ?_;rfl)
  uu:=fun u D G=>by
   refine ae (l.L u D) fun o e=>gA.mpr ⟨v.T.uu u D G,l.wrs e⟩
  un:=fun u D=>v.T.un u (gA.mp D).1
  al:=fun a o e=>by
   refine ae (v.T.al a o e) fun F e'=>⟨F,hk a F (l.wrs e) e'⟩
  wn:=v.T.wn
  keep:=fun b o hb e=>hk b o (l.wrs e) (v.T.keep b o hb e) }
end
section
variable {U'' W'' U₀:List am} {h₀:aB} {s₂ s'':aw} {tgt:Expr} {I D:am} {fp wr:List am} {xs:List X} {St:Nat->aB->Prop} {i:Nat} {ys zs:List X}
theorem FX{a b:OB}(h:D ∉ C.own.map (·.1)):(C.addO D a).setO D b=C.addO D b:=by
 have e:(C.own.map fun p=>if p.1=D then (D,b) else p)=C.own:=by
  conv=>rhs;rw [←pX C.own]
  apply gt;intro p F;refine rl (if_neg fun e=>h (dj.mpr ⟨p,F,e⟩)) ?_;rfl
 simp [MS.setO,MS.addO,la,e]
theorem yx:∀ bs (C:MS),(C.addO D ob).setL bs=(C.setL bs).addO D ob:=by
 intro J;induction J with
 |nil =>
  intro _;exact rfl
 |cons G r F =>
  intro C;obtain ⟨x,y⟩:=G;exact F (C.set x y)
theorem pZ(S:ay B w H Z wc U W C s)(hm:(D,OB.list ys)∈C.own)(hW:D∈W)(r:aT B w U s.heap y v)(L:ys.length<=100000){Q:ar->aw->Prop}{E:ar->aw->Prop}
 (hq:∀ s',aO U W s U W s'->ay B w H Z wc U W (C.setO D (.list (ys ++ [y]))) s'->Q .none s'):ak (av B w) A (call (.builtin "list.append") [.ref D,v]) Q E s:=by
 refine lk fun _ N=>?_
 refine S.ownK _ hm fun T c G=>b0.liK G fun vs n V hr=>?_;clear G
 refine N ?_
 refine wpAny_list_append_plain (l:=D) (items:=vs.toArray) ⟨n,V⟩ (fun h' F P=>?_) (by refine rl cx ?_;refine rl (az hr.length) ?_;exact dm L)
 have hk:∀ b o,b≠D->s.heap.get? b=aa o->h'.get? b=aa o:=fun b o hb e=>P.extBut b o hb e
 refine ae F ?_;clear F;intro m F
 have stab:bj U s.heap U h':=⟨fun J a=>.inl a,fun b o hb e=>hk b o (fun q=>hb (q ▸ T)) e⟩
 refine hq _ (y7 hW hk ⟨_,F⟩) (S.own_upd hm hk ⟨vs ++ [v],m,?_,(hr.imp fun J J q=>q.move stab).append (.cons (r.move stab) .nil)⟩ ⟨_,F⟩)
 refine rl F ?_;simp [cL,dG]
theorem EK(S:ay B w H Z wc U W (C.addO D (.list ys)) s)(r:aT B w U s.heap y v)(G:ys.length<=100000){Q:ar->aw->Prop}{E:ar->aw->Prop}
 (hq:∀ s',aO U W s U W s'->ay B w H Z wc U W (C.addO D (.list (ys ++ [y]))) s'->Q .none s'):ak (av B w) A (call (.builtin "list.append") [.ref D,v]) Q E s:=by
 refine pZ S (aY) (S.wr D aY) r G fun s' T F=>hq s' T ?_
 rwa [FX (gZ.mp S.ownN).1] at F
def gM(C:MS)(Z:aS)(wc:List aq)(bs:List (aq×X)):Prop:=(∀ b∈bs,eX Z wc b.1) /\ ∀ b∈bs,∀ p∈C.vars,b.1≠p.1
theorem gM.eK{C:MS}{Z:aS}{wc:List aq}(D:gM C Z wc bs){G:Prop}(F:(∀ b∈bs,eX Z wc b.1)->(∀ b∈bs,∀ p∈C.vars,b.1≠p.1)->G):G:=ac D fun J z1=>F J z1
def eR(B:bm)(w:bh)(H:aB)(A:bo)(Z:aS)(wc:List aq)(C:MS)(tgt:Expr)(ifs:List Expr)(elt:Expr)(x:X)(zs:List X):Prop :=
 ∃ bs t,e8 tgt x bs/\gM C Z wc bs/\TS B w H A Z wc (C.setL bs) ifs t/\(t=true->∃ y,EV B w H A Z wc (C.setL bs) elt y/\zs = [y])/\(t=false->zs = [])
theorem eR.eK{B:bm}{w:bh}{H:aB}{A:bo}{Z:aS}{wc:List aq}{C:MS}(Q:eR B w H A Z wc C tgt ifs elt x zs){G:Prop}(F:∀ bs t,e8 tgt x bs->gM C Z wc bs->TS B w H A Z wc (C.setL bs) ifs t->((t=true->∃ y,EV B w H A Z wc (C.setL bs) elt y/\zs = [y]))->(t=false->zs = [])->G):G:=aM Q fun L z1 J=>cX J fun z2 D N S P=>F L z1 z2 D N S P
theorem eR.iK{B:bm}{w:bh}{H:aB}{A:bo}{Z:aS}{wc:List aq}{C:MS}:∀ bs t,e8 tgt x bs->gM C Z wc bs->TS B w H A Z wc (C.setL bs) ifs t->((t=true->∃ y,EV B w H A Z wc (C.setL bs) elt y/\zs = [y]))->(t=false->zs = [])->eR B w H A Z wc C tgt ifs elt x zs:=fun F z1 z2 D G L J=>⟨F,z1,z2,D,G,L,J⟩
theorem ay.dropO(S:ay B w H Z wc U W (C.addO D ob) s):ay B w H Z wc U W C s:=S.forget (fun F h=>h) (List.sublist_cons_self ..) fun a h=>aN _ h
theorem AJ{c next:aw->Prop}(hh:A.handled=ab)(l:LS B w Z A tgt U W s U₀ h₀ I fp wr xs St)(n:ai (eR B w H A Z wc C tgt ifs elt) xs zss)
 (hb:ys.length+zss.flatten.length<=100000) (hi:i<=xs.length) (v:LI B w H Z wc U W s U₀ h₀ fp wr St (C.addO D (.list (ys++(zss.take i).flatten))) i U' W' s')
 (hf:∀ U' W' s',aO U W s U' W' s'->ay B w H Z wc U' W' (C.addO D (.list (ys++zss.flatten))) s'->c s')
 (u:i < xs.length->∀ U' W' s',LI B w H Z wc U W s U₀ h₀ fp wr St (C.addO D (.list (ys++(zss.take (i+1)).flatten))) (i+1) U' W' s'->next s') :
 ou B w A tgt (.ref I) ifs Z (rm B w A elt (.ref D) Z) c next s':=by
 by_cases G:i < xs.length
 . refine n.getK (a:=xs[i]) (i:=i) (dt G) fun zs k N=>eR.eK N fun bs t g P ht h1 h2=>?_;clear N;refine gM.eK P fun fs fn=>?_;clear P
   have F:(zss.take (i+1)).flatten=(zss.take i).flatten++zs:=by refine rl DD ?_;refine rl k ?_;simp
   have hlen:(zss.take i).flatten.length<=zss.flatten.length:=by
    have:zss.flatten=(zss.take i).flatten++(zss.drop i).flatten:=by refine rl (az Dg) ?_;refine rl (ws ..) ?_;rfl
    refine rl this (rl gX (c0 _ _))
   refine aF (LI.turn hh v l (x:=xs[i]) (dt G) g fs (Q:=fun s₃=>ak (av B w) A (jS ifs Z true) (fun ok L =>
    if ok=true then rm B w A elt (.ref D) Z next L else next L) (fun d d=>False) s₃) fun s3 j=>?_) (fun r s₁ h=>?_) fun d d e=>e
   . rw [yx] at j;have J:∀ {ob:OB} {U' W' s'},LI B w H Z wc U W s U₀ h₀ fp wr St ((C.setL bs).addO D ob) (i+1) U' W' s'->LI B w H Z wc U W s U₀ h₀ fp wr St (C.addO D ob) (i+1) U' W' s':=fun v' =>
      v'.forget l (fun p V=>uf V fun b hb=>fn b hb p V) (by show ((D,_)::C.own).Sublist ((D,_)::(C.setL bs).own);refine rl (lW ..) ?_;exact DE _) (by show ∀ a∈D::C.wr,a∈D::(C.setL bs).wr;refine rl (zP ..) ?_;exact fun d h=>h)
     refine (ht _ _ s3 j.S.dropO).mono fun o k4=>?_;have m:=j.keeps l k4;rcases t with _|_
     . refine rl (if_neg (fun h=>nB h)) ?_
       have:=h2 rfl;subst this;exact u G _ _ o (by refine rl F ?_;refine rl (m6 ..) ?_;exact J m)
     . refine rl (if_pos rfl) ?_;refine ae (h1 rfl) fun y N=>ac N fun hy P=>?_;clear N;subst P;refine (hy _ _ o m.S.dropO).mono fun vy s5 z r5=>?_;have q:=m.keeps l z;refine EK q.S r5 (by refine rl gX ?_;exact L2 hb hlen) fun s6 T6 S6=>u G U' W' s6 ?_;refine rl F ?_;refine rl (az (lA ..)) ?_;exact J (q.step l T6 S6 fun p V=>by
        rcases aL.mp V with rfl|V
        . exact .inl ⟨_,aY,rfl⟩
        . exact .inl ⟨p,aN _ V,rfl⟩)
   . refine ae h fun v N=>?_;clear h;refine ac N fun P h=>?_;clear N;subst P;exact h
 . have f:i=xs.length:=oE ‹_› ‹_›
   subst f;refine v.finish l fun s'' T S=>hf _ _ s'' T ?_;rw [n.length,List.take_length] at S;exact S
theorem Ov{Y:Scope}{R:mj->aw->Prop}(hh:A.handled=ab)(l:LS B w Z A tgt U W s U₀ h₀ I fp wr xs St)(T:ai (eR B w H A Z wc C tgt ifs elt) xs zss)
 (hb:ys.length+zss.flatten.length<=100000) (v:LI B w H Z wc U W s U₀ h₀ fp wr St (C.addO D (.list ys)) 0 U' W' s')
 (a:∀ U' W' s',aO U W s U' W' s'->ay B w H Z wc U' W' (C.addO D (.list (ys++zss.flatten))) s'->R (.ok .next) s') :
 er (av B w) A (.compLoop (jw elt tgt i₁ ifs Y pos) 0 (.ref I) (.ref D) Z) R s':=by
 refine Hs (fun n s''=>∃ i U' W',i<=xs.length/\n=xs.length - i/\LI B w H Z wc U W s U₀ h₀ fp wr St (C.addO D (.list (ys++(zss.take i).flatten))) i U' W' s'') ?_ xs.length
  ⟨0,U',W',cG _,rfl,by simpa using v⟩
 intro n s'' L;refine lk fun _ V=>?_;clear v pos Y i₁;refine aP L fun i U'' W'' Q=>aE Q fun hi S P=>?_;clear L Q;subst S;refine V ?_;exact AJ hh l T hb hi P a fun N F G s₃ J=>⟨xs.length - (i+1),by exact oA ‹_›,i+1,F,G,N,rfl,J⟩
theorem KD{Y:Scope}{R:mj->aw->Prop}(hh:A.handled=ab)(l:LS B w Z A tgt U W s U₀ h₀ I fp wr xs St)(T:ai (eR B w H A Z wc C tgt ifs elt) xs zss)
 (hb:ys.length+zss.flatten.length<=100000) (v:LI B w H Z wc U W s U₀ h₀ fp wr St (C.addO D (.list ys)) 0 U' W' s')
 (a:∀ U' W' s',aO U W s U' W' s'->ay B w H Z wc U' W' (C.addO D (.list (ys++zss.flatten))) s'->R (.ok .next) s') :
 er (av B w) A (.compLoop (d9 elt t₁ i₁ f₁ tgt i₂ ifs Y pos) 1 (.ref I) (.ref D) Z) R s':=by
 refine FV (fun n s''=>∃ i U' W',i<=xs.length/\n=xs.length - i/\LI B w H Z wc U W s U₀ h₀ fp wr St (C.addO D (.list (ys++(zss.take i).flatten))) i U' W' s'') ?_ xs.length
  ⟨0,U',W',cG _,rfl,by simpa using v⟩
 intro n s'' L;refine lk fun _ V=>?_;clear v pos Y f₁ i₂ i₁ t₁;refine aP L fun i U'' W'' Q=>aE Q fun hi S P=>?_;clear L Q;subst S;refine V ?_;exact AJ hh l T hb hi P a fun N F G s₃ J=>⟨xs.length - (i+1),by exact oA ‹_›,i+1,F,G,N,rfl,J⟩
def df(B:bm)(w:bh)(H:aB)(A:bo)(Z:aS)(wc:List aq)(C:MS)(tgt e:Expr)(xs:List X)(ao:List am):Prop :=
 ∀ U W s,ay B w H Z wc U W C s->ak (av B w) A (b5 e Z) (fun v s₁=>ak (av B w) A (fW v) (fun it s₂=>bb s s₂ /\ ∃ I fp wr St,it = .ref I/\WK B w A tgt I fp wr (wr++U) s₂.heap xs St/\St 0 s₂.heap /\
  (∀ b∈wr,s.heap.get? b=ab)/\(∀ b∈fp,(∃ o,s₂.heap.get? b=aa o)/\(b∈wr\/b ∉ U\/b∈ao))) (fun D D=>False) s₁) (fun D D=>False) s
def jq(B:bm)(w:bh)(H:aB)(A:bo)(Z:aS)(wc:List aq)(C:MS)(tgt:Expr)(ifs:List Expr)(D i₂:Expr)(J:List Expr)(elt:Expr)(x:X)(zs:List X):Prop :=
 ∃ bs t,e8 tgt x bs/\gM C Z wc bs/\TS B w H A Z wc (C.setL bs) ifs t /\
  (t=true->∃ G F,df B w H A Z wc (C.setL bs) D i₂ G []/\ai (eR B w H A Z wc (C.setL bs) D J elt) G F/\zs=F.flatten)/\(t=false->zs = [])
theorem jq.eK{B:bm}{w:bh}{H:aB}{A:bo}{Z:aS}{wc:List aq}{C:MS}{D i₂:Expr}(a:jq B w H A Z wc C tgt ifs D i₂ J elt x zs){G:Prop}(P:∀ bs t,e8 tgt x bs->gM C Z wc bs->TS B w H A Z wc (C.setL bs) ifs t->((t=true->∃ L F,df B w H A Z wc (C.setL bs) D i₂ L []/\ai (eR B w H A Z wc (C.setL bs) D J elt) L F/\zs=F.flatten))->(t=false->zs = [])->G):G:=aM a fun S z1 Q=>cX Q fun z2 N T b V=>P S z1 z2 N T b V
theorem jq.iK{B:bm}{w:bh}{H:aB}{A:bo}{Z:aS}{wc:List aq}{C:MS}{D i₂:Expr}:∀ bs t,e8 tgt x bs->gM C Z wc bs->TS B w H A Z wc (C.setL bs) ifs t->((t=true->∃ J F,df B w H A Z wc (C.setL bs) D i₂ J []/\ai (eR B w H A Z wc (C.setL bs) D G elt) J F/\zs=F.flatten))->(t=false->zs = [])->jq B w H A Z wc C tgt ifs D i₂ G elt x zs:=fun N z1 z2 L P S Q=>⟨N,z1,z2,L,P,S,Q⟩
theorem Ow{Y:Scope}{fin next:aw->Prop}(hh:A.handled=ab)(l:LS B w Z A tgt U W s U₀ h₀ I fp wr xs St)
 (hz:ai (jq B w H A Z wc C tgt f₁ t₂ i₂ f₂ elt) xs zss)
 (hb:ys.length+zss.flatten.length<=100000) (hi:i<=xs.length) (v:LI B w H Z wc U W s U₀ h₀ fp wr St (C.addO D (.list (ys++(zss.take i).flatten))) i U' W' s')
 (hf:∀ U' W' s',aO U W s U' W' s'->ay B w H Z wc U' W' (C.addO D (.list (ys++zss.flatten))) s'->fin s')
 (hn:i < xs.length->∀ U' W' s',LI B w H Z wc U W s U₀ h₀ fp wr St (C.addO D (.list (ys++(zss.take (i+1)).flatten))) (i+1) U' W' s'->next s') :
 ou B w A tgt (.ref I) f₁ Z (uR B w A (d9 elt tgt i₁ f₁ t₂ i₂ f₂ Y pos) i₂ (.ref D) Z) fin next s':=by
 by_cases d:i < xs.length
 . refine hz.getK (a:=xs[i]) (i:=i) (dt d) fun zs hzs P=>jq.eK P fun bs t g f ht h1 h2=>?_;clear P;refine gM.eK f fun fs fn=>?_;clear f
   have G:(zss.take (i+1)).flatten=(zss.take i).flatten++zs:=by refine rl DD ?_;refine rl hzs ?_;simp
   have hlen:(zss.take i).flatten.length+zs.length<=zss.flatten.length:=by
    have:zss.flatten=(zss.take (i+1)).flatten++(zss.drop (i+1)).flatten:=by refine rl (az Dg) ?_;refine rl (ws ..) ?_;rfl
    refine rl this (rl G (rl gX (rl gX (c0 _ _))))
   refine aF (LI.turn hh v l (x:=xs[i]) (dt d) g fs (Q:=fun s₃=>ak (av B w) A (jS f₁ Z true) (fun ok n =>
    if ok=true then uR B w A (d9 elt tgt i₁ f₁ t₂ i₂ f₂ Y pos) i₂ (.ref D) Z next n else next n) (fun L L=>False) s₃) fun s3 v3=>?_) (fun r s₁ h=>?_) fun L L e=>e
   . rw [yx] at v3;have j:∀ {ob:OB} {U' W' s'},LI B w H Z wc U W s U₀ h₀ fp wr St ((C.setL bs).addO D ob) (i+1) U' W' s'->LI B w H Z wc U W s U₀ h₀ fp wr St (C.addO D ob) (i+1) U' W' s':=fun v' =>
      v'.forget l (fun p m=>uf m fun b hb=>fn b hb p m) (by show ((D,_)::C.own).Sublist ((D,_)::(C.setL bs).own);refine rl (lW ..) ?_;exact DE _) (by show ∀ a∈D::C.wr,a∈D::(C.setL bs).wr;refine rl (zP ..) ?_;exact fun L h=>h)
     refine (ht _ _ s3 v3.S.dropO).mono fun s4 k4=>?_;have N:=v3.keeps l k4;rcases t with _|_
     . refine rl (if_neg (fun h=>nB h)) ?_
       have:=h2 rfl;subst this;exact hn d _ _ s4 (by refine rl G ?_;refine rl (m6 ..) ?_;exact j N)
     . refine rl (if_pos rfl) (aM (h1 rfl) fun b11 V P=>aE P fun hit a10 f=>?_);clear P;subst f;refine aF (hit _ _ s4 N.S.dropO) (fun y s5 h5=>aF h5 (fun it s6 h6=>?_) fun L L e=>e) fun L L e=>e;refine ac h6 fun k6 P=>?_;clear h6;refine dK P fun g10 z wr₂ q q2=>cX q2 fun f F h0 J hff=>?_;clear P q2;subst f;have al6:∀ {b:am},(∃ o,s4.heap.get? b=aa o)->b ∉ wr₂:=fun hκ hm=>by refine ae hκ fun o e=>?_;clear hκ;exact by rw [J _ hm] at e;exact nS e
       have v6:LI B w H Z wc U' W' s4 (wr₂++U') s6.heap z wr₂ q ((C.setL bs).addO D (.list (ys++(zss.take i).flatten))) 0 (wr₂++U') W' s6:={
        T:={
         same:=by refine iO k6 fun h t e _=>?_;clear k6;exact aR h t e
         uu:=fun L h L=>fi _ h
         un:=fun u hu=>(bC.mp hu).elim (fun h=>.inr (J u h)) .inl
         al:=fun a o e=>⟨o,cj k6 a o e⟩
         wn:=fun L h=>.inl h
         keep:=fun b o L e=>cj k6 b o e }
        sb:=bj.ext fun L L e=>e
        S:=N.S.addU k6 J (F.live 0 _ h0)
        h:=h0
        wu:=fun b hb=>im _ hb
        ff:=fun b hb=>by
         refine ac (hff b hb) fun ho h=>⟨fun hm=>?_,ho⟩;have hU:=N.S.sub b hm;rcases h with h|h|h
         . exact al6 (N.S.live b hU) h
         . exact h hU
         . exact a7 h
        ow:=fun p m=>al6 (N.S.live _ (N.S.own p m).1) }
       have f10:∀ U'' W'' s7,aO U' W' s4 U'' W'' s7->ay B w H Z wc U'' W'' ((C.setL bs).addO D (.list ((ys++(zss.take i).flatten)++V.flatten))) s7->(Except.ok Flow.next:mj)=Except.ok Flow.next/\next s7:=fun U'' W'' s7 T7 S7=>by
        refine ⟨rfl,hn d U'' W'' s7 ?_⟩;refine rl G ?_;refine rl (az (lA ..)) ?_;exact j (N.step l T7 S7 fun p m=>by
         rcases aL.mp m with rfl|m
         . exact .inl ⟨_,aY,rfl⟩
         . exact .inl ⟨p,aN _ m,rfl⟩)
       have k:er (av B w) A (.compLoop (d9 elt tgt i₁ f₁ t₂ i₂ f₂ Y pos) 1 (.ref g10) (.ref D) Z) (fun r s₃=>r = .ok .next/\next s₃) s6 :=
        KD hh (⟨F,J,N.S.lives,fun x c e=>by refine ac (N.S.cellU x c e) fun hu _=>?_;exact al6 (N.S.live c hu)⟩) a10 (by refine rl gX ?_;exact L3 hb hlen) v6 f10
       exact E6 k (F.self 0 _ _ _ h0 k)
   . refine ae h fun v P=>?_;clear h;refine ac P fun f h=>?_;clear P;subst f;exact h
 . have hie:i=xs.length:=oE ‹_› ‹_›
   subst hie;refine v.finish l fun s'' T S=>hf _ _ s'' T ?_;rw [hz.length,List.take_length] at S;exact S
end
noncomputable def jx(Z:aS):List (aq×cF)->List (aq×am)->List (aq×am)
 |[],acc=>acc
 |(x,k)::r,acc=>jx Z r (if k == .free then (x,(Z.cells.lookup x).getD 0)::acc else acc)
theorem nH{Z:aS}{c:am}:∀ {l:List (aq×cF)} {acc:List (aq×am)},(y,c)∈jx Z l acc↔(y,c)∈acc\/((y,dE)∈l/\c=(Z.cells.lookup y).getD 0):=by
 intro J;induction J with
 |nil =>
  intro acc;simp [jx]
 |cons G r F =>
  intro acc;obtain ⟨x,k⟩:=G;refine rp (F ..) ?_;by_cases hk:k = .free
  . subst hk;simp only [beq_self_eq_true,if_true,aL,ti];constructor
    . rintro ((⟨rfl,rfl⟩|h)|⟨h1,D⟩)
      . exact .inr ⟨.inl ⟨rfl,trivial⟩,rfl⟩
      . exact .inl h
      . exact .inr ⟨.inr h1,D⟩
    . rintro (h|⟨⟨rfl,-⟩|h1,D⟩)
      . exact .inl (.inr h)
      . exact .inl (.inl ⟨rfl,D⟩)
      . exact .inr ⟨h1,D⟩
  . have hb:(k == dE)=false:=beq_false_of_ne hk
    simp only [hb,sw,if_false,aL,ti];constructor
    . rintro (h|⟨h1,D⟩)
      . exact .inl h
      . exact .inr ⟨.inr h1,D⟩
    . rintro (h|⟨⟨rfl,e⟩|h1,D⟩)
      . exact .inl h
      . exact absurd e.symm hk
      . exact .inr ⟨h1,D⟩
theorem EL{Z:aS}{Y:Scope}(h:∀ x,(x,dE)∈Y.names->∃ c,Z.cells.lookup x=aa c):closureFor Y Z=pure (jx Z Y.names []):=by
 have D:∀ (f:aq×cF->List (aq×am)->Sem (ForInStep (List (aq×am))))
  (G:∀ x k cs,f (x,k) cs=if k == .free then (do let a ← cellOf Z x;pure (.yield ((x,a)::cs))) else pure (.yield cs)) (l:List (aq×cF)) (acc:List (aq×am)),
  (∀ x,(x,dE)∈l->∃ c,Z.cells.lookup x=aa c)->forIn l acc f=pure (jx Z l acc):=by
  intro f G l
  induction l with
  |nil=>intro acc _;rfl
  |cons p r ih =>
   intro acc hl;obtain ⟨x,k⟩:=p;refine rl (m7 ..) (rl (G ..) ?_);by_cases hk:k = .free
   . subst hk;refine ae (hl x aY) fun c hc=>?_;first|refine rl (if_pos rfl) ?_|refine rl (if_pos (by decide)) ?_|refine rl (if_pos (by simp)) ?_
     unfold cellOf;refine rl hc ?_;simp only [pure_bind];refine rl (ih _ fun y F=>hl y (aN _ F)) ?_;conv=>rhs;unfold jx
     simp [hc]
   . have hb:(k == dE)=false:=by simpa using hk
     simp only [hb,sw,if_false,pure_bind];refine rl (ih _ fun y F=>hl y (aN _ F)) ?_;conv=>rhs;unfold jx
     simp [hb]
 unfold closureFor;dsimp only;refine rl (D _ (fun x k cs=>by cases k == dE<;>rfl) Y.names [] h) ?_;rfl
theorem nf:∀ l n acc,dx n l acc=dx n l []++acc:=by
 intro G;induction G with
 |nil =>
  intro n acc;exact rfl
 |cons F r D =>
  intro n acc;obtain ⟨x,k⟩:=F;unfold dx;split
  . refine rl (D (n+1) ((x,n)::acc)) (rl (D (n+1) [(x,n)]) (List.append_cons (dx (n+1) r []) (x,n) acc))
  . exact D n acc
theorem pF:∀ {l:List (aq×cF)} {n:Nat} {x:aq} {c:am},(x,c)∈dx n l []->(x,gw)∈l:=by
 intro G;induction G with
 |nil =>
  intro n x c h;exact (a7 h).elim
 |cons F r D =>
  intro n x c h;obtain ⟨y,k⟩:=F;unfold dx at h;split at h
  . rename_i hk;rw [nf] at h;rcases bC.mp h with h|h
    . exact aN _ (D h)
    . have e:=aV.mp h;clear h;clear h;obtain ⟨⟩:=e;have:k = .cell:=of_decide_eq_true hk
      refine rl this aY
  . exact aN _ (D h)
theorem td:∀ {l:List (aq×cF)} {n:Nat} {x:aq},(x,gw)∈l->∃ c,(x,c)∈dx n l []:=by
 intro J;induction J with
 |nil =>
  intro n x h;exact (a7 h).elim
 |cons G r D =>
  intro n x h;obtain ⟨y,k⟩:=G;unfold dx;split
  . refine rl (nf ..) (lk fun _ F=>?_);rcases aL.mp h with e|h
    . clear h;obtain ⟨⟩:=e;refine F ⟨n,fi _ (aV.mpr rfl)⟩
    . refine ae (D (n:=n+1) h) fun c hc=>F ?_;exact ⟨c,im _ hc⟩
  . rename_i hk;refine lk fun _ F=>?_;rcases aL.mp h with e|h
    . clear h;obtain ⟨⟩:=e;contradiction
    . refine F (D h)
theorem w6{n:Nat}(F:(x,gw)∈l){G:Prop}(k:∀ c,(x,c)∈dx n l []->G):G:=ae (td F) fun D z1=>k D z1
theorem ng{α:Type}:∀ {l:List (aq×α)} {x:aq} {c:α},(x,c)∈l->(∀ D,(x,D)∈l->D=c)->l.lookup x=aa c:=by
 intro L;induction L with
 |nil =>
  intro x c h _;exact (a7 h).elim
 |cons J r F =>
  intro x c h G;obtain ⟨y,d⟩:=J;refine rl lC ?_;by_cases e:x=y
  . subst e;simp only [beq_self_eq_true];refine rl (G d aY) rfl
  . refine rl (show (x == y)=false by exact beq_false_of_ne e) (F ?_ fun D h'=>G D (aN _ h'));rcases aL.mp h with h|h
    . obtain ⟨⟩:=h;exact absurd rfl e
    . exact h
theorem pS{l:List (aq×cF)}(F:(l.map (·.1)).Nodup){x:aq}{k k':cF}(h:(x,k)∈l)(h':(x,k')∈l):k=k':=by
 induction l with
 |nil=>exact (a7 h).elim
 |cons p r ih =>
  refine ac (gZ.mp F) fun h1 D=>?_;rcases aL.mp h with e|h<;>rcases aL.mp h' with e'|h'
  . rw [←e] at e';obtain ⟨⟩:=e';rfl
  . exact absurd (dj.mpr ⟨_,h',rfl⟩) (by rw [←e] at h1;exact h1)
  . exact absurd (dj.mpr ⟨_,h,rfl⟩) (by rw [←e'] at h1;exact h1)
  . exact ih D h h'
theorem tt{l:List (aq×cF)}(D:(l.map (·.1)).Nodup){x:aq}{k:cF}(h:(x,k)∈l):l.lookup x=aa k:=ng h fun k' h'=>pS D h' h
noncomputable def jU(Y:Scope)(Z:aS)(L:am):Env :=
 { scope:=kL Y Z,locals:=L,globals:=Z.globals,cells:=dx (L+1) Y.names []++jx Z Y.names [],qual:=Z.qual,func:=ab,code:=Z.code,frame:=Z.frame,builtins:=Z.builtins }
theorem D5{M:Model}{A:bo}{E:ar->aw->Prop}{s:aw}{Y:Scope}{Z:aS}{Q:aS->aw->Prop}
 (h:Q { jU Y Z s.heap.objs.size with scope:=Y } { s with heap:=pushCells (s.heap.push { cls:=.type "dict",data:=.dict #[] }) Y.names }) :
 ak M A (newFunctionEnv Y Z.globals (jx Z Y.names []) [] Z.qual ab .none (aa Z)) Q E s:=by
 dsimp only [newFunctionEnv,Option.isSome_some,if_true]
 refine af (wpAny_alloc ?_)
 refine af (wpAny_layCells _ (fun name kind cells=>by cases D:kind == gw<;>rfl) _ _ _ _ ?_)
 refine rl ta ?_
 refine af (au (au ?_))
 refine rl (nf ..) (rl (show ({ s with heap:=s.heap.push { cls:=.type "dict",data:=.dict #[] } }:aw).heap.objs.size=s.heap.objs.size+1 from em ..) ?_)
 exact h
variable {wcn:List aq}{stc:MS}{Y:Scope}
section
variable {s₂:aw}
structure jj (Z:aS) (C stc:MS) (Y:Scope) (wcn:List aq):Prop where
 kind:Y.kind = .function
 nodup:(Y.names.map (·.1)).Nodup
 cap:∀ x,(x,dE)∈Y.names->∃ y,(x,y)∈C.vars/\Z.kindOf x≠aa .local
 vars:∀ p∈stc.vars,p∈C.vars/\(p.1,dE)∈Y.names
 own:stc.own=C.own
 wr:stc.wr = []
 wcn:∀ x∈wcn,(x,gw)∈Y.names
noncomputable def AK:Obj:={ cls:=.type "dict",data:=.dict #[] }
noncomputable def gB(h:aB)(Y:Scope):Heap:=pushCells ((h.push (cL [] 0)).push AK) Y.names
noncomputable def iw(L:am)(Y:Scope):List Addr:=(dx (L+1) Y.names []).map (·.2)
theorem En{Z:aS}{Y:Scope}(h:(jU Y Z L).kindOf x=aa .local):Y.names.lookup x=aa .local:=by
 have:∀ l:List (aq×cF),(l.map fun (n,k)=>if (k == dE && Z.scope.kind == .function && Z.kindOf n == aa .cell) then (n,gw) else (n,k)).lookup x=aa .local->l.lookup x=aa .local:=by
  intro l;induction l with
  |nil=>intro h;exact nS h
  |cons p r ih =>
   obtain ⟨n,k⟩:=p;intro h;rw [b7] at h;change List.lookup x ((if (k == dE && Z.scope.kind == .function && Z.kindOf n == aa .cell)=true then (n,gw) else (n,k))::_)=_ at h
   refine rl lC ?_;by_cases hc:(k == dE && Z.scope.kind == .function && Z.kindOf n == aa .cell)=true
   . rw [if_pos hc,lC] at h;cases D:x == n with
     |true=>rw [D] at h;simp at h
     |false=>rw [D] at h;exact ih h
   . rw [if_neg hc,lC] at h;cases D:x == n with
     |true=>rw [D] at h;exact h
     |false=>rw [D] at h;exact ih h
 exact this _ h
theorem m9:∀ {l:List (aq×cF)} {n:Nat} {x:aq} {c D:am},(l.map (·.1)).Nodup->(x,c)∈dx n l []->(x,D)∈dx n l []->c=D
 |[],n,x,c,D,_,h,_=>by exact (a7 h).elim
 |(y,k)::r,n,x,c,D,hn,h,h'=>by
  refine ac (gZ.mp hn) fun h1 F=>?_;unfold dx at h h';split at h
  . rename_i hk;rw [if_pos hk,nf] at h';rw [nf] at h;rcases bC.mp h with h|h<;>rcases bC.mp h' with h'|h'
    . exact m9 F h h'
    . have e:=aV.mp h';obtain ⟨⟩:=e;exact absurd (dj.mpr ⟨_,pF h,rfl⟩) h1
    . have e:=aV.mp h;obtain ⟨⟩:=e;exact absurd (dj.mpr ⟨_,pF h',rfl⟩) h1
    . have e:=aV.mp h;have e':=aV.mp h';rw [←e'] at e;obtain ⟨⟩:=e;rfl
  . rename_i hk;rw [if_neg hk] at h';exact m9 F h h'
theorem ya{h:aB}{Y:Scope}:CellsOk (gB h Y) (h.objs.size+2) (dx (h.objs.size+2) Y.names []):=by have:=cellsFrom_ok Y.names ((h.push (cL [] 0)).push AK) (h.objs.size+2) [] ⟨fun D D hm=>(nomatch hm),wJ⟩ (by refine rl (em ..) ?_;refine rl (em ..) ?_;exact cH _);rw [em,em] at this;exact this
theorem Ht(S:ay B w H Z wc U W C s)(D:jj Z C stc Y wcn)(k:bb s s₂){wr:List am}(j:∀ b∈wr,s.heap.get? b=ab)(f:∀ b∈wr,∃ o,s₂.heap.get? b=aa o)
 : ay B w H (jU Y Z (s₂.heap.objs.size+1)) wcn ((s₂.heap.objs.size::(s₂.heap.objs.size+1)::iw (s₂.heap.objs.size+1) Y)++(wr++U)) (s₂.heap.objs.size::(s₂.heap.objs.size+1)::iw (s₂.heap.objs.size+1) Y)
  (stc.addO s₂.heap.objs.size (.list [])) { s₂ with heap:=gB s₂.heap Y,toks:=tk }:=by
 have k2:=cj k;have ok:=ya (h:=s₂.heap) (Y:=Y);have kc:∀ b o,s₂.heap.get? b=aa o->(gB s₂.heap Y).get? b=aa o:=fun b o e=>sR _ _ b o (bc _ (bc _ e));have ks:∀ b o,s.heap.get? b=aa o->(gB s₂.heap Y).get? b=aa o:=fun b o e=>kc b o (k2 b o e);have z:(gB s₂.heap Y).get? s₂.heap.objs.size=aa (cL [] 0):=sR _ _ _ _ (bc _ (b9 _ rfl));have d:(gB s₂.heap Y).Ns (s₂.heap.objs.size+1) (fun ο => ab):=by
  have:=Heap.Ns.new (s₂.heap.push (cL [] 0)) (.type "dict");rw [em] at this;exact this.keeps (sR _ _)
 have F:∀ b,s₂.heap.objs.size<=b->s.heap.get? b=none:=fun b hb=>by
  cases e:s.heap.get? b with
  |none=>rfl
  |some o=>exact absurd (bH (k2 b o e)) (ch.mpr hb)
 have V:∀ c∈iw (s₂.heap.objs.size+1) Y,s₂.heap.objs.size+2<=c/\(gB s₂.heap Y).IsCell c none:=fun c hc=>by
  refine bB hc fun p N J=>?_;subst J;refine ac (ok.empty p.1 p.2 N) fun h1 L=>⟨L,h1⟩
 have Q:∀ b∈(s₂.heap.objs.size::(s₂.heap.objs.size+1)::iw (s₂.heap.objs.size+1) Y),s.heap.get? b=none:=fun b hb=>by
  rcases aL.mp hb with rfl|hb
  . exact F _ (cH _)
  rcases aL.mp hb with rfl|hb
  . exact F _ (fo _)
  . exact F _ (aH (c0 _ 2) (V b hb).1)
 have T:∀ b∈(s₂.heap.objs.size::(s₂.heap.objs.size+1)::iw (s₂.heap.objs.size+1) Y)++(wr++U),b∈U\/s.heap.get? b=none:=fun b hb=>by
  rcases bC.mp hb with hb|hb
  . exact .inr (Q b hb)
  rcases bC.mp hb with hb|hb
  . exact .inr (j b hb)
  . exact .inl hb
 have stab:bj U s.heap ((s₂.heap.objs.size::(s₂.heap.objs.size+1)::iw (s₂.heap.objs.size+1) Y)++(wr++U)) (gB s₂.heap Y):=⟨T,fun b o ο e=>ks b o e⟩;have m:∀ b,b∈U->b∈(s₂.heap.objs.size::(s₂.heap.objs.size+1)::iw (s₂.heap.objs.size+1) Y)++(wr++U):=fun b hb=>fi _ (fi _ hb);have a:∀ b,b∈(s₂.heap.objs.size::(s₂.heap.objs.size+1)::iw (s₂.heap.objs.size+1) Y)->b∈(s₂.heap.objs.size::(s₂.heap.objs.size+1)::iw (s₂.heap.objs.size+1) Y)++(wr++U):=fun b hb=>im _ hb;have P:∀ x,(x,dE)∈Y.names->∃ c,Z.cells.lookup x=aa c:=fun x u=>by
  refine ae (D.cap x u) fun y J=>ac J fun hy hk=>?_;clear J;refine aM (S.cl (x,y) hy hk) fun c v J=>ac J fun e _=>?_;clear J;exact ⟨c,e⟩
 have lk:∀ x c,(jU Y Z (s₂.heap.objs.size+1)).cells.lookup x=aa c->((x,c)∈dx (s₂.heap.objs.size+2) Y.names []/\(x,gw)∈Y.names)\/((x,dE)∈Y.names/\Z.cells.lookup x=aa c):=fun x c e=>by
  rcases bC.mp (mem_of_lookup e) with h|h
  . exact .inl ⟨h,pF h⟩
  . rcases nH.mp h with h|⟨h1,L⟩
    . exact (a7 h).elim
    . refine ae (P x h1) fun c' i=>?_;rw [i] at L;exact .inr ⟨h1,by refine rl i ?_;refine rl L ?_;rfl⟩
 exact {
  base:=fun b o e=>ks b o (S.base b o e)
  sub:=a
  live:=fun b hb=>by
   rcases bC.mp hb with hb|hb
   . rcases aL.mp hb with rfl|hb
     . exact ⟨_,z⟩
     rcases aL.mp hb with rfl|hb
     . refine aP d fun o _ _ J=>ac J fun G _=>?_;clear d J;exact ⟨o,G⟩
     . refine ae ((V b hb).2) fun o J=>ac J fun G _=>?_;clear J;exact ⟨o,G⟩
   rcases bC.mp hb with hb|hb
   . refine ae (f b hb) fun o G=>⟨o,kc b o G⟩
   . refine S.liveK b hb fun o G=>⟨o,ks b o G⟩
  old:=fun b hb=>by
   rcases T b hb with h|h
   . exact S.old b h
   . cases e:H.get? b with
     |none=>rfl
     |some o=>rw [S.base b o e] at h;exact sN h
  ek:=D.kind
  eg:=S.eg
  eb:=S.eb
  loc:=aN _ aY
  ns:=⟨_,d,fun p N hk=>by
   refine ac (D.vars p N) fun _ L=>?_;have q:=En hk;rw [tt D.nodup L] at q;replace q:=sI q;injection q⟩
  cl:=fun p N ο => by
   refine ac (D.vars p N) fun h1 L=>ae (D.cap p.1 L) fun y J=>ac J fun hy t=>?_;clear J;refine S.clK p h1 t fun c v e hc r=>aR c v ⟨?_,hc.keeps ks,r.move stab⟩;refine ng (fi _ (nH.mpr (.inr ⟨L,by refine rl e ?_;rfl⟩))) fun c' h'=>?_;rcases bC.mp h' with h'|h'
   . exact absurd (pS D.nodup (pF h') L) (by decide)
   . rcases nH.mp h' with h'|⟨_,h'⟩
     . exact (a7 h').elim
     . refine rl h' (rl e rfl)
  cellU:=fun x c e=>by
   rcases lk x c e with ⟨h1,_⟩|⟨_,L⟩
   . exact ⟨a c (aN _ (aN _ (dj.mpr ⟨_,h1,rfl⟩))),ab,(ok.empty x c h1).1⟩
   . refine S.cellUK x c L fun X v hc=>⟨m c X,v,hc.keeps ks⟩
  cellI:=fun x y c e e'=>by
   rcases lk x c e with ⟨h1,_⟩|⟨_,L⟩<;>rcases lk y c e' with ⟨g,_⟩|⟨_,l⟩
   . exact name_of_addr ok.apart h1 g
   . refine ac (S.cellU y c l) fun X _=>S.liveK c X fun o G=>?_;rw [F c (aH (c0 _ 2) (ok.empty x c h1).2)] at G;exact nS G
   . refine ac (S.cellU x c L) fun X _=>S.liveK c X fun o G=>?_;rw [F c (aH (c0 _ 2) (ok.empty y c g).2)] at G;exact nS G
   . exact S.cellI x y c L l
  cellW:=fun x u=>by
   have hm:=D.wcn x u;refine w6 (n:=s₂.heap.objs.size+2) hm fun c hc=>⟨c,ng (im _ hc) fun c' h'=>?_,aN _ (aN _ (dj.mpr ⟨_,hc,rfl⟩))⟩;rcases bC.mp h' with h'|h'
   . exact m9 D.nodup h' hc
   . rcases nH.mp h' with h'|⟨h',_⟩
     . exact (a7 h').elim
     . exact absurd (pS D.nodup hm h') (by decide)
  own:=fun p N=>by
   rcases aL.mp N with rfl|N
   . exact ⟨a _ aY,(by show @Ne Nat _ _;exact cz (i3 _)),[],0,z,.nil⟩
   . rw [D.own] at N;refine S.ownK p N fun X _ r=>⟨m _ X,fun e=>?_,r.move stab fun o e=>ks _ o e⟩;refine S.liveK _ X fun o G=>?_;rw [e,show (jU Y Z (s₂.heap.objs.size+1)).locals=s₂.heap.objs.size+1 from rfl,Q _ (aN _ aY)] at G;exact nS G
  ownN:=by
   refine gZ.mpr ⟨fun hm=>?_,by refine rl D.own ?_;exact S.ownN⟩;rw [D.own] at hm;refine bB hm fun p N e=>S.liveK _ (S.own p N).1 fun o G=>?_;rw [e,Q _ aY] at G;exact nS G
  wr:=fun b hb=>by
   rcases aL.mp hb with rfl|hb
   . exact aY
   . rw [D.wr] at hb;exact (a7 hb).elim }
end
section
variable {s₂:aw}
structure Qo (B:bm) (w:bh) (U:List am) (s s':aw) (D C:am) (zs:List X):Prop where
 k:bb s s'
 dn:s.heap.get? D=ab
 cn:s.heap.get? C=ab
 ne:D≠C
 ns:∃ m,s'.heap.Ns C m
 li:∃ vs n,s'.heap.get? D=aa (cL vs n)/\ai (aT B w (D::C::U) s'.heap) zs vs
def e5(B:bm)(w:bh)(H:aB)(A:bo)(Z:aS)(wcn:List aq)(stc:MS)(e tgt:Expr)(Y:Scope)(xs zs:List X):Prop :=
 ∀ (F:aS),F.scope=kL Y Z->∀ (L N:List am) (sb:aw) (G:List am) (h₀:aB) (I:am) (fp wr:List am) (St:Nat->aB->Prop) (D:am) (U' J:List am) (s':aw) (R:mj->aw->Prop),
  LS B w F A tgt L N sb G h₀ I fp wr xs St->LI B w H F wcn L N sb G h₀ fp wr St (stc.addO D (.list [])) 0 U' J s' ->
  (∀ U' J s',aO L N sb U' J s'->ay B w H F wcn U' J (stc.addO D (.list zs)) s'->R (.ok .next) s')->er (av B w) A (.compLoop e 0 (.ref I) (.ref D) F) R s'
theorem e5.one(hh:A.handled=ab)(hb:zss.flatten.length<=100000)
 (L:∀ F:aS,F.scope=kL Y Z->ai (eR B w H A F wcn stc tgt ifs elt) xs zss):e5 B w H A Z wcn stc (jw elt tgt i₁ ifs Y pos) tgt Y xs zss.flatten :=
 fun F hc P Q sb J h₀ I fp wr St D U' G s' R l v N=>Ov (ys:=[]) hh l (L F hc) (by simpa using hb) v fun U' G s' T S=>N U' G s' T S
theorem e5.two(hh:A.handled=ab)(hb:zss.flatten.length<=100000)(hi:∀ (Z:aS) x,gu i₂ Z x=pure x)
 (f:∀ F:aS,F.scope=kL Y Z->ai (jq B w H A F wcn stc tgt f₁ t₂ i₂ f₂ elt) xs zss):e5 B w H A Z wcn stc (d9 elt tgt i₁ f₁ t₂ i₂ f₂ Y pos) tgt Y xs zss.flatten:=by
 intro F hc g k sb Q h₀ I fp wr St D U' G s' R l v m
 refine FW (hi F) (fun n s''=>∃ i U' G,i<=xs.length/\n=xs.length - i/\LI B w H F wcn g k sb Q h₀ fp wr St (stc.addO D (.list ([]++(zss.take i).flatten))) i U' G s'') ?_ xs.length
  ⟨0,U',G,cG _,rfl,by simpa using v⟩
 intro n s'' P;refine lk fun _ e=>?_;clear v;refine aP P fun i j o c=>aE c fun b d a=>?_;clear P c;subst d;refine e ?_;exact Ow (ys:=[]) hh l (f F hc) (by simpa using hb) b a (fun U' G s' T S=>m U' G s' T S) fun V J L s₃ N=>⟨xs.length - (i+1),by exact oA ‹_›,i+1,J,L,V,rfl,N⟩
theorem qk{i:List kr}{E:ar->aw->Prop}
 (hi:∀ x,gu i₁ Z x=pure x) (S:ay B w H Z wc U W C s) (F:jj Z C stc Y wcn) (b10:df B w H A Z wc C tgt i₁ xs ao)
 (hl:e5 B w H A Z wcn stc (.ListComp elt (⟨tgt,i₁,ifs,0⟩::i) Y pos) tgt Y xs zs)
 (r:∀ s' D L,Qo B w U s s' D L zs->compPost (av B w) A E use Q (.ref D) L (.ok .next) s') :
 ak (av B w) A (xn (.ListComp elt (⟨tgt,i₁,ifs,0⟩::i) Y pos) Y Z pos' (nQ []) false (b5 i₁ Z) use) Q E s:=by
 have G:∀ x,(x,dE)∈Y.names->∃ c,Z.cells.lookup x=aa c:=fun x hx=>by
  refine ae (F.cap x hx) fun y f=>ac f fun hy hk=>?_;clear f;refine aM (S.cl (x,y) hy hk) fun c v f=>ac f fun e _=>?_;clear f;exact ⟨c,e⟩
 refine wpAny_comprehension_free rfl hi (EL G) F.kind (fun x hx hxl=>tt F.nodup (by refine rl (az hxl) ?_;exact hx)) (aF (b10 U W s S) (fun x s₁ g10=>aF g10 (fun it s₂ a10=>?_) fun l l e=>e.elim) fun l l e=>e.elim);clear b10 hi pos';refine ac a10 fun k q1=>?_;clear a10;refine dK q1 fun I fp wr St q2=>cX q2 fun f wk h0 P hff=>?_;clear q1 q2;subst f;have k2:=cj k;have N:=wk.live 0 _ h0;have alw:∀ {b:am} {o:fK},s.heap.get? b=aa o->b ∉ wr:=fun e hm=>by rw [P _ hm] at e;exact nS e
 refine f8 (D5 ?_);refine rl (show (s₂.heap.push { cls:=jH "list",data:=.seq ([]:List ar).toArray }).objs.size=s₂.heap.objs.size+1 from em ..) ?_;have S4:=Ht (tk:=s₂.toks) S F k P N;have kc:∀ b o,s₂.heap.get? b=aa o->(gB s₂.heap Y).get? b=aa o:=fun b o e=>sR _ _ b o (bc _ (bc _ e));have ks:∀ b o,s.heap.get? b=aa o->(gB s₂.heap Y).get? b=aa o:=fun b o e=>kc b o (k2 b o e);generalize j:(s₂.heap.objs.size::(s₂.heap.objs.size+1)::iw (s₂.heap.objs.size+1) Y)=Wc at S4;have V:∀ b∈Wc,s₂.heap.get? b=none:=fun b hb=>by
  have ge:s₂.heap.objs.size<=b:=by
   rw [←j] at hb;clear hff P h0 wk k;clear ks kc S4 alw N;clear k2 G r hl F;rcases aL.mp hb with rfl|hb
   . exact cH _
   clear St wr fp I;rcases aL.mp hb with rfl|hb
   . exact fo _
   . refine bB hb fun p hp f=>?_;subst f;exact aH (c0 _ 2) ((ya (h:=s₂.heap) (Y:=Y)).empty p.1 p.2 hp).2
  cases e:s₂.heap.get? b with
  |none=>rfl
  |some o=>exact absurd (bH e) (ch.mpr ge)
 have g:∀ b∈Wc,s.heap.get? b=none:=fun b hb=>by
  cases e:s.heap.get? b with
  |none=>rfl
  |some o=>have:=k2 b o e;rw [V b hb] at this;exact nS this
 have hDW:s₂.heap.objs.size∈Wc:=by refine rl (az j) ?_;exact aY
 have hLW:s₂.heap.objs.size+1∈Wc:=by refine rl (az j) ?_;exact aN _ aY
 have cells:∀ x c,(jU Y Z (s₂.heap.objs.size+1)).cells.lookup x=aa c->c ∉ wr:=fun x c e hm=>by
  rcases bC.mp (mem_of_lookup e) with h|h
  . refine ae (N c hm) fun o d=>?_;rw [V c (by refine rl (az j) ?_;exact aN _ (aN _ (dj.mpr ⟨_,h,rfl⟩)))] at d;exact nS d
  . rcases nH.mp h with h|⟨h1,h2⟩
    . clear e;exact a7 h
    . refine ae (G x h1) fun c' hc'=>ac (S.cellU x c' hc') fun J _=>S.liveK c' J fun o d=>?_;rw [h2,hc'] at hm;exact alw d hm
 have v:LI B w H (jU Y Z (s₂.heap.objs.size+1)) wcn U [] s (wr++U) s₂.heap fp wr St (stc.addO s₂.heap.objs.size (.list [])) 0 (Wc++(wr++U)) Wc { s₂ with heap:=gB s₂.heap Y,toks:=s₂.toks }:={
  T:={
   same:=by refine iO k fun h t e _=>?_;clear k;exact aR _ s₂.toks (by refine rl e ?_;rfl)
   uu:=fun u J l=>fi _ (fi _ J)
   un:=fun u J=>by
    rcases bC.mp J with J|J
    . exact .inr (g u J)
    rcases bC.mp J with J|J
    . exact .inr (P u J)
    . exact .inl J
   al:=fun a o e=>⟨o,ks a o e⟩
   wn:=fun a ha=>.inr (g a ha)
   keep:=fun b o l e=>ks b o e }
  sb:=⟨fun u J=>(bC.mp J).elim (fun h=>.inr (V u h)) .inl,fun b o l e=>kc b o e⟩
  S:=S4
  h:=wk.frame 0 _ _ h0 fun b l o e=>kc b o e
  wu:=fun b hb=>fi _ (im _ hb)
  ff:=fun b hb=>by
   refine ac (hff b hb) fun f _=>ae f fun o d=>?_;clear f;exact ⟨fun hm=>(by rw [V b hm] at d;exact nS d),o,kc b o d⟩
  ow:=fun p hp hm=>by
   rcases aL.mp hp with rfl|hp
   . refine ae (N _ hm) fun o d=>?_;rw [V _ hDW] at d;exact nS d
   . rw [F.own] at hp;refine S.liveK _ (S.own p hp).1 fun o d=>?_;exact alw d hm }
 have z:er (av B w) A (.compLoop (.ListComp elt (⟨tgt,i₁,ifs,0⟩::i) Y pos) 0 (.ref I) (.ref s₂.heap.objs.size) (jU Y Z (s₂.heap.objs.size+1)))
  (compPost (av B w) A E use Q (.ref s₂.heap.objs.size) (s₂.heap.objs.size+1)) { s₂ with heap:=gB s₂.heap Y,toks:=s₂.toks } :=
  hl _ rfl U [] s _ _ I fp wr St _ _ _ _ _ (⟨wk,P,S.lives,cells⟩) v fun U' W' s' T S'=>r s' _ _ {
   k:=by
    refine aM T.same fun h t e=>aR h t ⟨e,fun b o hb=>by have:=T.keep b o (fun h=>a7 h) hb;rw [e] at this;exact this⟩
   dn:=g _ hDW
   cn:=g _ hLW
   ne:=(by show @Ne Nat _ _;exact cz (i3 _))
   ns:=by refine S'.nsK fun m hm _=>?_;exact ⟨m,hm⟩
   li:=by
    refine S'.ownK _ aY fun hD _ f=>b0.liK f fun vs n d hr=>?_;clear f;refine aR vs n ⟨d,hr.imp fun l l q=>q.move (bj.less fun u J=>?_)⟩;clear hr d;clear hff;rcases aL.mp J with rfl|J
    . exact hD
    clear n vs hD;rcases aL.mp J with rfl|J
    . exact S'.sub _ S'.loc
    . exact T.uu u J (fun h=>a7 h) }
 exact codeAny_compStart_list z (wk.self 0 _ _ _ v.h z)
theorem yb{D C:am}{s':aw}{h':aB}(G:g5 C s'.heap h'):bj (D::C::U) s'.heap U h' :=
 ⟨fun u F=>.inl (aN _ (aN _ F)),fun b o hb e=>G.extBut b o (fun q=>hb (by simp [q])) e⟩
theorem zQ
 (hi:∀ x,gu i₁ Z x=pure x) (F:jj Z C stc Y wcn) (N:df B w H A Z wc C tgt i₁ xs ao)
 (hl:e5 B w H A Z wcn stc (.ListComp elt (⟨tgt,i₁,ifs,0⟩::G) Y pos) tgt Y xs (zs.map .d)) :
 EV B w H A Z wc C (.ListComp elt (⟨tgt,i₁,ifs,0⟩::G) Y pos) (.d (.list zs)):=fun U W s S=>by
 refine rl (eval_ListComp ..) ?_
 refine qk hi S F N hl fun s' D L e=>?_
 refine ae e.ns fun m c=>?_
 refine ⟨m,c,fun h' T=>?_⟩
 have k':bb s { s' with heap:=h' }:=by
  refine lk fun _ Q=>aM e.k fun h t J=>ac J fun V hk=>?_;clear J;refine Q ?_;refine aR h' t ⟨by rw [V],fun b o hb=>T.extBut b o (fun q=>?_) (by refine rl V ?_;exact hk b o hb)⟩;rw [q,e.cn] at hb;exact nS hb
 refine lk fun _ Q=>aM e.li fun vs n J=>ac J fun P hr=>?_;clear J;refine Q (⟨k',jQ.mpr ⟨D,vs,n,rfl,fun hm=>?_,T.extBut _ _ e.ne P,jI (hr.imp fun a a q=>q.move (yb T))⟩⟩);refine S.liveK _ hm fun o P=>?_;rw [e.dn] at P;exact nS P
end
inductive Pr where
 |len|tuple|list|sorted|sortedset|sum|dict
inductive Tg where
 |one (i:Nat)
 |tup (l:List Nat)
inductive Ex where
 |var (i:Nat)
 |none
 |bool (b:Bool)
 |int (i:Int)
 |str (l:List Nat)
 |tup (es:List Ex)
 |list (es:List Ex)
 |dict (ks vs:List Ex)
 |bin (o:nC) (a b:Ex)
 |neg (a:Ex)
 |cmp (o:gQ) (a b:Ex)
 |chain (o p:gQ) (a b c:Ex)
 |and (es:List Ex)
 |or (es:List Ex)
 |not (a:Ex)
 |ite (c a b:Ex)
 |sub (a i:Ex)
 |cut (a:Ex) (lo hi:Option Ex)
 |comp1 (cap:List Nat) (elt:Ex) (t:Tg) (it:Ex) (ifs:List Ex)
 |comp2 (cap:List Nat) (elt:Ex) (t:Tg) (it:Ex) (ifs:List Ex) (t₂:Tg) (it₂:Ex) (ifs₂:List Ex)
 |call (f:Nat) (es:List Ex)
 |prim (p:Pr) (a:Ex)
 |range1 (b:Ex)
 |range2 (a b:Ex)
 |zip (a b:Ex)
 |get (d k x:Ex)
noncomputable def a8{α D:Type}(f:α->Option D):List α->Option (List D)
 |[]=>aa []
 |a::r=>match f a with
  |Option.none=>bd
  |some b=>match a8 f r with
   |Option.none=>bd
   |some bs=>aa (b::bs)
structure Cx where
 names:List (aq×cF)
 sl:List (aq×Nat)
 off:Nat
 wc:List aq
noncomputable def bn(e:Expr):Bool:=e.ctorIdx == 22
noncomputable def mc(e:Expr):Bool:=e.ctorIdx == 26
noncomputable def dH(e:Expr):Bool:=e.ctorIdx == 7
noncomputable def nR(e:Expr):Bool:=e.ctorIdx == 23
noncomputable def jV(e:Expr):Bool:=e.ctorIdx == 25
noncomputable def tU:Expr->Bool
 | .UnaryOp .Not _ _=>false
 | .BoolOp .. => false
 | .IfExp .. => false
 | .Compare .. => false
 |_=>true
noncomputable def nU(D:List (aq×cF))(l:List (aq×cF)):List (aq×cF) :=
 l.map fun (n,k)=>if (k == .free && D.lookup n == aa .cell) then (n,.cell) else (n,k)
noncomputable def gI:List aq->Bool
 |[]=>true
 |a::r => !r.contains a && gI r
noncomputable def gf:List (aq×cF)->Nat->List (aq×Nat)
 |[],_=>[]
 |(x,k)::r,n=>if k == .local || k == .cell then (x,n)::gf r (n+1) else gf r n
noncomputable def jN(sl:List (aq×Nat)):List (aq×cF)->List (aq×Nat)
 |[]=>[]
 |(x,k)::r=>if k == .free then (match sl.lookup x with|some i=>(x,i)::jN sl r|Option.none=>jN sl r) else jN sl r
noncomputable def jJ(l:List (aq×cF)):List Str:=(l.filter fun p=>p.2 == .cell).map (·.1)
noncomputable def aQ(M:Cx)(Y:Scope):Cx :=
 { names:=nU M.names Y.names,sl:=gf Y.names M.off++jN M.sl Y.names,off:=M.off+(gf Y.names M.off).length,wc:=jJ Y.names }
noncomputable def eh(M:Cx)(Y:Scope):Bool :=
 Y.kind == .function && gI (Y.names.map (·.1)) && Y.names.all fun (x,k)=>k == .local || k == .cell || k == .globalImplicit || (k == .free && (M.sl.lookup x).isSome && (M.names.lookup x == aa .cell || M.names.lookup x == aa .free))
noncomputable def bad(x:aq):Bool:=x == ("__debug__" : aq) || x == ("__classdict__" : aq)
noncomputable def BQ(M:Cx)(x:aq):Bool := !bad x && (M.names.lookup x == aa .local || (M.names.lookup x == aa .cell && M.wc.contains x))
noncomputable def a5(M:Cx)(x:aq):Option Nat:=if BQ M x then M.sl.lookup x else bd
noncomputable def gg(M:Cx):Expr->Option Nat
 | .Name x _=>a5 M x
 |_=>bd
noncomputable def dg(M:Cx):Expr->Option Tg
 | .Name x _=>(a5 M x).map .one
 | .Tuple es _ _=>(a8 (gg M) es).map .tup
 |_=>bd
noncomputable def iR:Tg->List Nat
 | .one i=>[i]
 | .tup l=>l
noncomputable def mz(a b:Tg):Bool:=(iR a).all fun i => !(iR b).contains i
noncomputable def d0(sl:List (aq×Nat))(l:List (aq×cF)):List Nat:=(jN sl l).map (·.2)
inductive Gl where
 |fn (i:Nat)|len|tuple|list|sorted|set|sum|dict|range|zip
noncomputable def Qp:nC->Bool
 | .Add | .Sub | .Mult | .Mod | .FloorDiv=>true
 |_=>false
noncomputable def AL(e:Ex):Bool:=e.ctorIdx != 22
inductive Vw where
 |name (x:aq) (p:aK)
 |call (c:Expr) (args:List Expr) (kws:List Keyword) (p:aK)
 |attr (d:Expr) (g:aq) (p:aK)
 |tup (es:List Expr) (k:Nat) (p:aK)
 |sub (a i:Expr) (p:aK)
 |slice (lo hi C:Option Expr) (p:aK)
 |other
noncomputable def vw:Expr->Vw
 | .Name x p=>.name x p
 | .Call c args D p=>.call c args D p
 | .Attribute d g p=>.attr d g p
 | .Tuple es k p=>.tup es k p
 | .Subscript a i p=>.sub a i p
 | .Slice lo hi C p=>.slice lo hi C p
 |_=>.other
noncomputable def uK(gl:List (aq×Gl))(M:Cx)(r:aq)(args:List Expr):Option Gl :=
 if bad r || args.any bn || M.names.lookup r != aa .globalImplicit then bd else gl.lookup r
noncomputable def Ox(gl:List (aq×Gl))(M:Cx)(b:Expr):Vw->Option (Gl×Expr)
 | .name r _=>(uK gl M r [b]).map fun G=>(G,b)
 |_=>bd
noncomputable def zR(gl:List (aq×Gl))(M:Cx):Vw->Option (Gl×Expr)
 | .call g args D _=>match args with
  |[]=>bd
  |b::r=>if r.isEmpty && D.isEmpty then Ox gl M b (vw g) else bd
 |_=>bd
noncomputable def gJ(gl:List (aq×Gl))(M:Cx)(e:Expr):Option (Gl×Expr):=zR gl M (vw e)
noncomputable def nI:Gl->Bool
 | .range=>true
 |_=>false
noncomputable def nV:Gl->Bool
 | .set=>true
 |_=>false
noncomputable def gC(p:Gl->Bool):Option (Gl×Expr)->Option Expr
 |some x=>if p x.1 then aa x.2 else bd
 |Option.none=>bd
noncomputable def AM(M:Cx)(x:aq):Option Ex:=match M.names.lookup x with
 |some k=>if k == .local || k == .cell || k == .free then (M.sl.lookup x).map .var else bd
 |Option.none=>bd
noncomputable def KF:Const->Option Ex
 | .none=>aa .none
 | .bool b=>aa (.bool b)
 | .int i=>aa (.int i)
 | .str s=>aa (.str s.cps.toList)
 |_=>bd
noncomputable def lb(f:Expr->Option Ex):Option Expr->Option (Option Ex)
 |Option.none=>aa bd
 |some l=>(f l).map aa
section
variable (gl:List (aq×Gl)) (f:Cx->Expr->Option Ex) (M:Cx)
noncomputable def vJ(a:Expr):Vw->Option Ex
 | .slice lo hi C _=>match C with
  |Option.none=>(f M a).bind fun D=>(lb (f M) lo).bind fun l=>(lb (f M) hi).map (.cut D l)
  |some _=>bd
 |_=>bd
noncomputable def Qq(a i:Expr):Option Ex:=if mc i then vJ f M a (vw i) else (f M a).bind fun D=>(f M i).map (.sub D)
noncomputable def BR(a:Expr)(os:List gQ)(bs:List Expr):Option Ex:=match os with
 |[]=>bd
 |o::os=>match bs with
  |[]=>bd
  |b::bs=>match os with
   |[]=>match bs with
    |[]=>if ni o b then bd else (f M a).bind fun D=>(f M b).map (.cmp o D)
    |_::_=>bd
   |p::os=>match bs with
    |[]=>bd
    |c::bs=>if os.isEmpty && bs.isEmpty then
     if qs [o,p] [b,c] then bd else (f M a).bind fun D=>(f M b).bind fun b'=>(f M c).map (.chain o p D b')
     else bd
noncomputable def KG(elt t i:Expr)(J:List Expr)(Y:Scope):Option Ex :=
 (f M i).bind fun L=>(dg (aQ M Y) t).bind fun G=>(a8 (f (aQ M Y)) J).bind fun F=>(f (aQ M Y) elt).map fun D=>.comp1 (d0 M.sl Y.names) D G L F
noncomputable def KH(elt t i:Expr)(Q:List Expr)(t₂ i₂:Expr)(J:List Expr)(Y:Scope):Option Ex :=
 (f M i).bind fun S=>(dg (aQ M Y) t).bind fun P=>(a8 (f (aQ M Y)) Q).bind fun N=>(f (aQ M Y) elt).bind fun L =>
  (f (aQ M Y) i₂).bind fun G=>(dg (aQ M Y) t₂).bind fun D=>(a8 (f (aQ M Y)) J).bind fun F =>
   if mz P D then aa (.comp2 (d0 M.sl Y.names) L P S N D G F) else bd
noncomputable def AN(elt:Expr)(cs:List kr)(Y:Scope):Option Ex:=match cs with
 |[]=>bd
 |c::cs=>if c.is_async == 0 && !dH c.iter && eh M Y then match cs with
  |[]=>KG f M elt c.target c.iter c.ifs Y
  |d::cs=>if d.is_async == 0 && !dH d.iter && cs.isEmpty then KH f M elt c.target c.iter c.ifs d.target d.iter d.ifs Y else bd
  else bd
noncomputable def uS(a:Expr):Option Expr->Option Ex
 |some b=>(f M b).map fun b'=>.prim .tuple (.range1 b')
 |Option.none=>(f M a).bind fun e'=>if AL e' then aa (.prim .tuple e') else bd
noncomputable def uT(a:Expr):Option Expr->Option Ex
 |some b=>(f M b).map (.prim .sortedset)
 |Option.none=>(f M a).map (.prim .sorted)
noncomputable def ov(a:Expr):Gl->Option Ex
 | .len=>(f M a).map (.prim .len)
 | .tuple=>uS f M a (gC nI (gJ gl M a))
 | .list=>(f M a).map (.prim .list)
 | .sum=>(f M a).map (.prim .sum)
 | .dict=>(f M a).map (.prim .dict)
 | .range=>(f M a).map .range1
 | .sorted=>uT f M a (gC nV (gJ gl M a))
 |_=>bd
noncomputable def rG(a b:Expr):Gl->Option Ex
 | .range=>(f M a).bind fun D=>(f M b).map (.range2 D)
 | .zip=>(f M a).bind fun D=>(f M b).map (.zip D)
 |_=>bd
noncomputable def rn:Gl->Option Nat
 | .fn i=>aa i
 |_=>bd
noncomputable def uU(G:Gl)(a:Expr):List Expr->Option Ex
 |[]=>ov gl f M a G
 |b::r=>if r.isEmpty then rG f M a b G else bd
noncomputable def uV(G:Gl):List Expr->Option Ex
 |[]=>bd
 |a::r=>match rn G with
  |some i=>(a8 (f M) (a::r)).map (.call i)
  |Option.none=>uU gl f M G a r
noncomputable def Qr(d:Expr)(g:aq)(D p:aK):List Expr->Option Ex
 |[]=>bd
 |k::r=>match r with
  |[]=>bd
  |x::r=>if g == ("get" : aq) && nR d && D.endLine == p.line && !bn k && !bn x && r.isEmpty then (f M d).bind fun d'=>(f M k).bind fun k'=>(f M x).map (.get d' k') else bd
noncomputable def AO(args:List Expr)(p:aK):Vw->Option Ex
 | .name r _=>(uK gl M r args).bind fun G=>uV gl f M G args
 | .attr d g D=>Qr f M d g D p args
 |_=>bd
noncomputable def vV:Expr->Option Ex
 | .Name x _=>if bad x then bd else AM M x
 | .Constant c _ _=>KF c
 | .Tuple es _ _=>if es.any bn then bd else (a8 (f M) es).map .tup
 | .List es _=>if es.any bn then bd else (a8 (f M) es).map .list
 | .Dict ks vs _=>(a8 (fun k=>k.bind (f M)) ks).bind fun a=>(a8 (f M) vs).map (.dict a)
 | .BinOp a o b _=>if Qp o then (f M a).bind fun F=>(f M b).map (.bin o F) else bd
 | .UnaryOp o a _=>match o with
  | .USub=>(f M a).map .neg
  | .Not=>(f M a).map .not
  |_=>bd
 | .Compare a os bs _=>BR f M a os bs
 | .BoolOp o es _=>match o with
  | .And=>(a8 (f M) es).map .and
  | .Or=>(a8 (f M) es).map .or
 | .IfExp c a b _=>(f M c).bind fun G=>(f M a).bind fun F=>(f M b).map (.ite G F)
 | .Subscript a i _=>Qq f M a i
 | .ListComp elt cs Y _=>AN f M elt cs Y
 | .Call g args D p=>match D with
  |[]=>AO gl f M args p (vw g)
  |_::_=>bd
 |_=>bd
end
noncomputable def cE(gl:List (aq×Gl)):Nat->Cx->Expr->Option Ex
 |0=>fun D D=>bd
 |n+1=>vV gl (cE gl n)
variable {gl:List (aq × Gl)}{M:Cx}
def VwR(e:Expr):Vw->Prop
 | .name x p=>e = .Name x p
 | .call c args D p=>e = .Call c args D p
 | .attr d g p=>e = .Attribute d g p
 | .tup es k p=>e = .Tuple es k p
 | .sub a i p=>e = .Subscript a i p
 | .slice lo hi C p=>e = .Slice lo hi C p
 | .other=>True
theorem Oy e:VwR e (vw e):=by obtain ⟨⟩:=e<;>first|rfl|trivial
theorem e7(h:vw e=v):VwR e v:=h ▸ Oy e
structure GC (gl:List (aq×Gl)) (M:Cx) (r:aq) (args:List Expr) (G:Gl):Prop where
 b:bad r=false
 s:args.any bn=false
 k:M.names.lookup r=aa .globalImplicit
 g:gl.lookup r=aa G
theorem xQ{gl:List (aq×Gl)}{M:Cx}(h:uK gl M r args=aa G):GC gl M r args G:=by refine ju h fun h1 F=>ac (bO h1) fun h1 D=>ac (bO h1) fun h1 h4=>⟨h1,h4,by simpa using D,F⟩
theorem EM{gl:List (aq×Gl)}{M:Cx}(h:gJ gl M a=aa (g,b)):∃ r q p,a = .Call (.Name r q) [b] [] p/\GC gl M r [b] g:=by
 have h:zR gl M (vw a)=aa (g,b):=h;generalize hv:vw a=v at h;cases v with
 |call c args D p =>
  refine lk fun _ N=>?_;obtain rfl:=e7 hv;rcases args with _|⟨b',r⟩
  . exact nS h
  refine bJ h fun F g0=>ct F fun L J=>?_;cases r with
  |cons _ _=>exact nB L
  |nil =>
  cases D with
  |cons _ _=>exact nB J
  |nil =>
  generalize Q:vw c=u at g0;cases u with
  |name r q =>
   clear J L F h;obtain rfl:=e7 Q;refine aG g0 fun G P e=>?_;clear g0 h;obtain ⟨⟩:=e;refine N (ck _ _ _ ⟨rfl,xQ P⟩)
  |_=>exact nS g0
 |_=>exact nS h
theorem xz{gl:List (aq×Gl)}{M:Cx}(h:gJ gl M a=aa (g,b)){G:Prop}(k:∀ r q p,a = .Call (.Name r q) [b] [] p->GC gl M r [b] g->G):G:=aP (EM h) fun F z1 z2 D=>ac D fun L J=>k F z1 z2 L J
theorem E7(h:gC p o=aa b):∃ g,o=aa (g,b)/\p g=true:=by
 rcases o with _|x
 . exact nS h
 . refine bJ h fun h1 D=>?_;clear h;replace D:=sI D;subst D;exact ⟨_,rfl,h1⟩
theorem xR(h:gC p o=aa b){G:Prop}(k:∀ g,o=aa (g,b)->p g=true->G):G:=ae (E7 h) fun F D=>ac D fun z1 z2=>k F z1 z2
theorem tV{f:Cx->Expr->Option Ex}{M:Cx}{e':Ex}{elt:Expr}{cs:List kr}{Y:Scope}(h:AN f M elt cs Y=aa e'){P:List kr->Ex->Prop}
 (u:∀ t i V T Q J D,dH i=false->eh M Y=true->f M i=aa T->dg (aQ M Y) t=aa Q->a8 (f (aQ M Y)) V=aa J->f (aQ M Y) elt=aa D->P [⟨t,i,V,0⟩] (.comp1 (d0 M.sl Y.names) D Q T J))
 (x:∀ t i V t₂ i₂ L T Q J D N G F,dH i=false->dH i₂=false->eh M Y=true->f M i=aa T->dg (aQ M Y) t=aa Q->a8 (f (aQ M Y)) V=aa J->f (aQ M Y) elt=aa D->f (aQ M Y) i₂=aa N->dg (aQ M Y) t₂=aa G->a8 (f (aQ M Y)) L=aa F->mz Q G=true->P [⟨t,i,V,0⟩,⟨t₂,i₂,L,0⟩] (.comp2 (d0 M.sl Y.names) D Q T J G N F)):P cs e':=by
 refine lk fun _ j=>?_
 rcases cs with _|⟨c,cs⟩
 . skip
   exact nS h
 . obtain ⟨t,i,V,as⟩:=c;refine bJ h fun g h=>ct g fun n m=>ct n fun ha k=>?_;clear n g;obtain rfl:as=0:=eq ha;rcases cs with _|⟨d,cs⟩
   . refine ax h fun T h1 h=>ax h fun Q a h=>ax h fun J b h=>?_;clear ha;refine aG h fun D h4 q=>?_;subst q;refine j (u _ _ _ _ _ _ _ (bN k) m h1 a b h4)
   . obtain ⟨t₂,i₂,L,S⟩:=d;refine bJ h fun l g0=>ct l fun o hc=>ct o fun X e=>?_;clear o l ha;obtain rfl:S=0:=eq X;cases cs with
     |cons _ _=>exact nB hc
     |nil =>
     refine ax g0 fun T h1 h=>ax h fun Q a h=>ax h fun J b h=>ax h fun D h4 h=>ax h fun N p h=>ax h fun G r h=>ax h fun F v h=>bJ h fun hd h=>?_;clear X hc g0;replace h:=sI h;subst h;refine j (x _ _ _ _ _ _ _ _ _ _ _ _ _ (bN k) (bN e) m h1 a b h4 p r v hd)
section
variable {f:Cx->Expr->Option Ex} {e':Ex} {P:Expr->Ex->Prop}
theorem I0(D:∀ {a:Expr} {J:Ex} {lo hi:Option Expr} {F G:Option Ex} {p q:aK} (N:f M a=aa J) (h1:lb (f M) lo=aa F) (L:lb (f M) hi=aa G),P (.Subscript a (.Slice lo hi bd q) p) (.cut J F G)){a i:Expr}{p:aK}(h:vJ f M a (vw i)=aa e'):P (.Subscript a i p) e':=by
 generalize hv:vw i=v at h;refine lk fun _ Q=>?_;cases v with
 |slice lo hi C q =>
  obtain rfl:=e7 hv;rcases C with _|_
  . refine ax h fun J N h=>ax h fun l h1 h=>aG h fun r L S=>?_;subst S;refine Q (D N h1 L)
  . exact nS h
 |_=>exact nS h
theorem I3(F:∀ {a b:Expr} {G b':Ex} {o:gQ} {p:aK} (L:ni o b=false) (h1:f M a=aa G) (J:f M b=aa b'),P (.Compare a [o] [b] p) (.cmp o G b'))(D:∀ {a b c:Expr} {G b' Q:Ex} {o q:gQ} {p:aK} (L:qs [o,q] [b,c]=false) (h1:f M a=aa G) (J:f M b=aa b') (T:f M c=aa Q),P (.Compare a [o,q] [b,c] p) (.chain o q G b' Q)){a:Expr}{os:List gQ}{bs:List Expr}{p:aK}(h:BR f M a os bs=aa e'):P (.Compare a os bs p) e':=by
 rcases os with _|⟨o,os⟩
 . exact nS h
 rcases bs with _|⟨b,bs⟩
 . exact nS h
 rcases os with _|⟨q,os⟩
 . rcases bs with _|⟨_,_⟩
   . refine ju h fun L h=>ax h fun G h1 h=>aG h fun b' J N=>?_;subst N;exact F L h1 J
   . exact nS h
 . rcases bs with _|⟨c,bs⟩
   . exact nS h
   . refine bJ h fun X h=>ct X fun V S=>?_;clear X;cases os with
     |cons _ _=>exact nB V
     |nil =>
     clear V;cases bs with
     |cons _ _=>exact nB S
     |nil =>
     refine ju h fun L h=>ax h fun G h1 h=>ax h fun b' J h=>?_;clear S;refine aG h fun Q T N=>?_;subst N;exact D L h1 J T
theorem Hu(D:∀ {r:aq} {q p:aK} {a:Expr} {es:List Expr} {es':List Ex} {i:Nat} (g:GC gl M r (a::es) (.fn i)) (h:a8 (f M) (a::es)=aa es'),P (.Call (.Name r q) (a::es) [] p) (.call i es'))(F:∀ {r:aq} {q p:aK} {a:Expr} {G:Gl} {e':Ex} (g:GC gl M r [a] G) (h:ov gl f M a G=aa e'),P (.Call (.Name r q) [a] [] p) e')(J:∀ {r:aq} {q p:aK} {a b:Expr} {G:Gl} {e':Ex} (g:GC gl M r [a,b] G) (h:rG f M a b G=aa e'),P (.Call (.Name r q) [a,b] [] p) e')(L:∀ {d k x:Expr} {d' k' x':Ex} {V p:aK} (o:nR d=true) (hl:(V.endLine == p.line)=true) (h1:bn k=false) (Q:bn x=false) (hd:f M d=aa d') (hk:f M k=aa k') (m:f M x=aa x'),P (.Call (.Attribute d "get" V) [k,x] [] p) (.get d' k' x')){c:Expr}{args:List Expr}{p:aK}(h:AO gl f M args p (vw c)=aa e'):P (.Call c args [] p) e':=by
 generalize hv:vw c=v at h;cases v with
 |name r q =>
  obtain rfl:=e7 hv;refine ax h fun G S h=>?_;have g:=xQ S;rcases args with _|⟨a,es⟩
  . clear S g;exact nS h
  cases N:rn G with
  |some i =>
   have h':(a8 (f M) (a::es)).map (Ex.call i)=aa e':=by
    have:uV gl f M G (a::es)=(a8 (f M) (a::es)).map (.call i):=by show (match rn G with|some i=>_|Option.none=>_)=_;refine rl N ?_;rfl
    refine rl (az this) h
   clear h S;clear h;refine aG h' fun es' h1 T=>?_;subst T;obtain ⟨⟩:=G<;>(first|exact nS N|replace N:=sI N;subst N)
   exact D g h1
  |none =>
   have h':uU gl f M G a es=aa e':=by
    have:uV gl f M G (a::es)=uU gl f M G a es:=by show (match rn G with|some i=>_|Option.none=>_)=_;refine rl N ?_;rfl
    refine rl (az this) h
   rcases es with _|⟨b,r⟩
   . exact F g h'
   . refine bJ h' fun h1 Q=>?_;rcases r with _|⟨_,_⟩
     . exact J g Q
     . clear Q h S h' g;clear h;exact nB h1
 |attr d g V =>
  obtain rfl:=e7 hv;rcases args with _|⟨k,r⟩
  . exact nS h
  rcases r with _|⟨x,r⟩
  . exact nS h
  . refine bJ h fun X g0=>ct X fun u e=>?_;cases r with
    |cons _ _=>exact nB e
    |nil =>
    refine ct u fun n Q=>ct n fun l h1=>ct l fun j hl=>ct j fun t o=>?_;clear j l n e u X;obtain rfl:=eq t;refine ax g0 fun d' hd h=>ax h fun k' hk h=>?_;clear t g0;refine aG h fun x' m T=>?_;subst T;exact L o hl (bN h1) (bN Q) hd hk m
 |_=>exact nS h
theorem Hv(D:∀ {x:aq} {p:aK} {i:Nat} (hb:bad x=false) (hk:M.names.lookup x=aa .local\/M.names.lookup x=aa .cell\/M.names.lookup x=aa .free) (hi:M.sl.lookup x=aa i),P (.Name x p) (.var i)){x:aq}{p:aK}(hb:bad x=false)(h:AM M x=aa e'):P (.Name x p) e':=by
 have G:∀ o,M.names.lookup x=o->(match o with|some k=>if (k == .local || k == .cell || k == .free)=true then (M.sl.lookup x).map .var else bd|Option.none=>bd)=aa e'->P (.Name x p) e':=fun o F h=>by
  rcases o with _|k
  . exact nS h
  . refine bJ h fun h1 h=>aG h fun i hi J=>?_;subst J;refine D hb ?_ hi;rcases Dh.mp h1 with h1|h1
    . rcases Dh.mp h1 with h1|h1
      . refine rl F (rl (eq h1) (.inl rfl))
      . refine rl F (rl (eq h1) (.inr (.inl rfl)))
    . refine rl F (rl (eq h1) (.inr (.inr rfl)))
 exact G _ rfl h
theorem Aq(f10:∀ {x:aq} {p:aK} {i:Nat} (hb:bad x=false) (hk:M.names.lookup x=aa .local\/M.names.lookup x=aa .cell\/M.names.lookup x=aa .free) (hi:M.sl.lookup x=aa i),P (.Name x p) (.var i))(z:∀ {k:Nat} {p:aK},P (.Constant .none k p) .none)(y:∀ {b:Bool} {k:Nat} {p:aK},P (.Constant (.bool b) k p) (.bool b))(e11:∀ {i:Int} {k:Nat} {p:aK},P (.Constant (.int i) k p) (.int i))(h10:∀ {s:aq} {k:Nat} {p:aK},P (.Constant (.str s) k p) (.str s.cps.toList))(b11:∀ {es:List Expr} {es':List Ex} {k:Nat} {p:aK} (S:es.any bn=false) (h:a8 (f M) es=aa es'),P (.Tuple es k p) (.tup es'))(v:∀ {es:List Expr} {es':List Ex} {p:aK} (S:es.any bn=false) (h:a8 (f M) es=aa es'),P (.List es p) (.list es'))(n:∀ {ks:List (Option Expr)} {vs:List Expr} {a b:List Ex} {p:aK} (h1:a8 (fun k=>k.bind (f M)) ks=aa a) (L:a8 (f M) vs=aa b),P (.Dict ks vs p) (.dict a b))(d11:∀ {a b:Expr} {D b':Ex} {o:nC} {p:aK} (h1:f M a=aa D) (L:f M b=aa b'),P (.BinOp a o b p) (.bin o D b'))(g10:∀ {a:Expr} {D:Ex} {p:aK} (h1:f M a=aa D),P (.UnaryOp .USub a p) (.neg D))(c11:∀ {a:Expr} {D:Ex} {p:aK} (h1:f M a=aa D),P (.UnaryOp .Not a p) (.not D))(e10:∀ {a b:Expr} {D b':Ex} {o:gQ} {p:aK} (h0:ni o b=false) (h1:f M a=aa D) (L:f M b=aa b'),P (.Compare a [o] [b] p) (.cmp o D b'))(T:∀ {a b c:Expr} {D b' c':Ex} {o q:gQ} {p:aK} (h0:qs [o,q] [b,c]=false) (h1:f M a=aa D) (L:f M b=aa b') (h3:f M c=aa c'),P (.Compare a [o,q] [b,c] p) (.chain o q D b' c'))(g11:∀ {es:List Expr} {es':List Ex} {p:aK} (h:a8 (f M) es=aa es'),P (.BoolOp .And es p) (.and es'))(g12:∀ {es:List Expr} {es':List Ex} {p:aK} (h:a8 (f M) es=aa es'),P (.BoolOp .Or es p) (.or es'))(a11:∀ {c a b:Expr} {c' D b':Ex} {p:aK} (h0:f M c=aa c') (h1:f M a=aa D) (L:f M b=aa b'),P (.IfExp c a b p) (.ite c' D b'))(d10:∀ {a:Expr} {D:Ex} {lo hi:Option Expr} {lo' hi':Option Ex} {p q:aK} (h0:f M a=aa D) (h1:lb (f M) lo=aa lo') (L:lb (f M) hi=aa hi'),P (.Subscript a (.Slice lo hi bd q) p) (.cut D lo' hi'))(c10:∀ {a i:Expr} {D i':Ex} {p:aK} (S:mc i=false) (h0:f M a=aa D) (h1:f M i=aa i'),P (.Subscript a i p) (.sub D i'))(l:∀ {elt t i:Expr} {fs:List Expr} {Y:Scope} {p:aK} {J i':Ex} {t':Tg} {m:List Ex} (S:dH i=false) (hg:eh M Y=true) (h1:f M i=aa i') (L:dg (aQ M Y) t=aa t') (h3:a8 (f (aQ M Y)) fs=aa m) (h4:f (aQ M Y) elt=aa J),P (.ListComp elt [⟨t,i,fs,0⟩] Y p) (.comp1 (d0 M.sl Y.names) J t' i' m))(V:∀ {elt t i t₂ i₂:Expr} {fs X:List Expr} {Y:Scope} {p:aK} {J i' j:Ex} {t' N:Tg} {m Q:List Ex} (S:dH i=false) (hs2:dH i₂=false) (hg:eh M Y=true) (h1:f M i=aa i') (L:dg (aQ M Y) t=aa t') (h3:a8 (f (aQ M Y)) fs=aa m) (h4:f (aQ M Y) elt=aa J) (h5:f (aQ M Y) i₂=aa j) (h6:dg (aQ M Y) t₂=aa N) (h7:a8 (f (aQ M Y)) X=aa Q) (hd:mz t' N=true),P (.ListComp elt [⟨t,i,fs,0⟩,⟨t₂,i₂,X,0⟩] Y p) (.comp2 (d0 M.sl Y.names) J t' i' m N j Q))(u:∀ {r:aq} {q p:aK} {a:Expr} {es:List Expr} {es':List Ex} {i:Nat} (g:GC gl M r (a::es) (.fn i)) (h:a8 (f M) (a::es)=aa es'),P (.Call (.Name r q) (a::es) [] p) (.call i es'))(b10:∀ {r:aq} {q p:aK} {a:Expr} {G:Gl} {e':Ex} (g:GC gl M r [a] G) (h:ov gl f M a G=aa e'),P (.Call (.Name r q) [a] [] p) e')(f11:∀ {r:aq} {q p:aK} {a b:Expr} {G:Gl} {e':Ex} (g:GC gl M r [a,b] G) (h:rG f M a b G=aa e'),P (.Call (.Name r q) [a,b] [] p) e')(h11:∀ {d k x:Expr} {d' k' x':Ex} {ap p:aK} (hn:nR d=true) (hl:(ap.endLine == p.line)=true) (h1:bn k=false) (L:bn x=false) (hd:f M d=aa d') (hk:f M k=aa k') (hx:f M x=aa x'),P (.Call (.Attribute d "get" ap) [k,x] [] p) (.get d' k' x')){e:Expr}(h:vV gl f M e=aa e'):P e e':=by
 cases e with
 |Name x p=>refine ju h fun hb h=>?_;exact Hv f10 hb h
 |Constant c k p =>
  cases c with
  |none=>replace h:=sI h;subst h;exact z
  |bool b=>replace h:=sI h;subst h;exact y
  |int i=>replace h:=sI h;subst h;exact e11
  |str s=>replace h:=sI h;subst h;exact h10
  |_=>exact nS h
 |Tuple es k p=>refine ju h fun S h=>?_;refine aG h fun es' h1 F=>?_;subst F;exact b11 S h1
 |List es p=>refine ju h fun S h=>?_;refine aG h fun es' h1 F=>?_;subst F;exact v S h1
 |Dict ks vs p=>refine ax h fun a h1 h=>?_;refine aG h fun b L F=>?_;subst F;exact n h1 L
 |BinOp a o b p=>refine bJ h fun _ h=>?_;refine ax h fun D h1 h=>?_;refine aG h fun b' L F=>?_;subst F;exact d11 h1 L
 |UnaryOp o a p =>
  cases o with
  |USub=>refine aG h fun D h1 F=>?_;subst F;exact g10 h1
  |Not=>refine aG h fun D h1 F=>?_;subst F;exact c11 h1
  |_=>exact nS h
 |Compare a os bs p=>exact I3 e10 T h
 |BoolOp o es p =>
  cases o with
  |And=>refine aG h fun D h1 F=>?_;subst F;exact g11 h1
  |Or=>refine aG h fun D h1 F=>?_;subst F;exact g12 h1
 |IfExp c a b p=>refine ax h fun c' h0 h=>?_;refine ax h fun D h1 h=>?_;refine aG h fun b' L F=>?_;subst F;exact a11 h0 h1 L
 |Subscript a i p =>
  have h':(if mc i=true then vJ f M a (vw i) else (f M a).bind fun D=>(f M i).map (.sub D))=aa e':=h
  cases S:mc i with
  |true=>rw [S] at h';exact I0 d10 h'
  |false=>rw [S] at h';refine ax h' fun D h1 h=>?_;refine aG h fun b' L F=>?_;subst F;exact c10 S h1 L
 |ListComp elt cs Y p=>exact tV (P:=fun cs e'=>P (.ListComp elt cs Y p) e') h (fun _ _ _ _ _ _ _=>l) fun _ _ _ _ _ _ _ _ _ _ _ _ _=>V
 |Call c args kws p =>
  cases kws with
  |nil=>exact Hu u b10 f11 h11 h
  |cons _ _=>exact nS h
 |_=>exact nS h
end
noncomputable def bD(k:List Int):Int:=reduceHash (Builtin.Tuple.tupleHashOf (k.map cq))
section
variable {K:Type} [DecidableEq K] (hash:K->Int)
noncomputable def iC(es:List K)(i:Nat):Int:=(es[i]?.map hash).getD 0
noncomputable def iM(t:SetTable)(es:List K)(D:Nat)(k:K):Option (SetTable×List K) :=
 match t.put D with
 |(t₁,p)=>match es.take p++k::es.drop p with
  |es₁=>if t₁.fits es₁.length then
   if t₁.tooFull then match t₁.relaid (es₁.map hash).toArray (i5 es₁.length) with
    |some (t₂,order)=>if coversAll order es₁.length && t₂.fits es₁.length && decide (pi (i5 es₁.length)<=100000) then aa (t₂,order.toList.filterMap fun i=>es₁[i]?) else ab
    |none=>ab
   else aa (t₁,es₁)
   else ab
noncomputable def mA(t:SetTable)(es:List K)(k:K):Option (SetTable×List K) :=
 if es.contains k then aa (t,es) else match t.freeSlot (hash k) with
  |some (slot,false)=>iM hash t es slot k
  |_=>ab
noncomputable def e9(t:SetTable)(es:List K)(k:K):Option (SetTable×List K) :=
 if t.gaveWay then ab else match t.probe (iC hash es) (hash k) (t.probeStart (hash k)) with
  |some (.empty j ab)=>iM hash t es j k
  |some (.candidate j i next)=>if es[i]? = aa k then aa (t,es) else ab
  |_=>ab
noncomputable def gj(D:SetTable->List K->K->Option (SetTable×List K)):SetTable->List K->List K->Option (SetTable×List K)
 |t,es,[]=>aa (t,es)
 |t,es,k::r=>match D t es k with
  |some (t',es')=>gj D t' es' r
  |none=>ab
noncomputable def re(t:SetTable)(i:Nat):Nat:=match i with
 |0=>0
 |i+1=>t.place.getD i 0+1
noncomputable def kO(t:SetTable)(n:Nat):Bool:=(c8 (n+1)).all fun i=>SetTable.below t.place (re t i) == i
noncomputable def iD:SetTable:=.fresh 0 0 true
end
noncomputable def eP{α:Type}(lt:α->α->Bool):List α->Bool
 |[]=>true
 |[_]=>true
 |a::b::r=>lt a b && eP lt (b::r)
section
variable {t:SetTable} {l:Bool}
noncomputable abbrev SetTable.led'(t:SetTable)(l:Bool):SetTable:={ t with led:=l }
theorem zS j:(SetTable.led' t l).put j=(SetTable.led' (t.put j).1 l,(t.put j).2):=rfl
theorem qu:(SetTable.led' t l).tooFull=t.tooFull:=rfl
theorem y9:(SetTable.led' t l).gaveWay=t.gaveWay:=rfl
theorem KI ha h:∀ f p,pj (SetTable.led' t l) ha h f p=pj t ha h f p:=by
 intro F;induction F with
 |zero =>
  intro p;exact rfl
 |succ f D =>
  intro p;unfold pj;show (match t.slot p.j with | .empty=>_ | .dummy=>pj (SetTable.led' t l) ha h f (t.advance _) | .live i=>if ha i == h then aa (.candidate p.j i (t.advance p)) else pj (SetTable.led' t l) ha h f (t.advance p))=_
  rw [D,D] at ⊢;cases t.slot p.j<;>rfl
theorem tW ha h p:(SetTable.led' t l).probe ha h p=t.probe ha h p:=KI ha h _ _
theorem Hw h:(SetTable.led' t l).freeSlot h=t.freeSlot h:=by unfold SetTable.freeSlot;rw [tW] at ⊢;rfl
theorem yc D n:(SetTable.led' t l).relaid D n=(t.relaid D n).map fun r=>(SetTable.led' r.1 l,r.2):=by delta SetTable.relaid SetTable.laid;cases DF (pi n - 1) D<;>rfl
end
inductive V where
 |d (x:D)
 |o (x:D)
noncomputable abbrev Sg:=List (Nat×V)
noncomputable def ah:Sg->Nat->Option V
 |[],_=>ab
 |(j,v)::r,i=>if j == i then aa v else ah r i
noncomputable def ag:Sg->Nat->V->Sg
 |[],i,v=>[(i,v)]
 |(j,w)::r,i,v=>if j == i then (j,v)::r else (j,w)::ag r i v
noncomputable def d3:D->Option Int
 | .int i=>aa i
 |_=>ab
noncomputable def dT:D->Option (List D)
 | .tup l=>aa l
 |_=>ab
noncomputable def dS:D->Option (List Nat)
 | .str l=>aa l
 |_=>ab
noncomputable def cr:List D->Option (List Int)
 |[]=>aa []
 |d::r=>(d3 d).bind fun i=>(cr r).map (i :: ·)
noncomputable def dQ:D->Option (List D)
 | .list l=>aa l
 | .tup l=>aa l
 | .idict l=>aa (l.map fun p=>.int p.1)
 | .tdict l=>aa (l.map aj)
 |_=>ab
noncomputable def mB(i:Int):Bool:=decide (i.natAbs<=100000)
noncomputable def rH:D->Bool
 | .bool b=>b
 |_=>false
noncomputable def BS(a b:D):Option D:=match a with
 | .int x=>(d3 b).map fun y=>.int (x+y)
 | .tup x=>(dT b).bind fun y=>if x.length+y.length<=100000 then aa (.tup (x++y)) else ab
 |_=>ab
noncomputable def ii(f:Int->Int->Option D)(a b:D):Option D:=(d3 a).bind fun x=>(d3 b).bind fun y=>f x y
noncomputable def vK(o:nC)(a b:D):Option D:=match o with
 | .Add=>BS a b
 | .Sub=>ii (fun x y=>aa (.int (x - y))) a b
 | .Mult=>ii (fun x y=>if x.natAbs < 2 ^ 60 then aa (.int (x * y)) else ab) a b
 | .Mod=>ii (fun x y=>if y=0 then ab else aa (.int (x.fmod y))) a b
 | .FloorDiv=>ii (fun x y=>if y=0\/1073741824<=y.natAbs then ab else aa (.int (x.fdiv y))) a b
 |_=>ab
noncomputable def fg(x d:D):Option Bool:=match d with
 | .tup l=>if pl 8 x && pl 9 (.tup l) then aa (h9 l x) else ab
 | .list l=>if pl 8 x && pl 9 (.list l) then aa (h9 l x) else ab
 | .idict l=>if l.isEmpty then ((dT x).bind cr).map fun _=>false else ab
 | .tdict l=>((dT x).bind cr).map fun k=>l.contains k
 |_=>ab
noncomputable def cI(f:Int->Int->Bool)(a b:D):Option Bool:=(d3 a).bind fun x=>(d3 b).map fun y=>f x y
noncomputable def rV(a:D)(b:D):Option Bool:=match b with
 | .none=>aa (isNone a)
 |_=>ab
noncomputable def fE(o:gQ)(a b:D):Option Bool:=match o with
 | .Eq=>if pl 9 a && pl 9 b then aa (bf a b) else ab
 | .NotEq=>if pl 9 a && pl 9 b then aa (!bf a b) else ab
 | .Lt=>cI (fun x y=>decide (x < y)) a b
 | .LtE=>cI (fun x y=>decide (x<=y)) a b
 | .Gt=>cI (fun x y=>decide (x > y)) a b
 | .In=>fg a b
 | .NotIn=>(fg a b).map (!·)
 | .Is=>rV a b
 | .IsNot=>(rV a b).map (!·)
 |_=>ab
noncomputable def atL(l:List D)(i:Int):Option D:=if 0<=i/\i < 2 ^ 63 then l[i.toNat]? else ab
noncomputable def ox(d i:D):Option D:=match d with
 | .tup l=>(d3 i).bind (atL l)
 | .list l=>(d3 i).bind (atL l)
 | .idict l=>(d3 i).bind fun k=>(fI l k).map .int
 |_=>ab
noncomputable def lc(d:D)(lo hi:Option Int):Option D:=match d with
 | .tup l=>if l.length<=100000 then aa (.tup (eB l lo hi)) else ab
 | .list l=>if l.length<=100000 then aa (.list (eB l lo hi)) else ab
 |_=>ab
noncomputable def oy(l:List (Int×Int))(k v:Int):List (Int×Int):=if l.any (fun p=>p.1=k) then l.map fun p=>if p.1=k then (k,v) else p else l ++ [(k,v)]
noncomputable def Qs(l:List (Int×Int))(k v:D):Option D:=match k with
 | .int k=>match v with
  | .int v=>if l.length<=100000 then aa (.idict (oy l k v)) else ab
  | .bool b=>if l.isEmpty && b then aa (.bdict [k]) else ab
  |_=>ab
 | .tup k=>if l.isEmpty && rH v then (cr k).map fun k=>.tdict [k] else ab
 |_=>ab
noncomputable def gk(d k v:D):Option D:=match d with
 | .idict l=>Qs l k v
 | .bdict l=>(d3 k).bind fun k=>if rH v then (if l.length<=100000 then aa (.bdict (if l.contains k then l else l ++ [k])) else ab) else ab
 | .tdict l=>((dT k).bind cr).bind fun k=>if rH v then (if l.length<=100000 then aa (.tdict (if l.contains k then l else l ++ [k])) else ab) else ab
 | .list l=>(d3 k).bind fun i=>if 0<=i/\i.toNat < l.length/\l.length<=100000 then aa (.list (l.set i.toNat v)) else ab
 |_=>ab
noncomputable def fy:D->List D->List D->Option D
 |d,[],vs=>if vs.isEmpty then aa d else ab
 |d,k::ks,vs=>match vs with
  |[]=>ab
  |v::vs=>(gk d k v).bind fun d'=>fy d' ks vs
noncomputable def Oz(d k x:D):Option D:=match d with
 | .idict l=>(d3 k).map fun k=>(fI l k).elim x .int
 |_=>ab
noncomputable def oz:List D->Option D
 |l=>match cr l with
  |some is=>if is.length<=100000/\is.all (fun i=>decide (i.natAbs<=2 ^ 40)) then aa (.int (is.foldl (· + ·) 0)) else ab
  |none=>ab
noncomputable def bU {α:Type} (lt:Nat->Nat->Bool):KasT α->α
 | .ret a=>a
 | .ask i j k=>bU lt (k (lt i j))
noncomputable def a6:List Int->List Int->Bool
 |[],[]=>false
 |[],_::_=>true
 |_::_,[]=>false
 |a::as,b::bs=>if a=b then a6 as bs else decide (a < b)
noncomputable def nW:List Nat->List Nat->Bool
 |[],[]=>false
 |[],_::_=>true
 |_::_,[]=>false
 |a::as,b::bs=>if a=b then nW as bs else decide (a < b)
noncomputable def lp(a b:D):Option Bool:=match a with
 | .int x=>(d3 b).map fun y=>decide (x < y)
 | .str x=>(dS b).map fun y=>nW x y
 | .tup x=>(cr x).bind fun x=>((dT b).bind cr).map fun y=>a6 x y
 |_=>ab
noncomputable def eC:List D->List D->Option Bool
 |[],[]=>aa false
 |[],_::_=>aa true
 |_::_,[]=>aa false
 |a::as,b::bs=>if bf a b then eC as bs else lp a b
noncomputable def kg:D->Bool
 | .int _=>true
 | .str s=>xJ ⟨s.toArray⟩
 | .tup l=>(cr l).isSome
 |_=>false
noncomputable def rq(x y:D):Bool:=match x with
 | .int _=>(d3 y).isSome
 | .str _=>(dS y).isSome
 |_=>false
noncomputable def kD(a b:List D):Bool:=match a with
 |[]=>false
 |x::_=>match b with
  |[]=>false
  |y::_=>rq x y
noncomputable def nX:List D->Option (List (List D))
 |[]=>aa []
 |d::r=>(dT d).bind fun l=>(nX r).map (l :: ·)
noncomputable def dF(n:Nat)(lt:Nat->Nat->Bool):List Nat:=if n < 2 then c8 n else (bU lt (PySem.W.kas_sort n)).toList
noncomputable def bV{α:Type}(l:List α)(lt:α->α->Bool):List α :=
 (dF l.length fun i j=>match l[i]?,l[j]? with
  |some a,aa b=>lt a b
  |_,_=>false).filterMap fun i=>l[i]?
noncomputable def dJ(l:List D):Option (List D) :=
 if l.length < 64 then
  match cr l with
  |some is=>aa ((bV is fun a b=>decide (a < b)).map .int)
  |none=>match nX l with
   |some ts =>
    if ts.all (fun t=>t.all kg) && ts.all (fun t=>kD t (ts.headD [])) && ts.all (fun a=>ts.all fun b=>(eC a b).isSome) then
     aa ((bV ts fun a b=>(eC a b).getD false).map .tup)
    else ab
   |none=>ab
 else ab
noncomputable def AP:D->Option (List D)
 | .list l=>aa l
 | .tup l=>aa l
 | .idict l=>aa (l.map fun p=>.int p.1)
 | .bdict l=>aa (l.map .int)
 | .tdict l=>aa (l.map aj)
 |_=>ab
noncomputable def nY:List D->Option (List (List Int))
 |[]=>aa []
 |d::r=>((dT d).bind cr).bind fun a=>(nY r).map (a :: ·)
noncomputable def ql{K:Type}[DecidableEq K](ok:K->Bool)(lt:K->K->Bool)(mk:K->D):Option (SetTable×List K)->Option (List D)
 |some (t,es)=>match bV es lt with
  |r=>if kO t es.length && decide (es.length < 64) && eP lt r && es.all ok then aa (r.map mk) else ab
 |none=>ab
noncomputable def jO(l:List D):Option (List D) :=
 if l.length<=1000 then
  match cr l with
  |some is=>ql (fun F=>true) (fun a b=>decide (a < b)) .int (gj (mA cq) iD [] is)
  |none=>match nY l with
   |some ts=>ql (fun k => !k.isEmpty) a6 aj (gj (e9 bD) iD [] ts)
   |none=>ab
 else ab
noncomputable def two(l:List D):Option (D×D):=match l with
 |[]=>ab
 |k::r=>match r with
  |[]=>ab
  |v::q=>if q.isEmpty then aa (k,v) else ab
noncomputable def kH:List D->Option (List D×List D)
 |[]=>aa ([],[])
 |d::r=>((dT d).bind two).bind fun p=>(kH r).map fun q=>(p.1::q.1,p.2::q.2)
noncomputable def nJ(d:D):Option D:=match d with
 | .idict l=>if l.length<=100000 then aa (.idict l) else ab
 | .list l=>if l.length<=100000 then (kH l).bind fun p=>fy (.idict []) p.1 p.2 else ab
 |_=>ab
noncomputable def Qt:D->Option Nat
 | .tup l=>if l.length<=100000 then aa l.length else ab
 | .list l=>if l.length<=100000 then aa l.length else ab
 |_=>ab
noncomputable def Qu:D->Option D
 | .list l=>if l.length<=100000 then aa (.tup l) else ab
 | .tup l=>aa (.tup l)
 |_=>ab
noncomputable def Qv:D->Option (List D)
 | .list l=>aa l
 | .tup l=>aa l
 |_=>ab
noncomputable def dL:D->Option (List D)
 | .list l=>aa l
 |_=>ab
noncomputable def hX(p:Pr)(d:D):Option D:=match p with
 | .len=>(Qt d).map fun (n:Nat)=>D.int (n:Int)
 | .tuple=>Qu d
 | .list=>(dT d).bind fun l=>if l.length<=100000 then aa (.list l) else ab
 | .sorted=>(AP d).bind fun l=>(dJ l).map .list
 | .sortedset=>(Qv d).bind fun l=>(jO l).map .list
 | .sum=>(dL d).bind oz
 | .dict=>nJ d
theorem aI{i:Int}(h:d3 d=aa i):d = .int i:=by
 cases d with
 |int j=>exact congrArg D.int (sI h)
 |_=>exact nS h
theorem ml(h:dT d=aa l):d = .tup l:=by
 cases d with
 |tup j=>exact congrArg D.tup (sI h)
 |_=>exact nS h
theorem OA(h:dL d=aa l):d = .list l:=by
 cases d with
 |list j=>exact congrArg D.list (sI h)
 |_=>exact nS h
theorem uv(h:rH d=true):d = .bool true:=by
 cases d with
 |bool b=>exact congrArg D.bool h
 |_=>exact nomatch h
theorem I4{a b c:D}(h:ii f a b=aa c):∃ x y,a = .int x/\b = .int y/\f x y=aa c:=by refine lk fun _ J=>ax h fun x F h=>ax h fun y G h=>J ?_;exact aR x y ⟨aI F,aI G,h⟩
theorem qv{a b c:D}(h:ii f a b=aa c){G:Prop}(k:∀ x y,a = .int x->b = .int y->f x y=aa c->G):G:=aM (I4 h) fun J z1 F=>aE F fun z2 N L=>k J z1 z2 N L
theorem I5{c:Bool}(h:cI f a b=aa c):∃ x y,a = .int x/\b = .int y/\f x y=c:=by refine lk fun _ J=>ax h fun x F h=>aG h fun y G h=>J ?_;exact aR x y ⟨aI F,aI G,h⟩
theorem ug{c:Bool}(h:cI f a b=aa c){G:Prop}(k:∀ x y,a = .int x->b = .int y->f x y=c->G):G:=aM (I5 h) fun J z1 F=>aE F fun z2 N L=>k J z1 z2 N L
theorem I6(h:(dT d).bind cr=aa k):∃ l,d = .tup l/\cr l=aa k:=by refine ax h fun l h1 F=>?_;exact ⟨l,ml h1,F⟩
theorem qx(h:(dT d).bind cr=aa k){G:Prop}(L:∀ l,d = .tup l->cr l=aa k->G):G:=ae (I6 h) fun J F=>ac F fun z1 z2=>L J z1 z2
theorem Hx{c:Bool}(h:rV a b=aa c):b = .none/\isNone a=c:=by
 cases b with
 |none=>exact ⟨rfl,sI h⟩
 |_=>exact nS h
theorem yy{c:Bool}(h:rV a b=aa c){G:Prop}(k:b = .none->isNone a=c->G):G:=ac (Hx h) fun F z1=>k F z1
theorem uW(h:dS d=aa l):d = .str l:=by
 cases d with
 |str j=>exact congrArg D.str (sI h)
 |_=>exact nS h
theorem Hy(h:two l=aa p):l = [p.1,p.2]:=by
 rcases l with _|⟨k,_|⟨v,q⟩⟩
 iterate 2 exact nS h
 . refine bJ h fun hq h=>?_;obtain rfl:=gY.mp hq;replace h:=sI h;subst h;rfl
noncomputable def rW:V->Option D
 | .d x=>aa x
 | .o _=>ab
noncomputable def rI:V->D
 | .d x=>x
 | .o x=>x
noncomputable def bS(ev:Ex->Option D)(O:Sg):Ex->Option D
 | .var i=>(ah O i).map rI
 |e=>ev e
noncomputable def fX(O:Sg):Tg->D->Option Sg
 | .one i,x=>aa (ag O i (.d x))
 | .tup is,.tup ds=>if is.length=ds.length then aa ((is.zip ds).foldl (fun s p=>ag s p.1 (.d p.2)) O) else ab
 |_,_=>ab
noncomputable def n7:Tg->Bool
 | .tup _=>true
 |_=>false
noncomputable def vL:D->Option (List D)
 | .int b=>if mB b then aa (iJ 0 b.toNat) else ab
 |_=>ab
noncomputable def Qw(d:D):Option D:=(vL d).map .tup
noncomputable def BU(a:Int):D->Option (List D)
 | .int b=>if mB a && mB b then aa (iJ a (b - a).toNat) else ab
 |_=>ab
noncomputable def oD:D->Option (List D)
 | .tup l=>aa l
 |_=>ab
noncomputable def BV:D->Option (List D)
 | .tup l=>aa l
 | .str x=>if x.all (· < 128) then aa (kU x) else ab
 |_=>ab
noncomputable def d5(t:Tg)(ev F:Ex->Option D):Ex->Option (List D)
 | .range1 b=>(ev b).bind vL
 | .range2 a b=>((ev a).bind d3).bind fun a=>(ev b).bind (BU a)
 | .zip a b=>if n7 t then (ev a).bind fun x=>((ev b).bind oD).bind fun y=>(BV x).map fun x=>iL x y else ab
 |e=>(F e).bind dQ
noncomputable def eQ(D:Ex->Option Bool):List Ex->Option Bool
 |[]=>aa true
 |e::r=>(D e).bind fun q=>cond q (eQ D r) (aa false)
noncomputable def lf(D:Ex->Option Bool):List Ex->Option Bool
 |[]=>aa false
 |e::r=>(D e).bind fun q=>cond q (aa true) (lf D r)
noncomputable def jl{α:Type}(f:α->Option (List D)):List α->Option (List D)
 |[]=>aa []
 |a::r=>(f a).bind fun b=>(jl f r).map fun bs=>b++bs
noncomputable def BW(i:Int):Option (Option Int):=if 0<=i then aa (aa i) else ab
noncomputable def rJ(ev:Ex->Option D):Option Ex->Option (Option Int)
 |none=>aa ab
 |some e=>((ev e).bind d3).bind BW
noncomputable def iH:D->Option Bool
 | .bool b=>aa b
 |_=>ab
noncomputable def Qx(ev:Ex->Option D):List Ex->Option D
 |[]=>ab
 |a::r=>match r with
  |[]=>ab
  |b::r=>if r.isEmpty then ((ev a).bind iH).bind fun q=>cond q (((ev b).bind iH).map .bool) (aa (.bool false)) else ab
noncomputable def BX(l:List D):Option D:=if l.length<=100000 then aa (.tup l) else ab
noncomputable def mC(l:List D):Option D:=if l.length<=100000 then aa (.list l) else ab
noncomputable def uX:Pr->Ex->Option Ex
 | .tuple,.range1 b=>aa b
 |_,_=>ab
noncomputable def AQ(ev:Ex->Option D)(O:Sg)(p:Pr)(a:Ex):Option Ex->Option D
 |some b=>(ev b).bind Qw
 |none=>(bS ev O a).bind (hX p)
noncomputable def lg(F:Sg->Ex->Option Bool)(O:Sg)(t:Tg)(ifs:List Ex)(k:Sg->Option (List D))(x:D):Option (List D) :=
 (fX O t x).bind fun I=>(eQ (F I) ifs).bind fun q=>cond q (k I) (aa [])
mutual
noncomputable def an(Φ:Nat->List D->Option D):Nat->Sg->Ex->Option D
 |0,_,_=>ab
 |n+1,O,e =>
  match e with
  | .var i=>(ah O i).bind rW
  | .none=>aa .none
  | .bool b=>aa (.bool b)
  | .int i=>aa (.int i)
  | .str l=>aa (.str l)
  | .tup es=>(a8 (an Φ n O) es).bind BX
  | .list es=>(a8 (an Φ n O) es).bind mC
  | .dict ks vs=>if ks.length<=15 then (a8 (an Φ n O) ks).bind fun a=>(a8 (an Φ n O) vs).bind fun b=>fy (.idict []) a b else ab
  | .bin o a b=>(an Φ n O a).bind fun x=>(an Φ n O b).bind fun y=>vK o x y
  | .neg a=>((an Φ n O a).bind d3).map fun i=>.int (-i)
  | .cmp o a b=>(an Φ n O a).bind fun x=>(bS (an Φ n O) O b).bind fun y=>(fE o x y).map .bool
  | .and es=>Qx (an Φ n O) es
  | .ite c a b=>(aJ Φ n O c).bind fun q=>cond q (an Φ n O a) (an Φ n O b)
  | .sub a i=>(bS (an Φ n O) O a).bind fun x=>(an Φ n O i).bind fun y=>ox x y
  | .cut a lo hi=>(an Φ n O a).bind fun x=>(rJ (an Φ n O) lo).bind fun l=>(rJ (an Φ n O) hi).bind fun h=>lc x l h
  | .comp1 cap elt t it ifs=>if cap.all (fun i=>(ah O i).isSome) then (d5 t (an Φ n O) (bS (an Φ n O) O) it).bind fun xs =>
   (jl (lg (aJ Φ n) O t ifs fun I=>(an Φ n I elt).map fun y=>[y]) xs).bind mC else ab
  | .comp2 cap elt t it ifs t₂ G F=>if cap.all (fun i=>(ah O i).isSome) then (d5 t (an Φ n O) (bS (an Φ n O) O) it).bind fun xs =>
   (jl (lg (aJ Φ n) O t ifs fun I=>(d5 t₂ (an Φ n I) (an Φ n I) G).bind fun J=>jl (lg (aJ Φ n) I t₂ F fun σ₂=>(an Φ n σ₂ elt).map fun y=>[y]) J) xs).bind mC else ab
  | .call f es=>(a8 (an Φ n O) es).bind (Φ f)
  | .prim p a=>AQ (an Φ n O) O p a (uX p a)
  | .get d k x=>(bS (an Φ n O) O d).bind fun a=>(an Φ n O k).bind fun b=>(an Φ n O x).bind fun c=>Oz a b c
  |_=>ab
noncomputable def aJ(Φ:Nat->List D->Option D):Nat->Sg->Ex->Option Bool
 |0,_,_=>ab
 |n+1,O,e =>
  match e with
  | .not a=>(aJ Φ n O a).map fun b => !b
  | .and es=>eQ (aJ Φ n O) es
  | .or es=>lf (aJ Φ n O) es
  | .chain o p a b c=>(an Φ n O a).bind fun x=>(an Φ n O b).bind fun y=>(an Φ n O c).bind fun z=>(fE o x y).bind fun u=>(fE p y z).map fun v=>u && v
  | .cmp o a b=>(an Φ n O a).bind fun x=>(bS (an Φ n O) O b).bind fun y=>fE o x y
  | .ite .. => ab
  |e=>(an Φ n O e).bind iH
end
inductive rX where
 |val (e:Ex)
 |own (e:Ex)
inductive St where
 |asg (x:Nat) (e:rX)
 |asg2 (x y:Nat) (r s:rX)
 |unp (xs:List Nat) (e:Ex)
 |setk (x:Nat) (k v:Ex)
 |app (x:Nat) (e:Ex)
 |ext (x:Nat) (e:Ex)
 |pop (y x:Nat)
 |ite (c:Ex) (a b:List St)
 |loop (t:Tg) (it:Ex) (body:List St)
 |whil (c:Ex) (body:List St)
 |ret (e:Ex)
 |bad
inductive Fl where
 |next
 |ret (d:D)
noncomputable def aX:Nat->Ex->List Nat
 |0,_=>[]
 |n+1,e=>match e with
  | .var i=>[i]
  | .tup es=>es.flatMap (aX n)
  | .list es=>es.flatMap (aX n)
  | .call _ es=>es.flatMap (aX n)
  | .ite _ a b=>aX n a++aX n b
  | .cmp _ a b=>(match a with | .var _=>[]|a=>aX n a)++(match b with | .var _=>[]|b=>aX n b)
  | .or es=>es.flatMap (aX n)
  | .and es=>es.flatMap (aX n)
  |_=>[]
noncomputable def dO(O:Sg)(i:Nat):Sg:=match ah O i with
 |some (.o x)=>ag O i (.d x)
 |_=>O
noncomputable def a0(O:Sg)(is:List Nat):Sg:=is.foldl dO O
noncomputable def kP(O:Sg):Sg:=a0 O (O.map (·.1))
noncomputable def mD:V->Option D
 | .o x=>aa x
 | .d _=>ab
noncomputable def oF(O:Sg)(i:Nat)(f:D->Option D):Option Sg:=((ah O i).bind mD).bind fun x=>(f x).map fun y=>ag O i (.o y)
noncomputable def jy(Φ:Nat->List D->Option D)(n:Nat)(O:Sg):rX->Option V
 | .val e=>(an Φ n O e).map .d
 | .own e=>(an Φ n O e).map .o
noncomputable def kQ:Ex->Bool
 | .list _=>true
 | .dict .. => true
 | .prim .list _=>true
 | .prim .dict _=>true
 |_=>false
noncomputable def ic(e:Ex):rX:=if kQ e then .own e else .val e
noncomputable def AR:Option St->St
 |some s=>s
 |none=>.bad
section
variable (f:Expr->Option Ex) (M:Cx)
noncomputable def rK(x:aq)(e:Expr):Option St:=(a5 M x).bind fun i=>(f e).map fun e'=>.asg i (ic e')
noncomputable def AS(y:aq)(p:aK)(g:aq)(D:aK):Vw->Option St
 | .name x _=>if g == ("pop" : aq) && D.endLine == p.line then (a5 M y).bind fun j=>(a5 M x).map (.pop j) else ab
 |_=>ab
noncomputable def vM(y:aq)(p:aK):Vw->Option St
 | .attr d g D=>AS M y p g D (vw d)
 |_=>ab
noncomputable def cNm(y:aq)(e:Expr):Vw->Option St
 | .call c args D p=>if args.isEmpty && D.isEmpty then vM M y p (vw c) else rK f M y e
 |_=>rK f M y e
noncomputable def BY:List Expr->List Expr->Option St
 |[],_=>ab
 |t₁::r,vs=>match r with
  |[]=>ab
  |t₂::r=>match vs with
   |[]=>ab
   |v₁::q=>match q with
    |[]=>ab
    |v₂::q=>if r.isEmpty && q.isEmpty && !bn v₁ && !bn v₂ && ([v₁,v₂].all (xo 8) || !([v₁,v₂].all (xa 8))) then
     (gg M t₁).bind fun i=>(gg M t₂).bind fun j=>(f v₁).bind fun D=>(f v₂).map fun e₂=>.asg2 i j (ic D) (ic e₂)
     else ab
noncomputable def cTp(ts:List Expr)(e:Expr):Vw->Option St
 | .tup vs _ _=>BY f M ts vs
 |_=>if jV e then ab else (a8 (gg M) ts).bind fun is=>(f e).map (.unp is)
noncomputable def cSt(k e:Expr):Vw->Option St
 | .name x _=>if mc k then ab else (a5 M x).bind fun i=>(f k).bind fun k'=>(f e).map (.setk i k')
 |_=>ab
noncomputable def BZ(e:Expr):Vw->Option St
 | .name x _=>cNm f M x e (vw e)
 | .tup ts _ _=>cTp f M ts e (vw e)
 | .sub d k _=>cSt f M k e (vw d)
 |_=>ab
noncomputable def KJ(p:aK)(g:aq)(D:aK)(e:Expr):Vw->Option St
 | .name x _=>(a5 M x).bind fun i=>(f e).bind fun e'=>if g == ("append" : aq) then aa (.app i e') else if g == ("extend" : aq) then aa (.ext i e') else ab
 |_=>ab
noncomputable def OC(p:aK)(e:Expr):Vw->Option St
 | .attr d g D=>if !bn e && D.endLine == p.line then KJ f M p g D e (vw d) else ab
 |_=>ab
noncomputable def B0:Vw->Option St
 | .call c args D p=>match args with
  |[]=>ab
  |e::r=>if r.isEmpty && D.isEmpty then OC f M p e (vw c) else ab
 |_=>ab
noncomputable def cS1(k:ej->St):ej->Option St
 | .Assign ts e _=>match ts with
  |[]=>ab
  |t::r=>if r.isEmpty then BZ f M e (vw t) else ab
 | .Expr e _=>B0 f M (vw e)
 | .If c a b _=>(f c).map fun F=>.ite F (a.map k) (b.map k)
 | .For t i b D _=>if D.isEmpty && !dH i then (dg M t).bind fun G=>(f i).map fun J=>.loop G J (b.map k) else ab
 | .While c b D _=>if D.isEmpty then (f c).map fun F=>.whil F (b.map k) else ab
 | .Return e _=>e.bind fun e=>(f e).map .ret
 |_=>ab
end
noncomputable def cS(gl:List (aq×Gl)):Nat->Cx->ej->St
 |0=>fun D D=>.bad
 |n+1=>fun M s=>AR (cS1 (cE gl n M) M (cS gl n M) s)
noncomputable def iA:List (aq×cF)->Nat->List (aq×Nat)
 |[],_=>[]
 |(x,k)::r,n=>if k == .local || k == .cell then (x,n)::iA r (n+1) else iA r n
noncomputable def cY(Y:Scope):Cx:={ names:=Y.names,sl:=iA Y.names 0,off:=(iA Y.names 0).length,wc:=jJ Y.names }
structure Fn where
 params:List Nat
 body:List St
noncomputable def vW(gl:List (aq×Gl))(params:List aq)(Y:Scope)(body:List ej):Option Fn :=
 match a8 (a5 (cY Y)) params with
 |some p=>if Y.kind == .function && gI (Y.names.map (·.1)) then aa ⟨p,body.map (cS gl 60 (cY Y))⟩ else ab
 |_=>ab
noncomputable def Qy(xs:List Nat)(O:Sg)(ds:List D):Option (Sg×Fl):=if ds.length=xs.length then aa ((xs.zip ds).foldl (fun s p=>ag s p.1 (.d p.2)) O,.next) else ab
noncomputable def oG:D->Option (List D)
 | .list l=>aa l
 |_=>ab
noncomputable def B5(v:D)(d:D):Option D:=(oG d).bind fun l=>if l.length<=100000 then aa (.list (l ++ [v])) else ab
noncomputable def B6(vs:List D)(d:D):Option D:=(oG d).bind fun l=>if l.length+vs.length<=100000 then aa (.list (l++vs)) else ab
noncomputable def B7(O:Sg)(y x:Nat)(l:List D):Option (Sg×Fl):=if l.length<=100000 then l.getLast?.map fun v=>(ag (ag O x (.o (.list l.dropLast))) y (.d v),.next) else ab
noncomputable def j7(p:Sg×Fl)(k:Sg->Option (Sg×Fl)):Option (Sg×Fl):=match p.2 with
 | .next=>k p.1
 | .ret _=>aa p
mutual
noncomputable def b8(Φ:Nat->List D->Option D):Nat->Sg->St->Option (Sg×Fl)
 |0,_,_=>ab
 |n+1,O,s =>
  match s with
  | .asg x r=>match r with
   | .val e=>(an Φ n (a0 O (aX n e)) e).map fun d=>(ag (a0 O (aX n e)) x (.d d),.next)
   | .own e=>(an Φ n (a0 O (aX n e)) e).map fun d=>(ag (a0 O (aX n e)) x (.o d),.next)
  | .asg2 x y G J=>if x=y then ab else (jy Φ n O G).bind fun F=>(jy Φ n O J).map fun L=>(ag (ag O x F) y L,.next)
  | .unp xs e=>((an Φ n (a0 O (aX n e)) e).bind oD).bind (Qy xs (a0 O (aX n e)))
  | .setk x k v=>(an Φ n O v).bind fun v=>(an Φ n O k).bind fun k=>(oF O x fun d=>gk d k v).map fun I=>(I,.next)
  | .app x e=>(an Φ n (a0 O (aX n e)) e).bind fun v=>(oF (a0 O (aX n e)) x (B5 v)).map fun I=>(I,.next)
  | .ext x e=>((an Φ n O e).bind oD).bind fun vs=>(oF O x (B6 vs)).map fun I=>(I,.next)
  | .pop y x=>(((ah O x).bind mD).bind oG).bind (B7 O y x)
  | .ite c a b=>(aJ Φ n (a0 O (aX n c)) c).bind fun q=>cond q (be Φ n (a0 O (aX n c)) a) (be Φ n (a0 O (aX n c)) b)
  | .loop t it body=>(d5 t (an Φ n (a0 O (aX n it))) (an Φ n (a0 O (aX n it))) it).bind fun xs=>cw Φ n (a0 O (aX n it)) t body xs
  | .whil c body=>oY Φ n O c body
  | .ret e=>(an Φ n (kP O) e).map fun d=>(kP O,.ret d)
  | .bad=>ab
noncomputable def be(Φ:Nat->List D->Option D):Nat->Sg->List St->Option (Sg×Fl)
 |0,_,_=>ab
 |n+1,O,ss=>match ss with
  |[]=>aa (O,.next)
  |s::r=>(b8 Φ n O s).bind fun p=>j7 p fun I=>be Φ n I r
noncomputable def cw(Φ:Nat->List D->Option D):Nat->Sg->Tg->List St->List D->Option (Sg×Fl)
 |0,_,_,_,_=>ab
 |n+1,O,t,body,xs=>match xs with
  |[]=>aa (O,.next)
  |x::xs=>(fX O t x).bind fun I=>(be Φ n I body).bind fun p=>j7 p fun σ₂=>cw Φ n σ₂ t body xs
noncomputable def oY(Φ:Nat->List D->Option D):Nat->Sg->Ex->List St->Option (Sg×Fl)
 |0,_,_,_=>ab
 |n+1,O,c,body=>(aJ Φ n O c).bind fun q=>cond q ((be Φ n O body).bind fun p=>j7 p fun σ₂=>oY Φ n σ₂ c body) (aa (O,.next))
end
noncomputable def B8(p:Sg×Fl):D:=match p.2 with
 | .ret d=>d
 | .next=>.none
noncomputable def mm(Φ:Nat->List D->Option D)(n:Nat)(f:Fn)(args:List D):Option D :=
 if args.length=f.params.length then (be Φ n (f.params.zip (args.map .d)) f.body).map B8 else ab
theorem Hz(h:rW v=aa d):v = .d d:=by obtain ⟨⟩:=v<;>(first|exact nS h|replace h:=sI h;subst h);rfl
theorem yz(h:mD v=aa d):v = .o d:=by obtain ⟨⟩:=v<;>(first|exact nS h|replace h:=sI h;subst h);rfl
theorem tJ{i:Int}(h:d3 d=aa i):d = .int i:=by obtain ⟨⟩:=d<;>(first|exact nS h|replace h:=sI h;subst h);rfl
theorem qa{i:Bool}(h:iH d=aa i):d = .bool i:=by obtain ⟨⟩:=d<;>(first|exact nS h|replace h:=sI h;subst h);rfl
theorem tX(h:oD d=aa l):d = .tup l:=by obtain ⟨⟩:=d<;>(first|exact nS h|replace h:=sI h;subst h);rfl
theorem tY(h:oG d=aa l):d = .list l:=by obtain ⟨⟩:=d<;>(first|exact nS h|replace h:=sI h;subst h);rfl
theorem FY(h:BX l=aa d):l.length<=100000/\d = .tup l:=by refine bL h fun h1 h=>?_;replace h:=sI h;subst h;exact ⟨h1,rfl⟩
theorem FZ(h:mC l=aa d):l.length<=100000/\d = .list l:=by refine bL h fun h1 h=>?_;replace h:=sI h;subst h;exact ⟨h1,rfl⟩
theorem qb(h:mC l=aa d){G:Prop}(k:l.length<=100000->d = .list l->G):G:=ac (FZ h) fun F z1=>k F z1
theorem yA(h:vL d=aa xs):∃ b,d = .int b/\mB b=true/\xs=iJ 0 b.toNat:=by
 rcases d with _|_|b|_|_|_|_|_|_
 iterate 2 exact nS h
 . refine bJ h fun h1 h=>?_;replace h:=sI h;subst h;exact ⟨b,rfl,h1,rfl⟩
 iterate 6 exact nS h
theorem F0(h:BU a d=aa xs):∃ b,d = .int b/\mB a=true/\mB b=true/\xs=iJ a (b - a).toNat:=by
 rcases d with _|_|b|_|_|_|_|_|_
 iterate 2 exact nS h
 . refine bJ h fun h1 h=>?_;replace h:=sI h;subst h;exact ⟨b,rfl,(bA h1).1,(bA h1).2,rfl⟩
 iterate 6 exact nS h
theorem F1{d:D}{xs:List D}(h:BV d=aa xs):d = .tup xs \/ ∃ s,d = .str s/\s.all (· < 128)=true/\xs=kU s:=by
 rcases d with _|_|_|s|l|_|_|_|_
 iterate 3 exact nS h
 . refine bJ h fun h1 h=>?_;replace h:=sI h;subst h;exact .inr ⟨s,rfl,h1,rfl⟩
 . replace h:=sI h;subst h;exact .inl rfl
 iterate 4 exact nS h
theorem kh{D:Type}{a b:Option D}{r:D}(h:cond q a b=aa r):(q=true/\a=aa r)\/(q=false/\b=aa r):=by
 rcases q with _|_
 . exact .inr ⟨rfl,h⟩
 . exact .inl ⟨rfl,h⟩
theorem F3(h:nR e=true):∃ x p,e = .Name x p:=by obtain ⟨⟩:=e<;>first|exact aR _ _ rfl|exact nB h
theorem F5(h:jV e=true):∃ es k p,e = .Tuple es k p:=by obtain ⟨⟩:=e<;>first|exact ck _ _ _ rfl|exact nB h
theorem iPn{D:Type}{c:Prop}[i:Decidable c]{x:Option D}{r:D}(h:(if c then ab else x)=aa r):¬c/\x=aa r:=by
 cases i with
 |isFalse q=>exact ⟨q,h⟩
 |isTrue _=>exact nS h
theorem F6{O I:Sg}{i:Nat}(h:oF O i f=aa I):∃ x y,ah O i=aa (.o x)/\f x=aa y/\I=ag O i (.o y):=by refine lk fun _ L=>ax h fun x F h=>ax F fun v hv F=>?_;obtain rfl:=yz F;clear F;refine aG h fun y J G=>?_;subst G;refine L (aR x y ⟨hv,J,rfl⟩)
theorem tK{O I:Sg}{i:Nat}(h:oF O i f=aa I){G:Prop}(k:∀ x y,ah O i=aa (.o x)->f x=aa y->I=ag O i (.o y)->G):G:=aM (F6 h) fun J z1 F=>aE F fun z2 N L=>k J z1 z2 N L
theorem F7(h:B5 v d=aa y):∃ l,d = .list l/\l.length<=100000/\y = .list (l ++ [v]):=by refine ax h fun l hl h=>bL h fun F h=>?_;replace h:=sI h;subst h;exact ⟨l,tY hl,F,rfl⟩
theorem F8(h:B6 vs d=aa y):∃ l,d = .list l/\l.length+vs.length<=100000/\y = .list (l++vs):=by refine ax h fun l hl h=>bL h fun F h=>?_;replace h:=sI h;subst h;exact ⟨l,tY hl,F,rfl⟩
theorem qm{I:Sg}{fl:Fl}(h:(x.bind fun p=>j7 p k)=aa (I,fl)):
 (∃ σ₁,x=aa (σ₁,.next)/\k σ₁=aa (I,fl)) \/ ∃ d,x=aa (I,.ret d)/\fl = .ret d:=by
 refine ax h fun D F h=>?_;obtain ⟨σ₁,f⟩:=D;subst F
 cases f with
 |next=>exact .inl ⟨σ₁,rfl,h⟩
 |ret d=>obtain ⟨⟩:=h;exact .inr ⟨d,rfl,rfl⟩
def XW(C:MS)(x:X)(d:D):Prop:=x = .d d \/ ∃ a ob,x = .o a/\(a,ob)∈C.own/\cv ob=aa d
theorem XW.rep(h:XW C x d)(S:ay B w H Z wc U W C s)(r:aT B w U s.heap x v):j6 B w U s.heap d v:=by
 refine lk fun _ F=>?_;rcases h with rfl|⟨a,ob,rfl,hm,e⟩
 . refine F (aC.weak r)
 . refine F (rl (fv.mp r) ((S.own _ hm).2.2.weak e))
theorem tu(h:∃ o,H.get? fP=aa o)(S:∀ b o,H.get? b=aa o->s.heap.get? b=aa o){a:am}(ha:s.heap.objs.size<=a):(a == gy)=false:=by
 refine ae h fun o e=>?_;clear h;have D:gy < mainGlobals:=by decide
 have:gy < a:=du (pR D (bH (S _ _ e))) ha;exact beq_eq_false_iff_ne.mpr (jE this)
theorem Qz{a b c:D}(h:vK o a b=aa c):jR B w H A Z wc C o (.d a) (.d b) (.d c):=by
 cases o with
 |Add =>
  have h:BS a b=aa c:=h;cases a with
  |int x=>refine aG h fun y hb F=>?_;subst F;obtain rfl:=aI hb;exact Kq
  |tup x =>
   refine ax h fun y hb h=>?_;obtain rfl:=ml hb;refine bL h fun hc h=>?_;replace h:=sI h;subst h;exact Kv hc
  |_=>exact nS h
 |Sub=>refine qv h fun x y F G h=>?_;subst F;subst G;replace h:=sI h;subst h;exact Kr
 |Mult =>
  refine qv h fun x y F G h=>?_;subst F;subst G;refine bL h fun hc h=>?_;replace h:=sI h;subst h;exact Ks hc
 |Mod =>
  refine qv h fun x y F G h=>?_;subst F;subst G;refine oR h fun hc h=>?_;replace h:=sI h;subst h;exact Kt hc
 |FloorDiv =>
  refine qv h fun x y F G h=>?_;subst F;subst G;refine oR h fun hc h=>?_;replace h:=sI h;subst h
  have:=not_or.mp hc;exact IT this.1 (nu.mp this.2)
 |_=>exact nS h
theorem lX{ob:OB}{d:D}(h:cv ob=aa d):match d with
 | .list l=>∃ xs,ob = .list xs/\ot xs=aa l
 | .idict l=>ob = .idict l
 | .bdict l=>ob = .bdict l
 | .tdict l=>ob = .tdict l
 |_=>False:=by
 cases ob with
 |list l=>refine aG h fun a ha F=>?_;subst F;exact ⟨l,rfl,ha⟩
 |_=>obtain ⟨⟩:=h;rfl
theorem QA{a i c:D}(h:ox a i=aa c)(Q:XW C x a):qK B w H A Z wc C x (.d i) (.d c):=by
 cases a with
 |tup l =>
  refine ax h fun i hi h=>?_;obtain rfl:=aI hi;refine bL h fun hc h=>?_;rcases Q with rfl|⟨b,ob,rfl,hm,e⟩
  . exact Kw hc.1 hc.2 h
  . exact (lX e).elim
 |list l =>
  refine ax h fun i hi h=>?_;obtain rfl:=aI hi;refine bL h fun hc h=>?_;intro U W s L N S F G;refine aP (Q.rep S F) fun t vs n P=>aE P fun J g T=>?_;clear P;subst J;refine cJ G fun u J=>?_;subst J;refine T.getK h fun v hv j=>aR ("list") _ ⟨⟨_,g,rfl⟩,v9,Dq ⟨_,g,rfl,n,rfl⟩ hc.1 hc.2 (by exact qG wq (hv)) ⟨cb s,j⟩⟩
 |idict l =>
  refine ax h fun k hi h=>?_;obtain rfl:=aI hi;refine aG h fun i hi J=>?_;subst J;intro U W s L N S F G;refine ae (Q.rep S F) fun t P=>aE P fun J _ f=>?_;clear P;refine ae f fun kvs V=>ac V fun hd T=>?_;clear f V;subst J;refine cJ G fun u J=>?_;subst J
  have:=y4 (h:=s.heap) (k:=k) T;rw [hi] at this;refine ae this fun t ht=>?_;clear this;exact aR ("dict") _ ⟨hd.typeIs,slot_dict_getitem.lookup,wpAny_getItem_of (knd:=bt B w) (m3 _ _ _ _) hd.mapOf ht ⟨eY s _,eL.mpr ⟨_,rfl⟩⟩⟩
 |_=>exact nS h
theorem QB{a c:D}{lo hi:Option Int}(h:lc a lo hi=aa c)(h1:gU lo)(F:gU hi):qi B w H A Z wc C (.d a) lo hi (.d c):=by
 cases a with
 |tup l=>refine bL h fun hc h=>?_;replace h:=sI h;subst h;exact Kx h1 F hc
 |list l=>refine bL h fun hc h=>?_;replace h:=sI h;subst h;exact IU h1 F hc
 |_=>exact nS h
theorem gz:∀ {l:List D} {is:List Int},cr l=aa is->l=is.map .int:=by
 intro l;induction l with
 |nil=>intro is h;replace h:=sI h;subst h;rfl
 |cons d r ih =>
  intro is h;refine ax h fun x G h=>aG h fun xs F J=>?_;subst J;refine rl (aI G) (rl (ih F) rfl)
theorem tL:∀ l:List Int,cr (l.map .int)=aa l:=by
 intro F;induction F with
 |nil =>
  exact rfl
 |cons i l D =>
  exact congrArg (gc (i :: ·)) (D)
theorem uY{i:Int}(h:0<=i/\i < 2 ^ 63):ox (.list l) (.int i)=l[i.toNat]? := if_pos h
theorem qM k:(dT (aj k)).bind cr=aa k:=tL k
theorem vN l k:fg (aj k) (.tdict l)=aa (l.contains k):=by show ((dT (aj k)).bind cr).map (fun k=>l.contains k)=_;refine rl (qM ..) rfl
theorem OD k:fg (aj k) (.idict [])=aa false:=by show ((dT (aj k)).bind cr).map (fun D=>false)=_;refine rl (qM ..) rfl
theorem uZ(F:l.length<=100000):gk (.tdict l) (aj k) (.bool true)=aa (.tdict (if l.contains k then l else l ++ [k])):=by
 show ((dT (aj k)).bind cr).bind (fun k=>if l.length<=100000 then aa (D.tdict (if l.contains k then l else l ++ [k])) else ab)=_
 refine rl (qM ..) (if_pos F)
theorem Ar:gk (.idict []) (aj k) (.bool true)=aa (.tdict [k]):=by show (cr (k.map .int)).map (fun k=>D.tdict [k])=_;refine rl (tL ..) rfl
theorem AT{U:List am}(r:aC B w U s.heap (aj k) v):∃ a,v = .ref a/\(jK (bt B w)).is s.heap k a:=by
 refine jc r fun a vs n F _ D hr=>?_;subst F;refine ⟨a,rfl,_,vs.toArray,n,D,rfl,rfl,?_⟩;have h:gG vs k:=lV.mpr hr;clear D hr r;induction h with
 |nil=>exact .nil
 |cons n t _ ih=>exact .cons (m3 _ _ _ _) ih
theorem kR{U:List am}(r:aC B w U s.heap (aj k) v){G:Prop}(J:∀ a,v = .ref a->(jK (bt B w)).is s.heap k a->G):G:=ae (AT r) fun F D=>ac D fun z1 z2=>J F z1 z2
theorem j6.nil{h:aB}(r:j6 B w U h d v):aC B w [] h d v:=by
 have S:bj U h [] h:=bj.less (fun J h=>by exact (a7 h).elim);rcases d with _|b|b|b|l|l|l|l|l
 iterate 5 exact aC.move S _ _ r
 . refine aP r fun b vs n F=>aE F fun G L hl=>?_;clear r F;subst G;exact lU.mpr ⟨b,vs,n,rfl,by exact fun h=>a7 h,L,hl.imp fun J J q=>q.move S⟩
 . refine ae r fun b F=>ac F fun G hd=>?_;clear r F;subst G;exact ⟨b,rfl,by exact fun h=>a7 h,hd⟩
 . refine ae r fun b F=>ac F fun G hd=>?_;clear r F;subst G;exact ⟨b,rfl,by exact fun h=>a7 h,hd⟩
 . refine ae r fun b F=>ac F fun G hd=>?_;clear r F;subst G;exact ⟨b,rfl,by exact fun h=>a7 h,pN S hd fun J e=>e⟩
theorem xS{h:aB}(r:fT B w h a []):dX B w U h a []:=by
 refine lk fun _ L=>ac r fun N J=>?_;clear r;refine ae J fun kvs G=>ac G fun D hl=>?_;clear J G;refine aP D fun o es ep F=>d4 F fun T Q hd hk P S=>?_;clear D F;clear S hk;replace hl:=hl.n;subst hl;have V:es.toList = []:=by
  have:=P.length;exact Cz.mp this
 refine L ?_;exact dX.iK N ([]) ⟨o,es,ep,T,Q,hd,by refine rl V ?_;rfl,by exact fun _ h=>(a7 h).elim,by constructor⟩ .nil
theorem EN{h:aB}(r:fT B w h a []):iz B w h a []:=by refine lk fun _ G=>ac r fun J D=>?_;clear r;refine ae D fun kvs F=>ac F fun hd hl=>?_;clear D F;replace hl:=hl.n;subst hl;refine G ⟨J,[],hd,.nil⟩
theorem uh{h:aB}:∀ {l:List (List Int)},
 ai (fun p q=>q.1=p/\q.2.1 ∉ U/\q.2.2 = .bool true /\ ∃ vs n,h.get? q.2.1=aa (dY vs n)/\gG vs p) l xs->(atKey xs k).isSome=l.contains k:=by
 intro l r;induction r with
 |nil=>rfl
 | @cons p q G D hq _ ih =>
  have h1:=hq.1;by_cases hk:p=k
  . subst hk;simp [atKey,h1]
  . have F:atKey (q::D) k=atKey D k:=by simp [atKey,h1,hk]
    refine rl F (rl ih ?_);have:(k == p)=false:=beq_eq_false_iff_ne.mpr fun e=>hk e.symm;refine rl wF (rl this (rl (tj ..) rfl))
set_option tactic.hygienic true in
theorem AU (e:A.in1.units < eA) (c:XW C x b) (Q:∀ {U:List am} {s:aw} {F:ar},j6 B w U s.heap b F->∃ d,F = .ref d/\dX B w U s.heap d l) :
 eJ B w H A Z wc C .In (.d (aj k)) x (l.contains k)/\eJ B w H A Z wc C .NotIn (.d (aj k)) x (!l.contains k):=by
 constructor
 . intro U W s P F S J L
   refine ae (Q (c.rep S L)) fun d a=>aE a fun N G V=>?_;clear a;refine ae V fun xs T=>ac T fun hd hl=>?_;clear V T;subst N;refine kR (k:=k) J fun t N ht=>?_;subst N;refine wpAny_in_heap e ht G hd (rl (uh hl) ⟨eY s _,ei.mpr rfl⟩)
 . intro U W s P F S J L;refine ae (Q (c.rep S L)) fun d a=>aE a fun N G V=>?_;clear a;refine ae V fun xs T=>ac T fun hd hl=>?_;clear V T;subst N;refine kR (k:=k) J fun t N ht=>?_;subst N;refine wpAny_notIn_heap e ht G hd (rl (uh hl) ⟨eY s _,ei.mpr rfl⟩)
theorem inS(V:aW 1 A){c:Bool}(h:fg a b=aa c)(T:XW C x b):eJ B w H A Z wc C .In (.d a) x c/\eJ B w H A Z wc C .NotIn (.d a) x (!c):=by
 have f:A.in1.units < cLine:=by have:=V.u;show A.units+1 < _;exact Bs this
 cases b with
 |tup l =>
  refine bJ h fun hc h=>?_;clear f;replace h:=sI h;subst h;refine ct hc fun g1 g2=>?_;clear h hc;rcases T with rfl|⟨_,ob,rfl,hm,e⟩
  . exact ⟨FP V g1 g2,Eg V g1 g2⟩
  . exact (lX e).elim
 |list l =>
  refine bJ h fun hc h=>?_;clear f;replace h:=sI h;subst h;refine ct hc fun g gl=>?_;have l₁:=iB 8 a g;have l₂:=l9 8 l gl;have i:A.units+1+min (m5 (fx l)) (dN a).depth < cLine:=by have:=V.u;have:=mZ (m5 (fx l)) (dN a).depth;omega
  constructor
  . intro U W s F N S J L;refine ae (aC.reads 8 a F g J) fun as G=>ae (aC.reads 9 (.list l) N gl (T.rep S L).nil) fun bs P=>SeqAt.in_list_reads P G l₂.1 l₁.1 i (by refine rl (qL ..) ?_;exact ⟨cb s,ei.mpr rfl⟩)
  . intro U W s F N S J L;refine ae (aC.reads 8 a F g J) fun as G=>ae (aC.reads 9 (.list l) N gl (T.rep S L).nil) fun bs P=>SeqAt.notIn_list_reads P G l₂.1 l₁.1 i (by refine rl (qL ..) ?_;exact ⟨cb s,ei.mpr rfl⟩)
 |idict l =>
  refine bJ h fun j h=>?_;clear V;obtain rfl:=gY.mp j;clear j;refine aG h fun k hk Q=>?_;subst Q;clear h;clear h;refine qx hk fun l Q hk=>?_;subst Q;refine rl (gz hk) ?_;exact AU (B:=B) (w:=w) (l:=[]) f T fun r=>by refine ae r fun d Q=>ac Q fun e hd=>?_;clear r Q;exact ⟨d,e,xS hd⟩
 |tdict l =>
  refine aG h fun k hk Q=>?_;subst Q;clear h;refine qx hk fun l Q hk=>?_;subst Q;refine rl (gz hk) (AU (B:=B) (w:=w) f T fun r=>r)
 |_=>exact nS h
theorem XW.int{i:Int}(h:XW C x (.int i)):x = .d (.int i):=h.elim id fun D=>by refine aM D fun _ _ F=>aE F fun _ _ e=>?_;clear D F;exact (lX e).elim
theorem XW.tup(h:XW C x (.tup l)):x = .d (.tup l):=h.elim id fun F=>by refine aM F fun _ _ G=>aE G fun _ _ e=>?_;clear F G;exact (lX e).elim
theorem XW.non(h:XW C x .none):x = .d .none:=h.elim id fun D=>by refine aM D fun _ _ F=>aE F fun _ _ e=>?_;clear D F;exact (lX e).elim
theorem rL(i:aW 1 A){c:Bool}(h:fE o a b=aa c)(T:XW C x b):eJ B w H A Z wc C o (.d a) x c:=by
 cases o with
 |Eq =>
  refine bJ h fun hc h=>?_;replace h:=sI h;subst h;refine ct hc fun e g=>?_;intro U W s G P S L N;refine ae (aC.reads 9 _ G e L) fun as J=>ae (aC.reads 9 _ P g (T.rep S N).nil) fun bs Q=>SeqAt.compareEq_reads J Q (iB 9 _ e).1 (iB 9 _ g).1 (by have:=(iB 9 _ e).2;have:=i.u;have:=kq (dN a).depth (dN b).depth;exact Bt ‹_› ‹_›) ⟨cb s,ei.mpr rfl⟩
 |NotEq =>
  refine bJ h fun hc h=>?_;replace h:=sI h;subst h;refine ct hc fun e g=>?_;intro U W s G P S L N;refine ae (aC.reads 9 _ G e L) fun as J=>ae (aC.reads 9 _ P g (T.rep S N).nil) fun bs Q=>SeqAt.compareNe_reads J Q (iB 9 _ e).1 (iB 9 _ g).1 (by have:=(iB 9 _ e).2;have:=i.u;have:=kq (dN a).depth (dN b).depth;exact Bt ‹_› ‹_›) ⟨cb s,ei.mpr rfl⟩
 |Lt=>refine ug h fun x y F V f=>?_;subst F;subst V;subst f;obtain rfl:=T.int;exact Oq
 |LtE=>refine ug h fun x y F V f=>?_;subst F;subst V;subst f;obtain rfl:=T.int;exact Os
 |Gt=>refine ug h fun x y F V f=>?_;subst F;subst V;subst f;obtain rfl:=T.int;exact Ot
 |In=>exact (inS i h T).1
 |NotIn=>refine aG h fun j hc F=>?_;subst F;exact (inS i hc T).2
 |Is=>refine yy h fun F V=>?_;subst F;subst V;obtain rfl:=T.non;exact Ou
 |IsNot=>refine aG h fun j hc F=>?_;subst F;refine yy hc fun F V=>?_;subst F;subst V;obtain rfl:=T.non;exact y3
 |_=>exact nS h
noncomputable def AV:Pr->ar
 | .len=>.builtin "len"
 | .tuple=>.type "tuple"
 | .list=>.type "list"
 | .sorted=>.builtin "sorted"
 | .sortedset=>.none
 | .sum=>.builtin "sum"
 | .dict=>.type "dict"
theorem XW.plain(G:XW C x b)(h1:∀ l,b ≠ .list l)(L:∀ l,b ≠ .idict l)(J:∀ l,b ≠ .bdict l)(h4:∀ l,b ≠ .tdict l):x = .d b:=by
 rcases G with e|⟨_,ob,rfl,hm,e⟩
 . exact e
 . clear hm;rcases ob with l|l|l|l
   . simp only [cv,sn] at e;refine ae e fun _ F=>?_;clear e;refine ac F fun _ e=>?_;clear F;exact absurd e.symm (h1 _)
   . simp only [cv,mY] at e;exact absurd e.symm (L _)
   . simp only [cv,mY] at e;exact absurd e.symm (J _)
   . simp only [cv,mY] at e;exact absurd e.symm (h4 _)
theorem E8(N:XW C x (.list l))(L:l.length<=100000):eW B w H A Z wc C (.builtin "len") [x] (.d (.int l.length)):=fun U W s vs S r=>by
 refine r.c fun b f V T F=>?_;subst V;replace F:=F.n;subst F;refine aP (N.rep S T) fun a vs n G=>aE G fun J P Q=>?_;clear G;subst J;have e:(vs.toArray.size:Int)=l.length:=by refine rl cx ?_;refine rl Q.length ?_;rfl
 refine Di ⟨_,P,rfl,n,rfl⟩ (by refine rl e ?_;have:=fits L;exact Int.not_le.mp ‹_›) ?_;refine rl e (⟨eY s _,eL.mpr ⟨_,rfl⟩⟩)
theorem E9(Q:XW C x (.list l))(P:l.length<=100000):eW B w H A Z wc C (.type "tuple") [x] (.d (.tup l)):=fun U W s vs S r=>by
 refine r.c fun e f b V G=>?_;subst b;replace G:=G.n;subst G;refine aP (Q.rep S V) fun a vs n J=>aE J fun N T L=>?_;clear J;subst N;refine call_tuple_list ⟨_,T,rfl,n,rfl⟩ (fun h' hk=>?_) (by refine rl cx ?_;refine rl (az L.length) ?_;exact dm P);have F:bb s { s with heap:=h' }:=⟨h',s.toks,rfl,hk⟩;exact ⟨bp F (gE _ _),np (s:={ s with heap:=h' }) (S.keeps F).lives (L.imp fun d v q=>q.move (cu F))⟩
theorem F9:eW B w H A Z wc C (.type "tuple") [.d (.tup l)] (.d (.tup l)):=fun U W s vs S r=>by
 refine r.c fun Q P L G F=>?_;subst L;replace F:=F.n;subst F;refine gD G fun a vs n e _ J N=>?_;subst e;exact call_tuple_same ⟨_,J,rfl,n,rfl⟩ ⟨cb s,G⟩
theorem Fa(N:l.length<=100000):eW B w H A Z wc C (.type "list") [.d (.tup l)] (.d (.list l)):=fun U W s vs S r=>by
 refine r.c fun b e X V F=>?_;subst X;replace F:=F.n;subst F;refine gD V fun a vs n L _ T J=>?_;subst L;refine call_list_seq a (.inr rfl) T rfl rfl (fun h' P hk Q=>?_) (by refine rl cx ?_;refine rl (az J.length) ?_;exact dm N);have G:bb s { s with heap:=h' }:=⟨h',s.toks,rfl,hk⟩;exact ⟨G,jQ.mpr ⟨_,vs,P,rfl,S.lives.fresh,Q,J.imp fun d v q=>q.move (cu G)⟩⟩
theorem KL(g:∃ o,H.get? fP=aa o)(f:XW C x (.idict l))(Q:l.length<=100000):eW B w H A Z wc C (.type "dict") [x] (.d (.idict l)):=fun U W s vs S r=>by
 refine lk fun _ T=>r.c fun m p k j F=>?_;subst k;replace F:=F.n;subst F;refine ae (f.rep S j) fun a L=>aE L fun P D J=>?_;clear L;refine ae J fun kvs G=>ac G fun hd N=>?_;clear J G;subst P;refine T ?_;refine kt_call_dict D hd (by refine rl (az N.length) ?_;exact dm Q) fun h' i V=>?_;refine ⟨(⟨h',s.toks,rfl,fun b o e=>V.extBut b o (cz (bH e)) (bc _ e)⟩),?_⟩;show aC B w U h' (.idict l) _;exact ⟨_,rfl,S.lives.fresh,tu g S.base (cH _),kvs,i,N⟩
theorem cO(h:bn e=false):gh (e::es) Z=(false,b5 e Z)::gh es Z:=by obtain ⟨⟩:=e<;>first|rfl|exact nT h
theorem KM{i:Int}{c:D}(hd:EV B w H A Z wc C d y)(hy:XW C y (.idict l))(hk:EV B w H A Z wc C k (.d (.int i)))(hx:EV B w H A Z wc C x (.d c))
 (hb:tm d "get" Z (b5 d Z)=b5 d Z) (L:(apos.endLine == pos.line)=true) (h1:bn k=false) (q:bn x=false) :
 EV B w H A Z wc C (.Call (.Attribute d "get" apos) [k,x] [] pos) (.d ((fI l i).elim c .int)):=fun U W s S=>by
 have J:backTo pos (gh [k,x] Z) = [(false,b5 k Z),(false,b5 x Z)]:=by
  refine rl (cO h1) (rl (cO q) rfl)
 refine wpAny_Call_method2_late hb L J ((hd U W s S).mono fun v s₁ G g=>?_);refine lk fun _ κ=>?_;clear J q h1 L hb hd;clear apos d;refine ae (hy.rep (S.keeps G) g) fun a q1=>aE q1 fun V P z=>?_;clear q1;refine ae z fun kvs u=>ac u fun T ra=>?_;clear z u;subst V;have N:=T;refine aP N fun o es ep V=>aE V fun ho f _=>?_;clear N V;refine κ ?_;refine aR ("dict") ("dict.get") ⟨F.plainAttrs_dict,F.slot_dict_get,F.type_dict_get,T.typeIs,fun b e=>by injection e with e;subst e;exact ⟨o,ho,f.2.1⟩,?_⟩;refine wpAny_dict_get2 (knd:=bt B w) P ((hk U W s₁ (S.keeps G)).mono fun b10 s₂ k₂ n=>(hx U W s₂ ((S.keeps G).keeps k₂)).mono fun r s₃ Q m=>?_);clear f ho P;refine cJ n fun t V=>?_;subst V;refine aR i _ ⟨m3 _ _ _ _,(tz T fun o e=>cj (bp k₂ Q) a o e).mapOf,bp (bp G (bp k₂ Q)) (eY s₃ _),?_⟩
 have:=y4 (h:=s.heap) (k:=i) ra;cases p:fI l i with
 |none=>rw [p] at this;refine rl this ?_;exact m.move (cu (eY s₃ _))
 |some j =>
  rw [p] at this;refine ae this fun t ht=>?_;clear this;refine rl ht (eL.mpr ⟨t,rfl⟩)
theorem qn:tm (.Name x p) g Z t=t:=by rfl
variable {O I:Sg}
set_option tactic.hygienic true in
theorem g9 {α G:Type} {f:α->Option G}:∀ {l:List α} {r:List G},a8 f l=aa r->ai (fun a b=>f a=aa b) l r:=by
 intro J;induction J with
 |nil =>
  intro r h;replace h:=sI h;subst h;exact .nil
 |cons a l F =>
  intro r h;unfold a8 at h;refine lk fun _ L=>?_;split at h
  . exact nS h
  . rename_i b hb;split at h
    . clear hb;clear b;exact nS h
    . rename_i bs D;replace h:=sI h;subst h;refine L (.cons hb (F D))
theorem br{i j:Nat}:∀ {O:Sg},ah (ag O i v) j=if j=i then aa v else ah O j:=by
 intro G;induction G with
 |nil =>
  unfold ag ah ah;by_cases h:j=i
  . subst h;simp
  . have:(i == j)=false:=beq_eq_false_iff_ne.mpr (dp h);simp [this,h]
 |cons F r D =>
  obtain ⟨k,w⟩:=F;unfold ag;by_cases hk:(k == i)=true
  . refine rl (if_pos hk) ?_;have e:=eq hk;subst e;unfold ah;by_cases h:j=k
    . subst h;simp
    . have:(k == j)=false:=beq_eq_false_iff_ne.mpr (dp h);simp [this,h]
  . refine rl (if_neg hk) ?_;unfold ah;by_cases h:(k == j)=true
    . refine rl (if_pos h) (rl (if_pos h) ?_);have:¬ j=i:=fun e'=>hk (by refine rl (eq h) ?_;refine rl e' ?_;exact ReflBEq.rfl);refine rl (if_neg this) rfl
    . refine rl (if_neg h) (rl (if_neg h) (rl D rfl))
section
variable {M:Cx}
structure Mt (M:Cx) (O:Sg) (Z:aS) (C:MS):Prop where
 names:Z.scope.names=M.names
 fk:Z.scope.kind = .function
 var:∀ x i,M.sl.lookup x=aa i->∀ v,ah O i=aa v->match v with
  | .d d=>(x,X.d d)∈C.vars
  | .o d=>∃ a ob,(x,X.o a)∈C.vars/\(a,ob)∈C.own/\cv ob=aa d
 inj:∀ x y i,M.sl.lookup x=aa i->M.sl.lookup y=aa i->x=y
 lt:∀ x i,M.sl.lookup x=aa i->i < M.off
 ltS:∀ i v,ah O i=aa v->i < M.off
theorem cg{i:Nat}(h:a5 M x=aa i):bad x=false/\(M.names.lookup x=aa .local\/(M.names.lookup x=aa .cell/\x∈M.wc))/\M.sl.lookup x=aa i:=by
 refine lk fun _ D=>bL h fun hm h=>?_;unfold BQ at hm;simp only [bX,pn,lF,beq_iff_eq] at hm;refine D (⟨hm.1,?_,h⟩);rcases hm.2 with h1|⟨h1,F⟩
 . exact .inl h1
 . exact .inr ⟨h1,by exact List.mem_of_elem_eq_true F⟩
theorem pP{i:Nat}(h:a5 M x=aa i){G:Prop}(k:bad x=false->(M.names.lookup x=aa .local\/(M.names.lookup x=aa .cell/\x∈M.wc))->M.sl.lookup x=aa i->G):G:=aE (cg h) fun D z1 z2=>k D z1 z2
theorem Mt.storable(D:Mt M O Z C){i:Nat}(h:a5 M x=aa i):eX Z M.wc x:=by refine pP h fun _ h1 _=>?_;delta eX eH;refine rl D.names h1
theorem ix:(x,y)∈upd l x y:=aY
theorem fS(h:p∈l)(D:p.1≠x):p∈upd l x y :=
 aN _ (b3.mpr ⟨h,by simpa using D⟩)
theorem Mt.set(F:Mt M O Z C){i:Nat}(h:M.sl.lookup x=aa i)d:Mt M (ag O i (.d d)) Z (C.set x (.d d)) where
 names:=F.names
 fk:=F.fk
 inj:=F.inj
 lt:=F.lt
 ltS:=fun j v hv=>by
  rw [br] at hv;split at hv
  . rename_i e;refine rl e (F.lt x i h)
  . exact F.ltS j v hv
 var:=fun y j G v hv=>by
  rw [br] at hv;split at hv
  . rename_i e;subst e;replace hv:=sI hv;subst hv;refine rl (F.inj y x j G h) ix
  . rename_i e;have J:y≠x:=fun q=>e (by rw [q,h] at G;replace G:=sI G;subst G;rfl)
    have:=F.var y j G v hv;rcases v with d'|d'
    . exact fS this J
    . refine aM this fun a ob L=>aE L fun h1 N P=>?_;clear this L;exact aR a ob ⟨fS h1 J,N,P⟩
theorem D6{i:Nat}(h:gg M e=aa i):∃ x p,e = .Name x p/\a5 M x=aa i:=by
 delta gg at h;refine lk fun _ D=>?_;split at h
 . refine D (aR _ _ ⟨rfl,h⟩)
 . exact nS h
theorem sX{i:Nat}(h:gg M e=aa i){G:Prop}(k:∀ x p,e = .Name x p->a5 M x=aa i->G):G:=aM (D6 h) fun F z1 D=>ac D fun z2 J=>k F z1 z2 J
theorem Mt.setL(q:ai (fun x i=>a5 M x=aa i) xs is):∀ {ds:List D} {O:Sg} {C:MS},Mt M O Z C->is.length=ds.length ->
 Mt M ((is.zip ds).foldl (fun s p=>ag s p.1 (.d p.2)) O) Z (C.setL (xs.zip (ds.map .d))):=by
 induction q with
 |nil=>intro ds O C F _;exact F
 | @cons x i xs is a _ ih =>
  intro ds O C F h;rcases ds with _|⟨d,ds⟩
  . contradiction
  . exact ih (F.set (cg a).2.2 d) (nm h)
theorem HA(h:ai (fun e i=>gg M e=aa i) es is):∃ xs,ai (fun e x=>∃ p,e = .Name x p) es xs/\ai (fun x i=>a5 M x=aa i) xs is:=by
 induction h with
 |nil=>exact ⟨[],.nil,.nil⟩
 |cons a _ ih =>
  refine lk fun _ G=>sX a fun x p e F=>ae ih fun xs D=>ac D fun h1 J=>?_;clear ih D;refine G (⟨x::xs,.cons ⟨p,e⟩ h1,.cons F J⟩)
theorem tZ(h:ai (fun e i=>gg M e=aa i) es is){G:Prop}(k:∀ xs,(ai (fun (e:Expr) x=>∃ p,e = .Name x p) es xs)->ai (fun x i=>a5 M x=aa i) xs is->G):G:=ae (HA h) fun F D=>ac D fun z1 z2=>k F z1 z2
theorem Ga(h:fX O (.tup is) d=aa I):∃ ds,d = .tup ds/\is.length=ds.length/\I=(is.zip ds).foldl (fun s p=>ag s p.1 (.d p.2)) O:=by
 rcases d with _|_|_|_|ds|_|_|_|_
 iterate 4 exact nS h
 . have h:(if is.length=ds.length then aa ((is.zip ds).foldl (fun s p=>ag s p.1 (.d p.2)) O) else ab)=aa I:=h
   by_cases hl:is.length=ds.length
   . rw [if_pos hl] at h;replace h:=sI h;subst h;exact ⟨ds,rfl,hl,rfl⟩
   . rw [if_neg hl] at h;exact nS h
 iterate 4 exact nS h
theorem yd{is:List Nat}{d:D}(h:fX O (.tup is) d=aa I){G:Prop}(k:∀ ds,d = .tup ds->is.length=ds.length->I=(is.zip ds).foldl (fun s p=>ag s p.1 (.d p.2)) O->G):G:=ae (Ga h) fun J F=>aE F fun z1 z2 L=>k J z1 z2 L
theorem OE(F:Mt M O Z C)(h:dg M t=aa N)(hb:fX O N d=aa I):
 ∃ bs,e8 t (.d d) bs/\(∀ b∈bs,eX Z M.wc b.1 /\ ∃ i∈iR N,a5 M b.1=aa i)/\Mt M I Z (C.setL bs):=by
 cases t with
 |Name x p =>
  refine aG h fun i hi G=>?_;subst G;replace hb:=sI hb;subst hb;refine ⟨[(x,.d d)],.name,fun b hb=>?_,F.set (cg hi).2.2 d⟩;refine rl (aV.mp hb) ⟨F.storable hi,i,aV.mpr rfl,hi⟩
 |Tuple es k p =>
  refine aG h fun is hi G=>?_;subst G;refine tZ (g9 hi) fun xs h1 J=>yd hb fun ds G hlen V=>?_;subst G;subst V;have L:xs.length=ds.length:=by refine rl J.length ?_;refine rl hlen ?_;rfl
  refine ⟨xs.zip (ds.map .d),.tup h1 L,fun b hb=>?_,Mt.setL J F hlen⟩;refine j9 hb fun j S=>ln S fun T _=>J.getK T fun i P Q=>⟨F.storable Q,i,fM P,Q⟩
 |_=>exact nS h
noncomputable def fY(C:MS)(Y:Scope):MS:={ vars:=C.vars.filter fun p=>decide ((p.1,dE)∈Y.names),own:=C.own,wr:=[] }
theorem t4:∀ {l:List aq},gI l=true->l.Nodup:=by
 intro F;induction F with
 |nil =>
  intro _;exact xc
 |cons a r D =>
  intro h;unfold gI at h;simp only [bX,pn] at h;exact gZ.mpr ⟨by simpa using h.1,D h.2⟩
theorem xA{i:Nat}:∀ {l:List (aq×cF)},(x,i)∈jN sl l↔(x,dE)∈l/\sl.lookup x=aa i:=by
 intro J;induction J with
 |nil =>
  simp [jN]
 |cons G r F =>
  obtain ⟨y,k⟩:=G;unfold jN;by_cases hk:k = .free
  . subst hk;first|refine rl (if_pos rfl) ?_|refine rl (if_pos (by decide)) ?_|refine rl (if_pos (by simp)) ?_
    cases hl:sl.lookup y with
    |none =>
     simp only;refine rp (F ..) ?_;constructor
     . rintro ⟨h1,D⟩;exact ⟨aN _ h1,D⟩
     . rintro ⟨h1,D⟩;rcases aL.mp h1 with e|h1
       . clear h1;obtain ⟨⟩:=e;rw [hl] at D;exact nS D
       . exact ⟨h1,D⟩
    |some j =>
     simp only [aL,ti];refine rp (F ..) ?_;constructor
     . rintro (⟨rfl,rfl⟩|⟨h1,D⟩)
       . exact ⟨.inl ⟨rfl,trivial⟩,hl⟩
       . exact ⟨.inr h1,D⟩
     . rintro ⟨⟨rfl,-⟩|h1,D⟩
       . rw [hl] at D;replace D:=sI D;subst D;exact .inl ⟨rfl,rfl⟩
       . exact .inr ⟨h1,D⟩
  . have hb:(k == dE)=false:=beq_false_of_ne hk
    simp only [hb,sw,if_false];refine rp (F ..) ?_;constructor
    . rintro ⟨h1,D⟩;exact ⟨aN _ h1,D⟩
    . rintro ⟨h1,D⟩;rcases aL.mp h1 with e|h1
      . clear h1 D hb;obtain ⟨⟩:=e;exact absurd rfl hk
      . exact ⟨h1,D⟩
theorem lK{i:Nat}:∀ {l:List (aq×cF)} {n:Nat},(x,i)∈gf l n->((x,NameKind.local)∈l\/(x,gw)∈l)/\n<=i/\i < n+(gf l n).length:=by
 intro L;induction L with
 |nil =>
  intro n h;exact (a7 h).elim
 |cons J r D =>
  intro n h;obtain ⟨y,k⟩:=J;unfold gf at h ⊢;split at h
  . rename_i hk;refine rl (if_pos hk) (rl el ?_);rcases aL.mp h with e|h
    . try clear h
      obtain ⟨⟩:=e;refine ⟨?_,cH _,by first|with_reducible exact rfl|exact rE|omega⟩
      simp only [lF,beq_iff_eq] at hk;try clear i
      rcases hk with rfl|rfl
      . exact .inl aY
      . exact .inr aY
    . refine aE (D h) fun h1 G F=>⟨h1.imp (aN _) (aN _),by (first|with_reducible assumption|with_reducible exact po ‹_›),by first|exact vC F|omega⟩
  . rename_i hk;refine rl (if_neg hk) (aE (D h) fun h1 G F=>⟨h1.imp (aN _) (aN _),G,F⟩)
theorem Eo{i:Nat}:∀ {l:List (aq×cF)} {n:Nat},(x,i)∈gf l n->(y,i)∈gf l n->x=y:=by
 intro G;induction G with
 |nil =>
  intro n h _;exact (a7 h).elim
 |cons F r D =>
  intro n h h';obtain ⟨z,k⟩:=F;unfold gf at h h';split at h
  . rename_i hk;rw [if_pos hk] at h';rcases aL.mp h with e|m<;>rcases aL.mp h' with e'|m'
    . clear h' h hk;obtain ⟨⟩:=e;obtain ⟨⟩:=e';rfl
    . clear h' h hk;obtain ⟨⟩:=e;have:=(lK m').2.1;exact (rB this).elim
    . clear h' h hk;obtain ⟨⟩:=e';have:=(lK m).2.1;exact (rB this).elim
    . exact D m m'
  . rename_i hk;rw [if_neg hk] at h';exact D h h'
theorem D7{D:List (aq×cF)}:∀ {l:List (aq×cF)},(nU D l).lookup x=aa k->l.lookup x=aa k\/(l.lookup x=aa .free/\k = .cell):=by
 intro L;induction L with
 |nil =>
  intro h;exact nS h
 |cons J r G =>
  intro h;obtain ⟨y,j⟩:=J;change List.lookup x ((if (j == dE && D.lookup y == aa .cell)=true then (y,gw) else (y,j))::nU D r)=aa k at h
  refine rl lC ?_;by_cases hc:(j == dE && D.lookup y == aa .cell)=true
  . rw [if_pos hc,lC] at h;cases F:x == y with
    |true =>
     rw [F] at h;replace h:=sI h;subst h;simp only [bX,beq_iff_eq] at hc;refine rl hc.1 (.inr ⟨rfl,rfl⟩)
    |false=>rw [F] at h;exact G h
  . rw [if_neg hc,lC] at h;cases F:x == y with
    |true=>rw [F] at h;exact .inl h
    |false=>rw [F] at h;exact G h
structure uw (M:Cx) (O:Sg) (Z:aS) (C:MS) (Y:Scope):Prop where
 cs:jj Z C (fY C Y) Y (jJ Y.names)
 mt:∀ cenv:aS,cenv.scope=kL Y Z->Mt (aQ M Y) O cenv (fY C Y)
 fresh:∀ x i,a5 (aQ M Y) x=aa i->∀ p∈(fY C Y).vars,x≠p.1
theorem nz(D:Mt M O Z C){Y:Scope}(g:eh M Y=true)(hc:(d0 M.sl Y.names).all (fun i=>(ah O i).isSome)=true):uw M O Z C Y:=by
 unfold eh at g;simp only [bX,beq_iff_eq] at g;refine ac g fun N G=>?_;clear g;refine ac N fun hk c=>?_;clear N;have P:=t4 c;have F:∀ x,(x,dE)∈Y.names->∃ i,M.sl.lookup x=aa i/\Z.kindOf x≠aa .local:=fun x J=>by
  have:=bq.mp G _ J;simp only [lF,beq_iff_eq,bX,mO] at this;clear G c hk P hc;rcases this with ((h|h)|h)|⟨⟨_,i,hi⟩,h⟩
  . clear D;contradiction
  . clear D;contradiction
  . clear D;contradiction
  . refine ⟨i,hi,?_⟩;unfold eH;refine rl D.names ?_;clear hi D;clear i;rcases h with h|h<;>(refine rl h ?_;decide)
 have L:∀ x i,(x,dE)∈Y.names->M.sl.lookup x=aa i->∃ v,ah O i=aa v:=fun x i J hi=>by
  have:i∈d0 M.sl Y.names:=dj.mpr ⟨(x,i),xA.mpr ⟨J,hi⟩,rfl⟩;exact mO.mp (bq.mp hc _ this)
 refine ⟨⟨hk,P,fun x J=>?_,fun p T=>?_,rfl,rfl,fun x J=>?_⟩,fun l V=>?_,fun x i J p T=>?_⟩
 . refine ae (F x J) fun i N=>ac N fun hi b=>?_;clear N;refine ae (L x i J hi) fun v hv=>?_
   have:=D.var x i hi v hv;clear hv hi G c hk L F P;clear i;rcases v with d|d
   . exact ⟨_,this,b⟩
   . refine aM this fun a ob N=>ac N fun h1 _=>?_;clear this N;exact ⟨_,h1,b⟩
 . refine jv T fun h1 S=>⟨h1,of_decide_eq_true S⟩
 . clear G c;refine bB J fun p T N=>?_;subst N;refine jv T fun h1 S=>?_;have:p.2 = .cell:=by simpa using S
   refine rl (az this) h1
 . have lk:∀ x i,(aQ M Y).sl.lookup x=aa i->((x,i)∈gf Y.names M.off)\/((x,dE)∈Y.names/\M.sl.lookup x=aa i):=fun x i h =>
    (bC.mp (mem_of_lookup h)).imp id fun h=>xA.mp h
   exact {
    names:=by refine rl V ?_;show (kL Y Z).names=nU M.names Y.names;unfold kL nU;refine rl D.fk ?_;unfold eH;refine rl D.names ?_;simp
    fk:=by refine rl V ?_;exact hk
    var:=fun x i hi v hv=>by
     rcases lk x i hi with h|⟨h1,S⟩
     . have:=(lK h).2.1
       have:=D.ltS i v hv;exact (vE ‹_› this).elim
     . have:=D.var x i S v hv;have m:∀ y:X,(x,y)∈C.vars->(x,y)∈(fY C Y).vars:=fun y k=>b3.mpr ⟨k,decide_eq_true h1⟩;clear S h1 hi lk hv;clear i;rcases v with d|d
       . exact m _ this
       . refine aM this fun a ob N=>aE N fun j h4 f=>?_;clear this N;exact aR a ob ⟨m _ j,h4,f⟩
    inj:=fun x y i J k=>by
     rcases lk x i J with h|⟨_,h⟩<;>rcases lk y i k with h'|⟨_,h'⟩
     . exact Eo h h'
     . have:=(lK h).2.1;have:=D.lt y i h';exact (vE ‹_› this).elim
     . have:=(lK h').2.1;have:=D.lt x i h;exact (vE ‹_› this).elim
     . exact D.inj x y i h h'
    lt:=fun x i J=>by
     show i < M.off+(gf Y.names M.off).length;rcases lk x i J with h|⟨_,h⟩
     . exact (lK h).2.2
     . have:=D.lt x i h;exact Bu this
    ltS:=fun i v hv=>by
     show i < M.off+(gf Y.names M.off).length
     have:=D.ltS i v hv;exact Bu this }
 . rintro rfl;refine jv T fun _ S=>?_;have Q:=of_decide_eq_true S;refine pP J fun _ h1 _=>?_;try clear a;try clear J;try clear S
   clear T G c hk;rcases h1 with h1|⟨h1,j⟩
   . rcases D7 h1 with h|⟨_,h⟩
     . rw [(tt P Q)] at h;replace h:=sI h;injection h
     . clear h1;contradiction
   . refine bB j fun q hq e=>jv hq fun h4 f=>?_;have n:q.2 = .cell:=by simpa using f
     have:(p.1,gw)∈Y.names:=by refine rl (az n) ?_;refine rl (az e) ?_;exact h4
     have:=pS P this Q;clear f h4 e hq h1 j;contradiction
end
variable {Φ:Nat → List D → Option D}{R:Nat}
section
variable (B w H mg mb gl Φ R)
noncomputable def mn:Gl->Option ar
 | .fn _=>ab
 | .len=>aa (.builtin "len")
 | .tuple=>aa (.type "tuple")
 | .list=>aa (.type "list")
 | .sorted=>aa (.builtin "sorted")
 | .set=>aa (.type "set")
 | .sum=>aa (.builtin "sum")
 | .dict=>aa (.type "dict")
 | .range=>aa (.type "range")
 | .zip=>aa (.type "zip")
structure WD:Prop where
 G:GW mg mb H
 sm:∃ o,H.get? fP=aa o
 bi:∀ x g v,gl.lookup x=aa g->mn g=aa v->BN mg mb x v
 fn:∀ x i,gl.lookup x=aa (.fn i)->∃ a,FN mg H x a /\ ∀ args d,Φ i args=aa d->kT B w H R a args d
def aD(M:Cx)(e:Expr)(e':Ex):Prop:=∀ (A:bo) (Z:aS) (C:MS) (O:Sg) (n:Nat),aW (R+4) A->Mt M O Z C ->
 (∀ d,an Φ n O e'=aa d->EV B w H A Z M.wc C e (.d d)) /\
 (∀ b,aJ Φ n O e'=aa b->TT B w H A Z M.wc C e b) /\
 (∀ d,bS (an Φ n O) O e'=aa d->∃ x,EV B w H A Z M.wc C e x/\XW C x d) /\
 (∀ t tgt xs,(n7 t=true->jV tgt=true)->d5 t (an Φ n O) (bS (an Φ n O) O) e'=aa xs->∃ ao,df B w H A Z M.wc C tgt e (xs.map .d) ao) /\
 (∀ t tgt xs,(n7 t=true->jV tgt=true)->d5 t (an Φ n O) (an Φ n O) e'=aa xs->df B w H A Z M.wc C tgt e (xs.map .d) [])
end
theorem OP.ite_of(hh:A.handled=ab)(h:EV B w H A Z wc C e x)(g:XW C x d)(hi:dQ d=aa xs):
 ∃ ao,df B w H A Z wc C tgt e (xs.map .d) ao/\(x = .d d->ao = []):=by
 have T:∀ ao:List am,(∀ U W s v,ay B w H Z wc U W C s->aT B w U s.heap x v->∀ a,v = .ref a->a ∉ U\/a∈ao)->df B w H A Z wc C tgt e (xs.map .d) ao:=by
  intro ao P U W s S;refine (h U W s S).mono fun v s₁ L J=>?_;have G:=S.keeps L;have Q:=g.rep G J;have V:ke B w A tgt U s₁ v (xs.map .d) ao:=by
   rcases d with _|b|b|b|l|l|l|b|l
   iterate 4 exact nS hi
   . replace hi:=sI hi;subst hi;refine jc Q fun a vs n F ha c hr=>?_;subst F;exact FR hh c (nv hr) (.inl ha)
   . replace hi:=sI hi;subst hi;refine aP Q fun a vs n N=>aE N fun F c hr=>?_;clear Q N;subst F;exact ue hh c (nv hr) (P U W s₁ _ G J a rfl)
   . replace hi:=sI hi;subst hi;refine ae Q fun a N=>ac N fun F hd=>?_;clear Q N;subst F
     have:=FS (U:=U) (tgt:=tgt) (ao:=ao) hh hd (P U W s₁ _ G J a rfl);refine rl cU this
   . exact nS hi
   . replace hi:=sI hi;subst hi;refine ae Q fun a N=>ac N fun F hd=>?_;clear Q N;subst F
     have:=FU (tgt:=tgt) (ao:=ao) hh hd (P U W s₁ _ G J a rfl);refine rl cU this
  refine aF V (fun it s₂ q=>?_) fun f f e=>e;refine ac q fun k F=>?_;clear q;refine dK F fun I fp wr St N=>cX N fun e wk j i m=>?_;clear F N;refine ⟨bp L k,I,fp,wr,St,e,wk,j,fun b hb=>?_,m⟩;cases e:s.heap.get? b with
  |none=>rfl
  |some o=>have:=cj L b o e;rw [i b hb] at this;exact nS this
 rcases g with rfl|⟨a,ob,rfl,hm,e⟩
 . refine ⟨[],T [] fun U W s v S r a ha=>?_,fun f=>rfl⟩;subst ha;rcases d with _|b|b|b|l|l|l|l|l
   . obtain e:=kG.mp r;exact si e
   . obtain e:=ei.mp r;exact si e
   . refine cJ r fun _ e=>si e
   . refine zI r fun _ e=>si e
   . refine aP (qZ.mp r) fun b _ _ F=>aE F fun e hb _=>?_;clear F;injection e with e;subst e;exact .inl hb
   . refine aP (jQ.mp r) fun b _ _ F=>aE F fun e hb _=>?_;clear F;injection e with e;subst e;exact .inl hb
   . refine ae r fun b F=>aE F fun e hb _=>?_;clear r F;injection e with e;subst e;exact .inl hb
   . refine ae r fun b F=>aE F fun e hb _=>?_;clear r F;injection e with e;subst e;exact .inl hb
   . refine ae r fun b F=>aE F fun e hb _=>?_;clear r F;injection e with e;subst e;exact .inl hb
 . refine ⟨[a],T [a] fun U W s v S r b hb=>?_,fun e=>by exact Mine.X.noConfusion e⟩;rw [fv.mp r] at hb;injection hb with hb;subst hb;exact .inr (.head _)
theorem OP.ite_ofK(hh:A.handled=ab)(h:EV B w H A Z wc C e x)(F:XW C x d)(hi:dQ d=aa xs){G:Prop}(k:∀ ao,df B w H A Z wc C tgt e (xs.map .d) ao->(x = .d d->ao = [])->G):G:=ae (OP.ite_of hh h F hi) fun L J=>ac J fun z1 z2=>k L z1 z2
noncomputable def u0(e:Ex):Bool := !([0,10,11,12,13,14,15,22,23,24]:List Nat).contains e.ctorIdx
theorem xB{e:Expr}(h:tU e=true):∀ D,isTrue e Z D=(do let v ← D;hK e.pos;mi [v] (truthy v)):=by
 intro D;cases e with
 |UnaryOp op x p =>
  cases op with
  |Not=>exact nB h
  |Invert=>rfl
  |UAdd=>rfl
  |USub=>rfl
 |BoolOp=>exact nB h
 |IfExp=>exact nB h
 |Compare=>exact nB h
 |_=>rfl
theorem I7{n:Nat}(h:u0 e'=true)(hb:aJ Φ n O e'=aa b):∃ m,an Φ m O e'=aa (.bool b):=by
 rcases n with _|n
 . exact nS hb
 . have e:aJ Φ (n+1) O e'=(an Φ n O e').bind iH:=by
    obtain ⟨⟩:=e'<;>first|rfl|exact absurd h fN
   rw [e] at hb;refine ax hb fun d hd hb=>⟨n,by refine rl hd ?_;refine rl (qa hb) ?_;rfl⟩
theorem ux{e':Ex}(h:∀ i,e' ≠ .var i){ev:Ex->Option D}:bS ev O e'=ev e':=by obtain ⟨⟩:=e'<;>first|rfl|(exact absurd rfl (h _))
noncomputable def vb(e:Ex):Bool := !([0,22,23,24]:List Nat).contains e.ctorIdx
theorem yB(h:vb e'=true){ev F:Ex->Option D}:d5 t ev F e'=(F e').bind dQ:=by obtain ⟨⟩:=e'<;>first|rfl|exact absurd h fN
theorem aD.mk'(J:vb e'=true)
 (h:∀ (A:bo) (Z:aS) (C:MS) (O:Sg) (n:Nat),aW (R+4) A->Mt M O Z C->∀ d,an Φ n O e'=aa d->EV B w H A Z M.wc C e (.d d))
 (G:∀ (A:bo) (Z:aS) (C:MS) (O:Sg) (n:Nat),aW (R+4) A->Mt M O Z C->∀ b,aJ Φ n O e'=aa b->TT B w H A Z M.wc C e b):aD B w H Φ R M e e':=by
 intro A Z C O n F D
 have hv:∀ i,e' ≠ .var i:=fun i e=>by subst e;exact nB J
 have L:∀ t tgt xs,d5 t (an Φ n O) (an Φ n O) e'=aa xs->df B w H A Z M.wc C tgt e (xs.map .d) []:=fun t tgt xs hi=>by
  rw [yB J] at hi;refine ax hi fun d hd hi=>OP.ite_ofK (tgt:=tgt) F.h (h A Z C O n F D d hd) (.inl rfl) hi fun ao h1 G=>?_;rw [G rfl] at h1;exact h1
 refine ⟨h A Z C O n F D,G A Z C O n F D,fun d hd=>?_,fun t tgt xs N hi=>?_,fun t tgt xs N hi=>L t tgt xs hi⟩
 . rw [ux hv] at hd;exact ⟨_,h A Z C O n F D d hd,.inl rfl⟩
 . refine ⟨[],L t tgt xs ?_⟩;rw [yB J] at hi ⊢;rw [ux hv] at hi;exact hi
theorem aD.gen(F:u0 e'=true)(G:tU e=true)
 (h:∀ (A:bo) (Z:aS) (C:MS) (O:Sg) (n:Nat),aW (R+4) A->Mt M O Z C->∀ d,an Φ n O e'=aa d->EV B w H A Z M.wc C e (.d d)):aD B w H Φ R M e e':=by
 have hi:vb e'=true:=by obtain ⟨⟩:=e'<;>first|rfl|exact absurd F fN
 exact aD.mk' hi h fun A Z C O n J D b hb=>by
  refine ae (I7 F hb) fun m hm=>An (h A Z C O m J D _ hm) (xB G)
theorem hF{es:List Expr}(h:es.any bn=false):∀ e∈es,bn e=false:=fun e D=>by
 have:=List.any_eq_false.mp h e D;simpa using this
theorem rf(h:∀ e∈es,bn e=false)(q:ai (fun e d=>EV B w H A Z wc C e (.d d)) es ds):ES B w H A Z wc C pos es (ds.map .d):=by
 induction q with
 |nil=>exact hM
 |cons a _ ih=>exact gi a (ih fun e F=>h e (aN _ F)) (cO (h _ aY))
theorem vc(D:Mt M O Z C){x:aq}{p:aK}{i:Nat}(hb:bad x=false)(hk:M.names.lookup x=aa .local\/M.names.lookup x=aa .cell\/M.names.lookup x=aa .free)(hl:M.sl.lookup x=aa i)
 {v:V} (hv:ah O i=aa v):match v with
  | .d d=>EV B w H A Z wc C (.Name x p) (.d d)
  | .o d=>∃ y,EV B w H A Z wc C (.Name x p) y/\XW C y d:=by
 have hd:(x == ("__debug__" : aq))=false:=(bO hb).1;have ev:∀ {y:X},(x,y)∈C.vars->EV B w H A Z wc C (.Name x p) y:=fun hm=>by
  rcases hk with h|h|h
  . exact uI hm (by unfold eH;refine rl D.names ?_;exact h) hd
  . exact ut hm (by unfold eH;refine rl D.names ?_;exact h) hd
  . exact IM hm (by unfold eH;refine rl D.names ?_;exact h) hd ((bO hb).2)
 have:=D.var x i hl v hv;rcases v with d|d
 . exact ev this
 . refine aM this fun a ob F=>aE F fun h1 G J=>?_;clear this F;exact ⟨_,ev h1,.inr ⟨a,ob,rfl,G,J⟩⟩
theorem I8{i:Nat}(hb:bad x=false)(hk:M.names.lookup x=aa .local\/M.names.lookup x=aa .cell\/M.names.lookup x=aa .free)(hl:M.sl.lookup x=aa i):
 aD B w H Φ R M (.Name x p) (.var i):=by
 intro A Z C O n G D
 have L:∀ m d,an Φ m O (.var i)=aa d->EV B w H A Z M.wc C (.Name x p) (.d d):=fun m d hd=>by
  clear G n;rcases m with _|m
  . clear D hl hk hb;exact nS hd
  . refine ax hd fun y F hd=>?_;rw [Hz hd] at F;exact vc (p:=p) D hb hk hl F
 have P:∀ m d,bS (an Φ m O) O (.var i)=aa d->∃ y,EV B w H A Z M.wc C (.Name x p) y/\XW C y d:=fun m d hd=>by
  clear G n L;refine aG hd fun y F J=>?_;subst J;clear hd;clear m;rcases y with y|y
  . exact ⟨_,vc (p:=p) D hb hk hl F,.inl rfl⟩
  . exact vc (p:=p) D hb hk hl F
 refine ⟨L n,fun b hb=>?_,P n,fun t tgt xs S hi=>?_,fun t tgt xs S hi=>?_⟩
 . clear D G P;clear hl hk;rcases n with _|n
   . exact nS hb
   . refine ax hb fun c hc hb=>?_;rw [qa hb] at hc;exact An (L n _ hc) (xB rfl)
 . refine ax hi fun d hd hi=>ae (P n d hd) fun y J=>ac J fun h1 Q=>?_;clear J;refine OP.ite_ofK (tgt:=tgt) G.h h1 Q hi fun ao N _=>⟨ao,N⟩
 . refine ax hi fun d hd hi=>?_;clear hb D;refine OP.ite_ofK (tgt:=tgt) G.h (L n d hd) (.inl rfl) hi fun ao N h4=>?_;rw [h4 rfl] at N;exact N
theorem qo(N:u0 e'=true)(J:tU e=true)G(hd:∀ n O d,an Φ n O e'=aa d->d=G)(h:∀ (A:bo) (Z:aS) (wc:List aq) (C:MS),EV B w H A Z wc C e (.d G)):
 aD B w H Φ R M e e':=aD.gen N J fun A Z C O n P F d L=>by refine rl (hd n O d L) ?_;exact h A Z M.wc C
theorem md{n:Nat}(G:aW (R+4) A)(F:Mt M O Z C)(h:ai (aD B w H Φ R M) es es'):∀ {ds:List D},a8 (an Φ n O) es'=aa ds->ai (fun e d=>EV B w H A Z M.wc C e (.d d)) es ds:=by intro ds hd;exact h.trans' (fun e e' d a b=>(a A Z C O n G F).1 d b) (g9 hd)
theorem I9(L:es.any bn=false)(h:ai (aD B w H Φ R M) es es'):aD B w H Φ R M (.Tuple es k p) (.tup es') :=
 aD.gen rfl rfl fun A Z C O n N D d hd=>by
  rcases n with _|n
  . exact nS hd
  . refine ax hd fun ds F hd=>ac (FY hd) fun J G=>?_;subst G;exact y0 (rf (hF L) (md N D h F)) J
theorem HB(L:es.any bn=false)(h:ai (aD B w H Φ R M) es es'):aD B w H Φ R M (.List es p) (.list es') :=
 aD.gen rfl rfl fun A Z C O n N D d hd=>by
  rcases n with _|n
  . exact nS hd
  . refine ax hd fun ds F hd=>qb hd fun J G=>?_;subst G;exact IP (rf (hF L) (md N D h F)) J
theorem Ja(ha:aD B w H Φ R M a G)(hb:aD B w H Φ R M b b'):aD B w H Φ R M (.BinOp a o b p) (.bin o G b') :=
 aD.gen rfl rfl fun A Z C O n F D d hd=>by
  refine lk fun _ J=>?_;rcases n with _|n
  . clear hb ha;exact nS hd
  . refine ax hd fun x L hd=>ax hd fun y N hd=>J ?_;exact Km ((ha A Z C O n F D).1 _ L) ((hb A Z C O n F D).1 _ N) (Qz hd)
theorem Jb(ha:aD B w H Φ R M a J):aD B w H Φ R M (.UnaryOp .USub a p) (.neg J) :=
 aD.gen rfl rfl fun A Z C O n P D d hd=>by
  refine lk fun _ N=>?_;rcases n with _|n
  . clear ha;exact nS hd
  . refine aG hd fun i F L=>?_;subst L;refine ax F fun y G F=>?_;rw [tJ F] at G;refine N (Oo ((ha A Z C O n P D).1 _ G) Ku)
theorem Jc{a i:Expr}(N:mc i=false)(ha:aD B w H Φ R M a L)(hi:aD B w H Φ R M i G):aD B w H Φ R M (.Subscript a i p) (.sub L G) :=
 aD.gen rfl rfl fun A Z C O n J D d hd=>by
  rcases n with _|n
  . exact nS hd
  . refine ax hd fun x Q hd=>ax hd fun y S hd=>ae ((ha A Z C O n J D).2.2.1 _ Q) fun z F=>ac F fun h1 P=>?_;clear F;exact Ap h1 ((hi A Z C O n J D).1 _ S) (QA hd P) (fun o j=>by obtain ⟨⟩:=i<;>first|rfl|exact nT N)
theorem KN{n:Nat}(G:aW (R+4) A)(D:Mt M O Z C)(h:(e=ab/\e'=ab) \/ ∃ x x',e=aa x/\e'=aa x'/\aD B w H Φ R M x x')
 (hl:rJ (an Φ n O) e'=aa l):kb B w H A Z M.wc C e l/\gU l:=by
 refine lk fun _ F=>?_
 rcases h with ⟨rfl,rfl⟩|⟨x,x',rfl,rfl,J⟩
 . clear D G
   replace hl:=sI hl;subst hl;refine F ⟨.none,trivial⟩
 . refine ax hl fun i hi hl=>ax hi fun d hd hi=>?_;rw [tJ hi] at hd;refine bL hl fun L hl=>?_;clear hi;clear hi d;replace hl:=sI hl;subst hl;refine F ⟨.some ((J A Z C O n G D).1 _ hd),L⟩
theorem zT{n:Nat}(J:aW (R+4) A)(D:Mt M O Z C)(h:(e=ab/\e'=ab) \/ ∃ x x',e=aa x/\e'=aa x'/\aD B w H Φ R M x x')
 (hl:rJ (an Φ n O) e'=aa l) {G:Prop} (k:kb B w H A Z M.wc C e l->gU l->G):G:=by obtain ⟨F,z1⟩:=KN J D h hl;exact k F z1
theorem Jd{lo hi:Option Expr}(ha:aD B w H Φ R M a N)(h1:(lo=ab/\F=ab) \/ ∃ x x',lo=aa x/\F=aa x'/\aD B w H Φ R M x x')
 (L:(hi=ab/\G=ab) \/ ∃ x x',hi=aa x/\G=aa x'/\aD B w H Φ R M x x'):aD B w H Φ R M (.Subscript a (.Slice lo hi ab q) p) (.cut N F G) :=
 aD.gen rfl rfl fun A Z C O n J D d hd=>by
  refine lk fun _ P=>?_;rcases n with _|n
  . clear L h1 ha;exact nS hd
  . refine ax hd fun x V hd=>ax hd fun l hl hd=>ax hd fun h hh hd=>zT J D h1 hl fun X S=>zT J D L hh fun Q T=>P ?_;exact Hj ((ha A Z C O n J D).1 _ V) X Q (QB hd S T)
theorem HC(Q:WD B w H mg mb gl Φ R){i:Nat}(hb:bad f=false)(hk:M.names.lookup f=aa .globalImplicit)(N:gl.lookup f=aa (.fn i))(L:es.any bn=false)(F:es ≠ [])
 (h:ai (aD B w H Φ R M) es es'):aD B w H Φ R M (.Call (.Name f q) es [] p) (.call i es') :=
 aD.gen rfl rfl fun A Z C O n T D d hd=>by
  refine lk fun _ V=>?_;rcases n with _|n
  . clear h F L N hk hb;exact nS hd
  . refine ax hd fun ds P hd=>ae (Q.fn f i N) fun a S=>ac S fun X J=>?_;clear S;clear N;rcases es with _|⟨e,es⟩
    . exact absurd rfl F
    . refine V ?_;exact Hl Q.G X (by unfold eH;refine rl D.names ?_;exact hk) (bO hb).1 (T.mono (c0 R 4))
       (rf (hF L) (md T D h P)) (J ds d hd) (cO (hF L e aY))
theorem aW.one{n:Nat}(D:aW (n+4) A):aW 1 A:=D.mono (f9 _ _)
theorem Je(hm:ni o b=false)(ha:aD B w H Φ R M a Q)(hb:aD B w H Φ R M b b'):aD B w H Φ R M (.Compare a [o] [b] p) (.cmp o Q b'):=by
 have F:∀ (A:bo) (Z:aS) (C:MS) (O:Sg) (n:Nat),aW (R+4) A->Mt M O Z C->∀ x y c,an Φ n O Q=aa x->bS (an Φ n O) O b'=aa y->fE o x y=aa c ->
  EV B w H A Z M.wc C (.Compare a [o] [b] p) (.d (.bool c))/\TT B w H A Z M.wc C (.Compare a [o] [b] p) c:=fun A Z C O n G D x y c J L hc=>by
  refine ae ((hb A Z C O n G D).2.2.1 _ L) fun z N=>ac N fun h1 T=>?_;clear N
  have S:=(ha A Z C O n G D).1 _ J
  have h4:=rL (B:=B) (w:=w) (H:=H) (Z:=Z) (wc:=M.wc) (C:=C) G.one hc T
  exact ⟨Kn S h1 h4 hm,rb S h1 h4 hm⟩
 refine aD.mk' rfl (fun A Z C O n G D d hd=>?_) fun A Z C O n G D c hd=>?_
 . refine lk fun _ P=>?_;rcases n with _|n
   . clear F;exact nS hd
   . refine ax hd fun x J hd=>ax hd fun y L hd=>?_;clear hb ha hm;refine aG hd fun c hc N=>?_;subst N;refine P ((F A Z C O n G D x y c J L hc).1)
 . refine lk fun _ P=>?_;clear hb ha hm;rcases n with _|n
   . exact nS hd
   . refine ax hd fun x J hd=>ax hd fun y L hd=>P ?_;exact (F A Z C O n G D x y c J L hd).2
theorem Gb{a b c:Expr}(hm:qs [o,p] [b,c]=false)(ha:aD B w H Φ R M a J)(hb:aD B w H Φ R M b b')(hc:aD B w H Φ R M c G):
 aD B w H Φ R M (.Compare a [o,p] [b,c] pos) (.chain o p J b' G):=by
 refine aD.mk' rfl (fun A Z C O n F D d hd=>?_) fun A Z C O n F D u hd=>?_
 . obtain ⟨⟩:=n<;>exact nS hd
 . refine lk fun _ P=>?_
   rcases n with _|n
   . clear hc hb ha hm;exact nS hd
   . refine ax hd fun x Q hd=>ax hd fun y S hd=>ax hd fun z N hd=>ax hd fun u T hd=>aG hd fun v hv L=>?_;subst L;refine P (FO ((ha A Z C O n F D).1 _ Q) ((hb A Z C O n F D).1 _ S) ((hc A Z C O n F D).1 _ N) (rL F.one T (.inl rfl)) (rL F.one hv (.inl rfl)) hm)
theorem Jf(ha:aD B w H Φ R M a F):aD B w H Φ R M (.UnaryOp .Not a p) (.not F):=by
 refine aD.mk' rfl (fun A Z C O n G D d hd=>?_) fun A Z C O n G D u hd=>?_
 . obtain ⟨⟩:=n<;>exact nS hd
 . rcases n with _|n
   . exact nS hd
   . refine aG hd fun b hb J=>?_;subst J;exact Ko ((ha A Z C O n G D).2.1 _ hb)
theorem Jg{n:Nat}(F:aW (R+4) A)(D:Mt M O Z C)(a:ai (aD B w H Φ R M) es es'):∀ {b:Bool},eQ (aJ Φ n O) es'=aa b->oq B w H A Z M.wc C es b:=by
 induction a with
 |nil=>intro b h;replace h:=sI h;subst h;exact Hf
 | @cons e e' es es' a r ih =>
  intro b h;refine ax h fun q ht h=>?_;rcases kh h with ⟨rfl,h⟩|⟨rfl,h⟩
  . have:=yq ((a A Z C O n F D).2.1 _ ht) (fun G=>ih h);exact this
  . replace h:=sI h;subst h
    have:=yq (c:=true) ((a A Z C O n F D).2.1 _ ht) (fun e=>by exact nB e) (es:=es);exact this
theorem KO{n:Nat}(F:aW (R+4) A)(D:Mt M O Z C)(a:ai (aD B w H Φ R M) es es'):∀ {b:Bool},lf (aJ Φ n O) es'=aa b->oX B w H A Z M.wc C es b:=by
 induction a with
 |nil=>intro b h;replace h:=sI h;subst h;exact IQ
 | @cons e e' es es' a r ih =>
  intro b h;refine ax h fun q ht h=>?_;rcases kh h with ⟨rfl,h⟩|⟨rfl,h⟩
  . replace h:=sI h;subst h
    have:=y2 (c:=true) ((a A Z C O n F D).2.1 _ ht) (fun e=>by exact nT e) (es:=es);exact this
  . have:=y2 ((a A Z C O n F D).2.1 _ ht) (fun G=>ih h);exact this
theorem Jh(h:ai (aD B w H Φ R M) es es'):aD B w H Φ R M (.BoolOp .And es p) (.and es'):=by
 refine aD.mk' rfl (fun A Z C O n G D d hd=>?_) fun A Z C O n G D u hd=>?_
 . refine lk fun _ J=>?_;rcases n with _|n
   . clear h;exact nS hd
   . cases h with
     |nil=>exact nS hd
     | @cons a V r S h1 hr =>
      cases hr with
      |nil=>exact nS hd
      | @cons b b' r S Q hr =>
       refine bJ hd fun N hd=>?_;rcases hr with _|_
       . refine ax hd fun q F hd=>ax F fun x F hq=>?_;rw [qa hq] at F;clear hq N;rcases kh hd with ⟨rfl,hd⟩|⟨rfl,hd⟩
         . clear x;refine aG hd fun c hc P=>?_;subst P;refine ax hc fun y L hc=>?_;rw [qa hc] at L
           have:=zJ (pos:=p) ((h1 A Z C O n G D).1 _ F) (fun T=>(Q A Z C O n G D).1 _ L);refine J ?_;simpa using this
         . clear x;replace hd:=sI hd;subst hd
           have:=zJ (c:=true) (pos:=p) ((h1 A Z C O n G D).1 _ F) (fun e=>by exact nB e) (e₂:=b);refine J ?_;simpa using this
       . clear hd;clear hd;clear n;exact nB N
 . rcases n with _|n
   . exact nS hd
   . exact Kp (Jg G D h hd)
theorem KP(h:ai (aD B w H Φ R M) es es'):aD B w H Φ R M (.BoolOp .Or es p) (.or es'):=by
 refine aD.mk' rfl (fun A Z C O n F D d hd=>?_) fun A Z C O n F D u hd=>?_
 . obtain ⟨⟩:=n<;>exact nS hd
 . rcases n with _|n
   . exact nS hd
   . exact Op (KO F D h hd)
theorem Ji{c a b:Expr}(hc:aD B w H Φ R M c L)(ha:aD B w H Φ R M a N)(hb:aD B w H Φ R M b b'):aD B w H Φ R M (.IfExp c a b p) (.ite L N b'):=by
 refine aD.mk' rfl (fun A Z C O n F D d hd=>?_) fun A Z C O n F D u hd=>?_
 . refine lk fun _ G=>?_;rcases n with _|n
   . clear hb ha hc;exact nS hd
   . refine ax hd fun q J hd=>?_;rcases kh hd with ⟨rfl,hd⟩|⟨rfl,hd⟩
     . refine G ?_;exact AI ((hc A Z C O n F D).2.1 _ J) (fun P=>(ha A Z C O n F D).1 _ hd) (fun e=>by exact nT e)
     . refine G ?_;exact AI ((hc A Z C O n F D).2.1 _ J) (fun e=>by exact nB e) (fun P=>(hb A Z C O n F D).1 _ hd)
 . obtain ⟨⟩:=n<;>exact nS hd
theorem Gc{α:Type}{f:α->Option (List D)}:∀ {l:List α} {r:List D},jl f l=aa r->∃ rs:List (List D),ai (fun a b=>f a=aa b) l rs/\rs.flatten=r:=by
 intro Q;induction Q with
 |nil =>
  intro r h;replace h:=sI h;subst h;exact ⟨[],.nil,rfl⟩
 |cons a l J =>
  intro r h;refine lk fun _ N=>ae (oB h) fun b F=>ac F fun hb h=>?_;clear F;refine ae (oM h) fun bs L=>ac L fun G F=>?_;clear L;subst F;refine ae (J G) fun rs F=>ac F fun h1 P=>?_;clear F;refine N ?_;exact ⟨b::rs,.cons hb h1,by rw [pp,P]⟩
theorem tM{α:Type}{f:α->Option (List D)}{l:List α}(L:jl f l=aa r){G:Prop}(k:∀ (rs:List (List D)),ai (fun a b=>f a=aa b) l rs->rs.flatten=r->G):G:=ae (Gc L) fun J F=>ac F fun z1 z2=>k J z1 z2
theorem ku(rs:List (List D)):(rs.map fun l=>l.map X.d).flatten=rs.flatten.map X.d:=by
 induction rs with
 |nil=>rfl
 |cons a r ih=>refine rl b7 ?_;refine rl pp ?_;refine rl pp ?_;refine rl i4 ?_;refine rl ih ?_;rfl
theorem jm{i:Expr}{Z:aS}(h:dH i=false):∀ x,gu i Z x=pure x:=by intro x;obtain ⟨⟩:=i<;>first|rfl|exact nT h
theorem AW{n:Nat}(F:aW (R+4) A)(D:Mt M O Z C)(a:ai (aD B w H Φ R M) es es'):∀ {b:Bool},eQ (aJ Φ n O) es'=aa b->TS B w H A Z M.wc C es b:=by
 induction a with
 |nil=>intro b h;replace h:=sI h;subst h;exact KB
 | @cons e e' es es' a r ih =>
  intro b h;refine ax h fun q ht h=>?_;rcases kh h with ⟨rfl,h⟩|⟨rfl,h⟩
  . have:=zO ((a A Z C O n F D).2.1 _ ht) (fun G=>ih h);exact this
  . replace h:=sI h;subst h
    have:=zO (b:=true) ((a A Z C O n F D).2.1 _ ht) (fun e=>by exact nB e) (r:=es);exact this
theorem qN{D:Tg}(h:dg M t=aa D):n7 D=true->jV t=true:=by
 cases t with
 |Name x p=>refine aG h fun i F G=>?_;subst G;exact fun e=>nB e
 |Tuple es k p=>exact fun F=>rfl
 |_=>exact nS h
theorem Jj{n:Nat}(e:aW (R+4) A){stc:MS}(F:Mt M O G stc)(ht:dg M tgt=aa T)(N:∀ x i,a5 M x=aa i->i∈iR T->∀ p∈stc.vars,x≠p.1)
 (P:ai (aD B w H Φ R M) a L) (h:lg (aJ Φ n) O T L k x=aa zs) :
 ∃ bs q I,e8 tgt (.d x) bs/\gM stc G M.wc bs/\(∀ b∈bs,∃ i,i∈iR T/\a5 M b.1=aa i)/\Mt M I G (stc.setL bs)/\TS B w H A G M.wc (stc.setL bs) a q/\((q=true/\k I=aa zs)\/(q=false/\zs = [])):=by
 refine lk fun _ Q=>?_
 refine ax h fun I hb h=>?_
 refine ax h fun q ha h=>?_
 refine ae (OE F ht hb) fun bs J=>aE J fun g S X=>?_;clear J
 refine Q ?_
 refine ck bs q I ⟨g,⟨fun b hb=>(S b hb).1,fun b hb p c=>?_⟩,fun b hb=>(S b hb).2,X,AW e X P ha,?_⟩
 . refine ae ((S b hb).2) fun i J=>ac J fun hi V=>?_;clear J
   exact N _ _ V hi p c
 . refine lk fun _ Q=>?_;clear X S g ha hb;clear P N ht F;rcases kh h with ⟨rfl,h⟩|⟨rfl,h⟩
   . refine Q (.inl ⟨rfl,h⟩)
   . clear bs;replace h:=sI h;subst h;refine Q (.inr ⟨rfl,rfl⟩)
theorem za{n:Nat}(f:aW (R+4) A){stc:MS}(F:Mt M O J stc)(ht:dg M tgt=aa N)(P:∀ x i,a5 M x=aa i->i∈iR N->∀ p∈stc.vars,x≠p.1)
 (Q:ai (aD B w H Φ R M) S L) (h:lg (aJ Φ n) O N L k x=aa zs) {G:Prop} (e:∀ bs q I,e8 tgt (.d x) bs->gM stc J M.wc bs->((∀ b∈bs,∃ i,i∈iR N/\a5 M b.1=aa i))->Mt M I J (stc.setL bs)->TS B w H A J M.wc (stc.setL bs) S q->((q=true/\k I=aa zs)\/(q=false/\zs = []))->G):G:=by obtain ⟨X,z1,z2,j,a,g,c,T,V⟩:=Jj f F ht P Q h;exact e X z1 z2 j a g c T V
theorem As{n:Nat}(T:aW (R+4) A){stc:MS}(F:Mt M O G stc)(ht:dg M tgt=aa N)(P:∀ x i,a5 M x=aa i->i∈iR N->∀ p∈stc.vars,x≠p.1)
 {V:List Expr} (Q:ai (aD B w H Φ R M) V L) (c:aD B w H Φ R M elt J)
 (h:lg (aJ Φ n) O N L (fun I=>(an Φ n I J).map fun y=>[y]) x=aa zs):eR B w H A G M.wc stc tgt V elt (.d x) (zs.map .d):=by
 refine za T F ht P Q h fun bs q I g S _ f ts h=>?_
 rcases h with ⟨rfl,h⟩|⟨rfl,rfl⟩
 . refine aG h fun y b X=>?_;subst X
   exact eR.iK bs true g S ts (fun a=>⟨.d y,(c A G _ I n T f).1 _ b,rfl⟩) (fun e=>by exact nT e)
 . exact eR.iK bs false g S ts (fun e=>by exact nB e) (fun a=>rfl)
def gp(B:bm)(w:bh)(H:aB)(A:bo)(Z:aS)(wc:List aq)(C:MS)(elt:Expr)(gens:List kr)(Y:Scope)(pos:aK)(zs:List D):Prop :=
 ∃ tgt i₁ ifs F stc wcn xs ao,gens=⟨tgt,i₁,ifs,0⟩::F/\(∀ x,gu i₁ Z x=pure x)/\jj Z C stc Y wcn/\df B w H A Z wc C tgt i₁ xs ao /\
  e5 B w H A Z wcn stc (.ListComp elt gens Y pos) tgt Y xs (zs.map .d)
theorem gp.eK{B:bm}{w:bh}{H:aB}{A:bo}{Z:aS}{wc:List aq}{C:MS}{Y:Scope}(c:gp B w H A Z wc C elt gens Y pos zs){G:Prop}(T:∀ tgt i₁ ifs F stc wcn xs ao,gens=⟨tgt,i₁,ifs,0⟩::F->(∀ x,gu i₁ Z x=pure x)->jj Z C stc Y wcn->df B w H A Z wc C tgt i₁ xs ao->e5 B w H A Z wcn stc (.ListComp elt gens Y pos) tgt Y xs (zs.map .d)->G):G:=Px c fun X z1 z2 f a e b P V=>cX V fun Q S L J N=>T X z1 z2 f a e b P Q S L J N
theorem gp.ev{Y:Scope}(P:gp B w H A Z wc C elt gens Y p zs):EV B w H A Z wc C (.ListComp elt gens Y p) (.d (.list zs)):=by refine gp.eK P fun tgt i ifs F stc wcn xs ao G J hc hi hl=>?_;clear P;subst G;exact zQ J hc hi hl
theorem At{elt i t:Expr}{Y:Scope}(q:eh M Y=true)(N:dH i=false)
 (hi:aD B w H Φ R M i k) (ht:dg (aQ M Y) t=aa a) (g:ai (aD B w H Φ R (aQ M Y)) S L) (r:aD B w H Φ R (aQ M Y) elt G)
 {n:Nat} (e:aW (R+4) A) (F:Mt M O Z C) (hd:an Φ n O (.comp1 (d0 M.sl Y.names) G a k L)=aa d) :
 ∃ zs,d = .list zs/\gp B w H A Z M.wc C elt [⟨t,i,S,0⟩] Y p zs:=by
 rcases n with _|n
 . exact nS hd
 . refine bJ hd fun Q hd=>?_
   refine ax hd fun xs V hd=>ax hd fun ys c hd=>qb hd fun o m=>?_;subst m;have I:=nz F q Q;refine ae ((hi A Z C O n e F).2.2.2.1 a t xs (qN ht) V) fun ao P=>tM c fun rs h1 j=>?_;have hb:(rs.map fun l:List D=>l.map X.d).flatten.length<=100000:=by refine rl (ku ..) ?_;refine rl (aZ ..) ?_;refine rl j ?_;exact o
   refine ⟨ys,rfl,t,i,S,[],_,_,_,ao,rfl,jm N,I.cs,P,?_⟩
   have:=e5.one (B:=B) (w:=w) (H:=H) (A:=A) (Z:=Z) (wcn:=jJ Y.names) (stc:=fY C Y) (elt:=elt) (i₁:=i) (tgt:=t) (ifs:=S) (Y:=Y) (pos:=p) (xs:=xs.map .d) (zss:=rs.map fun l:List D=>l.map X.d) e.h hb fun J T =>
    ai.mapL (f:=X.d) (ai.mapR (f:=fun l:List D=>l.map X.d) (h1.imp fun x zs b=>As e (I.mt J T) ht (fun x i b u=>I.fresh x i b) g r b))
   rw [ku,j] at this;exact this
theorem Jk(h:mz a b=true):∀ i∈iR a,i ∉ iR b:=fun i hi=>by
 have:=bq.mp h i hi;simpa using this
theorem xC:∀ {bs:List (aq×X)} {C:MS},p∈(C.setL bs).vars->p∈C.vars \/ ∃ b∈bs,b.1=p.1
 |[],_,h=>.inl h
 |(x,y)::r,C,h=>by
  rcases xC (bs:=r) (C:=C.set x y) h with h|⟨b,hb,e⟩
  . rcases nG h with rfl|⟨h,_⟩
    . exact .inr ⟨(x,y),by exact .head _,rfl⟩
    . exact .inl h
  . exact .inr ⟨b,by exact aN _ ‹_›,e⟩
theorem Au{elt i t t₂ i₂:Expr}{c i' S:Ex}{Y:Scope}(hg:eh M Y=true)(y:dH i=false)(o:dH i₂=false)
 (hi:aD B w H Φ R M i i') (ht:dg (aQ M Y) t=aa t') (hfs:ai (aD B w H Φ R (aQ M Y)) fs v) (he:aD B w H Φ R (aQ M Y) elt c)
 (hi2:aD B w H Φ R (aQ M Y) i₂ S) (ht2:dg (aQ M Y) t₂=aa L) (u:ai (aD B w H Φ R (aQ M Y)) J N) (hdj:mz t' L=true)
 {n:Nat} (z:aW (R+4) A) (G:Mt M O Z C) (hd:an Φ n O (.comp2 (d0 M.sl Y.names) c t' i' v L S N)=aa d) :
 ∃ zs,d = .list zs/\gp B w H A Z M.wc C elt [⟨t,i,fs,0⟩,⟨t₂,i₂,J,0⟩] Y p zs:=by
 rcases n with _|n
 . exact nS hd
 . refine bJ hd fun b10 hd=>?_
   refine ax hd fun xs hxs hd=>ax hd fun ys hys hd=>qb hd fun hz q0=>?_;subst q0;have F:=nz G hg b10;refine ae ((hi A Z C O n z G).2.2.2.1 t' t xs (qN ht) hxs) fun ao a10=>tM hys fun rs h1 h2=>?_;have hb:(rs.map fun l:List D=>l.map X.d).flatten.length<=100000:=by refine rl (ku ..) ?_;refine rl (aZ ..) ?_;refine rl h2 ?_;exact hz
   refine ⟨ys,rfl,t,i,fs,[⟨t₂,i₂,J,0⟩],_,_,_,ao,rfl,jm y,F.cs,a10,?_⟩
   have:=e5.two (B:=B) (w:=w) (H:=H) (A:=A) (Z:=Z) (wcn:=jJ Y.names) (stc:=fY C Y) (elt:=elt) (i₁:=i) (tgt:=t) (t₂:=t₂) (i₂:=i₂) (f₁:=fs) (f₂:=J) (Y:=Y) (pos:=p) (xs:=xs.map .d) (zss:=rs.map fun l:List D=>l.map X.d) z.h hb (fun ο => jm o) fun a hce =>
    ai.mapL (f:=X.d) (ai.mapR (f:=fun l:List D=>l.map X.d) (h1.imp fun x zs P=>?_))
   . rw [ku,h2] at this;exact this
   . refine za z (F.mt a hce) ht (fun x i P ο => F.fresh x i P) hfs P fun bs q I g fr hs M' ts P=>?_;rcases P with ⟨rfl,P⟩|⟨rfl,rfl⟩
     . refine ax P fun Q T P=>tM P fun r h3 h4=>jq.iK bs true g fr ts (fun ο => ⟨Q.map .d,r.map fun l=>l.map X.d,(hi2 A a _ I n z M').2.2.2.2 L t₂ Q (qN ht2) T,?_,by refine rl (ku ..) ?_;refine rl h4 ?_;rfl⟩) (fun e=>by exact nT e);refine ai.mapL (f:=X.d) (ai.mapR (f:=fun l:List D=>l.map X.d) (h3.imp fun g11 g10 m=>As z M' ht2 (fun x j P hj p hp=>?_) u he m));rcases xC hp with hp|⟨b,hb,e⟩
       . exact F.fresh x j P p hp
       . rintro rfl;refine ae (hs b hb) fun k q0=>ac q0 fun hk V=>?_;clear q0;rw [e,P] at V;replace V:=sI V;subst V;exact Jk hdj _ hk hj
     . exact jq.iK bs false g fr ts (fun e=>by exact nB e) (fun ο => rfl)
theorem Gd{elt i t:Expr}{Y:Scope}(X:eh M Y=true)(J:dH i=false)
 (hi:aD B w H Φ R M i Q) (ht:dg (aQ M Y) t=aa N) (L:ai (aD B w H Φ R (aQ M Y)) S G) (b:aD B w H Φ R (aQ M Y) elt F) :
 aD B w H Φ R M (.ListComp elt [⟨t,i,S,0⟩] Y p) (.comp1 (d0 M.sl Y.names) F N Q G) :=
 aD.gen rfl rfl fun A Z C O n a D d hd=>by
  refine ae (At (p:=p) X J hi ht L b a D hd) fun zs T=>ac T fun V P=>?_;clear T;subst V;exact P.ev
theorem Ge{elt i t t₂ i₂:Expr}{X F:Tg}{Y:Scope}(k:eh M Y=true)(T:dH i=false)(Q:dH i₂=false)
 (hi:aD B w H Φ R M i e) (ht:dg (aQ M Y) t=aa X) (c:ai (aD B w H Φ R (aQ M Y)) f S) (m:aD B w H Φ R (aQ M Y) elt N)
 (b:aD B w H Φ R (aQ M Y) i₂ L) (ht2:dg (aQ M Y) t₂=aa F) (V:ai (aD B w H Φ R (aQ M Y)) J G) (a:mz X F=true) :
 aD B w H Φ R M (.ListComp elt [⟨t,i,f,0⟩,⟨t₂,i₂,J,0⟩] Y p) (.comp2 (d0 M.sl Y.names) N X e S F L G) :=
 aD.gen rfl rfl fun A Z C O n l D d hd=>by
  refine ae (Au (p:=p) k T Q hi ht c m b ht2 V a l D hd) fun zs g=>ac g fun j P=>?_;clear g;subst j;exact P.ev
theorem aD.it{e':Ex}(hv:∀ i,e' ≠ .var i)(J:∀ n O,an Φ n O e'=ab)(h1:∀ n O,aJ Φ n O e'=ab)(hr:∀ t ev L F,d5 t ev L e'=d5 t ev F e')
 (h:∀ (A:bo) (Z:aS) (C:MS) (O:Sg) (n:Nat),aW (R+4) A->Mt M O Z C->∀ t tgt xs,(n7 t=true->jV tgt=true)->d5 t (an Φ n O) (an Φ n O) e'=aa xs->df B w H A Z M.wc C tgt e (xs.map .d) []) :
 aD B w H Φ R M e e':=by
 intro A Z C O n G D
 refine ⟨(fun d hd=>by rw [J] at hd;exact nS hd),(fun b hb=>by rw [h1] at hb;exact nS hb),(fun d hd=>by rw [ux hv,J] at hd;exact nS hd),fun t tgt xs ht hi=>⟨[],h A Z C O n G D t tgt xs ht ?_⟩,h A Z C O n G D⟩
 rw [hr t _ _ (an Φ n O)] at hi
 exact hi
theorem f5(h:bad f=false):(f == ("__debug__" : aq))=false:=(bO h).1
theorem HD(G:GW mg mb H)(Q:BN mg mb f (.type T))(hk:Z.kindOf f=aa .globalImplicit)(hd:(f == ("__debug__" : aq))=false)(N:bn e=false)
 (c:EV B w H A Z wc C e x)
 (h:∀ U W s v,ay B w H Z wc U W C s->aT B w U s.heap x v->ak (av B w) A (call (.type T) [v]) (fun r s₁=>bb s s₁/\ke B w A tgt U s₁ r xs []) (fun F F=>False) s) :
 df B w H A Z wc C tgt (.Call (.Name f q) [e] [] p) xs []:=fun U W s S=>by
 refine Call_ (ki S.ek hk (lw (by refine rl S.eg ?_;exact G.g.keeps S.base) Q.1 (by refine rl S.eb ?_;exact G.b.keeps S.base) Q.2
  (mW (aF (gi (pos:=p) c hM (cO N) U W s S) (fun vs s' q=>?_) fun F F e=>e) (cO N) rfl)) hd)
 refine lk fun _ L=>ac q fun k r=>?_;clear q;clear p;cases r with
 |cons j P =>
  clear c N hd hk Q G;replace P:=P.n;subst P;refine L (aF (h U W s' _ (S.keeps k) j) (fun v s₁ q=>aF q.2 (fun it s₂ D=>?_) fun F F e=>e) fun F F e=>e);refine lk fun _ L=>ac D fun i V=>?_;clear D;refine dK V fun I fp wr St d=>cX d fun e wk l J m=>?_;clear V d;have a:=bp k q.1;refine L (⟨bp a i,I,fp,wr,St,e,wk,l,fun b hb=>?_,m⟩);cases e:s.heap.get? b with
  |none=>rfl
  |some o=>have:=cj a b o e;rw [J b hb] at this;exact nS this
theorem Fb(L:WD B w H mg mb gl Φ R)(hb:bad f=false)(hk:M.names.lookup f=aa .globalImplicit)(T:gl.lookup f=aa .range)(N:bn b=false)
 (h:aD B w H Φ R M b b'):aD B w H Φ R M (.Call (.Name f q) [b] [] p) (.range1 b'):=by
 refine aD.it (fun i e=>by exact Mine.Ex.noConfusion e) (fun n O=>by obtain ⟨⟩:=n<;>rfl) (fun n O=>by cases n with|zero=>rfl|succ n=>obtain ⟨⟩:=n<;>rfl) (fun t ev c X=>rfl) fun A Z C O n Q D t tgt xs ht hi=>?_
 refine lk fun _ V=>?_
 refine ax hi fun d F hi=>?_
 refine ae (yA hi) fun i P=>aE P fun J hl a=>?_;clear P;subst J;subst a
 refine V ?_
 refine HD L.G (L.bi f _ _ T rfl) (by unfold eH;refine rl D.names ?_;exact hk) (f5 hb) N ((h A Z C O n Q D).1 _ F) fun U W s v S r=>?_
 clear hi F h N T hk hb
 clear hi
 clear b'
 refine cJ r fun t J=>?_;subst J
 refine call_range_1 ⟨ur s _ fun b o e=>bc _ e,?_⟩
 have:=yv (B:=B) (w:=w) (A:=A) (tgt:=tgt) (U:=U) (ao:=[]) (s:={ s with heap:=s.heap.push { cls:=.type "range",data:=.fields #[.int 0 s.toks,.int i t,.int 1 (s.toks+1)] },toks:=s.toks+1+1 }) Q.h (IsRange.new s.heap 0 i 1 s.toks t (s.toks+1)) (by decide) (of_decide_eq_true hl)
 rwa [Int.sub_zero] at this
theorem zb(G:GW mg mb H)(t:BN mg mb f (.type T))(hk:Z.kindOf f=aa .globalImplicit)(hd:(f == ("__debug__" : aq))=false)(D:bn J=false)(F:bn e₂=false)
 (N:EV B w H A Z wc C J a) (L:EV B w H A Z wc C e₂ Q)
 (h:∀ U W s V c,ay B w H Z wc U W C s->aT B w U s.heap a V->aT B w U s.heap Q c->ak (av B w) A (call (.type T) [V,c]) (fun r s₁=>ak (av B w) A (fW r) (fun it s₂=>bb s s₂ /\ ∃ I fp wr St,it = .ref I/\WK B w A tgt I fp wr (wr++U) s₂.heap xs St/\St 0 s₂.heap /\
  (∀ b∈wr,s.heap.get? b=ab)/\(∀ b∈fp,(∃ o,s₂.heap.get? b=aa o)/\(b∈wr\/b ∉ U\/b∈([]:List am)))) (fun P P=>False) s₁) (fun P P=>False) s) :
 df B w H A Z wc C tgt (.Call (.Name f q) [J,e₂] [] p) xs []:=fun U W s S=>by
 refine Call_ (ki S.ek hk (lw (by refine rl S.eg ?_;exact G.g.keeps S.base) t.1 (by refine rl S.eb ?_;exact G.b.keeps S.base) t.2
  (mW (aF (gi (pos:=p) N (gi L hM (cO F)) (cO D) U W s S) (fun vs s' q=>?_) fun P P e=>e) (cO D) (by refine rl (cO F) ?_;rfl))) hd)
 refine lk fun _ l=>ac q fun k r=>?_;clear q;clear p;cases r with
 |cons z m =>
  cases m with
  |cons m j =>
   clear L N F D hd hk t G;replace j:=j.n;subst j;refine l (aF (h U W s' _ _ (S.keeps k) z m) (fun v s₁ q=>aF q (fun it s₂ d=>?_) fun P P e=>e) fun P P e=>e);refine lk fun _ l=>ac d fun y u=>?_;clear d;refine dK u fun I fp wr St x=>cX x fun e wk h0 i hf=>?_;clear u x;refine l (⟨bp k y,I,fp,wr,St,e,wk,h0,fun b hb=>?_,hf⟩);cases e:s.heap.get? b with
   |none=>rfl
   |some o=>have:=cj k b o e;rw [i b hb] at this;exact nS this
theorem Fc(r:WD B w H mg mb gl Φ R)(hb:bad f=false)(hk:M.names.lookup f=aa .globalImplicit)(hg:gl.lookup f=aa .range)(J:bn a=false)(L:bn b=false)
 (V:aD B w H Φ R M a a') (X:aD B w H Φ R M b b'):aD B w H Φ R M (.Call (.Name f q) [a,b] [] p) (.range2 a' b'):=by
 refine aD.it (fun i e=>by exact Mine.Ex.noConfusion e) (fun n O=>by obtain ⟨⟩:=n<;>rfl) (fun n O=>by cases n with|zero=>rfl|succ n=>obtain ⟨⟩:=n<;>rfl) (fun t ev rd rd'=>rfl) fun A Z C O n m D t tgt xs ht hi=>?_
 refine lk fun _ P=>?_
 refine ax hi fun i N hi=>?_
 refine ax N fun d hd N=>?_
 obtain rfl:=tJ N
 refine ax hi fun d' l hi=>?_
 refine ae (F0 hi) fun j y=>bR y fun F hl g c=>?_;clear y;subst F;subst c
 refine P ?_
 refine zb r.G (r.bi f _ _ hg rfl) (by unfold eH;refine rl D.names ?_;exact hk) (f5 hb) J L ((V A Z C O n m D).1 _ hd) ((X A Z C O n m D).1 _ l) fun U W s v z S Q T=>?_
 refine lk fun _ P=>?_
 refine cJ Q fun t F=>?_;subst F
 refine cJ T fun u F=>?_;subst F
 refine P ?_
 refine call_range_2 ?_
 have x:bb s { s with heap:=s.heap.push { cls:=.type "range",data:=.fields #[.int i t,.int j u,.int 1 s.toks] },toks:=s.toks+1 }:=ur s _ fun b o e=>bc _ e
 refine aF (yv (B:=B) (w:=w) (A:=A) (tgt:=tgt) (U:=U) (ao:=[]) (s:={ s with heap:=s.heap.push { cls:=.type "range",data:=.fields #[.int i t,.int j u,.int 1 s.toks] },toks:=s.toks+1 }) m.h (IsRange.new s.heap i j 1 t u s.toks) (of_decide_eq_true hl) (of_decide_eq_true g)) (fun it s₂ q=>?_) fun ο ο e=>e
 refine lk fun _ P=>?_
 refine ac q fun k F=>?_;clear q;refine dK F fun I fp wr St c=>cX c fun e wk h0 hn hf=>?_;clear F c
 refine P ?_
 refine ⟨bp x k,I,fp,wr,St,e,wk,h0,fun b hb=>?_,hf⟩
 cases e:s.heap.get? b with
 |none=>rfl
 |some o=>have:=cj x b o e;rw [hn b hb] at this;exact nS this
theorem Jl(m:WD B w H mg mb gl Φ R)(hb:bad f=false)(hk:M.names.lookup f=aa .globalImplicit)(hg:gl.lookup f=aa .zip)(L:bn a=false)(N:bn b=false)
 (V:aD B w H Φ R M a v) (X:aD B w H Φ R M b b'):aD B w H Φ R M (.Call (.Name f q) [a,b] [] p) (.zip v b'):=by
 refine aD.it (fun i e=>by exact Mine.Ex.noConfusion e) (fun n O=>by obtain ⟨⟩:=n<;>rfl) (fun n O=>by cases n with|zero=>rfl|succ n=>obtain ⟨⟩:=n<;>rfl) (fun t ev rd z=>rfl) fun A Z C O n g D t tgt xs ht hi=>?_
 refine lk fun _ c=>?_
 refine bJ hi fun Q hi=>?_
 refine aP (F5 (ht Q)) fun es k pos j=>?_;subst j
 refine ax hi fun x r hi=>?_
 refine ax hi fun y T hi=>?_
 refine ax T fun d hd T=>?_
 clear Q
 obtain rfl:=tX T
 clear T
 refine aG hi fun xs' l j=>?_;subst j
 refine c ?_
 refine zb m.G (m.bi f _ _ hg rfl) (by unfold eH;refine rl D.names ?_;exact hk) (f5 hb) L N ((V A Z C O n g D).1 _ r) ((X A Z C O n g D).1 _ hd) fun U W s o u S F J=>?_
 refine lk fun _ c=>?_
 clear T hd hi r
 clear hi
 clear hi
 clear hi
 rcases F1 l with rfl|⟨q,rfl,P,rfl⟩
 . refine c ?_
   exact Kz g.h S.lives F J
 . refine c (KA g.h S.lives P F J)
theorem Jm(P:nR d=true)(hl:(L.endLine == p.line)=true)(F:bn k=false)(G:bn x=false)
 (hd:aD B w H Φ R M d d') (hk:aD B w H Φ R M k k') (Q:aD B w H Φ R M x x'):aD B w H Φ R M (.Call (.Attribute d "get" L) [k,x] [] p) (.get d' k' x') :=
 aD.gen rfl rfl fun A Z C O n N D c hc=>by
  refine lk fun _ S=>?_;rcases n with _|n
  . clear Q hk hd G F hl P;exact nS hc
  . refine ax hc fun a ha hc=>ax hc fun b hb hc=>ax hc fun e V hc=>aM (F3 P) fun q r J=>?_;subst J;refine ae ((hd A Z C O n N D).2.2.1 _ ha) fun y J=>ac J fun h1 T=>?_;clear J;cases a with
    |idict l =>
     clear ha hd P;refine aG hc fun i hi J=>?_;subst J;clear hc;clear hc;clear hc;clear hc;obtain rfl:=aI hi;refine S (KM (apos:=L) (pos:=p) h1 T ((hk A Z C O n N D).1 _ hb) ((Q A Z C O n N D).1 _ V) qn hl F G)
    |_=>exact nS hc
theorem D8{a b c:Int}{n:Nat}(hh:A.handled=ab)(hr:qY s.heap r a b c t u v)(G:ly a b c=true)
 (X:km a b c=n) (hlen:n<=2 ^ 24)
 (T:∀ h' tk acc,(∀ b o,s.heap.get? b=aa o->h'.get? b=aa o)->ItemsOf (fun i v=>∃ t,v = .int (a+i * c) t) acc n->Q acc.toList { s with heap:=h',toks:=tk }) :
 ak (av B w) A (kM (.ref r)) Q E s:=by
 refine af (pH (gv F.entry_proto_collect ?_))
 rw [io F.plain_proto_collect _]
 show ak _ A.in1 (nQ [] >>= fun l=>gR (.builtin "list.__iadd__" ⟨[l,.ref r],[]⟩)) _ _ s
 refine af (f8 ?_)
 refine au ⟨lI DH _,gv F.entry_list_iadd ?_⟩
 rw [io DH _]
 show ak _ A.in1 (v7 (.ref s.heap.objs.size) (.ref r) (.ref s.heap.objs.size)) _ _ _
 have d:(s.heap.push { cls:=.type "list",data:=.seq ([]:List ar).toArray }).get? s.heap.objs.size=aa { cls:=.type "list",data:=.seq #[] 0 }:=b9 _ rfl
 refine aF (wpAny_extend_range (A:=A) (R:=fun q s'=>q = .ok (.ret (.ref s.heap.objs.size)) /\ ∃ D L V,s'.heap.get? s.heap.objs.size=aa { cls:=.type "list",dict:=ab,data:=.seq D L,slots:=V }/\Q D.toList s')
  (s:={ s with heap:=s.heap.push { cls:=.type "list",data:=.seq ([]:List ar).toArray } }) hh (bc _ hr) G X hlen s.heap.objs.size (.ref s.heap.objs.size) 0 d fun h' tk D L hk J N =>
   ⟨rfl,D,L,_,J,T h' tk D (fun b o e=>hk b o (cz (bH e)) (bc _ e)) N⟩) (fun P s' h=>?_) (fun e s' h=>?_)
 . cases P with
   |done f =>
    refine lk fun _ S=>?_;obtain ⟨e,D,L,V,J,hq⟩:=h;clear d T hlen X G hr;injection e with e;subst e;refine S ?_;show ak _ A (load s.heap.objs.size >>= _) _ _ _;exact af (lP J (au hq))
   |again L =>
    refine ⟨h.1,jF h.2 fun r s'' hr=>?_⟩;refine lk fun _ S=>?_;clear d T hlen X G hh;clear n;obtain ⟨rfl,D,L,V,J,hq⟩:=hr;refine S ?_;show ak _ A (load s.heap.objs.size >>= _) _ _ _;exact af (lP J (au hq))
 . exact absurd h.1 (by simp)
theorem CG{a b c:Int}{n:Nat}(D:ly a b c=true)
 (S:km a b c=n) (hlen:n<=2 ^ 24) :
 Meets (Builtin.«tuple.__new__» ⟨[.type "tuple",.ref r],[]⟩)
  (fun A R s=>A.handled=ab/\qY s.heap r a b c t u v /\ ∀ (h':aB) tk acc,(∀ b o,s.heap.get? b=aa o->h'.get? b=aa o)->ItemsOf (fun i v=>∃ t,v = .int (a+i * c) t) acc n ->
   R (.ok (.ret (.ref h'.objs.size))) { s with heap:=h'.push { cls:=.type "tuple",data:=.seq acc },toks:=tk }) :=
 .of_wp fun B w A R s h=>by
  obtain ⟨P,g,d,tk,os⟩:=s;obtain ⟨hh,hr,h⟩:=h;have N:=sub_tuple_self;have J:=init_tuple_lookup;have Q:=madeHere_tuple;have T:xp ⟨P,g,d,tk,os⟩ (.ref r) "range" := ⟨_,hr,rfl⟩;have G:A.in1.handled=none:=hh;wp_walk using AutoSeq1.wpAny_loadPart' hr,i8 T,D8 G hr D S hlen;intro h' L acc hk F;show ak _ _ (wf acc.toList.toArray >>= fun v=>ret v) _ _ _;refine af (f8 ?_ (show acc.toList.toArray.size<=nA by rw [F.1,ja];omega));refine au ⟨_,rfl,?_⟩;have e:acc.toList.toArray=acc:=by simp
  rw [e];exact h h' L acc hk F
theorem DU{a b c:Int}{n:Nat}(hh:A.handled=ab)(hr:qY s.heap r a b c t u v)(D:ly a b c=true)
 (L:km a b c=n) (hlen:n<=2 ^ 24)
 (h:∀ (h':aB) tk acc,(∀ b o,s.heap.get? b=aa o->h'.get? b=aa o)->ItemsOf (fun i v=>∃ t,v = .int (a+i * c) t) acc n->Q (.ref h'.objs.size) { s with heap:=h'.push { cls:=.type "tuple",data:=.seq acc },toks:=tk }) :
 ak (av B w) A (call (.type "tuple") [.ref r]) Q E s:=by
 refine callType_new F.called_tuple (by decide) (F.typeCall_tuple_1 _) (F.newCall_tuple_1 _) (fun J=>F.args_object_init_2 J _) F.entry_tuple_new
  (CG (a:=a) (b:=b) (c:=c) (t:=t) (u:=u) (v:=v) D L hlen) ⟨hh,hr,fun h' tk acc hk G=>⟨⟨_,b9 _ rfl,rfl⟩,?_⟩⟩
 exact h h' tk acc hk G
theorem ai.of_get{α G:Type}{R:α->G->Prop}:∀ {as:List α} {bs:List G},as.length=bs.length->(∀ (i:Nat) a b,as[i]? = aa a->bs[i]? = aa b->R a b)->ai R as bs:=by
 intro V;induction V with
 |nil =>
  intro J F D;rcases J with _|⟨N,S⟩
  . exact .nil
  . contradiction
 |cons T X L =>
  intro J F D;rcases J with _|⟨N,S⟩
  . contradiction
  . exact .cons (D 0 T N rfl rfl) (L (pe F) fun i x y P Q=>D (i+1) x y P (by simpa using Q))
theorem Fd{vs:List ar}{is:List Int}(h:gG vs is):∃ xs:List (Int×Tok),vs=xs.map (fun p=>.int p.1 p.2)/\xs.map (·.1)=is:=by
 induction h with
 |nil=>exact ⟨[],rfl,rfl⟩
 |cons n t _ ih =>
  obtain ⟨xs,D,F⟩:=ih;exact ⟨(n,t)::xs,by rw [D];rfl,by rw [b7,F]⟩
set_option tactic.hygienic true in
theorem OF (T:aW 4 A) {c:D} (h:oz l=aa c) (J:XW C x (.list l)):eW B w H A Z wc C (.builtin "sum") [x] (.d c):=fun U W s vs S r=>by
 refine lk fun _ N=>r.c fun g i f b G=>?_;subst f;replace G:=G.n;subst G;unfold oz at h;simp only at h;split at h
 . rename_i is F;obtain ⟨P,h⟩:=iT h;clear P;replace h:=sI h;subst h;clear h;obtain ⟨a,vs,n,rfl,V,L⟩:=J.rep S b;rw [gz F] at L;clear F J;obtain ⟨xs,rfl,rfl⟩:=Fd (lV.mpr L);have e:(xs.map (fun p:Int×Tok=>jM p.1 p.2)).toArray=intItems xs.toArray:=by simp [intItems]
   refine N ?_;refine sum_intListG T.h (l:=a) (xs:=xs.toArray) ⟨_,V,rfl,n,by rw [←e]⟩ fun h' tk Q hk=>⟨⟨h',tk,rfl,hk⟩,eL.mpr ⟨Q,?_⟩⟩;rw [preSum_eq];have:(xs.toArray.toList.map (·.1)).take xs.toArray.size=xs.map (·.1):=by
    rw [List.take_of_length_le (by simp)]
   rw [this,List.sum_eq_foldl]
 . exact nS h
theorem Ep(P:WD B w H mg mb gl Φ R)(hb:bad f=false)(hk:M.names.lookup f=aa .globalImplicit)(hg:gl.lookup f=aa .tuple)
 (L:bad r=false) (F:M.names.lookup r=aa .globalImplicit) (J:gl.lookup r=aa .range) (T:bn b=false) (h:aD B w H Φ R M b b') :
 aD B w H Φ R M (.Call (.Name f q) [.Call (.Name r q') [b] [] p'] [] p) (.prim .tuple (.range1 b')) :=
 aD.gen rfl rfl fun A Z C O n hA D c hc=>by
  refine lk fun _ Q=>?_;rcases n with _|n
  . clear h T J F L hg hk hb;exact nS hc
  . obtain ⟨d,hi,hc⟩:=oB hc;obtain ⟨xs,hx,rfl⟩:=oM hc;clear hc;obtain ⟨i,rfl,hl,rfl⟩:=yA hx;have he:=(h A Z C O n hA D).1 _ hi;refine Q ?_;intro U W s S;have m:∀ {x},M.names.lookup x=aa .globalImplicit->Z.kindOf x=aa .globalImplicit:=fun h=>by unfold eH;rw [D.names];exact h
    have y:=P.bi f _ _ hg rfl;have z:=P.bi r _ _ J rfl;have aQ:ak (av B w) A (b5 (.Call (.Name r q') [b] [] p') Z) (fun v s'=>bb s s' /\ ∃ a t u w',v = .ref a/\qY s'.heap a 0 i 1 t u w') (fun V V=>False) s:=by
     refine Call_ (ki S.ek (m F) (lw (by rw [S.eg];exact P.G.g.keeps S.base) z.1 (by rw [S.eb];exact P.G.b.keeps S.base) z.2
      (mW (aF (gi (pos:=p') he hM (cO T) U W s S) (fun vs s' q=>?_) fun V V e=>e) (cO T) rfl)) (f5 L))
     refine lk fun _ Q=>?_;obtain ⟨k,r⟩:=q;clear hk hb P;cases r with
     |cons r1 r2 =>
      clear S hl hx hc hi;clear z y m he h T J F L hg;replace r2:=r2.n;subst r2;clear W n;obtain ⟨t,rfl⟩:=eL.mp r1;refine Q (call_range_1 ⟨bp k (ur s' _ fun b o e=>bc _ e),_,_,_,_,rfl,IsRange.new s'.heap 0 i 1 s'.toks t (s'.toks+1)⟩)
    refine Call_ (ki S.ek (m hk) (lw (by rw [S.eg];exact P.G.g.keeps S.base) y.1 (by rw [S.eb];exact P.G.b.keeps S.base) y.2
     (mW (sF (aF aQ (fun v s' q=>wZ ?_) fun V V e=>e) (cO rfl)) (cO rfl) rfl)) (f5 hb))
    refine lk fun _ Q=>?_;clear hx hc aQ z y m he;clear T J;clear L hg hb;obtain ⟨k,a,t,u,w',rfl,hr⟩:=q;have hl':i.natAbs<=100000:=of_decide_eq_true hl;have X:km 0 i 1=(i.toNat:Int):=by
     unfold km;by_cases h:0 < i
     . rw [if_pos (by decide),if_pos h,xL];omega
     . rw [if_pos (by decide),if_neg h];omega
    have fit:∀ i:Int,i.natAbs<=200001->se i=true:=fun i hi=>by
     unfold se;rw [bX];exact ⟨decide_eq_true (by omega),decide_eq_true (by omega)⟩
    have hsm:ly 0 i 1=true:=by
     unfold ly;rw [X,fit 0 (by decide),fit i (by omega),fit 1 (by omega),fit _ (by omega),if_pos (by decide),fit _ (by omega)];simp
    refine Q ?_;refine DU hA.h hr hsm X (by omega) fun h' tk acc hk N=>?_;have k1:bb s' { s' with heap:=h',toks:=tk }:=⟨h',tk,rfl,hk⟩;have S1:=(S.keeps k).keeps k1;have l:ai (aC B w U h') (iJ 0 i.toNat) acc.toList:=by
     refine ai.of_get (by simp [iJ,N.1]) fun j d v hd hv=>lk fun _ Q=>?_;obtain ⟨t',e⟩:=N.2 j v (by exact qG wq (hv));unfold iJ at hd;rw [cy] at hd;clear hr k S hl;clear hi S1 k1;clear n;obtain ⟨k',F,rfl⟩:=sn.mp hd;have:k'=j:=by
      rw [wB (by simpa using ((fL.mp F).1))] at F;replace F:=sI F;subst F;rfl
     clear F w' u t W;clear F;subst this;refine Q ?_;exact l8.mpr ⟨t',by rw [e];simp⟩
    refine ⟨bp k (bp k1 (gE _ _)),?_⟩
    have:=np (s:={ s' with heap:=h',toks:=tk }) S1.lives l;have e:acc.toList.toArray=acc:=by simp
    unfold dY at this;rw [e] at this;exact this
variable {ρ:Nat → am}
noncomputable def jr:D->Option OB
 | .list l=>aa (.list (l.map .d))
 | .idict l=>aa (.idict l)
 | .bdict l=>aa (.bdict l)
 | .tdict l=>aa (.tdict l)
 |_=>ab
theorem iy(h:jr d=aa ob):cv ob=aa d:=by obtain ⟨⟩:=d<;>first|exact nS h|(replace h:=sI h;subst h;first|rfl|simp only [cv,Ho,gc])
section
def cZ(B:bm)(w:bh)(U:List am)(s:aw)(d:D)(v:ar)(s':aw):Prop :=
 bb s s' /\ ∃ a ob,v = .ref a/\s.heap.get? a=ab/\jr d=aa ob/\b0 B w (a::U) s'.heap a ob
theorem cZ.eK{B:bm}{w:bh}{U:List am}{s:aw}{s':aw}(S:cZ B w U s d v s'){G:Prop}(J:bb s s'->∀ a ob,v = .ref a->s.heap.get? a=ab->jr d=aa ob->b0 B w (a::U) s'.heap a ob->G):G:=ac S fun N L=>aM L fun z1 z2 F=>bR F fun V P T Q=>J N z1 z2 V P T Q
theorem cZ.iK{B:bm}{w:bh}{U:List am}{s:aw}{s':aw}:bb s s'->∀ a ob,v = .ref a->s.heap.get? a=ab->jr d=aa ob->b0 B w (a::U) s'.heap a ob->cZ B w U s d v s':=fun J z1 z2 N L G F=>⟨J,z1,z2,N,L,G,F⟩
def jz(B:bm)(w:bh)(H:aB)(A:bo)(Z:aS)(wc:List aq)(C:MS)(e:Expr)(d:D):Prop :=
 ∀ U W s,ay B w H Z wc U W C s->ak (av B w) A (b5 e Z) (cZ B w U s d) (fun F F=>False) s
theorem cZ.after(k:bb s s')(h:cZ B w U s' d v s''):cZ B w U s d v s'':=by
 refine cZ.eK h fun F a ob e L G r=>?_;clear h;refine cZ.iK (bp k F) a ob e ?_ G r;cases J:s.heap.get? a with
 |none=>rfl
 |some o=>have:=cj k a o J;rw [L] at this;exact nS this
theorem cZ.op(L:dM U s)(h:cZ B w U s d v s'):bb s s'/\aT B w U s'.heap (.d d) v:=by
 refine cZ.eK h fun k a ob G N F r=>?_;clear h;subst G;refine ⟨k,?_⟩;have ha:a ∉ U:=fun hm=>by refine ae (L a hm) fun o e=>?_;rw [N] at e;exact nS e
 exact (r.weak (iy F)).strong (fun u J=>aN _ J) ha
theorem Gf{k i:Int}:∀ {l:List (Int×Int)},ai (fun p q=>q.1=p.1 /\ ∃ t,q.2 = .int p.2 t) l kvs ->
 ai (fun p q=>q.1=p.1 /\ ∃ t,q.2 = .int p.2 t) (oy l k i) (stored kvs k (.int i t)):=by
 intro l r
 have D:l.any (fun p=>p.1=k)=kvs.any (fun kv=>kv.1=k):=by
  induction r with
  |nil=>rfl
  |cons hq _ ih=>simp only [xq,hq.1,ih]
 delta oy stored;refine rl D ?_;split
 . refine ai.mapL (ai.mapR (r.imp fun p q hq=>?_));by_cases e:p.1=k
   . refine rl (if_pos e) (rl (if_pos (hq.1.trans e)) ⟨hq.1.trans e,t,rfl⟩)
   . refine rl (if_neg e) (rl (if_neg (fun e'=>e (hq.1.symm.trans e'))) ?_);exact hq
 . exact r.append (.cons ⟨rfl,t,rfl⟩ .nil)
theorem Gg:∀ {l:List Int},ai (fun p q=>q.1=p/\q.2 = .bool true) l kvs ->
 ai (fun p q=>q.1=p/\q.2 = .bool true) (if l.contains k then l else l ++ [k]) (stored kvs k (.bool true)):=by
 intro l r
 have D:l.contains k=kvs.any (fun kv=>kv.1=k):=by
  induction r with
  |nil=>rfl
  | @cons p q _ _ hq _ ih =>
   refine rl wF (rl xq (rl ih (rl hq.1 ?_)));congr 1;by_cases e:p=k
   . subst e;rfl
   . refine rl (show (k == p)=false from beq_eq_false_iff_ne.mpr fun q=>e q.symm) ?_;refine rl (decide_eq_false e) rfl
 unfold stored;refine rl (az D) ?_;split
 . have:l=l.map id:=by simp
   refine rl this (ai.mapL (ai.mapR (r.imp fun p q hq=>?_)));by_cases e:q.1=k
   . refine rl (if_pos e) ⟨hq.1,rfl⟩
   . refine rl (if_neg e) hq
 . exact r.append (.cons ⟨rfl,rfl⟩ .nil)
theorem Gh{U:List am}{h':aB}{n:Nat}(ha:a ∉ U)(D:h'.get? a=aa (dY vs n))(hv:gG vs k):∀ {l:List (List Int)},
 ai (fun p q=>q.1=p/\q.2.1 ∉ U/\q.2.2 = .bool true /\ ∃ vs n,h'.get? q.2.1=aa (dY vs n)/\gG vs p) l xs ->
 ai (fun p q=>q.1=p/\q.2.1 ∉ U/\q.2.2 = .bool true /\ ∃ vs n,h'.get? q.2.1=aa (dY vs n)/\gG vs p) (if l.contains k then l else l ++ [k]) (storedH xs k a (.bool true)):=by
 intro l r;unfold storedH;refine rl (uh (k:=k) r) ?_;split
 . have:l=l.map id:=by simp
   refine rl this (ai.mapL (ai.mapR (r.imp fun p q hq=>?_)));unfold putAt;by_cases e:q.1=k
   . refine rl (if_pos e) ⟨hq.1,hq.2.1,rfl,hq.2.2.2⟩
   . refine rl (if_neg e) hq
 . exact r.append (.cons ⟨rfl,ha,rfl,vs,n,D,hv⟩ .nil)
noncomputable def nZ:D->Bool
 | .idict _=>true
 | .bdict _=>true
 | .tdict _=>true
 |_=>false
theorem HE(h:cv ob=aa d)(hd:nZ d=true):jr d=aa ob:=by
 cases ob with
 |list l=>refine aG h fun F F G=>?_;subst G;exact nomatch hd
 |_=>replace h:=sI h;subst h;rfl
def cP(B:bm)(w:bh)(U:List am)(h:aB)(a:am)(d:D):Prop:=nZ d=true /\ ∃ ob,jr d=aa ob/\b0 B w U h a ob
theorem cP.eK{B:bm}{w:bh}{U:List am}{h:aB}(J:cP B w U h a d){G:Prop}(L:nZ d=true->∀ ob,jr d=aa ob->b0 B w U h a ob->G):G:=ac J fun P N=>ae N fun z1 F=>ac F fun z2 Q=>L P z1 z2 Q
theorem cP.iK{B:bm}{w:bh}{U:List am}{h:aB}:nZ d=true->∀ ob,jr d=aa ob->b0 B w U h a ob->cP B w U h a d:=fun F z1 z2 G=>⟨F,z1,z2,G⟩
theorem lY{h:aB}:cP B w U h a (.idict l)↔fT B w h a l:=⟨fun D=>by refine cP.eK D fun _ ob e r=>?_;clear D;exact by replace e:=sI e;subst e;exact r,fun r=>⟨rfl,_,rfl,r⟩⟩
theorem zc{h:aB}:cP B w U h a (.bdict l)↔iz B w h a l:=⟨fun D=>by refine cP.eK D fun _ ob e r=>?_;clear D;exact by replace e:=sI e;subst e;exact r,fun r=>⟨rfl,_,rfl,r⟩⟩
theorem zd{h:aB}:cP B w U h a (.tdict l)↔dX B w U h a l:=⟨fun D=>by refine cP.eK D fun _ ob e r=>?_;clear D;exact by replace e:=sI e;subst e;exact r,fun r=>⟨rfl,_,rfl,r⟩⟩
structure qO (B:bm) (w:bh) (A:bo) (s:aw) (a:am) (c:ar->ar->Sem Unit):Prop where
 pairs:∀ {kvs:List (Int×ar)} {k:Int} {kv vv:ar} {Q:Unit->aw->Prop} {E:ar->aw->Prop},(bt B w).is k kv=true->s.heap.DictOf (bt B w) a kvs ->
  (∀ h',h'.DictOf (bt B w) a (stored kvs k vv)->g5 a s.heap h'->Q () { s with heap:=h',toks:=s.toks+1 })->kvs.length<=nA->ak (av B w) A (c kv vv) Q E s
 heap:∀ {xs:List (List Int×am×ar)} {k:List Int} {b:am} {vv:ar} {Q:Unit->aw->Prop} {E:ar->aw->Prop},(jK (bt B w)).is s.heap k b->s.heap.DictOfH (jK (bt B w)) a xs ->
  (∀ h',h'.DictOfH (jK (bt B w)) a (storedH xs k b vv)->g5 a s.heap h'->Q () { s with heap:=h',toks:=s.toks+(jK (bt B w)).draws k })->xs.length<=nA->ak (av B w) A (c (.ref b) vv) Q E s
def rM(B:bm)(w:bh)(U:List am)(s:aw)(a:am)(Q:Unit->aw->Prop)(d':D):Prop :=
 ∀ h' tk,cP B w U h' a d'->(∀ b o,b≠a->s.heap.get? b=aa o->h'.get? b=aa o)->Q () { s with heap:=h',toks:=tk }
section
variable {a:am} {c:ar->ar->Sem Unit} {kv vv:ar} {Q:Unit->aw->Prop}
theorem OH(P:qO B w A s a c){k i:Int}(hd:fT B w s.heap a l)(N:l.length<=100000)(L:aC B w U s.heap (.int k) kv)(T:aC B w U s.heap (.int i) vv)(hq:rM B w U s a Q (.idict (oy l k i))):ak (av B w) A (c kv vv) Q E s:=by refine ac hd fun F D=>?_;clear hd;refine ae D fun kvs J=>ac J fun hd hl=>?_;clear D J;refine gd L fun t D=>?_;subst D;refine gd T fun u D=>?_;subst D;exact P.pairs (m3 _ _ _ _) hd (fun h' G S=>hq _ _ (lY.mpr ⟨F,_,G,Gf hl⟩) fun b o hb e=>S.extBut b o hb e) (by refine rl (az hl.length) ?_;exact dm N)
theorem AX(P:qO B w A s a c)(hd:iz B w s.heap a l)(N:l.length<=100000)(L:aC B w U s.heap (.int k) kv)(T:aC B w U s.heap (.bool true) vv)(hq:rM B w U s a Q (.bdict (if l.contains k then l else l ++ [k]))):ak (av B w) A (c kv vv) Q E s:=by refine ac hd fun D F=>?_;clear hd;refine ae F fun kvs J=>ac J fun hd hl=>?_;clear F J;refine gd L fun t F=>?_;subst F;obtain rfl:=uc.mp T;exact P.pairs (m3 _ _ _ _) hd (fun h' G S=>hq _ _ (zc.mpr ⟨D,_,G,Gg hl⟩) fun b o hb e=>S.extBut b o hb e) (by refine rl (az hl.length) ?_;exact dm N)
theorem AY(P:qO B w A s a c)(g:a∈U)(hd:dX B w U s.heap a l)(j:l.length<=100000)(L:aC B w U s.heap (aj k) kv)(x:aC B w U s.heap (.bool true) vv)(hq:rM B w U s a Q (.tdict (if l.contains k then l else l ++ [k]))):ak (av B w) A (c kv vv) Q E s:=by
 refine lk fun _ N=>?_;refine dX.eK hd ?_;clear hd;intro F xs hd hl;refine kR (k:=k) L fun b e S=>?_;refine jc L fun b' vs n J G T X=>?_;subst J;clear L;obtain ⟨⟩:=e;obtain rfl:=uc.mp x;refine N ?_;refine P.heap S hd (fun h' V m=>?_) (by refine rl (az hl.length) ?_;exact dm j);have D:∀ b o,b≠a->s.heap.get? b=aa o->h'.get? b=aa o:=fun b o hb e=>m.extBut b o hb e;exact hq _ _ (zd.mpr ⟨F,_,V,Gh G (D _ _ (fun e=>G (e ▸ g)) T) (lV.mpr X) (hl.imp fun p q hq=>by
  refine lk fun _ N=>?_;refine bR hq fun y i t J=>?_;clear hq;refine aM J fun d u f=>ac f fun r v=>?_;clear J f;refine N ?_;exact ⟨y,i,t,d,u,D _ _ (fun e=>i (e ▸ g)) r,v⟩)⟩) D
theorem ze(P:qO B w A s a c){d d' X e:D}(N:a∈U)(hd:cP B w U s.heap a d)(hk:gk d X e=aa d')(G:aC B w U s.heap X kv)(T:aC B w U s.heap e vv)(hq:rM B w U s a Q d'):ak (av B w) A (c kv vv) Q E s:=by
 cases d with
 |idict l =>
  cases X with
  |int k =>
   cases e with
   |int v =>
    refine bL hk fun L h=>?_;clear hk N;replace h:=sI h;subst h;exact OH P (lY.mp hd) L G T hq
   |bool b =>
    refine lk fun _ J=>bJ hk fun hc h=>ct hc fun S hb=>?_;clear hc hk N;obtain rfl:=gY.mp S;clear S;subst hb;replace h:=sI h;subst h;refine J (AX P (EN (lY.mp hd)) (cG _) G T hq)
   |_=>exact nS hk
  |tup k =>
   refine lk fun _ J=>bJ hk fun hc h=>ct hc fun S ht=>?_;clear hc hk;obtain rfl:=gY.mp S;clear S;obtain rfl:=uv ht;clear ht;refine aG h fun k' f V=>?_;subst V;rw [gz f] at G;refine J (AY P N (xS (lY.mp hd)) (cG _) G T hq)
  |_=>exact nS hk
 |bdict l =>
  refine lk fun _ J=>ax hk fun k h1 h=>?_;clear hk N;obtain rfl:=aI h1;refine bJ h fun ht F=>?_;clear h h1;obtain rfl:=uv ht;refine bL F fun L F=>?_;clear ht;replace F:=sI F;subst F;refine J (AX P (zc.mp hd) L G T hq)
 |tdict l =>
  refine lk fun _ J=>ax hk fun k h1 h=>?_;clear hk;refine qx h1 fun k' V g=>?_;subst V;rw [gz g] at G;refine bJ h fun ht F=>?_;clear g h h1;obtain rfl:=uv ht;refine bL F fun L F=>?_;clear ht k';replace F:=sI F;subst F;refine J (AY P N (zd.mp hd) L G T hq)
 |list l=>exact nomatch hd.1
 |_=>exact nS hk
end
theorem zf(N:aW 1 A)(L:a∈U)(hd:cP B w U s.heap a d)(hk:gk d F G=aa d')
 (J:aC B w U s.heap F kv) (P:aC B w U s.heap G vv) {Q:Unit->aw->Prop} {E:ar->aw->Prop}
 (hq:∀ h' tk,cP B w U h' a d'->(∀ b o,b≠a->s.heap.get? b=aa o->h'.get? b=aa o)->Q () { s with heap:=h',toks:=tk }):ak (av B w) A (dictSet a kv vv) Q E s:=by
 have S:A.units < cLine:=by have:=N.u;exact L4 this
 exact ze ⟨fun k m q z=>wpAny_dictSet_pairs (knd:=bt B w) k m q z,fun k m q z=>wpAny_dictSet_heap S k m q z⟩ L hd hk J P hq
theorem zU{h h':aB}(D:a∈U)(hk:∀ b o,b≠a->h.get? b=aa o->h'.get? b=aa o):bj U h U h':=⟨fun G F=>.inl F,fun b o hb e=>hk b o (fun q=>hb (q ▸ D)) e⟩
set_option tactic.hygienic true in
theorem Gi (V:aW 1 A) {a:am} (P:a∈U) {E:ar->aw->Prop}:∀ (vs:List (ar×ar)) (ks es:List D) (d d':D) (s:aw) (Q:PUnit->aw->Prop),cP B w U s.heap a d->fy d ks es=aa d' ->
 ai (aC B w U s.heap) ks (vs.map (·.1))->ai (aC B w U s.heap) es (vs.map (·.2)) ->
 (∀ h' tk,cP B w U h' a d'->(∀ b o,b≠a->s.heap.get? b=aa o->h'.get? b=aa o)->Q qh { s with heap:=h',toks:=tk }) ->
 ak (av B w) A (forIn vs qh fun (x:ar×ar) (_:PUnit)=>(do dictSet a x.1 x.2;pure (sP qh):Sem (ForInStep PUnit))) Q E s:=by
 intro vs
 induction vs with
 |nil =>
  intro ks es d d' s Q hd hk J G S;clear P V;obtain ⟨⟩:=J;obtain ⟨⟩:=G;replace hk:=sI hk;subst hk;refine rl ta (au (S s.heap s.toks hd fun b o L e=>e))
 |cons p vs ih =>
  intro ks es d d' s Q hd hk J G S;obtain ⟨kv,vv⟩:=p;refine lk fun _ c=>?_;cases J with|cons f J =>
  cases G with|cons X G =>
  refine ax hk fun g T hk=>?_
  . refine c (rl (m7 ..) (af (af (zf V P hd T f X fun h1 i N F=>au ?_))));have stab:=zU P F;exact ih _ _ g d' _ Q N hk (J.imp fun L L q=>q.move stab) (G.imp fun L L q=>q.move stab) fun h' tk j x2=>S h' tk j fun b o hb e=>x2 b o hb (F b o hb e)
theorem Er{E:ar->aw->Prop}{G:List (Option Expr)}{D:List Expr}{pos:aK}{pairs:List (Sem ar×Sem ar)}{Q:ar->aw->Prop}
 (F:(evalEachOpt G Z).zip ((evalEach D Z).map fun v=>do let x ← v;hK pos;pure x)=pairs.map fun p=>(aa p.1,p.2)) (P:pairs ≠ []) (hlen:pairs.length<=15)
 (h:ak (av B w) A (evalPairs pairs) (fun vs s₁=>ak (av B w) A (forIn vs qh fun (x:ar×ar) (_:PUnit)=>(do dictSet s.heap.objs.size x.1 x.2;pure (sP qh):Sem (ForInStep PUnit))) (fun J=>Q (.ref s.heap.objs.size)) E s₁) E
  { s with heap:=s.heap.push { cls:=.type "dict",data:=.dict #[] } }) :
 ak (av B w) A (b5 (.Dict G D pos) Z) Q E s:=by
 refine rl (arm_eval_Dict ..) (rl F ?_);refine rl (dictDisplay_pairs pairs P (by exact cN ‹_› (by decide))) (af (iu (af ?_)));refine af (wpAny_alloc ?_);refine af (fm ?_);refine rl (if_pos hlen) (af (aF h (fun vs s₁ N=>?_) fun J J e=>e));refine fm (af (aF N (fun J s₂ L=>au (au (au L))) fun J J e=>e))
end
theorem Mt.addO(D:Mt M O Z C)a ob:Mt M O Z (C.addO a ob) where
 names:=D.names
 fk:=D.fk
 var:=fun x i h v hv=>by
  have:=D.var x i h v hv;rcases v with d|d
  . exact this
  . refine aM this fun b ob' F=>aE F fun h1 J G=>?_;clear this F;exact aR b ob' ⟨h1,aN _ J,G⟩
 inj:=D.inj
 lt:=D.lt
 ltS:=D.ltS
theorem Fe{pos:aK}{ks:List Expr}{a:List D}(q:ai (fun e d=>EV B w H A Z wc C e (.d d)) ks a):∀ {vs:List Expr} {b:List D},ai (fun e d=>EV B w H A Z wc C e (.d d)) vs b->ks.length=vs.length->∀ U W s,ay B w H Z wc U W C s ->
 ak (av B w) A (evalPairs ((ks.zip vs).map fun p=>(b5 p.1 Z,do let x ← b5 p.2 Z;hK pos;pure x))) (fun F s'=>bb s s'/\ai (aC B w U s'.heap) a (F.map (·.1))/\ai (aC B w U s'.heap) b (F.map (·.2))) (fun L L=>False) s:=by
 induction q with
 |nil =>
  intro vs b q hl U W s S;rcases q with _|_
  . exact evalPairs_nil ⟨cb s,.nil,.nil⟩
  . contradiction
 | @cons k d ks a h1 _ ih =>
  intro vs b q hl U W s S;cases q with
  |nil=>contradiction
  | @cons v e vs b T c =>
  refine rl mT (rl b7 (evalPairs_cons ((h1 U W s S).mono fun i Q G f=>?_)));refine af ((T U W Q (S.keeps G)).mono fun g s2 J X=>af (iu (au ?_)));refine aF (ih c (nm hl) U W s2 ((S.keeps G).keeps J)) (fun F s3 q=>?_) fun L L e=>e;refine aE q fun N V P=>?_;clear q;exact ⟨bp G (bp J N),.cons ((f.move (cu J)).move (cu N)) V,.cons (X.move (cu N)) P⟩
theorem xT(D:∃ o,H.get? fP=aa o)(S:∀ b o,H.get? b=aa o->s.heap.get? b=aa o):fT B w (s.heap.push { cls:=.type "dict",data:=.dict #[] }) s.heap.objs.size [] :=
 ⟨tu D S (cH _),[],Heap.DictOf.new s.heap,.nil⟩
theorem zg{n:Nat}(hg:∃ o,H.get? fP=aa o)(y:aW (R+4) A)(F:Mt M O Z C){G V:List Ex}(hk:ai (aD B w H Φ R M) ks G)(hv:ai (aD B w H Φ R M) vs V)
 (hz:G.length<=15) (h1:a8 (an Φ n O) G=aa a) (h2:a8 (an Φ n O) V=aa b) (X:fy (.idict []) a b=aa d):jz B w H A Z M.wc C (.Dict (ks.map aa) vs p) d:=fun U W s S=>by
 have c:aW 1 A:=y.mono (f9 _ _)
 have z:=gE s { cls:=.type "dict",data:=.dict #[] }
 have u:=xT (B:=B) (w:=w) hg S.base
 have j:=S.own_new (ob:=.idict []) (eV s) z u (pO u)
 have m:=F.addO s.heap.objs.size (.idict [])
 have L:=md y m hk h1
 have J:=md y m hv h2
 have T:∀ {a b:List D} {d d':D},fy d a b=aa d'->a.length=b.length:=by
  intro a;induction a with
  |nil =>
   intro b d d' h;rcases b with _|_
   . rfl
   . exact nS h
  |cons k ks ih =>
   intro b d d' h;rcases b with _|⟨v,vs⟩
   . exact nS h
   . refine ax h fun t t h=>congrArg (· + 1) (ih h)
 have hl:=T X;have f:=L.length;have Q:=J.length;have lk:=hk.length;rcases ks with _|⟨k,ks⟩
 . rcases vs with _|_
   . clear lk Q;clear f hl T m j c h2 h1;replace L:=L.n;subst L;replace J:=J.n;subst J;replace X:=sI X;subst X;exact wpAny_Dict_empty ⟨z,s.heap.objs.size,_,rfl,eV s,rfl,u⟩
   . clear lk Q;obtain ⟨⟩:=L;obtain ⟨⟩:=J;contradiction
 . refine Er (pairs:=((k::ks).zip vs).map fun q=>(b5 q.1 Z,do let x ← b5 q.2 Z;hK p;pure x)) ?_ ?_ ?_ ?_
   . have:∀ (ks vs:List Expr),(evalEachOpt (ks.map aa) Z).zip ((evalEach vs Z).map fun v=>(do let x ← v;hK p;pure x:Sem ar))=((ks.zip vs).map fun q=>(b5 q.1 Z,(do let x ← b5 q.2 Z;hK p;pure x:Sem ar))).map fun p=>(aa p.1,p.2):=by
      intro ks;induction ks with
      |nil=>intro vs;rfl
      |cons k ks ih =>
       intro vs;rcases vs with _|⟨v,vs⟩
       . rfl
       . rw [b7,arm_evalEachOpt_cons,mT,b7,b7,← ih];rfl
     exact this _ _
   . rcases vs with _|_
     . simp at f Q hl;exact (L5 hl f Q).elim
     . exact List.cons_ne_nil _ _
   . refine rl (aZ ..) (rl List.length_zip (L6 hz lk))
   . refine aF (Fe L J (L7 hl Q f) _ _ _ j) (fun P s1 q=>?_) fun t t e=>e;refine aE q fun l r1 r2=>?_;clear q;refine Gi c aY P a b _ d s1 _ (lY.mpr (((j.keeps l).own _ aY).2.2)) X r1 r2 fun h' tk N hk'=>cP.eK N fun _ ob ho r=>?_;clear N;refine aM (id (bp z l)) fun h1' t1 q0=>ac q0 fun i g=>?_;clear q0;clear r2 r1 l;subst i;refine cZ.iK ⟨h',tk,rfl,fun b o e=>hk' b o (fun q=>?_) (g b o e)⟩ _ ob rfl (eV s) ho r;rw [q,eV s] at e;exact nS e
theorem jz.ev(h:jz B w H A Z wc C e d):EV B w H A Z wc C e (.d d):=fun U W s S =>
 aF (h U W s S) (fun v s' q=>q.op S.lives) fun F F e=>e
theorem HF(J:∃ o,H.get? fP=aa o)(hk:ai (aD B w H Φ R M) ks F)(hv:ai (aD B w H Φ R M) vs G):aD B w H Φ R M (.Dict (ks.map aa) vs p) (.dict F G) :=
 aD.gen rfl rfl fun A Z C O n P D c hc=>by
  refine lk fun _ N=>?_;rcases n with _|n
  . clear hv hk J;exact nS hc
  . refine bL hc fun L hc=>ax hc fun a ha hc=>ax hc fun b hb hc=>N ?_;exact (zg J P D hk hv L ha hb hc).ev
theorem DY:typeLookup (.type "list") "keys" = pure none:=by refine rl (w3 ..) ?_;refine rl wt ?_;kernel_rfl
theorem yC:entryFor table "dict.update.loop" = aa Builtin.«dict.update.loop» := entryFor_of_tree (by kernel_rfl)
theorem qp:plainId "dict.update.loop" = true:=by decide +kernel
set_option tactic.hygienic true in
theorem Gj
 (N:s.heap.get? a=aa { cls:=.type "list",dict:=ab,data:=.seq xs k,slots := #[] }) (T:A.handled=ab)
 (h:∀ h' tk,(∀ b o,s.heap.get? b=aa o->h'.get? b=aa o)->Q ab { s with heap:=h',toks:=tk }) :
 ak (av B w) A (getAttr? (.ref a) "keys") Q E s:=by
 obtain ⟨S,g,d,tk,os⟩:=s
 have P:∀ G,(⟨S,g,d,G,os⟩:aw).TypeIs (.ref a) "list" := fun f=>⟨_,N,rfl⟩
 have j:=sub_AttributeError
 have c:=wh.lookup
 have l:=wh.bind (.ref a)
 have X:=am_list_getattr_none
 have L:("keys" : aq).length+100<=sizeLine:=by rw [ja] at ⊢;decide
 have D:(["__module__", "__name__", "__qualname__", "__doc__", "__annotations__"]:List aq).contains ("keys" : aq)=false:=by decide +kernel
 repeat (any_goals (first|assumption|exact P _|((with_reducible show ak _ _ (call (Value.builtin "list.__getattribute__") _ _) _ _ _);refine call_meets wh (P _) am_entry_list_getattribute (F.args_list_getattribute_2 _ _) (meets_getattribute_miss_list a xs k #[] "keys" _ DY D L) ⟨N,T,fun h' G e J=>?_⟩)|wp_step))
 obtain ⟨i,V,m⟩:=J.there
 show ak _ _ (getattributeRaised _ _ _ _ _ _ _) _ _ _
 repeat (any_goals (first|assumption|wp_step))
 exact h _ _ J.keeps
set_option tactic.hygienic true in
theorem Es (h:kH (d::r)=aa (ks,vs)):∃ k v F G,d = .tup [k,v]/\ks=k::F/\vs=v::G/\kH r=aa (F,G):=by
 refine lk fun _ L=>ax h fun p J h=>ax J fun l hl J=>aG h fun q hq e=>?_;clear h;clear h;obtain ⟨⟩:=e;refine L (h8 p.1 p.2 q.1 q.2 ⟨(ml hl).trans (congrArg D.tup (Hy J)),rfl,rfl,hq⟩)
theorem cP.move{h h':aB}(S:bj U h U' h')(r:cP B w U h a d)(e:∀ o,h.get? a=aa o->h'.get? a=aa o):cP B w U' h' a d:=by refine cP.eK r fun h1 ob G F=>?_;clear r;exact cP.iK h1 ob G (F.move S e)
set_option tactic.hygienic true in
theorem HG (hA:aW 2 A) {I l S:am} (hne:l≠I) (N:S≠I) (hSl:S≠l) {X:ar} (x:S∈U) (m:I∈U) :
 ∀ k i s d d' ks vs z J t,items.size - i=k->i<=items.size->s.heap.IsListIter I l i/\s.heap.IsList l items->cP B w U s.heap S d->fy d ks vs=aa d'->kH z=aa (ks,vs) ->
  ai (aC B w U s.heap) z (items.toList.drop i) ->
  (∀ h' tk,cP B w U h' S d'->(∀ b o,b≠S->b≠I->s.heap.get? b=aa o->h'.get? b=aa o)->RR (.ok (.ret X)) { s with heap:=h',toks:=tk }) ->
  er (av B w) A (.builtin "dict.update.loop" ⟨[.ref S,.ref I,.int J t,X],[]⟩) RR s:=by
 have W:=Walks.list (prog:=B) (w:=w) (A:=A.in1) hA.h I l hne items;intro k;induction k with
 |zero =>
  intro i s d d' ks vs z J t hk hi L hd V a hr hR;have:i=items.size:=oZ ‹_› ‹_›
  refine lk fun _ κ=>?_;clear hi hk;subst this;rw [List.drop_eq_nil_of_le (by simp)] at hr;obtain ⟨⟩:=hr;obtain ⟨⟩:=a;replace V:=sI V;subst V;refine κ (gv yC (rl (io qp _) ?_));show ak _ A.in1 (dZ (.ref I) >>= _) _ _ s;refine af (W.done s _ _ L fun h' tk F=>?_);show ak _ A.in1 (Builtin.Dict.addKeywords S [] >>= fun u=>ret X) _ _ _;exact af (au (au (hR h' tk (hd.move (⟨fun u hu=>.inl hu,fun b o hb e=>F b o (fun q=>hb (by refine rl (aV.mp q) ?_;exact m)) e⟩) fun o e=>F S o (g8 N) e) fun b o u hb e=>F b o (g8 hb) e)))
 |succ k ih =>
  intro i s d d' ks vs z J t hk hi L hd V a hr hR;have Q:i < items.size:=oT ‹_›
  refine gv yC (rl (io qp _) ?_);show ak _ A.in1 (dZ (.ref I) >>= _) _ _ s;refine af (W.item i s _ _ Q L fun v h' tk hP g F=>?_);have stab:bj U s.heap U h':=⟨fun u hu=>.inl hu,fun b o hb e=>F b o (fun q=>hb (by refine rl (aV.mp q) ?_;exact m)) e⟩;have hdr:items.toList.drop i=v::items.toList.drop (i+1):=by
   refine rl (mN (by simpa using Q)) ?_;have:items.toList[i]? = aa v:=by simpa using hP
   refine ae (fL.mp this) fun _ e=>rl e ?_;rfl
  rw [hdr] at hr;refine lk fun _ κ=>?_;cases hr with | @cons p v _ _ r1 r2 =>
  refine dK (Es a) fun dk dv ks' vs' q5=>bR q5 fun q0 q3 q4 j=>?_;clear q5;subst q0;subst q3;subst q4;refine ax V fun d1 hd1 V=>?_
  . refine jc (aC.move stab _ _ r1) fun b bv n q0 hbU c G=>?_;subst q0;cases G with|cons q1 G =>
    cases G with|cons q2 G =>
    obtain ⟨⟩:=G;rename_i kv vv;refine κ ?_;show ak _ A.in1 (mi [dw b] _ >>= _) _ _ _;refine af (fm (af (wpAny_tryCatch ?_)));show ak _ A.in1 (typeOf (dw b) >>= _) _ _ _;refine af (i8 (T := "tuple") ⟨_,c,rfl⟩ ?_);first|refine rl (if_pos rfl) ?_|refine rl (if_pos (by decide)) ?_|refine rl (if_pos (by simp)) ?_
    refine af (iq c rfl ?_);show ak _ A.in1 (pure [kv,vv]) _ _ _;refine au ?_;show ak _ A.in1 (mi [kv,vv] (dictSet S kv vv)) _ _ _;refine fm ?_;refine zf (s:={ s with heap:=h',toks:=tk }) (A:=A.in1) hA.in1 x (hd.move stab fun o e=>F S o (g8 N) e) hd1 q1 q2 fun h2 tk2 hd2 P=>?_;have f:h2.IsListIter I l (i+1)/\h2.IsList l items:=W.frame _ _ _ g fun b hb o e=>P b o (fun q=>by
     subst q;rcases aL.mp hb with e|hb
     . exact N e
     . exact hSl (aV.mp hb)) e
    refine au ⟨lI qp _,ih (i+1) _ d1 d' ks' vs' _ (J+1) 0 (oS ‹_›) Q f hd2 V j (r2.imp fun u u q=>(q.move stab).move (zU x P)) fun h3 tk3 hd3 hk3=>?_⟩;exact hR h3 tk3 hd3 fun b o y r e=>hk3 b o y r (P b o y (F b o (g8 r) e))
set_option tactic.hygienic true in
theorem DZ {n:Nat} {Q:ar->aw->Prop} {E:ar->aw->Prop} (t:aW 4 A) (hg:∃ o,H.get? fP=aa o) (z:∀ b o,H.get? b=aa o->s.heap.get? b=aa o) (L:dM U s)
 (x:s.heap.get? l=aa (cL vs n)) (hr:ai (aC B w U s.heap) f vs) (j:kH f=aa (ks,es)) (y:fy (.idict []) ks es=aa d)
 (h:∀ v s',cZ B w U s d v s'->Q v s'):ak (av B w) A (call (.type "dict") [.ref l]) Q E s:=by
 refine callType_codes (Q₁:=fun a s₁=>a = .ref s.heap.objs.size/\s₁ = { s with heap:=s.heap.push { cls:=.type "dict",data:=.dict #[] } }) F.kt_called_dict (F.kt_typeCall_dict_1 _) F.entry_dict_init (kt_code_dict_new _ ⟨rfl,rfl⟩) ?_
 rintro a s₁ ⟨rfl,rfl⟩
 have N:(s.heap.push { cls:=.type "dict",data:=.dict #[] }).DictOf (bt B w) s.heap.objs.size []:=Heap.DictOf.new s.heap
 have P:=bc { cls:=.type "dict",data:=.dict #[] } x
 refine ⟨N.typeIs,F.args_dict_init_2 _ _,?_⟩
 refine af ?_
 refine af (CH N.typeIs ?_)
 show ak _ _ (pure (s.heap.objs.size,[dw l])) _ _ _
 refine au ?_
 show ak _ _ (Builtin.Dict.updateFrom "dict.__init__" s.heap.objs.size (.ref l) [] .none) _ _ _
 refine af (i8 (T := "list") ⟨_,P,rfl⟩ ?_)
 rw [if_pos (by decide)] at ⊢
 refine af (Gj P t.h fun h1 g G=>?_)
 first|refine rl (if_pos rfl) ?_|refine rl (if_pos (by decide)) ?_|refine rl (if_pos (by simp)) ?_
 refine af (jG ?_)
 have X:=G _ _ P
 have S:h1.IsList l vs.toArray:=⟨_,X,rfl,n,rfl⟩
 refine af (wG S ?_)
 refine au ⟨lI qp _,?_⟩
 have k:=G _ _ (b9 s.heap (o:={ cls:=.type "dict",data:=.dict #[] }) rfl)
 let it:Obj:={ cls:=.type "list_iterator",data:=.fields #[.ref l,.int 0 0] }
 have c:∀ b o,s.heap.get? b=aa o->(h1.push it).get? b=aa o:=fun b o e=>bc _ (G _ _ (bc _ e))
 have stab:bj U s.heap (s.heap.objs.size::h1.objs.size::U) (h1.push it):=⟨fun u J=>by
  rcases aL.mp J with rfl|J
  . exact .inr (eV s)
  . rcases aL.mp J with rfl|J
    . refine .inr ?_;cases e:s.heap.get? h1.objs.size with
      |none=>rfl
      |some o=>exact absurd (bH (G _ _ (bc _ e))) (i6 _)
    . exact .inl J,fun b o p e=>c b o e⟩
 refine HG (U:=s.heap.objs.size::h1.objs.size::U) (items:=vs.toArray) (t.in1.mono (by decide)) (cz (bH X)) (cz (bH k)) (dp (cz (bH x))) aY (aN _ aY) _ 0 { s with heap:=h1.push it,toks:=g } _ d ks es f _ _ rfl (cG _)
  ⟨⟨_,b9 _ rfl,rfl,rfl⟩,S.push _⟩ (lY.mpr (to (xT hg z) fun o e=>bc _ (G _ _ e))) y j (hr.imp fun p p q=>q.move stab) fun h' tk V m=>?_
 refine ⟨rfl,h _ _ ⟨⟨h',tk,rfl,fun b o e=>m b o (fun q=>by rw [q,eV s] at e;exact nS e) (fun q=>?_) (c b o e)⟩,s.heap.objs.size,?_⟩⟩
 . have:=bH (G _ _ (bc _ e));rw [q] at this;exact i6 _ this
 . refine cP.eK V fun _ ob i r=>?_;clear V;exact ⟨ob,rfl,eV s,i,r.move (bj.less fun u J=>by
    rcases aL.mp J with rfl|J
    . exact aY
    . exact aN _ (aN _ J)) fun o e=>e⟩
set_option tactic.hygienic true in
theorem xD (T:aW 4 A) (Q:∃ o,H.get? fP=aa o) {c:D} (h:nJ (.list l)=aa c) (P:XW C x (.list l)) :
 ∀ U W s v,ay B w H Z wc U W C s->aT B w U s.heap x v->ak (av B w) A (call (.type "dict") [v]) (cZ B w U s c) (fun F F=>False) s:=fun U W s v S d=>by
 refine lk fun _ N=>?_
 refine bL h fun F h=>?_
 refine ax h fun p G h=>?_
 clear F
 refine aP (P.rep S d) fun a vs n J=>aE J fun L V b=>?_;clear J;subst L
 refine N ?_
 exact DZ T Q S.base S.lives V b G h fun v s' q=>q
theorem Ff(N:aW 4 A)(L:∃ o,H.get? fP=aa o){c:D}(h:nJ (.list l)=aa c)(J:XW C x (.list l)):eW B w H A Z wc C (.type "dict") [x] (.d c):=fun U W s vs S r=>by
 refine r.c fun T V Q P F=>?_;subst Q;replace F:=F.n;subst F;exact aF (xD N L h J U W s _ S P) (fun v s' q=>q.op S.lives) fun G G e=>e
def Ok(n:Nat){α:Type}:KasT α->(α->Prop)->Prop
 | .ret a,P=>P a
 | .ask i j k,P=>i < n/\j < n /\ ∀ b,Ok n (k b) P
theorem Ok.bind{n:Nat}{α D:Type}{f:α->KasT D}{P:α->Prop}{Q:D->Prop}:∀ {t:KasT α},Ok n t P->(∀ a,P a->Ok n (f a) Q)->Ok n (t.bind f) Q
 | .ret a,h,hf=>hf a h
 | .ask i j k,h,hf=>⟨h.1,h.2.1,fun b=>(h.2.2 b).bind hf⟩
theorem Ok.ite{n:Nat}{α:Type}{c:Prop}[Decidable c]{t u:KasT α}{P:α->Prop}(h1:c->Ok n t P)(D:¬ c->Ok n u P):Ok n (if c then t else u) P:=by
 by_cases h:c
 . refine rl (if_pos h) (h1 h)
 . refine rl (if_neg h) (D h)
def Pm(n:Nat)(p:Array Nat):Prop:=p.toList.Perm (c8 n)
theorem Pm.lt{n:Nat}(h:Pm n p)(D:0 < n)i:p.getD i 0 < n:=by
 unfold tR;split
 . rename_i hi;have:p[i]∈p.toList:=by simp
   have:=h.mem_iff.mp this;exact en.mp this
 . exact D
theorem Pm.of{n:Nat}(h:Pm n p)(e:q.Perm p):Pm n q:=(Array.perm_iff_toList_perm.mp e).trans h
theorem Pm.rev{n:Nat}(h:Pm n p)i j:Pm n (kas_rev p i j):=h.of (mirror_perm _ _ _ _)
theorem Pm.bub{n:Nat}(h:Pm n p)i j:Pm n (bubble p i j):=h.of (bubble_perm _ _ _)
theorem Av{n:Nat}(h:Pm n p)(G:0 < n):∀ f m,Ok n (kN p f m) fun F=>True:=by
 intro J;induction J with
 |zero =>
  intro m;exact trivial
 |succ f D =>
  intro m;exact ⟨h.lt G _,h.lt G _,fun b=>Ok.ite (fun F=>trivial) fun F=>D (m+1)⟩
theorem Jn{n:Nat}(G:0 < n):∀ f {p:Array Nat} (m q:Nat),Pm n p->Ok n (kas_desc f p m q) fun r=>Pm n r.1:=by
 intro J;induction J with
 |zero =>
  intro p m q h;exact h
 |succ f D =>
  intro p m q h;exact ⟨h.lt G _,h.lt G _,fun b=>Ok.ite (fun F=>Ok.ite (fun F=>D _ _ (h.rev _ _)) fun F=>D _ _ h)
   fun F=>⟨h.lt G _,h.lt G _,fun d=>Ok.ite (fun F=>h) fun F=>D _ _ h⟩⟩
theorem zh{n:Nat}(F:0 < n)(h:Pm n p):Ok n (kas_tail3 m G p) fun r=>Pm n r.2 :=
 Ok.bind (Av (h.rev _ _) F _ _) fun D D=>h.rev _ _
theorem xU{n:Nat}(D:0 < n)(h:Pm n p):Ok n (kas_descPart m G p) fun r=>Pm n r.2 :=
 Ok.bind (Jn D _ _ _ h) fun r hr=>Ok.ite (fun F=>zh D (hr.rev _ _)) fun F=>zh D hr
theorem HH{n:Nat}(F:0 < n)(h:Pm n p):Ok n (kas_count G p) fun r=>Pm n r.2 :=
 Ok.bind (Av h F _ _) fun m D=>Ok.ite (fun D=>h) fun D=>Ok.ite (fun D=>⟨h.lt F _,h.lt F _,fun c=>Ok.ite (fun D=>h) fun D=>xU F (h.rev _ _)⟩) fun D=>xU F h
theorem HI{n:Nat}(G:0 < n)(h:Pm n p):∀ f l r,Ok n (qt p k f l r) fun F=>True:=by
 intro J;induction J with
 |zero =>
  intro l r;exact trivial
 |succ f D =>
  intro l r;exact Ok.ite (fun F=>trivial) fun F=>⟨h.lt G _,h.lt G _,fun c=>Ok.ite (fun F=>D _ _) fun F=>D _ _⟩
theorem KQ{n:Nat}(F:0 < n):∀ f {p:Array Nat} (k:Nat),Pm n p->Ok n (kas_bin f p k) (Pm n):=by
 intro G;induction G with
 |zero =>
  intro p k h;exact h
 |succ f D =>
  intro p k h;exact Ok.bind (HI F h _ _ _) fun l J=>D _ (h.bub _ _)
theorem nK{n:Nat}(D:0 < n):Ok n (l7 n) (Pm n) :=
 Ok.bind (HH D (show Pm n _ from pI _)) fun r hr=>Ok.ite (fun F=>KQ D _ _ hr) fun F=>hr
theorem Ok.run{n:Nat}{α:Type}{lt:Nat->Nat->Bool}{P:α->Prop}:∀ {t:KasT α},Ok n t P->P (bU lt t)
 | .ret a,h=>h
 | .ask i j k,h=>(h.2.2 _).run
theorem Ok.kasWp{n:Nat}{α:Type}{lt:Nat->Nat->Bool}{P:α->Prop}{D:Nat->Nat->(Bool->aw->Prop)->aw->Prop}{J:aw->Prop}{G:α->aw->Prop}
 (hc:∀ i j C s,i < n->j < n->J s->(∀ s',J s'->C (lt i j) s')->D i j C s):∀ {t:KasT α} {s:aw},Ok n t P->J s->(∀ s',J s'->G (bU lt t) s')->t.kasWp D G s
 | .ret a,s,h,hj,hg=>hg s hj
 | .ask i j k,s,h,hj,hg=>hc i j _ s h.1 h.2.1 hj fun s' F=>Ok.kasWp hc (h.2.2 _) F hg
theorem lQ n lt:(dF n lt).Perm (c8 n):=by
 unfold dF;split
 . exact pI _
 . exact (nK (Bv ‹_›)).run
def oH(B:bm)(w:bh)(A:bo)(vs:List ar)(lt:Nat->Nat->Bool)(s:aw):Prop :=
 ∀ D:SortKind->aw->Prop,(∀ G s2,bb s s2->(∀ i j C s3,i < vs.length->j < vs.length->bb s s3->(∀ F,bb s F->C (lt i j) F)->kas_ask B w A G vs i j C s3)->D G s2) ->
  ak (av B w) A (keyKind' vs.toArray) D (fun J J=>False) s
theorem Et{n:Nat}{lt:Nat->Nat->Bool}(u:s.heap.get? a=aa (dG "list" vs.toArray n))(g:vs.length < 64)
 (hk:2<=vs.length->∀ h1,(∀ b o,b≠a->s.heap.get? b=aa o->h1.get? b=aa o)->oH B w A vs lt { s with heap:=h1 })
 (h:∀ h' tk c,(∀ b o,b≠a->s.heap.get? b=aa o->h'.get? b=aa o)->h'.get? a=aa (dG "list" (List.toArray ((dF vs.length lt).map fun i=>vs.getD i c7)) c)->P (.done (.ret .none)) { s with heap:=h',toks:=tk }) :
 ak (av B w) A (Builtin.«list.sort» ⟨[.ref a],[]⟩) P E s:=by
 have ha:a < s.heap.objs.size:=bH u
 have s1:=eF s.heap a (fq fun G=>(#[]:Array ar))
 obtain ⟨y,f⟩:∃ y,(s.heap.update a (fq fun G=>(#[]:Array ar))).get? a=aa (dG "list" #[] y):=⟨_,m8 u fun G => #[]⟩
 have t:∀ b o,b≠a->s.heap.get? b=aa o->(((s.heap.update a (fq fun G=>(#[]:Array ar))).push (dG "tuple" vs.toArray 0)).push (dG "list" #[] 0)).get? b=aa o:=fun b o hb e =>
  bc _ (bc _ (s1.extBut b o hb e))
 have V:(((s.heap.update a (fq fun G=>(#[]:Array ar))).push (dG "tuple" vs.toArray 0)).push (dG "list" #[] 0)).get? a=aa (dG "list" #[] y):=bc _ (bc _ f);refine rl (list_sort_plain ..) (af (listItems_at u rfl ?_));refine af (xu u rfl ?_ (by refine rl cx ?_;refine rl ja ?_;exact c6 (du ‹_› (by decide))) (cG _));refine af (seqEpoch_at f rfl ?_);refine af (wpAny_newTuple ?_ (by show vs.length<=_;refine rl ja ?_;exact c6 (du ‹_› (by decide))));refine af (wpAny_newList ?_ (cG _));refine fm ?_;show ak (av B w) A _ P E { s with heap:=((s.heap.update a (fq fun G=>(#[]:Array ar))).push (dG "tuple" vs.toArray 0)).push (dG "list" #[] 0) };generalize ((s.heap.update a (fq fun G=>(#[]:Array ar))).push (dG "tuple" vs.toArray 0)).push (dG "list" #[] 0)=h1 at t V;dsimp only;by_cases k:vs.length < 2
 . have N:vs.toArray.size < 2:=by refine rl cx ?_;exact k
   refine rl (if_pos N) (rl (if_pos N) (af (au ?_)));refine rl (StateT.run_pure ..) (af (au ?_));generalize l:SortSt.mk' general' (vs.toArray.zip vs.toArray) #[] 7 ab=L;have X:(arrOf L).map (·.2)=vs.toArray:=by
    refine rl (az l) ?_;show (vs.toArray.zip vs.toArray).map (·.2)=vs.toArray;apply Array.toList_inj.mp;simp [List.map_snd_zip]
   have z:failedOf L=none:=by refine rl (az l) ?_;rfl
   have S:vs=(dF vs.length lt).map (fun i=>vs.getD i c7):=by
    unfold dF;refine rl (if_pos k) ?_;apply sy;intro i;refine rl cy ?_;by_cases hi:i < vs.length
    . refine rl (wB hi) ?_;simp [hi]
    . refine rl (ij (ch.mp ‹_›)) ?_;refine rl (ij (by simp;exact ch.mp ‹_›)) rfl
   obtain ⟨c2,hc2⟩:∃ c2,(h1.update a (fq fun G=>vs.toArray)).get? a=aa (dG "list" vs.toArray c2):=⟨_,m8 V fun G=>vs.toArray⟩;refine rl X (af (seqEpoch_at V rfl ?_));refine af (xu V rfl ?_ (cG _) (by refine rl cx ?_;refine rl ja ?_;exact c6 (du ‹_› (by decide))));refine rl z ?_;first|refine rl (if_neg fN) ?_|refine rl (if_neg (by decide)) ?_|refine rl (if_neg (by simp)) ?_
   exact au (h _ s.toks c2 (fun b o hb e=>(eF h1 a (fq fun G=>vs.toArray)).extBut b o hb (t b o hb e)) (by refine rl (az S) ?_;exact hc2))
 . have N:¬ vs.toArray.size < 2:=by refine rl cx ?_;exact k
   refine rl (if_neg N) (rl (if_neg N) ?_);refine af (aF (hk (ch.mp ‹_›) h1 t (fun r s'=>∃ (ks:bb { s with heap:=h1 } s'),∀ i j C s3,i < vs.length->j < vs.length->bb { s with heap:=h1 } s3->(∀ v,bb { s with heap:=h1 } v->C (lt i j) v)->kas_ask B w A r vs i j C s3) fun r s2 ks hc=>⟨ks,hc⟩) (fun r s2 hq=>?_) fun G G e=>e.elim);refine ae hq fun ks hc=>?_;clear hq;have q:(l7 vs.length).kasWp (kas_ask B w A r vs) (fun p s''=>bb { s with heap:=h1 } s''/\p.toList=dF vs.length lt) s2 :=
    Ok.kasWp (J:=bb { s with heap:=h1 }) (fun i j C s3 hi hj hJ hC=>hc i j C s3 hi hj hJ hC) (nK (n:=vs.length) (Bv k)) ks fun v k4=>⟨k4,by unfold dF;refine rl (if_neg k) ?_;rfl⟩
   refine af (aF (kat_run (Q:=fun L s'=>∃ p:Array Nat,p.size=vs.length/\arrOf L=p.map (kas_item (vs.toArray.zip vs.toArray))/\failedOf L=ab/\bb { s with heap:=h1 } s'/\p.toList=dF vs.length lt)
    rfl (ch.mp ‹_›) g (fun p' L s' a1 a2 a3 a4=>⟨p',a1,a2,a3,a4⟩) q) ?_ fun G G e=>e)
   rintro ⟨⟨⟩,L⟩ s' ⟨p,hp,d,z,hks,m⟩;dsimp only;have X:=kat_snds (vs:=vs) rfl d;clear d hc ks f q N s1 ha;obtain ⟨F,D⟩:∃ F:List ar,F=p.toList.map fun i=>vs.getD i Value.none:=⟨_,rfl⟩;rw [←D] at X;have S:F=(dF vs.length lt).map (fun i=>vs.getD i c7):=by refine rl D ?_;refine rl m ?_;rfl
   have hlen:F.length=vs.length:=by refine rl D ?_;refine rl (aZ ..) ?_;refine rl mQ ?_;refine rl hp ?_;rfl
   refine aM (id hks) fun x t2 q0=>ac q0 fun e3 k2=>?_;clear q0;have e4:s' = { s with heap:=x,toks:=t2 }:=e3;clear e3 D m hks hp;subst e4;have T:=k2 _ _ V;obtain ⟨c2,hc2⟩:∃ c2,(x.update a (fq fun G=>F.toArray)).get? a=aa (dG "list" F.toArray c2):=⟨_,m8 T fun G=>F.toArray⟩;refine rl X (af (seqEpoch_at T rfl ?_));refine af (xu T rfl ?_ (cG _) (by refine rl cx ?_;refine rl ja ?_;exact L8 g hlen));refine rl z ?_;first|refine rl (if_neg fN) ?_|refine rl (if_neg (by decide)) ?_|refine rl (if_neg (by simp)) ?_
   exact au (h _ t2 c2 (fun b o hb e=>(eF x a (fq fun G=>F.toArray)).extBut b o hb (k2 _ _ (t b o hb e))) (by refine rl (az S) ?_;exact hc2))
noncomputable def qP(vs:List ar)(lt:Nat->Nat->Bool):List Value:=(dF vs.length lt).map fun i=>vs.getD i c7
theorem EO{lt:Nat->Nat->Bool}(N:vs.length < 64)
 (hc:∀ R:List ar->aw->Prop,(∀ h1 tk,(∀ b o,s.heap.get? b=aa o->h1.get? b=aa o)->R vs { s with heap:=h1,toks:=tk })->ak (av B w) A.in1 (kM x) R E s)
 (hk:2<=vs.length->∀ h1 tk,(∀ b o,s.heap.get? b=aa o->h1.get? b=aa o)->oH B w A.in1.in1 vs lt { s with heap:=h1,toks:=tk })
 (h:∀ h' tk D c,(∀ b o,s.heap.get? b=aa o->h'.get? b=aa o)->s.heap.get? D=ab->h'.get? D=aa (dG "list" (qP vs lt).toArray c)->Q (.ref D) { s with heap:=h',toks:=tk }) :
 ak (av B w) A (call (.builtin "sorted") [x]) Q E s:=by
 refine Calls.call_function_entry kind_sorted plain_sorted entry_sorted (args_sorted1 _) ?_
 refine af (m:=checkCount "sorted" 1 1 _) (au ?_)
 refine af (hc _ fun h1 J T=>?_)
 refine af (wpAny_newList ?_ (by refine rl ja ?_;exact c6 (du ‹_› (by decide))))
 have G:(h1.push (dG "list" vs.toArray 0)).get? h1.objs.size=aa (dG "list" vs.toArray 0):=b9 _ rfl
 have S:s.heap.get? h1.objs.size=none:=by
  cases e:s.heap.get? h1.objs.size with
  |none=>rfl
  |some o=>exact absurd (bH (T _ _ e)) (i6 _)
 have keep:∀ b o,s.heap.get? b=aa o->(h1.push (dG "list" vs.toArray 0)).get? b=aa o:=fun b o q=>bc _ (T b o q);have L:∀ b o,s.heap.get? b=aa o->b≠h1.objs.size:=fun b o e q=>by rw [q,S] at e;exact nS e
 refine af (fm (fO slot_list_sort ⟨_,G,rfl⟩ entry_list_sort ?body (args_list_sort _)));case body =>
  refine Et (s:={ s with heap:=h1.push (dG "list" vs.toArray 0),toks:=J }) (lt:=lt) G N (fun V X P=>hk V X J fun b o e=>P b o (L b o e) (keep b o e)) fun h' tk c P F=>⟨_,rfl,au ⟨_,rfl,h h' tk _ c (fun b o e=>P b o (L b o e) (keep b o e)) S F⟩⟩
theorem Gk{α:Type}{R:α->ar->Prop}{l:List α}(h:ai R l vs):∀ is:List Nat,(∀ i∈is,i < l.length)->ai R (is.filterMap fun i=>l[i]?) (is.map fun i=>vs.getD i c7):=by
 intro J;induction J with
 |nil =>
  intro _;exact .nil
 |cons i is D =>
  intro hi;have G:=hi i aY;have e:l[i]? = aa l[i]:=dt G;refine h.getK e fun v hv hr=>rl (List.filterMap_cons_some e) ?_;refine rl b7 ?_;have:vs.getD i c7=v:=by refine rl f7 ?_;refine rl hv ?_;rfl
  refine rl this (.cons hr (D fun j F=>hi j (aN _ F)))
theorem Eu{α:Type}{R:α->ar->Prop}{l:List α}(h:ai R l vs)lt:ai R ((dF l.length lt).filterMap fun i=>l[i]?) (qP vs lt):=by unfold qP;refine rl (az h.length) (Gk h _ fun i hi=>en.mp ((lQ _ lt).mem_iff.mp hi))
noncomputable def lh{α:Type}(l:List α)(lt:α->α->Bool)(i j:Nat):Bool:=match l[i]?,l[j]? with
 |some a,aa b=>lt a b
 |_,_=>false
theorem yD{α:Type}l(lt:α->α->Bool):bV l lt=(dF l.length (lh l lt)).filterMap fun i=>l[i]? := rfl
theorem Jo(h:gG vs is){i:Nat}(hi:i < vs.length):∃ a t,vs.getD i c7 = .int a t/\is[i]? = aa a:=by have e:vs[i]? = aa vs[i]:=dt hi;refine aM (h.at i _ e) fun n t D=>ac D fun F e3=>?_;clear D;exact aR n t ⟨by refine rl f7 ?_;refine rl e ?_;refine rl F ?_;rfl,e3⟩
theorem zi(h:gG vs is){i:Nat}(hi:i < vs.length){G:Prop}(k:∀ a t,vs.getD i c7 = .int a t->is[i]? = aa a->G):G:=aM (Jo h hi) fun F z1 D=>ac D fun z2 J=>k F z1 z2 J
theorem HJ(h:gG vs is)(J:2<=vs.length):oH B w A vs (lh is fun a b=>decide (a < b)) s:=by
 intro c N;refine kas_kind (T:=.type "int") J (fun v hv=>?_) (by decide) (by decide) (N _ s (cb s) fun i j C s3 hi S k P=>?_)
 . refine ae (List.mem_iff_getElem.mp hv) fun i G=>ae G fun hi D=>?_;clear G;subst D;refine aM (h.at i _ (dt hi)) fun n t D=>ac D fun F _=>?_;clear D;refine rl F (fun A Q E s X hq=>i8 (T := "int") rfl hq)
 . refine zi h hi fun a t V F=>zi h S fun b u e3 L=>?_;unfold kas_ask;refine rl V (rl e3 (kat_lt_int ?_))
   have:=P s3 k;unfold lh at this;rw [F,L] at this;exact this
theorem Gm(h:(bt B w).is k v=true):∃ t,v = .int k t:=intKind_is h
theorem ye(h:(bt B w).is k v=true){G:Prop}(F:∀ t,v = .int k t->G):G:=ae (Gm h) fun D z1=>F D z1
theorem D9(q:fR (bt B w) s.heap x a)(m:fR (bt B w) s.heap y b)(h:P (.done (.ret (.bool (a6 x y)))) s):
 ak (av B w) A (Builtin.«tuple.__lt__» ⟨[.ref a,.ref b],[]⟩) P E s:=by
 have hT:=m.typeIs
 refine aP q fun oa xs na F=>bR F fun i _ j k=>?_;clear q F
 refine aP m fun ob ys nb F=>bR F fun l _ o n=>?_;clear m F
 show ak _ _ (isInstance (.ref b) (.type "tuple") >>= _) _ _ s
 refine af (pA hT isSubtype_tuple_tuple ?_)
 first|refine rl (if_neg fN) ?_|refine rl (if_neg (by decide)) ?_|refine rl (if_neg (by simp)) ?_
 refine af (Dr i j ?_)
 refine af (Dr l o ?_)
 refine af ?_
 refine sG _
  (fun N r s'=>r.1=ab/\s'=s /\ ∃ (x' y':List Int) (J G:List ar),N=List.zip J G/\PySem.ItemsAre (bt B w) x' J/\PySem.ItemsAre (bt B w) y' G/\a6 x' y'=a6 x y/\decide (J.length < G.length)=decide (xs.size < ys.size))
  _ ?_ ?_ _ _ ⟨rfl,rfl,x,y,xs.toList,ys.toList,rfl,k,n,rfl,by simp⟩
 . rintro ⟨u,v⟩ N r s' ⟨hr,rfl,x',y',J,G,g,Q,L,D,hlen⟩;cases Q with
   |nil=>contradiction
   | @cons S u' f d h1 c =>
    cases L with
    |nil=>contradiction
    | @cons p v' T X t e =>
     simp only [mT,List.cons.injEq,ti] at g;refine ac g fun F q1=>?_;clear g;refine ac F fun q2 z=>?_;clear F;subst q2;subst z;subst q1;refine ye h1 fun t1 F=>?_;subst F;refine ye t fun t2 F=>?_;subst F;refine af (wpAny_eqBool_int ?_);by_cases hk:S=p
     . subst hk;first|refine rl (if_neg fN) ?_|refine rl (if_neg (by decide)) ?_|refine rl (if_neg (by simp)) ?_
       refine au ⟨rfl,rfl,f,T,d,X,rfl,c,e,?_,by simpa using hlen⟩;refine rl (az D) ((show (if S=S then a6 f T else decide (S < S))=_ from if_pos rfl).symm)
     . refine rl (beq_eq_false_iff_ne.mpr hk) ?_;first|refine rl (if_pos rfl) ?_|refine rl (if_pos (by decide)) ?_|refine rl (if_pos (by simp)) ?_
       have hf:a6 x y=decide (S < p):=by refine rl (az D) ?_;exact if_neg hk
       rw [hf] at h;exact af (jG (af (w8 (af (au (au (au h)))))))
 . rintro ⟨r1,r2⟩ s' ⟨hr,rfl,x',y',J,G,g,Q,L,D,hlen⟩;simp only at hr;subst hr;refine au ?_;show P (.done (.ret (.bool (decide (xs.size < ys.size))))) s';have V:decide (xs.size < ys.size)=a6 x y:=by
    refine rl (az D) (rl (az hlen) ?_);rcases Q with _|⟨_,_⟩
    . rcases L with _|⟨_,_⟩
      iterate 2 rfl
    . rcases L with _|⟨_,_⟩
      . rfl
      . contradiction
   refine rl V h
theorem HK(J:A.units < eA)(D:fR (bt B w) s.heap x a)(G:fR (bt B w) s.heap y b)(h:Q (.bool (a6 x y)) s):
 ak (av B w) A (compareOp .Lt (.ref a) (.ref b)) Q E s :=
 wpAny_richCompare_same_room (op:=.Lt) D.typeIs G.typeIs F.slot_tuple_lt
  (fO F.slot_tuple_lt D.typeIs F.entry_tuple_lt (D9 D G ⟨_,rfl,(fun e=>nomatch e),h⟩) (F.args_tuple_lt_2 _ _)) J
theorem Fg:∀ a b:List Nat,nW a b=true↔a < b:=by
 intro P;induction P with
 |nil =>
  intro G;rcases G with _|⟨D,F⟩
  . exact ⟨fun h=>nB h,fun h=>absurd h (List.lt_irrefl [])⟩
  . exact ⟨fun _=>List.nil_lt_cons D F,fun _=>rfl⟩
 |cons J N L =>
  intro G;rcases G with _|⟨D,F⟩
  . exact ⟨fun h=>nB h,fun h=>absurd h (List.not_lt_nil _)⟩
  . refine rp (List.cons_lt_cons_iff ..) ?_;show (if J=D then nW N F else decide (J < D))=true↔_
    by_cases e:J=D
    . subst e;rw [if_pos rfl,L F];exact ⟨fun h=>.inr ⟨rfl,h⟩,fun h=>h.elim (fun h=>absurd h (i6 _)) fun h=>h.2⟩
    . rw [if_neg e];exact ⟨fun h=>.inl (of_decide_eq_true h),fun h=>h.elim (fun h=>decide_eq_true h) fun h=>absurd h.1 e⟩
theorem yE a b:nW a b=decide (a < b):=by refine rp (sS ..) (rp (Fg ..) (Iff.symm decide_eq_true_iff))
theorem Jp:∀ xs ys:List Int,bf (.tup (xs.map .int)) (.tup (ys.map .int))=decide (xs=ys):=by
 intro N;induction N with
 |nil =>
  intro D;rcases D with _|⟨J,G⟩
  . refine rl (nF ..) rfl
  . refine rl (nF ..) rfl
 |cons L P F =>
  intro D;rcases D with _|⟨J,G⟩
  . refine rl (nF ..) rfl
  . have ih:=F G;rw [nF] at ih ⊢;refine rl b7 (rl b7 (rl (yr ..) (rl ih (rl (ma ..) ?_))));by_cases h:L=J<;>simp [h]
inductive rY:D->Prop
 |i (x:Int):rY (.int x)
 |s (x:List Nat):rY (.str x)
 |t {l:List D} {xs:List Int} (h:cr l=aa xs):rY (.tup l)
theorem rZ(h:kg d=true):rY d:=by
 cases d with
 |int x=>exact .i x
 |str x=>exact .s x
 |tup l=>refine ae (mO.mp h) fun xs F=>?_;exact .t F
 |_=>exact nB h
theorem r4{P:Prop}(h:bf a b=true\/(lp a b).isSome=true)(F:bf a b=false)(G:lp a b=ab):P:=h.elim (fun h=>nB (F.symm.trans h)) fun h=>nB ((congrArg Option.isSome G).symm.trans h)
theorem OI(T:A.units < eA)(J:aC B w U s.heap a p)(G:aC B w U s.heap b q)(h:bf a b=true\/(lp a b).isSome=true)(N:kg a=true)(ob:kg b=true)(hq:Q (bf a b) s):
 ak (av B w) A (eqBool p q) Q E s:=by
 cases rZ N with
 |i x =>
  cases rZ ob with
  |i y =>
   refine gd J fun t F=>?_;subst F;refine gd G fun u F=>?_;subst F;exact wpAny_eqBool_int hq
  |_=>exact r4 h rfl rfl
 |s x =>
  cases rZ ob with
  |s y =>
   refine jb J fun t F=>?_;subst F;refine jb G fun u F=>?_;subst F;rw [IS] at hq;refine wpAny_eqBool_str ?_;refine rl (show decide ((⟨x.toArray⟩:aq)=⟨y.toArray⟩)=decide (x=y) from by by_cases h:x=y<;>simp [h]) ?_;exact hq
  |_=>exact r4 h rfl rfl
 |t L =>
  cases rZ ob with
  |t S =>
   rw [gz L] at J hq;rw [gz S] at G hq;refine kR J fun a F P=>?_;subst F;refine kR G fun b F ib=>?_;subst F;exact Ds T P ib ((Jp _ _) ▸ hq)
  |i y=>exact r4 h rfl (by show (cr _).bind _=ab;refine rl L ?_;rfl)
  |s y=>exact r4 h rfl (by show (cr _).bind _=ab;refine rl L ?_;rfl)
theorem OJ(S:A.units < eA){c:Bool}(G:aC B w U s.heap a p)(N:aC B w U s.heap b q)(h:lp a b=aa c)(hq:Q c s):
 ak (av B w) A (oneLt' false p q) Q E s:=by
 refine kat_one p q ?_
 cases a with
 |int x =>
  refine lk fun _ J=>?_;clear S;refine aG h fun y hb F=>?_;subst F;clear h;obtain rfl:=aI hb;clear hb;refine gd G fun t F=>?_;subst F;clear G;refine gd N fun u F=>?_;subst F;refine J (w8 hq)
 |str x =>
  refine lk fun _ J=>?_;clear S;refine aG h fun y hb F=>?_;subst F;clear h;obtain rfl:=uW hb;clear hb;refine jb G fun t F=>?_;subst F;clear G;refine jb N fun u F=>?_;subst F;refine J ?_;exact PySem.P.lt_str (by rw [yE] at hq;exact hq)
 |tup x =>
  refine lk fun _ J=>ax h fun xs T h=>aG h fun ys L F=>?_;subst F;clear h;refine qx L fun y F L=>?_;subst F;rw [gz T] at G;rw [gz L] at N;clear L h T;refine kR (k:=xs) G fun a F V=>?_;subst F;clear L G;clear y;refine kR (k:=ys) N fun b F ib=>?_;subst F;refine J (HK S V ib hq)
 |_=>exact nS h
theorem KR{c:Bool}(G:aC B w U s.heap a p)(L:aC B w U s.heap b q)(h:lp a b=aa c)(J:rq a b=true)(hq:Q c s):
 ak (av B w) A (oneLt' true p q) Q E s:=by
 cases a with
 |int x =>
  clear J;refine aG h fun y hb F=>?_;subst F;clear h;obtain rfl:=aI hb;clear hb;refine gd G fun t F=>?_;subst F;clear G;refine gd L fun u F=>?_;subst F;exact oneLt_int hq
 |str x =>
  clear J;refine aG h fun y hb F=>?_;subst F;clear h;obtain rfl:=uW hb;clear hb;refine jb G fun t F=>?_;subst F;clear G;refine jb L fun u F=>?_;subst F;exact oneLt_str (by rw [yE] at hq;exact hq)
 |_=>exact nB J
theorem KS(V:A.units < eA){C:Bool->aw->Prop}{c L:Bool}:∀ as bs J G i,ai (aC B w U s.heap) as J->ai (aC B w U s.heap) bs G->eC as bs=aa c->(as.all kg)=true->(bs.all kg)=true ->
 (i=0->as = []\/bs = []\/kD as bs=true)->decide (J.length < G.length)=L->C c s->KatLex B w A true L C (J.zip G) i s:=by
 intro as
 induction as with
 |nil =>
  intro bs J G i p q h _ _ _ N F;replace p:=p.n;subst p;rcases q with _|_
  . replace h:=sI h;subst h;subst N;exact kat_nil F
  . replace h:=sI h;subst h;subst N;exact kat_nil F
 |cons a as ih =>
  intro bs J G i p q h P ob X N F;cases p with | @cons _ p _ J T f =>
  cases q with
  |nil=>replace h:=sI h;subst h;subst N;exact kat_nil F
  | @cons b q bs G Q d =>
  rw [xw,bX] at P ob;replace h:(if bf _ _=true then eC _ _ else lp _ _)=_:=h
  refine rl mT (kat_cons (OI V T Q ?_ P.1 ob.1 ?_))
  . split at h
    . rename_i e;exact .inl e
    . exact .inr (by refine rl h ?_;rfl)
  . split at h
    . rename_i e;refine rl e ?_;exact kat_yes (ih bs _ _ (i+1) f d h P.2 ob.2 (fun e=>by exact (L9 e).elim) (by simpa using N) F)
    . rename_i e;rw [jB] at e;refine rl e (kat_no ?_);by_cases hi:i=0
      . subst hi;have S:rq a b=true:=by
         rcases X rfl with e|e|e
         . contradiction
         . contradiction
         . exact e
        exact KR T Q h S F
      . refine rl (show (true && i == 0)=false from by exact if_neg hi) (OJ V T Q h F)
noncomputable def d6:D->String
 | .int _ => "int"
 | .str _ => "str"
 |_ => "tuple"
theorem AZ:¬(("tuple" : String) = "int" \/ ("tuple" : String) = "str"):=by decide
theorem HL(e:T = "int" \/ T = "str"):∀ (ts:List (List D)) vs,ai (aC B w U h) (ts.map .tup) vs->(∀ t∈ts,∃ d r,t=d::r/\d6 d=T) ->
 ∃ J,KatTups h vs J/\J.length=vs.length /\ ∀ v∈J,Looks (av B w) h (typeOf v) (.type T):=by
 intro ts
 induction ts with
 |nil=>intro vs q _;replace q:=q.n;subst q;exact ⟨[],.nil,rfl,fun P h=>by exact (a7 h).elim⟩
 |cons t ts ih =>
  intro vs q ht;refine q.c fun j l i g X=>?_;subst i;refine ae (ih _ X fun t h=>ht t (aN _ h)) fun J G=>aE G fun k hl L=>?_;clear G;refine aM (ht t aY) fun d r N=>ac N fun G F=>?_;clear N;subst G;clear ht;refine jc g fun a vs n G _ S hr=>?_;subst G;cases hr with | @cons _ f _ _ V m =>
  refine ⟨f::J,.cons S rfl rfl (by rfl) k,by exact (fun {a b}=>Nat.succ_inj.mpr) hl,fun v hv=>?_⟩;clear S hl k;clear n;rcases aL.mp hv with rfl|hv
  . clear hv L;cases d with
    |int x=>refine gd V fun t G=>?_;subst G;subst F;exact fun A Q E s P hq=>i8 (T := "int") rfl hq
    |str x=>refine jb V fun t G=>?_;subst G;subst F;exact fun A Q E s P hq=>i8 (T := "str") rfl hq
    |_=>subst F;exact absurd e AZ
  . exact L v hv
theorem Gn(h:rq x y=true):d6 x=d6 y/\(d6 y = "int" \/ d6 y = "str"):=by
 cases x with
 |int x=>refine ae (mO.mp h) fun i h=>?_;obtain rfl:=aI h;exact ⟨rfl,.inl rfl⟩
 |str x=>refine ae (mO.mp h) fun i h=>?_;obtain rfl:=uW h;exact ⟨rfl,.inr rfl⟩
 |_=>exact nB h
theorem Ev(h:kD a b=true):∃ x r y q,a=x::r/\b=y::q/\d6 x=d6 y/\(d6 y = "int" \/ d6 y = "str"):=by
 rcases a with _|⟨x,r⟩
 . exact nB h
 . rcases b with _|⟨y,q⟩
   . exact nB h
   . exact h8 x r y q ⟨rfl,rfl,Gn h⟩
theorem xf(h:kD a b=true){G:Prop}(k:∀ x r y q,a=x::r->b=y::q->d6 x=d6 y->(d6 y = "int" \/ d6 y = "str")->G):G:=dK (Ev h) fun N z1 z2 S L=>bR L fun P Q J F=>k N z1 z2 S P Q J F
theorem uy(h:d6 x=T)(F:T = "int" \/ T = "str"):(∃ i,x = .int i/\T = "int") \/ ∃ l,x = .str l/\T = "str" := by
 cases x with
 |int i=>exact .inl ⟨i,rfl,h.symm⟩
 |str l=>exact .inr ⟨l,rfl,h.symm⟩
 |_=>subst h;exact absurd F AZ
theorem HM(h:d6 x=d6 y)(F:d6 y = "int" \/ d6 y = "str"):kD (x::r) (y::q)=true:=by
 refine lk fun _ G=>?_;rcases uy h F with ⟨i,rfl,e⟩|⟨l,rfl,e⟩
 . clear F h;rcases uy e (.inl rfl) with ⟨j,rfl,_⟩|⟨j,_,e⟩
   . refine G rfl
   . exact absurd e (by decide)
 . clear F h;rcases uy e (.inr rfl) with ⟨j,_,e⟩|⟨j,rfl,_⟩
   . exact absurd e (by decide)
   . refine G rfl
theorem HN(hu:A.units < eA)(hr:ai (aC B w U s.heap) (ts.map .tup) vs)(h2:2<=vs.length)(ok:ts.all (fun t=>t.all kg)=true)(m:ts.all (fun t=>kD t (ts.headD []))=true)
 (hl:ts.all (fun a=>ts.all fun b=>(eC a b).isSome)=true):oH B w A vs (lh ts fun a b=>(eC a b).getD false) s:=by
 intro QQ hQ
 have hlen:=hr.length
 rw [aZ] at hlen
 refine lk fun _ G=>?_
 obtain ⟨T,f,J⟩:∃ T,(T = "int" \/ T = "str") /\ ∀ t∈ts,∃ d r,t=d::r/\d6 d=T:=by
  refine lk fun _ G=>?_;rcases ts with _|⟨t0,r0⟩
  . simp at hlen;refine G ((Ma h2 hlen).elim)
  . rw [bq] at m;refine xf (m t0 aY) fun x r y q _ N e3 e4=>G ?_;refine ⟨d6 y,e4,fun t ht=>?_⟩;refine lk fun _ G=>xf (m t ht) fun x' r' y' q' z S o l=>?_;rw [N] at S;clear l e4 e3 N;obtain ⟨⟩:=S;refine G (aR x' r' ⟨z,o⟩)
 refine ae (HL f ts vs hr J) fun fs F=>aE F fun kt u Q=>?_;clear F;refine G ?_;refine kat_kind kt (Mb h2 u) Q ReflBEq.rfl (hQ _ s (cb s) fun i j C s3 hi hj k hC=>?_);have hne:(jH T != jH "tuple")=true:=by rcases f with rfl|rfl<;>decide
 refine rl hne ?_;have V:∀ i,i < vs.length->∃ t a xs n,ts[i]? = aa t/\vs.getD i c7 = .ref a/\s3.heap.get? a=aa (dY xs n)/\ai (aC B w U s3.heap) t xs:=fun i hi=>by
  have e:ts[i]? = aa ts[i]:=dt (vT hlen hi);refine lk fun _ G=>?_;clear f Q kt;refine (hr.imp fun ο ο q=>aC.move (cu k) _ _ q).getK (i:=i) (a:=.tup ts[i]) (by refine rl cy ?_;refine rl e ?_;rfl) fun v hv rv=>?_;refine jc rv fun a xs n F _ ho hx=>?_;subst F;refine G ?_;exact h8 _ a xs n ⟨e,by refine rl f7 ?_;refine rl hv ?_;rfl,ho,hx⟩
 refine lk fun _ G=>dK (V i hi) fun g a1 x1 n1 F=>bR F fun p v1 o1 r1=>?_;clear F;refine dK (V j hj) fun X a2 x2 n2 F=>bR F fun N v2 o2 r2=>?_;clear F;refine G ?_;unfold kas_ask;refine rl v1 (rl v2 ?_);have m1:=fM p;have m2:=fM N;rw [bq] at ok hl;refine ae (mO.mp (bq.mp (hl g m1) X m2)) fun c hc=>?_;have L:=hC s3 k;unfold lh at L;rw [p,N] at L;simp only [hc,Option.getD_some] at L;refine kat_lt o1 rfl o2 rfl (KS hu g X _ _ 0 r1 r2 hc (ok g m1) (ok X m2) (fun ο => ?_) (by rfl) L);refine lk fun _ G=>?_;clear hc r2 o2 v2 N r1 o1 v1;clear p n1 x1 a1;refine aM (J g m1) fun d1 q1 P=>ac P fun F g1=>?_;clear P;subst F;clear n2 x2 a2;refine aM (J X m2) fun d2 q2 P=>ac P fun F g2=>?_;clear P;subst F;refine G ?_;exact .inr (.inr (HM (g1.trans g2.symm) (by refine rl g2 ?_;exact f)))
theorem Go:∀ {l:List D} {ts:List (List D)},nX l=aa ts->l=ts.map .tup:=by
 intro l;induction l with
 |nil=>intro ts h;replace h:=sI h;subst h;rfl
 |cons d r ih =>
  intro ts h;refine ax h fun x G h=>aG h fun xs F J=>?_;subst J;refine rl (ml G) (rl (ih F) rfl)
theorem filterMap_map{α F:Type}(f:α->F)(l:List α):∀ is:List Nat,(is.filterMap fun i=>(l.map f)[i]?)=(is.filterMap fun i=>l[i]?).map f:=by
 intro G;induction G with
 |nil =>
  exact rfl
 |cons i is D =>
  have ih:=D;simp only [cy] at ih;simp only [su,cy];cases l[i]? <;> (first|exact congrArg _ ‹_› | simp [ih])
set_option tactic.hygienic true in
theorem pT (j:aW 4 A) (L:dM U s) {x:ar} {vs:List ar} {l r:List D} (S:ai (aC B w U s.heap) l vs) (F:dJ l=aa r)
 (hc:∀ R:List ar->aw->Prop,(∀ h1 tk,(∀ b o,s.heap.get? b=aa o->h1.get? b=aa o)->R vs { s with heap:=h1,toks:=tk })->ak (av B w) A.in1 (kM x) R E s) :
 ak (av B w) A (call (.builtin "sorted") [x]) (fun v s'=>bb s s'/\aT B w U s'.heap (.d (.list r)) v) E s:=by
 have hlen:=S.length
 unfold dJ at F
 split at F
 . rename_i J
   have N:∀ (lt:Nat->Nat->Bool),(2<=vs.length->∀ h1 tk,(∀ b o,s.heap.get? b=aa o->h1.get? b=aa o)->oH B w A.in1.in1 vs lt { s with heap:=h1,toks:=tk })->r=(dF l.length lt).filterMap (fun i=>l[i]?) ->
    ak (av B w) A (call (.builtin "sorted") [x]) (fun v s'=>bb s s'/\aT B w U s'.heap (.d (.list r)) v) E s:=fun lt hk hr=>by
    refine EO (lt:=lt) (Mc hlen J) hc hk fun h' tk D c k m n=>?_
    have g:bb s { s with heap:=h',toks:=tk }:=⟨h',tk,rfl,k⟩
    refine ⟨g,jQ.mpr ⟨D,qP vs lt,c,rfl,fun hm=>?_,n,?_⟩⟩
    . refine ae (L D hm) fun o e=>?_;rw [m] at e;exact nS e
    . refine rl hr ?_
      exact (Eu S lt).imp fun X X q=>aC.move (cu g) _ _ q
   split at F
   . rename_i is Q;clear J hlen hc;clear L j;replace F:=sI F;subst F;have e:=gz Q;clear Q;subst e;refine N (lh is fun a b=>decide (a < b)) (fun T h1 V f=>HJ (lV.mpr S) T) ?_;refine rl (filterMap_map ..) (rl (aZ ..) (rl (yD ..) rfl))
   . split at F
     . rename_i ts P;refine bL F fun G F=>?_;clear J hlen hc;clear L;replace F:=sI F;subst F;have e:=Go P;clear F P;subst e;rw [bX,bX] at G;have p:A.in1.in1.units < cLine:=by have:=j.u;show A.units+1+1 < _;exact Md this
       refine N (lh ts fun a b=>(eC a b).getD false) (fun T h1 V f=>HN p (S.imp fun X X q=>aC.move (bj.ext fun b o e=>f b o e) _ _ q) T G.1.1 G.1.2 G.2) ?_;refine rl (filterMap_map ..) (rl (aZ ..) (rl (yD ..) rfl))
     . clear J N hlen;exact nS F
 . clear hlen;exact nS F
theorem Ea{a:am}{vs:List ar}{n:Nat}(D:s.heap.get? a=aa (cL vs n))(F:vs.length<=100000){R:List ar->aw->Prop}(h:∀ h1 tk,(∀ b o,s.heap.get? b=aa o->h1.get? b=aa o)->R vs { s with heap:=h1,toks:=tk }):
 ak (av B w) A (kM (.ref a)) R E s :=
 DI a (.inl rfl) D rfl rfl (fun h' k=>by exact h h' s.toks k) (by refine rl cx ?_;exact dm F)
theorem D0{a:am}{vs:List ar}{n:Nat}(D:s.heap.get? a=aa (dY vs n))(F:vs.length<=100000){R:List ar->aw->Prop}(h:∀ h1 tk,(∀ b o,s.heap.get? b=aa o->h1.get? b=aa o)->R vs { s with heap:=h1,toks:=tk }):
 ak (av B w) A (kM (.ref a)) R E s :=
 DI a (.inr rfl) D rfl rfl (fun h' k=>by exact h h' s.toks k) (by refine rl cx ?_;exact dm F)
theorem Gp(h:dJ l=aa r):l.length < 64:=by delta dJ at h;refine lk fun _ F=>bL h fun G h=>F ?_;assumption
theorem KT(hd:(d == gy)=false):KdlSrc B w "dict" d d es.size (fun i v=>∃ e,es[i]? = aa e/\v=e.key) (fun h=>dB h d es ep) where
 type:=fun s D=>by refine dB.eK D fun o F hc _=>?_;clear D;exact ⟨o,F,hc.1⟩
 there:=fun h D=>by refine ae D fun o G=>ac G fun F _=>?_;clear D G;exact ⟨bH F,bH F⟩
 keep:=fun h h' r k=>r.at fun o e=>k d (.inl rfl) o e
 notList:=by decide
 notTuple:=by decide
 hint:=fun A E s Q D hq=>by refine dB.eK D fun o F hc _=>?_;clear D;exact kdl_hint_dict ⟨o,F,hc.1⟩ hq
 iter:=fun A s hh hm=>by
  have J:d≠s.heap.objs.size:=by refine ae (id hm) fun o G=>ac G fun F _=>?_;clear G;exact cz (bH F)
  exact aR _ _ ⟨fun E Q hq=>x0 hd hm hq,Walks.rawKeys hh _ d J es ep,⟨_,b9 _ rfl,rfl,rfl⟩,hm.at fun o e=>bc _ e⟩
theorem EP{d:am}{es:Array jL}{ep:Nat}(j:A.handled=ab)(hd:(d == gy)=false)(hm:dB s.heap d es ep)(c:es.size<=100000){R:List ar->aw->Prop}
 (h:∀ h1 tk,(∀ b o,s.heap.get? b=aa o->h1.get? b=aa o)->R (es.toList.map (·.key)) { s with heap:=h1,toks:=tk }):ak (av B w) A (kM (.ref d)) R E s:=by
 have N:d < s.heap.objs.size:=by refine ae (id hm) fun o L=>ac L fun m _=>?_;clear L;exact bH m
 refine af (pH (gv Cs ?_))
 refine rl (io Ct _) ?_
 show ak _ A.in1 (nQ [] >>= fun l=>gR (.builtin "list.__iadd__" ⟨[l,.ref d],[]⟩)) _ _ s
 refine af (f8 ?_)
 refine au ⟨lI sj _,gv CA ?_⟩
 refine rl (io sj _) ?_
 show ak _ A.in1 (v7 (.ref s.heap.objs.size) (.ref d) (.ref s.heap.objs.size)) _ _ _
 have a:(s.heap.push { cls:=.type "list",data:=.seq ([]:List ar).toArray }).get? s.heap.objs.size=aa { cls:=.type "list",data:=.seq #[] 0 }:=b9 _ rfl
 refine aF (kdl_extend (A:=A) (R:=fun q s'=>q = .ok (.ret (.ref s.heap.objs.size)) /\ ∃ D P X,s'.heap.get? s.heap.objs.size=aa { cls:=.type "list",dict:=ab,data:=.seq D P,slots:=X }/\R D.toList s')
  (s:={ s with heap:=s.heap.push { cls:=.type "list",data:=.seq ([]:List ar).toArray } }) (KT (es:=es) (ep:=ep) hd) j (hm.at fun o e=>bc _ e) s.heap.objs.size (jE N) (jE N) (.ref s.heap.objs.size) 0 a (fun h' tk D P hk G J =>
   ⟨rfl,D,P,_,G,?_⟩) (dm c)) (fun T s' h=>?_) (fun e s' h=>?_)
 . have e:D.toList=es.toList.map (·.key):=by
    apply sy;intro i;refine rl cy ?_;by_cases hi:i < es.size
    . have Q:i < D.size:=by refine rl J.1 ?_;exact hi
      refine ae (J.2 i D[i] (kl Q)) fun e L=>ac L fun n hv=>?_;clear L;have h1:D.toList[i]? = aa D[i]:=by simp [Q]
      have k:es.toList[i]? = aa e:=by simpa using n
      refine rl h1 (rl k (rl hv rfl))
    . refine rl (ij (by simp [J.1];exact ch.mp ‹_›)) ?_;refine rl (ij (by simp;exact ch.mp ‹_›)) rfl
   refine rl e (h h' tk (fun b o e=>hk b o (cz (bH e)) (bc _ e)))
 . clear c hm hd j;cases T with
   |done f =>
    refine lk fun _ V=>ac h fun e L=>?_;clear h;refine aP L fun D P X S=>ac S fun G hq=>?_;clear L S;clear a;injection e with e;subst e;refine V ?_;show ak _ A (load s.heap.objs.size >>= _) _ _ _;exact af (lP G (au hq))
   |again P =>
    refine ⟨h.1,jF h.2 fun r s'' hr=>?_⟩;refine lk fun _ V=>?_;clear a N ep;refine ac hr fun L S=>?_;clear hr;refine aP S fun D P X g=>ac g fun G hq=>?_;clear S g;subst L;refine V ?_;show ak _ A (load s.heap.objs.size >>= _) _ _ _;exact af (lP G (au hq))
 . exact absurd h.1 (by simp)
theorem Gq{d:am}{l:List (Int×Int)}(hm:fT B w s.heap d l):∃ es ep,dB s.heap d es ep/\ai (aC B w U s.heap) (l.map fun p=>.int p.1) (es.toList.map (·.key)):=by refine lk fun _ N=>ac hm fun hd L=>?_;clear hm;refine ae L fun kvs J=>ac J fun F hl=>?_;clear L J;refine aP F fun o es ep G=>d4 G fun T S D hk Q V=>?_;clear F G;refine N (aR es ep ⟨⟨o,T,S,D⟩,ai.mapL (ai.mapR (hl.trans' (fun a b c h1 P=>?_) (tI Q)))⟩);refine tA P fun t e=>?_;rw [h1.1] at e;exact l8.mpr ⟨t,e⟩
theorem Gr{d:am}{l:List Int}(hm:iz B w s.heap d l):∃ es ep,dB s.heap d es ep/\ai (aC B w U s.heap) (l.map .int) (es.toList.map (·.key)):=by refine lk fun _ N=>ac hm fun hd L=>?_;clear hm;refine ae L fun kvs J=>ac J fun F hl=>?_;clear L J;refine aP F fun o es ep G=>d4 G fun T S D hk Q V=>?_;clear F G;refine N (aR es ep ⟨⟨o,T,S,D⟩,ai.mapL (ai.mapR (hl.trans' (fun a b c h1 P=>?_) (tI Q)))⟩);refine tA P fun t e=>?_;rw [h1.1] at e;exact l8.mpr ⟨t,e⟩
theorem HO(Q:aW 4 A)(hk:AP d=aa l)(h:dJ l=aa r)(N:XW C x d):eW B w H A Z wc C (.builtin "sorted") [x] (.d (.list r)):=fun U W s vs S g=>by
 refine lk fun _ L=>g.c fun j k i J V=>?_;subst i;replace V:=V.n;subst V;have e:=Gp h;have hh:A.in1.handled=none:=Q.h;have T:∀ {a:am} {es:Array jL} {ep:Nat},(a == gy)=false->dB s.heap a es ep->ai (aC B w U s.heap) l (es.toList.map (·.key)) ->
  OP B w A U s (call (.builtin "sorted") [.ref a]) (.d (.list r)):=fun {a es ep} ha hm hr=>by
  refine pT Q S.lives hr h fun R hR=>EP hh ha hm ?_ hR
  have:=hr.length
  rw [aZ] at this
  have f:es.toList.length=es.size:=by simp
  exact Me e this f
 cases d with
 |list l =>
  replace hk:=sI hk;subst hk;refine aP (N.rep S J) fun a vs n G=>aE G fun F b P=>?_;clear G;subst F;refine L ?_;exact pT Q S.lives P h fun R hR=>Ea b (by refine rl (az P.length) ?_;exact c6 (du ‹_› (by decide))) hR
 |tup l =>
  replace hk:=sI hk;subst hk;rw [N.tup] at J;refine gD J fun a vs n F _ b P=>?_;subst F;refine L ?_;exact pT Q S.lives P h fun R hR=>D0 b (by refine rl (az P.length) ?_;exact c6 (du ‹_› (by decide))) hR
 |idict l =>
  replace hk:=sI hk;subst hk;refine ae (N.rep S J) fun a G=>ac G fun F hd=>?_;clear G;subst F;refine aM (Gq (U:=U) hd) fun es ep F=>ac F fun hm hr=>?_;clear F;refine L (T hd.1 hm hr)
 |bdict l =>
  replace hk:=sI hk;subst hk;refine ae (N.rep S J) fun a G=>ac G fun F hd=>?_;clear G;subst F;refine aM (Gr (U:=U) hd) fun es ep F=>ac F fun hm hr=>?_;clear F;refine L (T hd.1 hm hr)
 |tdict l =>
  replace hk:=sI hk;subst hk;refine ae (N.rep S J) fun a G=>ac G fun F hd=>?_;clear G;subst F;refine x9 hd fun es ep hm hr=>L ?_;exact T hd.1 hm (ai.mapL (ai.mapR hr))
 |_=>exact nS hk
theorem lZ{α D:Type}{lt:Nat->Nat->Bool}{f:α->KasT D}:∀ t:KasT α,bU lt (t.bind f)=bU lt (f (bU lt t))
 | .ret a=>rfl
 | .ask i j k=>by
  show bU lt ((k (lt i j)).bind f)=bU lt (f (bU lt (k (lt i j))));exact lZ _
theorem kI{α:Type}{lt:Nat->Nat->Bool}{c:Prop}[Decidable c]{t u:KasT α}:bU lt (if c then t else u)=if c then bU lt t else bU lt u:=by split<;>rfl
theorem nL{α:Type}{lt:Nat->Nat->Bool}{i j:Nat}{k:Bool->KasT α}:bU lt (.ask i j k)=bU lt (k (lt i j)):=rfl
structure Ord (n:Nat) (lt:Nat->Nat->Bool):Prop where
 asym:∀ {i j},i < n->j < n->lt i j=true->lt j i=false
 tot:∀ {i j},i < n->j < n->i≠j->lt i j=true\/lt j i=true
 trans:∀ {i j k},i < n->j < n->k < n->lt i j=true->lt j k=true->lt i k=true
section
variable {n:Nat} {lt:Nat->Nat->Bool}
noncomputable abbrev at'(p:Array Nat)(i:Nat):Nat:=p.getD i 0
def So(lt:Nat->Nat->Bool)(p:Array Nat)(k:Nat):Prop:=∀ i j,i < j->j < k->lt (at' p i) (at' p j)=true
def De(lt:Nat->Nat->Bool)(p:Array Nat)(k:Nat):Prop:=∀ i j,i < j->j < k->lt (at' p j) (at' p i)=true
theorem Pm.size(h:Pm n p):p.size=n:=by have:=h.length_eq;rw [sA] at this;refine rl (az mQ) this
theorem Pm.ne(h:Pm n p){i j:Nat}(D:i < j)(G:j < n):at' p i≠at' p j:=by
 have F:=h.size;have e:∀ k,k < n->p.toList[k]? = aa (at' p k):=fun k hk=>by
  refine rl mP ?_;delta at' tR;refine rl (dif_pos (vT F hk)) ?_;refine rl (kl (vT F hk)) rfl
 intro J;have hi:=e i (pR ‹_› ‹_›);rw [J,← (e j G)] at hi
 have:=(wK (by refine rl mQ ?_;exact Mf D G F) (h.nodup_iff.mpr List.nodup_range)).mp hi;exact (Mg D this).elim
theorem yF{i j:Nat}(D:j<=p.size)k:at' (kas_rev p i j) k=if i<=k/\k < j then at' p (i+j - 1 - k) else at' p k:=by
 have g:∀ (q:Array Nat) k,at' q k=q[k]?.getD 0:=fun q k=>by exact Cu
 refine rl (g ..) (rl (g ..) (rl (g ..) (rl (getElem?_mirror_all (xs:=p) (i:=i) D k) ?_)));split<;>rfl
theorem yG{D d:Nat}(F:D < p.size)(hd:d<=D)k :
 at' (bubble p D d) k=if k=D - d then at' p D else if D - d < k/\k<=D then at' p (k - 1) else at' p k:=by
 have g:∀ (q:Array Nat) k,at' q k=q[k]?.getD 0:=fun q k=>by exact Cu
 refine rl (g ..) (rl (g ..) (rl (g ..) (rl (g ..) (rl (getElem?_bubble F d hd k) ?_))))
 split
 . rfl
 . split<;>rfl
variable (Od:Ord n lt)
include Od
theorem Ord.no{p:Array Nat}(D:Pm n p){i j:Nat}(F:i < j)(G:j < n)(h:lt (at' p j) (at' p i)=false):lt (at' p i) (at' p j)=true:=by
 have J:0 < n:=on G
 rcases Od.tot (D.lt J i) (D.lt J j) (D.ne F G) with h1|h1
 . exact h1
 . rw [h1] at h;exact nT h
theorem So.step{p:Array Nat}(F:Pm n p){m:Nat}(h1:1<=m)(hm:m < n)(h:So lt p m)(hl:lt (at' p (m - 1)) (at' p m)=true):So lt p (m+1):=by
 intro i j D L;have G:0 < n:=on hm
 by_cases e:j=m
 . subst e;by_cases J:i=j - 1
   . subst J;exact hl
   . exact Od.trans (F.lt G _) (F.lt G _) (F.lt G _) (h i (j - 1) (Bw D J) (oW h1)) hl
 . exact h i j D (Bx L e)
theorem De.step{p:Array Nat}(F:Pm n p){m:Nat}(h1:1<=m)(hm:m < n)(h:De lt p m)(hl:lt (at' p m) (at' p (m - 1))=true):De lt p (m+1):=by
 intro i j D L;have G:0 < n:=on hm
 by_cases e:j=m
 . subst e;by_cases J:i=j - 1
   . subst J;exact hl
   . exact Od.trans (F.lt G _) (F.lt G _) (F.lt G _) hl (h i (j - 1) (Bw D J) (oW h1))
 . exact h i j D (Bx L e)
theorem A0{p:Array Nat}(F:Pm n p):∀ f m,1<=m->m+f<=n->So lt p m ->
 m<=bU lt (kN p f m)/\bU lt (kN p f m)<=m+f/\So lt p (bU lt (kN p f m))/\(bU lt (kN p f m) < m+f->lt (at' p (bU lt (kN p f m))) (at' p (bU lt (kN p f m) - 1))=true):=by
 intro G
 induction G with
 |zero =>
  intro m h1 hm h;exact ⟨cH _,cH _,h,fun h=>absurd h (i6 _)⟩
 |succ f D =>
  intro m h1 hm h;refine rl nL (rl kI ?_);by_cases hc:lt (p.getD m 0) (p.getD (m - 1) 0)=true
  . refine rl (if_pos hc) ⟨cH _,c0 _ _,h,fun L=>hc⟩
  . refine rl (if_neg hc) ?_;refine lk fun _ J=>bR (D (m+1) (by with_reducible exact f9 _ _) (vU hm) (So.step Od F h1 (ka hm) h (Od.no F (oW h1) (ka hm) (Eq.mp (jB _) hc)))) fun a b c d=>J ?_;exact ⟨by (first|with_reducible assumption|with_reducible exact po ‹_› | omega),by (first|with_reducible assumption|exact By b|omega),c,fun h=>d (by first|with_reducible assumption|exact Mh h|omega)⟩
theorem KU{p:Array Nat}(F:Pm n p):∀ f m,1<=m->m+f<=n->De lt p m->∃ m',bU lt (kas_desc f p m 0)=(p,m',0)/\m<=m'/\m'<=m+f/\De lt p m':=by
 intro J;induction J with
 |zero =>
  intro m h1 hm h;exact ⟨m,rfl,cH _,cH _,h⟩
 |succ f D =>
  intro m h1 hm h;refine rl nL (rl kI ?_);by_cases hc:lt (p.getD m 0) (p.getD (m - 1) 0)=true
  . refine rl (if_pos hc) ?_;refine rl (if_neg AG) ?_;refine lk fun _ L=>ae (D (m+1) (by with_reducible exact f9 _ _) (vU hm) (De.step Od F h1 (ka hm) h hc)) fun m' G=>bR G fun e a b c=>?_;clear G;refine L ?_;exact ⟨m',e,by (first|with_reducible assumption|with_reducible exact po ‹_› | omega),by first|with_reducible assumption|exact By b|omega,c⟩
  . refine rl (if_neg hc) (rl nL ?_);refine rl (Od.no F (oW h1) (ka hm) (Eq.mp (jB _) hc)) (rl (if_pos rfl) ⟨m,rfl,cH _,c0 _ _,h⟩)
theorem So.ofDe{p:Array Nat}(G:Pm n p){m:Nat}(hm:m<=n)(h:De lt p m):So lt (kas_rev p 0 m) m:=by intro i j D F;rewrite [yF (by refine rl G.size ?_;exact hm),yF (by refine rl G.size ?_;exact hm)];refine rl (if_pos (Mi D F)) ?_;refine rl (if_pos (Mj F)) ?_;exact h _ _ (Mk D F) (Ml F)
theorem Jq{p:Array Nat}(F:Pm n p)(D:2<=n):∃ m q,bU lt (kas_count n p)=(m,q)/\Pm n q/\1<=m/\m<=n/\So lt q m:=by
 refine bR (A0 Od F (n - 1) 1 (cH _) (PG D) (fun i j h1 D=>absurd h1 (oq3 D))) fun a b c d=>rl (lZ ..) ?_;generalize bU lt (kN p (n - 1) 1)=m at a b c d;refine rl kI ?_;by_cases hm:m=n
 . clear d b D;subst hm;refine rl (if_pos ReflBEq.rfl) (aR _ _ ⟨rfl,F,a,cH _,c⟩)
 . refine rl (if_neg (by simpa using hm)) (rl kI ?_);by_cases h1:m > 1
   . refine rl (if_pos h1) (rl nL ?_);refine rl (if_pos (c 0 (m - 1) (Mm h1) (Mn h1))) ?_;exact aR _ _ ⟨rfl,F,a,by first|with_reducible assumption|exact Mo b h1|omega,c⟩
   . refine rl (if_neg h1) ?_;have e:m=1:=Mp a h1
     clear c b a;subst e;refine rl (lZ ..) ?_;refine ae (KU Od F (n - (1+1)) (1+1) (fo _) (oq7 D) (De.step Od F (cH _) (oq8 D) (fun i j h1 D=>absurd h1 (oq3 D)) (d (oq9 D)))) fun m' G=>bR G fun e N b' L=>?_;clear G;refine rl e ?_;refine rl (if_neg AG) (rl (lZ ..) ?_);have hq:Pm n (kas_rev p 0 m'):=F.rev _ _;refine bR (A0 Od hq (n - m') m' (po ‹_›) (PH D b') (So.ofDe Od F (PJ D b') L)) fun P J c3 _=>aR _ _ ⟨rfl,hq,by (first|with_reducible assumption|exact Mq N P|omega),by first|with_reducible assumption|exact Mr D b' J|omega,c3⟩
theorem Jr{p:Array Nat}(G:Pm n p){k:Nat}(hk:k < n)(Q:So lt p k):∀ f l r,l<=r->r<=k->r - l<=f->(∀ i,i < l->lt (at' p i) (at' p k)=true)->(∀ i,r<=i->i < k->lt (at' p k) (at' p i)=true) ->
 bU lt (qt p k f l r)<=k/\(∀ i,i < bU lt (qt p k f l r)->lt (at' p i) (at' p k)=true) /\ ∀ i,bU lt (qt p k f l r)<=i->i < k->lt (at' p k) (at' p i)=true:=by
 intro S
 induction S with
 |zero =>
  intro l r h1 F P h4 N;have:l=r:=Ms h1 P
  subst this;exact ⟨F,h4,N⟩
 |succ f L =>
  intro l r h1 F P h4 N;refine rl kI ?_;by_cases D:l ≥ r
  . refine rl (if_pos D) ?_;have:l=r:=Mu h1 D
    subst this;exact ⟨F,h4,N⟩
  . refine rl (if_neg D) (rl nL (rl kI ?_));have J:0 < n:=on hk
    by_cases hc:lt (p.getD k 0) (p.getD ((l+r) / 2) 0)=true
    . refine rl (if_pos hc) ?_;refine L l _ (Mv D) (Mw F D) (Mx P) h4 fun i a b=>?_;by_cases e:i=(l+r) / 2
      . subst e;exact hc
      . exact Od.trans (G.lt J _) (G.lt J _) (G.lt J _) hc (Q _ _ (My a e) b)
    . refine rl (if_neg hc) ?_;have hl:lt (p.getD ((l+r) / 2) 0) (p.getD k 0)=true:=Od.no G (Bz F D) hk (Eq.mp (jB _) hc);refine L _ r (Mz D) F (MA P) (fun i a=>?_) N;by_cases e:i=(l+r) / 2
      . subst e;exact hl
      . exact Od.trans (G.lt J _) (G.lt J _) (G.lt J _) (Q i ((l+r) / 2) (MB a e) (Bz F D)) hl
theorem OK:∀ f {p:Array Nat} k,Pm n p->k+f<=n->So lt p k->So lt (bU lt (kas_bin f p k)) (k+f):=by
 intro L;induction L with
 |zero =>
  intro p k F hk h;exact h
 |succ f J =>
  intro p k F hk h;refine rl (lZ ..) ?_;refine aE (Jr Od F (ka hk) h k 0 k (cG _) (cH _) (qg _ _) (fun i h=>absurd h (sM _)) (fun i h1 N=>absurd h1 (PK N))) fun a b c=>?_;generalize bU lt (qt p k k 0 k)=l at a b c
  have:=J (p:=bubble p k (k - l)) (k+1) (F.bub _ _) (vU hk) (fun i j D G=>?_)
  . refine rl (show k+(f+1)=k+1+f by exact MC) this
  . rewrite [yG (by refine rl (F.size ..) ?_;exact ka hk) (by first|with_reducible exact qg _ _|omega),yG (by refine rl F.size ?_;exact ka hk) (qg _ _)];refine rl (show k - (k - l)=l by exact MD a) ?_
    repeat' split
    all_goals first
     |(exfalso;first|exact (ME D ‹_› ‹_›).elim|exact (MF D G ‹_› ‹_›).elim|exact (MG D ‹_› ‹_›).elim|exact (MH D G ‹_› ‹_›).elim|omega)
     |exact b _ (by first|exact MI D ‹_› | omega)
     |exact c _ (by (first|exact MJ ‹_› | with_reducible assumption|omega)) (by first|exact Bm ‹_› | omega)
     |exact h _ _ (by omega) (by first|exact Bm ‹_› | exact MK a G ‹_› ‹_›)
theorem KV(G:2<=n):So lt (bU lt (l7 n)) n:=by
 refine rl (lZ ..) (aM (Jq Od (show Pm n (List.toArray (c8 n)) from pI _) G) fun m q F=>cX F fun e hq h1 hm D=>?_);clear F;refine rl e (rl kI ?_);split
 . have J:max m 1=m:=ML h1
   refine rl J ?_
   have:=OK Od (n - m) m hq (MM ‹_›) D;rwa [show m+(n - m)=n by exact MN ‹_›] at this
 . have:m=n:=oE ‹_› ‹_›
   clear hm h1 hq e G;subst this;exact D
theorem Fh:(dF n lt).Pairwise fun i j=>lt i j=true:=by
 delta dF;split
 . have:n=0\/n=1:=oQ ‹_›
   rcases this with rfl|rfl<;>simp [List.range_succ]
 . have L:2<=n:=ch.mp ‹_›
   have J:=KV Od L;have F:Pm n (bU lt (l7 n)):=(nK (MO L)).run;generalize bU lt (l7 n)=p at J F;refine rp (List.pairwise_iff_getElem ..) ?_;intro i j hi G D;rw [mQ,F.size] at hi G;have e:∀ k (hk:k < p.toList.length),p.toList[k]=at' p k:=fun k hk=>by
    delta at' tR;refine rl (dif_pos hk) rfl
   refine rl (e ..) (rl (e ..) (J i j D G))
end
theorem lN{α:Type}{lt:α->α->Bool}:∀ {a b:List α},a.Perm b->(∀ x∈a,∀ y∈a,lt x y=true->lt y x=false)->a.Pairwise (fun x y=>lt x y=true)->b.Pairwise (fun x y=>lt x y=true)->a=b
 |[],b,p,_,_,_=>p.nil_eq
 |x::a,[],p,_,_,_=>absurd p.length_eq (i0 _)
 |x::a,y::b,p,h,ha,hb=>by
  refine ac (iX.mp ha) fun G J=>ac (iX.mp hb) fun D F=>?_;have e:x=y:=by
   rcases aL.mp (p.mem_iff.mp aY) with e|L
   . exact e
   . rcases aL.mp (p.mem_iff.mpr (aY (a:=y) (l:=b))) with e|N
     . exact e.symm
     . have P:=D x L;rw [h x aY y (aN _ N) (G y N)] at P;clear p L F D;exact nB P
  clear D G;subst e;refine rl (lN (p.cons_inv) (fun u Q v hv=>h u (aN _ Q) v (aN _ hv)) J F) ?_;rfl
theorem te{α:Type}(l:List α):∀ {is:List Nat},(∀ i∈is,i < l.length)->∀ d,is.filterMap (fun i=>l[i]?)=is.map fun i=>l.getD i d:=by
 intro G;induction G with
 |nil =>
  intro _ _;exact rfl
 |cons i is D =>
  intro h d;have hi:=h i aY;refine rl b7 (rl (az (D (fun j F=>h j (aN _ F)) d)) ?_);refine rl su (rl (dt hi) ?_);simp [dt hi]
theorem pK{α:Type}l(d:α):(c8 l.length).map (fun i=>l.getD i d)=l:=by
 apply List.ext_getElem
 . simp
 . intro i h1 D;simp at h1;simp [h1]
noncomputable def gS{α:Type}(l:List α)(lt:α->α->Bool)(i j:Nat):Bool:=match l[i]?,l[j]? with
 |some a,aa b=>lt a b
 |_,_=>false
theorem nw{α:Type}l(lt:α->α->Bool):bV l lt=(dF l.length (gS l lt)).filterMap fun i=>l[i]? := rfl
theorem gx{α:Type}l(lt:α->α->Bool):(bV l lt).Perm l:=by
 refine rl (nw ..) ?_;rcases l with _|⟨x,r⟩
 . exact (lQ _ _).filterMap _
 . have h:=lQ (x::r).length (gS (x::r) lt);refine rl (te (x::r) (fun i hi=>en.mp (h.mem_iff.mp hi)) x) ?_
   have:=h.map (fun i=>(x::r).getD i x);rwa [pK] at this
structure mJ {α:Type} (l:List α) (lt:α->α->Bool):Prop where
 asym:∀ x∈l,∀ y∈l,lt x y=true->lt y x=false
 tot:∀ x∈l,∀ y∈l,x≠y->lt x y=true\/lt y x=true
 trans:∀ x∈l,∀ y∈l,∀ z∈l,lt x y=true->lt y z=true->lt x z=true
theorem nh{α:Type}{l:List α}{lt:α->α->Bool}(L:mJ l lt)(J:l.Nodup):(bV l lt).Pairwise fun x y=>lt x y=true:=by
 refine rl (nw ..) ?_;rcases l with _|⟨x,r⟩
 . exact wJ
 . generalize hl:x::r=l at L J;have hd:∀ i,i < l.length->l[i]? = aa (l.getD i x):=fun i hi=>by simp [hi]
   have hm:∀ i,i < l.length->l.getD i x∈l:=fun i hi=>fM (hd i hi);have h:=lQ l.length (gS l lt);refine rl (te l (fun i hi=>en.mp (h.mem_iff.mp hi)) x) ?_;refine rp (wL ..) ?_;have e:∀ i j,i < l.length->j < l.length->gS l lt i j=lt (l.getD i x) (l.getD j x):=fun i j hi D=>by (conv=>lhs;whnf);refine rl (hd i hi) ?_;refine rl (hd j D) ?_;rfl
   have P:=Fh (n:=l.length) (lt:=gS l lt) {
    asym:=fun {i j} hi D hh=>by
     rw [e _ _ hi D] at hh;refine rl (e _ _ D hi) (L.asym _ (hm i hi) _ (hm j D) hh)
    tot:=fun {i j} hi D F=>by
     refine rl (e _ _ hi D) (rl (e _ _ D hi) (L.tot _ (hm i hi) _ (hm j D) fun N=>F ?_));refine (wK hi J).mp (rl (hd i hi) (rl (hd j D) (rl N rfl)))
    trans:=fun {i j k} hi D hk h1 G=>by
     rw [e _ _ hi D] at h1;rw [e _ _ D hk] at G;refine rl (e _ _ hi hk) ?_;exact L.trans _ (hm i hi) _ (hm j D) _ (hm k hk) h1 G }
   exact P.imp_of_mem fun {i j} hi D hh=>by
    refine rl (az (e i j (en.mp (h.mem_iff.mp hi)) (en.mp (h.mem_iff.mp D)))) hh
theorem w7{α:Type}{a b:List α}{lt:α->α->Bool}(L:mJ a lt)(J:a.Nodup)(p:b.Perm a):bV b lt=bV a lt:=by
 have G:mJ b lt:=⟨fun x D y F=>L.asym x (p.mem_iff.mp D) y (p.mem_iff.mp F),fun x D y F=>L.tot x (p.mem_iff.mp D) y (p.mem_iff.mp F),
  fun x D y F z N=>L.trans x (p.mem_iff.mp D) y (p.mem_iff.mp F) z (p.mem_iff.mp N)⟩
 exact lN ((gx b lt).trans (p.trans (gx a lt).symm)) (fun x D y F=>G.asym x ((gx b lt).mem_iff.mp D) y ((gx b lt).mem_iff.mp F)) (nh G (p.nodup_iff.mpr J)) (nh L J)
section
variable {K:Type} [DecidableEq K] {hash:K->Int}
set_option tactic.hygienic true in
theorem Fi {t t':SetTable} {es es':List K} {J:Nat} {k:K} (h:iM hash t es J k=aa (t',es')) :
 ∃ t₁ p D,t.put J=(t₁,p)/\D=es.take p++k::es.drop p/\t₁.fits D.length=true/\((t₁.tooFull=false/\t'=t₁/\es'=D) \/
  (t₁.tooFull=true /\ ∃ G,t₁.relaid (D.map hash).toArray (i5 D.length)=aa (t',G)/\coversAll G D.length=true/\t'.fits D.length=true /\
   pi (i5 D.length)<=100000/\es'=G.toList.filterMap fun i=>D[i]?)):=by
 unfold iM at h;refine lk fun _ P=>?_;split at h;rename_i t₁ p L;dsimp only at h;refine bL h fun N h=>?_;split at h
 . rename_i F;split at h
   . rename_i t₂ G hr;split at h
     . rename_i hc;simp only [bX,decide_eq_true_eq] at hc;obtain ⟨⟩:=h;refine P (ck _ _ _ ⟨L,rfl,N,.inr ⟨F,G,hr,hc.1.1,hc.1.2,hc.2,rfl⟩⟩)
     . clear hr F N L;exact nS h
   . clear F N L;exact nS h
 . rename_i F;obtain ⟨⟩:=h;refine P (ck _ _ _ ⟨L,rfl,N,.inl ⟨Eq.mp (jB _) F,rfl,rfl⟩⟩)
theorem tB{t t':SetTable}{es es':List K}{J:Nat}{k:K}(h:iM hash t es J k=aa (t',es')){G:Prop}(S:∀ t₁ p D,t.put J=(t₁,p)->D=es.take p++k::es.drop p->t₁.fits D.length=true->(((t₁.tooFull=false/\t'=t₁/\es'=D)\/(t₁.tooFull=true /\ ∃ F,t₁.relaid (D.map hash).toArray (i5 D.length)=aa (t',F)/\coversAll F D.length=true/\t'.fits D.length=true/\pi (i5 D.length)<=100000/\es'=F.toList.filterMap fun i=>D[i]?)))->G):G:=aP (Fi h) fun N z1 z2 L=>bR L fun V P T Q=>S N z1 z2 V P T Q
theorem yH{t t₁:SetTable}{D p:Nat}(h:t.put D=(t₁,p)):t₁.plain=t.plain:=by obtain ⟨⟩:=h;rfl
theorem xE{t t':SetTable}{n:Nat}{D:Array Nat}(h:t.relaid F n=aa (t',D)):t'.plain=t.plain:=by
 unfold SetTable.relaid SetTable.laid at h;cases hl:DF (pi n - 1) F with
 |none=>rw [hl] at h;exact nS h
 |some o=>rw [hl] at h;obtain ⟨⟩:=h;rfl
theorem qq{α:Type}{l:List α}{D:Array Nat}(h:coversAll D l.length=true):(D.toList.filterMap fun i=>l[i]?).length=l.length:=by have q:=(sT.mp h).filterMap (fun i=>l[i]?);rw [List.filterMap_getElem?_range_length] at q;exact q.length_eq
theorem t5{α F:Type}{R:α->F->Prop}{as:List α}{bs:List F}(h:ai R as bs):∀ is:List Nat,ai R (is.filterMap fun i=>as[i]?) (is.filterMap fun i=>bs[i]?):=by
 intro G;induction G with
 |nil =>
  exact .nil
 |cons i is D =>
  refine rl su (rl su ?_);cases e:as[i]? with
  |none =>
   have:bs[i]? = none:=by
    exact sg.mpr (by refine rl (az h.length) ?_;exact (sg.mp e))
   refine rl this D
  |some a =>
   refine h.getK e fun b hb hr=>rl hb ?_;exact .cons hr (D)
end
section
variable (w)
noncomputable def ba:Bool := !(w.params.followText "set-order")
def f6{K:Type}(hash:K->Int)(is:K->ar->Prop)(k:K)(e:Int×ar):Prop:=e.1=hash k/\is k e.2
def cV{K:Type}(hash:K->Int)(is:K->ar->Prop)(h:aB)(S:am)(t:SetTable)(es:List K):Prop :=
 ∃ o arr ep,h.get? S=aa o/\o.ExactSet/\o.data = .set arr ep (SetTable.led' t (ba w))/\ai (f6 hash is) es arr.toList/\t.fits es.length=true/\t.plain=true
theorem cV.eK{w:bh}{K:Type}{hash:K->Int}{is:K->ar->Prop}{h:aB}{es:List K}(T:cV w hash is h S t es){G:Prop}(J:∀ o arr ep,h.get? S=aa o->o.ExactSet->o.data = .set arr ep (SetTable.led' t (ba w))->ai (f6 hash is) es arr.toList->t.fits es.length=true->t.plain=true->G):G:=aP T fun N z1 z2 L=>d4 L fun X P V Q D F=>J N z1 z2 X P V Q D F
end
section
variable {K:Type} [DecidableEq K] {hash:K->Int} {is:K->ar->Prop} {S:am} {t t':SetTable} {es es':List K} {k:K} {v:ar}
theorem cV.at{h h':aB}(x:cV w hash is h S t es)(e:∀ o,h.get? S=aa o->h'.get? S=aa o):cV w hash is h' S t es:=by refine aP x fun o a b D=>ac D fun F r=>?_;clear x D;exact ck o a b ⟨e o F,r⟩
theorem Gs{h:aB}{o:fK}{arr D:Array (Int×ar)}{ep:Nat}{F:SetTable}(N:h.get? S=aa o)(L:o.ExactSet)(hd:o.data = .set arr ep F)(hr:ai (f6 hash is) es' D.toList)
 (P:t'.fits es'.length=true) (J:t'.plain=true) :
 (h.update S (kz D (SetTable.led' t' (ba w)))).get? S=aa { o with data:=.set D (ep+1) (SetTable.led' t' (ba w)) } /\
  cV w hash is (h.update S (kz D (SetTable.led' t' (ba w)))) S t' es':=by
 have G:(h.update S (kz D (SetTable.led' t' (ba w)))).get? S=aa { o with data:=.set D (ep+1) (SetTable.led' t' (ba w)) }:=by
  have:=pb (kz D (SetTable.led' t' (ba w))) N (by refine rl (putSet_of _ _ hd) ?_;rfl);rw [putSet_of _ _ hd] at this;exact this
 exact ⟨G,_,D,ep+1,G,L,rfl,hr,P,J⟩
theorem qc{h:aB}{o:fK}{arr D:Array (Int×ar)}{ep:Nat}{F:SetTable}(N:h.get? S=aa o)(L:o.ExactSet)(hd:o.data = .set arr ep F)(hr:ai (f6 hash is) es' D.toList)
 (Q:t'.fits es'.length=true) (J:t'.plain=true) {G:Prop} (k:(h.update S (kz D (SetTable.led' t' (ba w)))).get? S=aa { o with data:=.set D (ep+1) (SetTable.led' t' (ba w)) }->cV w hash is (h.update S (kz D (SetTable.led' t' (ba w)))) S t' es'->G):G:=by obtain ⟨P,z1⟩:=Gs N L hd hr Q J;exact k P z1
theorem zV{R:K->Int×ar->Prop}{arr:Array (Int×ar)}{e:Int×ar}{p:Nat}(h:ai R es arr.toList)(hk:R k e):ai R (es.take p++k::es.drop p) (di arr p e).toList:=by refine rl (SetTable.toList_insertAt ..) ((h.take p).append (.cons hk (h.drop p)))
theorem zj{arr:Array (Int×ar)}(h:ai (f6 hash is) es arr.toList):arr.map (·.1)=(es.map hash).toArray:=by
 have:∀ {es:List K} {l:List (Int×ar)},ai (f6 hash is) es l->l.map (·.1)=es.map hash:=by
  intro es l h;induction h with
  |nil=>rfl
  |cons h1 _ ih=>refine rl b7 ?_;refine rl b7 ?_;refine rl ih ?_;refine rl h1.1 ?_;rfl
 apply Array.ext';refine rl Array.toList_map (rl (this h) rfl)
theorem HP{b:Bool}(hb:b=false){s₁:aw}{D:Unit->aw->Prop}(hq:D () s₁):ak (av B w) A (match b with|true=>rule "set.scan.the-table-gave-way" | false=>pure ()) D E s₁:=by subst hb;exact au hq
theorem jd{R:K->Int×ar->Prop}{arr:Array (Int×ar)}(h:ai R es arr.toList):arr.size=es.length:=by refine rl h.length ?_;simp
def ie(k:Int)(v:ar):Prop:=∃ tk,v = .int k tk
theorem qy{k:Int}:(bt B w).is k (.int k tk)=true:=m3 B w k tk
theorem Gu{es:List Int}{arr:Array (Int×ar)}(h:ai (f6 cq ie) es arr.toList):ElemsOf (bt B w) arr.toList:=by intro e J;refine lk fun _ L=>ae (h.right e J) fun k D=>aE D fun _ h1 F=>?_;clear D;refine ae F fun tk G=>?_;clear F;refine L ?_;exact ⟨⟨k,by refine rl G ?_;exact qy,h1⟩,by refine rl G ?_;rfl⟩
theorem HQ{k:Int}:∀ {es:List Int} {l:List (Int×ar)},ai (f6 cq ie) es l->(l.findIdx? (fun e=>(bt B w).is k e.2)).isSome=es.contains k:=by
 intro es l F;induction F with
 |nil=>rfl
 | @cons a b as bs h t ih =>
  refine ac h fun h1 D=>?_;clear h;refine ae D fun tk G=>?_;clear D;refine rl Do ?_;refine rl (KeyKind.is_eq_decide (knd:=bt B w) (by refine rl G ?_;exact qy) k) ?_;refine rl wF ?_;by_cases hk:k=a
  . simp [hk]
  . refine rl (show (k == a)=false by exact beq_int_false hk) (rl (tj ..) (rl (az ih) ?_));simp [hk]
theorem Fj{h:Int}{D:Nat}(F:t.freeSlot h=aa (D,false)):(SetTable.led' t l).freeSlot h=aa (D,false):=by refine rl (Hw ..) ?_;exact F
set_option tactic.hygienic true in
theorem add_int {k:Int} {es es':List Int} {Q:Bool->aw->Prop} (hk:ie k v) (hS:cV w cq ie s.heap S t es) (h:mA cq t es k=aa (t',es')) (hz:es.length+1 < lR)
 (hq:∀ h' b,g5 S s.heap h'->cV w cq ie h' S t' es'->Q b { s with heap:=h' }):ak (av B w) A (setAddHashed S v (cq k)) Q E s:=by
 refine aP (id hS) fun o arr ep q0=>d4 q0 fun ho hx hd hr hf hp=>?_;clear q0
 refine ae hk fun tk q0=>?_;clear hk;subst q0
 have hsz:=jd hr
 have hel:=Gu (B:=B) (w:=w) hr
 have z:(SetTable.led' t (ba w)).fits arr.size=true:=by refine rl hsz ?_;exact hf
 refine fm (af (iZ ho hd z ?_))
 dsimp only
 refine rl (byScan_of (knd:=bt B w) (x:=.int k tk) rfl (by refine rl hsz ?_;exact c6 (du ‹_› (by decide))) hel) ?_
 first|refine rl (if_pos rfl) ?_|refine rl (if_pos (by decide)) ?_|refine rl (if_pos (by simp)) ?_
 refine af ?_
 refine af (jG ?_)
 have D:=HQ (B:=B) (w:=w) (k:=k) hr
 refine af (wpAny_setScan_of (knd:=bt B w) (k:=k) qy ho hd z hel ?_)
 unfold mA at h
 cases hfi:List.findIdx? (fun e=>(bt B w).is k e.2) arr.toList with
 |some j =>
  dsimp only;rw [hfi] at D;have D:true=es.contains k:=D;rw [if_pos D.symm] at h;clear hp hf hr hd hx ho D z;clear ep o D;obtain ⟨⟩:=h;refine au (au ?_);have e:s = { s with heap:=s.heap }:=by obtain ⟨⟩:=s;rfl
  refine rl e (hq s.heap _ (DJ S s.heap) hS)
 |none =>
  dsimp only;rw [hfi] at D;rw [if_neg (by refine rl (az D) ?_;exact fun h=>nB h)] at h;split at h;case h_2=>exact nS h
  rename_i e10 y;refine tB h fun t₁ p P m N f b10=>?_;have G:ai (f6 cq ie) P (di arr p (cq k,.int k tk)).toList:=by refine rl N ?_;exact zV hr ⟨rfl,tk,rfl⟩
  have J:=jd G;have n:(SetTable.led' t (ba w)).put e10=(SetTable.led' t₁ (ba w),p):=by refine rl (zS ..) ?_;refine rl m ?_;rfl
  have hl:layNew (SetTable.led' t (ba w)) arr (cq k) (.int k tk)=(di arr p (cq k,.int k tk),SetTable.led' t₁ (ba w),false,false):=by
   have d10:(SetTable.led' t₁ (ba w)).fits (di arr p (cq k,jM k tk)).size=true:=by refine rl J ?_;exact f
   unfold layNew;refine rl (Fj y) ?_;dsimp only;refine rl n ?_;dsimp only;unfold SetTable.orStandIn;refine rl d10 rfl
  refine rl hl ?_;dsimp only;refine af (HP rfl ?_);have T:t₁.plain=true:=(yH m).trans hp;refine qc (w:=w) (hash:=cq) (is:=ie) ho hx hd G f T fun X q=>?_;have g:=eF s.heap S (kz (di arr p (cq k,.int k tk)) (SetTable.led' t₁ (ba w)));have c10:ak (av B w) A (do
   storeSet S (di arr p (cq k,.int k tk)) (SetTable.led' t₁ (ba w))
   if (!false && (SetTable.led' t₁ (ba w)).tooFull)=true then do
    (match (qH (SetTable.led' t₁ (ba w)) (di arr p (cq k,.int k tk)) (i5 (di arr p (cq k,.int k tk)).size)).2.2 with|true=>rule "set.scan.the-table-gave-way" | false=>pure ())
    storeSet S (qH (SetTable.led' t₁ (ba w)) (di arr p (cq k,.int k tk)) (i5 (di arr p (cq k,.int k tk)).size)).1 (qH (SetTable.led' t₁ (ba w)) (di arr p (cq k,.int k tk)) (i5 (di arr p (cq k,.int k tk)).size)).2.1
    pure (aa true)
    else pure (aa true)) (fun r s'=>ak (av B w) A (match r with|some a10=>pure a10|none=>setAddHashedIn S (.int k tk) (cq k) 99999) Q E s') E s:=by
   refine af (sB ho hd ?_ (sC (by refine rl J ?_;refine rl N ?_;simp;exact BA hz)));rcases b10 with ⟨L,rfl,rfl⟩|⟨L,F,l,V,a,hab,rfl⟩
   . refine rl (if_neg (by refine rl qu ?_;refine rl L ?_;exact fun h=>nB h)) ?_;exact au (au (hq _ _ g q))
   . refine rl (if_pos (by refine rl qu ?_;refine rl L ?_;rfl)) ?_;have hrl:qH (SetTable.led' t₁ (ba w)) (di arr p (cq k,.int k tk)) (i5 (di arr p (cq k,.int k tk)).size) =
      (F.filterMap ((di arr p (cq k,jM k tk))[·]?),SetTable.led' t' (ba w),false):=by
      unfold qH;refine rl (zj G) (rl J (rl (yc ..) (rl l ?_)));dsimp only [gc];rw [if_pos];refine rl (bX ..) (⟨V,?_⟩);have e2:(F.filterMap ((di arr p (cq k,jM k tk))[·]?)).size=P.length:=by
       have:=(t5 G F.toList).length;rw [qq V] at this;refine rl this (rl (az mQ) (rl wo ?_));simp
      refine rl e2 a
     refine rl hrl ?_;dsimp only;have c:ai (f6 cq ie) (F.toList.filterMap fun i=>P[i]?) (F.filterMap ((di arr p (cq k,jM k tk))[·]?)).toList:=by
      have:=t5 G F.toList;refine rl wo ?_;simpa using this
     have d:=qq V;refine qc (w:=w) (hash:=cq) (is:=ie) X hx rfl c (by refine rl d ?_;exact a) ((xE l).trans T) fun _ u=>?_;refine af (au ?_);refine af (sB X rfl ?_ (sC (by refine rl (jd c) ?_;refine rl d ?_;refine rl N ?_;simp;exact BA hz)));exact au (au (hq _ _ (g.trans (eF _ S _)) u))
  refine rl (if_pos (show (SetTable.led' t₁ (ba w)).plain=true from T)) (af (rl (CK 8 rfl) (au c10)))
end
section
variable {S:am} {t t':SetTable} {es es':List (List Int)} {k:List Int} {v:ar}
variable (B w) in
set_option tactic.hygienic true in
noncomputable def vX (h₀:aB) (k:List Int) (v:ar):Prop:=∃ a,v = .ref a/\fR (bt B w) h₀ k a
theorem qQ{h h':aB}(x:fR (bt B w) h k a)(e:∀ b o,h.get? b=aa o->h'.get? b=aa o):fR (bt B w) h' k a :=
 by refine aP x fun o i n D=>ac D fun F r=>?_;clear x D;exact ck o i n ⟨e _ _ F,r⟩
theorem zW{K:Type}[DecidableEq K]{hash:K->Int}{is:K->ar->Prop}{es:List K}{arr:Array (Int×ar)}(h:ai (f6 hash is) es arr.toList)(i:Nat):(arr[i]?.map (·.1)).getD 0=iC hash es i:=by
 unfold iC;refine rl (az mP) ?_;cases e:es[i]? with
 |none =>
  refine rl (sg.mpr (by refine rl (az h.length) ?_;exact (sg.mp e))) ?_;rfl
 |some a =>
  refine h.getK e fun b hb hr=>rl hb ?_;exact ‹_/\_›.1
theorem xV(h:ItemsAre (bt B w) ks vs):∀ v∈vs,∃ n tk,v = .int n tk:=by
 induction h with
 |nil=>intro v hv;exact (a7 hv).elim
 |cons h1 _ ih =>
  intro v hv;clear vs ks;rcases aL.mp hv with rfl|hv
  . clear hv;refine ae (Value.isInt_shape h1) fun tk D=>?_;subst D;exact aR _ tk rfl
  . exact ih v hv
theorem yI(hk:fR (bt B w) s.heap k a)(h:Q false s):ak (av B w) A (DK 8 (.ref a)) Q E s:=by
 have J:=hk.typeIs;refine aP hk fun o items n F=>bR F fun G hc hd hi=>?_;clear hk F;unfold DK;refine af (i8 J ?_);dsimp only;refine rl (if_pos (by decide)) (af (au ?_));refine rl (if_neg (fun h=>nB h)) ?_;refine af (iq G hd ?_);dsimp only;refine af (rl (az Dt) (sG _ (fun D r s'=>s'=s/\r=(ab,()) /\ ∀ v∈D,∃ n tk,v = .int n tk) _ ?_ ?_ _ _ ⟨rfl,rfl,xV hi⟩))
 . rintro x D r s' ⟨rfl,rfl,hr⟩;refine aM (hr x aY) fun n tk F=>?_;subst F;refine af (au (au ⟨rfl,rfl,fun v hv=>hr v (aN _ hv)⟩))
 . rintro r s' ⟨rfl,rfl,_⟩;exact au h
theorem Gv(hk:fR (bt B w) s.heap k a)(h:Q true s):ak (av B w) A (hashByValue 8 (.ref a)) Q E s:=by
 have L:=hk.typeIs;refine aP hk fun o items n G=>bR G fun J hc hd hi=>?_;clear hk G;refine af (wpAny_specialOf L F.slot_tuple_hash.lookup ?_);dsimp only;refine af (iq J hd ?_);refine af ?_;show ak _ _ (forIn items _ _) _ _ s;refine rl (az Dt) (sG _ (fun D r s'=>s'=s/\r=(ab,()) /\ ∀ v∈D,∃ n tk,v = .int n tk) _ ?_ ?_ _ _ ⟨rfl,rfl,xV hi⟩)
 . rintro x D r s' ⟨rfl,rfl,hr⟩;clear hi hd hc J L h;clear items o;refine aM (hr x aY) fun n tk G=>?_;subst G;refine af (rl (CK 7 rfl) (au (au ⟨rfl,rfl,fun v hv=>hr v (aN _ hv)⟩)))
 . rintro r s' ⟨rfl,rfl,_⟩;exact au h
theorem HR{l:List ar}(hk:fR (bt B w) s.heap k a)(hl:∀ v∈l,∃ k' b,v = .ref b/\fR (bt B w) s.heap k' b)(h:Q false s):ak (av B w) A (searchCouldBeSeen (.ref a) l) Q E s:=by
 refine af (sG _ (fun D r s'=>s'=s/\r=(ab,()) /\ ∀ v∈D,∃ k' b,v = .ref b/\fR (bt B w) s.heap k' b) _ ?_ ?_ _ _ ⟨rfl,rfl,hl⟩)
 . rintro x D r s' ⟨rfl,rfl,hr⟩;refine aM (hr x aY) fun k' b G=>ac G fun J hb=>?_;clear G;subst J;have F:∀ v∈D,∃ k' b,v = .ref b/\fR (bt B w) s'.heap k' b:=fun v hv=>hr v (aN _ hv);dsimp only;refine sU (fun L=>au ⟨rfl,rfl,F⟩) fun L=>af (CL hk ?_);refine rl (if_neg (fun h=>nB h)) ?_;refine af (CL hb ?_);refine rl (if_neg (fun h=>nB h)) ?_;refine af (yI hk ?_);refine rl (if_neg (fun h=>nB h)) ?_;refine af (yI hb ?_);refine rl (if_neg (fun h=>nB h)) ?_;exact au ⟨rfl,rfl,F⟩
 . rintro r s' ⟨rfl,rfl,_⟩;exact au h
theorem EQ(T:cV w bD is s.heap S t es)(N:t.gaveWay=false)
 (L:t.probe (iC bD es) (bD k) (t.probeStart (bD k))=aa (.empty j ab)) (h:Q (.free j false) s):ak (av B w) A (setSearch S (.ref a) (bD k) true) Q E s:=by
 refine aP (id T) fun o arr ep J=>d4 J fun P X hd hr G V=>?_;clear J
 have F:(SetTable.led' t (ba w)).fits arr.size=true:=by refine rl (jd hr) ?_;exact G
 refine af (iZ P hd F ?_)
 dsimp only
 refine rl (if_neg (by refine rl y9 ?_;refine rl N ?_;exact fun h=>nB h)) ?_
 have D:∀ f:Nat->Int,f=iC bD es->(SetTable.led' t (ba w)).probe f (bD k) ((ab:Option xd).getD ((SetTable.led' t (ba w)).probeStart (bD k)))=aa (.empty j ab):=fun f G=>by
  refine rl G (rl (tW ..) L)
 rw [D];case a=>funext i;exact zW hr i
 dsimp only;exact au h
set_option tactic.hygienic true in
theorem Ew {is:List Int->ar->Prop} (hi:∀ k v,is k v->vX B w h₀ k v) {j i:Nat} {X:xd} (hu:A.units < eA) (n:∀ b o,h₀.get? b=aa o->s.heap.get? b=aa o) (hk:fR (bt B w) s.heap k a)
 (z:cV w bD is s.heap S t es) (u:t.gaveWay=false) (r:t.probe (iC bD es) (bD k) (t.probeStart (bD k))=aa (.candidate j i X)) (he:es[i]? = aa k) (h:Q (.there ab) s) :
 ak (av B w) A (setSearch S (.ref a) (bD k) true) Q E s:=by
 refine aP (id z) fun o arr ep D=>d4 D fun m hx hd hr g hpl=>?_;clear D
 have L:(SetTable.led' t (ba w)).fits arr.size=true:=by refine rl (jd hr) ?_;exact g
 refine af (iZ m hd L ?_)
 dsimp only
 refine rl (if_neg (by refine rl y9 ?_;refine rl u ?_;exact fun h=>nB h)) ?_
 have V:∀ f:Nat->Int,f=iC bD es->(SetTable.led' t (ba w)).probe f (bD k) ((ab:Option xd).getD ((SetTable.led' t (ba w)).probeStart (bD k)))=aa (.candidate j i X):=fun f g=>by
  refine rl g (rl (tW ..) r)
 rw [V];case a=>funext i;exact zW hr i
 dsimp only;refine ae (hr.get he) fun e D=>aE D fun c d l=>?_;clear D;refine ae (hi _ _ l) fun b D=>ac D fun N hb=>?_;clear D;have hl:∀ v∈(arr.filter (·.1 == bD k)).toList.map (·.2),∃ k' b,v = .ref b/\fR (bt B w) s.heap k' b:=by
  intro v hv;refine bB hv fun e hm D=>?_;subst D;have hm:=CV.mp hm;refine ae (hr.right e (CV.mpr ((Array.mem_filter.mp hm).1))) fun k' D=>aE D fun _ _ x=>?_;clear D;refine ae (hi _ _ x) fun b' D=>ac D fun h1 p=>?_;clear D;exact aR k' b' ⟨h1,qQ p n⟩
 have P:arr[i]? = aa e:=by refine rl (az mP) ?_;exact c
 have J:ak (av B w) A (do
  let aa (_,y):=arr[i]? | unsupported "internal:set-entry"
  let F ← mi [y] (eqBool y (.ref a))
  let (es',_,t') ← setState S
  if true && F then return .there ab
  let aa same:=t'.sameMemory (SetTable.led' t (ba w)).moves (SetTable.led' t (ba w)).mask|unsupported "set.changed-during-lookup:is-the-new-block-at-the-old-address"
  let G ← match (if same then t'.slot j else .empty) with
   | .live T=>match es'[T]? with
    |some (_,y')=>do pure (if ← isSame y' y then aa T else ab)
    |none=>pure ab
   |_=>pure ab
  match G with
  |none=>rule "set.search.anew";setSearchFrom S (.ref a) (bD k) true 99999 ab
  |some T=>if F then return .there (aa T) else setSearchFrom S (.ref a) (bD k) true 99999 (aa X)) Q E s:=by
  refine rl P ?_;obtain ⟨e1,e2⟩:=e;dsimp only at d N;subst N;dsimp only;refine af (fm (Ds hu (qQ hb n) hk ?_));refine af (iZ m hd L ?_);dsimp only;refine rl (decide_eq_true rfl) ?_;refine rl (if_pos (by rfl)) (au h)
 refine sU (fun q=>?_) fun q=>J;refine af (HR hk hl ?_);refine rl (if_neg (fun h=>nB h)) ?_;exact J
set_option tactic.hygienic true in
theorem Js {is:List Int->ar->Prop} (hi:∀ k v,is k v->vX B w h₀ k v) {Q:Bool->aw->Prop} (hu:A.units < eA) (h0:∀ b o,h₀.get? b=aa o->s.heap.get? b=aa o) (y:is k (.ref a))
 (hS:cV w bD is s.heap S t es) (h:e9 bD t es k=aa (t',es')) (hz:es.length+1 < lR)
 (hq:∀ h' b,g5 S s.heap h'->cV w bD is h' S t' es'->Q b { s with heap:=h' }):ak (av B w) A (setAddHashed S (.ref a) (bD k)) Q E s:=by
 refine aP (id hS) fun o arr ep q0=>d4 q0 fun ho hx hd hr hf hp=>?_;clear q0
 refine ae (hi _ _ y) fun _ q0=>ac q0 fun ea hk0=>?_;clear q0
 obtain ⟨⟩:=ea
 have hk:=qQ hk0 h0
 have hsz:=jd hr
 have hf':(SetTable.led' t (ba w)).fits arr.size=true:=by refine rl hsz ?_;exact hf
 refine fm (af (iZ ho hd hf' ?_))
 dsimp only
 have hb:byScan (.ref a) arr=false:=by rfl
 refine rl hb ?_
 simp only [sw,↓reduceIte]
 unfold e9 at h
 split at h
 . clear hk0 hp hf hr hd hx ho hb
   clear ep o;exact nS h
 rename_i hg;have hg:=Eq.mp (jB _) hg;split at h
 . rename_i j f;refine af (EQ hS hg f ?_);dsimp only;refine af (iZ ho hd hf' ?_);dsimp only;refine tB h fun t₁ p J n P T d10=>?_;have L:ai (f6 bD is) J (di arr p (bD k,.ref a)).toList:=by refine rl P ?_;exact zV hr ⟨rfl,y⟩
   have G:=jd L;have g:(SetTable.led' t (ba w)).put j=(SetTable.led' t₁ (ba w),p):=by refine rl (zS ..) ?_;refine rl n ?_;rfl
   refine rl g ?_;dsimp only;have V:t₁.plain=true:=(yH n).trans hp;refine rl (if_pos (show (SetTable.led' t₁ (ba w)).plain=true from V)) (af (Gv hk ?_));refine rl (if_pos rfl) (qc (w:=w) (hash:=bD) (is:=is) ho hx hd L T V fun N l=>?_);have r:=eF s.heap S (kz (di arr p (bD k,.ref a)) (SetTable.led' t₁ (ba w)));have X:J.length=es.length+1:=by refine rl P ?_;simp;exact oC
   have d:(di arr p (bD k,dw a)).size < scanBound:=by refine rl G ?_;refine rl X ?_;exact hz
   refine af (sB ho hd ?_ (sC d));clear P n f hg hk0 hp hf hr hd ho;clear hg d g;rcases d10 with ⟨D,rfl,rfl⟩|⟨D,F,z,x,b10,hab,rfl⟩
   . refine rl (if_neg (by refine rl qu ?_;refine rl D ?_;exact fun h=>nB h)) ?_;exact au (hq _ _ r l)
   . refine rl (if_pos (by refine rl qu ?_;refine rl D ?_;rfl)) ?_;refine af ?_;have u:(SetTable.led' t₁ (ba w)).fits (di arr p (bD k,dw a)).size=true:=by refine rl G ?_;exact T
     refine af (iZ N rfl u ?_);dsimp only;have e1:arr.size+1=J.length:=by refine rl hsz ?_;refine rl X ?_;rfl
     refine rl e1 ?_;refine rl (if_neg (by refine rl ja ?_;exact MP hab)) ?_;refine rl (zj L) (rl (yc ..) (rl z ?_));have m:ai (f6 bD is) (F.toList.filterMap fun i=>J[i]?) (F.filterMap ((di arr p (bD k,dw a))[·]?)).toList:=by
      have:=t5 L F.toList;refine rl wo ?_;simpa using this
     have c:=qq x;clear hab x D l T;refine qc (w:=w) (hash:=bD) (is:=is) N hx rfl m (by refine rl c ?_;exact b10) ((xE z).trans V) fun _ c10=>?_;have q:=jd m;refine af ?_;show ak _ _ (if ((F.filterMap ((di arr p (bD k,dw a))[·]?)).size != (di arr p (bD k,dw a)).size)=true then _ else _) _ _ _
     refine rl (if_neg (by refine rl q ?_;refine rl c ?_;refine rl G ?_;simp)) ?_;refine au ?_;dsimp only;refine sB N rfl ?_ (sC (by refine rl q ?_;refine rl c ?_;refine rl X ?_;exact hz));exact au (hq _ _ (r.trans (eF _ S _)) c10)
 . rename_i j i nx f;split at h
   . rename_i he;obtain ⟨⟩:=h;refine af (Ew hi hu h0 hk hS hg f he ?_);dsimp only;have e:s = { s with heap:=s.heap }:=by obtain ⟨⟩:=s;rfl
     refine rl e (au (hq s.heap _ (DJ S s.heap) hS))
   . clear f;clear nx j;exact nS h
 . exact nS h
end
section
variable (B w)
def kW(h₀:aB){K:Type}[DecidableEq K](hash:K->Int)(is:K->ar->Prop)(add:SetTable->List K->K->Option (SetTable×List K)):Prop :=
 ∀ {A:bo} {E:ar->aw->Prop} {s:aw} {S:am} {t D:SetTable} {es es':List K} {k:K} {v:ar} {Q:Bool->aw->Prop},A.units < eA->(∀ b o,h₀.get? b=aa o->s.heap.get? b=aa o)->is k v ->
  cV w hash is s.heap S t es->add t es k=aa (D,es')->es.length+1 < lR ->
  (∀ h' b tk,s.toks<=tk->g5 S s.heap h'->cV w hash is h' S D es'->Q b { s with heap:=h',toks:=tk })->ak (av B w) A (setAdd S v) Q E s
end
section
theorem Gw h₀:kW B w h₀ cq ie (mA cq):=by intro A E s S t P es es' k v Q N L hk J h F hq;refine fm ?_;clear L N;clear h₀;refine ae hk fun tk D=>?_;clear hk;subst D;refine af ((bt B w).pyHash (k:=k) qy ?_);exact add_int (s:={ s with toks:=s.toks+1 }) ⟨tk,rfl⟩ J h F fun h' b hb G=>hq h' b _ (fo _) hb G
theorem Gx(hi:∀ k v,is k v->vX B w h₀ k v):kW B w h₀ bD is (e9 bD):=by intro A E s S t V es es' k v Q J G hk T h N hq;refine fm (ae (hi _ _ hk) fun a F=>ac F fun L D=>?_);clear F;subst L;refine af (wpAny_pyHash_tuple J (qQ D G) ?_);exact Js (s:={ s with toks:=s.toks+(k.length+1) }) hi J G hk T h N fun h' b hb P=>hq h' b _ (c0 _ _) hb P
theorem zk{K:Type}[DecidableEq K]{hash:K->Int}{t S:SetTable}{es es':List K}{k:K}{j:Nat}(h:iM hash t es j k=aa (S,es')):es'.length=es.length+1:=by
 refine tB h fun t₁ p J P D G L=>?_;have F:J.length=es.length+1:=by refine rl D ?_;simp;exact oC
 clear G D P h;clear p j k;rcases L with ⟨_,_,rfl⟩|⟨_,Q,_,N,_,_,rfl⟩
 . exact F
 . refine rl (qq N) F
theorem HS{K:Type}[DecidableEq K]{hash:K->Int}{t D:SetTable}{es es':List K}{k:K}(h:mA hash t es k=aa (D,es')):es'.length<=es.length+1:=by
 unfold mA at h;split at h
 . obtain ⟨⟩:=h;exact fo _
 . split at h
   . refine rl (zk h) BB
   . exact nS h
theorem HT{K:Type}[DecidableEq K]{hash:K->Int}{t G:SetTable}{es es':List K}{k:K}(h:e9 hash t es k=aa (G,es')):es'.length<=es.length+1:=by
 unfold e9 at h;refine lk fun _ D=>?_;split at h
 . clear k hash;exact nS h
 . split at h
   . refine D (rl (zk h) BB)
   . refine bL h fun F h=>?_;clear F;obtain ⟨⟩:=h;refine D (fo _)
   . exact nS h
variable {K:Type} [DecidableEq K] {hash:K->Int} {is:K->ar->Prop} {add:SetTable->List K->K->Option (SetTable×List K)} {h₀:aB}
variable {R:mj->aw->Prop} {I:am} {fp wr:List am} {G:Array GenState->Array GenState->Prop} {n:Nat} {P:Nat->ar->Prop} {St:Nat->aw->Prop}
set_option tactic.hygienic true in
theorem zl (Ao:kW B w h₀ hash is add) (hl:∀ {t r:SetTable} {es es':List K} {k:K},add t es k=aa (r,es')->es'.length<=es.length+1) (x:WalksS B w A.in1 I fp wr G n P St) {S:am} (d:S ∉ fp) {ks:List K} (hks:ks.length=n)
 (V:∀ i v,P i v->∃ k,ks[i]? = aa k/\is k v) (hw:∀ b∈wr,h₀.get? b=ab) (f:h₀.get? S=ab) (hu:A.in1.units < eA) {r:SetTable} {es':List K} :
 ∀ (D:List K) (i:Nat) (s:aw) (t:SetTable) (es:List K),D=ks.drop i->i<=n->St i s->(∀ b o,h₀.get? b=aa o->s.heap.get? b=aa o)->cV w hash is s.heap S t es->gj add t es D=aa (r,es') ->
  es.length+D.length+1 < lR->(∀ s',Moved (S::wr) G s s'->cV w hash is s'.heap S r es'->R (.ok (.ret .none)) s') ->
  er (av B w) A (.builtin "set.update.loop" ⟨[.ref S,.ref I],[]⟩) R s:=by
 have X:S ∉ wr:=fun h=>d (x.sub _ h);have L:∀ b∈wr,b∈S::wr:=fun b hb=>aN _ hb;have ext:∀ {s s':aw},(∀ b o,h₀.get? b=aa o->s.heap.get? b=aa o)->Moved (S::wr) G s s'->∀ b o,h₀.get? b=aa o->s'.heap.get? b=aa o:=fun h hm b o e=>hm.heap b o (fun hb=>by
  refine lk fun _ κ=>?_;clear L X es' r;rcases aL.mp hb with rfl|hb
  . rw [f] at e;exact nS e
  . rw [hw b hb] at e;exact nS e) (h b o e)
 intro D;induction D with
 |nil =>
  intro i s t es hr hi N z hS J j hR;have hin:i=n:=by
   have:=congrArg List.length hr;rw [List.length_drop] at this;simp at this;exact MQ hks hi this
  clear j z hi hr;clear ext hu f hw V hks d;clear ks;subst hin;refine gv CB (rl (io wj _) ?_);show ak _ A.in1 (dZ (.ref I) >>= _) _ _ s;refine af (x.done s _ _ N fun s' hm=>?_);show ak _ A.in1 (ret c7) _ _ s';clear N;obtain ⟨⟩:=J;exact au (hR s' (hm.mono L) (hS.at fun o e=>hm.heap S _ X e))
 |cons k D ih =>
  intro i s t es hr hi N z hS J j hR;have g:i < n:=by
   have:=congrArg List.length hr;rw [List.length_drop] at this;simp at this;exact MR hks this
  have hk:ks[i]? = aa k:=by
   refine rl (az List.head?_drop) ?_;refine rl (az hr) rfl
  have hr':D=ks.drop (i+1):=by
   refine rl (az List.tail_drop) (rl (az hr) rfl)
  refine gv CB (rl (io wj _) ?_);show ak _ A.in1 (dZ (.ref I) >>= _) _ _ s;refine af (x.item i s _ _ g N fun v s' hP q hm=>?_);refine lk fun _ κ=>ae (V i v hP) fun k' q0=>ac q0 fun Q hv=>?_;clear q0;rw [hk] at Q;clear N hi hr hk f;replace Q:=sI Q;subst Q
  (conv at J=>lhs;whnf)
  split at J;case h_2=>exact nS J
  rename_i t₁ c T;rw [el] at j;refine κ ?_;show ak _ A.in1 (mi [v] (setAdd S v) >>= _) _ _ s';refine af (fm (Ao hu (ext z (hm.mono L)) hv (hS.at fun o e=>hm.heap S _ X e) T (MT j) fun h' b tk u y a=>?_));have p:Moved (S::wr) G s { s' with heap:=h',toks:=tk }:=(hm.mono L).then_heap u fun b o hb e=>by
   refine rl (y.2 b (fun h:b=S=>hb (by refine rl h ?_;exact aY))) ?_;exact e
  refine au ⟨lI wj _,ih (i+1) _ t₁ c hr' g (x.frame _ s' _ _ q u fun b hb o e=>?_) (ext z p) a J (by exact MU j (hl T)) fun s'' l m=>?_⟩
  . refine rl (y.2 b (fun h:b=S=>d (by refine rl (az h) ?_;exact hb))) ?_;exact e
  . exact hR s'' (Moved.trans x.gtrans p l) m
end
theorem Eb:isSubtype (.type "tuple") (.type "set")=pure false:=by rw [pJ];kernel_rfl
theorem CY:isSubtype (.type "tuple") (.type "frozenset")=pure false:=by rw [pJ];kernel_rfl
section
variable {K:Type} [DecidableEq K] {hash:K->Int} {is:K->ar->Prop} {add:SetTable->List K->K->Option (SetTable×List K)}
theorem xF a
 (h:Q₁ (.ref s.heap.objs.size) { s with heap:=s.heap.push { cls:=.type "set",dict:=ab,data:=.set #[] 0 (.fresh 0 0 (ba w)) } }) :
 er (av B w) A (.call (.builtin "set.__new__") ⟨[.type "set",a],[]⟩) (wants Q₁ E) s:=by
 refine sQ ?_
 show ak _ A.in1 (do checkBuiltinCall "set.__new__" ⟨[.type "set",a],[]⟩;gR (.builtin "set.__new__" ⟨[.type "set",a],[]⟩)) _ _ s
 refine af (pW (PySem.F.newCall_set_1 a) (au ⟨lI CM _,gv PySem.F.entry_set_new ?_⟩))
 rw [io CM _]
 unfold Builtin.«set.__new__» Builtin.Frozenset.newClass
 have D:=sub_set_self
 obtain ⟨G,g,d,tk,os⟩:=s
 dsimp only
 wp_walk
 refine m0 (au ?_)
 dsimp only
 simp only [newObj]
 refine af (wpAny_alloc (au ?_))
 exact au h
theorem xW{h:aB}{a:am}(D:h.get? a=aa { cls:=.type "set",dict:=ab,data:=.set #[] 0 (.fresh 0 0 (ba w)) }):cV w hash is h a iD [] :=
 ⟨_,#[],0,D,⟨rfl,rfl,rfl⟩,rfl,.nil,rfl,rfl⟩
set_option maxHeartbeats 3200000 in
theorem Ec (Ao:kW B w s.heap hash is add) (hl:∀ {t j:SetTable} {es es':List K} {k:K},add t es k=aa (j,es')->es'.length<=es.length+1) {l:am} {items:Array ar} {ks es':List K} {j:SetTable} {Q:ar->aw->Prop}
 (hh:A.handled=ab) (hu:A.units+5 < eA) (y:s.heap.IsList l items) (hi:ai is ks items.toList) (hb:ks.length+1 < lR) (m:gj add iD [] ks=aa (j,es'))
 (h:∀ (h':aB) (tk:Nat),cV w hash is h' s.heap.objs.size j es' ->
  (∀ b o,b < s.heap.objs.size->s.heap.get? b=aa o->h'.get? b=aa o)->Q (.ref s.heap.objs.size) { s with heap:=h',toks:=tk }) :
 ak (av B w) A (call (.type "set") [.ref l]) Q E s:=by
 obtain ⟨c,tl,f10⟩:=fj.mro;have q:=fj.made;have a11:=fj.sub;refine wpAny_call (sQ ?_);show ak _ _ (callAny (.type "set") _) _ _ _;refine au ⟨Du _ (by decide +kernel),gv CC ?_⟩;rw [Dv (CN "set" [.ref l] []) rfl];have h1:=fj.notType;have h2:=fj.canCreate;have hct:=CE (.ref l);repeat (any_goals (first|assumption|wp_step))
 refine jF (xF (w:=w) (.ref l) (E:=E) (Q₁:=fun f s₁=>f = .ref s.heap.objs.size/\s₁ = { s with heap:=s.heap.push { cls:=.type "set",dict:=ab,data:=.set #[] 0 (.fresh 0 0 (ba w)) } }) ⟨rfl,rfl⟩) fun r s₁ hr=>?_;cases r with
 |error e=>exact hr
 |ok fl =>
  cases fl with
  |ret f =>
   obtain ⟨rfl,rfl⟩:=hr;have hS:(s.heap.push { cls:=.type "set",dict:=ab,data:=.set #[] 0 (.fresh 0 0 (ba w)) }).get? s.heap.objs.size=aa { cls:=.type "set",dict:=ab,data:=.set #[] 0 (.fresh 0 0 (ba w)) }:=b9 _ rfl;have hT:xp { s with heap:=s.heap.push { cls:=.type "set",dict:=ab,data:=.set #[] 0 (.fresh 0 0 (ba w)) } } (.ref s.heap.objs.size) "set" := ⟨_,hS,rfl⟩;have b11:=fj.init.lookup;have hbi:=fj.init.bind (.ref s.heap.objs.size);repeat (any_goals (first|assumption|wp_step))
   refine jF (CW (R:=wants (fun r s₂=>r = .none /\ ∃ h' tk,s₂ = { s with heap:=h',toks:=tk } /\
    cV w hash is h' s.heap.objs.size j es' /\
    (∀ b o,b < s.heap.objs.size->s.heap.get? b=aa o->h'.get? b=aa o)) E) fj.init.plain CF (check_set_init_1 hT ?_)) fun T s₂ D=>?_
   . obtain ⟨ol,a,g,nl,X⟩:=y;obtain ⟨c11,L,b10,G⟩:=ol;simp only at g X;subst g;subst X;have P:(s.heap.push { cls:=.type "set",dict:=ab,data:=.set #[] 0 (.fresh 0 0 (ba w)) }).get? l=aa { cls:=.type "list",dict:=L,data:=.seq items nl,slots:=G }:=bc _ a;have h10:=PySem.F.sub_list_set;have g10:=PySem.F.sub_list_frozenset;have hne:(jH "list" == jH "dict")=false:=by decide
     have d:(s.heap.push { cls:=.type "set",dict:=ab,data:=.set #[] 0 (.fresh 0 0 (ba w)) }).IsList l items:=⟨_,P,rfl,nl,rfl⟩;unfold Builtin.«set.__init__» noKeywords Cp;generalize hPI:fW=PI;wp_walk;subst hPI;refine wG d (af (pH ?_));have S:l < s.heap.objs.size:=bH a;have p:A.in1.in1.in1.handled=none:=by simp [hh]
     have V:l≠(s.heap.push { cls:=.type "set",dict:=ab,data:=.set #[] 0 (.fresh 0 0 (ba w)) }).objs.size:=by
      rw [em];exact cz (sD S)
     have z:s.heap.objs.size ∉ [(s.heap.push { cls:=.type "set",dict:=ab,data:=.set #[] 0 (.fresh 0 0 (ba w)) }).objs.size,l]:=by
      rw [em];simp only [aL,aV,a7,or_false,not_or];exact ⟨cz (i3 _),jE S⟩
     have dead:∀ b,s.heap.objs.size<=b->s.heap.get? b=none:=fun b hb=>by
      cases e:s.heap.get? b with
      |none=>rfl
      |some o=>exact absurd (bH e) (ch.mpr hb)
     have x:ks.length=items.size:=by rw [hi.length];simp
     refine zl Ao hl ((Walks.list p _ l V items).toS) z x (fun i v hv=>?_) (fun b hb=>dead b ?_) (dead _ (cH _)) (by show A.units+1+1+1 < _;omega) ks 0 _ iD [] rfl (cG _)
      ⟨⟨_,b9 _ rfl,rfl,rfl⟩,(d.push _)⟩ (fun b o e=>bc _ (bc _ e)) (xW (bc _ hS)) m (by simpa using hb) ?hR
     . obtain ⟨k,hk,hr⟩:=hi.getR (i:=i) (b:=v) (by rw [mP];exact hv);exact ⟨k,hk,hr⟩
     . rw [aV.mp hb,em];exact fo _
     case hR =>
      intro s' hm J;obtain ⟨h',g',d',n,os'⟩:=s';have eg:g'=s.gens:=hm.gens;have ed:d'=s.drawn:=hm.drawn;have eo:os'=s.os:=hm.os;subst eg;subst ed;subst eo;show ak _ _ _ _ _ _;refine au ?_;show ak _ _ (ret c7) _ _ _;refine au ⟨rfl,h',n,rfl,J,fun b o hb e=>?_⟩;have hb1:b≠s.heap.objs.size:=cz hb;have u:b≠(s.heap.push { cls:=.type "set",dict:=ab,data:=.set #[] 0 (.fresh 0 0 (ba w)) }).objs.size:=by
       rw [em];exact cz (sD hb)
      exact hm.heap b o (by simp only [aL,aV,a7,or_false,not_or];exact ⟨hb1,u⟩) (bc _ (bc _ e))
   . cases T with
     |error e=>exact D
     |ok N =>
      cases N with
      |ret r =>
       obtain ⟨rfl,h',tk,rfl,J,hk'⟩:=D;repeat (any_goals (first|assumption|wp_step))
       exact h _ _ J hk'
      |_=>exact D.elim
  |_=>exact hr.elim
set_option maxHeartbeats 3200000 in
theorem D1 (Ao:kW B w s.heap hash is add) (hl:∀ {t j:SetTable} {es es':List K} {k:K},add t es k=aa (j,es')->es'.length<=es.length+1) {l:am} {items:Array ar} {ks es':List K} {j:SetTable} {Q:ar->aw->Prop}
 (hh:A.handled=ab) (hu:A.units+5 < eA) (y:s.heap.IsTuple l items) (hi:ai is ks items.toList) (hb:ks.length+1 < lR) (m:gj add iD [] ks=aa (j,es'))
 (h:∀ (h':aB) (tk:Nat),cV w hash is h' s.heap.objs.size j es' ->
  (∀ b o,b < s.heap.objs.size->s.heap.get? b=aa o->h'.get? b=aa o)->Q (.ref s.heap.objs.size) { s with heap:=h',toks:=tk }) :
 ak (av B w) A (call (.type "set") [.ref l]) Q E s:=by
 obtain ⟨c,tl,f10⟩:=fj.mro;have q:=fj.made;have a11:=fj.sub;refine wpAny_call (sQ ?_);show ak _ _ (callAny (.type "set") _) _ _ _;refine au ⟨Du _ (by decide +kernel),gv CC ?_⟩;rw [Dv (CN "set" [.ref l] []) rfl];have h1:=fj.notType;have h2:=fj.canCreate;have hct:=CE (.ref l);repeat (any_goals (first|assumption|wp_step))
 refine jF (xF (w:=w) (.ref l) (E:=E) (Q₁:=fun f s₁=>f = .ref s.heap.objs.size/\s₁ = { s with heap:=s.heap.push { cls:=.type "set",dict:=ab,data:=.set #[] 0 (.fresh 0 0 (ba w)) } }) ⟨rfl,rfl⟩) fun r s₁ hr=>?_;cases r with
 |error e=>exact hr
 |ok fl =>
  cases fl with
  |ret f =>
   obtain ⟨rfl,rfl⟩:=hr;have hS:(s.heap.push { cls:=.type "set",dict:=ab,data:=.set #[] 0 (.fresh 0 0 (ba w)) }).get? s.heap.objs.size=aa { cls:=.type "set",dict:=ab,data:=.set #[] 0 (.fresh 0 0 (ba w)) }:=b9 _ rfl;have hT:xp { s with heap:=s.heap.push { cls:=.type "set",dict:=ab,data:=.set #[] 0 (.fresh 0 0 (ba w)) } } (.ref s.heap.objs.size) "set" := ⟨_,hS,rfl⟩;have b11:=fj.init.lookup;have hbi:=fj.init.bind (.ref s.heap.objs.size);repeat (any_goals (first|assumption|wp_step))
   refine jF (CW (R:=wants (fun r s₂=>r = .none /\ ∃ h' tk,s₂ = { s with heap:=h',toks:=tk } /\
    cV w hash is h' s.heap.objs.size j es' /\
    (∀ b o,b < s.heap.objs.size->s.heap.get? b=aa o->h'.get? b=aa o)) E) fj.init.plain CF (check_set_init_1 hT ?_)) fun T s₂ D=>?_
   . obtain ⟨ol,a,g,nl,X⟩:=y;obtain ⟨c11,L,b10,G⟩:=ol;simp only at g X;subst g;subst X;have P:(s.heap.push { cls:=.type "set",dict:=ab,data:=.set #[] 0 (.fresh 0 0 (ba w)) }).get? l=aa { cls:=.type "tuple",dict:=L,data:=.seq items nl,slots:=G }:=bc _ a;have h10:=Eb;have g10:=CY;have hne:(jH "tuple" == jH "dict")=false:=by decide
     have d:(s.heap.push { cls:=.type "set",dict:=ab,data:=.set #[] 0 (.fresh 0 0 (ba w)) }).IsTuple l items:=⟨_,P,rfl,nl,rfl⟩;unfold Builtin.«set.__init__» noKeywords Cp;generalize hPI:fW=PI;wp_walk;subst hPI;refine ph d (af (pH ?_));have S:l < s.heap.objs.size:=bH a;have p:A.in1.in1.in1.handled=none:=by simp [hh]
     have V:l≠(s.heap.push { cls:=.type "set",dict:=ab,data:=.set #[] 0 (.fresh 0 0 (ba w)) }).objs.size:=by
      rw [em];exact cz (sD S)
     have z:s.heap.objs.size ∉ [(s.heap.push { cls:=.type "set",dict:=ab,data:=.set #[] 0 (.fresh 0 0 (ba w)) }).objs.size,l]:=by
      rw [em];simp only [aL,aV,a7,or_false,not_or];exact ⟨cz (i3 _),jE S⟩
     have dead:∀ b,s.heap.objs.size<=b->s.heap.get? b=none:=fun b hb=>by
      cases e:s.heap.get? b with
      |none=>rfl
      |some o=>exact absurd (bH e) (ch.mpr hb)
     have x:ks.length=items.size:=by rw [hi.length];simp
     refine zl Ao hl ((Walks.tuple p _ l V items).toS) z x (fun i v hv=>?_) (fun b hb=>dead b ?_) (dead _ (cH _)) (by show A.units+1+1+1 < _;omega) ks 0 _ iD [] rfl (cG _)
      ⟨⟨_,b9 _ rfl,rfl,rfl⟩,(d.push _)⟩ (fun b o e=>bc _ (bc _ e)) (xW (bc _ hS)) m (by simpa using hb) ?hR
     . obtain ⟨k,hk,hr⟩:=hi.getR (i:=i) (b:=v) (by rw [mP];exact hv);exact ⟨k,hk,hr⟩
     . rw [aV.mp hb,em];exact fo _
     case hR =>
      intro s' hm J;obtain ⟨h',g',d',n,os'⟩:=s';have eg:g'=s.gens:=hm.gens;have ed:d'=s.drawn:=hm.drawn;have eo:os'=s.os:=hm.os;subst eg;subst ed;subst eo;show ak _ _ _ _ _ _;refine au ?_;show ak _ _ (ret c7) _ _ _;refine au ⟨rfl,h',n,rfl,J,fun b o hb e=>?_⟩;have hb1:b≠s.heap.objs.size:=cz hb;have u:b≠(s.heap.push { cls:=.type "set",dict:=ab,data:=.set #[] 0 (.fresh 0 0 (ba w)) }).objs.size:=by
       rw [em];exact cz (sD hb)
      exact hm.heap b o (by simp only [aL,aV,a7,or_false,not_or];exact ⟨hb1,u⟩) (bc _ (bc _ e))
   . cases T with
     |error e=>exact D
     |ok N =>
      cases N with
      |ret r =>
       obtain ⟨rfl,h',tk,rfl,J,hk'⟩:=D;repeat (any_goals (first|assumption|wp_step))
       exact h _ _ J hk'
      |_=>exact D.elim
  |_=>exact hr.elim
end
theorem D2:entryFor table "set.__iter__" = aa Builtin.«frozenset.__iter__» :=
 entryFor_alias (id' := "frozenset.__iter__") (by rw [fastTable_eq_tree];kernel_rfl) rfl (by rw [PySem.W.S.canonicalZ_eq];decide +kernel) (by rw [fastTable_eq_tree];kernel_rfl)
theorem lE:Slot "set_iterator" "__next__" "set_iterator.__next__" :=
 .of (owner := "set_iterator") (n := "__next__") (by refine rl (w3 ..) ?_;refine rl wt ?_;kernel_rfl) (by decide +kernel) (by decide +kernel) (by decide +kernel)
  (by first|exact .inl (by decide +kernel)|exact .inr (by decide +kernel)) (by refine rl (pJ ..) ?_;kernel_rfl)
theorem wX:Slot "set_iterator" "__iter__" "set_iterator.__iter__" :=
 .of (owner := "set_iterator") (n := "__iter__") (by refine rl (w3 ..) ?_;refine rl wt ?_;kernel_rfl) (by decide +kernel) (by decide +kernel) (by decide +kernel)
  (by first|exact .inl (by decide +kernel)|exact .inr (by decide +kernel)) (by refine rl (pJ ..) ?_;kernel_rfl)
theorem wQ:entryFor table "set_iterator.__next__" = aa Builtin.«set_iterator.__next__» := entryFor_of_tree (by kernel_rfl)
theorem xX:Manifest.owners.lookup (String.ofList ['r','o','t','a','r','e','t','i','_','t','e','s'].reverse)=aa Manifest.sig_set_iterator:=by kernel_rfl
theorem wY a:argsOk "set_iterator.__next__" ⟨[a],[]⟩:=by refine rl (signature?_of (id := "set_iterator.__next__") (n:=['_','_','t','x','e','n','_','_']) (o:=['r','o','t','a','r','e','t','i','_','t','e','s']) (by kernel_rfl) xX) ?_;kernel_rfl
theorem DW a:argsOk "set_iterator.__iter__" ⟨[a],[]⟩:=by refine rl (signature?_of (id := "set_iterator.__iter__") (n:=['_','_','r','e','t','i','_','_']) (o:=['r','o','t','a','r','e','t','i','_','t','e','s']) (by kernel_rfl) xX) ?_;kernel_rfl
section
noncomputable def lj(w:bh):Bool:=w.params.followText "set-order"
structure fa (w:bh) (h:aB) (S:am) (t:SetTable) (arr:Array (Int×ar)) (ep:Nat):Prop where
 at':∃ o,h.get? S=aa o/\o.ExactSet/\o.data = .set arr ep (SetTable.led' t (ba w))
 fit:t.fits arr.size=true
 plain:t.plain=true
 walk:kO t arr.size=true
theorem fa.at{h h':aB}(r:fa w h S t arr ep)(e:∀ o,h.get? S=aa o->h'.get? S=aa o):fa w h' S t arr ep :=
 ⟨by refine ae r.at' fun o D=>ac D fun F x=>?_;clear D;exact ⟨o,e _ F,x⟩,r.fit,r.plain,r.walk⟩
noncomputable def fU(w:bh)(S:am)(arr:Array (Int×ar))(ep:Nat):Array (Int×ar):=if lj w=true then pickOrder (w.params.setOrder S ep) arr else arr
noncomputable def gN(w:bh)(t:SetTable)(i:Nat):Nat:=if lj w=true then 0 else re t i
def kJ(w:bh)(h:aB)(it S:am)(t:SetTable)(i n ep:Nat):Prop :=
 ∃ o,h.get? it=aa o/\o.cls = .type "set_iterator" /\ o.data = .fields #[.int (gN w t i) 0,.int i 0,.ref S,.int n 0,.int ep 0]
theorem kJ.typeIs{it S:am}{i n ep:Nat}(x:kJ w s.heap it S t i n ep):s.TypeIs (.ref it) "set_iterator" := by refine ae x fun o D=>aE D fun F hc _=>?_;clear x D;exact ⟨o,F,hc⟩
variable {S:am} {t:SetTable} {arr:Array (Int×ar)} {ep:Nat}
theorem Fk(hm:fa w s.heap S t arr ep)
 (L:Q (.ref s.heap.objs.size) { s with heap:=s.heap.push { cls:=.type "set_iterator",data:=.fields #[.int (gN w t 0) 0,.int 0 0,.ref S,.int arr.size 0,.int ep 0] } }) :
 ak (av B w) A (fW (.ref S)) Q E s:=by
 refine lk fun _ T=>?_
 obtain ⟨⟨o,G,hc,hd⟩,P,N,V⟩:=hm
 have J:s.TypeIs (.ref S) "set" := ⟨o,G,hc.1⟩
 have D:(SetTable.led' t (ba w)).fits arr.size=true:=P
 refine T ?_
 refine wH J CO (fO CO J D2 ?_ (PySem.F.args_set_iter_1 _))
 refine af ?_
 delta Builtin.Frozenset.slot0
 refine af (au ?_)
 show ak _ _ (pure S) _ _ s
 refine au ?_
 refine af ?_
 delta Builtin.Frozenset.sizeOf
 refine af (wC G hd D (au ?_))
 refine af ?_
 delta setDrawn setsByText
 refine af (iZ G hd D ?_)
 refine af (af (m0 (au ?_)))
 refine au ?_
 refine rl (if_neg (by show ¬ ((!_ && (!t.plain && _))=true);refine rl N ?_;simp)) ?_
 refine af (au ?_)
 refine af (wpAny_setEpoch_of G hd D ?_)
 refine af (f8 (au ⟨_,rfl, "set_iterator",_,⟨_,b9 _ rfl,rfl⟩,lE.lookup,?_⟩))
 have e:gN w t 0=0:=by delta gN;split<;>rfl
 rw [e] at L
 exact L
theorem Jt{α:Type}(C:Nat->Nat):∀ (f k:Nat) (l:List α) (B:Array α),l.length=f->(xO C f k l B).toList.Perm (B.toList++l):=by
 intro E;induction E with
 |zero =>
  intro k l B h;have:l = []:=Cz.mp h;subst this;unfold xO;simp
 |succ f D =>
  intro k l B h;unfold xO;have A:C k % l.length < l.length:=Nat.mod_lt _ (by exact AH h);refine rl (dt A) ?_;refine (D (k+1) _ _ (by refine rl List.length_eraseIdx ?_;split<;>(first|exact MV h|exact (MW A ‹_›).elim))).trans ?_
  refine rl Array.toList_push ?_;refine rl (lA ..) ?_;refine List.Perm.append_left _ ?_;show List.Perm ([l[C k % l.length]]++l.eraseIdx (C k % l.length)) l;generalize C k % l.length=j at A;refine rl (Cj ..) ?_;refine (List.perm_middle (a:=l[j]) (l₁:=l.take j) (l₂:=l.drop (j+1))).symm.trans ?_;refine rl (az (mN A)) ?_;refine rl (ws ..) ?_;rfl
theorem Gy{α:Type}D(xs:Array α):(pickOrder D xs).toList.Perm xs.toList:=by have:=Jt D xs.size 0 xs.toList #[] (by simp);exact this
theorem zm:(fU w S arr ep).toList.Perm arr.toList:=by
 unfold fU;split
 . exact Gy _ _
 . exact pI _
theorem qz:(fU w S arr ep).size=arr.size:=by have:=(zm (w:=w) (S:=S) (arr:=arr) (ep:=ep)).length_eq;simpa using this
theorem zn{i:Nat}(hm:fa w s.heap S t arr ep)(hi:i<=arr.size)(D:Q ((fU w S arr ep)[i]?.map fun e=>(e.2,gN w t (i+1))) s):
 ak (av B w) A (setNext S (gN w t i) i ep) Q E s:=by
 refine lk fun _ X=>?_
 obtain ⟨⟨os,G,a,N⟩,P,b,V⟩:=hm
 have L:(SetTable.led' t (ba w)).fits arr.size=true:=P
 refine X ?_
 delta setNext setsByText
 refine af (iZ G N L ?_)
 refine af (af (m0 (au ?_)))
 by_cases hb:lj w=true
 . show ak _ _ (if lj w=true then _ else _) _ _ _
   refine rl (if_pos hb) ?_;refine rl (if_neg (by simp)) (af ?_);delta setWalk setsByText;refine af (iZ G N L ?_);refine af (af (m0 (au ?_)));show ak _ _ (if lj w=true then _ else _) _ _ _
   refine rl (if_pos hb) (af (m0 (au ?_)));refine au ?_;delta fU gN at D;rw [if_pos hb,if_pos hb] at D;delta gN;refine rl (if_pos hb) D
 . show ak _ _ (if lj w=true then _ else _) _ _ _
   refine rl (if_neg hb) ?_;refine rl (if_neg (by show ¬ ((!t.plain && _)=true);refine rl b ?_;exact fun h=>nB h)) ?_;refine af ?_;show ak _ _ (if (!ba w && !arr.isEmpty)=true then _ else _) _ _ _
   have hl:ba w=true:=by delta ba;show (!lj w)=true;refine rl (Eq.mp (jB _) hb) ?_;rfl
   refine rl (if_neg (by refine rl hl ?_;exact fun h=>nB h)) ?_;refine au ?_;delta fU gN at D;rw [if_neg hb,if_neg hb] at D;delta gN;refine rl (if_neg hb) ?_;have T:SetTable.below t.place (re t i)=i:=by
    delta kO at V
    have:=bq.mp V i (en.mpr (Nat.lt_succ_of_le ‹_›));exact eq this
   have J:t.place.size=arr.size:=by
    delta SetTable.fits at P;rw [bX] at P;exact eq P.1
   refine au (rl T ?_);by_cases F:i < arr.size
   . rw [kl F] at D ⊢;refine rl (kl (by refine rl J ?_;exact F)) ?_;have:re t (i+1)=t.place[i]+1:=by
      show t.place.getD i 0+1=_;delta tR;refine rl (dif_pos (by refine rl J ?_;exact F)) ?_;rfl
     rw [this] at D;exact D
   . rw [wm (ch.mp ‹_›)] at D ⊢;exact D
theorem HU{it:am}{i:Nat}(c:S≠it)(D:kJ w s.heap it S t i arr.size ep)(hm:fa w s.heap S t arr ep)(T:(fU w S arr ep)[i]? = aa e)
 (b:∀ h',kJ w h' it S t (i+1) arr.size ep->g5 it s.heap h'->Q (aa e.2) { s with heap:=h' }) :
 ak (av B w) A (dZ (.ref it)) Q E s:=by
 refine lk fun _ V=>?_
 refine ae (id D) fun o P=>aE P fun L hc hd=>?_;clear P
 obtain ⟨⟨os,J,X,N⟩,d,g,f⟩:=id hm
 refine V ?_
 delta dZ
 refine af (nj (iW (name:=i7 "__next__") D.typeIs lE
  (fO lE D.typeIs wQ ?_ (wY _))))
 refine af (au (af (sZ L hd ?_)));refine af (wC J N d ?_);refine rl (if_neg (by simp)) ?_;have hi:i<=arr.size:=by
  have:=(Cw.mp T).1;rw [qz] at this;exact c6 ‹_›
 refine af (zn hm hi ?_);refine rl T ?_;refine af (lH L hd (ef _) ?_);have G:=pb (xj (·.setIfInBounds 0 (iG (gN w t (i+1))))) L (sp (kn hd _));have F:=kn hd (fun a:Array ar=>a.setIfInBounds 0 (iG (gN w t (i+1))));refine af (lH G F (by exact wy [dw S,jM (↑arr.size) 0,jM (↑ep) 0].length) ?_);refine au ⟨_,rfl,au (b _ ?_ ((eF ..).trans (eF ..)))⟩;exact ⟨_,pb _ G (sp (kn F _)),(sz ..).trans ((sz ..).trans hc),by rw [kn F];rfl⟩
theorem Ju{it:am}(hh:A.handled=ab)(D:kJ w s.heap it S t arr.size arr.size ep)(hm:fa w s.heap S t arr ep)
 (V:∀ h',Heap.ExtBut it s.heap h'->Q ab { s with heap:=h' }):ak (av B w) A (dZ (.ref it)) Q E s:=by
 refine lk fun _ N=>?_
 refine ae (id D) fun o J=>aE J fun L hc hd=>?_;clear J
 obtain ⟨⟨os,F,P,G⟩,X,d,c⟩:=id hm
 refine N ?_
 delta dZ
 refine af (nj (iW (name:=i7 "__next__") D.typeIs lE
  (fO lE D.typeIs wQ ?_ (wY _))))
 refine af (au (af (sZ L hd ?_)));refine af (wC F G X ?_);refine rl (if_neg (by simp)) (af (zn hm (cH _) ?_));refine rl (wm (by refine rl qz ?_;exact om)) ?_;show ak _ _ (setField (.ref it) 2 .none >>= _) _ _ s;refine af (lH L hd (so rfl) ?_);show ak _ _ (newExc (.type "StopIteration") [] >>= _) _ _ _;refine af ?_;refine af (f8 ?_ (by size_fits));refine af (m:=s0 _ _) (pW (a:=c7) (by first|rfl|(rfl)) ?_)
 refine f8 ?_ (by size_fits);refine af (xm ?_);refine rl (show A.in1.handled=ab from hh) (af (au (wpAny_throw ?_)));refine af (pA (T := "StopIteration") (b:=true) ⟨_,b9 _ rfl,rfl⟩ w9 ?_);exact au (V _ (((eF ..).extBut.push _).push _))
theorem DV:entryFor table "set_iterator.__iter__" = aa Builtin.«dict_keyiterator.__iter__» :=
 entryFor_alias (id' := "dict_keyiterator.__iter__") (by rw [fastTable_eq_tree];kernel_rfl) rfl (by rw [PySem.W.S.canonicalZ_eq];decide +kernel) (by rw [fastTable_eq_tree];kernel_rfl)
theorem Fm{it:am}{i n:Nat}(D:kJ w s.heap it S t i n ep)(F:Q (.ref it) s):ak (av B w) A (fW (.ref it)) Q E s:=by refine wH D.typeIs wX (fO wX D.typeIs DV ?_ (DW _));exact au ⟨_,rfl, "set_iterator",_,D.typeIs,lE.lookup,F⟩
theorem Walks.rawSet(hh:A.handled=ab)I(N:S≠I):
 Walks B w A I [I,S] [I] arr.size (fun i v=>∃ e,(fU w S arr ep)[i]? = aa e/\v=e.2) (fun i h=>kJ w h I S t i arr.size ep/\fa w h S t arr ep) where
 sub:=fun b hb=>by simp at hb;simp [hb]
 frame:=fun D D D C hk=>⟨by refine ae C.1 fun o T=>ac T fun V r=>?_;clear T;exact ⟨o,hk I (.head _) o V,r⟩,C.2.at fun o e=>hk S (by exact .tail _ (.head _)) o e⟩
 item:=fun i s Q E hi C G=>by
  have F:i < (fU w S arr ep).size:=by refine rl qz ?_;exact hi
  refine HU N C.1 C.2 (e:=(fU w S arr ep)[i]) (kl F) fun h' L J=>G _ h' s.toks ⟨_,kl F,rfl⟩ ⟨L,C.2.at fun o e=>J.extBut S o N e⟩ fun b o hb e=>J.extBut b o (fun h=>hb (by simp [h])) e
 done:=fun s Q E C G=>Ju hh C.1 C.2 fun h' P=>G h' s.toks fun b o hb e=>P b o (fun h=>hb (by simp [h])) e
 self:=fun D D D D C G=>Fm C.1 G
end
theorem tf:∀ a,a6 a a=false:=by
 intro F;induction F with
 |nil =>
  exact rfl
 |cons a as D =>
  unfold a6;refine rl (if_pos rfl) D
theorem nq:∀ a b,a6 a b=true->a6 b a=false:=by
 intro P;induction P with
 |nil =>
  intro F D;rcases F with _|⟨L,J⟩
  . exact nB D
  . exact rfl
 |cons N Q G =>
  intro F D;rcases F with _|⟨L,J⟩
  . exact nB D
  . unfold a6 at D ⊢;by_cases e:N=L
    . subst e;rw [if_pos rfl] at D ⊢;exact G J D
    . rw [if_neg e] at D;refine rl (if_neg (fun D=>e D.symm)) ?_;simp at D ⊢;exact nk ‹_›
theorem tN:∀ a b,a≠b->a6 a b=true\/a6 b a=true:=by
 intro P;induction P with
 |nil =>
  intro F D;rcases F with _|⟨L,J⟩
  . exact absurd rfl D
  . exact .inl rfl
 |cons N Q G =>
  intro F D;rcases F with _|⟨L,J⟩
  . exact .inr rfl
  . unfold a6;by_cases e:N=L
    . subst e;refine rl (if_pos rfl) (rl (if_pos rfl) ?_);exact G J fun e=>D (by refine rl e ?_;rfl)
    . refine rl (if_neg e) (rl (if_neg (fun D=>e D.symm)) ?_);simp;exact MX e
theorem tv:∀ a b c,a6 a b=true->a6 b c=true->a6 a c=true
 |[],[],_,h,_=>by exact nB h
 |[],_::_,[],_,h=>by exact nB h
 |[],_::_,_::_,_,_=>rfl
 |_::_,[],_,h,_=>by exact nB h
 |_::_,_::_,[],_,h=>by exact nB h
 |a::as,b::bs,c::cs,h1,h2=>by
  unfold a6 at h1 h2 ⊢;by_cases F:a=b
  . subst F;rw [if_pos rfl] at h1;by_cases D:a=c
    . subst D;rw [if_pos rfl] at h2 ⊢;exact tv as bs cs h1 h2
    . rw [if_neg D] at h2 ⊢;exact h2
  . rw [if_neg F] at h1;by_cases D:b=c
    . subst D;refine rl (if_neg F) h1
    . rw [if_neg D] at h2;simp at h1 h2;have:a≠c:=MY h1 h2
      refine rl (if_neg this) ?_;simp;exact BC h1 h2
theorem kE l:mJ l a6:=⟨fun x D y D=>nq x y,fun x D y D=>tN x y,fun x D y D z D=>tv x y z⟩
theorem zX l:mJ l (fun a b:Int=>decide (a < b)) :=
 ⟨fun x D y D h=>by simp at h ⊢;exact nk ‹_›,fun x D y D h=>by simp;exact MZ h,fun x D y D z D h1 F=>by simp at h1 F ⊢;exact BC h1 F⟩
theorem qR{α:Type}{lt:α->α->Bool}(F:∀ a b c,lt a b=true->lt b c=true->lt a c=true):∀ l,eP lt l=true->l.Pairwise fun a b=>lt a b=true
 |[],_=>.nil
 |[a],_=>by exact List.pairwise_singleton (fun a b=>lt a b=true) a
 |a::b::r,h=>by
  unfold eP at h;rw [bX] at h;have ih:=qR F (b::r) h.2;refine iX.mpr ⟨fun x D=>?_,ih⟩;rcases aL.mp D with rfl|D
  . exact h.1
  . exact F _ _ _ h.1 ((iX.mp ih).1 x D)
theorem yf{α:Type}{lt:α->α->Bool}{l:List α}(L:∀ l,mJ l lt)(ir:∀ a,lt a a=false)(h:eP lt (bV l lt)=true):l.Nodup:=by refine (gx l lt).nodup_iff.mp ((qR (fun a b c=>(L [a,b,c]).trans a (.head _) b (by exact .tail _ (.head _)) c (by exact .tail _ (.tail _ (.head _)))) _ h).imp fun {a b} D e=>?_);subst e;rw [ir] at D;exact nB D
noncomputable def ve:D->Int
 | .int i=>i
 |_=>0
noncomputable def rg:D->List Int
 | .tup l=>l.map ve
 |_=>[]
theorem HV k:rg (aj k)=k:=by show (k.map D.int).map ve=k;refine rl cU ((gt fun a F=>rfl).trans (pX _))
theorem Jv{α:Type}{mk:α->D}{un:D->α}(hm:∀ a,un (mk a)=a){ds:List D}{es:List α}(p:ds.Perm (es.map mk)):ds=(ds.map un).map mk/\(ds.map un).Perm es:=by
 constructor
 . refine rl cU (((gt fun d hd=>?_).trans (pX _)).symm);refine bB (p.mem_iff.mp hd) fun a _ F=>?_;subst F;show mk (un (mk a))=mk a;refine rl (hm ..) rfl
 . have:=p.map un;rw [cU] at this;rwa [(gt (fun a G=>hm a):es.map (un ∘ mk)=es.map id),pX] at this
theorem zo{α:Type}{mk:α->D}{un:D->α}(hm:∀ a,un (mk a)=a){ds:List D}{es:List α}(p:ds.Perm (es.map mk)){G:Prop}(k:ds=(ds.map un).map mk->(ds.map un).Perm es->G):G:=ac (Jv hm p) fun F z1=>k F z1
theorem yg:∀ l:List (List D),nX (l.map .tup)=aa l:=by
 intro G;induction G with
 |nil =>
  exact rfl
 |cons a l F =>
  exact congrArg (gc (a :: ·)) (F)
theorem zp:∀ a b:List Int,eC (a.map .int) (b.map .int)=aa (a6 a b):=by
 intro P;induction P with
 |nil =>
  intro J;rcases J with _|⟨D,G⟩
  iterate 2 exact rfl
 |cons F N L =>
  intro J;rcases J with _|⟨D,G⟩
  . exact rfl
  . show (if bf (.int F) (.int D)=true then eC (N.map .int) (G.map .int) else aa (decide (F < D)))=aa (if F=D then a6 N G else decide (F < D))
    refine rl (ma ..) (rl (L G) ?_);by_cases e:F=D
    . refine rl (if_pos (decide_eq_true e)) (rl (if_pos e) rfl)
    . refine rl (if_neg (fun h=>e (of_decide_eq_true h))) ?_;refine rl (if_neg e) rfl
theorem Gz(F:es.length < 64)(hi:eP (fun a b:Int=>decide (a < b)) (bV es fun a b=>decide (a < b))=true)(p:ds.Perm (es.map .int)):
 dJ ds=aa ((bV es fun a b=>decide (a < b)).map .int):=by
 refine zo (un:=ve) (fun a=>rfl) p fun e q=>?_
 unfold dJ
 refine rl (if_pos (by refine rl p.length_eq ?_;refine rl (aZ ..) ?_;exact F)) ?_;refine rl e (rl (tL ..) ?_)
 dsimp only
 refine rl (w7 (zX es) (yf zX (fun a=>by simp) hi) q) ?_;rfl
theorem yh{α D:Type}f(l:List α)(lt:D->D->Bool):bV (l.map f) lt=(bV l fun a b=>lt (f a) (f b)).map f:=by
 refine rl (nw ..) (rl (nw ..) ?_);have e:gS (l.map f) lt=gS l fun a b=>lt (f a) (f b):=by
  funext i j;unfold gS;refine rl cy (rl cy ?_);cases l[i]? <;> cases l[j]? <;> rfl
 refine rl e (rl (aZ ..) (rl (filterMap_map ..) rfl))
theorem t6(N:es.length < 64)(hi:eP a6 (bV es a6)=true)(T:es.all (fun k => !k.isEmpty)=true)(p:ds.Perm (es.map aj)):dJ ds=aa ((bV es a6).map aj):=by
 refine zo (un:=rg) HV p fun e q=>?_;have L:=w7 (kE es) (yf kE tf hi) q;have G:∀ k∈ds.map rg,k ≠ []:=fun k hk e=>by
  have:=bq.mp T k (q.mem_iff.mp hk);rw [e] at this;contradiction
 have hl:ds.length < 64:=by refine rl p.length_eq ?_;refine rl (aZ ..) ?_;exact N
 generalize ds.map rg=ts at e q L G;clear q p T hi N;subst e;refine rl (az L) ?_;unfold dJ;refine rl (if_pos hl) ?_;rcases ts with _|⟨k,ts⟩
 . rfl
 . have Q:cr ((k::ts).map aj)=none:=rfl;have P:nX ((k::ts).map aj)=aa ((k::ts).map fun k=>k.map .int):=by
    have:=yg ((k::ts).map fun k=>k.map D.int);rw [cU] at this;exact this
   refine rl Q (rl P ?_);dsimp only;have F:∀ k:List Int,k ≠ []->∃ i l,k.map D.int = .int i::l:=fun k hk=>by
    clear ts P Q hl G L;rcases k with _|⟨i,l⟩
    . exact absurd rfl hk
    . exact aR i _ rfl
   have S:((k::ts).map fun k=>k.map D.int).headD []=k.map D.int:=rfl;rw [if_pos]
   . refine rl (yh ..) ?_;have e3:(fun a b:List Int=>(eC (a.map .int) (b.map .int)).getD false)=a6:=by funext a b;refine rl (zp ..) ?_;rfl
     refine rl e3 (rl cU rfl)
   . refine rl (bX ..) (rl (bX ..) (⟨⟨bq.mpr fun t ht=>?_,bq.mpr fun t ht=>?_⟩,bq.mpr fun t ht=>bq.mpr fun u V=>?_⟩))
     . clear S F P Q hl G;clear L;clear es;refine bB ht fun a _ J=>?_;subst J;refine bq.mpr fun d hd=>bB hd fun i _ J=>?_;subst J;rfl
     . clear P Q hl L;refine bB ht fun a ha J=>?_;subst J;refine rl S (aM (F a (G a ha)) fun i l e=>aM (F k (G k aY)) fun j m e'=>rl e ?_);refine rl e' rfl
     . clear S;clear F P Q hl G L;refine bB ht fun a _ J=>?_;subst J;refine bB V fun b _ J=>?_;subst J;refine rl (zp ..) rfl
theorem GA{α P:Type}{R:α->P->Prop}:∀ {bs bs':List P},bs'.Perm bs->∀ {as:List α},ai R as bs->∃ J,J.Perm as/\ai R J bs':=by
 intro bs bs' p;induction p with
 |nil=>intro as h;obtain ⟨⟩:=h;exact ⟨[],.nil,.nil⟩
 | @cons x l₁ l₂ q ih =>
  intro as h;refine lk fun _ N=>?_;clear bs' bs;cases h with
  |cons h1 G =>
   refine ae (ih G) fun J D=>ac D fun a h'=>?_;clear D;refine N ⟨_,a.cons _,.cons h1 h'⟩
 |swap x y l =>
  intro as h;refine lk fun _ N=>?_;clear bs' bs;cases h with
  |cons h1 G =>
   cases G with
   |cons G b=>refine N ?_;exact ⟨_,List.Perm.swap _ _ _,.cons G (.cons h1 b)⟩
 |trans Q S F L =>
  intro as h;refine lk fun _ N=>ae (L h) fun c D=>ac D fun X h1=>?_;clear D;refine ae (F h1) fun T D=>ac D fun V G=>?_;clear D;refine N ⟨T,V.trans X,G⟩
theorem HW(G:s.TypeIs (.ref r) "set")(h:Q false s):ak (av B w) A (Builtin.List.listLengthHint (.ref r)) Q E s:=by refine af (wpAny_specialOf G PySem.F.slot_set_len.lookup ?_);generalize hid:("set.__len__" : String)=id0;wp_delta;refine rl (show splitId id0=aa ("set", "__len__") from by subst hid;decide +kernel) ?_;subst hid;refine af (pA (T := "set") (b:=true) G (by refine rl (pJ ..) ?_;kernel_rfl) ?_);refine sU (fun D=>absurd D (by decide)) (fun J=>?_);refine sU (fun J=>?_) (fun D=>absurd (by decide +kernel) D);refine af (i8 G ?_);exact au h
theorem fa.type(h:fa w s.heap S t arr ep):s.TypeIs (.ref S) "set" := by refine ae h.at' fun o D=>aE D fun F hc _=>?_;clear D;exact ⟨o,F,hc.1⟩
theorem fa.lt{h:aB}(x:fa w h S t arr ep):S < h.objs.size:=by refine ae x.at' fun o D=>ac D fun F _=>?_;clear D;exact bH F
theorem KW:KdlSrc B w "set" S S arr.size (fun i v=>∃ e,(fU w S arr ep)[i]? = aa e/\v=e.2) (fun h=>fa w h S t arr ep) where
 type:=fun s h=>h.type
 there:=fun h x=>⟨x.lt,x.lt⟩
 keep:=fun h h' r k=>r.at fun o e=>k S (.inl rfl) o e
 notList:=by decide
 notTuple:=by decide
 hint:=fun A E s Q x hq=>HW x.type hq
 iter:=fun A s hh hm=>by
  exact aR _ _ ⟨fun E Q hq=>Fk hm hq,Walks.rawSet hh _ (cz hm.lt),⟨_,b9 _ rfl,rfl,rfl⟩,hm.at fun o e=>bc _ e⟩
theorem ER{S:am}{t:SetTable}{arr:Array (Int×ar)}{ep:Nat}(j:A.handled=ab)(hm:fa w s.heap S t arr ep)(d:arr.size<=100000){R:List ar->aw->Prop}
 (h:∀ h1 tk,(∀ b o,s.heap.get? b=aa o->h1.get? b=aa o)->R ((fU w S arr ep).toList.map (·.2)) { s with heap:=h1,toks:=tk }):ak (av B w) A (kM (.ref S)) R E s:=by
 have L:=hm.lt
 unfold kM
 refine af (pH (gv Cs ?_))
 refine rl (io Ct _) ?_
 show ak _ A.in1 (nQ [] >>= fun l=>gR (.builtin "list.__iadd__" ⟨[l,.ref S],[]⟩)) _ _ s
 refine af (f8 ?_)
 refine au ⟨lI sj _,gv CA ?_⟩
 refine rl (io sj _) ?_
 show ak _ A.in1 (v7 (.ref s.heap.objs.size) (.ref S) (.ref s.heap.objs.size)) _ _ _
 have c:(s.heap.push { cls:=.type "list",data:=.seq ([]:List ar).toArray }).get? s.heap.objs.size=aa { cls:=.type "list",data:=.seq #[] 0 }:=b9 _ rfl
 refine aF (kdl_extend (A:=A) (R:=fun q s'=>q = .ok (.ret (.ref s.heap.objs.size)) /\ ∃ D P a,s'.heap.get? s.heap.objs.size=aa { cls:=.type "list",dict:=ab,data:=.seq D P,slots:=a }/\R D.toList s')
  (s:={ s with heap:=s.heap.push { cls:=.type "list",data:=.seq ([]:List ar).toArray } }) (KW (arr:=arr) (ep:=ep) (t:=t)) j (hm.at fun o e=>bc _ e) s.heap.objs.size (jE L) (jE L) (.ref s.heap.objs.size) 0 c (fun h' tk D P hk G J =>
   ⟨rfl,D,P,_,G,?_⟩) (dm d)) (fun V s' h=>?_) (fun e s' h=>?_)
 . have e:D.toList=(fU w S arr ep).toList.map (·.2):=by
    apply sy;intro i;refine rl cy ?_;by_cases hi:i < arr.size
    . have Q:i < D.size:=by refine rl J.1 ?_;exact hi
      refine ae (J.2 i D[i] (kl Q)) fun e N=>ac N fun m hv=>?_;clear N;have h1:D.toList[i]? = aa D[i]:=by simp [Q]
      have k:(fU w S arr ep).toList[i]? = aa e:=by refine rl mP ?_;exact m
      refine rl h1 (rl k (rl hv rfl))
    . refine rl (ij (by simp [J.1];exact ch.mp ‹_›)) ?_;refine rl (ij (by refine rl mQ ?_;refine rl (qz (w:=w) (S:=S) (arr:=arr) (ep:=ep)) ?_;exact ch.mp ‹_›)) ?_;rfl
   refine rl e (h h' tk (fun b o e=>hk b o (cz (bH e)) (bc _ e)))
 . clear t d hm j;cases V with
   |done f =>
    refine lk fun _ X=>ac h fun e N=>?_;clear h;refine aP N fun D P a T=>ac T fun G hq=>?_;clear N T;clear c L;injection e with e;subst e;refine X ?_;show ak _ A (load s.heap.objs.size >>= _) _ _ _;exact af (lP G (au hq))
   |again P =>
    refine ⟨h.1,jF h.2 fun r s'' hr=>?_⟩;refine lk fun _ X=>?_;clear c L;refine ac hr fun N T=>?_;clear hr;refine aP T fun D P a g=>ac g fun G hq=>?_;clear T g;subst N;refine X ?_;show ak _ A (load s.heap.objs.size >>= _) _ _ _;exact af (lP G (au hq))
 . exact absurd h.1 (by simp)
variable (B w) in
noncomputable def rN (r:List D):SP where
 P:=fun U h v=>∃ S t arr ep ds,v = .ref S/\S ∉ U/\fa w h S t arr ep/\arr.size < 64/\ai (aC B w U h) ds (arr.toList.map (·.2)) /\ ∀ ds',ds'.Perm ds->dJ ds'=aa r
 mv:=fun {U U' h h' v} St q=>by
  refine k5 q fun S t arr ep ds y=>d4 y fun e hU hm hz hr hs=>?_
  refine ae (id hm.at') fun o q0=>ac q0 fun ho _=>?_;clear q0
  exact k9 S t arr ep ds ⟨e,St.notin hU ho,hm.at fun o e=>St.keep _ _ hU e,hz,hr.imp fun ο ο q=>aC.move St _ _ q,hs⟩
theorem Fo(N:aW 4 A):eW B w H A Z wc C (.builtin "sorted") [.p (rN B w r)] (.d (.list r)):=fun U W s vs S X=>by
 refine lk fun _ T=>X.c fun g j e Q L=>?_;subst e;replace L:=L.n;subst L;refine k5 Q fun a t arr ep ds P=>d4 P fun F i hm f hr V=>?_;clear Q P;subst F;have hh:A.in1.handled=none:=N.h;refine ae (GA ((zm (w:=w) (S:=a) (arr:=arr) (ep:=ep)).map (·.2)) hr) fun G F=>ac F fun b J=>?_;clear F;refine T ?_;exact pT N S.lives J (V G b) fun R hR=>ER hh hm (by exact c6 (du ‹_› (by decide))) hR
theorem GB:∀ {l:List D} {ts:List (List Int)},nY l=aa ts->l=ts.map aj
 := by
 intro l
 induction l with
 |nil=>intro ts h;replace h:=sI h;subst h;rfl
 |cons d r ih =>
  intro ts h;refine ax h fun x F h=>ax F fun l hl F=>aG h fun xs G J=>?_;subst J;refine rl (ml hl) (rl (gz F) (rl (ih G) rfl))
theorem ai.ofMapL{α D F:Type}{R:F->D->Prop}{f:α->F}:∀ {as:List α} {bs:List D},ai R (as.map f) bs->ai (fun a b=>R (f a) b) as bs
 |[],_,h=>by replace h:=h.n;subst h;exact .nil
 |a::as,_,h=>by cases h with|cons h1 G=>exact .cons h1 G.ofMapL
theorem KX{K:Type}[DecidableEq K]{hash:K->Int}{is:K->ar->Prop}{h:aB}{S:am}{t:SetTable}{es:List K}(x:cV w hash is h S t es)(F:kO t es.length=true):
 ∃ arr ep,fa w h S t arr ep/\arr.size=es.length/\ai (f6 hash is) es arr.toList:=by
 refine cV.eK x fun o arr ep L J hd hr N G=>?_;clear x
 have D:=jd hr
 exact aR arr ep ⟨⟨⟨o,L,J,hd⟩,by refine rl D ?_;exact N,G,by refine rl D ?_;exact F⟩,D,hr⟩
set_option tactic.hygienic true in
theorem zq {K:Type} [DecidableEq K] {hash:K->Int} {J:SetTable->List K->K->Option (SetTable×List K)} {mk:K->D} {vs:List ar} {ks:List K} {r:List D} {ok:K->Bool} {lt:K->K->Bool}
 (c:aW 4 A) (L:dM U s) (i:kW B w s.heap hash (fun k v=>aC B w U s.heap (mk k) v) J) (hl:∀ {t z:SetTable} {es es':List K} {k:K},J t es k=aa (z,es')->es'.length<=es.length+1)
 (hr:ai (aC B w U s.heap) (ks.map mk) vs) (g:ks.length<=1000) (h:ql ok lt mk (gj J iD [] ks)=aa r)
 (x:∀ es:List K,es.length < 64->eP lt (bV es lt)=true->es.all ok=true->∀ ds,ds.Perm (es.map mk)->dJ ds=aa ((bV es lt).map mk)) {a:am} {n:Nat}
 (X:s.heap.get? a=aa (cL vs n)\/s.heap.get? a=aa (dY vs n)):OP B w A U s (call (.type "set") [.ref a]) (.p (rN B w r)):=by
 unfold ql at h
 split at h
 case h_2=>exact nS h
 rename_i t es G
 dsimp only at h
 split at h
 case isFalse=>exact nS h
 rename_i hc
 replace h:=sI h;subst h
 simp only [bX,decide_eq_true_eq] at hc
 refine ac hc fun P hk=>?_;clear hc;refine ac P fun l hi=>?_;clear P;refine ac l fun y N=>?_;clear l
 have T:ai (fun k v=>aC B w U s.heap (mk k) v) ks vs.toArray.toList:=ai.ofMapL hr
 have m:A.units+5 < cLine:=by have:=c.u;exact M0 this
 have S:∀ (h':aB) (tk:Nat),cV w hash (fun k v=>aC B w U s.heap (mk k) v) h' s.heap.objs.size t es->(∀ b o,b < s.heap.objs.size->s.heap.get? b=aa o->h'.get? b=aa o) ->
  bb s { s with heap:=h',toks:=tk }/\aT B w U h' (.p (rN B w ((bV es lt).map mk))) (.ref s.heap.objs.size):=fun h' tk V F=>by
  refine aM (KX V y) fun arr ep P=>aE P fun Q f d=>?_;clear P
  have j:bb s { s with heap:=h',toks:=tk }:=⟨h',tk,rfl,fun b o e=>F b o (bH e) e⟩
  refine ⟨j,s.heap.objs.size,t,arr,ep,es.map mk,rfl,fun hm=>?_,Q,by exact Na N f,?_,x es N hi hk⟩
  . refine ae (L _ hm) fun o e=>absurd (bH e) (i6 _)
  . exact ai.mapL (ai.mapR (d.imp fun k e q=>aC.move (cu j) _ _ q.2))
 rcases X with X|X
 . exact Ec i hl (items:=vs.toArray) (ks:=ks) c.h m ⟨_,X,rfl,n,rfl⟩ T (BD g) G fun h' tk V F=>S h' tk V F
 . exact D1 i hl (items:=vs.toArray) (ks:=ks) c.h m ⟨_,X,rfl,n,rfl⟩ T (BD g) G fun h' tk V F=>S h' tk V F
set_option tactic.hygienic true in
theorem OL (f:aW 4 A) (hd:d = .list l\/d = .tup l) (h:jO l=aa r) (P:XW C x d):eW B w H A Z wc C (.type "set") [x] (.p (rN B w r)):=fun U W s vs S j=>by
 refine j.c fun t u o V T=>?_;subst o;replace T:=T.n;subst T;obtain ⟨a,us,n,rfl,F,G⟩:∃ a us n,_=dw a/\(s.heap.get? a=aa (cL us n)\/s.heap.get? a=aa (dY us n))/\ai (aC B w U s.heap) l us:=by
  rcases hd with rfl|rfl
  . refine aP (P.rep S V) fun a vs n b=>aE b fun e F G=>?_;clear b;exact ck a vs n ⟨e,.inl F,G⟩
  . rw [P.plain (by simp) (by simp) (by simp) (by simp)] at V;refine gD V fun a vs n e _ F G=>ck a vs n ⟨e,.inr F,G⟩
 unfold jO at h;split at h;case isFalse=>exact nS h
 rename_i J;split at h
 . rename_i is N;have e:=gz N;clear N hd P;clear d;subst e;rw [aZ] at J;have g:(fun k v=>aC B w U s.heap (.int k) v)=ie:=by funext k v;exact propext l8
   refine zq f S.lives (mk:=.int) (ks:=is) (by refine rl g ?_;exact Gw _) HS G J h (fun es h1 Q y ds p=>Gz h1 Q p) F
 . split at h
   . rename_i ts L;have e:=GB L;clear L hd P;subst e;rw [aZ] at J;have i:kW B w s.heap bD (fun k v=>aC B w U s.heap (aj k) v) (e9 bD) :=
      Gx (is:=fun k v=>aC B w U s.heap (aj k) v) fun k v q=>AT q
     exact zq f S.lives (mk:=aj) (ks:=ts) i HT G J h (fun es h1 Q m ds p=>t6 h1 Q m p) F
   . clear J G F hd;clear n;exact nS h
section
theorem OM(P:aW 4 A)(N:∃ o,H.get? fP=aa o){a c:D}(L:p ≠ .sortedset)(h:hX p a=aa c)(J:XW C x a):eW B w H A Z wc C (AV p) [x] (.d c):=by
 cases p with
 |len =>
  clear L N P;refine aG h fun n F Q=>?_;subst Q;clear h;cases a with
  |tup l=>refine bL F fun G F=>?_;replace F:=sI F;subst F;refine rl J.tup ?_;exact FQ G
  |list l=>refine bL F fun G F=>?_;replace F:=sI F;subst F;exact E8 J G
  |_=>exact nS F
 |tuple =>
  clear L N P;cases a with
  |list l=>refine bL h fun G h=>?_;replace h:=sI h;subst h;exact E9 J G
  |tup l=>replace h:=sI h;subst h;refine rl J.tup ?_;exact F9
  |_=>exact nS h
 |list =>
  refine ax h fun l hl h=>?_;clear L N P;obtain rfl:=ml hl;refine bL h fun G h=>?_;clear hl;replace h:=sI h;subst h;refine rl J.tup (Fa G)
 |sorted =>
  refine ax h fun l hl h=>?_;clear L N;refine aG h fun r hr Q=>?_;subst Q;exact HO P hl hr J
 |sortedset=>exact absurd rfl L
 |sum=>refine ax h fun l hl h=>?_;obtain rfl:=OA hl;exact OF P h J
 |dict =>
  clear L;cases a with
  |idict l=>refine bL h fun G h=>?_;replace h:=sI h;subst h;exact KL N J G
  |list l=>exact Ff P N h J
  |_=>exact nS h
theorem uz(J:WD B w H mg mb gl Φ R)(D:Mt M O Z C){x c:X}(hb:bad f=false)(hk:M.names.lookup f=aa .globalImplicit)(P:gl.lookup f=aa g)(hv:mn g=aa v)
 (L:bn e=false) (Q:EV B w H A Z wc C e x) (hc:eW B w H A Z wc C v [x] c) (S:(∃ id,v = .builtin id) \/ ∃ T,v = .type T):EV B w H A Z wc C (.Call (.Name f q) [e] [] p) c:=by
 have F:Z.kindOf f=aa .globalImplicit:=by delta eH;refine rl D.names ?_;exact hk
 refine lk fun _ N=>?_
 rcases S with ⟨id,rfl⟩|⟨T,rfl⟩
 . refine N ?_
   exact y6 J.G (J.bi f g _ P hv) F (f5 hb) (gi Q hM (cO L)) hc (cO L) rfl
 . refine N (Hk J.G (J.bi f g _ P hv) F (f5 hb) (gi Q hM (cO L)) hc (cO L) rfl)
theorem l4(L:WD B w H mg mb gl Φ R)(hb:bad f=false)(hk:M.names.lookup f=aa .globalImplicit)(Q:gl.lookup f=aa g)(hv:mn g=aa (AV pr))(J:pr ≠ .sortedset)
 (P:bn e=false) (hr:pr = .tuple->AL e'=true) (h:aD B w H Φ R M e e'):aD B w H Φ R M (.Call (.Name f q) [e] [] p) (.prim pr e') :=
 aD.gen rfl rfl fun A Z C O n S D c hc=>by
  refine lk fun _ T=>?_;rcases n with _|n
  . clear h hr P J hv Q hk hb;exact nS hc
  . have G:uX pr e'=none:=by
     obtain ⟨⟩:=pr<;>first|rfl|skip
     obtain ⟨⟩:=e'<;>first|rfl|exact nB (hr rfl)
    have F:AQ (an Φ n O) O pr e' (uX pr e')=aa c:=hc;rw [G] at F;refine ax F fun a ha F=>ae ((h A Z C O n S D).2.2.1 _ ha) fun x N=>ac N fun h1 V=>?_;clear N;refine T (uz L D hb hk Q hv P h1 (OM (S.mono (f9 4 R)) L.sm J F V) ?_);obtain ⟨⟩:=pr<;>first|exact .inl ⟨_,rfl⟩|exact .inr ⟨_,rfl⟩|exact absurd rfl J
theorem Ed(S:WD B w H mg mb gl Φ R)(hb:bad f=false)(hk:M.names.lookup f=aa .globalImplicit)(V:gl.lookup f=aa .sorted)
 (J:bad r=false) (L:M.names.lookup r=aa .globalImplicit) (G:gl.lookup r=aa .set) (T:bn b=false) (h:aD B w H Φ R M b b') :
 aD B w H Φ R M (.Call (.Name f q) [.Call (.Name r d) [b] [] e] [] p) (.prim .sortedset b') :=
 aD.gen rfl rfl fun A Z C O n g D c hc=>by
  refine lk fun _ Q=>?_;rcases n with _|n
  . clear h T G L J V hk hb;exact nS hc
  . refine ax (show (bS (an Φ n O) O b').bind (hX .sortedset)=aa c from hc) fun a ha F=>ae ((h A Z C O n g D).2.2.1 _ ha) fun x P=>ac P fun h1 X=>?_;clear P;clear ha h;obtain ⟨l,hd,i,hr,rfl⟩:∃ l,(a = .list l\/a = .tup l) /\ ∃ r,jO l=aa r/\c = .list r:=by
     refine lk fun _ Q=>ax F fun l hl F=>?_;clear X h1 T G L J;clear x;clear V hk hb S;refine aG F fun r hr P=>?_;subst P;clear F;clear F;cases a with
     |tup l=>replace hl:=sI hl;subst hl;refine Q ?_;exact ⟨_,.inr rfl,r,hr,rfl⟩
     |list l=>replace hl:=sI hl;subst hl;refine Q ?_;exact ⟨_,.inl rfl,r,hr,rfl⟩
     |_=>exact nS hl
    have N:=g.mono (f9 4 R);refine Q (uz S D hb hk V rfl rfl (uz (p:=e) (q:=d) S D J L G (v:=.type "set") rfl T h1 (OL N hd hr X) (.inr ⟨_,rfl⟩)) (Fo N) (.inl ⟨_,rfl⟩))
section
variable {f:Cx->Expr->Option Ex} {r:aq} {q p:aK} {a b:Expr} {G:Gl} {e':Ex}
theorem KY(J:WD B w H mg mb gl Φ R)(ih:∀ {e:Expr} {e':Ex},f M e=aa e'->aD B w H Φ R M e e')(g:GC gl M r [a] G)(h:ov gl f M a G=aa e'):aD B w H Φ R M (.Call (.Name r q) [a] [] p) e':=by
 have L:bn a=false:=hF g.s a (.head _);have N:=g.g;cases G with
 |len=>refine aG h fun x F D=>?_;subst D;exact l4 (pr:=.len) J g.b g.k N rfl (by simp) L (by simp) (ih F)
 |list=>refine aG h fun x F D=>?_;subst D;exact l4 (pr:=.list) J g.b g.k N rfl (by simp) L (by simp) (ih F)
 |sum=>refine aG h fun x F D=>?_;subst D;exact l4 (pr:=.sum) J g.b g.k N rfl (by simp) L (by simp) (ih F)
 |dict=>refine aG h fun x F D=>?_;subst D;exact l4 (pr:=.dict) J g.b g.k N rfl (by simp) L (by simp) (ih F)
 |range=>refine aG h fun x F D=>?_;subst D;exact Fb J g.b g.k N L (ih F)
 |tuple =>
  have h:uS f M a (gC nI (gJ gl M a))=aa e':=h;cases hc:gC nI (gJ gl M a) with
  |some b =>
   rw [hc] at h;clear L;refine aG h fun x F D=>?_;subst D;refine xR hc fun G P hr=>?_;clear h;clear h;refine xz P fun T Q S D k=>?_;subst D;obtain ⟨⟩:=G<;>first|(first|exact nB hr|obtain ⟨⟩:=hr)|skip
   exact Ep J g.b g.k N k.b k.k k.g (hF k.s _ (.head _)) (ih F)
  |none =>
   rw [hc] at h;refine ax h fun x F h=>bJ h fun hr h=>?_;replace h:=sI h;subst h;exact l4 (pr:=.tuple) J g.b g.k N rfl (by simp) L (fun V=>hr) (ih F)
 |sorted =>
  have h:uT f M a (gC nV (gJ gl M a))=aa e':=h;cases hc:gC nV (gJ gl M a) with
  |some b =>
   rw [hc] at h;clear L;refine aG h fun x F D=>?_;subst D;refine xR hc fun G P hr=>?_;clear h;clear h;refine xz P fun T Q S D k=>?_;subst D;obtain ⟨⟩:=G<;>first|(first|exact nB hr|obtain ⟨⟩:=hr)|skip
   exact Ed J g.b g.k N k.b k.k k.g (hF k.s _ (.head _)) (ih F)
  |none =>
   rw [hc] at h;refine aG h fun x F D=>?_;subst D;exact l4 (pr:=.sorted) J g.b g.k N rfl (by simp) L (by simp) (ih F)
 |_=>exact nS h
theorem KZ(L:WD B w H mg mb gl Φ R)(ih:∀ {e:Expr} {e':Ex},f M e=aa e'->aD B w H Φ R M e e')(g:GC gl M r [a,b] G)(h:rG f M a b G=aa e'):aD B w H Φ R M (.Call (.Name r q) [a,b] [] p) e':=by
 have h1:bn a=false:=hF g.s a (.head _);have Q:bn b=false:=hF g.s b (by exact .tail _ (.head _));have N:=g.g;refine lk fun _ P=>?_;cases G with
 |range=>refine ax h fun x D h=>?_;refine aG h fun y J F=>?_;subst F;refine P ?_;exact Fc L g.b g.k N h1 Q (ih D) (ih J)
 |zip=>refine ax h fun x D h=>?_;refine aG h fun y J F=>?_;subst F;refine P ?_;exact Jl L g.b g.k N h1 Q (ih D) (ih J)
 |_=>exact nS h
end
def lq(B:bm)(w:bh)(H:aB)(Φ:Nat->List D->Option D)(R:Nat)(f:Cx->Expr->Option Ex):Prop:=∀ (M:Cx) (e:Expr) (e':Ex),f M e=aa e'->aD B w H Φ R M e e'
theorem GD{f:Cx->Expr->Option Ex}(ih:lq B w H Φ R f){ks:List (Option Expr)}{a:List Ex}(h:ai (fun k b=>k.bind (f M)=aa b) ks a):∃ es,ks=es.map aa/\ai (aD B w H Φ R M) es a:=by
 induction h with
 |nil=>exact ⟨[],rfl,.nil⟩
 | @cons k b ks bs h1 _ D =>
  refine ae D fun es F=>ac F fun G J=>?_;clear D F;subst G;rcases k with _|k
  . exact nS h1
  . exact ⟨k::es,rfl,.cons (ih _ _ _ h1) J⟩
theorem yi{f:Cx->Expr->Option Ex}(ih:lq B w H Φ R f){ks:List (Option Expr)}{a:List Ex}(h:ai (fun k b=>k.bind (f M)=aa b) ks a){G:Prop}(J:∀ es,ks=es.map aa->ai (aD B w H Φ R M) es a->G):G:=ae (GD ih h) fun F D=>ac D fun z1 z2=>J F z1 z2
section
variable {f:Cx->Expr->Option Ex} {e':Ex}
theorem dR(ih:lq B w H Φ R f){es:List Expr}{es':List Ex}(h:a8 (f M) es=aa es'):ai (aD B w H Φ R M) es es':=(g9 h).imp fun a b D=>ih _ a b D
theorem iho(ih:lq B w H Φ R f){o:Option Expr}{D:Option Ex}(h:lb (f M) o=aa D):(o=ab/\D=ab) \/ ∃ x x',o=aa x/\D=aa x'/\aD B w H Φ R M x x':=by
 rcases o with _|l
 . replace h:=sI h;subst h;exact .inl ⟨rfl,rfl⟩
 . refine aG h fun x F G=>?_;subst G;exact .inr ⟨_,_,rfl,rfl,ih _ _ _ F⟩
end
theorem K0(L:WD B w H mg mb gl Φ R){f:Cx->Expr->Option Ex}(ih:lq B w H Φ R f)(h:vV gl f M e=aa e'):aD B w H Φ R M e e' :=
 Aq (P:=aD B w H Φ R M) I8 (qo rfl rfl .none (fun n O d h=>by obtain ⟨⟩:=n<;>(first|exact nS h|replace h:=sI h;subst h);rfl) fun A Z wc C=>qJ) (qo rfl rfl (.bool _) (fun n O d h=>by obtain ⟨⟩:=n<;>(first|exact nS h|replace h:=sI h;subst h);rfl) fun A Z wc C=>IN) (qo rfl rfl (.int _) (fun n O d h=>by obtain ⟨⟩:=n<;>(first|exact nS h|replace h:=sI h;subst h);rfl) fun A Z wc C=>uJ) (qo rfl rfl (.str _) (fun n O d h=>by obtain ⟨⟩:=n<;>(first|exact nS h|replace h:=sI h;subst h);rfl) fun A Z wc C=>Kl) (fun F h=>I9 F (dR ih h)) (fun F h=>HB F (dR ih h)) (fun h1 D=>yi ih (g9 h1) fun es S h=>by subst S;exact HF L.sm h (dR ih D)) (fun h1 D=>Ja (ih _ _ _ h1) (ih _ _ _ D)) (fun h1=>Jb (ih _ _ _ h1)) (fun h1=>Jf (ih _ _ _ h1)) (fun G h1 D=>Je G (ih _ _ _ h1) (ih _ _ _ D)) (fun G h1 D J=>Gb G (ih _ _ _ h1) (ih _ _ _ D) (ih _ _ _ J)) (fun h=>Jh (dR ih h)) (fun h=>KP (dR ih h)) (fun G h1 D=>Ji (ih _ _ _ G) (ih _ _ _ h1) (ih _ _ _ D)) (fun G h1 D=>Jd (ih _ _ _ G) (iho ih h1) (iho ih D)) (fun F G h1=>Jc F (ih _ _ _ G) (ih _ _ _ h1)) (fun F N h1 D J h4=>Gd N F (ih _ _ _ h1) D (dR ih J) (ih _ _ _ h4)) (fun F Q N h1 D J h4 T V X hd=>Ge N F Q (ih _ _ _ h1) D (dR ih J) (ih _ _ _ h4) (ih _ _ _ T) V (dR ih X) hd) (fun g h=>HC L g.b g.k g.g g.s (List.cons_ne_nil _ _) (dR ih h)) (KY L fun h=>ih _ _ _ h) (KZ L fun h=>ih _ _ _ h) (fun c hl h1 D hd hk a=>Jm c hl h1 D (ih _ _ _ hd) (ih _ _ _ hk) (ih _ _ _ a)) h
theorem cQ(F:WD B w H mg mb gl Φ R):∀ m M e e',cE gl m M e=aa e'->aD B w H Φ R M e e':=by
 intro G;induction G with
 |zero =>
  intro _ _ _ h;exact nomatch (show ab=aa _ from h)
 |succ m D =>
  intro _ _ _ h;exact K0 F D h
end
structure bg (M:Cx) (O:Sg) (Z:aS) (C:MS) (ρ:Nat->am):Prop where
 names:Z.scope.names=M.names
 fk:Z.scope.kind = .function
 var:∀ x i,M.sl.lookup x=aa i->∀ v,ah O i=aa v->match v with
  | .d d=>(x,X.d d)∈C.vars
  | .o d=>(x,X.o (ρ i))∈C.vars
 own:∀ i d,ah O i=aa (.o d)->∃ ob,(ρ i,ob)∈C.own/\cv ob=aa d/\ρ i∈C.wr
 ro:∀ i j d e,ah O i=aa (.o d)->ah O j=aa (.o e)->ρ i=ρ j->i=j
 inj:∀ x y i,M.sl.lookup x=aa i->M.sl.lookup y=aa i->x=y
 lt:∀ x i,M.sl.lookup x=aa i->i < M.off
 ltS:∀ i v,ah O i=aa v->i < M.off
theorem bg.ownK{M:Cx}{O:Sg}{Z:aS}{C:MS}{ρ:Nat->am}(F:bg M O Z C ρ)i d(e:ah O i=aa (.o d)){G:Prop}(k:∀ ob,(ρ i,ob)∈C.own->cv ob=aa d->ρ i∈C.wr->G):G:=ae (F.own i d e) fun ob J=>aE J fun h1 N L=>k ob h1 N L
theorem bg.mt(D:bg M O Z C ρ):Mt M O Z C where
 names:=D.names
 fk:=D.fk
 var:=fun x i h v hv=>by
  have:=D.var x i h v hv;rcases v with d|d
  . exact this
  . refine D.ownK i d hv fun ob h1 F _=>aR (ρ i) ob ⟨this,h1,F⟩
 inj:=D.inj
 lt:=D.lt
 ltS:=D.ltS
def bW(B:bm)(w:bh)(H:aB)(Z:aS)(M:Cx)(C:MS)(U W:List am)(s:aw)(I:Sg)(fl:Fl)(f:gT)(s':aw):Prop :=
 ∃ U' W' st' D,aO U W s U' W' s'/\ay B w H Z M.wc U' W' st' s'/\bg M I Z st' D/\(∀ p∈st'.own,(∃ q∈C.own,q.1=p.1)\/s.heap.get? p.1=ab) /\
  match fl with
  | .next=>f = .next
  | .ret d=>∃ v,f = .ret v/\aC B w U' s'.heap d v
theorem bW.eK{B:bm}{w:bh}{H:aB}{Z:aS}{M:Cx}{C:MS}{U W:List am}{s:aw}{I:Sg}{fl:Fl}{f:gT}{s':aw}(T:bW B w H Z M C U W s I fl f s'){G:Prop}(L:∀ U' W' st' D,aO U W s U' W' s'->ay B w H Z M.wc U' W' st' s'->bg M I Z st' D->(∀ p∈st'.own,(∃ q∈C.own,q.1=p.1)\/s.heap.get? p.1=ab)->(match (generalizing:=false) fl with | .next=>f = .next | .ret d=>∃ v,f = .ret v/\aC B w U' s'.heap d v)->G):G:=dK T fun P z1 z2 X N=>cX N fun Q V S F J=>L P z1 z2 X Q V S F J
theorem bW.iK{B:bm}{w:bh}{H:aB}{Z:aS}{M:Cx}{C:MS}{U W:List am}{s:aw}{I:Sg}{fl:Fl}{f:gT}{s':aw}:∀ U' W' st' D,aO U W s U' W' s'->ay B w H Z M.wc U' W' st' s'->bg M I Z st' D->(∀ p∈st'.own,(∃ q∈C.own,q.1=p.1)\/s.heap.get? p.1=ab)->(match (generalizing:=false) fl with | .next=>f = .next | .ret d=>∃ v,f = .ret v/\aC B w U' s'.heap d v)->bW B w H Z M C U W s I fl f s':=fun J z1 z2 Q L P N F G=>⟨J,z1,z2,Q,L,P,N,F,G⟩
theorem bW.after{D:Sg}{fl:Fl}(S:dM U s)(T:aO U W s U' W' s')(Q:∀ p∈st'.own,(∃ q∈C.own,q.1=p.1)\/s.heap.get? p.1=ab)
 (P:bW B w H Z M st' U' W' s' D fl f s''):bW B w H Z M C U W s D fl f s'':=by
 refine lk fun _ F=>?_
 refine bW.eK P fun U2 c G J a V N L b=>?_;clear P
 refine F ?_
 refine bW.iK U2 c G J (T.trans a S) V N (fun p X=>?_) b
 refine lk fun _ F=>?_
 rcases L p X with ⟨q,hq,e⟩|e
 . rcases Q q hq with ⟨r,hr,e'⟩|e'
   . refine F (.inl ⟨r,hr,e'.trans e⟩)
   . refine F (.inr (e ▸ e'))
 . refine F (.inr (T.dead e))
theorem bg.set(F:bg M O Z C ρ){i:Nat}(h:M.sl.lookup x=aa i)d:bg M (ag O i (.d d)) Z (C.set x (.d d)) ρ where
 names:=F.names
 fk:=F.fk
 inj:=F.inj
 lt:=F.lt
 ltS:=fun j v hv=>by
  rw [br] at hv;split at hv
  . rename_i e;refine rl e (F.lt x i h)
  . exact F.ltS j v hv
 var:=fun y j G v hv=>by
  rw [br] at hv;split at hv
  . rename_i e;subst e;replace hv:=sI hv;subst hv;refine rl (F.inj y x j G h) ix
  . rename_i e;have J:y≠x:=fun q=>e (by rw [q,h] at G;replace G:=sI G;subst G;rfl)
    have:=F.var y j G v hv;rcases v with d'|d'
    iterate 2 exact fS this J
 own:=fun j d' G=>by
  rw [br] at G;split at G
  . replace G:=sI G;injection G
  . exact F.own j d' G
 ro:=fun j k d' e G hk L=>by
  rw [br] at G hk;split at G
  . replace G:=sI G;injection G
  . split at hk
    . replace hk:=sI hk;injection hk
    . exact F.ro j k d' e G hk L
theorem bg.setL(q:ai (fun x i=>a5 M x=aa i) xs is):∀ {ds:List D} {O:Sg} {C:MS},bg M O Z C ρ->is.length=ds.length ->
 bg M ((is.zip ds).foldl (fun s p=>ag s p.1 (.d p.2)) O) Z (C.setL (xs.zip (ds.map .d))) ρ:=by
 induction q with
 |nil=>intro ds O C F _;exact F
 | @cons x i xs is a _ ih =>
  intro ds O C F h;rcases ds with _|⟨d,ds⟩
  . contradiction
  . exact ih (F.set (cg a).2.2 d) (nm h)
set_option tactic.hygienic true in
theorem zY (S:ay B w H Z M.wc U W C s) (D:bg M O Z C ρ) i:∃ U' W' st',aO U W s U' W' s/\ay B w H Z M.wc U' W' st' s/\bg M (dO O i) Z st' ρ/\(∀ p∈st'.own,(∃ q∈C.own,q.1=p.1)\/s.heap.get? p.1=ab):=by
 unfold dO;split
 . rename_i d hd;refine D.ownK i d hd fun ob h1 J L=>?_;refine ck _ _ _ ⟨Ei (S.wr _ L),S.freeze h1 J,?_,fun p N=>.inl ⟨p,(b3.mp N).1,rfl⟩⟩;exact {
    names:=D.names
    fk:=D.fk
    inj:=D.inj
    lt:=D.lt
    ltS:=fun j v hv=>by
     rw [br] at hv;split at hv
     . rename_i e;refine rl e (D.ltS i _ hd)
     . exact D.ltS j v hv
    var:=fun y j F v hv=>by
     rw [br] at hv;split at hv
     . rename_i e;clear L J h1 S;subst e;clear ob;replace hv:=sI hv;subst hv
       have:=D.var y j F _ hd;exact dj.mpr ⟨_,this,by show (y,(if ρ j=ρ j then X.d d else X.o (ρ j)))=_;refine rl (if_pos rfl) ?_;rfl⟩
     . rename_i e
       have:=D.var y j F v hv;clear L J h1 S;clear ob;rcases v with d'|d'
       . exact dj.mpr ⟨_,this,rfl⟩
       . exact dj.mpr ⟨_,this,by show (y,(if ρ j=ρ i then X.d d else X.o (ρ j)))=_;refine rl (if_neg (fun q=>e (D.ro j i _ _ hv hd q))) ?_;rfl⟩
    own:=fun j d' F=>by
     rw [br] at F;split at F
     . clear hd D L J h1;replace F:=sI F;injection F
     . rename_i e;refine D.ownK j d' F fun ob' h4 P Q=>?_;have G:ρ j≠ρ i:=fun q=>e (D.ro j i _ _ F hd q);exact ⟨ob',b3.mpr ⟨h4,by exact decide_eq_true G⟩,P,b3.mpr ⟨Q,by exact decide_eq_true G⟩⟩
    ro:=fun j k d' e F hk T=>by
     rw [br] at F hk;split at F
     . clear hd D;replace F:=sI F;injection F
     . split at hk
       . clear hd D;replace hk:=sI hk;injection hk
       . exact D.ro j k d' e F hk T }
 . exact ck U W C ⟨.refl,S,D,fun p N=>.inl ⟨p,N,rfl⟩⟩
theorem HX(S:ay B w H Z M.wc U W C s)(D:bg M O Z C ρ)i{G:Prop}(k:∀ U' W' st',aO U W s U' W' s->ay B w H Z M.wc U' W' st' s->bg M (dO O i) Z st' ρ->(∀ p∈st'.own,(∃ q∈C.own,q.1=p.1)\/s.heap.get? p.1=ab)->G):G:=aP (zY S D i) fun J z1 z2 L=>bR L fun Q N P F=>k J z1 z2 Q N P F
theorem K1:∀ is {O:Sg} {C:MS} {U W:List am},ay B w H Z M.wc U W C s->bg M O Z C ρ ->
 ∃ U' W' st',aO U W s U' W' s/\ay B w H Z M.wc U' W' st' s/\bg M (a0 O is) Z st' ρ/\(∀ p∈st'.own,(∃ q∈C.own,q.1=p.1)\/s.heap.get? p.1=ab):=by
 intro g
 induction g with
 |nil =>
  intro O C U W S D;exact ⟨U,W,C,.refl,S,D,fun p J=>.inl ⟨p,J,rfl⟩⟩
 |cons i is N =>
  intro O C U W S D;refine lk fun _ G=>aP (zY S D i) fun j k a F=>bR F fun V c T d=>?_;clear F;refine aP (N c T) fun U2 f L F=>bR F fun b X Q P=>?_;clear F;refine G (ck U2 f L ⟨V.trans b S.live,X,Q,fun p J=>?_⟩);refine lk fun _ G=>?_;rcases P p J with ⟨q,hq,e⟩|e
  . rcases d q hq with ⟨r,hr,e'⟩|e'
    . refine G (.inl ⟨r,hr,e'.trans e⟩)
    . refine G (.inr (e ▸ e'))
  . refine G (.inr e)
theorem kK is{O:Sg}{C:MS}{U W:List am}(J:ay B w H Z M.wc U W C s)(N:bg M O Z C ρ){G:Prop}(k:∀ U' W' st',aO U W s U' W' s->ay B w H Z M.wc U' W' st' s->bg M (a0 O is) Z st' ρ->(∀ p∈st'.own,(∃ q∈C.own,q.1=p.1)\/s.heap.get? p.1=ab)->G):G:=aP (K1 is J N) fun F z1 z2 D=>bR D fun S L Q P=>k F z1 z2 S L Q P
theorem Fp(T:WD B w H mg mb gl Φ R){Y:Scope}(h:cE gl m M (.ListComp elt gens Y p)=aa e')
 {n:Nat} (V:aW (R+4) A) (F:Mt M O Z C) (hd:an Φ n O e'=aa d):∃ zs,d = .list zs/\gp B w H A Z M.wc C elt gens Y p zs:=by
 rcases m with _|m
 . exact nomatch (show ab=aa e' from h)
 . have ih:lq B w H Φ R (cE gl m):=cQ T m
   clear T;revert hd;exact tV (P:=fun gens e'=>an Φ n O e'=aa d->∃ zs,d = .list zs/\gp B w H A Z M.wc C elt gens Y p zs) h (fun _ _ _ _ _ _ _ J N h1 L Q h4 hd=>At N J (ih _ _ _ h1) L (dR ih Q) (ih _ _ _ h4) V F hd) fun _ _ _ _ _ _ _ _ _ _ _ _ _ J S N h1 L Q h4 X a b G hd=>Au N J S (ih _ _ _ h1) L (dR ih Q) (ih _ _ _ h4) (ih _ _ _ X) a (dR ih b) G V F hd
theorem tC(J:WD B w H mg mb gl Φ R){Y:Scope}(h:cE gl m M (.ListComp elt gens Y p)=aa e')
 {n:Nat} (N:aW (R+4) A) (F:Mt M O Z C) (hd:an Φ n O e'=aa d) {G:Prop} (k:∀ zs,d = .list zs->gp B w H A Z M.wc C elt gens Y p zs->G):G:=by obtain ⟨L,z1,z2⟩:=Fp J h N F hd;exact k L z1 z2
theorem HY(S:ay B w H Z M.wc U W C s){Y:Scope}(P:gp B w H A Z M.wc C elt gens Y pos zs)(hy:eX Z M.wc y){Q:ar->aw->Prop}
 (hq:∀ U' s',aO U W s U' W s'->ay B w H Z M.wc U' W (C.set y (.d (.list zs))) s'->Q .none s') :
 ∃ i₁ J tgt ifs,gens=⟨tgt,i₁,ifs,0⟩::J/\ak (av B w) A (xn (.ListComp elt gens Y pos) Y Z pos' (nQ []) false (b5 i₁ Z) (aa (gL (.Name y py) Z))) Q (fun l l=>False) s:=by
 refine gp.eK P fun tgt i₁ ifs J stc wcn xs ao V hi F j hl=>?_;clear P;subst V
 refine h8 i₁ J tgt ifs ⟨rfl,?_⟩
 refine qk hi S F j hl fun s' D L e=>?_
 refine ae e.ns fun m t=>?_
 refine aM e.li fun vs n V=>ac V fun X hr=>?_;clear V
 have alive:∀ {b:am},(∃ o,s.heap.get? b=aa o)->b≠L:=fun g q=>by refine ae g fun o hb=>?_;clear g;exact by rw [q,e.cn] at hb;exact nS hb
 have S':ay B w H Z M.wc ([L]++U) W C s':=S.addU e.k (fun b hb=>by refine rl (aV.mp hb) ?_;exact e.cn) fun b hb=>by refine rl (aV.mp hb) ?_;refine aP t fun o _ _ V=>ac V fun X _=>?_;clear t V;exact ⟨o,X⟩
 have v:D ∉ [L]++U:=fun hm=>by
  rcases bC.mp hm with hm|hm
  . exact e.ne (aV.mp hm)
  . refine S.liveK D hm fun o hb=>?_;rw [e.dn] at hb;exact nS hb
 have f:∀ u ∈ [L]++U,u∈D::L::U:=fun u N=>by
  rcases bC.mp N with N|N
  . refine rl (aV.mp N) (.tail _ (.head _))
  . exact aN _ ‹_›
 have i:L ∉ W:=fun hm=>alive (S.live L (S.sub L hm)) rfl;refine mX (ft S' hy (jQ.mpr ⟨D,vs,n,rfl,v,X,jI (hr.imp fun l l q=>q.move (bj.less f))⟩) fun s'' G r=>?_);refine ⟨m,t.at' fun o X=>G.keep L o i X,fun h' hs=>?_⟩;have hk:∀ b o,b ∉ [L]->s''.heap.get? b=aa o->h'.get? b=aa o:=fun b o hb e=>hs.extBut b o (fun q=>hb (by simp [q])) e;have S3:=r.dropU (T:=[L]) (h:=h') (tk:=s''.toks) (fun a ha=>im _ ha) hk (fun a ha=>by refine rl (aV.mp ha) ?_;exact i)
  (fun x c hc hm=>by refine ac (S.cellU x c hc) fun N _=>?_;exact alive (S.live c N) (aV.mp hm)) (fun p hp hm=>alive (S.live _ (S.own p hp).1) (aV.mp hm))
 refine hq _ _ ?_ S3;have k':=cj e.k;exact {
  same:=by
   refine aM e.k fun h1 t1 V=>ac V fun e1 _=>?_;clear V;refine aM G.same fun h2 t2 e2=>aR h' s''.toks (by refine rl e2 ?_;refine rl e1 ?_;rfl)
  uu:=fun u N hw=>gA.mpr ⟨G.uu u (fi _ N) hw,fun hm=>alive (S.live u N) (aV.mp hm)⟩
  un:=fun u N=>by
   refine ac (gA.mp N) fun h1 h2=>?_;rcases bC.mp h1 with h1|h1
   . exact absurd h1 h2
   . exact .inl h1
  al:=fun a o ha=>by
   refine ae (G.al a o (k' a o ha)) fun o' z=>⟨o',hk a o' (fun hm=>alive ⟨o,ha⟩ (aV.mp hm)) z⟩
  wn:=fun l h=>.inl h
  keep:=fun b o hb X=>hk b o (fun hm=>alive ⟨o,X⟩ (aV.mp hm)) (G.keep b o hb (k' b o X)) }
def cK(B:bm)(w:bh)(H:aB)(Φ:Nat->List D->Option D)(R:Nat)(M:Cx)(c:St)(F:ej):Prop :=
 ∀ (A:bo) (Z:aS) (n:Nat) (O I:Sg) (fl:Fl) (C:MS) (ρ:Nat->am),aW (R+4) A->bg M O Z C ρ->b8 Φ n O c=aa (I,fl) ->
  ∀ (U W:List am) (s:aw),ay B w H Z M.wc U W C s->ak (av B w) A (exec F Z) (bW B w H Z M C U W s I fl) (fun G G=>False) s
theorem bg.storable(D:bg M O Z C ρ){i:Nat}(h:a5 M x=aa i):eX Z M.wc x:=D.mt.storable h
theorem t7{e:Expr}(h:∀ a b c d,e ≠ .ListComp a b c d)(F:∀ a b c d,e ≠ .SetComp a b c d)(D:∀ a b c d f,e ≠ .DictComp a b c d f):lT e t l Z=pure false:=by obtain ⟨⟩:=e<;>first|rfl|exact absurd rfl (h _ _ _ _)|exact absurd rfl (F _ _ _ _)|exact absurd rfl (D _ _ _ _ _)
theorem Fq{Y:Scope}:∃ b,lT (.ListComp elt gens Y p) (aa (.Name x q)) l Z=pure b:=⟨_,rfl⟩
theorem xY{Y:Scope}{G:Prop}(k:∀ b,lT (.ListComp elt gens Y p) (aa (.Name x q)) l Z=pure b->G):G:=ae Fq fun D z1=>k D z1
theorem tO{c:Scope}:cE gl m M (.SetComp a b c d)≠aa e':=fun h=>by obtain ⟨⟩:=m<;>exact nS h
theorem tD{c:Scope}:cE gl m M (.DictComp a f b c d)≠aa e':=fun h=>by obtain ⟨⟩:=m<;>exact nS h
theorem K2(Wd:WD B w H mg mb gl Φ R){i:Nat}(z:a5 M x=aa i)(t:cE gl m M e=aa e'):cK B w H Φ R M (.asg i (.val e')) (.Assign [.Name x p] e pos):=by
 intro A Z n O I fl C ρ hA D hs U W s S;rcases n with _|n
 . clear S D hA;clear ρ;exact nS hs
 . refine aG hs fun d hd q0=>?_;clear hs;obtain ⟨⟩:=q0;refine kK (aX n e') S D fun U1 o N T1 r G O1=>?_;have k:∀ {U2:List am} {s2:aw},aO U1 o s U2 o s2->ay B w H Z M.wc U2 o (N.set x (.d d)) s2->bW B w H Z M C U W s (ag (a0 O (aX n e')) i (.d d)) .next .next s2:=fun T2 S2 =>
    bW.after S.live T1 O1 ⟨_,_,_,ρ,T2,S2,G.set (cg z).2.2 d,fun p hp=>.inl ⟨p,hp,rfl⟩,rfl⟩
   have plain:lT e (aa (.Name x p)) pos.line Z=pure false->ak (av B w) A (exec (.Assign [.Name x p] e pos) Z) (bW B w H Z M C U W s (ag (a0 O (aX n e')) i (.d d)) .next) (fun j j=>False) s:=fun u=>by
    refine lB (((cQ Wd m M e e' t A Z N _ n hA G.mt).1 d hd U1 o s r).mono fun v s₁ F J=>?_) u;exact ft (r.keeps F) (G.storable z) J fun s₂ V X=>k ((aO.of_keeps F).trans V r.live) X
   by_cases hc:∃ a b c d,e = .ListComp a b c d
   . clear O1 T1 S D;refine dK hc fun elt gens Y q g=>?_;clear hc;subst g;refine xY (Z:=Z) (elt:=elt) (gens:=gens) (Y:=Y) (p:=q) (q:=p) (x:=x) (l:=pos.line) fun b hb=>?_;rcases b with _|_
     . exact plain hb
     . clear plain;refine tC Wd t hA G.mt hd fun zs g P=>?_;subst g;clear hd;refine dK (HY (pos':=firstIterPos gens q) (py:=p) (y:=x) r P (G.storable z) (Q:=fun j s'=>bW B w H Z M C U W s (ag (a0 O (aX n e')) i (.d (.list zs))) .next .next s') fun U' s' T S'=>k T S') fun i₁ c10 tgt ifs q2=>ac q2 fun g hu=>?_;clear q2;subst g;refine rl (CP _ _ _ _ hb) (af (iu (af ?_)));exact af (aF hu (fun j s' hq=>au (au hq)) fun j j e=>e)
   . exact plain (t7 (fun a b c d L=>hc ⟨a,b,c,d,L⟩) (fun a b c d L=>by subst L;exact tO t) (fun a b c d f L=>by subst L;exact tD t))
theorem Fs(L:dM U s)(r:ai (aC B w U s.heap) ds vs)o:ai (aC B w (s.heap.objs.size::U) (s.heap.push o)) ds vs :=
 r.imp fun G G q=>q.move ⟨fun u F=>by
  rcases aL.mp F with rfl|F
  . exact .inr (eV s)
  . exact .inl F,fun b J G e=>bc _ e⟩
theorem ui(h:ES B w H A Z wc C pos es (ds.map .d))(G:ds.length<=100000):jz B w H A Z wc C (.List es pos) (.list ds):=fun U W s S=>by
 refine wpAny_List_spliced (aF (h U W s S) (fun vs s' q=>?_) fun F F e=>e);have r:=jI q.2;refine ⟨by refine rl (az r.length) ?_;exact dm G,cZ.after q.1 ⟨gE s' _,s'.heap.objs.size,_,rfl,eV s',rfl,vs,0,b9 _ rfl,nv (Fs (S.keeps q.1).lives r _)⟩⟩
theorem Ey(N:l.length<=100000):∀ U W s v,ay B w H Z wc U W C s->aT B w U s.heap (.d (.tup l)) v->ak (av B w) A (call (.type "list") [v]) (cZ B w U s (.list l)) (fun G G=>False) s:=fun U W s v S V=>by
 refine gD V fun a vs n L _ T J=>?_;subst L;refine call_list_seq a (.inr rfl) T rfl rfl (fun h' P hk Q=>?_) (by refine rl cx ?_;refine rl (az J.length) ?_;exact dm N);refine cZ.iK ⟨h',s.toks,rfl,hk⟩ s.heap.objs.size _ rfl (eV s) rfl ⟨vs,P,Q,nv (J.imp fun d v q=>q.move ⟨fun u F=>by
  rcases aL.mp F with rfl|F
  . exact .inr (eV s)
  . exact .inl F,fun b o G e=>hk b o e⟩)⟩
theorem D3(c:∃ o,H.get? fP=aa o)(V:XW C x (.idict l))(P:l.length<=100000):
 ∀ U W s v,ay B w H Z wc U W C s->aT B w U s.heap x v->ak (av B w) A (call (.type "dict") [v]) (cZ B w U s (.idict l)) (fun T T=>False) s:=fun U W s v S f=>by
 refine ae (V.rep S f) fun a J=>aE J fun N D G=>?_;clear J;refine ae G fun kvs F=>ac F fun hd L=>?_;clear G F;subst N
 refine kt_call_dict D hd (by refine rl (az L.length) ?_;exact dm P) fun h' d Q=>?_
 exact cZ.iK ⟨h',s.toks,rfl,fun b o e=>Q.extBut b o (cz (bH e)) (bc _ e)⟩ s.heap.objs.size _ rfl (eV s) rfl ⟨tu c S.base (cH _),kvs,d,L⟩
theorem yJ(G:GW mg mb H)(N:BN mg mb f (.type T))(hk:Z.kindOf f=aa .globalImplicit)(hd:(f == ("__debug__" : aq))=false)(J:bn e=false)
 (P:EV B w H A Z wc C e x) (h:∀ U W s v,ay B w H Z wc U W C s->aT B w U s.heap x v->ak (av B w) A (call (.type T) [v]) (cZ B w U s d) (fun F F=>False) s) :
 jz B w H A Z wc C (.Call (.Name f q) [e] [] p) d:=fun U W s S=>by
 refine Call_ (ki S.ek hk (lw (by refine rl S.eg ?_;exact G.g.keeps S.base) N.1 (by refine rl S.eb ?_;exact G.b.keeps S.base) N.2
  (mW (aF (gi (pos:=p) P hM (cO J) U W s S) (fun vs s' q=>?_) fun F F e=>e) (cO J) rfl)) hd)
 refine lk fun _ Q=>ac q fun k r=>?_;clear q;cases r with
 |cons V L =>
  clear P J hd hk N G p;replace L:=L.n;subst L;refine Q (aF (h U W s' _ (S.keeps k) V) (fun v s₁ q=>cZ.after k q) fun F F e=>e)
theorem Jw(V:WD B w H mg mb gl Φ R)(ih:∀ (M:Cx) (e:Expr) (e':Ex),cE gl m M e=aa e'->aD B w H Φ R M e e'){n:Nat}(T:aW (R+4) A)(F:Mt M O Z C)
 (g:GC gl M r [a] G) (h:ov gl (cE gl m) M a G=aa e') (S:kQ e'=true) (hd:an Φ (n+1) O e'=aa d):jz B w H A Z M.wc C (.Call (.Name r q) [a] [] p) d:=by
 have Q:bn a=false:=hF g.s a (.head _)
 have hk:Z.kindOf r=aa .globalImplicit:=by unfold eH;refine rl F.names ?_;exact g.k
 have L:=g.g
 have no:∀ {o:Option Ex} {f:Ex->Ex},o.map f=aa e'->(∀ x,kQ (f x)=false)->False:=fun h t=>by
  refine lk fun _ X=>?_;clear L hk Q hd g F T;clear d n;refine aG h fun x _ J=>?_;subst J;rw [t] at S;exact nB S
 cases G with
 |list =>
  refine lk fun _ X=>?_;clear no S;refine aG h fun i ha J=>?_;subst J;refine ax (show (bS (an Φ n O) O i).bind (hX .list)=aa d from hd) fun x N hd=>ae ((ih _ _ _ ha A Z C O n T F).2.2.1 _ N) fun y J=>ac J fun h1 P=>?_;clear J;clear F T ih;rcases x with _|_|_|_|l|_|_|_|_
  . clear P h1 N ha L hk Q;clear y;exact nS hd
  . clear P h1 N ha L hk Q;clear y;exact nS hd
  . clear P h1 N ha L hk Q;clear y;exact nS hd
  . clear P h1 N ha L hk Q;clear y;exact nS hd
  . refine bL hd fun c hd=>?_;clear N ha h;replace hd:=sI hd;subst hd;rw [P.plain (by simp) (by simp) (by simp) (by simp)] at h1;refine X (yJ V.G (V.bi r _ _ L rfl) hk (f5 g.b) Q h1 (Ey c))
  . clear P h1 N ha L hk;clear y;exact nS hd
  . clear P h1 N ha L hk;clear y;exact nS hd
  . clear P h1 N ha L hk;clear y;exact nS hd
  . clear P h1 N ha L hk;clear y;exact nS hd
 |dict =>
  refine lk fun _ X=>?_;clear no S;refine aG h fun i ha J=>?_;subst J;refine ax (show (bS (an Φ n O) O i).bind (hX .dict)=aa d from hd) fun x N hd=>ae ((ih _ _ _ ha A Z C O n T F).2.2.1 _ N) fun y J=>ac J fun h1 P=>?_;clear J;refine X (yJ V.G (V.bi r _ _ L rfl) hk (f5 g.b) Q h1 ?_);clear h1 N ha L hk Q;cases x with
  |idict l=>refine bL hd fun c hd=>?_;replace hd:=sI hd;subst hd;exact D3 V.sm P c
  |list l=>exact xD (T.mono (f9 4 R)) V.sm hd P
  |_=>exact nS hd
 |tuple =>
  have h:uS (cE gl m) M a (gC nI (gJ gl M a))=aa e':=h;generalize gC nI (gJ gl M a)=o at h;refine lk fun _ X=>?_;clear L hk Q g F T;rcases o with _|b
  . refine ax h fun x _ h=>bJ h fun _ h=>?_;replace h:=sI h;subst h;exact nB S
  . clear hd no;refine aG h fun x _ J=>?_;subst J;exact nB S
 |sorted =>
  have h:uT (cE gl m) M a (gC nV (gJ gl M a))=aa e':=h;generalize gC nV (gJ gl M a)=o at h;refine lk fun _ X=>?_;clear L hk Q g F T;rcases o with _|b
  . clear hd no;refine aG h fun x _ J=>?_;subst J;exact nB S
  . clear hd no;refine aG h fun x _ J=>?_;subst J;exact nB S
 |len=>exact (no h fun j=>rfl).elim
 |sum=>exact (no h fun j=>rfl).elim
 |range=>exact (no h fun j=>rfl).elim
 |_=>exact nS h
set_option tactic.hygienic true in
theorem Aw (N:WD B w H mg mb gl Φ R) (h:cE gl m M e=aa e') (J:kQ e'=true) {n:Nat} (Q:aW (R+4) A) (F:Mt M O Z C) (hd:an Φ n O e'=aa d):jz B w H A Z M.wc C e d:=by
 rcases m with _|m
 . exact nomatch (show ab=aa e' from h)
 rcases n with _|n
 . clear m F Q J h N;exact nS hd
 . have ih:lq B w H Φ R (cE gl m):=cQ N m;exact Aq (P:=fun e e'=>∀ d,kQ e'=true->an Φ (n+1) O e'=aa d->jz B w H A Z M.wc C e d)
    (fun _ _ _ _ J=>nB J) (fun _ J=>nB J) (fun _ J=>nB J) (fun _ J=>nB J) (fun _ J=>nB J) (fun _ _ _ J=>nB J) (fun a h _ _ hd=>ax hd fun ds X hd=>qb hd fun S L=>by subst L;exact ui (rf (hF a) (md Q F (dR ih h) X)) S) (fun h1 b _ _ hd=>bL hd fun S hd=>ax hd fun x T hd=>ax hd fun y V hd=>yi ih (g9 h1) fun es L c=>by subst L;exact zg N.sm Q F c (dR ih b) S T V hd) (fun _ _ _ J=>nB J) (fun _ _ J=>nB J) (fun _ _ J=>nB J) (fun _ _ _ _ J=>nB J) (fun _ _ _ _ _ J=>nB J) (fun _ _ J=>nB J) (fun _ _ J=>nB J) (fun _ _ _ _ J=>nB J) (fun _ _ _ _ J=>nB J) (fun _ _ _ _ J=>nB J) (fun _ _ _ _ _ _ _ J=>nB J) (fun _ _ _ _ _ _ _ _ _ _ _ _ J=>nB J) (fun _ _ _ J=>nB J) (fun g h _ J hd=>Jw N ih Q F g h J hd) (fun {_ _ _ _ _ G _} g h _ J hd=>by
    clear hd
    cases G with
    |range=>refine ax h fun x T h=>?_;refine aG h fun y V L=>?_;subst L;exact nB J
    |zip=>refine ax h fun x T h=>?_;refine aG h fun y V L=>?_;subst L;exact nB J
    |_=>exact nS h) (fun _ _ _ _ _ _ _ _ J=>nB J) h d J hd
theorem bg.more(D:bg M O Z C ρ)a ob:bg M O Z (C.addO a ob) ρ where
 names:=D.names
 fk:=D.fk
 inj:=D.inj
 lt:=D.lt
 ltS:=D.ltS
 var:=D.var
 ro:=D.ro
 own:=fun i d h=>by refine D.ownK i d h fun ob' h1 G F=>?_;exact ⟨ob',aN _ h1,G,aN _ F⟩
theorem bg.setO(F:bg M O Z C ρ){i:Nat}(h:M.sl.lookup x=aa i)(hm:(a,ob)∈C.own)(Q:a∈C.wr)(hd:cv ob=aa d)(P:∀ j e,ah O j=aa (.o e)->ρ j≠a):
 bg M (ag O i (.o d)) Z (C.set x (.o a)) (fun j=>if j=i then a else ρ j) where
 names:=F.names
 fk:=F.fk
 inj:=F.inj
 lt:=F.lt
 ltS:=fun j v hv=>by
  rw [br] at hv;split at hv
  . rename_i e;refine rl e (F.lt x i h)
  . exact F.ltS j v hv
 var:=fun y j G v hv=>by
  rw [br] at hv;split at hv
  . rename_i e;subst e;replace hv:=sI hv;subst hv;refine rl (F.inj y x j G h) ?_;show (x,X.o (if j=j then a else ρ j))∈_
    refine rl (if_pos rfl) ix
  . rename_i e;have N:y≠x:=fun q=>e (by rw [q,h] at G;replace G:=sI G;subst G;rfl)
    have:=F.var y j G v hv;rcases v with d'|d'
    . exact fS this N
    . show (y,X.o (if j=i then a else ρ j))∈_
      refine rl (if_neg e) (fS this N)
 own:=fun j d' G=>by
  rw [br] at G;split at G
  . rename_i e;obtain ⟨⟩:=G;subst e;exact ⟨ob,by refine rl (if_pos rfl) ?_;exact hm,hd,by refine rl (if_pos rfl) ?_;exact Q⟩
  . rename_i e;refine F.ownK j d' G fun ob' h1 J S=>⟨ob',by refine rl (if_neg e) ?_;exact h1,J,by refine rl (if_neg e) ?_;exact S⟩
 ro:=fun j k d' e G hk L=>by
  rw [br] at G hk;by_cases h1:j=i<;>by_cases J:k=i
  . refine rl h1 (rl J rfl)
  . rw [if_neg J] at hk;rw [if_pos h1,if_neg J] at L;exact absurd L.symm (P k _ hk)
  . rw [if_neg h1] at G;rw [if_neg h1,if_pos J] at L;exact absurd L (P j _ G)
  . rw [if_neg h1] at G;rw [if_neg J] at hk;rw [if_neg h1,if_neg J] at L;exact F.ro j k d' e G hk L
def js(B:bm)(w:bh)(U:List am)(s:aw):V->ar->aw->Prop
 | .d d,v,s'=>bb s s'/\aC B w U s'.heap d v
 | .o d,v,s'=>cZ B w U s d v s'
theorem Ax(G:WD B w H mg mb gl Φ R)(h:cE gl m M e=aa e'){n:Nat}(J:aW (R+4) A)(D:Mt M O Z C)(hv:jy Φ n O (ic e')=aa v):
 ∀ U W s,ay B w H Z M.wc U W C s->ak (av B w) A (b5 e Z) (js B w U s v) (fun L L=>False) s:=by
 intro U W s S
 unfold ic at hv
 split at hv
 . rename_i N
   refine aG hv fun d hd F=>?_;subst F;exact Aw G h N J D hd U W s S
 . refine aG hv fun d hd F=>?_;subst F;exact (cQ G m M e e' h A Z C O n J D).1 d hd U W s S
theorem js.own{D:ar}(r:js B w U s v D s')(S:ay B w H Z wc U W C s):
 ∃ U' W' st' y,aO U W s U' W' s'/\ay B w H Z wc U' W' st' s'/\aT B w U' s'.heap y D/\(∀ p∈st'.own,(∃ q∈C.own,q.1=p.1)\/s.heap.get? p.1=ab) /\
  ((∃ d,v = .d d/\y = .d d/\st'=C) \/ ∃ d a ob,v = .o d/\y = .o a/\st'=C.addO a ob/\cv ob=aa d/\s.heap.get? a=ab):=by
 rcases v with d|d
 . refine ac r ?_;clear r;intro k r;exact h8 U W C (.d d) ⟨.of_keeps k,S.keeps k,r,fun p F=>.inl ⟨p,F,rfl⟩,.inl ⟨d,rfl,rfl,rfl⟩⟩
 . refine ac r fun k L=>?_;clear r;refine aM L fun a ob J=>bR J fun P G N r=>?_;clear L J;subst P;have ha:∃ o,s'.heap.get? a=aa o:=by
    revert r;clear N G k S;clear d;rcases ob with l|l|l|l
    . rintro ⟨vs,n,h,_⟩;exact ⟨_,h⟩
    . intro r;exact pO r
    . intro r;exact tp r
    . intro r;exact tq r
   exact h8 (a::U) (a::W) (C.addO a ob) (.o a) ⟨yu G k,S.own_new G k r ha,rfl,fun p F=>by
    rcases aL.mp F with rfl|F
    . exact .inr G
    . exact .inl ⟨p,F,rfl⟩,.inr ⟨d,a,ob,rfl,rfl,rfl,iy N,G⟩⟩
theorem js.ownK{D:ar}(r:js B w U s v D s')(S:ay B w H Z wc U W C s){G:Prop}(k:∀ U' W' st' y,aO U W s U' W' s'->ay B w H Z wc U' W' st' s'->aT B w U' s'.heap y D->(∀ p∈st'.own,(∃ q∈C.own,q.1=p.1)\/s.heap.get? p.1=ab)->(((∃ d,v = .d d/\y = .d d/\st'=C) \/ ∃ d a ob,v = .o d/\y = .o a/\st'=C.addO a ob/\cv ob=aa d/\s.heap.get? a=ab))->G):G:=dK (js.own r S) fun N z1 z2 X L=>cX L fun P T Q F J=>k N z1 z2 X P T Q F J
theorem bg.fresh(D:bg M O Z C ρ)(S:ay B w H Z wc U W C s)(h:s.heap.get? a=ab):∀ j e,ah O j=aa (.o e)->ρ j≠a:=fun j e J q=>by
 refine ae (D.own j e J) fun ob G=>ac G fun h1 _=>?_;clear G;refine S.liveK _ (S.own _ h1).1 fun o F=>?_;rw [q,h] at F;exact nS F
theorem K3(Wd:WD B w H mg mb gl Φ R){i:Nat}(q:a5 M x=aa i)(F:cE gl m M e=aa e')(t:kQ e'=true):cK B w H Φ R M (.asg i (.own e')) (.Assign [.Name x p] e pos):=by
 intro A Z n O I fl C ρ N D j U W s S;refine lk fun _ g=>?_;rcases n with _|n
 . clear S D N;clear ρ;exact nS j
 . refine aG j fun d hd q0=>?_;clear j;obtain ⟨⟩:=q0;refine kK (aX n e') S D fun k u st1 T1 Q G O1=>?_;have X:lT e (aa (.Name x p)) pos.line Z=pure false:=by
    refine t7 (fun a b c d T=>?_) (fun a b c d T=>by subst T;exact tO F) (fun a b c d f T=>by subst T;exact tD F);clear O1 Q T1 S;clear D;clear q;subst T;refine tC Wd F N G.mt hd fun zs _ _=>?_;clear N;rcases m with _|m
    . clear G u k hd;exact nS F
    . clear G u k hd;revert t;exact tV (P:=fun _ e'=>kQ e'=true->False) F (fun _ _ _ _ _ _ _ _ _ _ _ _ _ h=>nB h) fun _ _ _ _ _ _ _ _ _ _ _ _ _ _ _ _ _ _ _ _ _ _ _ _ h=>nB h
   refine g (lB (aF (Aw Wd F t N G.mt hd k u s Q) (fun v s₁ r=>?_) fun ο ο e=>e) X);refine lk fun _ g=>js.ownK (v:=.o d) r Q fun U2 W2 st2 y T2 S2 ry z hy=>?_;clear t F;clear hd D N;rcases hy with ⟨_,e,_⟩|⟨d',a,ob,e,rfl,rfl,l,hn⟩
   . clear z ry S2 T2;exact Mine.V.noConfusion e
   . clear m;obtain ⟨⟩:=e;refine g ?_;refine ft S2 (G.storable q) ry fun s₃ J L=>bW.after S.live T1 O1 (bW.after Q.live T2 z ⟨_,_,_,_,J,L,(G.more a ob).setO (cg q).2.2 (.head _) (.head _) l (G.fresh Q hn),fun p hp=>.inl ⟨p,hp,rfl⟩,rfl⟩)
theorem K4(q:WD B w H mg mb gl Φ R)(T:a8 (gg M) ts=aa is)(c:jV e=false)(he:cE gl m M e=aa e'):
 cK B w H Φ R M (.unp is e') (.Assign [.Tuple ts k p] e pos):=by
 intro A Z n O I fl C ρ o D G U W s S
 rcases n with _|n
 . exact nS G
 . refine ax G fun ds hd G=>?_
   refine ax hd fun d hd r=>?_;obtain rfl:=tX r;refine bL G fun hlen G=>?_;obtain ⟨⟩:=G;refine kK (aX n e') S D fun u W1 a t f g O1=>tZ (g9 T) fun xs h1 Q=>?_;have V:xs.length=ds.length:=by refine rl Q.length ?_;refine rl hlen ?_;rfl
   have P:swapsWithSole [.Tuple ts k p] e pos.line Z=pure false:=by obtain ⟨⟩:=e<;>rfl
   have X:tn [.Tuple ts k p] e Z=pure none:=by obtain ⟨⟩:=e<;>first|rfl|exact nT c
   refine Assign_Tuple (((cQ q m M e e' he A Z a _ n o g.mt).1 _ hd u W1 s f).mono fun v s₁ F J=>?_) P X;refine yw o.h (f.keeps F) (.tup h1 V) (fun b hb=>?_) J fun s₂ L N=>?_
   . refine j9 hb fun j x=>ln x fun z _=>Q.getK z fun i y G=>g.storable G
   . exact bW.after S.live t O1 ⟨_,_,_,ρ,(aO.of_keeps F).trans L f.live,N,bg.setL Q g hlen.symm,fun p l=>.inl ⟨p,by rw [lW] at l;exact l,rfl⟩,rfl⟩
theorem Ft{Z:aS}{D F:Expr}(h1:bn D=false)(Q:bn F=false)(G:x≠y)(hc:([D,F].all (xo 8) || !([D,F].all (xa 8)))=true):
 tn [.Tuple [.Name x p₁,.Name y p₂] k p] (.Tuple [D,F] k₂ q) Z=pure ab\/tn [.Tuple [.Name x p₁,.Name y p₂] k p] (.Tuple [D,F] k₂ q) Z=pure (aa [x,y]):=by
 delta tn
 dsimp only
 split
 . exact .inl rfl
 . split
   . exact .inl rfl
   . split
     . exact .inl rfl
     . rename_i L;split
       . exact .inl rfl
       . rename_i S;split
         . rename_i J;rw [lF] at hc;refine lk fun _ P=>lk fun _ P=>?_;clear L G Q h1 k₂ k q p;rcases hc with hc|hc
           . exact absurd hc S
           . rw [J] at hc;exact nB hc
         . refine .inr ?_;congr 2;simp only [lF,not_or,bne_iff_ne,ne_eq,Decidable.not_not] at L;have hl:=L.1;have N:(gc (fun x:Expr=>x.pos.line) [Expr.Name x p₁,Expr.Name y p₂].head?).getD 0=p₁.line:=rfl;rw [N] at hl ⊢;by_cases c1:Z.kindOf x=aa .local<;>by_cases c2:Z.kindOf y=aa .local<;>by_cases c3:p₂.line=p₁.line<;>simp [List.filterMap,c1,c2,c3] at hl ⊢
theorem bg.ext(D:bg M O Z C ρ)(h:∀ l,ah O l=ah I l):bg M I Z C ρ where
 names:=D.names
 fk:=D.fk
 inj:=D.inj
 lt:=D.lt
 ltS:=fun i v hv=>D.ltS i v (by refine rl (h ..) ?_;exact hv)
 var:=fun x i F v hv=>D.var x i F v (by refine rl (h ..) ?_;exact hv)
 own:=fun i d hd=>D.own i d (by refine rl (h ..) ?_;exact hd)
 ro:=fun i j d e hi G=>D.ro i j d e (by refine rl (h ..) ?_;exact hi) (by refine rl (h ..) ?_;exact G)
def ll(O:Sg)(ρ:Nat->am)(C:MS)(v:V)(y:X):Prop :=
 (∃ d,v = .d d/\y = .d d) \/ ∃ d a ob,v = .o d/\y = .o a/\(a,ob)∈C.own/\a∈C.wr/\cv ob=aa d /\ ∀ j e,ah O j=aa (.o e)->ρ j≠a
noncomputable def B9(ρ:Nat->am)(i:Nat):X->Nat->am
 | .o a=>fun j=>if j=i then a else ρ j
 |_=>ρ
theorem bg.put(D:bg M O Z C ρ){i:Nat}(h:M.sl.lookup x=aa i)(k:ll O ρ C v y):bg M (ag O i v) Z (C.set x y) (B9 ρ i y):=by
 rcases k with ⟨d,rfl,rfl⟩|⟨d,a,ob,rfl,rfl,h1,G,F,h4⟩
 . exact D.set h d
 . exact D.setO h h1 G F h4
theorem ll.next{i:Nat}(k:ll O ρ C v y)(k':ll O ρ C v' y')(F:∀ a,y = .o a->y' ≠ .o a):ll (ag O i v) (B9 ρ i y) (C.set x y) v' y':=by
 rcases k' with h|⟨d',N,ob',rfl,rfl,h1,J,L,h4⟩
 . exact .inl h
 . refine .inr ⟨d',N,ob',rfl,rfl,h1,J,L,fun j e D=>?_⟩;rw [br] at D;clear L J h1 x;rcases k with ⟨d,rfl,rfl⟩|⟨d,a,ob,rfl,rfl,_⟩
   . split at D
     . clear h4 ob' d';replace D:=sI D;injection D
     . exact h4 j e D
   . show (if j=i then a else ρ j)≠N
     split at D
     . rename_i G;refine rl (if_pos G) ?_;rintro rfl;exact F _ rfl rfl
     . rename_i G;refine rl (if_neg G) (h4 j e D)
theorem HZ(Wd:WD B w H mg mb gl Φ R){m n:Nat}{f c:Ex}(hA:aW (R+4) A)(D:bg M O Z C ρ)(z:cE gl m M b=aa f)(a10:cE gl m M e₂=aa c)(s₁:bn b=false)(s₂:bn e₂=false)
 (P:jy Φ n O (ic f)=aa u) (N:jy Φ n O (ic c)=aa y) (S:ay B w H Z M.wc U W C s) :
 ak (av B w) A (b5 (.Tuple [b,e₂] k q) Z) (fun t s'=>∃ U' W' st' L F a J G,t = .ref a/\s'.heap.IsTuple a #[J,G]/\aO U W s U' W' s'/\ay B w H Z M.wc U' W' st' s'/\aT B w U' s'.heap L J/\aT B w U' s'.heap F G /\
  (∀ p∈st'.own,(∃ q∈C.own,q.1=p.1)\/s.heap.get? p.1=ab)/\bg M O Z st' ρ/\ll O ρ st' u L/\ll O ρ st' y F /\ ∀ a,L = .o a->F ≠ .o a) (fun j j=>False) s:=by
 refine wpAny_Tuple_spliced (sF (aF (Ax Wd z hA D.mt P U W s S) (fun J t₁ c11=>?_) fun j j e=>e) (cO s₁));refine js.ownK c11 S fun U1 W1 st1 L T1 l T x v=>?_;have S1':ay B w H Z M.wc U1 W1 C t₁:=by
  clear x T T1 S N P s₂;rcases v with ⟨_,_,_,rfl⟩|⟨_,_,_,_,_,rfl,_⟩
  . exact l
  . exact l.dropO
 refine sF (aF (Ax Wd a10 hA D.mt N U1 W1 t₁ S1') (fun G t₂ d11=>?_) fun j j e=>e) (cO s₂);refine js.ownK d11 l fun U2 W2 i F T2 S2 Q O2 k2=>wZ ⟨by refine rl ja ?_;simp,?_⟩;have kp:bb t₂ { t₂ with heap:=t₂.heap.push { cls:=.type "tuple",data:=.seq ([J,G]:List ar).toArray } }:=gE _ _;have M1:bg M O Z st1 ρ:=by
  clear k2 O2 Q S2 T2 x T l;clear F i W2 U2;rcases v with ⟨_,_,_,rfl⟩|⟨_,_,_,_,_,rfl,_⟩
  . exact D
  . exact D.more _ _
 have M2:bg M O Z i ρ:=by
  clear v O2 Q S2 T2 x T l;clear W2 U2;rcases k2 with ⟨_,_,_,rfl⟩|⟨_,_,_,_,_,rfl,_⟩
  . exact M1
  . exact M1.more _ _
 have g:(∀ p∈st1.own,p∈i.own) /\ ∀ a∈st1.wr,a∈i.wr:=by
  clear v O2 Q S2 T2 x T l;clear W2 U2;rcases k2 with ⟨_,_,_,rfl⟩|⟨_,_,_,_,_,rfl,_⟩
  . exact ⟨fun j h=>h,fun j h=>h⟩
  . exact ⟨fun j h=>aN _ h,fun j h=>aN _ h⟩
 refine Pz U2 W2 i L F t₂.heap.objs.size J G ⟨rfl,⟨_,b9 _ rfl,rfl,0,rfl⟩,(T1.trans T2 S.live).trans (aO.of_keeps kp) S.live,S2.keeps kp,(T.move (T2.stab l.sub)).move (cu kp),Q.move (cu kp),fun p hp=>?_,M2,?_,?_,?_⟩
 . rcases O2 p hp with ⟨q,hq,e⟩|e
   . rcases x q hq with ⟨r,hr,e'⟩|e'
     . exact .inl ⟨r,hr,e'.trans e⟩
     . exact .inr (by refine rl (az e) ?_;exact e')
   . exact .inr (T1.dead e)
 . clear q x O2 k2 Q S2;rcases v with ⟨d,rfl,rfl,_⟩|⟨d,a,ob,rfl,rfl,e,hob,hn⟩
   . exact .inl ⟨d,rfl,rfl⟩
   . exact .inr ⟨d,a,ob,rfl,rfl,g.1 _ (by refine rl e ?_;exact aY),g.2 _ (by refine rl e ?_;exact aY),hob,D.fresh S hn⟩
 . clear v q x O2 Q S2;rcases k2 with ⟨d,rfl,rfl,_⟩|⟨d,a,ob,rfl,rfl,e,hob,hn⟩
   . exact .inl ⟨d,rfl,rfl⟩
   . exact .inr ⟨d,a,ob,rfl,rfl,by refine rl e ?_;exact aY,by refine rl e ?_;exact aY,hob,D.fresh S1' hn⟩
 . rintro a rfl e;clear q x O2 Q S2;clear T2 T T1;clear g M2 M1 kp S1';clear S N P s₂ s₁ a10 z D hA k;rcases k2 with ⟨d,_,rfl,_⟩|⟨d,a',ob,_,rfl,_,_,hn⟩
   . clear v;exact Mine.X.noConfusion e
   . clear W2 U2;obtain ⟨⟩:=e;rcases v with ⟨d,_,e,_⟩|⟨d,a',ob',_,e,e2,_,_⟩
     . clear hn;exact Mine.X.noConfusion e
     . obtain ⟨⟩:=e;refine ac (l.own (a,ob') (by refine rl e2 ?_;exact aY)) fun hu _=>?_;refine l.liveK a hu fun o ho=>?_;rw [hn] at ho;exact nS ho
set_option maxHeartbeats 1000000 in
theorem Jx (Wd:WD B w H mg mb gl Φ R) {i j k k₂:Nat} (s₁:bn F=false) (s₂:bn e₂=false) (hc:([F,e₂].all (xo 8) || !([F,e₂].all (xa 8)))=true)
 (P:gg M t₁=aa i) (a10:gg M t₂=aa j) (f10:cE gl m M F=aa N) (h10:cE gl m M e₂=aa Q) :
 cK B w H Φ R M (.asg2 i j (ic N) (ic Q)) (.Assign [.Tuple [t₁,t₂] k p] (.Tuple [F,e₂] k₂ q) pos):=by
 intro A Z n O I fl C ρ hA D d U W s S
 refine lk fun _ κ=>?_
 rcases n with _|n
 . clear S D hA
   clear ρ;exact nS d
 . refine ac (iPn d) fun V d=>ax d fun v₁ J d=>aG d fun v₂ G q0=>?_;clear d;obtain ⟨⟩:=q0;clear d;refine sX P fun x p₁ q1 hx=>?_;subst q1;clear d;clear P;refine sX a10 fun y p₂ q1 hy=>?_;subst q1;have L:=(cg hx).2.2;have z:=(cg hy).2.2;have hxy:x≠y:=fun e=>V (by rw [e,z] at L;replace L:=sI L;subst L;rfl);have TV:=HZ (k:=k₂) (q:=q) Wd hA D f10 h10 s₁ s₂ J G S;rcases Ft (p₁:=p₁) (p₂:=p₂) (p:=p) (k:=k) (k₂:=k₂) (q:=q) (Z:=Z) s₁ s₂ hxy hc with u|u
   . refine κ (Assign_Tuple (aF TV (fun t s1 r=>?_) fun ο ο e=>e) rfl u);refine lk fun _ κ=>?_;clear G J V;obtain ⟨U1,W1,st1,e10,a11,a,g,f,rfl,hT,T1,X,r1,r2,O1,v,k1,k2,hne⟩:=r;refine κ (Dp hA.h hT rfl rfl fun h' T=>?_);have c:bb s1 { s1 with heap:=h' }:=⟨h',s1.toks,rfl,fun b o e=>T b o (cz (bH e)) e⟩;refine o9 (mX (ft (X.keeps c) (v.storable hx) (r1.move (cu c)) fun s2 T2 S2=>?_));refine o9 (mX (ft S2 (v.storable hy) ((r2.move (cu c)).move (T2.stab X.sub)) fun s3 T3 S3=>wg ?_));exact bW.iK _ _ _ _ (T1.trans (((aO.of_keeps c).trans T2 X.live).trans T3 X.live) S.live) S3 ((v.put L k1).put z (k1.next k2 hne)) (fun p hp=>O1 p hp) rfl
   . refine κ (Assign_Tuple_swapped (aF TV (fun t s1 r=>?_) fun ο ο e=>e) rfl u);refine lk fun _ κ=>?_;clear G J;clear n;obtain ⟨U1,W1,st1,e10,a11,a,g,f,rfl,hT,T1,X,r1,r2,O1,v,k1,k2,hne⟩:=r;refine κ (rl (show [x,y].length=(#[g,f]:Array ar).size from rfl) (wpAny_unpackItems_tuple hA.h hT fun h' T=>?_));have c:bb s1 { s1 with heap:=h' }:=⟨h',s1.toks,rfl,fun b o e=>T b o (cz (bH e)) e⟩;refine o9 (wpAny_bindName (ft (X.keeps c) (v.storable hy) (r2.move (cu c)) fun s2 T2 S2=>?_));refine o9 (wpAny_bindName (ft S2 (v.storable hx) ((r1.move (cu c)).move (T2.stab X.sub)) fun s3 T3 S3=>wg ?_));refine h8 _ _ _ _ ⟨(T1.trans (((aO.of_keeps c).trans T2 X.live).trans T3 X.live) S.live),S3,((v.put z k2).put L (k2.next k1 (fun a e e'=>hne a e' e))).ext fun l=>?_,fun p hp=>O1 p hp,rfl⟩;refine rl br (rl br (rl br (rl br ?_)));by_cases e1:l=i<;>by_cases e2:l=j<;>simp [e1,e2]
     . exact absurd (e1.symm.trans e2) V
     all_goals (intro e3;exact absurd e3 (by first|exact V|exact fun q=>V q.symm))
theorem tg(h:(a,ob)∈l):(a,ob')∈la l a ob':=dj.mpr ⟨(a,ob),h,by exact if_pos rfl⟩
theorem nc(h:(b,ob)∈l)(D:b≠a):(b,ob)∈la l a ob':=dj.mpr ⟨(b,ob),h,by exact if_neg D⟩
theorem bg.upd(F:bg M O Z C ρ){i:Nat}(hi:ah O i=aa (.o d))(N:cv ob'=aa d'):bg M (ag O i (.o d')) Z (C.setO (ρ i) ob') ρ where
 names:=F.names
 fk:=F.fk
 inj:=F.inj
 lt:=F.lt
 ltS:=fun j v hv=>by
  rw [br] at hv;split at hv
  . rename_i e;refine rl e (F.ltS i _ hi)
  . exact F.ltS j v hv
 var:=fun y j G v hv=>by
  rw [br] at hv;split at hv
  . rename_i e;subst e;replace hv:=sI hv;subst hv;exact F.var y j G _ hi
  . exact F.var y j G v hv
 own:=fun j e G=>by
  rw [br] at G;split at G
  . rename_i J;subst J;obtain ⟨⟩:=G;refine F.ownK j d hi fun ob h1 _ P=>⟨ob',tg h1,N,P⟩
  . rename_i J;refine F.ownK j e G fun ob h1 L P=>⟨ob,nc h1 (fun q=>J (F.ro j i _ _ G hi q)),L,P⟩
 ro:=fun j k e f G hk Q=>by
  have g:∀ l x,ah (ag O i (.o d')) l=aa (.o x)->∃ y,ah O l=aa (.o y):=fun l x hl=>by
   rw [br] at hl;split at hl
   . rename_i J;refine rl J ⟨_,hi⟩
   . exact ⟨x,hl⟩
  refine ae (g j e G) fun _ h1=>ae (g k f hk) fun _ L=>F.ro j k _ _ h1 L Q
theorem kF{C:MS}:∀ p∈(C.setO a ob).own,∃ q∈C.own,q.1=p.1:=fun p D=>by
 refine bB D fun q hq e=>⟨q,hq,?_⟩;by_cases h:q.1=a
 . rw [if_pos h] at e;refine rl (az e) h
 . rw [if_neg h] at e;refine rl e rfl
theorem yK{C:MS}(p)(J:p∈(C.setO a ob).own){G:Prop}(k:∀ q,q∈C.own->q.1=p.1->G):G:=ae (kF p J) fun F D=>ac D fun z1 z2=>k F z1 z2
theorem qA(F:bg M O Z C ρ){i:Nat}(G:a5 M x=aa i)(hi:ah O i=aa (.o d)):EV B w H A Z wc C (.Name x p) (.o (ρ i)):=by
 refine pP G fun hb hk hl=>?_;have hm:=F.var x i hl _ hi;rcases hk with h|⟨h,_⟩
 . exact uI hm (by unfold eH;refine rl F.names ?_;exact h) (f5 hb)
 . exact ut hm (by unfold eH;refine rl F.names ?_;exact h) (f5 hb)
theorem qB(h:cv ob=aa (.list l)):ob = .list (l.map .d):=by
 rcases ob with J|_|_|_
 . simp only [cv,sn] at h;refine ae h fun ds G=>ac G fun F e=>?_;clear h G;obtain ⟨⟩:=e;refine rl (qj F) rfl
 . simp [cv] at h
 . simp [cv] at h
 . simp [cv] at h
theorem K5(Wd:WD B w H mg mb gl Φ R){i:Nat}(f:bn e=false)(l:(r.endLine == p.line)=true)(hx:a5 M x=aa i)(he:cE gl m M e=aa e'):
 cK B w H Φ R M (.app i e') (.Expr (.Call (.Attribute (.Name x px) "append" r) [e] [] p) pos):=by
 intro A Z n O I fl C ρ t D J U W s S
 refine lk fun _ c=>?_
 rcases n with _|n
 . clear S D t
   clear ρ;exact nS J
 . refine ax J fun d hd J=>aG J fun σ₁ k q0=>?_;clear J;obtain ⟨⟩:=q0;clear J;refine tK k fun x' y' hi hy L=>?_;subst L;refine ae (F7 hy) fun l' q=>aE q fun L hz q2=>?_;clear q;subst L;subst q2;refine kK (aX n e') S D fun o z j T1 T a O1=>a.ownK i _ hi fun ob h1 h2 h3=>c ?_;refine tc (sk qn l (by refine rl (cO f) ?_;rfl) ((qA (wc:=M.wc) a hx hi o z s T).mono fun v s₁ G P=>?_)) (by unfold tG;refine rl D.fk ?_;rfl) (by rfl)
   have:=fv.mp P;subst this;have g:=T.keeps G
   have:=qB h2;subst this;refine lk fun _ c=>g.ownK _ h1 fun _ _ L=>b0.liK L fun vs nn u _=>?_;clear L;refine c ?_;refine aR ("list") ("list.append") ⟨pv,wU,wV,⟨_,u,rfl⟩,fun b e=>by injection e with e;subst e;exact ⟨_,u,rfl⟩,?_⟩;refine pa rfl (sr (sx (((cQ Wd m M e e' he A Z j _ n t a.mt).1 d hd o z s₁ g).mono fun y s₂ k₂ V=>sE ?_)));refine pZ (g.keeps k₂) h1 ((T.wr _ h3)) V (by simpa using hz) fun s₃ N Q=>bW.after S.live T1 O1 ⟨_,_,_,ρ,((aO.of_keeps G).trans (aO.of_keeps k₂) T.live).trans N T.live,Q,a.upd hi ?_,fun p k=>.inl (kF p k),rfl⟩;show cv (.list (l'.map .d ++ [.d d]))=aa (.list (l' ++ [d]));refine rl (show l'.map X.d ++ [.d d]=(l' ++ [d]).map X.d by simp) (iy rfl)
theorem ai.set{α D:Type}{R:α->D->Prop}{as:List α}{bs:List D}{a:α}{b:D}(h:ai R as bs):∀ i,R a b->ai R (as.set i a) (bs.set i b):=by
 induction h with
 |nil=>exact fun F F=>.nil
 |cons h t ih =>
  intro i r;rcases i with _|i
  . exact .cons r t
  . exact .cons h (ih i r)
theorem Fu(S:ay B w H Z wc U W C s)(hm:(a,ob)∈C.own)(D:a∈W){h:aB}(hk:∀ b o,b≠a->s.heap.get? b=aa o->h.get? b=aa o)(r:b0 B w U h a ob'):
 aO U W s U W { s with heap:=h,toks:=tk }/\ay B w H Z wc U W (C.setO a ob') { s with heap:=h,toks:=tk }:=by
 have ha:∃ o,h.get? a=aa o:=by
  revert r;rcases ob' with l|l|l|l
  . rintro ⟨vs,n,h,_⟩;exact ⟨_,h⟩
  . intro r;exact pO r
  . intro r;exact tp r
  . intro r;exact tq r
 exact ⟨y7 D hk ha,S.own_upd hm hk r ha⟩
theorem pU(S:ay B w H Z wc U W C s)(hm:(a,ob)∈C.own)(F:a∈W){h:aB}(hk:∀ b o,b≠a->s.heap.get? b=aa o->h.get? b=aa o)(r:b0 B w U h a ob'){G:Prop}(k:aO U W s U W { s with heap:=h,toks:=tk }->ay B w H Z wc U W (C.setO a ob') { s with heap:=h,toks:=tk }->G):G:=ac (Fu S hm F hk r) fun D z1=>k D z1
theorem Ee{l:am}{vs:List ar}{n:Nat}{k:Int}{t:Tok}{v:ar}{Q:Unit->aw->Prop}{E:ar->aw->Prop}(G:s.heap.get? l=aa (cL vs n))(L:0<=k)(F:k < 2 ^ 63)(V:k.toNat < vs.length)(P:vs.length<=100000)
 (J:∀ h' m,h'.get? l=aa (cL (vs.set k.toNat v) m)->g5 l s.heap h'->Q () { s with heap:=h' }):ak (av B w) A (setItem (.ref l) (.int k t) v) Q E s:=by
 have hl:s.heap.IsList l vs.toArray:=⟨_,G,rfl,n,rfl⟩
 unfold setItem
 try with_reducible refine fm ?_
 first|refine af (au ?_)|skip
 refine af (DA hl.typeIs (by decide) ?_)
 refine af (iW (name:=i7 "__setitem__") hl.typeIs DL
  (fO DL hl.typeIs entry_list_setitem ?_ (args_list_setitem _ _ _)))
 show ak _ _ (Builtin.List.listSubscript? (.int k t) >>= _) _ _ s;refine af (wpAny_listSubscript_int (fitsIndex_of L F) ?_);clear F;clear hl P;refine ae (Cy L) fun j N=>?_;subst N;have S:j < vs.toArray.size:=V
 show ak _ _ ((seqItemAt l j >>= fun r=>pure (r.map (j,·))) >>= _) _ _ s;refine af (af (wpAny_seqItemAt G rfl (au ?_)));refine rl (kl S) ?_;show ak _ _ (setSeqItemAt l j v >>= _) _ _ s;have D:=m8 G (·.setIfInBounds j v);have T:vs.toArray.setIfInBounds j v=(vs.set (bY (j:Int)) v).toArray:=by simp
 rw [T] at D;refine af (wpAny_setSeqItemAt G rfl ?_);first
  |exact af (au (au ⟨.none,rfl,au (J _ _ D (eF ..))⟩))
  |exact au ⟨.none,rfl,au (J _ _ D (eF ..))⟩
theorem GE(hA:aW 1 A)(S:ay B w H Z wc U W C s)(hm:(a,ob)∈C.own)(hw:a∈W)(L:cv ob=aa d)(hk:gk d y f=aa d')
 (P:aC B w U s.heap y kv) (rv:aC B w U s.heap f vv) {Q:Unit->aw->Prop} {E:ar->aw->Prop}
 (hq:∀ s' ob',cv ob'=aa d'->aO U W s U W s'->ay B w H Z wc U W (C.setO a ob') s'->Q () s'):ak (av B w) A (setItem (.ref a) kv vv) Q E s:=by
 have p:A.in1.units < cLine:=by have:=hA.u;show A.units+1 < _;exact Bs this
 refine lk fun _ N=>?_
 refine S.ownK _ hm fun hU hL r=>?_
 by_cases hl:nZ d=true
 . skip
   refine N (ze (c:=fun k v=>setItem (.ref a) k v) ⟨fun k m q z=>wpAny_setItem_pairs (knd:=bt B w) k m q z,fun k m q z=>wpAny_setItem_heap p k m q z⟩ hU ⟨hl,ob,(HE L hl),r⟩ hk P rv fun h' tk G same=>lk fun _ N=>cP.eK G fun _ ob' F r'=>?_);clear G;refine pU (tk:=tk) S hm hw same r' fun T j=>N ?_;exact hq _ _ (iy F) T j
 . cases d with
   |list l =>
    refine ax hk fun i hi hk=>?_;clear hL;clear hA;obtain rfl:=aI hi;refine bL hk fun X hk=>?_;clear hi;replace hk:=sI hk;subst hk;clear hk;refine gd P fun t V=>?_;subst V;clear hk P;refine ae (lX L) fun ds q1=>ac q1 fun V x=>?_;clear q1;subst V;obtain rfl:=qj x;refine b0.liK r fun vs n ho hr=>?_;clear r;have hlen:=hr.length;rw [aZ] at hlen;refine N ?_;refine Ee ho X.1 (by omega) (Nb X hlen) (Nc X hlen) fun h' m F hs=>?_;have same:∀ b o,b≠a->s.heap.get? b=aa o->h'.get? b=aa o:=fun b o hb e=>hs.extBut b o hb e;have stab:bj U s.heap U h':=⟨fun ο p=>.inl p,fun b o hb e=>same b o (fun q=>hb (q ▸ hU)) e⟩;have g:ai (aT B w U h') (l.map .d) vs:=hr.imp fun ο ο q=>q.move stab;have J:b0 B w U h' a (.list ((l.set i.toNat f).map .d)):=⟨_,m,F,by refine rl xP ?_;exact g.set i.toNat (rv.move stab)⟩;refine pU (tk:=s.toks) S hm hw same J fun T j=>hq _ _ (iy rfl) T j
   |idict l=>exact absurd rfl hl
   |bdict l=>exact absurd rfl hl
   |tdict l=>exact absurd rfl hl
   |_=>exact nS hk
theorem GF:lT e (aa (.Subscript a b p)) l Z=pure false:=by obtain ⟨⟩:=e<;>rfl
theorem Jy(f:WD B w H mg mb gl Φ R){i:Nat}(z:a5 M x=aa i)(hk:cE gl m M k=aa k')(he:cE gl m M e=aa e'):
 cK B w H Φ R M (.setk i k' e') (.Assign [.Subscript (.Name x y) k p] e pos):=by
 intro A Z n O I fl C ρ X D G U W s S
 refine lk fun _ r=>?_
 rcases n with _|n
 . clear S D X
   clear ρ;exact nS G
 . refine ax G fun u c G=>?_;refine ax G fun l a G=>?_;refine aG G fun σ₁ b q=>?_;clear G;obtain ⟨⟩:=q;clear G;clear G;refine tK b fun d d' hi hy q1=>?_;subst q1;refine D.ownK i _ hi fun ob h1 t h3=>?_;refine r ?_;refine wpAny_Assign_Subscript (((cQ f m M e e' he A Z C _ n X D.mt).1 u c U W s S).mono fun v s₁ F P =>
    (qA (wc:=M.wc) D z hi U W s₁ (S.keeps F)).mono fun o s₂ k₂ T=>((cQ f m M k k' hk A Z C _ n X D.mt).1 l a U W s₂ ((S.keeps F).keeps k₂)).mono fun kv s₃ J Q=>?_) GF
   have:=fv.mp T;subst this;have g:=bp F (bp k₂ J);refine GE X.one (S.keeps g) h1 (S.wr _ h3) t hy Q ((P.move (cu k₂)).move (cu J)) fun j ob' N V L=>bW.iK _ _ _ ρ ((aO.of_keeps g).trans V S.live) L (D.upd hi N) (fun p b=>.inl (kF p b)) rfl
theorem K6(Wd:WD B w H mg mb gl Φ R){i:Nat}(t:bn e=false)(z:(ap.endLine == p.line)=true)(hx:a5 M x=aa i)(he:cE gl m M e=aa e'):
 cK B w H Φ R M (.ext i e') (.Expr (.Call (.Attribute (.Name x px) "extend" ap) [e] [] p) pos):=by
 intro A Z n O I fl C ρ hA D Q U W s S
 refine lk fun _ V=>?_
 rcases n with _|n
 . clear S D hA
   clear ρ;exact nS Q
 . refine ax Q fun ds hd Q=>ax hd fun dd hd j=>?_;obtain rfl:=tX j;refine aG Q fun σ₁ y j=>?_;clear Q;obtain ⟨⟩:=j;clear j Q;refine tK y fun x' y' hi hy G=>?_;subst G;refine ae (F8 hy) fun l' q3=>aE q3 fun G r q2=>?_;clear q3;subst G;subst q2;refine D.ownK i _ hi fun ob h1 h2 h3=>?_
   have:=qB h2;subst this;refine V ?_;refine tc (sk qn z (by refine rl (cO t) ?_;rfl) ((qA (wc:=M.wc) D hx hi U W s S).mono fun v s₁ J X=>?_)) (by unfold tG;refine rl D.fk ?_;rfl) (by rfl)
   have:=fv.mp X;subst this;have u:=S.keeps J;refine lk fun _ V=>u.ownK _ h1 fun _ _ G=>b0.liK G fun vs nn P _=>?_;clear G;refine V ?_;refine aR ("list") ("list.extend") ⟨pv,Dw,F.type_list_extend,⟨_,P,rfl⟩,fun b e=>by injection e with e;subst e;exact ⟨_,P,rfl⟩,?_⟩;refine pa rfl (sr (sx (((cQ Wd m M e e' he A Z C _ n hA D.mt).1 _ hd U W s₁ u).mono fun c10 s₂ k₂ c=>sE ?_)));have S3:=u.keeps k₂;refine lk fun _ V=>S3.ownK _ h1 fun hU _ G=>b0.liK G fun vs nn P hr=>?_;clear G;clear h2 hy hd;clear hd;clear n;refine gD c fun b N q G hbU l a=>?_;subst G;have l1:=hr.length;have l2:=a.length;rw [aZ] at l1;refine V ?_;refine call_meets Dw ⟨_,P,rfl⟩ F.entry_list_extend (F.args_list_extend_2 _ _)
    (AutoSeq1.list_extend_list_tuple_0 (ρ i) vs.toArray nn b N.toArray q (by
     refine rl (jB ..) ?_;refine rp (Bool.and_eq_false_iff ..) ?_;exact .inr (decide_eq_false (ch.mpr (by refine rl cx ?_;refine rl cx ?_;refine rl (az l1) ?_;refine rl (az l2) ?_;exact dm r)))) (by refine rl cx ?_;refine rl (az l1) ?_;exact dm (by exact Nd r)) (by refine rl cx ?_;refine rl cx ?_;refine rl (az l1) ?_;refine rl (az l2) ?_;exact mV (dm r))) ⟨P,l,?_⟩
   have L:=m8 P (fun x=>x++N.toArray);have e1:vs.toArray++N.toArray=(vs++N).toArray:=by simp
   rw [e1] at L;have f:g5 (ρ i) s₂.heap (s₂.heap.update (ρ i) (fq fun x=>x++N.toArray)):=eF ..;have stab:bj U s₂.heap U (s₂.heap.update (ρ i) (fq fun x=>x++N.toArray)):=⟨fun k hu=>.inl hu,fun b o hb e=>f.extBut b o (fun q=>hb (q ▸ hU)) e⟩;have g:b0 B w U (s₂.heap.update (ρ i) (fq fun x=>x++N.toArray)) (ρ i) (.list ((l'++ds).map .d)):=⟨_,_,L,by
    refine rl i4 ?_;exact (hr.imp fun k k q=>q.move stab).append (nv (a.imp fun k k q=>q.move stab))⟩
   refine pU (tk:=s₂.toks) S3 h1 (S.wr _ h3) (fun b o hb e=>f.extBut b o hb e) g fun T S'=>h8 _ _ _ ρ ⟨((aO.of_keeps J).trans (aO.of_keeps k₂) S.live).trans T S.live,S',D.upd hi (by exact iy rfl),fun p y=>.inl (kF p y),rfl⟩
theorem K7(X:WD B w H mg mb gl Φ R)(i:cE gl m M e=aa e'):cK B w H Φ R M (.ret e') (.Return (aa e) pos):=by
 intro A Z n O I fl C ρ P D L U W s S;refine lk fun _ b=>?_;rcases n with _|n
 . clear S D P;clear ρ;exact nS L
 . refine aG L fun d hd a=>?_;clear L;obtain ⟨⟩:=a;refine kK (O.map (·.1)) S D fun N T G c Q V g=>b ?_;refine wM (((cQ X m M e e' i A Z G _ n P V.mt).1 d hd N T s Q).mono fun v s₁ F J=>?_);exact bW.after S.live c g ⟨N,T,G,ρ,.of_keeps F,Q.keeps F,V,fun p f=>.inl ⟨p,f,rfl⟩,v,rfl,J⟩
def jt(B:bm)(w:bh)(H:aB)(Φ:Nat->List D->Option D)(R:Nat)(M:Cx)(cs:List St)(F:List ej):Prop :=
 ∀ (A:bo) (Z:aS) (n:Nat) (O I:Sg) (fl:Fl) (C:MS) (ρ:Nat->am),aW (R+4) A->bg M O Z C ρ->be Φ n O cs=aa (I,fl) ->
  ∀ (U W:List am) (s:aw),ay B w H Z M.wc U W C s->ak (av B w) A (gq F Z) (bW B w H Z M C U W s I fl) (fun G G=>False) s
theorem Jz:jt B w H Φ R M [] []:=by
 intro A Z n O I fl C ρ J D F U W s S;rcases n with _|n
 . exact nS F
 . obtain ⟨⟩:=F;exact sV ⟨U,W,C,ρ,.refl,S,D,fun p G=>.inl ⟨p,G,rfl⟩,rfl⟩
theorem H0{c:St}(h:cK B w H Φ R M c t)(m:jt B w H Φ R M cs ts):jt B w H Φ R M (c::cs) (t::ts):=by
 intro A Z n O I fl C ρ N D Q U W s S;refine lk fun _ F=>?_;rcases n with _|n
 . clear S D N;clear ρ;exact nS Q
 . rcases qm Q with ⟨σ₁,h1,Q⟩|⟨d,h1,rfl⟩
   . refine F (ko (aF (h A Z n O σ₁ .next C ρ N D h1 U W s S) (fun f s₁ P=>?_) fun L L e=>e));refine lk fun _ F=>?_;clear h1 D;clear ρ;refine bW.eK P fun a k G J X i l j T=>?_;clear P;subst T;refine F (aF (m A Z n σ₁ I fl G J N l Q a k s₁ i) (fun f s₂ P=>P.after S.live X j) fun L L e=>e)
   . refine F (ko (aF (h A Z n O _ (.ret d) C ρ N D h1 U W s S) (fun f s₁ P=>?_) fun L L e=>e));have V:=P;refine lk fun _ F=>?_;clear h1 Q S D N;clear n;refine bW.eK V fun a k G J X i l j g=>?_;clear V;refine ae g fun v b=>ac b fun T r=>?_;clear g b;subst T;refine F P
theorem zZ(h:ai (cK B w H Φ R M) cs ts):jt B w H Φ R M cs ts:=by
 induction h with
 |nil=>exact Jz
 |cons a _ ih=>exact H0 a ih
theorem K8(o:WD B w H mg mb gl Φ R){c:Expr}{V:Ex}(hc:cE gl m M c=aa V)(ha:jt B w H Φ R M l a)(hb:jt B w H Φ R M b' b):
 cK B w H Φ R M (.ite V l b') (.If c a b pos):=by
 intro A Z n O I fl C ρ X D J U W s S
 refine lk fun _ Q=>?_
 rcases n with _|n
 . clear S D X
   clear ρ;exact nS J
 . refine ax J fun q ht J=>kK (aX n V) S D fun T d G j i g k=>Q ?_;refine je (((cQ o m M c V hc A Z G _ n X g.mt).2.1 _ ht T d s i).mono fun s₁ F=>?_);have L:∀ {x:Sem gT},ak (av B w) A x (bW B w H Z M G T d s₁ I fl) (fun N N=>False) s₁->ak (av B w) A x (bW B w H Z M C U W s I fl) (fun N N=>False) s₁:=fun h =>
    aF h (fun f s₂ P=>bW.after S.live (j.trans (.of_keeps F) S.live) k P) fun N N e=>e
   refine lk fun _ Q=>?_;clear k j ht S D;rcases kh J with ⟨rfl,J⟩|⟨rfl,J⟩
   . refine Q (rl (if_pos rfl) (L (ha A Z n _ I fl G ρ X g J T d s₁ (i.keeps F))))
   . refine Q (rl (if_neg fN) (L (hb A Z n _ I fl G ρ X g J T d s₁ (i.keeps F))))
theorem zr{Q:mj->aw->Prop}{F:Expr}{it:ar}{body:List ej}(I:Nat->aw->Prop)
 (turn:∀ n s,I n s->ak (av B w) A (dZ it) (fun r s₁=>match r with
  |none=>Q (.ok .next) s₁
  |some v=>ak (av B w) A (jD F it v) (fun D s₂=>ak (av B w) A (gL F Z v) (fun D s₃=>ak (av B w) A (gq body Z) (fun f J=>match f with
   | .next | .cont=>∃ m,m < n/\I m J
   | .brk=>Q (.ok .next) J
   | .ret v=>Q (.ok (.ret v)) J) (fun D D=>False) s₃) (fun D D=>False) s₂) (fun D D=>False) s₁) (fun D D=>False) s)
 (n:Nat) (h:I n s):er (av B w) A (.forLoop F it body [] Z) Q s:=by
 refine codeAny_loop' rfl I (fun n s S=>?_) n h;refine tF (af (iu (af (pM (aF (turn n s S) (fun r s₁ L=>?_) fun D D h'=>h'.elim)))));rcases r with _|v
 . exact au (.inr ⟨rfl,codeAny_block (sV L)⟩)
 . refine af (aF L (fun D s₂ P=>af (aF P (fun D s₃ N=>af (aF N (fun f J G=>?_) fun D D h'=>h'.elim)) fun D D h'=>h'.elim)) fun D D h'=>h'.elim);cases f with
   |next=>exact au (.inl ⟨rfl,G⟩)
   |cont=>exact au (.inl ⟨rfl,G⟩)
   |brk=>exact au G
   |ret v=>exact au G
theorem K9(F:bg M O Z C ρ)(h:dg M t=aa N)(hb:fX O N d=aa I):
 ∃ bs,e8 t (.d d) bs/\(∀ b∈bs,eX Z M.wc b.1)/\bg M I Z (C.setL bs) ρ:=by
 cases t with
 |Name x p =>
  refine aG h fun i hi G=>?_;subst G;replace hb:=sI hb;subst hb;exact ⟨[(x,.d d)],.name,fun b hb=>by refine rl (aV.mp hb) ?_;exact F.storable hi,F.set (cg hi).2.2 d⟩
 |Tuple es k p =>
  refine aG h fun is hi G=>?_;subst G;refine tZ (g9 hi) fun xs h1 J=>yd hb fun ds G hlen V=>?_;subst G;subst V;have L:xs.length=ds.length:=by refine rl J.length ?_;refine rl hlen ?_;rfl
  refine ⟨xs.zip (ds.map .d),.tup h1 L,fun b hb=>?_,bg.setL J F hlen⟩;refine j9 hb fun j Q=>ln Q fun T _=>J.getK T fun i S P=>F.storable P
 |_=>exact nS h
theorem JA(F:bg M O Z C ρ)(h:dg M t=aa J)(hb:fX O J d=aa I){G:Prop}(k:∀ bs,e8 t (.d d) bs->(∀ b∈bs,eX Z M.wc b.1)->bg M I Z (C.setL bs) ρ->G):G:=ae (K9 F h hb) fun N L=>aE L fun z1 z2 P=>k N z1 z2 P
theorem JB(Wd:WD B w H mg mb gl Φ R){m:Nat}{pos:aK}{t i:Expr}{t':Tg}{i':Ex}{body:List ej}{X:List St}(g10:dH i=false)(ht:dg M t=aa t')(hi:cE gl m M i=aa i')(hb:jt B w H Φ R M X body):
 cK B w H Φ R M (.loop t' i' X) (.For t i body [] pos):=by
 intro A Z n O I fl C ρ hA E hs U W s S
 refine lk fun _ N=>?_
 rcases n with _|n
 . clear S E hA
   clear ρ;exact nS hs
 . refine ax hs fun xs hxs hs=>?_;refine kK (aX n i') S E fun U1 W1 Y T1 S1 M1 O1=>?_;have a11:=(cQ Wd m M i i' hi A Z Y _ n hA M1.mt).2.2.2.2 t' t xs (qN ht) hxs;refine N ?_;refine wpAny_For (aF (a11 U1 W1 s S1) (fun x s₁ d12=>aF d12 (fun it s₂ e10=>?_) fun V V e=>e.elim) fun V V e=>e.elim) (jm g10);refine lk fun _ N=>?_;clear hxs E a11 g10 Wd;refine ac e10 fun k y=>?_;clear e10;refine dK y fun D fp wr St q2=>cX q2 fun q0 wk h0 L hff=>?_;clear y q2;subst q0;have alw:∀ {b:am},(∃ o,s.heap.get? b=aa o)->b ∉ wr:=fun z hm=>by refine ae z fun o e=>?_;clear z;exact by rw [L _ hm] at e;exact nS e
   have l:LS B w Z A t U1 W1 s (wr++U1) s₂.heap D fp wr (xs.map .d) St:=⟨wk,L,S1.lives,fun x c e=>by refine ac (S1.cellU x c e) fun hu _=>?_;exact alw (S1.live c hu)⟩;have v0:LI B w H Z M.wc U1 W1 s (wr++U1) s₂.heap fp wr St Y 0 (wr++U1) W1 s₂:={
    T:={
     same:=by refine iO k fun h t e _=>?_;clear k;exact aR h t e
     uu:=fun V h V=>fi _ h
     un:=fun u hu=>(bC.mp hu).elim (fun h=>.inr (L u h)) .inl
     al:=fun a o e=>⟨o,cj k a o e⟩
     wn:=fun V h=>.inl h
     keep:=fun b o V e=>cj k b o e }
    sb:=bj.ext fun V V e=>e
    S:=S1.addU k L (wk.live 0 _ h0)
    h:=h0
    wu:=fun b hb=>im _ hb
    ff:=fun b hb=>by
     refine ac (hff b hb) fun ho h=>?_;refine ⟨fun hm=>?_,ho⟩;have hU:=S1.sub b hm;clear T1 hs;clear hs S;rcases h with h|h|h
     . exact alw (S1.live b hU) h
     . exact h hU
     . clear ho hff L h0 wk k O1 M1;exact a7 h
    ow:=fun p hp=>alw (S1.live _ (S1.own p hp).1) }
   have g12:er (av B w) A (.forLoop t (.ref D) body [] Z) (fun r s'=>match r with | .ok f=>bW B w H Z M Y U1 W1 s I fl f s' | .error e=>cameBackBy (av B w) A Z (fun V V=>False) e s') s₂:=by
    refine zr (fun j s'=>∃ i nn σ₁ F G U2 W2,i<=xs.length/\j=xs.length - i/\cw Φ nn σ₁ t' X (xs.drop i)=aa (I,fl)/\LI B w H Z M.wc U1 W1 s (wr++U1) s₂.heap fp wr St F i U2 W2 s'/\bg M σ₁ Z F G /\
     (∀ p∈F.own,(∃ q∈Y.own,q.1=p.1)\/s.heap.get? p.1=ab)) ?_ xs.length ⟨0,n,_,Y,ρ,_,_,cG _,rfl,by simpa using hs,v0,M1,fun p hp=>.inl ⟨p,hp,rfl⟩⟩
    intro j s' z;refine lk fun _ N=>?_;clear hff L h0 wk k;clear O1 M1 T1 hs S;clear hs;refine Bl z fun i nn σ₁ F G U2 W2 y=>d4 y fun hi q0 J v M2 O2=>?_;clear z y;subst q0;rcases nn with _|nn
    . clear O2 M2 v hi;clear hi W2 U2 G F;exact nS J
    . by_cases hlt:i < xs.length
      . rw [(mN hlt)] at J;refine ax J fun σ₂ hbt J=>?_;refine JA M2 ht hbt fun bs g hst M3=>?_;refine N ?_;refine aF (LI.turn hA.h v l (x:=.d xs[i]) (by simp [hlt]) g hst (Q:=?Q) ?a) ?b fun V V e=>e;case b =>
         intro r s₁ h;refine lk fun _ N=>?_;refine ae h fun v y=>?_;clear h;refine ac y fun q0 h=>?_;clear y;subst q0;refine N ?_;exact h
        case a =>
         intro s3 v3;have O3:∀ p∈(F.setL bs).own,(∃ q∈Y.own,q.1=p.1)\/s.heap.get? p.1=none:=fun p hp=>O2 p (by rw [lW] at hp;exact hp);have trO:∀ {a10:MS},(∀ p∈a10.own,(∃ q∈(F.setL bs).own,q.1=p.1)\/s3.heap.get? p.1=ab)->∀ p∈a10.own,(∃ q∈Y.own,q.1=p.1)\/s.heap.get? p.1=none:=fun h p hp=>by
          refine lk fun _ N=>?_;rcases h p hp with ⟨q,hq,e⟩|e
          . rcases O3 q hq with ⟨r,hr,e'⟩|e'
            . refine N ?_;exact .inl ⟨r,hr,e'.trans e⟩
            . refine N ?_;exact .inr (by refine rl (az e) ?_;exact e')
          . refine N ?_;exact .inr (v3.T.dead e)
         refine lk fun _ N=>?_;clear O3 hst g;clear hbt O2 M2 hi;clear hi;rcases qm J with ⟨σ₃,K,J⟩|⟨d,K,rfl⟩
         . refine N ?_;refine aF (hb A Z nn σ₂ σ₃ .next _ G hA M3 K U2 W2 s3 v3.S) (fun f s₄ P=>?_) fun V V e=>e;refine lk fun _ N=>?_;clear K;refine bW.eK P fun U4 W4 st4 ρ4 T4 S4 M4 O4 q0=>?_;clear P;subst q0;refine N ?_;exact ⟨xs.length - (i+1),by first|assumption|exact oA ‹_›,i+1,nn,σ₃,st4,ρ4,U4,W4,hlt,rfl,J,v3.step l T4 S4 O4,M4,trO O4⟩
         . refine N ?_;refine aF (hb A Z nn σ₂ _ (.ret d) _ G hA M3 K U2 W2 s3 v3.S) (fun f s₄ P=>?_) fun V V e=>e;refine lk fun _ N=>?_;clear K J;clear J;refine bW.eK P fun U4 W4 st4 ρ4 T4 S4 M4 O4 y=>?_;clear P;refine ae y fun v q2=>ac q2 fun q0 r=>?_;clear y q2;subst q0;refine N ?_;exact h8 U4 W4 st4 ρ4 ⟨v3.T.trans T4 S1.live,S4,M4,trO O4,v,rfl,r⟩
      . have hie:i=xs.length:=by exact oE ‹_› ‹_›
        subst hie;rw [sH] at J;obtain ⟨⟩:=J;refine N ?_;refine LI.finish (xs:=xs.map .d) (by refine rl (aZ ..) ?_;exact v) l fun s'' T S'=>?_;exact h8 _ W2 F G ⟨T,S',M2,O2,rfl⟩
   refine N ?_;exact jF g12 fun r s' h=>by
    cases r with
    |ok f=>exact bW.after S.live T1 O1 h
    |error e=>exact h
theorem H1(Wd:WD B w H mg mb gl Φ R){c:Expr}(hc:cE gl m M c=aa c')(hb:jt B w H Φ R M N body):
 cK B w H Φ R M (.whil c' N) (.While c body [] pos):=by
 intro A Z n O I fl C ρ hA D hs U W s S
 rcases n with _|n
 . clear S D hA
   clear ρ;exact nS hs
 . refine wpAny_While ?_;have u:er (av B w) A (.whileLoop c body [] Z) (fun r s'=>match r with | .ok f=>bW B w H Z M C U W s I fl f s' | .error e=>cameBackBy (av B w) A Z (fun g g=>False) e s') s:=by
    refine codeAny_whileLoop (fun j s'=>∃ σ₁ F J a X,oY Φ j σ₁ c' N=aa (I,fl)/\aO U W s a X s'/\ay B w H Z M.wc a X F s'/\bg M σ₁ Z F J/\(∀ p∈F.own,(∃ q∈C.own,q.1=p.1)\/s.heap.get? p.1=ab)) ?_ n
     ⟨O,C,ρ,U,W,hs,.refl,S,D,fun p hp=>.inl ⟨p,hp,rfl⟩⟩
    intro j s' t;refine lk fun _ T=>k5 t fun σ₁ F J a X l=>cX l fun G T1 z y O1=>?_;clear t l;clear pos;rcases j with _|j
    . clear O1 y z T1;clear X a J F;exact nS G
    . refine ax G fun q ht G=>T ?_;refine aF (((cQ Wd m M c c' hc A Z F σ₁ j hA y.mt).2.1 _ ht a X s' z).mono (Q:=fun b s₂=>_) fun s₁ i=>?_) (fun g g q=>q) fun g g e=>e.elim;have S2:=z.keeps i;have T2:aO U W s a X s₁:=T1.trans (.of_keeps i) S.live;refine lk fun _ T=>?_;clear ht z T1 n hs D;clear ρ O;clear hc;rcases kh G with ⟨rfl,G⟩|⟨rfl,G⟩
      . refine T (rl (if_pos rfl) ?_);have o:∀ {V:MS},(∀ p∈V.own,(∃ q∈F.own,q.1=p.1)\/s₁.heap.get? p.1=ab)->∀ p∈V.own,(∃ q∈C.own,q.1=p.1)\/s.heap.get? p.1=none:=fun h p hp=>by
         refine lk fun _ T=>?_;rcases h p hp with ⟨q,hq,e⟩|e
         . rcases O1 q hq with ⟨r,hr,e'⟩|e'
           . refine T (.inl ⟨r,hr,e'.trans e⟩)
           . refine T ?_;exact .inr (by refine rl (az e) ?_;exact e')
         . refine T (.inr (T2.dead e))
        refine lk fun _ T=>?_;clear O1;rcases qm G with ⟨σ₃,L,G⟩|⟨d,L,rfl⟩
        . refine T (aF (hb A Z j σ₁ σ₃ .next _ J hA y L a X s₁ S2) (fun f x P=>?_) fun g g e=>e.elim);refine lk fun _ T=>?_;clear L;refine bW.eK P fun U4 W4 st4 k T4 S4 M4 O4 l=>?_;clear P;subst l;refine T ⟨j,i3 j,σ₃,st4,k,U4,W4,G,T2.trans T4 S.live,S4,M4,o O4⟩
        . refine T (aF (hb A Z j σ₁ _ (.ret d) _ J hA y L a X s₁ S2) (fun f x P=>?_) fun g g e=>e.elim);refine lk fun _ T=>?_;clear L G;clear G;clear G;refine bW.eK P fun U4 W4 st4 k T4 S4 M4 O4 q2=>?_;clear P;refine ae q2 fun v q3=>ac q3 fun l r=>?_;clear q2 q3;subst l;refine T (h8 U4 W4 st4 k ⟨T2.trans T4 S.live,S4,M4,o O4,v,rfl,r⟩)
      . obtain ⟨⟩:=G;refine T (rl (if_neg fN) (sV ⟨a,X,F,J,T2,S2,y,O1,rfl⟩))
   exact u
theorem La{i j:Nat}(t:(ap.endLine == p.line)=true)(hx:a5 M x=aa i)(z:a5 M y=aa j):
 cK B w H Φ R M (.pop j i) (.Assign [.Name y py] (.Call (.Attribute (.Name x px) "pop" ap) [] [] p) pos):=by
 intro A Z n O I fl C ρ hA D G U W s S
 refine lk fun _ k=>?_
 rcases n with _|n
 . clear S D hA
   clear ρ;exact nS G
 . refine ax G fun l hi G=>ax hi fun dd hi c=>?_;clear hA;obtain rfl:=tY c;refine ax hi fun vv hi c=>?_;obtain rfl:=yz c;refine bL G fun hz G=>aG G fun d hd c=>?_;clear G;clear G;clear G;clear n;obtain ⟨⟩:=c;refine D.ownK i _ hi fun ob h1 h2 h3=>?_
   have:=qB h2;subst this;refine k ?_;refine lB (wpAny_Call_method0_late qn t ((qA (wc:=M.wc) D hx hi U W s S).mono fun v s₁ J N=>?_)) (by rfl)
   have:=fv.mp N;subst this;have S2:=S.keeps J;refine lk fun _ k=>S2.ownK _ h1 fun hU _ q1=>b0.liK q1 fun vs nn P hr=>?_;clear q1;refine k ?_;refine aR ("list") ("list.pop") ⟨pv,F.slot_list_pop,F.type_list_pop,⟨_,P,rfl⟩,fun b e=>by injection e with e;subst e;exact ⟨_,P,rfl⟩,?_⟩;have l1:=hr.length;rw [aZ] at l1;have hl:l[l.length - 1]? = aa d:=by refine rl (az List.getLast?_eq_getElem?) ?_;exact hd
   have m:(l.map X.d)[l.length - 1]? = aa (.d d):=by refine rl cy ?_;refine rl hl ?_;rfl
   refine hr.getK m fun v hv rv=>?_;have g:0 < l.length:=by cases l with|nil=>exact nS hd|cons=>simp
   refine pa (args:=[]) rfl (PyProof.Rows.evalArgs_none ?_);refine call_meets F.slot_list_pop ⟨_,P,rfl⟩ F.entry_list_pop (F.args_list_pop_1 _) (MeetsSeq.list_pop_last (ρ i) vs.toArray nn v (by simpa [←l1] using hv) (by refine rl cx ?_;refine rl (az l1) ?_;exact dm hz)) ⟨P,?_⟩;have L:=m8 P (fun xs=>xs.eraseIdxIfInBounds (vs.toArray.size - 1));have e1:vs.toArray.eraseIdxIfInBounds (vs.toArray.size - 1)=vs.dropLast.toArray:=by
    have r:0 < vs.length:=Nf l1 g
    apply Array.toList_inj.mp;rewrite [Array.eraseIdxIfInBounds];refine rl (dif_pos (by refine rl cx ?_;exact Ng r)) ?_;refine rl Array.toList_eraseIdx (rl (Cj ..) (rl wv ?_));refine rl (List.drop_of_length_le Nh) (rl (m6 ..) rfl)
   rw [e1] at L;have a:g5 (ρ i) s₁.heap (s₁.heap.update (ρ i) (fq fun xs=>xs.eraseIdxIfInBounds (vs.toArray.size - 1))):=eF ..;have stab:bj U s₁.heap U (s₁.heap.update (ρ i) (fq fun xs=>xs.eraseIdxIfInBounds (vs.toArray.size - 1))):=⟨fun ο hu=>.inl hu,fun b o hb e=>a.extBut b o (fun q=>hb (q ▸ hU)) e⟩;have f:b0 B w U (s₁.heap.update (ρ i) (fq fun xs=>xs.eraseIdxIfInBounds (vs.toArray.size - 1))) (ρ i) (.list (l.dropLast.map .d)):=⟨_,_,L,by
    refine rl wv ?_;refine rl List.map_take ?_;refine rl wv ?_;refine rl (az l1) ?_;exact (hr.imp fun ο ο q=>q.move stab).take _⟩
   refine pU (tk:=s₁.toks) S2 h1 (S.wr _ h3) (fun b o hb e=>a.extBut b o hb e) f fun T S'=>?_;have u:=D.upd (d':=.list l.dropLast) hi (ob':=.list (l.dropLast.map .d)) (iy rfl);refine ft S' (u.storable z) (y:=.d d) (rv.move stab) fun s₃ Q V=>bW.iK _ _ _ ρ (((aO.of_keeps J).trans T S.live).trans Q S.live) V (u.set (cg z).2.2 d) (fun p hp=>.inl (kF p hp)) rfl
section
theorem Ay:cK B w H Φ R M .bad t:=by
 intro A Z n O I fl C ρ G D F;rcases n with _|n
 iterate 2 exact nS F
theorem H2(h:∀ c,o=aa c->cK B w H Φ R M c t):cK B w H Φ R M (AR o) t:=by
 rcases o with _|c
 . exact Ay
 . exact h c rfl
theorem Lb(F:WD B w H mg mb gl Φ R){i:Nat}(D:a5 M x=aa i)(G:cE gl m M e=aa e'):cK B w H Φ R M (.asg i (ic e')) (.Assign [.Name x p] e pos):=by
 unfold ic;split
 . rename_i J;exact K3 F D G J
 . exact K2 F D G
section
variable {f:Expr->Option Ex} {c:St}
theorem Ba(G:WD B w H mg mb gl Φ R)(h:rK (cE gl m M) M y e=aa c):cK B w H Φ R M c (.Assign [.Name y q] e p):=by refine ax h fun i hi h=>aG h fun e' D F=>?_;subst F;exact Lb G hi D
theorem Lc(J:WD B w H mg mb gl Φ R)(h:BZ (cE gl m M) M e (vw t)=aa c):cK B w H Φ R M c (.Assign [t] e p):=by
 generalize hv:vw t=v at h;cases v with
 |name y q =>
  obtain rfl:=e7 hv;have h:cNm (cE gl m M) M y e (vw e)=aa c:=h;generalize N:vw e=u at h;cases u with
  |call d args G r =>
   have h':(if (args.isEmpty && G.isEmpty)=true then vM M y r (vw d) else rK (cE gl m M) M y e)=aa c:=h
   cases hc:(args.isEmpty && G.isEmpty) with
   |false=>rw [hc] at h';exact Ba J h'
   |true =>
    rw [hc] at h';clear h J;obtain rfl:=e7 N;refine ct hc fun h1 D=>?_;have h':vM M y r (vw d)=aa c:=h';generalize o:vw d=x at h';cases x with
    |attr d g ap =>
     clear h;obtain rfl:=e7 o;have h':AS M y r g ap (vw d)=aa c:=h';generalize f:vw d=z at h';cases z with
     |name x _ =>
      obtain rfl:=e7 f;cases args with
      |cons _ _=>exact nB h1
      |nil =>
      cases G with
      |cons _ _=>exact nB D
      |nil =>
      refine bJ h' fun X n1=>ct X fun L hl=>?_;clear X D h1 h';obtain rfl:=eq L;refine ax n1 fun j hj n2=>?_;clear L n1 h' m;clear h';refine aG n2 fun i hi F=>?_;subst F;exact La hl hi hj
     |_=>exact nS h'
    |_=>exact nS h'
  |_=>exact Ba J h
 |tup ts k q =>
  obtain rfl:=e7 hv;have h:cTp (cE gl m M) M ts e (vw e)=aa c:=h;generalize N:vw e=u at h;have gen:(if jV e=true then ab else (a8 (gg M) ts).bind fun is=>(cE gl m M e).map (St.unp is))=aa c->cK B w H Φ R M c (.Assign [.Tuple ts k q] e p):=fun h=>by
   refine ju h fun ht h=>ax h fun is h1 h=>aG h fun e' D F=>?_;subst F;exact K4 J h1 ht D
  cases u with
  |tup vs V q2 =>
   obtain rfl:=e7 N;clear gen;have h:BY (cE gl m M) M ts vs=aa c:=h;cases ts with
   |nil=>exact nS h
   |cons t₁ r =>
   cases r with
   |nil=>exact nS h
   |cons t₂ r =>
   cases vs with
   |nil=>exact nS h
   |cons S q =>
   cases q with
   |nil=>exact nS h
   |cons b q =>
   refine bJ h fun c1 n1=>ct c1 fun c2 l=>ct c2 fun c3 h4=>ct c3 fun c4 P=>ct c4 fun h1 D=>ax n1 fun i n n2=>ax n2 fun j V a=>ax a fun Q k3 T=>?_;clear a n2 c4 c3 c2 n1 c1 h;clear h;refine aG T fun e₂ k4 F=>?_;subst F;clear T;clear h;obtain rfl:=gY.mp h1;clear h1;obtain rfl:=gY.mp D;exact Jx J (bN P) (bN h4) (by simpa using l) n V k3 k4
  |_=>exact gen h
 |sub d k q =>
  obtain rfl:=e7 hv;have h:cSt (cE gl m M) M k e (vw d)=aa c:=h;generalize N:vw d=u at h;cases u with
  |name x _ =>
   obtain rfl:=e7 N;refine ju h fun _ h=>ax h fun i h1 h=>ax h fun k' D h=>aG h fun e' P F=>?_;subst F;exact Jy J h1 D P
  |_=>exact nS h
 |_=>exact nS h
theorem Ld(F:WD B w H mg mb gl Φ R)(h:B0 (cE gl m M) M (vw e)=aa c):cK B w H Φ R M c (.Expr e p):=by
 generalize hv:vw e=v at h;cases v with
 |call d args X r =>
  refine lk fun _ L=>?_;obtain rfl:=e7 hv;rcases args with _|⟨e,q⟩
  . clear F;exact nS h
  refine bJ h fun hc n1=>ct hc fun h1 Q=>?_;clear hc h;obtain rfl:=gY.mp h1;clear h1;obtain rfl:=gY.mp Q;generalize V:vw d=u at n1;cases u with
  |attr d g a =>
   clear Q;obtain rfl:=e7 V;refine bJ n1 fun hc2 n2=>ct hc2 fun P hl=>?_;generalize T:vw d=z at n2;cases z with
   |name x _ =>
    clear hc2 n1;obtain rfl:=e7 T;refine ax n2 fun i g1 S=>ax S fun e' g2 N=>?_;have D:(if (g == ("append" : aq))=true then aa (St.app i e') else if (g == ("extend" : aq))=true then aa (.ext i e') else ab)=aa c:=N
    cases J:g == ("append" : aq) with
    |true=>rw [J] at D;replace D:=sI D;subst D;obtain rfl:=eq J;refine L ?_;exact K5 F (bN P) hl g1 g2
    |false =>
     rw [J] at D;refine bJ D fun hg2 G=>?_;clear N S n2;replace G:=sI G;subst G;obtain rfl:=eq hg2;refine L (K6 F (bN P) hl g1 g2)
   |_=>exact nS n2
  |_=>exact nS n1
 |_=>exact nS h
end
theorem kw(F:WD B w H mg mb gl Φ R):∀ m t,cK B w H Φ R M (cS gl m M t) t:=by
 intro m;induction m with
 |zero=>intro t;exact Ay
 |succ m ih =>
  intro t;have dR:∀ ts:List ej,jt B w H Φ R M (ts.map (cS gl m M)) ts:=fun ts=>zZ (by
   induction ts with
   |nil=>exact .nil
   |cons a r G=>exact .cons (ih a) G)
  refine H2 fun c h=>?_;clear ih;cases t with
  |Assign ts e p =>
   rcases ts with _|⟨t,r⟩
   . clear dR F;exact nS h
   refine bJ h fun h1 n1=>?_;clear dR;obtain rfl:=gY.mp h1;exact Lc F n1
  |Expr e p=>exact Ld F h
  |If a b d p=>refine aG h fun P h1 D=>?_;subst D;exact K8 F h1 (dR _) (dR _)
  |For t i b L p =>
   refine bJ h fun hc n1=>ct hc fun h1 N=>?_;clear hc;obtain rfl:=gY.mp h1;refine ax n1 fun S J n2=>?_;clear h1 n1;refine aG n2 fun T Q D=>?_;subst D;exact JB F (bN N) J Q (dR _)
  |While a b L p =>
   refine bJ h fun h1 n1=>?_;obtain rfl:=gY.mp h1;clear h1;refine aG n1 fun P J D=>?_;subst D;exact H1 F J (dR _)
  |Return e p=>refine ax h fun e D h=>?_;subst D;refine aG h fun e' h1 D=>?_;subst D;exact K7 F h1
  |_=>exact nS h
end
theorem Fv:∀ {bs:List (aq×ar)} {m:aq->Option ar},(∀ b∈bs,b.1≠x)->bindL k bs m x=m x:=by
 intro G;induction G with
 |nil =>
  intro m _;exact rfl
 |cons F r D =>
  intro m h;obtain ⟨n,v⟩:=F;refine rl (D fun b hb=>h b (aN _ hb)) ?_;split
  . simp only;refine rl (if_neg fun e=>h (n,v) aY e.symm) ?_;rfl
  . rfl
theorem Fw{k:aq->Option cF}{x:aq}{v:ar}(hk:k x=aa .local):∀ {bs:List (aq×ar)} {m:aq->Option ar},(bs.map (·.1)).Nodup->(x,v)∈bs->bindL k bs m x=aa v:=by
 intro L;induction L with
 |nil =>
  intro m _ h;exact (a7 h).elim
 |cons G r D =>
  intro m J h;obtain ⟨n,u⟩:=G;refine ac (gZ.mp J) fun h1 F=>?_;unfold bindL;rcases aL.mp h with e|h
  . clear h F;obtain ⟨⟩:=e;refine rl (if_pos hk) (rl (Fv fun b hb e=>h1 (dj.mpr ⟨b,hb,e⟩)) ?_);exact if_pos rfl
  . exact D F h
theorem Fx:∀ {bs:List (aq×ar)} {m:aq->Option ar},(∀ b∈bs,b.1≠x)->bindC k bs m x=m x:=by
 intro G;induction G with
 |nil =>
  intro m _;exact rfl
 |cons F r D =>
  intro m h;obtain ⟨n,v⟩:=F;refine rl (D fun b hb=>h b (aN _ hb)) ?_;split
  . rfl
  . simp only;refine rl (if_neg fun e=>h (n,v) aY e.symm) ?_;rfl
theorem Fy{k:aq->Option cF}{x:aq}{v:ar}(hk:k x≠aa .local):∀ {bs:List (aq×ar)} {m:aq->Option ar},(bs.map (·.1)).Nodup->(x,v)∈bs->bindC k bs m x=aa v:=by
 intro L;induction L with
 |nil =>
  intro m _ h;exact (a7 h).elim
 |cons G r D =>
  intro m J h;obtain ⟨n,u⟩:=G;refine ac (gZ.mp J) fun h1 F=>?_;unfold bindC;rcases aL.mp h with e|h
  . clear h F;obtain ⟨⟩:=e;refine rl (if_neg hk) (rl (Fx fun b hb e=>h1 (dj.mpr ⟨b,hb,e⟩)) ?_);exact if_pos rfl
  . exact D F h
structure n8 (H:aB) (a:am) (names:List aq) (Y:Scope) (body:List ej):Prop where
 ex:∃ o name params pm cd doc,H.get? a=aa o/\o.data = .func (i9 name params body Y pm cd doc)/\H.CodeRec cd name /\
  ∀ vals:List ar,vals.length=names.length->bindArgs (i9 name params body Y pm cd doc) ⟨vals,[]⟩=pure (names.zip vals)
 co:Y.isCoroutine=false
 gen:Y.isGenerator=false
theorem n8.exK{H:aB}{names:List aq}{Y:Scope}(S:n8 H a names Y body){G:Prop}(k:∀ o name params L J F,H.get? a=aa o->o.data = .func (i9 name params body Y L J F)->H.CodeRec J name->(∀ D:List ar,D.length=names.length->bindArgs (i9 name params body Y L J F) ⟨D,[]⟩=pure (names.zip D))->G):G:=Bk S.ex fun o name params L J F P=>bR P fun h1 N Q h4=>k o name params L J F h1 N Q h4
theorem pV{i:Nat}:∀ {l:List (aq×cF)} {n:Nat},(x,i)∈iA l n->((x,NameKind.local)∈l\/(x,gw)∈l)/\n<=i/\i < n+(iA l n).length:=by
 intro L;induction L with
 |nil =>
  intro n h;exact (a7 h).elim
 |cons J r D =>
  intro n h;obtain ⟨y,k⟩:=J;unfold iA at h ⊢;split at h
  . rename_i hk;refine rl (if_pos hk) (rl el ?_);rcases aL.mp h with e|h
    . try clear h
      obtain ⟨⟩:=e;refine ⟨?_,cH _,by first|with_reducible exact rfl|exact rE|omega⟩
      simp only [lF,beq_iff_eq] at hk;try clear i
      rcases hk with rfl|rfl
      . exact .inl aY
      . exact .inr aY
    . refine aE (D h) fun h1 G F=>⟨h1.imp (aN _) (aN _),by (first|with_reducible assumption|with_reducible exact po ‹_›),by first|exact vC F|omega⟩
  . rename_i hk;refine rl (if_neg hk) (aE (D h) fun h1 G F=>⟨h1.imp (aN _) (aN _),G,F⟩)
theorem xZ{i:Nat}:∀ {l:List (aq×cF)} {n:Nat},(x,i)∈iA l n->(y,i)∈iA l n->x=y:=by
 intro G;induction G with
 |nil =>
  intro n h _;exact (a7 h).elim
 |cons F r D =>
  intro n h h';obtain ⟨z,k⟩:=F;unfold iA at h h';split at h
  . rename_i hk;rw [if_pos hk] at h';rcases aL.mp h with e|m<;>rcases aL.mp h' with e'|m'
    . clear h' h hk;obtain ⟨⟩:=e;obtain ⟨⟩:=e';rfl
    . clear h' h hk;obtain ⟨⟩:=e;have:=(pV m').2.1;exact (rB this).elim
    . clear h' h hk;obtain ⟨⟩:=e';have:=(pV m).2.1;exact (rB this).elim
    . exact D m m'
  . rename_i hk;rw [if_neg hk] at h';exact D h h'
theorem qC{i:Nat}:∀ {is:List Nat} {vs:List V},ah (is.zip vs) i=aa v->(i,v)∈is.zip vs:=by
 intro J;induction J with
 |nil =>
  intro _ h;exact nS h
 |cons L N F =>
  intro G D;rcases G with _|⟨Q,P⟩
  . exact nS D
  . rw [mT] at D ⊢;unfold ah at D;split at D
    . rename_i e;replace D:=sI D;subst D;refine rl (eq e) aY
    . exact aN _ (F D)
theorem ON(F:WD B w H mg mb gl Φ R)m:∀ ts,ai (cK B w H Φ R M) (ts.map (cS gl m M)) ts:=by
 intro G;induction G with
 |nil =>
  exact .nil
 |cons t r D =>
  exact .cons (kw F m t) (D)
def n0(B:bm)(w:bh)(H:aB)(R:Nat)(M:Cx)(σ₀:Sg)(body:List ej)(d:D):Prop :=
 ∀ (A:bo) (Z:aS) (C:MS),aW (R+4) A->bg M σ₀ Z C (fun F=>0)->∀ (U W:List am) (s:aw),ay B w H Z M.wc U W C s ->
  ak (av B w) A (gq body Z) (fun f s'=>∃ U' W' st',aO U W s U' W' s'/\ay B w H Z M.wc U' W' st' s'/\(match f with | .next=>d = .none | .ret v=>aC B w U' s'.heap d v|_=>False)) (fun F F=>False) s
theorem tP(G:GW mg mb H){a:am}{names:List aq}{Y:Scope}{body:List ej}(Da:n8 H a names Y body)(hnd:names.Nodup){ps:List Nat}(hps:a8 (a5 (cY Y)) names=aa ps)
 (hc:Y.kind = .function/\gI (Y.names.map (·.1))=true) {args:List D} {d:D} (hlen:args.length=ps.length) (hB:n0 B w H R (cY Y) (ps.zip (args.map V.d)) body d):kT B w H (R+5) a args d:=by
 intro A U s vs hA hH hL hU g
 have hsn:=t4 hc.2
 refine Da.exK fun o name params pm cd doc ho k hcd S=>?_
 have l:=g9 hps
 have hnl:vs.length=names.length:=by refine rl (az g.length) ?_;refine rl l.length ?_;exact hlen
 have hb:=S vs hnl
 have alive:∀ {b:am},(∃ o,s.heap.get? b=aa o)->b < s.heap.objs.size:=fun hκ=>by refine ae hκ fun o e=>?_;clear hκ;exact bH e
 have t:∀ x∈names,∃ i,a5 (cY Y) x=aa i:=fun x hx=>by
  refine j9 hx fun j hj=>l.getK hj fun i _ hs=>⟨i,hs⟩
 have b11:∀ x∈names.zip vs,(i9 name params body Y pm cd doc).scope.names.lookup x.1=aa .local\/((i9 name params body Y pm cd doc).scope.names.lookup x.1=aa .cell/\((dx (s.heap.objs.size+1) (i9 name params body Y pm cd doc).scope.names []).lookup x.1).isSome=true):=fun x hx=>by
  refine ae (t x.1 (sW hx).1) fun i hi=>?_;rcases (cg hi).2.1 with h|⟨h,_⟩
  . exact .inl h
  . refine .inr ⟨h,?_⟩;obtain ⟨c,T⟩:∃ c,(x.1,c)∈dx (s.heap.objs.size+1) Y.names []:=td (mem_of_lookup h);show ((dx (s.heap.objs.size+1) Y.names []).lookup x.1).isSome=true;refine rl (ng T fun c' h'=>m9 hsn h' T) ?_;rfl
 refine wpAny_call (codeAny_call_cells (cN (c0 _ _) hA.d) (hH _ _ ho) k (G.nl.keeps hH) (hcd.keeps hH) rfl hb rfl b11 (fun s₁ x=>?_) Da.co Da.gen hc.1);generalize Q:callEnvC (i9 name params body Y pm cd doc) s.heap.objs.size a=Z at x ⊢;have a10:Z.locals=s.heap.objs.size:=by refine rl (az Q) ?_;rfl
 have J:Z.scope=Y:=by refine rl (az Q) ?_;rfl
 have N:Z.cells=dx (s.heap.objs.size+1) Y.names []:=by refine rl (az Q) ?_;rfl
 have eg:Z.globals=mainGlobals:=by refine rl (az Q) ?_;rfl
 have eb:Z.builtins=builtinsNs:=by refine rl (az Q) ?_;rfl
 have hk1:=x.toInCall.keep;let C:MS:={ vars:=names.zip (args.map X.d),own:=[],wr:=[] };let W1:List Addr:=s.heap.objs.size::(dx (s.heap.objs.size+1) Y.names []).map (·.2);have F:∀ b∈W1,s.heap.get? b=none:=fun b hb=>by
  have hge:s.heap.objs.size<=b:=by
   clear S hcd k;clear o ho g hU;clear hL;rcases aL.mp hb with rfl|hb
   . exact cH _
   . refine bB hb fun q hq L=>?_;subst L
     have:=x.above q.1 q.2 (by refine rl N ?_;exact hq);rw [a10] at this;exact c6 this
  cases e:s.heap.get? b with
  |none=>rfl
  |some o=>exact absurd (bH e) (ch.mpr hge)
 have cellAt:∀ y c,(y,c)∈dx (s.heap.objs.size+1) Y.names []->Z.cells.lookup y=aa c:=fun y c h=>by
  refine rl N (ng h fun c' h'=>m9 hsn h' h)
 have stab:bj U s.heap (W1++U) s₁.heap:=⟨fun u hu=>(bC.mp hu).elim (fun h=>.inr (F u h)) .inl,fun b o ο e=>hk1 b o e⟩;have m:∀ {x:aq} {X':X},(x,X')∈names.zip (args.map X.d)->∃ j da va,X' = .d da/\names[j]? = aa x/\args[j]? = aa da/\vs[j]? = aa va/\(x,va)∈names.zip vs/\aC B w U s.heap da va:=fun h=>by
  refine j9 h fun j hj=>ln hj fun h1 r=>?_;rw [cy] at r;refine aG r fun da hda e=>g.getK hda fun va hva b12=>ck j da va ⟨e.symm,h1,hda,hva,fM (o8.mpr ⟨h1,hva⟩),b12⟩
 have f10:((names.zip vs).map (·.1)).Nodup:=by
  refine rl (List.map_fst_zip (Ni hnl)) hnd
 have S1:ay B w H Z (cY Y).wc (W1++U) W1 C s₁:={
  base:=fun b o e=>hk1 b o (hH b o e)
  sub:=fun b hb=>im _ hb
  live:=fun b hb=>by
   rcases bC.mp hb with hb|hb
   . clear S hcd k ho;rcases aL.mp hb with rfl|hb
     . refine aP x.toInCall.ns fun o _ _ L=>ac L fun h _=>?_;clear L;rw [a10] at h;exact ⟨o,h⟩
     . refine bB hb fun q hq L=>?_;subst L;refine ae (x.cell q.1 q.2 (cellAt _ _ hq)) fun o L=>ac L fun h _=>?_;clear L;exact ⟨o,h⟩
   . refine ae (hL b hb) fun o e=>⟨o,hk1 b o e⟩
  old:=fun b hb=>by
   rcases bC.mp hb with hb|hb
   . cases e:H.get? b with
     |none=>rfl
     |some o=>have:=hH b o e;rw [F b hb] at this;exact nS this
   . exact hU b hb
  ek:=by refine rl J ?_;exact hc.1
  eg:=eg
  eb:=eb
  loc:=by refine rl a10 ?_;exact aY
  ns:=⟨_,x.toInCall.ns,fun p hp hk=>by
   refine aP (m hp) fun j da va L=>d4 L fun e h1 r h3 h4 h5=>?_;clear L;exact ⟨va,Fw hk f10 h4,by refine rl e ?_;exact h5.move stab⟩⟩
  cl:=fun p hp hk=>by
   refine aP (m hp) fun j da va L=>d4 L fun e h1 r h3 h4 h5=>?_;clear L;refine ae (t p.1 (fM h1)) fun i hi=>?_;rcases (cg hi).2.1 with h|⟨h,_⟩
   . exact absurd (by unfold eH;refine rl J ?_;exact h) hk
   . refine w6 (n:=s.heap.objs.size+1) (mem_of_lookup h) fun c T=>?_;have hcc:=cellAt _ _ T
     have:=x.cell p.1 c hcc;rw [Fy hk f10 h4] at this;exact aR c va ⟨hcc,this,by refine rl e ?_;exact h5.move stab⟩
  cellU:=fun y c e=>by
   refine ⟨?_,_,x.cell y c e⟩;rw [N] at e;exact im _ (aN _ (dj.mpr ⟨_,mem_of_lookup e,rfl⟩))
  cellI:=fun y z c e e'=>name_of_addr x.apart (mem_of_lookup e) (mem_of_lookup e')
  cellW:=fun y hy=>by
   refine bB hy fun q hq e=>jv hq fun h1 r=>?_;have h3:q.2 = .cell:=by simpa using r
   have h4:(y,gw)∈Y.names:=by refine rl (az e) ?_;refine rl (az h3) ?_;exact h1
   obtain ⟨c,T⟩:∃ c,(y,c)∈dx (s.heap.objs.size+1) Y.names []:=td h4;exact ⟨c,cellAt _ _ T,aN _ (dj.mpr ⟨_,T,rfl⟩)⟩
  own:=fun p hp=>by exact (a7 hp).elim
  ownN:=xc
  wr:=fun b hb=>by exact (a7 hb).elim }
 have M1:bg (cY Y) (ps.zip (args.map V.d)) Z C (fun ο => 0):={
  names:=by refine rl J ?_;rfl
  fk:=by refine rl J ?_;exact hc.1
  var:=fun y i hy v hv=>by
   refine j9 (qC hv) fun j hj=>ln hj fun h1 r=>?_;rw [cy] at r;clear hj;clear hb;refine aG r fun da hda L=>?_;subst L;refine l.getRK h1 fun z hz hs=>?_;have:z=y:=xZ (mem_of_lookup (cg hs).2.2) (mem_of_lookup hy);clear hs r h1;subst this;exact fM (o8.mpr ⟨hz,by refine rl cy ?_;refine rl hda ?_;rfl⟩)
  own:=fun i e hi=>by
   have:=(sW (qC hi)).2;refine bB this fun _ _ e=>Mine.V.noConfusion e
  ro:=fun i j e f hi ο ο => by
   have:=(sW (qC hi)).2;refine bB this fun _ _ e=>Mine.V.noConfusion e
  inj:=fun y z i hy hz=>xZ (mem_of_lookup hy) (mem_of_lookup hz)
  lt:=fun y i hy=>by have:=(pV (mem_of_lookup hy)).2.2;exact rF this
  ltS:=fun i v hv=>by
   have:=(sW (qC hv)).1;refine j9 this fun j hj=>l.getRK hj fun z hz hs=>?_
   have:=(pV (mem_of_lookup (cg hs).2.2)).2.2;exact rF this }
 refine aF (hB (A.deeper Z) Z C (aW.deeper (n:=R+4) hA Z) M1 (W1++U) W1 s₁ S1) (fun f s' P=>?_) fun ο ο e=>e.elim;refine aP P fun U2 W2 st2 L=>aE L fun T2 S2 F2=>?_;clear P L;have kk:bb s s':=by
  refine aM x.toInCall.same fun h1 t1 e1=>aM T2.same fun r t2 e2=>aR r t2 ⟨by rw [e2,e1],fun b o hb=>?_⟩
  have:=T2.keep b o (fun hm=>by rw [F b hm] at hb;exact nS hb) (hk1 b o hb);rw [e2] at this;exact this
 have c11:∀ u∈U,u∈U2:=fun u hu=>T2.uu u (fi _ hu) fun hm=>by refine ae (hL u hu) fun o e=>?_;rw [F u hm] at e;exact nS e
 cases f with
 |next =>
  have:d = .none:=F2;clear F2 S2 T2;clear st2;subst this;exact ⟨kk,kG.mpr rfl⟩
 |ret v=>exact ⟨kk,aC.move (bj.less c11) _ _ F2⟩
 |brk=>exact F2.elim
 |cont=>exact F2.elim
theorem H3(l:WD B w H mg mb gl Φ R){names:List aq}{Y:Scope}(i:n8 H a names Y body)(J:names.Nodup)(k:vW gl names Y body=aa f){n:Nat}
 (hr:mm Φ n f args=aa d):kT B w H (R+5) a args d:=by
 have T:∀ q,a8 (a5 (cY Y)) names=q->(match q with|some p=>if (Y.kind == .function && gI (Y.names.map (·.1)))=true then aa (⟨p,body.map (cS gl 60 (cY Y))⟩:Fn) else ab|_=>ab)=aa f ->
  ∃ V,a8 (a5 (cY Y)) names=aa V/\(Y.kind == .function && gI (Y.names.map (·.1)))=true/\f=⟨V,body.map (cS gl 60 (cY Y))⟩:=fun q hq h=>by
  clear l
  rcases q with _|V
  . clear hr k J i
    clear d args n;exact nS h
  . clear hr k J i;clear d args n;refine bJ h fun hc h=>?_;replace h:=sI h;subst h;exact ⟨V,hq,hc,rfl⟩
 refine ae (T _ rfl k) fun V g=>aE g fun X hc Q=>?_;clear g;subst Q;refine bL hr fun hlen hr=>aG hr fun Q L hr=>?_;obtain ⟨I,fl⟩:=Q;have b:Y.kind = .function/\gI (Y.names.map (·.1))=true:=⟨eq (bA hc).1,(bA hc).2⟩;refine tP l.G i J X b hlen fun A Z C hA F U W s S=>?_;have y:=zZ (B:=B) (w:=w) (H:=H) (Φ:=Φ) (R:=R) (M:=cY Y) (cs:=body.map (cS gl 60 (cY Y))) (ts:=body) (ON l 60 body);refine aF (y A Z n _ I fl C _ hA F L U W s S) (fun f s' P=>?_) fun z z e=>e;refine bW.eK P fun U2 t N c o m x u j=>?_;clear P;refine ck U2 t N ⟨o,m,?_⟩;clear k J i;cases fl with
 |next =>
  have:f = .next:=j;clear j u x m o L;clear c N t;subst this;exact hr.symm
 |ret d' =>
  clear u x m o L hlen;clear hc X y b T;refine ae j fun v g=>ac g fun Q r=>?_;clear j g;subst Q;have:d'=d:=hr;clear c N t hr;clear hr;clear hr;subst this;exact r
noncomputable def eS(as:List am):SP where
 P:=fun U h v=>∃ D n,v = .ref D/\D ∉ U/\h.get? D=aa (cL (as.map .ref) n)
 mv:=fun St ⟨D,n,e,F,G⟩=>⟨D,n,e,St.notin F G,St.keep _ _ F G⟩
theorem rh:∀ {as:List am} {vs:List ar},ai (aT B w U h) (as.map .o) vs↔vs=as.map .ref
 |[],vs=>⟨fun q=>by replace q:=q.n;subst q;rfl,fun e=>by subst e;exact .nil⟩
 |a::as,vs=>⟨fun q=>by
  cases q with
  |cons h1 D=>refine rl (fv.mp h1) ?_;refine rl (rh.mp D) ?_;rfl,fun e=>by subst e;exact .cons (fv.mpr rfl) (rh.mpr rfl)⟩
theorem Az{D:am}{n:Nat}(G:D ∉ U)(F:h.get? D=aa (cL vs n))(hr:ai (aT B w U h) (as.map .o) vs):aT B w U h (.p (eS as)) (.ref D):=by rw [rh.mp hr] at F;exact aR D n ⟨rfl,G,F⟩
theorem vf(hh:A.handled=ab)(V:EV B w H A Z wc C e (.o L))(hm:(L,OB.list xs)∈C.own):df B w H A Z wc C tgt e xs [L]:=fun U W s S =>
 (V U W s S).mono fun v s₁ D G=>by
  have:=fv.mp G;subst this;refine lk fun _ J=>aE ((S.keeps D).own _ hm) fun _ _ F=>b0.liK F fun vs n T hr=>?_;clear F;refine J (aF (ue (tgt:=tgt) (ao:=[L]) hh T hr (.inr (aV.mpr rfl))) (fun it s₂ q=>?_) fun P P e=>e);refine lk fun _ J=>ac q fun k F=>?_;clear q;refine dK F fun I fp wr St N=>cX N fun e wk a Q c=>?_;clear F N;refine J (⟨bp D k,I,fp,wr,St,e,wk,a,fun b hb=>?_,c⟩);cases e:s.heap.get? b with
  |none=>rfl
  |some o=>have:=cj D b o e;rw [Q b hb] at this;exact nS this
theorem Le(hh:A.handled=ab)(V:EV B w H A Z wc C e (.p (eS as))):df B w H A Z wc C tgt e (as.map .o) []:=fun U W s S =>
 (V U W s S).mono fun v s₁ F G=>by
  refine aM G fun D n J=>aE J fun L N T=>?_;clear G J;subst L;refine aF (ue (tgt:=tgt) (xs:=as.map .o) (ao:=[]) hh T (rh.mpr rfl) (.inl N)) (fun it s₂ q=>?_) fun P P e=>e;refine ac q fun k L=>?_;clear q;refine dK L fun I fp wr St J=>cX J fun e wk X Q a=>?_;clear L J;refine ⟨bp F k,I,fp,wr,St,e,wk,X,fun b hb=>?_,a⟩;cases e:s.heap.get? b with
  |none=>rfl
  |some o=>have:=cj F b o e;rw [Q b hb] at this;exact nS this
theorem Mt.setO(F:Mt M O Z C){i:Nat}(h:M.sl.lookup x=aa i)(hm:(a,ob)∈C.own)(hd:cv ob=aa d):Mt M (ag O i (.o d)) Z (C.set x (.o a)) where
 names:=F.names
 fk:=F.fk
 inj:=F.inj
 lt:=F.lt
 ltS:=fun j v hv=>by
  rw [br] at hv;split at hv
  . rename_i e;refine rl e (F.lt x i h)
  . exact F.ltS j v hv
 var:=fun y j G v hv=>by
  rw [br] at hv;split at hv
  . rename_i e;subst e;replace hv:=sI hv;subst hv;refine rl (F.inj y x j G h) (aR a ob ⟨ix,hm,hd⟩)
  . rename_i e;have J:y≠x:=fun q=>e (by rw [q,h] at G;replace G:=sI G;subst G;rfl)
    have:=F.var y j G v hv;rcases v with d'|d'
    . exact fS this J
    . refine aM this fun a ob L=>aE L fun h1 N P=>?_;clear this L;exact aR a ob ⟨fS h1 J,N,P⟩
theorem Lf{n:Nat}(V:aW (R+4) A)(F:Mt M O G stc){i:Nat}(P:a5 M x=aa i)(L:∀ p∈stc.vars,x≠p.1)(hm:(a,ob)∈stc.own)(hd:cv ob=aa d)
 (N:ai (aD B w H Φ R M) Q J) (hb:eQ (aJ Φ n (ag O i (.o d))) J=aa b)
 (ht:b=true->∃ y,EV B w H A G M.wc (stc.set x (.o a)) elt y/\zs = [y]) (c:b=false->zs = []):eR B w H A G M.wc stc (.Name x S) Q elt (.o a) zs:=by
 refine aR ([(x,.o a)]) b ⟨.name,⟨fun q hq=>by refine rl (aV.mp hq) ?_;exact F.storable P,fun q hq p T=>by refine rl (aV.mp hq) ?_;exact L p T⟩,AW V (F.setO (cg P).2.2 hm hd) N hb,ht,c⟩
theorem fu{i:Nat}(D:Z.scope.names=M.names)(F:a5 M x=aa i)(hm:(x,y)∈C.vars):EV B w H A Z wc C (.Name x G) y:=by
 refine pP F fun hb hk _=>?_;rcases hk with h|⟨h,_⟩
 . exact uI hm (by unfold eH;refine rl D ?_;exact h) (f5 hb)
 . exact ut hm (by unfold eH;refine rl D ?_;exact h) (f5 hb)
theorem GG(S:ay B w H Z wc U W C s){elt tgt i₁:Expr}{ifs:List Expr}{N:List kr}{pos pos':aK}{xs zs:List X}{ao:List am}(hi:∀ x,gu i₁ Z x=pure x)(F:jj Z C stc Y wcn)
 (i:df B w H A Z wc C tgt i₁ xs ao) (hl:e5 B w H A Z wcn stc (.ListComp elt (⟨tgt,i₁,ifs,0⟩::N) Y pos) tgt Y xs zs) {y:aq} {py:aK} {y':X} (hy:eX Z wc y)
 (t:∀ {U h D vs n},D ∉ U->h.get? D=aa (cL vs n)->ai (aT B w U h) zs vs->aT B w U h y' (.ref D)) {Q:ar->aw->Prop}
 (hq:∀ U' s',aO U W s U' W s'->ay B w H Z wc U' W (C.set y y') s'->Q .none s') :
 ak (av B w) A (xn (.ListComp elt (⟨tgt,i₁,ifs,0⟩::N) Y pos) Y Z pos' (nQ []) false (b5 i₁ Z) (aa (gL (.Name y py) Z))) Q (fun j j=>False) s:=by
 refine qk hi S F i hl fun s' D L e=>?_
 refine ae e.ns fun m v=>?_
 refine aM e.li fun vs n P=>ac P fun V hr=>?_;clear P
 have alive:∀ {b:am},(∃ o,s.heap.get? b=aa o)->b≠L:=fun g q=>by refine ae g fun o hb=>?_;clear g;exact by rw [q,e.cn] at hb;exact nS hb
 have S':ay B w H Z wc ([L]++U) W C s':=S.addU e.k (fun b hb=>by refine rl (aV.mp hb) ?_;exact e.cn) fun b hb=>by refine rl (aV.mp hb) ?_;refine aP v fun o _ _ P=>ac P fun V _=>?_;clear v P;exact ⟨o,V⟩
 have l:D ∉ [L]++U:=fun hm=>by
  rcases bC.mp hm with hm|hm
  . exact e.ne (aV.mp hm)
  . refine S.liveK D hm fun o hb=>?_;rw [e.dn] at hb;exact nS hb
 have d:∀ u ∈ [L]++U,u∈D::L::U:=fun u J=>by
  rcases bC.mp J with J|J
  . refine rl (aV.mp J) (.tail _ (.head _))
  . exact aN _ ‹_›
 have f:L ∉ W:=fun hm=>alive (S.live L (S.sub L hm)) rfl;refine mX (ft S' hy (t l V (hr.imp fun j j q=>q.move (bj.less d))) fun s'' G r=>?_);refine ⟨m,v.at' fun o V=>G.keep L o f V,fun h' hs=>?_⟩;have hk:∀ b o,b ∉ [L]->s''.heap.get? b=aa o->h'.get? b=aa o:=fun b o hb e=>hs.extBut b o (fun q=>hb (by simp [q])) e;have S3:=r.dropU (T:=[L]) (h:=h') (tk:=s''.toks) (fun a ha=>im _ ha) hk (fun a ha=>by refine rl (aV.mp ha) ?_;exact f)
  (fun x c hc hm=>by refine ac (S.cellU x c hc) fun J _=>?_;exact alive (S.live c J) (aV.mp hm)) (fun p hp hm=>alive (S.live _ (S.own p hp).1) (aV.mp hm))
 refine hq _ _ ?_ S3;have k':=cj e.k;exact {
  same:=by
   refine aM e.k fun h1 t1 P=>ac P fun e1 _=>?_;clear P;refine aM G.same fun h2 t2 e2=>aR h' s''.toks (by refine rl e2 ?_;refine rl e1 ?_;rfl)
  uu:=fun u J hw=>gA.mpr ⟨G.uu u (fi _ J) hw,fun hm=>alive (S.live u J) (aV.mp hm)⟩
  un:=fun u J=>by
   refine ac (gA.mp J) fun h1 h2=>?_;rcases bC.mp h1 with h1|h1
   . exact absurd h1 h2
   . exact .inl h1
  al:=fun a o ha=>by
   refine ae (G.al a o (k' a o ha)) fun o' z=>⟨o',hk a o' (fun hm=>alive ⟨o,ha⟩ (aV.mp hm)) z⟩
  wn:=fun j h=>.inl h
  keep:=fun b o hb V=>hk b o (fun hm=>alive ⟨o,V⟩ (aV.mp hm)) (G.keep b o hb (k' b o V)) }
theorem H4{elt i₁ tgt:Expr}{ifs:List Expr}{G:List kr}{pos:aK}{xs zs:List X}{ao:List am}{y':X}
 (hi:∀ x,gu i₁ Z x=pure x) (F:jj Z C stc Y wcn) (N:df B w H A Z wc C tgt i₁ xs ao)
 (hl:e5 B w H A Z wcn stc (.ListComp elt (⟨tgt,i₁,ifs,0⟩::G) Y pos) tgt Y xs zs)
 (V:∀ {U h D vs n},D ∉ U->h.get? D=aa (cL vs n)->ai (aT B w U h) zs vs->aT B w U h y' (.ref D)) :
 EV B w H A Z wc C (.ListComp elt (⟨tgt,i₁,ifs,0⟩::G) Y pos) y':=fun U W s S=>by
 refine rl (eval_ListComp ..) ?_
 refine qk hi S F N hl fun s' D L e=>?_
 refine ae e.ns fun m d=>?_
 refine ⟨m,d,fun h' T=>?_⟩
 have k':bb s { s' with heap:=h' }:=by
  refine lk fun _ Q=>aM e.k fun h t J=>ac J fun a hk=>?_;clear J;refine Q ?_;refine aR h' t ⟨by rw [a],fun b o hb=>T.extBut b o (fun q=>?_) (by refine rl a ?_;exact hk b o hb)⟩;rw [q,e.cn] at hb;exact nS hb
 refine lk fun _ Q=>aM e.li fun vs n J=>ac J fun P hr=>?_;clear J;refine Q (⟨k',V (fun hm=>?_) (T.extBut _ _ e.ne P) (hr.imp fun c c q=>q.move (yb T))⟩);refine S.liveK _ hm fun o P=>?_;rw [e.dn] at P;exact nS P
theorem uj(S:ay B w H Z wc U W C s){elt tgt i₁:Expr}{ifs:List Expr}{G:List kr}{pos q p:aK}{xs zs:List X}{ao:List am}(hi:∀ x,gu i₁ Z x=pure x)(F:jj Z C stc Y wcn)
 (L:df B w H A Z wc C tgt i₁ xs ao) (hl:e5 B w H A Z wcn stc (.ListComp elt (⟨tgt,i₁,ifs,0⟩::G) Y q) tgt Y xs zs) {y:aq} {y':X} (d:eX Z wc y)
 (a:∀ {U h D vs n},D ∉ U->h.get? D=aa (cL vs n)->ai (aT B w U h) zs vs->aT B w U h y' (.ref D)) {Q:gT->aw->Prop}
 (hq:∀ U' s',aO U W s U' W s'->ay B w H Z wc U' W (C.set y y') s'->Q .next s') :
 ak (av B w) A (exec (.Assign [.Name y p] (.ListComp elt (⟨tgt,i₁,ifs,0⟩::G) Y q) pos) Z) Q (fun N N=>False) s:=by
 refine xY (Z:=Z) (elt:=elt) (gens:=⟨tgt,i₁,ifs,0⟩::G) (Y:=Y) (p:=q) (q:=p) (x:=y) (l:=pos.line) fun b hb=>?_
 rcases b with _|_
 . refine lB ((H4 hi F L hl a U W s S).mono fun v s₁ J P=>?_) hb
   exact ft (S.keeps J) d P fun s₂ V c=>hq U s₂ ((aO.of_keeps J).trans V S.live) c
 . refine rl (CP _ _ _ _ hb) (af (iu (af ?_)));exact af (aF (GG (Q:=fun N s'=>Q .next s') S hi F L hl d a fun U' s' T f=>hq U' s' T f) (fun N s' hq=>au (au hq)) fun N N e=>e)
def f1(C:MS)(s:aw)(st':MS):Prop:=∀ p∈st'.own,(∃ q∈C.own,q.1=p.1)\/s.heap.get? p.1=ab
def bF(B:bm)(w:bh)(H:aB)(Z:aS)(wc:List aq)(C:MS)(U W:List am)(s:aw)(F:gT->MS->List am->aw->Prop)(f:gT)(s':aw):Prop :=
 ∃ U' W' st',aO U W s U' W' s'/\ay B w H Z wc U' W' st' s'/\f1 C s st'/\F f st' U' s'
theorem bF.eK{B:bm}{w:bh}{H:aB}{Z:aS}{wc:List aq}{C:MS}{U W:List am}{s:aw}{s':aw}(Q:bF B w H Z wc C U W s F f s'){G:Prop}(D:∀ U' W' st',aO U W s U' W' s'->ay B w H Z wc U' W' st' s'->f1 C s st'->F f st' U' s'->G):G:=aP Q fun L z1 z2 J=>bR J fun T N S P=>D L z1 z2 T N S P
theorem bF.iK{B:bm}{w:bh}{H:aB}{Z:aS}{wc:List aq}{C:MS}{U W:List am}{s:aw}{s':aw}:∀ U' W' st',aO U W s U' W' s'->ay B w H Z wc U' W' st' s'->f1 C s st'->F f st' U' s'->bF B w H Z wc C U W s F f s':=fun D z1 z2 N G L J=>⟨D,z1,z2,N,G,L,J⟩
theorem f1.refl:f1 C s C:=fun p D=>.inl ⟨p,D,rfl⟩
theorem f1.trans(a:f1 C s st')(T:aO U W s U' W' s')(b:f1 st' s' st''):f1 C s st'':=fun p F=>by
 refine lk fun _ D=>?_;rcases b p F with ⟨q,hq,e⟩|e
 . rcases a q hq with ⟨r,hr,e'⟩|e'
   . refine D (.inl ⟨r,hr,e'.trans e⟩)
   . refine D (.inr (e ▸ e'))
 . refine D (.inr (T.dead e))
theorem bF.after(L:dM U s)(T:aO U W s U' W' s')(Q:f1 C s st')(P:bF B w H Z wc st' U' W' s' F f s''):bF B w H Z wc C U W s F f s'':=by refine bF.eK P fun U2 N D V S J G=>?_;clear P;exact bF.iK U2 N D (T.trans V L) S (Q.trans T J) G
theorem bF.mono{F G:gT->MS->List am->aw->Prop}(P:bF B w H Z wc C U W s F f s'')(T:∀ f C U s,F f C U s->G f C U s):bF B w H Z wc C U W s G f s'':=by refine bF.eK P fun U2 N D S Q L J=>?_;clear P;exact bF.iK U2 N D S Q L (T _ _ _ _ J)
def dU(J:MS->Prop)(G:ar->List am->aw->Prop)(f:gT)(C:MS)(U:List am)(s:aw):Prop:=match f with
 | .next=>J C
 | .ret v=>G v U s
 |_=>False
theorem uA{t i:Expr}{body:List ej}{xs:List X}{ao:List am}{pos:aK}(hh:A.handled=ab)(R:∀ x,gu i Z x=pure x)(S:ay B w H Z wc U W C s)(V:df B w H A Z wc C t i xs ao)(hao:∀ b∈ao,b ∉ W)
 (J:Nat->MS->Prop) (G:ar->List am->aw->Prop) (J0:J 0 C)
 (Y:∀ j x,xs[j]? = aa x->∀ D,J j D->∃ bs,e8 t x bs/\(∀ b∈bs,eX Z wc b.1) /\ ∀ U2 m s3,ay B w H Z wc U2 m (D.setL bs) s3 ->
  ak (av B w) A (gq body Z) (bF B w H Z wc (D.setL bs) U2 m s3 (dU (J (j+1)) G)) (fun F F=>False) s3) :
 ak (av B w) A (exec (.For t i body [] pos) Z) (bF B w H Z wc C U W s (dU (J xs.length) G)) (fun F F=>False) s:=by
 refine wpAny_For (aF (V U W s S) (fun x s₁ z=>aF z (fun it s₂ O=>?_) fun F F e=>e.elim) fun F F e=>e.elim) R;refine lk fun _ K=>?_;clear V R pos;refine ac O fun k M=>?_;clear O;refine dK M fun I fp wr St q2=>cX q2 fun N wk h0 E n=>?_;clear M q2;subst N;have d:∀ {b:am},(∃ o,s.heap.get? b=aa o)->b ∉ wr:=fun L hm=>by refine ae L fun o e=>?_;clear L;exact by rw [E _ hm] at e;exact nS e
 have l:LS B w Z A t U W s (wr++U) s₂.heap I fp wr xs St:=⟨wk,E,S.lives,fun x c e=>by refine ac (S.cellU x c e) fun hu _=>?_;exact d (S.live c hu)⟩;have v0:LI B w H Z wc U W s (wr++U) s₂.heap fp wr St C 0 (wr++U) W s₂:={
  T:={
   same:=by refine iO k fun h t e _=>?_;clear k;exact aR h t e
   uu:=fun F h F=>fi _ h
   un:=fun u hu=>(bC.mp hu).elim (fun h=>.inr (E u h)) .inl
   al:=fun a o e=>⟨o,cj k a o e⟩
   wn:=fun F h=>.inl h
   keep:=fun b o F e=>cj k b o e }
  sb:=bj.ext fun F F e=>e
  S:=S.addU k E (wk.live 0 _ h0)
  h:=h0
  wu:=fun b hb=>im _ hb
  ff:=fun b hb=>by
   refine ac (n b hb) fun ho h=>?_;refine ⟨fun hm=>?_,ho⟩;have hU:=S.sub b hm;clear ho n E h0 wk;rcases h with h|h|h
   . exact d (S.live b hU) h
   . exact h hU
   . exact hao b h hm
  ow:=fun p hp=>d (S.live _ (S.own p hp).1) }
 have a10:er (av B w) A (.forLoop t (.ref I) body [] Z) (fun r s'=>match r with | .ok f=>bF B w H Z wc C U W s (dU (J xs.length) G) f s' | .error e=>cameBackBy (av B w) A Z (fun F F=>False) e s') s₂:=by
  refine zr (fun j s'=>∃ i D U2 m,i<=xs.length/\j=xs.length - i/\LI B w H Z wc U W s (wr++U) s₂.heap fp wr St D i U2 m s'/\f1 C s D/\J i D) ?_ xs.length ⟨0,C,_,_,cG _,rfl,v0,.refl,J0⟩;intro j s' L;refine lk fun _ K=>?_;clear n E h0 wk k;refine dK L fun i D U2 m M=>cX M fun hi N v O2 hJ=>?_;clear L M;subst N;by_cases y:i < xs.length
  . refine ae (Y i xs[i] (dt y) D hJ) fun bs N=>aE N fun g hst hb=>?_;clear N;refine K ?_;refine aF (LI.turn hh v l (x:=xs[i]) (dt y) g hst (Q:=?Q) ?a) ?b fun F F e=>e;case b =>
     intro r s₁ h;refine lk fun _ K=>?_;refine ae h fun v M=>?_;clear h;refine ac M fun N h=>?_;clear M;subst N;refine K ?_;exact h
    case a =>
     intro s3 v3;refine aF (hb U2 m s3 v3.S) (fun f e12 P=>?_) fun F F e=>e;refine lk fun _ K=>?_;refine bF.eK P fun U4 W4 st4 T4 S4 O4 F4=>?_;clear P;have O5:f1 C s st4:=fun p hp=>by
      refine lk fun _ K=>?_;rcases O4 p hp with ⟨q,hq,e⟩|e
      . rw [lW] at hq;rcases O2 q hq with ⟨r,hr,e'⟩|e'
        . refine K ?_;exact .inl ⟨r,hr,e'.trans e⟩
        . refine K ?_;exact .inr (by refine rl (az e) ?_;exact e')
      . refine K ?_;exact .inr (v3.T.dead e)
     clear O2;cases f with
     |next=>refine K ?_;exact ⟨xs.length - (i+1),by first|assumption|exact oA ‹_›,i+1,st4,U4,W4,y,rfl,v3.step l T4 S4 O4,O5,F4⟩
     |cont=>exact F4.elim
     |brk=>exact F4.elim
     |ret v=>refine K ?_;exact ck U4 W4 st4 ⟨v3.T.trans T4 S.live,S4,O5,F4⟩
  . have hie:i=xs.length:=by exact oE ‹_› ‹_›
    subst hie;refine K ?_;refine LI.finish v l fun s'' T S'=>?_;exact ck _ m D ⟨T,S',O2,hJ⟩
 refine K ?_;exact a10
theorem ay.lessW(S:ay B w H Z wc U W C s){L:am}(F:L≠Z.locals)(hc:∀ x c,Z.cells.lookup x=aa c->c≠L):ay B w H Z wc U (W.filter (· ≠ L)) { C with wr:=C.wr.filter (· ≠ L) } s :=
 { S with
   sub:=fun a ha=>S.sub a (b3.mp ha).1
   loc:=b3.mpr ⟨S.loc,by exact decide_eq_true (id (dp F))⟩
   cellW:=fun x G=>by refine ae (S.cellW x G) fun c D=>ac D fun e J=>?_;clear D;exact ⟨c,e,b3.mpr ⟨J,by exact decide_eq_true (hc x c e)⟩⟩
   wr:=fun a ha=>by refine jv ha fun h1 N=>?_;exact b3.mpr ⟨S.wr a h1,N⟩ }
theorem ay.moreW(S:ay B w H Z wc U W C s)(D:L∈U):ay B w H Z wc U (L::W) { C with wr:=L::C.wr } s :=
 { S with
   sub:=fun a ha=>by
    rcases aL.mp ha with rfl|ha
    . exact D
    . exact S.sub a ha
   loc:=aN _ S.loc
   cellW:=fun x F=>let ⟨c,e,hw⟩:=S.cellW x F;⟨c,e,aN _ hw⟩
   wr:=fun a ha=>by
    rcases aL.mp ha with rfl|ha
    . exact aY
    . exact aN _ (S.wr a ha) }
theorem aO.wideW{L:am}(T:aO U (W.filter (· ≠ L)) s U' W' s')(D:L∈W):aO U W s U' (L::W') s' where
 same:=T.same
 uu:=fun u F G=>T.uu u F fun h=>G (b3.mp h).1
 un:=T.un
 al:=T.al
 wn:=fun a ha=>by
  rcases aL.mp ha with rfl|ha
  . exact .inl D
  . exact (T.wn a ha).imp (fun h=>(b3.mp h).1) id
 keep:=fun b o hb e=>T.keep b o (fun h=>hb (b3.mp h).1) e
theorem ai.setAt{α J:Type}{R G:α->J->Prop}{as:List α}{bs:List J}(q:ai R as bs):∀ j b',(∀ i a b,i≠j->as[i]? = aa a->bs[i]? = aa b->R a b->G a b)->(∀ a b,as[j]? = aa a->bs[j]? = aa b->G a b')->ai G as (bs.set j b'):=by
 induction q with
 |nil=>exact fun N N N N=>.nil
 | @cons a b as bs h t ih =>
  intro j b' h1 L;rcases j with _|j
  . refine .cons (L _ _ rfl rfl) ?_;clear ih h L;have h1:∀ (i:Nat) x y,as[i]? = aa x->bs[i]? = aa y->R x y->G x y:=fun i x y F D=>h1 (i+1) x y (i0 i) F D;induction t with
    |nil=>exact .nil
    |cons g _ ih=>exact .cons (h1 0 _ _ rfl rfl g) (ih (fun i a b hi F D=>by cases i with|zero=>exact absurd rfl hi|succ i=>exact h1 (i+1) a b F D) fun i a b F D=>h1 (i+1) a b F D)
  . exact .cons (h1 0 _ _ (i0 j).symm rfl rfl h) (ih j b' (fun i a b hi F D=>h1 (i+1) a b (fun e=>hi (nm e)) F D) fun a b F D=>L a b F D)
noncomputable def aU{α:Type}:List α->List Bool->List α
 |a::as,b::bs=>if b=true then a::aU as bs else aU as bs
 |_,_=>[]
section
structure bE (C:MS) (xl:aq) (L:am) (as:List am) (ls:List (List D)):Prop where
 var:(xl,X.o L)∈C.vars
 own:(L,OB.list (as.map .o))∈C.own
 wrL:L∈C.wr
 lot:ai (fun a (l:List D)=>(a,OB.list (l.map .d))∈C.own/\a∈C.wr) as ls
 nd:(L::as).Nodup
variable {xl:aq} {L:am} {as:List am} {ls:List (List D)}
theorem bE.set(l:bE C xl L as ls)y(D:x≠xl):bE (C.set x y) xl L as ls:=⟨fS l.var fun e=>D e.symm,l.own,l.wrL,l.lot,l.nd⟩
theorem bE.notL(l:bE C xl L as ls)(ha:a∈as):L≠a:=fun e=>(gZ.mp l.nd).1 (e ▸ ha)
theorem bE.appOld(l:bE C xl L as ls)(ha:as[j]? = aa a)(hl:ls[j]? = aa l')k:bE (C.setO a (.list (l'.map .d ++ [.d k]))) xl L as (ls.set j (l' ++ [k])) where
 var:=l.var
 own:=nc l.own (l.notL (fM ha))
 wrL:=l.wrL
 nd:=l.nd
 lot:=l.lot.setAt j _ (fun i b m hi hb hm q=>⟨nc q.1 fun e=>hi (by
  subst e;exact (wK (fL.mp hb).1 (gZ.mp l.nd).2).mp (hb.trans ha.symm)),q.2⟩) fun b m hb hm=>by
  rw [ha] at hb;replace hb:=sI hb;subst hb;refine ae (l.lot.get ha) fun m' F=>aE F fun J h1 G=>?_;clear F;refine ⟨?_,G⟩;refine rl i4 (tg h1)
theorem bE.appNew(l:bE C xl L as ls){a:am}(N:a ∉ C.own.map (·.1))(k:D):bE ((C.addO a (.list [.d k])).setO L (.list (as.map .o ++ [.o a]))) xl L (as ++ [a]) (ls ++ [[k]]):=by
 have F:a≠L:=fun e=>N (e ▸ dj.mpr ⟨_,l.own,rfl⟩);have G:a ∉ as:=fun hm=>by
  refine lk fun _ Q=>ae (l.lot.left a hm) fun m J=>aE J fun _ h1 _=>?_;clear J;refine Q (N (dj.mpr ⟨_,h1,rfl⟩))
 refine ⟨l.var,?_,aN _ l.wrL,?_,?_⟩
 . refine rl i4 (tg (aN _ l.own))
 . refine ai.append ?_ (.cons ⟨?_,aY⟩ .nil)
   . have:∀ {bs:List am} {ms:List (List D)},ai (fun a (l:List D)=>(a,OB.list (l.map .d))∈C.own/\a∈C.wr) bs ms->(∀ b∈bs,b∈as)->ai (fun b (m:List D)=>(b,OB.list (m.map .d))∈((C.addO a (.list [.d k])).setO L (.list (as.map .o ++ [.o a]))).own/\b∈a::C.wr) bs ms:=by
      intro bs ms q;induction q with
      |nil=>intro _;exact .nil
      |cons g _ ih =>
       intro hh;exact .cons ⟨nc (aN _ g.1) fun e=>l.notL (hh _ aY) e.symm,aN _ g.2⟩ (ih fun b hb=>hh b (aN _ hb))
     exact this l.lot fun b hb=>hb
   . exact nc aY F
 . have P:=gZ.mp l.nd;refine rp (gZ ..) ?_;refine ⟨fun hm=>?_,wO.mpr ⟨P.2,by simp,fun x S y T e=>G ?_⟩⟩
   . rcases bC.mp hm with hm|hm
     . exact P.1 hm
     . exact F (aV.mp hm).symm
   . rw [aV.mp T] at e;exact e ▸ S
theorem z3(t:WD B w H mg mb gl Φ R){m n:Nat}{i:Nat}(y:a5 M x=aa i)(j:cE gl m M e=aa e')(o:aW (R+4) A)(G:Mt M O Z C)(hd:an Φ n O e'=aa d)
 (S:ay B w H Z M.wc U W C s) {Q:gT->aw->Prop} (hq:∀ U' s',aO U W s U' W s'->ay B w H Z M.wc U' W (C.set x (.d d)) s'->Q .next s') :
 ak (av B w) A (exec (.Assign [.Name x p] e pos) Z) Q (fun l l=>False) s:=by
 have plain:lT e (aa (.Name x p)) pos.line Z=pure false->ak (av B w) A (exec (.Assign [.Name x p] e pos) Z) Q (fun l l=>False) s:=fun k=>by
  refine lB (((cQ t m M e e' j A Z C _ n o G).1 d hd U W s S).mono fun v s₁ J N=>?_) k;exact ft (S.keeps J) (G.storable y) N fun s₂ T g=>hq U s₂ ((aO.of_keeps J).trans T S.live) g
 refine lk fun _ u=>?_;by_cases hc:∃ a b c d,e = .ListComp a b c d
 . clear plain;refine dK hc fun elt gens Y q L=>?_;clear hc;subst L;refine tC t j o G hd fun zs L P=>?_;subst L;clear hd o j;clear e';refine gp.eK P fun tgt i₁ ifs r stc wcn xs ao L hi F X hl=>?_;clear P;subst L;refine u (uj S hi F X hl (y':=.d (.list zs)) (G.storable y) (fun z ho hr=>jQ.mpr ⟨_,_,_,rfl,z,ho,jI hr⟩) hq)
 . refine u ?_;exact plain (t7 (fun a b c d V=>hc ⟨a,b,c,d,V⟩) (fun a b c d V=>by subst V;exact tO j) (fun a b c d f V=>by subst V;exact tD j))
theorem Bb{x:aq}{K:aK}{i n:Nat}(T:aW (R+4) A)(I:uw M O Z C Y)(S:a5 (aQ M Y) x=aa i){L:List Expr}{F:List Ex}(P:ai (aD B w H Φ R (aQ M Y)) L F)
 {elt i₁:Expr} {q:aK} {as:List am} {ls:List (List D)} {zss:List (List X)} (e:ai (fun a (l:List D)=>(a,OB.list (l.map .d))∈C.own) as ls) (U:zss.flatten.length<=100000)
 (N:∀ E:aS,E.scope=kL Y Z->∀ (j:Nat) a l zs,as[j]? = aa a->ls[j]? = aa l->zss[j]? = aa zs->∃ b,eQ (aJ Φ n (ag O i (.o (.list l)))) F=aa b /\
  (b=true->∃ y,EV B w H A E (aQ M Y).wc ((fY C Y).set x (.o a)) elt y/\zs = [y])/\(b=false->zs = [])) (hlen:zss.length=as.length) :
 e5 B w H A Z (jJ Y.names) (fY C Y) (jw elt (.Name x K) i₁ L Y q) (.Name x K) Y (as.map .o) zss.flatten :=
 e5.one T.h U fun E G=>ai.mapL (by
  have J:∀ {as:List am} {ls:List (List D)} {zss:List (List X)},ai (fun a (l:List D)=>(a,OB.list (l.map .d))∈C.own) as ls->zss.length=as.length ->
   (∀ (j:Nat) a l zs,as[j]? = aa a->ls[j]? = aa l->zss[j]? = aa zs->∃ b,eQ (aJ Φ n (ag O i (.o (.list l)))) F=aa b /\
    (b=true->∃ y,EV B w H A E (aQ M Y).wc ((fY C Y).set x (.o a)) elt y/\zs = [y])/\(b=false->zs = [])) ->
   ai (fun a zs=>eR B w H A E (jJ Y.names) (fY C Y) (.Name x K) L elt (.o a) zs) as zss:=by
   intro as ls zss q;induction q generalizing zss with
   |nil=>intro hl _;cases zss with|nil=>exact .nil|cons _ _=>contradiction
   | @cons a l as ls g _ ih =>
    intro hl hh;rcases zss with _|⟨zs,zss⟩
    . contradiction
    . refine .cons ?_ (ih (by exact pe hl) fun j a l zs h1 V c=>hh (j+1) a l zs h1 V c);refine ae (hh 0 a l zs rfl rfl rfl) fun b Q=>aE Q fun hb ht f=>?_;clear Q;exact Lf (M:=aQ M Y) T (I.mt E G) S (fun p W=>I.fresh x i S p W) (show (a,OB.list (l.map .d))∈(fY C Y).own from g) (by exact iy rfl) P hb ht f
  exact J e hlen (N E G))
theorem z4{α:Type}:∀ {as:List α} {bs:List Bool},as.length=bs.length->aU as bs=((as.zip bs).map fun p=>if p.2=true then [p.1] else []).flatten
 |[],[],_=>rfl
 |a::as,b::bs,h=>by
  unfold aU;refine rl (z4 (pe h)) (rl mT (rl b7 (rl pp ?_)));obtain ⟨⟩:=b<;>rfl
theorem uB{α:Type}:∀ (as:List α) bs,(aU as bs).length<=as.length:=by
 intro J;induction J with
 |nil =>
  intro _;exact cG _
 |cons N L D =>
  intro F;rcases F with _|⟨P,G⟩
  . exact cG _
  . unfold aU
    have:=D G;split<;>simp<;>(first|assumption|exact mV ‹_›)
theorem AA{x:aq}{S k:aK}{i n:Nat}(m:aW (R+4) A)(I:uw M O Z C Y)(T:a5 (aQ M Y) x=aa i){V:List Expr}{F:List Ex}(P:ai (aD B w H Φ R (aQ M Y)) V F)
 {i₁:Expr} {q:aK} {as:List am} {ls:List (List D)} {bs:List Bool} (N:ai (fun a (l:List D)=>(a,OB.list (l.map .d))∈C.own) as ls) (Q:as.length<=100000)
 (hb:ai (fun l b=>eQ (aJ Φ n (ag O i (.o (.list l)))) F=aa b) ls bs) :
 e5 B w H A Z (jJ Y.names) (fY C Y) (jw (.Name x k) (.Name x S) i₁ V Y q) (.Name x S) Y (as.map .o) ((aU as bs).map .o):=by
 have hl:as.length=bs.length:=by refine rl N.length ?_;refine rl hb.length ?_;rfl
 have e:(aU as bs).map X.o=((as.zip bs).map fun p=>if p.2=true then [X.o p.1] else []).flatten:=by
  refine rl (z4 hl) ?_;refine rl List.map_flatten ?_;refine rl cU ?_;congr 1;refine gt fun p r=>?_;simp only [Function.comp];split<;>rfl
 refine rl e ?_;refine Bb (n:=n) m I T P N ?_ (fun E J j a l zs h1 f U=>?_) (by simp [hl])
 . refine rl (az e) ?_;refine rl (aZ ..) (aH (uB as bs) Q)
 . refine lk fun _ c=>hb.getK f fun b K L=>?_;rw [cy] at U;clear hl hb Q N q i₁;refine aG U fun p g W=>?_;subst W;refine ln g fun h4 G=>?_;rw [h1] at h4;replace h4:=sI h4;subst h4;rw [K] at G;replace G:=sI G;subst G;refine c ?_;refine ⟨p.2,L,fun e=>⟨.o p.1,fu (M:=aQ M Y) (i:=i) (I.mt E J).names T ix,by refine rl (if_pos e) ?_;rfl⟩,fun e=>by rw [if_neg (by refine rl e ?_;exact fun h=>nB h)]⟩
end
theorem Bc(G:tm r "append" Z (b5 r Z)=b5 r Z)(V:(d.endLine == p.line)=true)(k:bn e=false)(fk:Z.scope.kind = .function)
 (hr:EV B w H A Z wc C r (.o a)) (hm:(a,OB.list ys)∈C.own) (l:a∈C.wr) (n:EV B w H A Z wc C e y) (i:ys.length<=100000) (S:ay B w H Z wc U W C s) {Q:gT->aw->Prop}
 (hq:∀ s',aO U W s U W s'->ay B w H Z wc U W (C.setO a (.list (ys ++ [y]))) s'->Q .next s') :
 ak (av B w) A (exec (.Expr (.Call (.Attribute r "append" d) [e] [] p) pos) Z) Q (fun m m=>False) s:=by
 refine tc (sk G V (by refine rl (cO k) ?_;rfl) ((hr U W s S).mono fun v s₁ D L=>?_)) (by delta tG;refine rl fk ?_;rfl) (by rfl)
 have:=fv.mp L;subst this
 have T:=S.keeps D
 refine lk fun _ j=>?_
 refine T.ownK _ hm fun _ _ c=>b0.liK c fun vs q f _=>?_;clear c
 refine j ?_
 refine aR ("list") ("list.append") ⟨pv,wU,wV,⟨_,f,rfl⟩,fun b e=>by injection e with e;subst e;exact ⟨_,f,rfl⟩,?_⟩
 refine pa rfl (sr (sx ((n U W s₁ T).mono fun g s₂ k₂ P=>sE ?_)))
 refine pZ (T.keeps k₂) hm (S.wr _ l) P i fun s₃ J N=>?_
 exact hq s₃ (((aO.of_keeps D).trans (aO.of_keeps k₂) S.live).trans J S.live) N
theorem z5{r e:Expr}{ap p pos:aK}{a:am}{ys:List X}{d:D}{ob:OB}(P:tm r "append" Z (b5 r Z)=b5 r Z)(u:(ap.endLine == p.line)=true)(hs:bn e=false)(fk:Z.scope.kind = .function)
 (hr:EV B w H A Z wc C r (.o a)) (hm:(a,OB.list ys)∈C.own) (hw:a∈C.wr) (he:jz B w H A Z wc C e d) (z:jr d=aa ob) (hz:ys.length<=100000) (S:ay B w H Z wc U W C s) {Q:gT->aw->Prop}
 (hq:∀ b s',b ∉ C.own.map (·.1)->s.heap.get? b=ab->aO U W s (b::U) (b::W) s'->ay B w H Z wc (b::U) (b::W) ((C.addO b ob).setO a (.list (ys ++ [.o b]))) s'->Q .next s') :
 ak (av B w) A (exec (.Expr (.Call (.Attribute r "append" ap) [e] [] p) pos) Z) Q (fun ο ο => False) s:=by
 refine tc (sk P u (by refine rl (cO hs) ?_;rfl) ((hr U W s S).mono fun v s₁ L k=>?_)) (by unfold tG;refine rl fk ?_;rfl) (by rfl)
 have:=fv.mp k;subst this
 have i:=S.keeps L
 refine i.ownK _ hm fun _ _ G=>b0.liK G fun vs nn N _=>?_;clear G
 refine aR ("list") ("list.append") ⟨pv,wU,wV,⟨_,N,rfl⟩,fun b e=>by injection e with e;subst e;exact ⟨_,N,rfl⟩,?_⟩
 refine pa rfl (sr (sx (aF (he U W s₁ i) (fun e10 s₂ q=>sE ?_) fun ο ο e=>e)))
 clear he hr fk hs u P pos
 clear p ap
 clear r
 refine cZ.eK q fun k₂ b ob' G t J T=>?_;clear q;subst G
 rw [z] at J;replace J:=sI J;subst J
 have g:∃ o,s₂.heap.get? b=aa o:=by
  clear t k₂ i hq S hz;clear Q;rcases ob with l|l|l|l
  . refine b0.liK T fun vs n N _=>?_;clear T;exact ⟨_,N⟩
  . refine ac T fun _ f=>?_;clear T;refine ae f fun kvs c=>ac c fun G _=>?_;clear f c;refine aP G fun o _ _ V=>ac V fun N _=>?_;clear G V;exact ⟨o,N⟩
  . refine ac T fun _ f=>?_;clear T;refine ae f fun kvs c=>ac c fun G _=>?_;clear f c;refine aP G fun o _ _ V=>ac V fun N _=>?_;clear G V;exact ⟨o,N⟩
  . refine ac T fun _ f=>?_;clear T;refine ae f fun kvs c=>ac c fun G _=>?_;clear f c;refine aP G fun o _ _ V=>ac V fun N _=>?_;clear G V;exact ⟨o,N⟩
 have hb:b ∉ C.own.map (·.1):=fun x=>by
  clear N T k₂;clear nn;refine bB x fun q hq G=>?_;subst G;refine i.liveK _ (i.own q hq).1 fun o e=>?_;rw [t] at e;exact nS e
 refine pZ (i.own_new t k₂ T g) (D:=a) (y:=.o b) (aN _ hm) (aN _ (S.wr _ hw)) (fv.mpr rfl) hz fun s₃ j m=>hq b s₃ hb ?_ (((aO.of_keeps L).trans (yu t k₂) S.live).trans j S.live) m;cases e:s.heap.get? b with
 |none=>rfl
 |some o=>have:=cj L b o e;rw [t] at this;exact nS this
theorem H5(N:as.length<=100000):eW B w H A Z wc C (.builtin "len") [.p (eS as)] (.d (.int as.length)):=fun U W s vs S r=>by
 refine lk fun _ P=>r.c fun V X T J F=>?_;subst T;replace F:=F.n;subst F;refine aM J fun D n G=>aE G fun L _ Q=>?_;clear J G;subst L;have e:((as.map dw).toArray.size:Int)=as.length:=by simp
 refine P ?_;refine Di ⟨_,Q,rfl,n,rfl⟩ (by refine rl e ?_;have:=fits N;exact Int.not_le.mp ‹_›) ?_;refine rl e (⟨eY s _,eL.mpr ⟨_,rfl⟩⟩)
theorem OO{i:Int}(V:0<=i)(hi:i < 2 ^ 63)(T:as[i.toNat]? = aa a):qK B w H A Z wc C (.p (eS as)) (.d (.int i)) (.o a):=fun U W s L P S F G=>by
 refine aM F fun D n Q=>aE Q fun J _ N=>?_;clear F Q;subst J;refine cJ G fun u J=>?_;subst J;exact aR ("list") _ ⟨⟨_,N,rfl⟩,v9,Dq ⟨_,N,rfl,n,rfl⟩ V hi (by simp [T]) ⟨cb s,fv.mpr rfl⟩⟩
theorem Mt.hid(D:Mt M O Z C){i:Nat}y(N:M.sl.lookup x=aa i)(Q:ah O i=ab):Mt M O Z (C.set x y) where
 names:=D.names
 fk:=D.fk
 inj:=D.inj
 lt:=D.lt
 ltS:=D.ltS
 var:=fun z j F v hv=>by
  have G:z≠x:=fun e=>by subst e;rw [N] at F;replace F:=sI F;subst F;rw [Q] at hv;exact nS hv
  have:=D.var z j F v hv;rcases v with d|d
  . exact fS this G
  . refine aM this fun a ob J=>aE J fun h1 L P=>?_;clear this J;exact aR a ob ⟨fS h1 G,L,P⟩
def bP(O:Sg):Prop:=∀ i v,ah O i=aa v->∃ d,v = .d d
theorem bP.set(h:bP O)i d:bP (ag O i (.d d)):=fun j v hv=>by
 rw [br] at hv;split at hv
 . replace hv:=sI hv;subst hv;exact ⟨d,rfl⟩
 . exact h j v hv
theorem Mt.vars(D:Mt M O Z C)(h:bP O)(e:st'.vars=C.vars):Mt M O Z st' where
 names:=D.names
 fk:=D.fk
 inj:=D.inj
 lt:=D.lt
 ltS:=D.ltS
 var:=fun z j G v hv=>by
  have:=D.var z j G v hv;refine ae (h j v hv) fun d F=>?_;subst F;refine rl e this
theorem dW(L:dM U s)(h1:ak (av B w) A (exec t Z) (bF B w H Z wc C U W s (dU J G)) (fun D D=>False) s)
 (b:∀ U' W' st' s',ay B w H Z wc U' W' st' s'->J st'->ak (av B w) A (gq ts Z) (bF B w H Z wc st' U' W' s' F) (fun D D=>False) s')
 (c:∀ v st' U' s',G v U' s'->F (.ret v) st' U' s'):ak (av B w) A (gq (t::ts) Z) (bF B w H Z wc C U W s F) (fun D D=>False) s:=by
 refine ko (aF h1 (fun f s₁ P=>?_) fun D D e=>e)
 refine bF.eK P fun T a N S V X Q=>?_;clear P
 cases f with
 |next=>exact aF (b T a N s₁ V Q) (fun f s₂ P=>P.after L S X) fun D D e=>e
 |ret v=>exact ck T a N ⟨S,V,X,c _ _ _ _ Q⟩
 |brk=>exact Q.elim
 |cont=>exact Q.elim
theorem eI(S:ay B w H Z wc U W C s)(h:F .next C U s):ak (av B w) A (gq [] Z) (bF B w H Z wc C U W s F) (fun D D=>False) s :=
 sV ⟨U,W,C,.refl,S,.refl,h⟩
theorem H6{α D:Type}{R:α->D->Prop}{as:List α}{ls:List D}(h:ai R as ls):∀ bs,ai R (aU as bs) (aU ls bs):=by
 induction h with
 |nil=>intro bs;obtain ⟨⟩:=bs<;>exact .nil
 |cons h _ ih =>
  intro bs;rcases bs with _|⟨b,bs⟩
  . exact .nil
  rcases b with _|_
  . exact ih bs
  . exact .cons h (ih bs)
theorem z6{α J:Type}(f:α->J):∀ as bs,aU (as.map f) bs=(aU as bs).map f:=by
 intro L;induction L with
 |nil =>
  intro _;rfl
 |cons Q P D =>
  intro G;rcases G with _|⟨N,F⟩
  . rfl
  . refine rl b7 ?_
    (conv=>lhs;whnf)
    refine rl (D F) ?_;obtain ⟨⟩:=N<;>rfl
theorem z7{α:Type}{x:α}:∀ {as:List α} {bs:List Bool},x∈aU as bs->x∈as:=by
 intro J;induction J with
 |nil =>
  intro _ h;exact (a7 h).elim
 |cons Q N F =>
  intro G D;rcases G with _|⟨L,P⟩
  . exact (a7 D).elim
  . unfold aU at D;rcases L with _|_
    . rw [if_neg (fun D=>nB D)] at D;exact aN _ (F D)
    . rw [if_pos rfl] at D;rcases aL.mp D with rfl|D
      . exact aY
      . exact aN _ (F D)
noncomputable def jk(ls:List (List D))(F:List Nat)(k:D):List (List D):=match F with
 |[]=>ls ++ [[k]]
 |j::_=>ls.set j (ls.getD j [] ++ [k])
theorem rr{n:Nat}{c:Ex}(h:aJ Φ n O c=aa b):eQ (aJ Φ n O) [c]=aa b:=by
 (conv=>lhs;whnf)
 refine rl h ?_;obtain ⟨⟩:=b<;>rfl
theorem GH(Wd:WD B w H mg mb gl Φ R){m n:Nat}{xb y xt xl xk c:aq}
 {V k:D}
 (hA:aW (R+4) A) (hb:a5 M xb=aa ib) (heb:cE gl m M eb=aa eb') (hh:a5 M y=aa ih) (hl:a5 M xl=aa il) (hk:a5 M xk=aa ik) (hbl:xb≠xl) (hhl:y≠xl) (hbk:ib≠ik) (hbh:ib≠ih)
 (hg1:eh M sc1=true) (ht1:a5 (aQ M sc1) xt=aa it1) (hc1:cE gl m (aQ M sc1) c1=aa c1')
 (hg2:eh M sc2=true) (ht2:a5 (aQ M sc2) xt=aa it2) (hc2:cE gl m (aQ M sc2) c2=aa c2')
 (hlen:M.names.lookup c=aa .globalImplicit) (hlb:bad c=false) (hlg:gl.lookup c=aa .len) (hln1:(ap1.endLine == p19.line)=true) (hln2:(ap2.endLine == p24.line)=true)
 (F:Mt M O Z C) (hσ:bP O) (hnh:ah O ih=ab) (l:bE C xl L as ls) (b11:an Φ n O eb'=aa V)
 (b12:(d0 M.sl sc1.names).all (fun i=>(ah (ag O ib (.d V)) i).isSome)=true) (d12:(d0 M.sl sc2.names).all (fun i=>(ah (ag O ib (.d V)) i).isSome)=true)
 (hf1:ai (fun l b=>aJ Φ n (ag (ag O ib (.d V)) it1 (.o (.list l))) c1'=aa b) ls N)
 (hf2:ai (fun l b=>aJ Φ n (ag (ag O ib (.d V)) it2 (.o (.list l))) c2'=aa b) (aU ls N) T)
 (hkv:ah O ik=aa (.d k)) (hz:ls.length<=10000) (hzl:∀ l∈ls,l.length<=10000) (S:ay B w H Z M.wc U W C s) :
 ak (av B w) A (gq [
  .Assign [.Name xb p1] eb p2,
  .Assign [.Name y p3] (.ListComp (.Name xt p4) [⟨.Name xt p5,.Name xl p6,[c1],0⟩] sc1 p7) p8,
  .Assign [.Name y p9] (.ListComp (.Name xt p10) [⟨.Name xt p11,.Name y p12,[c2],0⟩] sc2 p13) p14,
  .If (.Compare (.Call (.Name c p27) [.Name y p28] [] p29) [.Gt] [.Constant (.int 0) k2 p30] p31)
   [.Expr (.Call (.Attribute (.Subscript (.Name y p15) (.Constant (.int 0) k1 p16) p17) "append" ap1) [.Name xk p18] [] p19) p20]
   [.Expr (.Call (.Attribute (.Name xl p21) "append" ap2) [.List [.Name xk p22] p23] [] p24) p25] p26] Z)
  (bF B w H Z M.wc C U W s (dU (fun st'=>∃ t,bE st' xl L t (jk ls (aU (aU (c8 ls.length) N) T) k)/\Mt M (ag O ib (.d V)) Z st') G)) (fun ο ο => False) s:=by
 have nT:∀ {z:aq} {pz:aK} (x:ar),gu (.Name z pz) Z x=pure x:=fun x=>jm rfl x;refine dW (J:=fun st'=>st'=C.set xb (.d V)) S.lives (z3 Wd hb heb hA F b11 S fun U' s' T' S'=>⟨U',W,_,T',S',.refl,rfl⟩) ?_ (fun v st' U' s' g=>g);rintro U1 W1 _ s1 S1 rfl;have M1:Mt M (ag O ib (.d V)) Z (C.set xb (.d V)):=F.set (cg hb).2.2 V;have e11:bP (ag O ib (.d V)):=hσ.set ib V;have d11:ah (ag O ib (.d V)) ih=none:=by refine rl br ?_;refine rl (if_neg (fun e=>hbh e.symm)) ?_;exact hnh
 have l1:=l.set (.d V) hbl;have hal:as.length=ls.length:=l.lot.length;have I1:=nz M1 hg1 b12;have ho1:ai (fun a (l:List D)=>(a,OB.list (l.map .d))∈(C.set xb (.d V)).own) as ls:=l1.lot.imp fun ο ο q=>q.1;refine dW (J:=fun st'=>st'=(C.set xb (.d V)).set y (.p (eS (aU as N)))) S1.lives
  (uj S1 nT I1.cs (vf hA.h (fu (M:=M) M1.names hl l1.var) l1.own) (AA (n:=n) hA I1 ht1 (.cons (cQ Wd m _ c1 c1' hc1) .nil) ho1 (vF hz hal) (hf1.imp fun ο ο q=>rr q)) (M1.storable hh) Az
   fun U' s' T' S'=>⟨U',W1,_,T',S',.refl,rfl⟩) ?_ (fun v st' U' s' g=>g)
 rintro U2 W2 _ s2 S2 rfl;have M2:=M1.hid (.p (eS (aU as N))) (cg hh).2.2 d11;have l2:=l1.set (.p (eS (aU as N))) hhl;have I2:=nz M2 hg2 d12;have ho2:ai (fun a (l:List D)=>(a,OB.list (l.map .d))∈((C.set xb (.d V)).set y (.p (eS (aU as N)))).own) (aU as N) (aU ls N):=H6 (l2.lot.imp fun ο ο q=>q.1) N;have hz2:(aU as N).length<=10000:=aH (uB as N) (Nj hz hal);refine dW (J:=fun st'=>st'=((C.set xb (.d V)).set y (.p (eS (aU as N)))).set y (.p (eS (aU (aU as N) T)))) S2.lives
  (uj S2 nT I2.cs (Le hA.h (fu (M:=M) M2.names hh ix)) (AA (n:=n) hA I2 ht2 (.cons (cQ Wd m _ c2 c2' hc2) .nil) ho2 (by exact aH ‹_› (by decide)) (hf2.imp fun ο ο q=>rr q)) (M2.storable hh) Az
   fun U' s' T' S'=>⟨U',W2,_,T',S',.refl,rfl⟩) ?_ (fun v st' U' s' g=>g)
 rintro U3 W3 _ s3 S3 rfl;have M3:=M2.hid (.p (eS (aU (aU as N) T))) (cg hh).2.2 d11;have l3:=l2.set (.p (eS (aU (aU as N) T))) hhl;have hvh:(y,X.p (eS (aU (aU as N) T)))∈(((C.set xb (.d V)).set y (.p (eS (aU as N)))).set y (.p (eS (aU (aU as N) T)))).vars:=ix;generalize ((C.set xb (.d V)).set y (.p (eS (aU as N)))).set y (.p (eS (aU (aU as N) T)))=st3 at S3 M3 l3 hvh;have hz3:(aU (aU as N) T).length<=10000:=aH (uB _ T) hz2;have evk:∀ pk,EV B w H A Z M.wc st3 (.Name xk pk) (.d k):=fun pk=>fu (M:=M) M3.names hk (M3.var xk ik (cg hk).2.2 _ (by refine rl br ?_;refine rl (if_neg (fun e=>hbk e.symm)) ?_;exact hkv));have u:aU (aU as N) T=(aU (aU (c8 ls.length) N) T).map fun i=>as.getD i 0:=by
  refine rl (az (z6 ..)) (rl (az (z6 ..)) (rl (az hal) (rl (pK ..) rfl)))
 have test:TT B w H A Z M.wc st3 (.Compare (.Call (.Name c p27) [.Name y p28] [] p29) [.Gt] [.Constant (.int 0) k2 p30] p31) (decide (((aU (aU as N) T).length:Int) > 0)) :=
  rb (y6 Wd.G (Wd.bi c _ _ hlg rfl) (by (conv=>lhs;whnf);refine rl M3.names ?_;exact hlen) (f5 hlb) (gi (fu (M:=M) M3.names hh hvh) hM) (H5 (by exact aH ‹_› (by decide)))) uJ
   (rL (hA.mono (f9 _ _)) (show fE .Gt (.int ((aU (aU as N) T).length:Int)) (.int 0)=aa _ from rfl) (.inl rfl))
 refine dW S3.lives (je ((test U3 W3 s3 S3).mono fun s4 k4=>?_)) (fun U' W' st' s' S' hJ=>eI S' hJ) (fun v st' U' s' g=>g);have S4:=S3.keeps k4;have T4:=aO.of_keeps (U:=U3) (W:=W3) k4;cases hi:aU (aU (c8 ls.length) N) T with
 |nil =>
  rw [hi] at u;refine rl u (rl lL ?_);refine rl (if_neg (fun h=>nB h)) ?_;refine aF (Q:=bF B w H Z M.wc st3 U3 W3 s4 (dU (fun st'=>∃ t,bE st' xl L t (jk ls [] k)/\Mt M (ag O ib (.d V)) Z st') G)) ?_ (fun f s' P=>P.after S3.lives T4 .refl) fun ο ο e=>e;refine dW (G:=G) (J:=fun st'=>∃ t,bE st' xl L t (jk ls [] k)/\Mt M (ag O ib (.d V)) Z st') S4.lives (z5 (d:=.list [k]) (by rfl) hln2 rfl M3.fk (fu (M:=M) M3.names hl l3.var) l3.own l3.wrL (ui (gi (x:=.d k) (evk p22) hM) (ef _)) rfl (by refine rl (aZ ..) ?_;exact vF hz hal) S4 fun b s' hb hd T' S'=>?_) (fun U' W' st' s' S' hJ=>eI S' hJ) (fun v st' U' s' g=>g);have hO:f1 st3 s4 ((st3.addO b (.list ([k].map .d))).setO L (.list (as.map .o ++ [.o b]))):=fun p hp=>by
   refine lk fun _ κ=>yK p hp fun q hq e=>?_;clear S3 S2 S1;clear s2 W2 U2 s1 W1 U1;rcases aL.mp hq with rfl|hq
   . refine κ ?_;exact .inr (by refine rl (az e) ?_;exact hd)
   . refine κ (.inl ⟨q,hq,e⟩)
  exact ck _ _ _ ⟨T',S',hO,_,l3.appNew hb k,M3.vars e11 rfl⟩
 |cons j r =>
  have hj:=en.mp (z7 (z7 (by refine rl hi ?_;exact aY)));rw [hi,b7] at u;refine rl u ?_;refine rl (if_pos (by simp)) ?_;have hja:as[j]? = aa (as.getD j 0):=by simp [hal,hj]
  have hjl:ls[j]? = aa (ls.getD j []):=by simp [hj]
  have hja0:(aU (aU as N) T)[(0:Int).toNat]? = aa (as.getD j 0):=by refine rl u ?_;rfl
  refine lk fun _ κ=>ae (l3.lot.get hja) fun l' q0=>aE q0 fun hl' ho3 hw3=>?_;clear q0;rw [hjl] at hl';replace hl':=sI hl';subst hl';refine κ (aF (Q:=bF B w H Z M.wc st3 U3 W3 s4 (dU (fun st'=>∃ t,bE st' xl L t (jk ls (j::r) k)/\Mt M (ag O ib (.d V)) Z st') G)) ?_ (fun f s' P=>P.after S3.lives T4 .refl) fun ο ο e=>e);refine dW (G:=G) (J:=fun st'=>∃ t,bE st' xl L t (jk ls (j::r) k)/\Mt M (ag O ib (.d V)) Z st') S4.lives (Bc (by rfl) hln1 rfl M3.fk (Ap (fu (M:=M) M3.names hh hvh) uJ (OO (by first|exact Nk|omega) (by omega) hja0)) ho3 hw3 (evk p18) (by refine rl (aZ ..) ?_;have:=hzl _ (fM hjl);first|exact aH ‹_› (by decide)|omega) S4 fun s' T' S'=>?_) (fun U' W' st' s' S' hJ=>eI S' hJ) (fun v st' U' s' g=>g)
  exact bF.iK _ _ _ T' S' (fun p hp=>.inl (kF p hp)) ⟨_,l3.appOld hja hjl k,M3.vars e11 rfl⟩
noncomputable def eM(O:Sg)(i:Nat):Sg:=O.filter fun p=>p.1 != i
theorem kx{i j:Nat}:∀ {O:Sg},ah (eM O i) j=if j=i then ab else ah O j:=by
 intro G;induction G with
 |nil =>
  simp [eM,ah]
 |cons J r F =>
  obtain ⟨k,v⟩:=J;have ih:=F;unfold eM at ih ⊢;refine rl pB ?_;by_cases hk:k=i
  . subst hk;refine rl (if_neg (by simp)) (rl ih ?_);by_cases D:j=k
    . refine rl (if_pos D) (rl (if_pos D) rfl)
    . refine rl (if_neg D) (rl (if_neg D) ?_);have:(k == j)=false:=by simpa using fun e=>D e.symm
      simp [ah,this]
  . refine rl (if_pos (by simpa using hk)) ?_;by_cases D:j=k
    . subst D;refine rl (if_neg hk) ?_;simp [ah]
    . have:(k == j)=false:=by simpa using fun e=>D e.symm
      simp [ah,this];exact ih
structure LT where
 ik:Nat
 ib:Nat
 it1:Nat
 it2:Nat
 cap1:List Nat
 cap2:List Nat
 eb:Ex
 c1:Ex
 c2:Ex
noncomputable def jW(O:Sg)(l:List Nat):Bool:=l.all fun i=>(ah O i).isSome
noncomputable def jf(Φ:Nat->List D->Option D)(n:Nat)(P:LT)(O:Sg)(ls:List (List D))(k:D):Option (Sg×List (List D)) :=
 (an Φ n (ag O P.ik (.d k)) P.eb).bind fun G =>
  (a8 (fun l=>aJ Φ n (ag (ag (ag O P.ik (.d k)) P.ib (.d G)) P.it1 (.o (.list l))) P.c1) ls).bind fun F =>
   (a8 (fun l=>aJ Φ n (ag (ag (ag O P.ik (.d k)) P.ib (.d G)) P.it2 (.o (.list l))) P.c2) (aU ls F)).bind fun J =>
    if ls.length<=10000/\(ls.all fun l=>decide (l.length<=10000))/\jW (ag (ag O P.ik (.d k)) P.ib (.d G)) P.cap1/\jW (ag (ag O P.ik (.d k)) P.ib (.d G)) P.cap2 then
     aa (ag (ag O P.ik (.d k)) P.ib (.d G),jk ls (aU (aU (c8 ls.length) F) J) k) else ab
theorem Ez{Φ:Nat->List D->Option D}{n:Nat}{O:Sg}(h:jf Φ n P O ls k=aa r):∃ J F G,an Φ n (ag O P.ik (.d k)) P.eb=aa J /\
 a8 (fun l=>aJ Φ n (ag (ag (ag O P.ik (.d k)) P.ib (.d J)) P.it1 (.o (.list l))) P.c1) ls=aa F /\
 a8 (fun l=>aJ Φ n (ag (ag (ag O P.ik (.d k)) P.ib (.d J)) P.it2 (.o (.list l))) P.c2) (aU ls F)=aa G /\
 (ls.length<=10000/\(ls.all fun l=>decide (l.length<=10000))/\jW (ag (ag O P.ik (.d k)) P.ib (.d J)) P.cap1/\jW (ag (ag O P.ik (.d k)) P.ib (.d J)) P.cap2) /\
 (ag (ag O P.ik (.d k)) P.ib (.d J),jk ls (aU (aU (c8 ls.length) F) G) k)=r:=by
 refine lk fun _ N=>?_
 refine ax h fun J h1 h=>?_
 refine ax h fun F Q h=>?_
 refine ax h fun G L h=>?_
 refine bL h fun h4 h=>?_
 refine N ?_
 exact ck J F G ⟨h1,Q,L,h4,sI h⟩
theorem th{Φ:Nat->List D->Option D}{n:Nat}{O:Sg}(h:jf Φ n P O ls k=aa r){G:Prop}(X:∀ J F L,an Φ n (ag O P.ik (.d k)) P.eb=aa J->a8 (fun l=>aJ Φ n (ag (ag (ag O P.ik (.d k)) P.ib (.d J)) P.it1 (.o (.list l))) P.c1) ls=aa F->a8 (fun l=>aJ Φ n (ag (ag (ag O P.ik (.d k)) P.ib (.d J)) P.it2 (.o (.list l))) P.c2) (aU ls F)=aa L->((ls.length<=10000/\(ls.all fun l=>decide (l.length<=10000))/\jW (ag (ag O P.ik (.d k)) P.ib (.d J)) P.cap1/\jW (ag (ag O P.ik (.d k)) P.ib (.d J)) P.cap2))->(ag (ag O P.ik (.d k)) P.ib (.d J),jk ls (aU (aU (c8 ls.length) F) L) k)=r->G):G:=aP (Ez h) fun S z1 z2 Q=>cX Q fun b T a V N=>X S z1 z2 b T a V N
noncomputable def jT(Φ:Nat->List D->Option D)(n:Nat)(P:LT):Sg->List (List D)->List D->Option (Sg×List (List D))
 |O,ls,[]=>aa (O,ls)
 |O,ls,k::ks=>(jf Φ n P O ls k).bind fun r=>jT Φ n P r.1 r.2 ks
theorem EA{Φ:Nat->List D->Option D}{n:Nat}:∀ {xs:List D} {O I:Sg} {ls G:List (List D)} {j:Nat} {x:D},jT Φ n P O ls (xs.drop j)=aa (I,G)->xs[j]? = aa x ->
 ∃ σ₁ F,jf Φ n P O ls x=aa (σ₁,F)/\jT Φ n P σ₁ F (xs.drop (j+1))=aa (I,G)
 |xs,O,I,ls,G,j,x,h,hx=>by
  rw [mN ((fL.mp hx).1)] at h;rw [((fL.mp hx).2)] at h;refine ax h fun r ht h=>aR r.1 r.2 ⟨ht,h⟩
structure LSt (gl:List (aq×Gl)) (M:Cx) (m:Nat) (P:LT) (xb xh xt xl xk xlen:aq) (ih il:Nat) (eb c1 c2:Expr) (sc1 sc2:Scope):Prop where
 hb:a5 M xb=aa P.ib
 heb:cE gl m M eb=aa P.eb
 hh:a5 M xh=aa ih
 hl:a5 M xl=aa il
 hk:a5 M xk=aa P.ik
 hbl:xb≠xl
 hhl:xh≠xl
 hkl:xk≠xl
 hbk:P.ib≠P.ik
 hbh:P.ib≠ih
 hkh:P.ik≠ih
 hg1:eh M sc1=true
 ht1:a5 (aQ M sc1) xt=aa P.it1
 hc1:cE gl m (aQ M sc1) c1=aa P.c1
 hp1:d0 M.sl sc1.names=P.cap1
 hg2:eh M sc2=true
 ht2:a5 (aQ M sc2) xt=aa P.it2
 hc2:cE gl m (aQ M sc2) c2=aa P.c2
 hp2:d0 M.sl sc2.names=P.cap2
 hlen:M.names.lookup xlen=aa .globalImplicit
 hlb:bad xlen=false
 hlg:gl.lookup xlen=aa .len
theorem ET{n:Nat}{i:Nat}(h:jf Φ n P O ls k=aa (I,G))(h1:P.ik≠i)(Q:P.ib≠i)(L:ah O i=ab):ah I i=none:=by refine th h fun S J N F F F F e=>?_;clear F h;clear F;clear F;clear F;clear n;obtain ⟨⟩:=e;refine rl br (rl (if_neg (fun e=>Q e.symm)) ?_);refine rl br (rl (if_neg (fun e=>h1 e.symm)) ?_);exact L
theorem EB{n:Nat}(h:jf Φ n P O ls k=aa (I,G))(N:bP O):bP I:=by refine th h fun Q J L F F F F e=>?_;clear F h;clear F;clear F;clear F;clear n;obtain ⟨⟩:=e;exact (N.set _ _).set _ _
theorem GI(Wd:WD B w H mg mb gl Φ R){m n:Nat}(K:LSt gl M m P xb xh xt z t p ih il eb c1 c2 sc1 sc2)
 {it:Expr}
  (hA:aW (R+4) A) (q:dH it=false) (b12:(ap1.endLine == p19.line)=true) (h10:(ap2.endLine == p24.line)=true)
  (r:df B w H A Z M.wc C (.Name t p0) it (xs.map .d) []) (J:Mt M O Z C) (hσ:bP O) (hnh:ah O ih=ab) (l:bE C z L as ls) (i:jT Φ n P O ls xs=aa (I,y)) (S:ay B w H Z M.wc U W C s) :
  ak (av B w) A (exec (.For (.Name t p0) it [
   .Assign [.Name xb p1] eb p2,
   .Assign [.Name xh p3] (.ListComp (.Name xt p4) [⟨.Name xt p5,.Name z p6,[c1],0⟩] sc1 p7) p8,
   .Assign [.Name xh p9] (.ListComp (.Name xt p10) [⟨.Name xt p11,.Name xh p12,[c2],0⟩] sc2 p13) p14,
   .If (.Compare (.Call (.Name p p27) [.Name xh p28] [] p29) [.Gt] [.Constant (.int 0) k2 p30] p31)
    [.Expr (.Call (.Attribute (.Subscript (.Name xh p15) (.Constant (.int 0) k1 p16) p17) "append" ap1) [.Name t p18] [] p19) p20]
    [.Expr (.Call (.Attribute (.Name z p21) "append" ap2) [.List [.Name t p22] p23] [] p24) p25] p26] [] pos) Z)
   (bF B w H Z M.wc C U W s (dU (fun st'=>∃ u,bE st' z L u y/\Mt M I Z st') G)) (fun ο ο => False) s:=by
 refine aF (uA (G:=G) hA.h (jm q) S r (fun b hb=>by exact (a7 hb).elim) (fun j N=>∃ σ₂ Q T,jT Φ n P σ₂ T (xs.drop j)=aa (I,y)/\Mt M σ₂ Z N/\bP σ₂/\ah σ₂ ih=ab/\bE N z L Q T)
  ⟨O,as,ls,by simpa using i,J,hσ,hnh,l⟩ (fun j x hx N hJ=>?_)) (fun f s' P=>P.mono fun f st' U' s' F=>?_) fun ο ο e=>e
 . refine lk fun _ κ=>?_;refine aP hJ fun σ₂ Q T X=>cX X fun hr M2 V g l2=>?_;clear hJ X;rw [cy] at hx;clear S i hnh hσ J r q;clear it;refine aG hx fun d hd X=>?_;subst X;refine aM (EA hr hd) fun σ₁ h12 X=>ac X fun ht hr'=>?_;clear X;refine κ ?_;refine ⟨[(t,.d d)],.name,fun b hb=>by refine rl (aV.mp hb) ?_;exact M2.storable K.hk,fun U2 W2 s3 S3=>?_⟩;have M3:Mt M (ag σ₂ P.ik (.d d)) Z (N.set t (.d d)):=M2.set (cg K.hk).2.2 d;have l3:=l2.set (.d d) K.hkl;have hn1:=ET ht K.hkh K.hbh g;have a12:=EB ht V;refine lk fun _ κ=>?_;refine th ht fun bx bs1 bs2 hbx k o hc e=>?_;refine bR hc fun hz hzl a c=>?_;clear hc;clear ht hd l2 M2 hr;obtain ⟨⟩:=e;refine κ ?_;refine aF (GH (G:=G) Wd hA K.hb K.heb K.hh K.hl K.hk K.hbl K.hhl K.hbk K.hbh K.hg1 K.ht1 K.hc1 K.hg2 K.ht2 K.hc2 K.hlen K.hlb K.hlg b12 h10 M3 (V.set _ _)
    (by refine rl br ?_;refine rl (if_neg (fun e=>K.hkh e.symm)) ?_;exact g) l3 hbx (by refine rl K.hp1 ?_;exact a) (by refine rl K.hp2 ?_;exact c) (g9 k) (g9 o) (by refine rl br ?_;refine rl (if_pos rfl) ?_;rfl) hz
    (fun l hl=>by have:=bq.mp hzl l hl;simpa using this) S3) (fun f s' P=>P.mono fun f st' U' s' F=>?_) fun ο ο e=>e
   clear c a hzl hz o k hbx;cases f with
   |next=>refine ae F fun u X=>ac X fun l' M'=>?_;clear F X;exact ck _ u _ ⟨hr',M',a12,hn1,l'⟩
   |ret v=>exact F
   |brk=>exact F
   |cont=>exact F
 . cases f with
   |next =>
    refine lk fun _ κ=>aP F fun σ₂ Q T X=>cX X fun hr M2 V g l2=>?_;clear F X;rw [aZ,sH] at hr;clear g V;obtain ⟨⟩:=hr;refine κ ⟨Q,l2,M2⟩
   |ret v=>exact F
   |brk=>exact F
   |cont=>exact F
theorem Mt.sub(D:Mt M O Z C)(h:∀ i v,ah I i=aa v->ah O i=aa v):Mt M I Z C where
 names:=D.names
 fk:=D.fk
 inj:=D.inj
 lt:=D.lt
 ltS:=fun i v hv=>D.ltS i v (h i v hv)
 var:=fun x i hi v hv=>D.var x i hi v (h i v hv)
theorem Fz(D:bg M O Z C ρ)(L:a5 M F=aa il)(G:ah O il=aa (.o (.list []))):bE C F (ρ il) [] []/\Mt M (eM O il) Z C:=by
 refine D.ownK il _ G fun ob h1 J N=>?_
 have:=qB J;clear J;subst this;refine ⟨⟨D.var F il (cg L).2.2 _ G,h1,N,.nil,by simp⟩,D.mt.sub fun i v hv=>?_⟩;rw [kx] at hv;refine oR hv fun P hv=>hv
noncomputable def n3(Φ:Nat->List D->Option D)(n:Nat)(O:Sg)(it:Nat)(c e:Ex)(l:List D):Option (List D) :=
 (aJ Φ n (ag O it (.o (.list l))) c).bind fun q=>if q=true then (an Φ n (ag O it (.o (.list l))) e).map fun d=>[d] else aa []
theorem JC(Wd:WD B w H mg mb gl Φ R){m n:Nat}{px pl q:aK}(x:aW (R+4) A)(hl:a5 M v=aa il)
 (k:eh M J=true) (c:a5 (aQ M J) r=aa it3) (i:cE gl m (aQ M J) c3=aa f) (hel:cE gl m (aQ M J) elt=aa Q) (F:Mt M O Z C) (l:bE C v L as ls)
 (V:jW O (d0 M.sl J.names)=true) (hz:a8 (n3 Φ n O it3 f Q) ls=aa zss) (p:zss.flatten.length<=100000) :
 EV B w H A Z M.wc C (.ListComp elt [⟨.Name r px,.Name v pl,[c3],0⟩] J q) (.d (.list zss.flatten)):=by
 have I:=nz F k V
 have X:=g9 hz
 refine zQ (jm rfl) I.cs (vf x.h (fu (M:=M) F.names hl l.var) l.own) ?_
 refine rl (az (ku ..)) ?_
 refine Bb (n:=n) x I c (.cons (cQ Wd m _ c3 f i) .nil) (l.lot.imp fun u u q=>q.1) (by refine rl (ku ..) ?_;refine rl (aZ ..) ?_;exact p) (fun P t j a l' zs h1 h2 h3=>?_) (by refine rl (aZ ..) ?_;refine rl l.lot.length ?_;refine rl X.length ?_;rfl)
 rw [cy] at h3
 refine lk fun _ κ=>?_
 clear p hz V F i k hl
 clear c3 pl px il
 refine aG h3 fun z b g=>?_;subst g
 refine X.getK h2 fun z' S G=>?_
 rw [b] at S;replace S:=sI S;subst S
 have y:=I.mt P t
 refine ae (l.lot.get h1) fun l'' g=>aE g fun T N _=>?_;clear g
 rw [h2] at T;replace T:=sI T;subst T
 have M2:Mt (aQ M J) (ag O it3 (.o (.list l'))) P ((fY C J).set r (.o a)):=y.setO (cg c).2.2 (show (a,OB.list (l'.map .d))∈(fY C J).own from N) (iy rfl)
 refine ax G fun q ht G=>?_
 clear l c
 cases q with
 |true =>
  clear q N b y X I;refine aG G fun d hd g=>?_;subst g;refine κ ?_;exact ⟨true,rr ht,fun u=>⟨.d d,(cQ Wd m _ elt Q hel A P _ _ n x M2).1 d hd,rfl⟩,fun e=>by exact nT e⟩
 |false =>
  clear q N b M2 y;replace G:=sI G;subst G;refine κ ?_;exact ⟨false,rr ht,(fun e=>by exact nB e),fun u=>rfl⟩
structure DT where
 ii:Nat
 it:Nat
 iv:Nat
 c1:Ex
 ec:Ex
 ca:Ex
 ci:Ex
 c4:Ex
noncomputable def cW(Φ:Nat->List D->Option D)(n:Nat)(P:DT):Sg->Option Nat->Nat->List (List D)->Option (Sg×Option Nat)
 |O,hm,_,[]=>aa (O,hm)
 |O,hm,j,l::ls=>(aJ Φ n (ag O P.it (.o (.list l))) P.c1).bind fun q=>if q=true then
  (an Φ n (ag O P.it (.o (.list l))) P.ec).bind fun d=>(aJ Φ n (ag (ag O P.it (.o (.list l))) P.ii (.d d)) P.ca).bind fun a=>if a=true then ab else
   (aJ Φ n (ag (ag O P.it (.o (.list l))) P.ii (.d d)) P.ci).bind fun b=>cW Φ n P (eM (ag (ag O P.it (.o (.list l))) P.ii (.d d)) P.it) (if b=true then aa j else hm) (j+1) ls
  else cW Φ n P O hm (j+1) ls
noncomputable def me(Φ:Nat->List D->Option D)(n:Nat)(P:DT)(O:Sg)(ls:List (List D))(v:D):Option (Sg×List (List D)) :=
 if ls.length<=10000/\(ls.all fun l=>decide (l.length<=10000)) then
  (cW Φ n P (ag O P.iv (.d v)) ab 0 ls).bind fun r=>r.2.elim ((aJ Φ n r.1 P.c4).map fun q=>(r.1,if q=true then ls ++ [[v]] else ls))
   fun j=>if j < ls.length then aa (r.1,ls.set j (ls.getD j [] ++ [v])) else ab
 else ab
noncomputable def jg(Φ:Nat->List D->Option D)(n:Nat)(P:DT):Sg->List (List D)->List D->Option (Sg×List (List D))
 |O,ls,[]=>aa (O,ls)
 |O,ls,k::ks=>(me Φ n P O ls k).bind fun r=>jg Φ n P r.1 r.2 ks
theorem yj{Φ:Nat->List D->Option D}{n:Nat}{O:Sg}(h:cW Φ n P O hm j (l::ls)=aa r):
 (aJ Φ n (ag O P.it (.o (.list l))) P.c1=aa false/\cW Φ n P O hm (j+1) ls=aa r) \/
 (aJ Φ n (ag O P.it (.o (.list l))) P.c1=aa true /\ ∃ d b,an Φ n (ag O P.it (.o (.list l))) P.ec=aa d/\aJ Φ n (ag (ag O P.it (.o (.list l))) P.ii (.d d)) P.ca=aa false /\
  aJ Φ n (ag (ag O P.it (.o (.list l))) P.ii (.d d)) P.ci=aa b/\cW Φ n P (eM (ag (ag O P.it (.o (.list l))) P.ii (.d d)) P.it) (if b=true then aa j else hm) (j+1) ls=aa r):=by
 refine lk fun _ F=>ax h fun q h1 h=>?_;cases q with
 |false=>refine F ?_;exact .inl ⟨h1,h⟩
 |true =>
  refine ax h fun d G h=>ax h fun a J h=>ju h fun ha h=>ax h fun b h4 h=>F ?_;exact .inr ⟨h1,d,b,G,ha ▸ J,h4,h⟩
theorem bP.drop{O:Sg}{i:Nat}(h:∀ j v,j≠i->ah O j=aa v->∃ d,v = .d d):bP (eM O i):=fun j v hv=>by
 rw [kx] at hv;refine lk fun _ F=>oR hv fun D hv=>F ?_;exact h j v D hv
structure o0 (gl:List (aq×Gl)) (M:Cx) (m:Nat) (P:DT) (xi xt xh xl xv:aq) (ih il:Nat) (c1 ec ca c4:Expr):Prop where
 hi:a5 M xi=aa P.ii
 ht:a5 M xt=aa P.it
 hh:a5 M xh=aa ih
 hl:a5 M xl=aa il
 hv:a5 M xv=aa P.iv
 til:xt≠xl
 iil:xi≠xl
 hil:xh≠xl
 vil:xv≠xl
 iih:P.ii≠ih
 ith:P.it≠ih
 ivh:P.iv≠ih
 iti:P.it≠P.ii
 ivt:P.iv≠P.it
 xth:xt≠xh
 xih:xi≠xh
 h1:cE gl m M c1=aa P.c1
 hc:cE gl m M ec=aa P.ec
 ha:cE gl m M ca=aa P.ca
 hci:∀ p,cE gl m M (.Name xi p)=aa P.ci
 h4:cE gl m M c4=aa P.c4
section
structure fz (C:MS) (xl:aq) (L:am) (as:List am) (ls:List (List D)):Prop where
 var:(xl,X.o L)∈C.vars
 own:(L,OB.list (as.map .o))∈C.own
 lot:ai (fun a (l:List D)=>(a,OB.list (l.map .d))∈C.own/\a∈C.wr) as ls
 nd:(L::as).Nodup
variable {xl xh:aq} {L:am} {as:List am} {ls:List (List D)} {hm:Option Nat}
theorem fz.set(l:fz C xl L as ls)y(D:x≠xl):fz (C.set x y) xl L as ls:=⟨fS l.var fun e=>D e.symm,l.own,l.lot,l.nd⟩
theorem bE.less(l:bE C xl L as ls):fz { C with wr:=C.wr.filter (· ≠ L) } xl L as ls:=by
 refine ⟨l.var,l.own,?_,l.nd⟩;have:∀ {bs:List am} {ms:List (List D)},ai (fun a (l:List D)=>(a,OB.list (l.map .d))∈C.own/\a∈C.wr) bs ms->(∀ b∈bs,b∈as)->ai (fun a (l:List D)=>(a,OB.list (l.map .d))∈C.own/\a∈C.wr.filter (· ≠ L)) bs ms:=by
  intro bs ms q;induction q with
  |nil=>intro _;exact .nil
  |cons g _ ih=>intro hh;exact .cons ⟨g.1,b3.mpr ⟨g.2,by simpa using fun e=>l.notL (hh _ aY) e.symm⟩⟩ (ih fun b hb=>hh b (aN _ hb))
 exact this l.lot fun b hb=>hb
theorem fz.more(l:fz C xl L as ls):bE { C with wr:=L::C.wr } xl L as ls:=⟨l.var,l.own,aY,l.lot.imp fun D D q=>⟨q.1,aN _ q.2⟩,l.nd⟩
def fF(C:MS)(xh:aq)(as:List am):Option Nat->Prop
 |none=>(xh,X.d .none)∈C.vars
 |some j=>∃ a,as[j]? = aa a/\(xh,X.o a)∈C.vars
theorem fF.set(h:fF C xh as hm)y(D:x≠xh):fF (C.set x y) xh as hm:=by
 rcases hm with _|j
 . exact fS h fun e=>D e.symm
 . refine ae h fun a F=>ac F fun h1 G=>?_;clear h F;exact ⟨a,h1,fS G fun e=>D e.symm⟩
theorem FA{n:Nat}(h:cW Φ n P O hm j (ls.drop j)=aa (I,F))(hl:ls[j]? = aa l):
 (aJ Φ n (ag O P.it (.o (.list l))) P.c1=aa false/\cW Φ n P O hm (j+1) (ls.drop (j+1))=aa (I,F)) \/
 (aJ Φ n (ag O P.it (.o (.list l))) P.c1=aa true /\ ∃ d b,an Φ n (ag O P.it (.o (.list l))) P.ec=aa d/\aJ Φ n (ag (ag O P.it (.o (.list l))) P.ii (.d d)) P.ca=aa false /\
  aJ Φ n (ag (ag O P.it (.o (.list l))) P.ii (.d d)) P.ci=aa b/\cW Φ n P (eM (ag (ag O P.it (.o (.list l))) P.ii (.d d)) P.it) (if b=true then aa j else hm) (j+1) (ls.drop (j+1))=aa (I,F)):=by
 rw [mN ((fL.mp hl).1),(fL.mp hl).2] at h;exact yj h
theorem Lg(Wd:WD B w H mg mb gl Φ R){m n:Nat}(K:o0 gl M m P xi r xh xl xv ih il c1 ec ca c4)
 {p0 p1 p2 p3 p4 p5 p6 p7 p8 p9 p10 pos pl:aK} {V:Option Nat}
 (hA:aW (R+4) A) (D:Mt M O Z C) (hσ:bP O) (hnh:ah O ih=ab) (hnt:ah O P.it=ab) (l:fz C xl L as ls) (hL:L ∉ W) (y:fF C xh as ab) (e10:cW Φ n P O ab 0 ls=aa (I,V)) (S:ay B w H Z M.wc U W C s) :
 ak (av B w) A (exec (.For (.Name r p0) (.Name xl pl) [
  .If c1 [.Assign [.Name xi p1] ec p2,.If ca rs [] p3,.If (.Name xi p4) [.Assign [.Name xh p5] (.Name r p6) p7] [] p8] [] p9] [] pos) Z)
  (bF B w H Z M.wc C U W s (dU (fun st'=>fz st' xl L as ls/\Mt M I Z st'/\bP I/\ah I ih=ab/\ah I P.it=ab/\fF st' xh as V) G)) (fun q q=>False) s:=by
 have hal:as.length=ls.length:=l.lot.length;refine aF (uA (G:=G) hA.h (jm rfl) S (vf hA.h (fu (M:=M) D.names K.hl l.var) l.own) (fun b hb=>by refine rl (aV.mp hb) ?_;exact hL)
  (fun j T=>∃ σ₂ N,cW Φ n P σ₂ N j (ls.drop j)=aa (I,V)/\Mt M σ₂ Z T/\bP σ₂/\ah σ₂ ih=ab/\ah σ₂ P.it=ab/\fz T xl L as ls/\fF T xh as N)
  ⟨O,ab,by simpa using e10,D,hσ,hnh,hnt,l,y⟩ (fun j x hx T hJ=>?_)) (fun f s' P=>P.mono fun f st' U' s' F=>?_) fun q q e=>e
 . refine lk fun _ κ=>aM hJ fun σ₂ N z=>vA z fun hr M2 p hn2 k l2 hh2=>?_;clear hJ z;rw [cy] at hx;clear hal S e10 y hL l hnt hnh hσ D pl;refine aG hx fun a ha z=>?_;subst z;refine ae (l2.lot.get ha) fun l' z=>aE z fun hl' t hwr=>?_;clear z;refine κ ?_;refine ⟨[(r,.o a)],.name,fun b hb=>by refine rl (aV.mp hb) ?_;exact M2.storable K.ht,fun U2 W2 s3 S3=>?_⟩;show ak (av B w) A (gq _ Z) (bF B w H Z M.wc (T.set r (.o a)) U2 W2 s3 _) _ s3;have c:ay B w H Z M.wc U2 W2 (T.set r (.o a)) s3:=S3;have M3:Mt M (ag σ₂ P.it (.o (.list l'))) Z (T.set r (.o a)):=M2.setO (cg K.ht).2.2 t (by exact iy rfl);have M3d:Mt M σ₂ Z (T.set r (.o a)):=M2.hid _ (cg K.ht).2.2 k;have l3:=l2.set (.o a) K.til;have hh3:=hh2.set (.o a) K.xth;have hvt:(r,X.o a)∈(T.set r (.o a)).vars:=ix;generalize T.set r (.o a)=st3 at c M3 M3d l3 hh3 hvt;refine lk fun _ κ=>?_;rcases FA hr hl' with ⟨h1,u⟩|⟨h1,d,b,hd,hca,hb,u⟩
   . refine κ ?_;refine dW (G:=G) (J:=fun st'=>st'=st3) c.lives (je (((cQ Wd m M c1 _ K.h1 A Z st3 _ n hA M3).2.1 _ h1 U2 W2 s3 c).mono fun s4 k4=>?_)) (fun U' W' st' s' S' hJ=>eI S' ?_) (fun v st' U' s' g=>g)
     . refine rl (if_neg (by exact fun h=>nB h)) ?_;exact aF (eI (F:=dU (fun st'=>st'=st3) G) (c.keeps k4) rfl) (fun f s' P=>P.after c.lives (.of_keeps k4) .refl) fun q q e=>e
     . clear h1 hl' hr hwr t;subst hJ;exact aR σ₂ N ⟨u,M3d,p,hn2,k,l3,hh3⟩
   . refine κ ?_;refine dW (G:=G) (J:=fun st'=>∃ σ₂ N,cW Φ n P σ₂ N (j+1) (ls.drop (j+1))=aa (I,V)/\Mt M σ₂ Z st'/\bP σ₂/\ah σ₂ ih=ab/\ah σ₂ P.it=ab/\fz st' xl L as ls/\fF st' xh as N) c.lives
      (je (((cQ Wd m M c1 _ K.h1 A Z st3 _ n hA M3).2.1 _ h1 U2 W2 s3 c).mono fun s4 k4=>?_)) (fun U' W' st' s' S' hJ=>eI S' hJ) (fun v st' U' s' g=>g)
     refine rl (if_pos rfl) ?_;have S4:=c.keeps k4;refine aF (Q:=bF B w H Z M.wc st3 U2 W2 s4 (dU (fun st'=>∃ σ₂ N,cW Φ n P σ₂ N (j+1) (ls.drop (j+1))=aa (I,V)/\Mt M σ₂ Z st'/\bP σ₂/\ah σ₂ ih=ab/\ah σ₂ P.it=ab/\fz st' xl L as ls/\fF st' xh as N) G))
      ?_ (fun f s' P=>P.after c.lives (.of_keeps k4) .refl) fun q q e=>e
     refine dW (G:=G) (J:=fun st'=>st'=st3.set xi (.d d)) S4.lives (z3 Wd K.hi K.hc hA M3 hd S4 fun U' s' T' S'=>⟨U',W2,_,T',S',.refl,rfl⟩) ?_ (fun v st' U' s' g=>g);rintro U5 W5 _ s5 S5 rfl;have M5:Mt M (ag (ag σ₂ P.it (.o (.list l'))) P.ii (.d d)) Z (st3.set xi (.d d)):=M3.set (cg K.hi).2.2 d;have l5:=l3.set (.d d) K.iil;have hh5:=hh3.set (.d d) K.xih;have h10:(r,X.o a)∈(st3.set xi (.d d)).vars:=fS hvt fun e=>by
      have h1:=(cg K.ht).2.2;have h2:=(cg K.hi).2.2;have e':r=xi:=e;rw [e',h2] at h1;exact K.iti (jC h1).symm
     generalize st3.set xi (.d d)=st5 at S5 M5 l5 hh5 h10;refine dW (G:=G) (J:=fun st'=>st'=st5) S5.lives (je (((cQ Wd m M ca _ K.ha A Z st5 _ n hA M5).2.1 _ hca U5 W5 s5 S5).mono fun s6 k6=>?_)) ?_ (fun v st' U' s' g=>g)
     . refine rl (if_neg (by exact fun h=>nB h)) ?_;exact aF (eI (F:=dU (fun st'=>st'=st5) G) (S5.keeps k6) rfl) (fun f s' P=>P.after S5.lives (.of_keeps k6) .refl) fun q q e=>e
     rintro U6 W6 st6 s6 S6 e6;clear S5 hca hd h1 hl' hr hwr t;clear hh2 l2 k M2;clear S4;subst e6;have hsub:∀ i v,ah (eM (ag (ag σ₂ P.it (.o (.list l'))) P.ii (.d d)) P.it) i=aa v->ah (ag (ag σ₂ P.it (.o (.list l'))) P.ii (.d d)) i=aa v:=fun i v hv=>by
      rw [kx] at hv;refine oR hv fun q hv=>hv
     have M6:=M5.sub hsub;have f10:bP (eM (ag (ag σ₂ P.it (.o (.list l'))) P.ii (.d d)) P.it):=bP.drop fun i v hi hv=>by
      rw [br] at hv;split at hv
      . clear S6 s5 W5 U5 u;clear s6 W6 U6;replace hv:=sI hv;subst hv;exact ⟨d,rfl⟩
      . rw [br,if_neg hi] at hv;exact p i v hv
     have hn6:ah (eM (ag (ag σ₂ P.it (.o (.list l'))) P.ii (.d d)) P.it) ih=none:=by
      refine rl kx ?_;refine rl (if_neg (fun e=>K.ith e.symm)) ?_;refine rl br ?_;refine rl (if_neg (fun e=>K.iih e.symm)) ?_;refine rl br ?_;refine rl (if_neg (fun e=>K.ith e.symm)) ?_;exact hn2
     have g10:ah (eM (ag (ag σ₂ P.it (.o (.list l'))) P.ii (.d d)) P.it) P.it=none:=by refine rl kx ?_;refine rl (if_pos rfl) ?_;rfl
     refine dW (G:=G) (J:=fun st'=>∃ σ₂ N,cW Φ n P σ₂ N (j+1) (ls.drop (j+1))=aa (I,V)/\Mt M σ₂ Z st'/\bP σ₂/\ah σ₂ ih=ab/\ah σ₂ P.it=ab/\fz st' xl L as ls/\fF st' xh as N) S6.lives
      (je (((cQ Wd m M _ _ (K.hci p4) A Z st6 _ n hA M5).2.1 _ hb U6 W6 s6 S6).mono fun s7 k7=>?_)) (fun U' W' st' s' S' hJ=>eI S' hJ) (fun v st' U' s' g=>g)
     have S7:=S6.keeps k7;clear s5 W5 U5 hb;rcases b with _|_
     . refine rl (if_neg (by exact fun h=>nB h)) ?_;exact aF (eI (F:=dU (fun st'=>∃ σ₂ N,cW Φ n P σ₂ N (j+1) (ls.drop (j+1))=aa (I,V)/\Mt M σ₂ Z st'/\bP σ₂/\ah σ₂ ih=ab/\ah σ₂ P.it=ab/\fz st' xl L as ls/\fF st' xh as N) G) S7
        ⟨_,N,u,M6,f10,hn6,g10,l5,hh5⟩) (fun f s' P=>P.after S6.lives (.of_keeps k7) .refl) fun q q e=>e
     . refine rl (if_pos rfl) ?_;refine aF (Q:=bF B w H Z M.wc st6 U6 W6 s7 (dU (fun st'=>∃ σ₂ N,cW Φ n P σ₂ N (j+1) (ls.drop (j+1))=aa (I,V)/\Mt M σ₂ Z st'/\bP σ₂/\ah σ₂ ih=ab/\ah σ₂ P.it=ab/\fz st' xl L as ls/\fF st' xh as N) G))
        ?_ (fun f s' P=>P.after S6.lives (.of_keeps k7) .refl) fun q q e=>e
       refine dW (G:=G) (J:=fun st'=>∃ σ₂ N,cW Φ n P σ₂ N (j+1) (ls.drop (j+1))=aa (I,V)/\Mt M σ₂ Z st'/\bP σ₂/\ah σ₂ ih=ab/\ah σ₂ P.it=ab/\fz st' xl L as ls/\fF st' xh as N) S7.lives
        (lB ((fu (M:=M) M5.names K.ht h10 U6 W6 s7 S7).mono fun v s8 k8 r8=>?_) (by rfl)) (fun U' W' st' s' S' hJ=>eI S' hJ) (fun v st' U' s' g=>g)
       refine ft (S7.keeps k8) (M5.storable K.hh) r8 fun s9 T9 S9=>bF.iK U6 W6 _ ((aO.of_keeps k8).trans T9 S7.live) S9 .refl ⟨_,aa j,u,M6.hid _ (cg K.hh).2.2 hn6,f10,hn6,g10,l5.set _ K.hil,a,ha,ix⟩
 . cases f with
   |next =>
    refine lk fun _ κ=>aM F fun σ₂ N z=>vA z fun hr M2 p hn2 k l2 hh2=>?_;clear F z;rw [aZ,hal,sH] at hr;obtain ⟨⟩:=hr;refine κ ⟨l2,M2,p,hn2,k,hh2⟩
   |ret v=>exact F
   |brk=>exact F
   |cont=>exact F
end
section
variable {xl xh:aq} {L:am} {as:List am} {ls ls':List (List D)} {hm:Option Nat}
theorem Mt.wr(D:Mt M O Z C)l:Mt M O Z { C with wr:=l }:=⟨D.names,D.fk,D.var,D.inj,D.lt,D.ltS⟩
theorem GJ(S:ay B w H Z wc U W C s)(hm:(L,ob)∈C.own):L≠Z.locals /\ ∀ x c,Z.cells.lookup x=aa c->c≠L:=by refine S.ownK _ hm fun _ h1 r=>⟨h1,fun x c hc e=>?_⟩;clear h1 hm;subst e;refine S.cellUK x c hc fun _ v hv=>tr r hv
def InJ(M:Cx)(Z:aS)(I:Sg)(xl xh:aq)(ih it:Nat)(L:am)(as:List am)(ls:List (List D))(hm:Option Nat)(st':MS):Prop :=
 bE st' xl L as ls/\Mt M I Z st'/\bP I/\ah I ih=ab/\ah I it=ab/\fF st' xh as hm
theorem JD(p:WD B w H mg mb gl Φ R){m n:Nat}{xi X y:aq}(K:o0 gl M m P xi X xh xl y ih il c1 ec ca c4)
 {q p1 u t x p5 r p7 z p9 p10 pos pl:aK}
 (hA:aW (R+4) A) (J:Mt M O Z C) (a:bP O) (c:ah O ih=ab) (d:ah O P.it=ab) (l:bE C xl L as ls) (Q:fF C xh as ab) (V:cW Φ n P O ab 0 ls=aa (I,N)) (S:ay B w H Z M.wc U W C s) :
 ak (av B w) A (exec (.For (.Name X q) (.Name xl pl) [
  .If c1 [.Assign [.Name xi p1] ec u,.If ca rs [] t,.If (.Name xi x) [.Assign [.Name xh p5] (.Name X r) p7] [] z] [] p9] [] pos) Z)
  (bF B w H Z M.wc C U W s (dU (InJ M Z I xl xh ih P.it L as ls N) G)) (fun g g=>False) s:=by
 refine ac (GJ S l.own) fun a1 o=>?_;have b:=(S.own _ l.own).1;refine aF (Lg (p10:=p10) (G:=G) p K hA (J.wr _) a c d l.less (by simp) Q V (S.lessW a1 o)) (fun f s' i=>?_) fun g g e=>e;refine bF.eK i fun U' W' st' T S' D F=>?_;clear i;refine ck U' (L::W') ({ st' with wr:=L::st'.wr }) ⟨T.wideW (S.wr _ l.wrL),S'.moreW (T.uu L b (by simp)),D,?_⟩;cases f with
 |next=>refine d4 F fun h1 h2 h3 h4 h5 k=>?_;clear F;exact ⟨h1.more,h2.wr _,h3,h4,h5,by cases N with|none=>exact k|some j=>exact k⟩
 |ret v=>exact F
 |brk=>exact F
 |cont=>exact F
theorem H7(Wd:WD B w H mg mb gl Φ R){m n:Nat}(K:o0 gl M m P xi xt xh xl xv ih il c1 ec ca c4)
 {p0 p1 p2 p3 p4 p5 p6 p7 p8 p9 p10 pos pl q1 q2 q3 q4 q5 q6 q7 q8 q9 q10 q11 q12 q13 q14 q15 q16 q17 ap1 ap2:aK}
 (hA:aW (R+4) A) (hln1:(ap1.endLine == q9.line)=true) (e11:(ap2.endLine == q14.line)=true)
 (N:Mt M (ag O P.iv (.d v)) Z C) (hσ:bP O) (hnh:ah O ih=ab) (hnt:ah O P.it=ab) (l:bE C xl L as ls) (hivt:P.iv≠P.ii) (hkv:∀ σ₁ hm,cW Φ n P (ag O P.iv (.d v)) ab 0 ls=aa (σ₁,hm)->ah σ₁ P.iv=aa (.d v))
 (V:me Φ n P O ls v=aa (I,ls')) (S:ay B w H Z M.wc U W C s) :
 ak (av B w) A (gq [
  .Assign [.Name xh q1] (.Constant .none k1 q2) q3,
  .For (.Name xt p0) (.Name xl pl) [
   .If c1 [.Assign [.Name xi p1] ec p2,.If ca rs [] p3,.If (.Name xi p4) [.Assign [.Name xh p5] (.Name xt p6) p7] [] p8] [] p9] [] pos,
  .If (.Compare (.Name xh q4) [.IsNot] [.Constant .none k2 q5] q6) [.Expr (.Call (.Attribute (.Name xh q7) "append" ap1) [.Name xv q8] [] q9) q10]
   [.If c4 [.Expr (.Call (.Attribute (.Name xl q11) "append" ap2) [.List [.Name xv q12] q13] [] q14) q15] [] q16] q17] Z)
  (bF B w H Z M.wc C U W s (dU (fun st'=>∃ T,bE st' xl L T ls'/\Mt M I Z st'/\bP I/\ah I ih=ab/\ah I P.it=ab) G)) (fun z z=>False) s:=by
 refine bL V fun hz V=>ac hz fun hz1 hz2=>?_;clear hz;have hn1:ah (ag O P.iv (.d v)) ih=none:=by refine rl br ?_;refine rl (if_neg (fun e=>K.ivh e.symm)) ?_;exact hnh
 have hn2:ah (ag O P.iv (.d v)) P.it=none:=by refine rl br ?_;refine rl (if_neg (fun e=>K.ivt e.symm)) ?_;exact hnt
 refine dW (G:=G) (J:=fun st'=>st'=C.set xh (.d .none)) S.lives (lB (OP.mono (qJ U W s S) fun v₁ s₁ a10 h10=>ft (S.keeps a10) (N.storable K.hh) h10 fun s₂ f11 g11=>⟨U,W,_,(aO.of_keeps a10).trans f11 S.live,g11,.refl,rfl⟩) (by rfl)) ?_ (fun v st' U' s' g=>g);rintro U1 W1 _ s1 S1 rfl;have M1:Mt M (ag O P.iv (.d v)) Z (C.set xh (.d .none)):=N.hid _ (cg K.hh).2.2 hn1;have l1:=l.set (.d .none) K.hil;have hh1:fF (C.set xh (.d .none)) xh as none:=ix;generalize C.set xh (.d .none)=st1 at S1 M1 l1 hh1;refine ax V fun q hdi V=>?_;obtain ⟨σ₁,hm'⟩:=q
 . refine dW (G:=G) (J:=InJ M Z σ₁ xl xh ih P.it L as ls hm') S1.lives (JD (p10:=p10) Wd K hA M1 (hσ.set _ _) hn1 hn2 l1 hh1 hdi S1) ?_ (fun v st' U' s' g=>g);rintro U2 W2 X s2 S2 ⟨l2,k,c,y,r,hh2⟩;have evv:∀ pk,EV B w H A Z M.wc X (.Name xv pk) (.d v):=fun pk=>fu (M:=M) k.names K.hv (k.var xv P.iv (cg K.hv).2.2 _ (hkv _ _ hdi));rcases hm' with _|j
   . refine aG V fun q h4 V=>?_;obtain rfl:I=σ₁:=(congrArg Prod.fst V).symm;refine dW (G:=G) (J:=fun st'=>∃ T,bE st' xl L T ls'/\Mt M I Z st'/\bP I/\ah I ih=ab/\ah I P.it=ab) S2.lives (je ((rb ((fun pk=>fu (M:=M) k.names K.hh hh2) q4) qJ y3 (by rfl) U2 W2 s2 S2).mono fun s3 k3=>?_)) (fun U' W' st' s' i t=>eI i t) (fun v st' U' s' g=>g);refine rl (if_neg (fun h=>nB h)) ?_;have u:=S2.keeps k3;refine aF (Q:=bF B w H Z M.wc X U2 W2 s3 (dU (fun st'=>∃ T,bE st' xl L T ls'/\Mt M I Z st'/\bP I/\ah I ih=ab/\ah I P.it=ab) G)) ?_ (fun f s' P=>P.after S2.lives (.of_keeps k3) .refl) fun z z e=>e;cases q with
     |true =>
      obtain ⟨⟩:=V;refine dW (G:=G) (J:=fun st'=>∃ T,bE st' xl L T (ls ++ [[v]])/\Mt M I Z st'/\bP I/\ah I ih=ab/\ah I P.it=ab) u.lives
       (je (((cQ Wd m M c4 _ K.h4 A Z X _ n hA k).2.1 _ h4 U2 W2 s3 u).mono fun s4 k4=>?_)) (fun U' W' st' s' i t=>eI i t) (fun v st' U' s' g=>g)
      refine rl (if_pos rfl) ?_;have S4:=u.keeps k4;refine aF (Q:=bF B w H Z M.wc X U2 W2 s4 (dU (fun st'=>∃ T,bE st' xl L T (ls ++ [[v]])/\Mt M I Z st'/\bP I/\ah I ih=ab/\ah I P.it=ab) G)) ?_ (fun f s' P=>P.after u.lives (.of_keeps k4) .refl) fun z z e=>e;refine dW (G:=G) (J:=fun st'=>∃ T,bE st' xl L T (ls ++ [[v]])/\Mt M I Z st'/\bP I/\ah I ih=ab/\ah I P.it=ab) S4.lives
       (z5 (d:=.list [v]) (by rfl) e11 rfl k.fk (fu (M:=M) k.names K.hl l2.var) l2.own l2.wrL (ui (gi (x:=.d v) (evv q12) hM) (ef _)) rfl (by refine rl (aZ ..) ?_;exact vF hz1 l.lot.length) S4 fun b s' hb hd T' i=>?_) (fun U' W' st' s' i t=>eI i t) (fun v st' U' s' g=>g)
      have hO:f1 X s4 ((X.addO b (.list ([v].map .d))).setO L (.list (as.map .o ++ [.o b]))):=fun p hp=>by
       refine yK p hp fun q hq e=>?_;rcases aL.mp hq with rfl|hq
       . exact .inr (by refine rl (az e) ?_;exact hd)
       . exact .inl ⟨q,hq,e⟩
      exact ck _ _ _ ⟨T',i,hO,_,l2.appNew hb v,k.vars c rfl,c,y,r⟩
     |false =>
      obtain ⟨⟩:=V;refine dW (G:=G) (J:=fun st'=>∃ T,bE st' xl L T ls/\Mt M I Z st'/\bP I/\ah I ih=ab/\ah I P.it=ab) u.lives
       (je (((cQ Wd m M c4 _ K.h4 A Z X _ n hA k).2.1 _ h4 U2 W2 s3 u).mono fun s4 k4=>?_)) (fun U' W' st' s' i t=>eI i t) (fun v st' U' s' g=>g)
      refine rl (if_neg (fun h=>nB h)) ?_;exact aF (eI (F:=dU (fun st'=>∃ T,bE st' xl L T ls/\Mt M I Z st'/\bP I/\ah I ih=ab/\ah I P.it=ab) G) (u.keeps k4) ⟨as,l2,k,c,y,r⟩) (fun f s' P=>P.after u.lives (.of_keeps k4) .refl) fun z z e=>e
   . refine bL V fun z V=>?_;obtain rfl:I=σ₁:=(congrArg Prod.fst (sI V)).symm;obtain ⟨⟩:=V;refine ae hh2 fun a q0=>ac q0 fun ha hva=>?_;clear hh2 q0;have evh:∀ pk,EV B w H A Z M.wc X (.Name xh pk) (.o a):=fun pk=>fu (M:=M) k.names K.hh hva;refine ae (l2.lot.get ha) fun l' q0=>aE q0 fun hl' b12 hwr=>?_;clear q0;have hl0:ls.getD j []=l':=by simp [hl']
     refine dW (G:=G) (J:=fun st'=>∃ T,bE st' xl L T (ls.set j (ls.getD j [] ++ [v]))/\Mt M I Z st'/\bP I/\ah I ih=ab/\ah I P.it=ab) S2.lives (je ((rb (evh q4) qJ E5 (by rfl) U2 W2 s2 S2).mono fun s3 k3=>?_)) (fun U' W' st' s' i t=>eI i t) (fun v st' U' s' g=>g);refine rl (if_pos rfl) ?_;have u:=S2.keeps k3;refine aF (Q:=bF B w H Z M.wc X U2 W2 s3 (dU (fun st'=>∃ T,bE st' xl L T (ls.set j (ls.getD j [] ++ [v]))/\Mt M I Z st'/\bP I/\ah I ih=ab/\ah I P.it=ab) G)) ?_ (fun f s' P=>P.after S2.lives (.of_keeps k3) .refl) fun z z e=>e;refine dW (G:=G) (J:=fun st'=>∃ T,bE st' xl L T (ls.set j (ls.getD j [] ++ [v]))/\Mt M I Z st'/\bP I/\ah I ih=ab/\ah I P.it=ab) u.lives
      (Bc (by rfl) hln1 rfl k.fk (evh q7) b12 hwr (evv q8) (by refine rl (aZ ..) ?_;have:=bq.mp hz2 l' (fM hl');simp at this;exact aH ‹_› (by decide)) u fun s' T' i=>?_) (fun U' W' st' s' i t=>eI i t) (fun v st' U' s' g=>g)
     refine rl hl0 (bF.iK _ _ _ T' i (fun p hp=>.inl (kF p hp)) ⟨_,l2.appOld ha hl' v,k.vars c rfl,c,y,r⟩)
end
noncomputable def n9(O:Sg):Bool:=O.all fun p=>match p.2 with
 | .d _=>true
 | .o _=>false
theorem uk:∀ {O:Sg},n9 O=true->bP O
 |[],_,i,v,h=>by exact nS h
 |(k,u)::r,h,i,v,hv=>by
  unfold n9 at h;rw [xw,bX] at h;unfold ah at hv;split at hv
  . replace hv:=sI hv;subst hv;rcases u with d|d
    . exact ⟨d,rfl⟩
    . exact absurd h.1 (fun h=>nB h)
  . exact uk (O:=r) h.2 i v hv
structure LR where
 cs:List St
 ifd:Nat
 il:Nat
 ih:Nat
 it:Ex
 P:LT
 it3:Nat
 cap3:List Nat
 c3:Ex
 e3:Ex
noncomputable def mf(Φ:Nat->List D->Option D)(n:Nat)(cap3:List Nat)(it3:Nat)(c3 e3:Ex)(O:Sg)(ls:List (List D)):Option D :=
 if jW O cap3=true then (a8 (n3 Φ n O it3 c3 e3) ls).bind fun zss=>if zss.flatten.length<=100000 then aa (.list zss.flatten) else ab else ab
noncomputable def zt(Φ:Nat->List D->Option D)(n:Nat)(Q:LR)(O:Sg):Option D :=
 if (n9 O && (ah O Q.ih).isNone)=true then (d5 (.one Q.P.ik) (an Φ n O) (an Φ n O) Q.it).bind fun xs=>(jT Φ n Q.P O [] xs).bind fun r=>mf Φ n Q.cap3 Q.it3 Q.c3 Q.e3 r.1 r.2 else ab
noncomputable def AB(v:V):Bool:=match v with
 | .d _=>false
 | .o d=>match d with
  | .list l=>l.isEmpty
  |_=>false
theorem GK(h:AB v=true):v = .o (.list []):=by
 cases v with
 |d _=>exact nB h
 |o d =>
  cases d with
  |list l=>refine rl (gY.mp h) ?_;rfl
  |_=>exact nB h
noncomputable def vD(v:V):Option D:=match v with
 | .d x=>aa x
 | .o _=>ab
theorem OQ(h:vD v=aa d):v = .d d:=by
 cases v with
 |d x=>exact congrArg V.d (sI h)
 |o _=>exact nS h
noncomputable def Bd(p:Sg×Fl):Option Sg:=match p.2 with
 | .next=>aa p.1
 | .ret _=>ab
theorem H8{O:Sg}(h:Bd p=aa O):p=(O,.next):=by
 rcases p with ⟨a,_|_⟩
 . exact congrArg (·,Fl.next) (sI h)
 . exact nS h
noncomputable def mh(Φ:Nat->List D->Option D)(n:Nat)(cs:List St)(ifd il:Nat)(O:Sg):Option Sg :=
 ((be Φ n O cs).bind Bd).bind fun F=>(ah (dO F ifd) il).bind fun v=>if AB v=true then aa (eM (dO F ifd) il) else ab
noncomputable def nM(Φ:Nat->List D->Option D)(n:Nat)(Q:LR)(O:Sg):Option D :=
 (mh Φ n Q.cs Q.ifd Q.il O).bind fun I=>zt Φ n Q I
structure vY where
 cs:List St
 ir:Nat
 il:Nat
 ih:Nat
 it:Ex
 P:DT
 it3:Nat
 cap3:List Nat
 c3:Ex
 e3:Ex
noncomputable def z8(Φ:Nat->List D->Option D)(n:Nat)(Q:vY)(O:Sg):Option D :=
 if (n9 O && (ah O Q.ih).isNone && (ah O Q.P.it).isNone)=true then (d5 (.one Q.P.iv) (an Φ n O) (an Φ n O) Q.it).bind fun xs=>(jg Φ n Q.P O [] xs).bind fun r =>
  (mf Φ n Q.cap3 Q.it3 Q.c3 Q.e3 r.1 r.2).bind fun d=>((ah r.1 Q.ir).bind vD).map fun e=>.tup [d,e] else ab
noncomputable def n4(Φ:Nat->List D->Option D)(n:Nat)(Q:vY)(O:Sg):Option D :=
 (mh Φ n Q.cs Q.ir Q.il O).bind fun I=>z8 Φ n Q I
section
variable {xl xh:aq} {L:am} {as:List am} {ls ls':List (List D)} {hm:Option Nat}
theorem GL{n:Nat}{i:Nat}(h1:i≠P.it)(J:i≠P.ii):∀ {ls:List (List D)} {O I:Sg} {hm F:Option Nat} {j:Nat},cW Φ n P O hm j ls=aa (I,F)->ah I i=ah O i:=by
 intro ls;induction ls with
 |nil=>intro O I hm F j h;obtain ⟨⟩:=h;rfl
 |cons l ls ih =>
  intro O I hm F j h;rcases yj h with ⟨G,h⟩|⟨G,d,b,G,G,G,h⟩
  . exact ih h
  . refine rl (ih h) (rl kx (rl (if_neg h1) (rl br (rl (if_neg J) (rl br (rl (if_neg h1) rfl))))))
theorem EC{n:Nat}{xs:List D}(h:jg Φ n P O ls (xs.drop j)=aa (I,ls'))(G:xs[j]? = aa x):
 ∃ σ₁ F,me Φ n P O ls x=aa (σ₁,F)/\jg Φ n P σ₁ F (xs.drop (j+1))=aa (I,ls'):=by
 rw [mN ((fL.mp G).1),(fL.mp G).2] at h
 refine ax h fun r ht h=>?_
 exact aR r.1 r.2 ⟨ht,h⟩
theorem H9(Wd:WD B w H mg mb gl Φ R){m n:Nat}(K:o0 gl M m P xi xt xh xl t ih il c1 ec ca c4)(i:P.iv≠P.ii)
 {p0 p1 p2 p3 p4 p5 p6 p7 p8 p9 p10 pos pl q0 q1 q2 q3 q4 q5 q6 q7 q8 q9 q10 q11 q12 q13 q14 q15 q16 q17 q18 y z:aK} {it:Expr}
 (hA:aW (R+4) A) (k:dH it=false) (f10:(y.endLine == q9.line)=true) (a10:(z.endLine == q14.line)=true) (o:df B w H A Z M.wc C (.Name t q0) it (xs.map .d) [])
 (J:Mt M O Z C) (u:bP O) (hnh:ah O ih=ab) (q:ah O P.it=ab) (l:bE C xl L as ls) (c:jg Φ n P O ls xs=aa (I,ls')) (S:ay B w H Z M.wc U W C s) :
 ak (av B w) A (exec (.For (.Name t q0) it [
  .Assign [.Name xh q1] (.Constant .none k1 q2) q3,
  .For (.Name xt p0) (.Name xl pl) [
   .If c1 [.Assign [.Name xi p1] ec p2,.If ca rs [] p3,.If (.Name xi p4) [.Assign [.Name xh p5] (.Name xt p6) p7] [] p8] [] p9] [] pos,
  .If (.Compare (.Name xh q4) [.IsNot] [.Constant .none k2 q5] q6) [.Expr (.Call (.Attribute (.Name xh q7) "append" y) [.Name t q8] [] q9) q10]
   [.If c4 [.Expr (.Call (.Attribute (.Name xl q11) "append" z) [.List [.Name t q12] q13] [] q14) q15] [] q16] q17] [] q18) Z)
  (bF B w H Z M.wc C U W s (dU (fun st'=>∃ r,bE st' xl L r ls'/\Mt M I Z st') G)) (fun ο ο => False) s:=by
 refine aF (uA (G:=G) hA.h (jm k) S o (fun b hb=>by exact (a7 hb).elim) (fun j T=>∃ σ₂ N Q,jg Φ n P σ₂ Q (xs.drop j)=aa (I,ls')/\Mt M σ₂ Z T/\bP σ₂/\ah σ₂ ih=ab/\ah σ₂ P.it=ab/\bE T xl L N Q)
  ⟨O,as,ls,by simpa using c,J,u,hnh,q,l⟩ (fun j x hx T hJ=>?_)) (fun f s' P=>P.mono fun f st' U' s' F=>?_) fun ο ο e=>e
 . refine lk fun _ κ=>aP hJ fun σ₂ N Q a=>d4 a fun hr M2 V g X l2=>?_;clear hJ a;rw [cy] at hx;clear S c l q hnh u J o k;clear it;refine aG hx fun d hd a=>?_;subst a;refine aM (EC hr hd) fun σ₁ p a=>ac a fun ht hr'=>?_;clear a;refine κ ?_;refine ⟨[(t,.d d)],.name,fun b hb=>by refine rl (aV.mp hb) ?_;exact M2.storable K.hv,fun U2 W2 s3 S3=>?_⟩;refine aF (H7 (G:=G) (p10:=p10) Wd K hA f10 a10 (M2.set (cg K.hv).2.2 d) V g X (l2.set (.d d) K.vil) i (fun σ₁ hm hdi=>by refine rl (GL K.ivt i hdi) ?_;refine rl br ?_;refine rl (if_pos rfl) ?_;rfl) ht S3) (fun f s' Pf=>Pf.mono fun f st' U' s' F=>?_) fun ο ο e=>e;clear ht hd l2 X g V M2 hr;clear Q N;cases f with
   |next=>refine ae F fun r a=>cX a fun l' M' h1 h2 h3=>?_;clear F a;exact ck σ₁ r p ⟨hr',M',h1,h2,h3,l'⟩
   |ret v=>exact F
   |brk=>exact F
   |cont=>exact F
 . clear p10 S c l q;cases f with
   |next =>
    refine lk fun _ κ=>aP F fun σ₂ N Q a=>d4 a fun hr M2 V g X l2=>?_;clear F a;rw [aZ,sH] at hr;clear X g V;obtain ⟨⟩:=hr;refine κ ⟨N,l2,M2⟩
   |ret v=>exact F
   |brk=>exact F
   |cont=>exact F
theorem JE(h:ai (cK B w H Φ R M) cs ts):∀ {n:Nat} {O F:Sg} {C:MS} {ρ:Nat->am} {U W:List am} {s:aw} {Q:gT->aw->Prop},aW (R+4) A->bg M O Z C ρ->be Φ n O cs=aa (F,.next)->ay B w H Z M.wc U W C s ->
 (∀ U' W' st' L s',aO U W s U' W' s'->ay B w H Z M.wc U' W' st' s'->bg M F Z st' L->ak (av B w) A (gq G Z) Q (fun N N=>False) s')->ak (av B w) A (gq (ts++G) Z) Q (fun N N=>False) s:=by
 induction h with
 |nil =>
  intro n O F C ρ U W s Q V D J S hq;rcases n with _|n
  . exact nS J
  . obtain ⟨⟩:=J;exact hq _ _ _ _ _ .refl S D
 | @cons c t cs ts h1 _ ih =>
  intro n O F C ρ U W s Q V D J S hq;refine lk fun _ T=>?_;rcases n with _|n
  . exact nS J
  . rcases qm J with ⟨σ₁,hc,J⟩|⟨d,_,e⟩
    . refine T (ko (aF (h1 A Z n O σ₁ .next C ρ V D hc U W s S) (fun f s₁ P=>?_) fun N N e=>e));refine lk fun _ T=>bW.eK P fun o q b g X j m p a=>?_;clear P;subst a;refine T (ih V m J j fun U' W' st' L s' k i l=>hq U' W' st' L s' (X.trans k S.live) i l)
    . contradiction
theorem zu(h:ai (cK B w H Φ R M) cs ts){n ifd il:Nat}(hl:a5 M xl=aa il)(F:mh Φ n cs ifd il σ₀=aa O)(e:aW (R+4) A)(D:bg M σ₀ Z C ρ)(S:ay B w H Z M.wc U W C s)
 (hq:∀ U' W' st' L s',aO U W s U' W' s'->ay B w H Z M.wc U' W' st' s'->bE st' xl L [] []->Mt M O Z st'->ak (av B w) A (gq G Z) Q (fun P P=>False) s'):ak (av B w) A (gq (ts++G) Z) Q (fun P P=>False) s:=by
 refine lk fun _ N=>?_
 refine ax F fun X hb F=>?_
 refine ax hb fun p hb J=>?_
 obtain rfl:=H8 J
 refine ax F fun v hv F=>?_
 refine bJ F fun J F=>?_
 obtain rfl:=GK J
 clear J
 clear J
 replace F:=sI F;subst F
 refine N ?_
 refine JE h e D hb S fun U' W' st' a s' i b k=>?_
 refine lk fun _ N=>?_
 refine HX b k ifd fun g f T V c j m=>?_
 refine ac (Fz j hl hv) fun l d=>?_
 refine N ?_
 exact hq g f T _ s' (i.trans V S.live) c l d
end
section
variable {xl xh:aq} {L:am} {as:List am} {ls ls':List (List D)} {hm:Option Nat}
theorem yk(b:WD B w H mg mb gl Φ R){m n:Nat}{f pl q:aK}(g:aW (R+4) A)(hl:a5 M xl=aa il)
 (T:eh M G=true) (S:a5 (aQ M G) a=aa it3) (Q:cE gl m (aQ M G) c3=aa P) (X:cE gl m (aQ M G) elt=aa J) (N:d0 M.sl G.names=cap3) (F:Mt M O Z C) (l:bE C xl L as ls)
 (hd:mf Φ n cap3 it3 P J O ls=aa d):EV B w H A Z M.wc C (.ListComp elt [⟨.Name a f,.Name xl pl,[c3],0⟩] G q) (.d d):=by
 refine lk fun _ e=>?_
 refine bJ hd fun hc hd=>?_
 refine ax hd fun zss c hd=>?_
 refine bL hd fun V hd=>?_
 replace hd:=sI hd;subst hd
 refine e ?_
 exact JC b g hl T S Q X F l (by refine rl N ?_;exact hc) c V
theorem GM(Wd:WD B w H mg mb gl Φ R){m n:Nat}{xb l t X V:aq}{c q N:Scope}(K:LSt gl M m Q.P xb xh l xl X V Q.ih Q.il eb c1 c2 c q)
 {p0 p1 p2 p3 p4 p5 p6 p7 p8 p9 p10 p11 p12 p13 p14 p15 p16 p17 p18 o p20 p21 p22 p23 p p25 p26 p27 p28 p29 p30 p31 b i pos px pl pq pr:aK} {it elt c3:Expr}
 (k:ai (cK B w H Φ R M) Q.cs [t0,t1]) (x:dH it=false) (hit:cE gl m M it=aa Q.it) (z:(b.endLine == o.line)=true) (j:(i.endLine == p.line)=true)
 (hg3:eh M N=true) (ht3:a5 (aQ M N) t=aa Q.it3) (hc3:cE gl m (aQ M N) c3=aa Q.c3) (hel:cE gl m (aQ M N) elt=aa Q.e3) (y:d0 M.sl N.names=Q.cap3)
 (hga:ga=("append" : aq)) (hgb:gb=("append" : aq)) (J:nM Φ n Q σ₀=aa d) :
 n0 B w H R M σ₀ [t0,t1,.For (.Name X p0) it [
  .Assign [.Name xb p1] eb p2,
  .Assign [.Name xh p3] (.ListComp (.Name l p4) [⟨.Name l p5,.Name xl p6,[c1],0⟩] c p7) p8,
  .Assign [.Name xh p9] (.ListComp (.Name l p10) [⟨.Name l p11,.Name xh p12,[c2],0⟩] q p13) p14,
  .If (.Compare (.Call (.Name V p27) [.Name xh p28] [] p29) [.Gt] [.Constant (.int 0) k2 p30] p31)
   [.Expr (.Call (.Attribute (.Subscript (.Name xh p15) (.Constant (.int 0) k1 p16) p17) ga b) [.Name X p18] [] o) p20]
   [.Expr (.Call (.Attribute (.Name xl p21) gb i) [.List [.Name X p22] p23] [] p) p25] p26] [] pos,
  .Return (aa (.ListComp elt [⟨.Name t px,.Name xl pl,[c3],0⟩] N pq)) pr] d:=by
 subst hga;subst hgb;intro A Z C hA F U W s S;refine lk fun _ κ=>ax J fun O a J=>bJ J fun hc J=>ct hc fun hc1 hc2=>ax J fun xs u J=>ax J fun r T J=>?_;obtain ⟨I,ls'⟩:=r;refine κ ?_;refine zu (ts:=[t0,t1]) k K.hl a hA F S fun U1 W1 st1 L s1 T1 S1 l1 M1=>ko (aF (GI (G:=fun ο ο ο => False) Wd K hA x z j ((cQ Wd m M it _ hit A Z st1 O n hA M1).2.2.2.2 (.one Q.P.ik) (.Name X p0) xs (fun e=>by exact nB e) u) M1 (uk hc1) (wd.mp hc2) l1 T S1) (fun f s2 Pf=>?_) fun ο ο e=>e);refine lk fun _ κ=>bF.eK Pf fun U2 W2 st2 T2 S2 O2 g=>?_;clear Pf;clear O2 T u hc2 hc1 hc a;cases f with
 |ret v=>exact g.elim
 |brk=>exact g.elim
 |cont=>exact g.elim
 |next =>
  refine ae g fun as' z0=>ac z0 fun l2 M2=>?_;clear g z0;refine κ (ko (wM ((yk Wd hA K.hl hg3 ht3 hc3 hel y M2 l2 J U2 W2 s2 S2).mono fun v s3 k3 r3=>?_)));exact ck U2 W2 st2 ⟨(T1.trans T2 S.live).trans (.of_keeps k3) S.live,S2.keeps k3,r3⟩
theorem Ia(Wd:WD B w H mg mb gl Φ R){m n:Nat}{xi xt b X xr:aq}(K:o0 gl M m Q.P xi xt xh xl b Q.ih Q.il c1 ec ca c4)(k:Q.P.iv≠Q.P.ii)
 {p0 p1 p2 p3 p4 p5 p6 p7 p8 p9 p10 pos pl q0 q1 q2 q3 q4 q5 q6 q7 q8 q9 q10 q11 q12 q13 t q15 q16 q17 q18 i l px pl3 pq x pt pr:aK} {it elt c3:Expr}
 (u:ai (cK B w H Φ R M) Q.cs [t0,t1,t2,t3]) (z:dH it=false) (hit:cE gl m M it=aa Q.it) (d10:(i.endLine == q9.line)=true) (o:(l.endLine == t.line)=true)
 (hg3:eh M N=true) (ht3:a5 (aQ M N) X=aa Q.it3) (hc3:cE gl m (aQ M N) c3=aa Q.c3) (hel:cE gl m (aQ M N) elt=aa Q.e3) (c10:d0 M.sl N.names=Q.cap3) (hr:a5 M xr=aa Q.ir)
 (hga:ga=("append" : aq)) (hgb:gb=("append" : aq)) (J:n4 Φ n Q σ₀=aa d) :
 n0 B w H R M σ₀ [t0,t1,t2,t3,.For (.Name b q0) it [
  .Assign [.Name xh q1] (.Constant .none k1 q2) q3,
  .For (.Name xt p0) (.Name xl pl) [
   .If c1 [.Assign [.Name xi p1] ec p2,.If ca rs [] p3,.If (.Name xi p4) [.Assign [.Name xh p5] (.Name xt p6) p7] [] p8] [] p9] [] pos,
  .If (.Compare (.Name xh q4) [.IsNot] [.Constant .none k2 q5] q6) [.Expr (.Call (.Attribute (.Name xh q7) ga i) [.Name b q8] [] q9) q10]
   [.If c4 [.Expr (.Call (.Attribute (.Name xl q11) gb l) [.List [.Name b q12] q13] [] t) q15] [] q16] q17] [] q18,
  .Return (aa (.Tuple [.ListComp elt [⟨.Name X px,.Name xl pl3,[c3],0⟩] N pq,.Name xr x] k3 pt)) pr] d:=by
 subst hga;subst hgb;intro A Z C hA F U W s S;refine lk fun _ κ=>ax J fun O hpr J=>bJ J fun hc J=>ct hc fun hc g=>ct hc fun c a=>?_;have hσ:=uk c;have hnh:ah O Q.ih=none:=wd.mp a;have hnt:ah O Q.P.it=none:=wd.mp g;refine ax J fun xs y J=>ax J fun q T J=>?_;obtain ⟨I,ls'⟩:=q;refine ax J fun d1 hd1 J=>aG J fun r V J=>ax V fun v V hv=>?_;clear a c g hc;obtain rfl:=OQ hv;clear hv hc;subst J;refine κ (zu (ts:=[t0,t1,t2,t3]) u K.hl hpr hA F S fun U1 W1 st1 L s1 T1 S1 l1 M1=>?_);have b10:=(cQ Wd m M it _ hit A Z st1 O n hA M1).2.2.2.2 (.one Q.P.iv) (.Name b q0) xs (fun e=>by exact nB e) y;refine ko (aF (H9 (p10:=p10) (G:=fun ο ο ο => False) Wd K k hA z d10 o b10 M1 hσ hnh hnt l1 T S1) (fun f s2 Pf=>?_) fun ο ο e=>e);refine lk fun _ κ=>bF.eK Pf fun U2 W2 p T2 S2 O2 j=>?_;clear Pf;clear O2 J T y;clear J;clear J;cases f with
 |ret v=>exact j.elim
 |brk=>exact j.elim
 |cont=>exact j.elim
 |next =>
  refine ae j fun as' z0=>ac z0 fun l2 M2=>?_;clear j z0;have ev:EV B w H A Z M.wc p (.Tuple [.ListComp elt [⟨.Name X px,.Name xl pl3,[c3],0⟩] N pq,.Name xr x] k3 pt) (.d (.tup [d1,r])) :=
   y0 (ds:=[d1,r]) (gi (yk Wd hA K.hl hg3 ht3 hc3 hel c10 M2 l2 hd1) (gi (fu (M:=M) M2.names hr (M2.var xr Q.ir (cg hr).2.2 _ V)) hM)) (by simp)
  refine κ (ko (wM ((ev U2 W2 s2 S2).mono fun v s3 k3 r3=>?_)));exact ck U2 W2 p ⟨(T1.trans T2 S.live).trans (.of_keeps k3) S.live,S2.keeps k3,r3⟩
end
end
noncomputable def Q0:Fn:=⟨[0],[.ite (.cmp .In (.var 0) (.tup [.str [116,105,109,101,115],.str [100,105,118],.str [109,111,100],.str [120,111,114]])) [.ret (.str [118,118,118])] [],.ite (.cmp .In (.var 0) (.tup [.str [108,105,110,101,97,114,95,108,101],.str [108,105,110,101,97,114,95,101,113],.str [108,105,110,101,97,114,95,110,101]])) [.ret (.str [110,86,110])] [],.ite (.cmp .In (.var 0) (.tup [.str [97,108,108,95,100,105,102,102,101,114,101,110,116],.str [116,97,98,108,101],.str [100,105,115,106,117,110,99,116,105,118,101]])) [.ret (.str [86,110])] [],.ite (.cmp .In (.var 0) (.tup [.str [109,97,120],.str [109,105,110],.str [110,118,97,108,117,101],.str [97,110,100],.str [111,114]])) [.ret (.str [86,118])] [],.ite (.cmp .In (.var 0) (.tup [.str [105,110,118,101,114,115,101],.str [108,101,120,95,108,101],.str [108,101,120,95,108,116],.str [99,108,97,117,115,101]])) [.ret (.str [86,86])] [],.ite (.cmp .In (.var 0) (.tup [.str [99,105,114,99,117,105,116],.str [105,110,99,114,101,97,115,105,110,103]])) [.ret (.str [86])] [],.ite (.cmp .In (.var 0) (.tup [.str [99,97,114,100,105,110,97,108,105,116,121],.str [99,117,109,117,108,97,116,105,118,101]])) [.ret (.str [86,110,110,110])] [],.ite (.cmp .In (.var 0) (.tup [.str [114,101,105,102],.str [105,109,112]])) [.ret (.str [118,116])] [],.ite (.cmp .Eq (.var 0) (.str [97,98,115])) [.ret (.str [118,118])] [],.ite (.cmp .Eq (.var 0) (.str [101,108,101,109,101,110,116])) [.ret (.str [118,86,118])] [],.ite (.cmp .Eq (.var 0) (.str [101,108,101,109,101,110,116,95,111,102])) [.ret (.str [118,110,118])] [],.ite (.cmp .Eq (.var 0) (.str [99,111,117,110,116])) [.ret (.str [86,110,118])] [],.ret (.ite (.cmp .Eq (.var 0) (.str [112,114,101,99,101,100,101])) (.str [110,110,86]) (.str [86,110,110,110,110,110]))]⟩
noncomputable def Q1:Fn:=⟨[0],[.asg 1 (.own (.list [])),.loop (.tup [2,3]) (.zip (.call 0 [.sub (.var 0) (.int 0)]) (.cut (.var 0) (aa (.int 1)) ab)) [.ite (.cmp .Eq (.var 2) (.str [118])) [.app 1 (.var 3)] [.ite (.cmp .Eq (.var 2) (.str [86])) [.ext 1 (.var 3)] [.ite (.cmp .Eq (.var 2) (.str [116])) [.ext 1 (.call 1 [.var 3])] []]]],.ret (.prim .sortedset (.var 1))]⟩
noncomputable def Q2:Fn:=⟨[0],[.unp [1,2,3,4] (.var 0),.asg 5 (.own (.dict [] [])),.loop (.tup [6,7]) (.zip (.var 2) (.var 3)) [.setk 5 (.var 7) (.bin .Add (.get (.var 5) (.var 7) (.int 0)) (.var 6))],.asg 8 (.val (.prim .sorted (.comp1 [5] (.var 11) (.one 11) (.var 5) [.cmp .NotEq (.sub (.var 5) (.var 11)) (.int 0)]))),.asg 9 (.val (.ite (.and [.cmp .NotEq (.var 1) (.str [108,105,110,101,97,114,95,108,101]),.cmp .Gt (.prim .len (.var 8)) (.int 0),.cmp .Lt (.sub (.var 5) (.sub (.var 8) (.int 0))) (.int 0)]) (.neg (.int 1)) (.int 1))),.ret (.tup [.var 1,.prim .tuple (.comp1 [9,5] (.bin .Mult (.var 9) (.sub (.var 5) (.var 11))) (.one 11) (.var 8) []),.prim .tuple (.var 8),.bin .Mult (.var 9) (.var 4)])]⟩
noncomputable def Q3:Fn:=⟨[0],[.asg 1 (.val (.prim .sorted (.comp1 [0] (.prim .tuple (.comp1 [3] (.sub (.var 5) (.var 3)) (.one 5) (.var 0) [])) (.one 3) (.range1 (.prim .len (.sub (.var 0) (.int 0)))) []))),.ret (.prim .tuple (.comp1 [1] (.prim .tuple (.comp1 [3] (.sub (.var 5) (.var 3)) (.one 5) (.var 1) [])) (.one 3) (.range1 (.prim .len (.var 0))) []))]⟩
noncomputable def Q4:Fn:=⟨[0],[.unp [1,2,3] (.var 0),.asg 4 (.val (.comp1 [] (.var 8) (.tup [7,8]) (.prim .sorted (.comp1 [2] (.tup [.sub (.var 2) (.var 7),.var 7]) (.one 7) (.range1 (.prim .len (.var 2))) [])) [])),.asg 5 (.val (.prim .sortedset (.comp1 [4] (.prim .tuple (.comp1 [7] (.sub (.var 7) (.var 9)) (.one 9) (.var 4) [])) (.one 7) (.var 3) []))),.ret (.tup [.var 1,.prim .tuple (.comp1 [2] (.sub (.var 2) (.var 7)) (.one 7) (.var 4) []),.prim .tuple (.var 5)])]⟩
noncomputable def Q5:Fn:=⟨[0],[.ite (.cmp .Eq (.sub (.var 0) (.int 0)) (.str [99,97,114,100,105,110,97,108,105,116,121])) [.ret (.bin .Add (.tup [.sub (.var 0) (.int 0),.prim .tuple (.prim .sorted (.sub (.var 0) (.int 1)))]) (.call 3 [.cut (.var 0) (aa (.int 2)) ab]))] [],.ite (.cmp .Eq (.sub (.var 0) (.int 0)) (.str [99,117,109,117,108,97,116,105,118,101])) [.ret (.bin .Add (.bin .Add (.tup [.sub (.var 0) (.int 0)]) (.call 3 [.cut (.var 0) (aa (.int 1)) (aa (.int 4))])) (.cut (.var 0) (aa (.int 4)) ab))] [],.ite (.cmp .Eq (.sub (.var 0) (.int 0)) (.str [100,105,115,106,117,110,99,116,105,118,101])) [.ret (.bin .Add (.tup [.sub (.var 0) (.int 0)]) (.call 3 [.cut (.var 0) (aa (.int 1)) (aa (.int 3))]))] [],.ret (.bin .Add (.tup [.sub (.var 0) (.int 0),.prim .tuple (.prim .sorted (.sub (.var 0) (.int 1)))]) (.cut (.var 0) (aa (.int 2)) ab))]⟩
noncomputable def Q6:Fn:=⟨[0],[.asg 1 (.val (.sub (.var 0) (.int 0))),.ite (.cmp .In (.var 1) (.tup [.str [108,105,110,101,97,114,95,108,101],.str [108,105,110,101,97,114,95,101,113],.str [108,105,110,101,97,114,95,110,101]])) [.ret (.call 2 [.var 0])] [],.ite (.cmp .Eq (.var 1) (.str [116,97,98,108,101])) [.ret (.call 4 [.var 0])] [],.ite (.cmp .In (.var 1) (.tup [.str [97,108,108,95,100,105,102,102,101,114,101,110,116],.str [110,118,97,108,117,101],.str [99,111,117,110,116],.str [99,97,114,100,105,110,97,108,105,116,121],.str [99,117,109,117,108,97,116,105,118,101],.str [100,105,115,106,117,110,99,116,105,118,101]])) [.ret (.ite (.cmp .Gt (.prim .len (.sub (.var 0) (.int 1))) (.int 0)) (.call 5 [.var 0]) (.var 0))] [],.ite (.cmp .In (.var 1) (.tup [.str [109,97,120],.str [109,105,110],.str [97,110,100],.str [111,114]])) [.ret (.tup [.var 1,.prim .tuple (.prim .sortedset (.sub (.var 0) (.int 1))),.sub (.var 0) (.int 2)])] [],.ite (.cmp .Eq (.var 1) (.str [99,108,97,117,115,101])) [.ret (.tup [.var 1,.prim .tuple (.prim .sortedset (.sub (.var 0) (.int 1))),.prim .tuple (.prim .sortedset (.sub (.var 0) (.int 2)))])] [],.ite (.cmp .Eq (.var 1) (.str [116,105,109,101,115])) [.bad] [],.ite (.cmp .Eq (.var 1) (.str [120,111,114])) [.ret (.bin .Add (.tup [.var 1]) (.prim .tuple (.prim .sorted (.cut (.var 0) (aa (.int 1)) ab))))] [],.ite (.cmp .In (.var 1) (.tup [.str [114,101,105,102],.str [105,109,112]])) [.ret (.tup [.var 1,.sub (.var 0) (.int 1),.call 6 [.sub (.var 0) (.int 2)]])] [],.ret (.var 0)]⟩
noncomputable def Q7:Fn:=⟨[0],[.ret (.prim .sorted (.comp1 [] (.call 6 [.var 2]) (.one 2) (.var 0) []))]⟩
noncomputable def Q8:Fn:=⟨[0,1,2],[.ite (.cmp .Eq (.var 0) (.var 1)) [.ret (.var 2)] [],.ret (.ite (.cmp .Eq (.var 0) (.var 2)) (.var 1) (.var 0))]⟩
noncomputable def Q9:Fn:=⟨[0,1,2,3],[.unp [4,5,6,7] (.call 2 [.var 0]),.asg 8 (.val (.prim .len (.comp1 [1] (.var 10) (.one 10) (.var 6) [.cmp .In (.var 10) (.var 1)]))),.ite (.or [.cmp .Eq (.var 8) (.int 0),.and [.cmp .NotEq (.var 4) (.str [108,105,110,101,97,114,95,108,101]),.cmp .Eq (.var 5) (.tup [.int 1,.neg (.int 1)]),.cmp .Eq (.var 7) (.int 0),.cmp .Eq (.var 8) (.int 2)]]) [.ret (.var 0)] [],.ite (.and [.cmp .NotEq (.var 4) (.str [108,105,110,101,97,114,95,108,101]),.cmp .Eq (.var 5) (.tup [.int 1])]) [.ret (.tup [.var 4,.var 5,.var 6,.call 8 [.var 7,.var 2,.var 3]])] [],.ret (.none)]⟩
noncomputable def Q10:Fn:=⟨[0,1,2],[.asg 3 (.val (.sub (.var 0) (.int 0))),.ite (.cmp .In (.var 3) (.tup [.str [97,108,108,95,100,105,102,102,101,114,101,110,116],.str [110,118,97,108,117,101]])) [.ret (.var 0)] [],.ite (.cmp .Eq (.var 3) (.str [99,111,117,110,116])) [.ret (.tup [.var 3,.sub (.var 0) (.int 1),.call 8 [.sub (.var 0) (.int 2),.var 1,.var 2],.sub (.var 0) (.int 3)])] [],.ite (.cmp .Eq (.var 3) (.str [99,97,114,100,105,110,97,108,105,116,121])) [.ret (.bin .Add (.tup [.var 3,.sub (.var 0) (.int 1),.prim .tuple (.comp1 [1,2] (.call 8 [.var 6,.var 1,.var 2]) (.one 6) (.sub (.var 0) (.int 2)) [])]) (.cut (.var 0) (aa (.int 3)) ab))] [],.bad,.ret (.none)]⟩
noncomputable def Q11:Fn:=⟨[0,1,2,3],[.ite (.or [.cmp .In (.sub (.var 0) (.int 1)) (.var 1),.cmp .NotIn (.sub (.var 0) (.int 3)) (.var 1)]) [.ret (.none)] [],.ite (.cmp .Eq (.sub (.var 0) (.int 0)) (.str [101,108,101,109,101,110,116,95,111,102])) [.ret (.bin .Add (.bin .Add (.cut (.var 0) ab (aa (.int 2))) (.tup [.prim .tuple (.comp1 [2,3] (.call 8 [.var 5,.var 2,.var 3]) (.one 5) (.sub (.var 0) (.int 2)) [])])) (.cut (.var 0) (aa (.int 3)) ab))] [],.ret (.ite (.cmp .Eq (.prim .len (.comp1 [1] (.var 5) (.one 5) (.sub (.var 0) (.int 2)) [.cmp .NotIn (.var 5) (.var 1)])) (.int 0)) (.var 0) (.none))]⟩
noncomputable def r6:Fn:=⟨[0,1,2,3],[.asg 4 (.val (.sub (.var 0) (.int 0))),.ite (.cmp .Eq (.prim .len (.comp1 [1] (.var 10) (.one 10) (.call 1 [.var 0]) [.cmp .In (.var 10) (.var 1)])) (.int 0)) [.ret (.var 0)] [],.ite (.cmp .In (.var 4) (.tup [.str [108,105,110,101,97,114,95,108,101],.str [108,105,110,101,97,114,95,101,113],.str [108,105,110,101,97,114,95,110,101]])) [.ret (.call 9 [.var 0,.var 1,.var 2,.var 3])] [],.ite (.cmp .In (.var 4) (.tup [.str [114,101,105,102],.str [105,109,112]])) [.asg 5 (.val (.ite (.cmp .In (.sub (.var 0) (.int 1)) (.var 1)) (.none) (.call 12 [.sub (.var 0) (.int 2),.var 1,.var 2,.var 3]))),.ret (.ite (.cmp .Is (.var 5) (.none)) (.none) (.tup [.var 4,.sub (.var 0) (.int 1),.var 5]))] [],.ite (.cmp .Eq (.var 4) (.str [116,97,98,108,101])) [.asg 6 (.val (.comp1 [1,0,2,3] (.prim .tuple (.comp1 [1,2,3] (.ite (.cmp .In (.var 12) (.var 1)) (.call 8 [.var 13,.var 2,.var 3]) (.var 13)) (.tup [12,13]) (.zip (.sub (.var 0) (.int 1)) (.var 10)) [])) (.one 10) (.sub (.var 0) (.int 2)) [])),.ret (.tup [.var 4,.sub (.var 0) (.int 1),.prim .tuple (.var 6)])] [],.ite (.cmp .In (.var 4) (.tup [.str [101,108,101,109,101,110,116],.str [101,108,101,109,101,110,116,95,111,102]])) [.ret (.call 11 [.var 0,.var 1,.var 2,.var 3])] [],.ite (.cmp .Eq (.var 4) (.str [112,114,101,99,101,100,101])) [.asg 7 (.val (.cmp .Eq (.prim .len (.comp1 [1] (.var 10) (.one 10) (.sub (.var 0) (.int 3)) [.cmp .NotIn (.var 10) (.var 1)])) (.int 0))),.ret (.ite (.var 7) (.tup [.var 4,.call 8 [.sub (.var 0) (.int 1),.var 2,.var 3],.call 8 [.sub (.var 0) (.int 2),.var 2,.var 3],.sub (.var 0) (.int 3)]) (.none))] [],.ite (.cmp .In (.var 4) (.tup [.str [97,108,108,95,100,105,102,102,101,114,101,110,116],.str [110,118,97,108,117,101],.str [99,111,117,110,116],.str [99,97,114,100,105,110,97,108,105,116,121],.str [114,101,103,117,108,97,114]])) [.asg 8 (.val (.ite (.cmp .In (.var 4) (.tup [.str [110,118,97,108,117,101],.str [99,111,117,110,116]])) (.list [.sub (.var 0) (.neg (.int 1))]) (.list []))),.ite (.and [.cmp .Eq (.prim .len (.comp1 [1] (.var 10) (.one 10) (.sub (.var 0) (.int 1)) [.cmp .NotIn (.var 10) (.var 1)])) (.int 0),.cmp .Eq (.prim .len (.comp1 [1] (.var 10) (.one 10) (.var 8) [.cmp .In (.var 10) (.var 1)])) (.int 0)]) [.ret (.call 10 [.var 0,.var 2,.var 3])] []] [],.ret (.none)]⟩
noncomputable def Q13:Fn:=⟨[0,1,2,3],[.asg 4 (.val (.comp1 [1] (.var 7) (.one 7) (.var 0) [.cmp .Gt (.prim .len (.comp1 [1] (.var 9) (.one 9) (.call 1 [.var 7]) [.cmp .In (.var 9) (.var 1)])) (.int 0)])),.asg 5 (.val (.comp1 [1,2,3] (.call 12 [.var 7,.var 1,.var 2,.var 3]) (.one 7) (.var 4) [])),.ret (.and [.cmp .NotIn (.none) (.var 5),.cmp .Eq (.call 7 [.var 4]) (.call 7 [.var 5])])]⟩
noncomputable def Q14:Fn:=⟨[0,1],[.ret (.cmp .Gt (.prim .len (.comp1 [1] (.var 3) (.tup [3,4]) (.var 0) [.chain .LtE .LtE (.var 3) (.var 1) (.var 4)])) (.int 0))]⟩
noncomputable def Q15:Fn:=⟨[0,1,2],[.asg2 3 4 (.own (.dict [] [])) (.own (.list [])),.loop (.one 5) (.var 1) [.loop (.tup [6,7]) (.sub (.var 2) (.var 5)) [.loop (.one 8) (.range2 (.var 6) (.bin .Add (.var 7) (.int 1))) [.setk 3 (.var 8) (.bool true)]]],.loop (.one 8) (.prim .sorted (.var 3)) [.asg 9 (.val (.comp1 [2,8] (.call 14 [.sub (.var 2) (.var 12),.var 8]) (.one 12) (.var 1) [])),.asg 10 (.val (.comp1 [9,2,1] (.var 12) (.one 12) (.var 4) [.cmp .Eq (.comp1 [2,12] (.call 14 [.sub (.var 2) (.var 14),.sub (.var 12) (.int 0)]) (.one 14) (.var 1) []) (.var 9)])),.asg 10 (.val (.comp1 [8,1,0] (.var 12) (.one 12) (.var 10) [.call 13 [.var 0,.var 1,.sub (.var 12) (.int 0),.var 8]])),.ite (.cmp .Gt (.prim .len (.var 10)) (.int 0)) [.bad] [.app 4 (.list [.var 8])]],.ret (.comp1 [] (.prim .tuple (.var 12)) (.one 12) (.var 4) [.cmp .Gt (.prim .len (.var 12)) (.int 1)])]⟩
noncomputable def Q16:Fn:=⟨[0,1],[.asg 2 (.own (.list [])),.loop (.one 3) (.var 0) [.loop (.one 4) (.range1 (.bin .Sub (.prim .len (.var 3)) (.int 1))) [.app 2 (.tup [.str [112,114,101,99,101,100,101],.sub (.var 3) (.var 4),.sub (.var 3) (.bin .Add (.var 4) (.int 1)),.prim .tuple (.prim .sorted (.var 1))])]],.ret (.var 2)]⟩
noncomputable def vZ:Fn:=⟨[0,1],[.asg 2 (.own (.prim .list (.var 0))),.ite (.cmp .Eq (.sub (.var 1) (.int 0)) (.str [118,97,108,117,101,115])) [.loop (.one 3) (.sub (.var 1) (.int 3)) [.setk 2 (.var 3) (.call 8 [.sub (.var 0) (.var 3),.sub (.var 1) (.int 1),.sub (.var 1) (.int 2)])]] [.loop (.tup [3,4]) (.zip (.sub (.var 1) (.int 1)) (.sub (.var 1) (.int 2))) [.bad]],.ret (.prim .tuple (.var 2))]⟩
noncomputable def Q18:Fn:=⟨[0,1],[.asg2 2 3 (.own (.dict [.prim .tuple (.var 0)] [.bool true])) (.own (.list [.prim .tuple (.var 0)])),.whil (.cmp .Gt (.prim .len (.var 3)) (.int 0)) [.pop 4 3,.loop (.one 5) (.var 1) [.asg 6 (.val (.call 17 [.var 4,.var 5])),.ite (.cmp .NotIn (.var 6) (.var 2)) [.setk 2 (.var 6) (.bool true),.app 3 (.var 6)] []]],.ret (.prim .sorted (.var 2))]⟩
noncomputable def Q19:Fn:=⟨[0,1],[.ret (.comp2 [1] (.tup [.str [118,97,108,117,101,115],.sub (.var 3) (.var 4),.sub (.var 3) (.bin .Add (.var 4) (.int 1)),.prim .tuple (.var 1)]) (.one 3) (.var 0) [] (.one 4) (.range1 (.bin .Sub (.prim .len (.var 3)) (.int 1))) [])]⟩
noncomputable def Q20:Fn:=⟨[0],[.asg 1 (.val (.comp1 [] (.bin .Mod (.var 3) (.int 10007)) (.one 3) (.cut (.var 0) ab (aa (.int 20))) [])),.ite (.cmp .Eq (.var 1) (.list [])) [.asg 1 (.own (.list [.int 0,.int 0,.int 0,.int 1,.int 1,.int 0]))] [],.ret (.comp1 [1] (.bin .Add (.sub (.var 1) (.bin .Mod (.var 3) (.prim .len (.var 1)))) (.bin .Mult (.int 5) (.bin .FloorDiv (.var 3) (.prim .len (.var 1))))) (.one 3) (.range1 (.int 20)) [])]⟩
noncomputable def r7:Fn:=⟨[0,1],[.asg2 2 3 (.own (.list [])) (.val (.prim .tuple (.range1 (.var 1)))),.loop (.tup [4,5]) (.cut (.tup [.tup [.sub (.var 0) (.int 4),.sub (.var 0) (.int 5)],.tup [.sub (.var 0) (.int 6),.sub (.var 0) (.int 7)],.tup [.sub (.var 0) (.int 8),.sub (.var 0) (.int 9)]]) ab (aa (.bin .Mod (.sub (.var 0) (.int 3)) (.int 4)))) [.asg2 6 7 (.val (.bin .Add (.int 1) (.bin .Mod (.var 5) (.int 4)))) (.val (.bin .Add (.int 1) (.bin .Mod (.bin .Add (.bin .Add (.var 5) (.int 1)) (.bin .Mod (.bin .FloorDiv (.var 5) (.int 4)) (.int 3))) (.int 4)))),.ite (.cmp .Eq (.bin .Mod (.var 4) (.int 6)) (.int 0)) [.app 2 (.tup [.str [108,105,110,101,97,114,95,110,101],.tup [.int 1,.neg (.int 1)],.tup [.int 0,.int 1],.bin .Mod (.var 5) (.int 3)])] [.ite (.cmp .Eq (.bin .Mod (.var 4) (.int 6)) (.int 1)) [.app 2 (.tup [.str [99,97,114,100,105,110,97,108,105,116,121],.var 3,.tup [.var 6,.var 7],.tup [.int 0,.int 0],.tup [.int 1,.bin .Add (.int 1) (.bin .Mod (.bin .FloorDiv (.var 5) (.int 20)) (.int 2))]])] [.ite (.cmp .Eq (.bin .Mod (.var 4) (.int 6)) (.int 2)) [.app 2 (.tup [.str [112,114,101,99,101,100,101],.var 6,.var 7,.var 3])] [.ite (.cmp .Eq (.bin .Mod (.var 4) (.int 6)) (.int 3)) [.app 2 (.tup [.str [108,105,110,101,97,114,95,110,101],.tup [.int 1],.tup [.bin .Mod (.var 5) (.var 1)],.var 6])] [.ite (.cmp .Eq (.bin .Mod (.var 4) (.int 6)) (.int 4)) [.app 2 (.tup [.str [108,105,110,101,97,114,95,108,101],.tup [.int 1,.int 1],.tup [.int 0,.int 1],.bin .Add (.int 4) (.bin .Mod (.var 5) (.int 6))])] [.app 2 (.tup [.str [97,108,108,95,100,105,102,102,101,114,101,110,116],.var 3,.str [118,97,108,117,101,115]])]]]]]],.ret (.var 2)]⟩
noncomputable def mK:Fn:=⟨[0,1],[.ite (.cmp .Eq (.sub (.var 0) (.int 0)) (.str [108,105,110,101,97,114,95,110,101])) [.ret (.cmp .NotEq (.prim .sum (.comp1 [1] (.bin .Mult (.var 6) (.sub (.var 1) (.var 7))) (.tup [6,7]) (.zip (.sub (.var 0) (.int 1)) (.sub (.var 0) (.int 2))) [])) (.sub (.var 0) (.int 3)))] [],.ite (.cmp .Eq (.sub (.var 0) (.int 0)) (.str [108,105,110,101,97,114,95,108,101])) [.ret (.cmp .LtE (.bin .Add (.sub (.var 1) (.int 0)) (.sub (.var 1) (.int 1))) (.sub (.var 0) (.int 3)))] [],.ite (.cmp .Eq (.sub (.var 0) (.int 0)) (.str [99,97,114,100,105,110,97,108,105,116,121])) [.loop (.tup [2,3]) (.zip (.sub (.var 0) (.int 2)) (.sub (.var 0) (.int 4))) [.ite (.cmp .Gt (.prim .len (.comp1 [2] (.var 6) (.one 6) (.var 1) [.cmp .Eq (.var 6) (.var 2)])) (.var 3)) [.ret (.bool false)] []],.ret (.bool true)] [],.ite (.cmp .Eq (.sub (.var 0) (.int 0)) (.str [112,114,101,99,101,100,101])) [.loop (.one 4) (.var 1) [.ite (.cmp .In (.var 4) (.cut (.var 0) (aa (.int 1)) (aa (.int 3)))) [.ret (.cmp .Eq (.var 4) (.sub (.var 0) (.int 1)))] []],.ret (.bool true)] [],.ret (.cmp .Eq (.prim .sortedset (.var 1)) (.prim .sorted (.var 1)))]⟩
noncomputable def Q23:Fn:=⟨[0,1],[.ret (.prim .tuple (.comp1 [1] (.get (.var 1) (.var 3) (.var 3)) (.one 3) (.var 0) []))]⟩
noncomputable def Q24:Fn:=⟨[0],[.asg 1 (.own (.list [.dict [] []])),.loop (.one 2) (.var 0) [.asg 3 (.own (.list [.tup []])),.loop (.one 4) (.range1 (.prim .len (.var 2))) [.asg 3 (.val (.comp2 [2] (.bin .Add (.var 12) (.tup [.var 13])) (.one 12) (.var 3) [] (.one 13) (.var 2) [.cmp .NotIn (.var 13) (.var 12)]))],.asg 7 (.own (.list [])),.loop (.one 8) (.var 1) [.loop (.one 5) (.var 3) [.asg 9 (.own (.prim .dict (.var 8))),.loop (.tup [6,10]) (.zip (.var 2) (.var 5)) [.setk 9 (.var 6) (.var 10)],.app 7 (.var 9)]],.asg 1 (.val (.var 7))],.ret (.var 1)]⟩
noncomputable def Q25:Fn:=⟨[0,1,2,3],[.asg 4 (.own (.list [.tup []])),.loop (.one 5) (.var 3) [.asg 4 (.val (.comp2 [5] (.bin .Add (.var 12) (.tup [.var 13])) (.one 12) (.var 4) [] (.one 13) (.var 5) []))],.asg 4 (.own (.prim .dict (.comp1 [0] (.tup [.var 12,.bool true]) (.one 12) (.var 4) [.cmp .Eq (.comp1 [12] (.var 14) (.one 14) (.var 0) [.not (.call 22 [.var 14,.var 12])]) (.list [])]))),.asg 7 (.own (.list [])),.loop (.one 6) (.range2 (.int 1) (.int 5)) [.asg 8 (.val (.none)),.loop (.one 9) (.var 7) [.ite (.cmp .Eq (.comp1 [6] (.cmp .In (.var 6) (.var 12)) (.one 12) (.var 3) []) (.comp1 [9] (.cmp .In (.sub (.var 9) (.int 0)) (.var 12)) (.one 12) (.var 3) [])) [.asg 10 (.val (.call 13 [.var 0,.var 1,.sub (.var 9) (.int 0),.var 6])),.ite (.and [.var 10,.cmp .NotEq (.comp1 [9,4,6] (.var 12) (.one 12) (.var 4) [.cmp .NotIn (.call 23 [.var 12,.dict [.var 6,.sub (.var 9) (.int 0)] [.sub (.var 9) (.int 0),.var 6]]) (.var 4)]) (.list [])]) [.ret (.tup [.none,.var 4])] [],.ite (.var 10) [.asg 8 (.val (.var 9))] []] []],.ite (.cmp .IsNot (.var 8) (.none)) [.app 8 (.var 6)] [.ite (.cmp .NotEq (.comp1 [6] (.var 12) (.one 12) (.var 3) [.cmp .In (.var 6) (.var 12)]) (.list [])) [.app 7 (.list [.var 6])] []]],.ret (.tup [.comp1 [] (.prim .tuple (.var 12)) (.one 12) (.var 7) [.cmp .Gt (.prim .len (.var 12)) (.int 1)],.var 4])]⟩
noncomputable def r9:Fn:=⟨[0],[.asg 1 (.val (.call 20 [.var 0])),.asg 2 (.val (.bin .Add (.int 2) (.bin .Mod (.sub (.var 1) (.int 0)) (.int 2)))),.asg2 3 4 (.val (.prim .tuple (.range1 (.var 2)))) (.val (.bin .Add (.int 1) (.bin .Mod (.sub (.var 1) (.int 2)) (.int 4)))),.asg 5 (.val (.comp1 [1,4] (.comp1 [1,4,21] (.var 23) (.one 23) (.range2 (.int 1) (.int 5)) [.or [.cmp .NotEq (.bin .Mod (.sub (.var 1) (.int 1)) (.int 3)) (.int 2),.cmp .NotEq (.var 21) (.int 0),.cmp .NotEq (.var 23) (.var 4)]]) (.one 21) (.var 3) [])),.asg 6 (.own (.list [])),.loop (.one 7) (.var 5) [.asg 8 (.val (.ite (.cmp .Lt (.prim .len (.var 7)) (.int 4)) (.list [.tup [.int 1,.bin .Sub (.var 4) (.int 1)],.tup [.bin .Add (.var 4) (.int 1),.int 4]]) (.list [.tup [.int 1,.int 4]]))),.app 6 (.prim .tuple (.comp1 [] (.tup [.var 21,.var 22]) (.tup [21,22]) (.var 8) [.cmp .LtE (.var 21) (.var 22)]))],.asg 9 (.val (.call 21 [.var 1,.var 2])),.unp [10,11] (.call 25 [.var 9,.var 3,.var 6,.var 5]),.ite (.or [.cmp .Is (.var 10) (.none),.cmp .NotEq (.call 15 [.var 9,.var 3,.var 6]) (.var 10)]) [.ret (.bool false)] [],.asg2 12 13 (.val (.call 19 [.var 10,.var 3])) (.val (.call 16 [.var 10,.var 3])),.ite (.cmp .NotEq (.var 12) (.comp2 [3] (.tup [.str [118,97,108,117,101,115],.var 22,.var 23,.var 3]) (.one 21) (.var 10) [] (.tup [22,23]) (.zip (.var 21) (.cut (.var 21) (aa (.int 1)) ab)) [])) [.ret (.bool false)] [],.asg2 14 15 (.val (.call 24 [.var 10])) (.own (.dict [] [])),.loop (.one 16) (.var 11) [.ite (.cmp .NotIn (.var 16) (.var 15)) [.asg 17 (.val (.prim .sortedset (.comp1 [16] (.call 23 [.var 16,.var 21]) (.one 21) (.var 14) []))),.loop (.one 18) (.var 17) [.setk 15 (.var 18) (.bool true)],.asg 19 (.val (.comp1 [13] (.var 21) (.one 21) (.var 17) [.cmp .Eq (.comp1 [21] (.var 23) (.one 23) (.var 13) [.not (.call 22 [.var 23,.var 21])]) (.list [])])),.ite (.or [.cmp .NotEq (.call 18 [.var 16,.var 12]) (.var 17),.cmp .NotEq (.prim .len (.var 19)) (.int 1)]) [.ret (.bool false)] [],.ite (.and [.cmp .Eq (.var 10) (.list [.tup [.int 1,.int 2,.int 3,.int 4]]),.cmp .NotEq (.var 19) (.cut (.var 17) ab (aa (.int 1)))]) [.ret (.bool false)] []] []],.ret (.bool true)]⟩
noncomputable def QL:List Fn:=[Q0,Q1,Q2,Q3,Q4,Q5,Q6,Q7,Q8,Q9,Q10,Q11,r6,Q13,Q14,Q15,Q16,vZ,Q18,Q19,Q20,r7,mK,Q23,Q24,Q25,r9]
noncomputable def d7:List DefRec:=recsOf qw
noncomputable def names:List Str:=d7.map (·.name)
noncomputable def bi:List (aq×Gl):=[("len",.len),("tuple",.tuple),("list",.list),("sorted",.sorted),("set",.set),("sum",.sum),("dict",.dict),("range",.range),("zip",.zip)]
noncomputable def gl:List (aq×Gl):=bi++(names.zipIdx.map fun p=>(p.1,Gl.fn p.2))
noncomputable def eN(d:rk):List Str:=d.params.args.map (·.arg)
noncomputable def Ca(d:rk):Option Fn:=vW gl (eN d) d.scope d.body
theorem fns:d7.map Ca=QL.map some:=by kernel_rfl
theorem JF:(d7.all fun d=>gI (eN d) && !d.scope.isCoroutine && !d.scope.isGenerator && decide ((eN d).length<=5) && d.scope.kind == .function && gI (d.scope.names.map (·.1)))=true:=by kernel_rfl
theorem OR Q P D N G F J L:(d7.map fun d=>bindArgs (i9 d.name d.params d.body d.scope Q P D) ⟨[N,G,F,J,L].take (eN d).length,[]⟩) =
 d7.map fun d=>pure ((eN d).zip ([N,G,F,J,L].take (eN d).length)):=by kernel_rfl
theorem Ib:(bi.all fun p => !(startupNames.contains p.1) && !(looseW qw []).contains p.1 && !((recsOf qw).map (·.name)).contains p.1 && !((litsOf qw).map (·.1)).contains p.1 && !((clssOf qw (looseW qw [])).map (·.name)).contains p.1 && !(p.1 == "__name__"))=true:=by kernel_rfl
theorem JG:(bi.map fun p=>bootBuiltins p.1)=bi.map fun p=>mn p.2:=by kernel_rfl
variable {B:bm}{w:bh}{H:aB}{mg mb:aq → Option ar}
noncomputable def eT:LR:={cs:=[.asg2 3 4 (.own (Ex.dict [] [])) (.own (Ex.list [])),.loop (.one 5) (.var 1) [.loop (.tup [6,7]) ((Ex.var 2).sub (.var 5)) [.loop (.one 8) ((Ex.var 6).range2 (Ex.bin .Add (.var 7) (Ex.int 1))) [.setk 3 (.var 8) (Ex.bool true)]]]],ifd:=3,il:=4,ih:=10,it:=Ex.prim .sorted (.var 3),P:={ik:=8,ib:=9,it1:=12,it2:=12,cap1:=[9,2,1],cap2:=[8,1,0],eb:=Ex.comp1 [2,8] (Ex.call 14 [(Ex.var 2).sub (.var 12),.var 8]) (.one 12) (.var 1) [],c1:=Ex.cmp .Eq (Ex.comp1 [2,12] (Ex.call 14 [(Ex.var 2).sub (.var 14),(Ex.var 12).sub (Ex.int 0)]) (.one 14) (.var 1) []) (.var 9),c2:=Ex.call 13 [.var 0,.var 1,(Ex.var 12).sub (Ex.int 0),.var 8]},it3:=12,cap3:=[],c3:=Ex.cmp .Gt (Ex.prim .len (.var 12)) (Ex.int 1),e3:=Ex.prim .tuple (.var 12)}
noncomputable def eD:vY:={cs:=[.asg 4 (.own (Ex.list [Ex.tup []])),.loop (.one 5) (.var 3) [.asg 4 (.val (Ex.comp2 [5] (Ex.bin .Add (.var 12) (Ex.tup [.var 13])) (.one 12) (.var 4) [] (.one 13) (.var 5) []))],.asg 4 (.own (Ex.prim .dict (Ex.comp1 [0] (Ex.tup [.var 12,Ex.bool true]) (.one 12) (.var 4) [Ex.cmp .Eq (Ex.comp1 [12] (.var 14) (.one 14) (.var 0) [(Ex.call 22 [.var 14,.var 12]).not]) (Ex.list [])]))),.asg 7 (.own (Ex.list []))],ir:=4,il:=7,ih:=8,it:=(Ex.int 1).range2 (Ex.int 5),P:={ii:=10,it:=9,iv:=6,c1:=Ex.cmp .Eq (Ex.comp1 [6] (Ex.cmp .In (.var 6) (.var 12)) (.one 12) (.var 3) []) (Ex.comp1 [9] (Ex.cmp .In ((Ex.var 9).sub (Ex.int 0)) (.var 12)) (.one 12) (.var 3) []),ec:=Ex.call 13 [.var 0,.var 1,(Ex.var 9).sub (Ex.int 0),.var 6],ca:=Ex.and [.var 10,Ex.cmp .NotEq (Ex.comp1 [9,4,6] (.var 12) (.one 12) (.var 4) [Ex.cmp .NotIn (Ex.call 23 [.var 12,Ex.dict [.var 6,(Ex.var 9).sub (Ex.int 0)] [(Ex.var 9).sub (Ex.int 0),.var 6]]) (.var 4)]) (Ex.list [])],ci:=Ex.var 10,c4:=Ex.cmp .NotEq (Ex.comp1 [6] (.var 12) (.one 12) (.var 3) [Ex.cmp .In (.var 6) (.var 12)]) (Ex.list [])},it3:=12,cap3:=[],c3:=Ex.cmp .Gt (Ex.prim .len (.var 12)) (Ex.int 1),e3:=Ex.prim .tuple (.var 12)}
noncomputable def NF:Nat:=300
noncomputable def Φ:Nat->Nat->List D->Option D
 |0=>fun F F=>ab
 |k+1=>fun f args =>
  if f=15 then (if args.length=3 then nM (Φ k) NF eT ([0,1,2].zip (args.map .d)) else ab)
  else if f=25 then (if args.length=4 then n4 (Φ k) NF eD ([0,1,2,3].zip (args.map .d)) else ab)
  else match QL[f]? with
   |some fn=>mm (Φ k) NF fn args
   |none=>ab
theorem OS{i:Nat}(h:gl.lookup x=aa (.fn i)):∃ d,d7[i]? = aa d/\d.name=x:=by
 have hm:=mem_of_lookup h;unfold gl at hm;rcases bC.mp hm with hm|hm
 . have:(bi.all fun p=>match p.2 with | .fn _=>false|_=>true)=true:=by decide
   have:=bq.mp this _ hm;simp at this
 . refine bB hm fun D G e=>?_;obtain ⟨y,j⟩:=D;obtain ⟨⟩:=e;have F:=List.mem_zipIdx_iff_getElem?.mp G;unfold names at F;rw [cy] at F;refine aG F fun d hd D=>?_;subst D;exact ⟨d,hd,rfl⟩
theorem OT(h:gl.lookup x=aa g)(hv:mn g=aa v):(x,g)∈bi:=by
 have hm:=mem_of_lookup h;unfold gl at hm;rcases bC.mp hm with hm|hm
 . exact hm
 . refine bB hm fun D F e=>?_;obtain ⟨y,j⟩:=D;obtain ⟨⟩:=e;exact nS hv
section
variable {mean:ExcName->Option ar}
theorem OU(T:Top qw (looseW qw []) mean mg mb H)(h:gl.lookup x=aa g)(hv:mn g=aa v):BN mg mb x v:=by have hm:=OT h hv;have h1:=bq.mp Ib _ hm;simp only [bX,pn,beq_eq_false_iff_ne,List.contains_eq_mem,decide_eq_false_iff_not] at h1;refine ac h1 fun D N=>?_;clear h1;refine ac D fun G S=>?_;clear D;refine ac G fun F P=>?_;clear G;refine ac F fun J Q=>?_;clear F;refine ac J fun V L=>?_;clear J;exact ⟨T.free x V L Q P S,by refine rl (T.builtins x N) ?_;refine rl (DM.mp JG _ hm) ?_;refine rl hv ?_;rfl⟩
theorem uL{d:rk}(h:d∈d7):(eN d).Nodup/\d.scope.isCoroutine=false/\d.scope.isGenerator=false/\(eN d).length<=5/\d.scope.kind = .function/\gI (d.scope.names.map (·.1))=true:=by have h1:=bq.mp JF _ h;simp only [bX,pn,decide_eq_true_eq,beq_iff_eq] at h1;refine ac h1 fun D N=>?_;clear h1;refine ac D fun G S=>?_;clear D;refine ac G fun F P=>?_;clear G;refine ac F fun J Q=>?_;clear F;refine ac J fun T L=>?_;clear J;exact ⟨t4 T,L,Q,P,S,N⟩
theorem Ic(h:d∈d7)V T G D(hl:D.length=(eN d).length):bindArgs (i9 d.name d.params d.body d.scope V T G) ⟨D,[]⟩=pure ((eN d).zip D):=by
 have J:=(uL h).2.2.2.1;have F:∃ P N L S Q,D = [P,N,L,S,Q].take (eN d).length:=by
  rw [←hl] at J ⊢;match D,J with
  |[],_=>exact k9 .none .none .none .none .none rfl
  |[a],_=>exact k9 a .none .none .none .none rfl
  |[a,b],_=>exact k9 a b .none .none .none rfl
  |[a,b,c],_=>exact k9 a b c .none .none rfl
  |[a,b,c,d],_=>exact k9 a b c d .none rfl
  |[a,b,c,d,e],_=>exact k9 a b c d e rfl
  |_::_::_::_::_::_::_,J=>exact absurd J (by simp)
 refine k5 F fun P N L S Q e=>?_;clear F;refine rl e (DM.mp (OR V T G P N L S Q) d h)
theorem JH(T:Top qw (looseW qw []) mean mg mb H)(h:d∈d7)(ha:mg d.name=aa (.ref a)):n8 H a (eN d) d.scope d.body:=by refine k5 (T.fn d h) fun P o J code D G=>bR G fun h1 N L h4=>?_;clear G;rw [ha] at h1;obtain ⟨⟩:=h1;have hk:=uL h;exact ⟨⟨o,d.name,d.params,J,code,D,N,L,h4,fun F hl=>Ic h J code D F hl⟩,hk.2.1,hk.2.2.1⟩
theorem OV{i:Nat}(h:d7[i]? = aa d):∃ f,QL[i]? = aa f/\vW gl (eN d) d.scope d.body=aa f:=by
 have h1:=congrArg (fun l=>l[i]?) fns;simp only [cy,h,lG] at h1;cases hq:QL[i]? with
 |none=>rw [hq] at h1;exact sN h1
 |some f =>
  rw [hq] at h1;exact ⟨f,rfl,by simpa [Ca] using h1⟩
theorem OW(T:Top qw (looseW qw []) mean mg mb H){k R:Nat}(ih:∀ i d,d7[i]? = aa d->∀ a,mg d.name=aa (.ref a)->∀ args r,Φ k i args=aa r->kT B w H R a args r):WD B w H mg mb gl (Φ k) R where
 G:=⟨T.g,T.b,T.nolimit⟩
 sm:=let ⟨o,_,_,ho,_⟩:=T.g;⟨o,ho⟩
 bi:=fun x g v h hv=>OU T h hv
 fn:=fun x i h=>by
  refine ae (OS h) fun d F=>ac F fun hd D=>?_;clear F;subst D;refine k5 (T.fn d (fM hd)) fun a o P code L D=>bR D fun h1 J N h4=>?_;clear D;exact ⟨a,⟨h1,o,_,J,N⟩,ih i d hd a h1⟩
end
variable {R:Nat}
noncomputable def stp:Option ej->Option (Scope×List ej)
 |some (.FunctionDef _ _ b _ _ _ sc _ _ _)=>aa (sc,b)
 |_=>ab
noncomputable def d15:{x:Option (Scope×List ej) // stp (PySem.Challenge.pw_ok0089_01.main.body[16]?)=x}:=by refine ⟨?f,?h⟩;case h=>conv=>lhs;whnf
noncomputable def d25:{x:Option (Scope×List ej) // stp (PySem.Challenge.pw_ok0089_01.main.body[27]?)=x}:=by refine ⟨?f,?h⟩;case h=>conv=>lhs;whnf
theorem e15:d7[15]?.map (fun d=>(d.scope,d.body))=d15.1:=by kernel_rfl
theorem e25:d7[25]?.map (fun d=>(d.scope,d.body))=d25.1:=by kernel_rfl
section
variable {Ψ:Nat->List D->Option D}
theorem Lh(F:WD B w H mg mb gl Ψ R)(h:d7[15]? = aa d){args:List D}(hr:nM Ψ NF eT ([0,1,2].zip (args.map .d))=aa r):
 n0 B w H R (cY d.scope) ([0,1,2].zip (args.map V.d)) d.body r:=by
 have e:=(congrArg (gc fun d=>(d.scope,d.body)) h).symm.trans e15
 unfold d15 at e
 dsimp only [gc] at e
 have G:=congrArg (fun p:Option (Scope×List ej)=>(p.map (·.1))) e
 have J:=congrArg (fun p:Option (Scope×List ej)=>(p.map (·.2))) e
 simp only [lG,mY] at G J
 refine rl G (rl J ?_)
 clear e G J h
 refine GM (Q:=eT) (m:=50) (n:=NF) F ?K ?hpre ?hset ?hit ?hln1 ?hln2 ?hg3 ?ht3 ?hc3 ?hel ?hcap ?hga ?hgb hr
 case K=>exact ⟨by kernel_rfl,by kernel_rfl,by kernel_rfl,by kernel_rfl,by kernel_rfl,by decide +kernel,by decide +kernel,by decide +kernel,by decide +kernel,by decide +kernel,by decide +kernel,by kernel_rfl,by kernel_rfl,by kernel_rfl,by kernel_rfl,
  by kernel_rfl,by kernel_rfl,by kernel_rfl,by kernel_rfl,by kernel_rfl,by kernel_rfl,by kernel_rfl⟩
 case hpre =>
  rw [show eT.cs = [cS gl 60 (cY _) _,cS gl 60 (cY _) _] from by kernel_rfl];exact .cons (kw F 60 _) (.cons (kw F 60 _) .nil)
 all_goals kernel_rfl
theorem Li(F:WD B w H mg mb gl Ψ R)(h:d7[25]? = aa d){args:List D}(hr:n4 Ψ NF eD ([0,1,2,3].zip (args.map .d))=aa r):
 n0 B w H R (cY d.scope) ([0,1,2,3].zip (args.map V.d)) d.body r:=by
 have e:=(congrArg (gc fun d=>(d.scope,d.body)) h).symm.trans e25
 unfold d25 at e
 dsimp only [gc] at e
 have G:=congrArg (fun p:Option (Scope×List ej)=>(p.map (·.1))) e
 have J:=congrArg (fun p:Option (Scope×List ej)=>(p.map (·.2))) e
 simp only [lG,mY] at G J
 refine rl G (rl J ?_)
 clear e G J h
 refine Ia (p10:=⟨0,0,0,0⟩) (Q:=eD) (m:=50) (n:=NF) F ?K ?hivi ?hpre ?hset ?hit ?hln1 ?hln2 ?hg3 ?ht3 ?hc3 ?hel ?hcap ?hr ?hga ?hgb hr
 case K=>exact ⟨by kernel_rfl,by kernel_rfl,by kernel_rfl,by kernel_rfl,by kernel_rfl,by decide +kernel,by decide +kernel,by decide +kernel,by decide +kernel,by decide +kernel,by decide +kernel,by decide +kernel,by decide +kernel,by decide +kernel,
  by decide +kernel,by decide +kernel,by kernel_rfl,by kernel_rfl,by kernel_rfl,fun p=>by kernel_rfl,by kernel_rfl⟩
 case hivi=>decide +kernel
 case hpre =>
  rw [show eD.cs = [cS gl 60 (cY _) _,cS gl 60 (cY _) _,cS gl 60 (cY _) _,cS gl 60 (cY _) _] from by kernel_rfl];exact .cons (kw F 60 _) (.cons (kw F 60 _) (.cons (kw F 60 _) (.cons (kw F 60 _) .nil)))
 all_goals kernel_rfl
theorem QC:d7[15]?.map (fun d=>a8 (a5 (cY d.scope)) (eN d))=aa (aa [0,1,2]):=by kernel_rfl
theorem QD:d7[25]?.map (fun d=>a8 (a5 (cY d.scope)) (eN d))=aa (aa [0,1,2,3]):=by kernel_rfl
variable {mean:ExcName->Option ar}
theorem OX(T:Top qw (looseW qw []) mean mg mb H):∀ k i d,d7[i]? = aa d->∀ a,mg d.name=aa (.ref a)->∀ args r,Φ k i args=aa r->kT B w H (5 * k) a args r:=by
 intro Q;induction Q with
 |zero =>
  intro i d _ a _ args r hr;exact nS hr
 |succ k L =>
  intro i d hd a ha args r hr;have D:WD B w H mg mb gl (Φ k) (5 * k):=OW T (L);have hm:=fM hd;have hk:=uL hm;have J:=JH T hm ha;show kT B w H (5 * k+5) a args r;unfold Φ at hr;split at hr
  . rename_i hi;subst hi;split at hr
    . rename_i hl;have F:a8 (a5 (cY d.scope)) (eN d)=aa [0,1,2]:=by
       have:=QC;rw [hd] at this;exact jC this
      exact tP D.G J hk.1 F hk.2.2.2.2 hl (Lh D hd hr)
    . exact nS hr
  . split at hr
    . rename_i hi;subst hi;split at hr
      . rename_i hl;have F:a8 (a5 (cY d.scope)) (eN d)=aa [0,1,2,3]:=by
         have:=QD;rw [hd] at this;exact jC this
        exact tP D.G J hk.1 F hk.2.2.2.2 hl (Li D hd hr)
      . exact nS hr
    . refine ae (OV hd) fun f N=>ac N fun h1 P=>?_;clear N;rw [h1] at hr;exact H3 D J hk.1 P hr
end
noncomputable def aA(v w a:Int):Int:=if a=v then w else if a=w then v else a
theorem dz k f(h1:f≠15)(F:f≠25)(h:QL[f]? = aa fn)args:Φ (k+1) f args=mm (Φ k) NF fn args:=by
 show (if f=15 then _ else if f=25 then _ else _)=_
 refine rl (if_neg h1) (rl (if_neg F) (rl h rfl))
theorem QE{α:Type}{l:List α}(h:l.length=2):∃ x y,l = [x,y]:=by
 rcases l with _|⟨x,l⟩
 . contradiction
 rcases l with _|⟨y,l⟩
 . obtain ⟨⟩:=h
 rcases l with _|⟨_,_⟩
 . exact aR x y rfl
 . obtain ⟨⟩:=h
theorem kX{α:Type}{l:List α}(h:l.length=2){G:Prop}(k:∀ x y,l = [x,y]->G):G:=aM (QE h) fun D z1 z2=>k D z1 z2
theorem QF{α:Type}{l:List α}(h:l.length=3):∃ x y z,l = [x,y,z]:=by
 rcases l with _|⟨x,l⟩
 . contradiction
 . refine kX (nm h) fun y z D=>?_;subst D;exact ck x y z rfl
theorem mo{α:Type}{l:List α}(h:l.length=3){G:Prop}(k:∀ x y z,l = [x,y,z]->G):G:=aP (QF h) fun D z1 z2 F=>k D z1 z2 F
inductive Rl where
 |ne2 (c:Int)
 |card (u w m n:Int)
 |prec (u w:Int)
 |ne1 (x u:Int)
 |le (c:Int)
 |alld
noncomputable def code:Rl->List Int
 | .alld=>[0]
 | .card u w a b=>[1,u,w,a,b]
 | .le c=>[2,c]
 | .ne1 x u=>[3,0,x,u]
 | .ne2 c=>[3,1,c]
 | .prec u w=>[4,u,w]
noncomputable def QG(l:List Int):Rl :=
 if l.getD 0 0=0 then .alld else if l.getD 0 0=1 then .card (l.getD 1 0) (l.getD 2 0) (l.getD 3 0) (l.getD 4 0) else if l.getD 0 0=2 then .le (l.getD 1 0)
 else if l.getD 0 0=3 then (if l.getD 1 0=0 then .ne1 (l.getD 2 0) (l.getD 3 0) else .ne2 (l.getD 2 0)) else .prec (l.getD 1 0) (l.getD 2 0)
theorem yL x:QG (code x)=x:=by obtain ⟨⟩:=x<;>rfl
theorem zv x y(h:code x=code y):x=y:=by refine rl (az (yL x)) ?_;refine rl h ?_;refine rl (yL ..) ?_;rfl
noncomputable def zSE:DecidableEq Rl:=fun x y=>decidable_of_iff (code x=code y) ⟨zv x y,congrArg code⟩
noncomputable def sc(m:Nat):D:=if m=2 then .tup [.int 0,.int 1] else .tup [.int 0,.int 1,.int 2]
noncomputable def oI:List Nat:=[108,105,110,101,97,114,95,110,101]
noncomputable def fA:List Nat:=[99,97,114,100,105,110,97,108,105,116,121]
noncomputable def vg:List Nat:=[112,114,101,99,101,100,101]
noncomputable def QH:List Nat:=[108,105,110,101,97,114,95,108,101]
noncomputable def QI:List Nat:=[97,108,108,95,100,105,102,102,101,114,101,110,116]
noncomputable def Cb:List Nat:=[118,97,108,117,101,115]
noncomputable def rD(m:Nat):Rl->D
 | .ne2 c=>.tup [.str oI,.tup [.int 1,.int (-1)],.tup [.int 0,.int 1],.int c]
 | .card u w a b=>.tup [.str fA,sc m,.tup [.int u,.int w],.tup [.int 0,.int 0],.tup [.int a,.int b]]
 | .prec u w=>.tup [.str vg,.int u,.int w,sc m]
 | .ne1 x u=>.tup [.str oI,.tup [.int 1],.tup [.int x],.int u]
 | .le c=>.tup [.str QH,.tup [.int 1,.int 1],.tup [.int 0,.int 1],.int c]
 | .alld=>.tup [.str QI,sc m,.str Cb]
def Rl.ok(m:Nat):Rl->Prop
 | .ne1 x _=>x=0\/x=1\/(x=2/\m=3)
 | .ne2 c=>c=0\/c=1\/c=2
 |_=>True
variable {O I:Sg}
section
variable {Ψ:Nat->List D->Option D} {n:Nat} {e a b c:Ex} {s:St} {r as bs:List St} {d x y:D} {q:Option (Sg×Fl)} {i:Nat}
noncomputable def cm:Option (Sg×Fl)->Option D
 |some (_,.ret d)=>aa d
 |_=>ab
theorem bI{α D:Type}{x:Option α}{f:α->Option D}{a:α}(h:x=aa a):x.bind f=f a:=by refine rl h ?_;rfl
theorem mI{α D:Type}{x:Option α}{f:α->D}{a:α}(h:x=aa a):x.map f=aa (f a):=by refine rl h ?_;rfl
theorem Ie(h:cm o=aa d):o.map B8=aa d:=by
 match o,h with
 |some (_,.ret d'),h=>exact h
theorem cM(hl:args.length=f.params.length)(h:cm (be Ψ n (f.params.zip (args.map .d)) f.body)=aa d):mm Ψ n f args=aa d:=by unfold mm;refine rl (if_pos hl) (Ie h)
theorem g7(h:b8 Ψ n O s=aa (I,.next)):be Ψ (n+1) O (s::r)=be Ψ n I r:=bI h
theorem et(h:b8 Ψ n O s=aa (I,.next))(h':cm (be Ψ n I r)=aa d):cm (be Ψ (n+1) O (s::r))=aa d:=by refine rl (show be Ψ (n+1) O (s::r)=be Ψ n I r from bI h) h'
theorem oK{s:St}(h:cm (b8 Ψ n O s)=aa d):cm (be Ψ (n+1) O (s::r))=aa d:=by
 show cm ((b8 Ψ n O s).bind fun p=>j7 p fun I=>be Ψ n I r)=aa d;revert h;generalize b8 Ψ n O s=o;intro h;match o,h with
 |some (_,.ret d'),h=>exact h
theorem bK(h:an Ψ n (kP O) e=aa d):cm (be Ψ (n+2) O (.ret e::r))=aa d:=oK (by refine rl (show b8 Ψ (n+1) O (.ret e)=aa (kP O,.ret d) from mI h) ?_;rfl)
theorem cR(h:an Ψ n (a0 O (aX n e)) e=aa x)(h':cm (be Ψ (n+1) (ag (a0 O (aX n e)) i (.d x)) r)=aa d):cm (be Ψ (n+2) O (.asg i (.val e)::r))=aa d:=et (mI h) h'
theorem vh(h:an Ψ n (a0 O (aX n e)) e=aa x)(h':cm (be Ψ (n+1) (ag (a0 O (aX n e)) i (.o x)) r)=aa d):cm (be Ψ (n+2) O (.asg i (.own e)::r))=aa d:=et (mI h) h'
theorem OY(h:an Ψ n (a0 O (aX n e)) e=aa (.tup ds))(hl:ds.length=xs.length):b8 Ψ (n+1) O (.unp xs e)=aa ((xs.zip ds).foldl (fun s p=>ag s p.1 (.d p.2)) (a0 O (aX n e)),.next):=by show ((an Ψ n (a0 O (aX n e)) e).bind oD).bind _=_;refine rl h (if_pos hl)
theorem Be{xs:List Nat}{ds:List D}(h:an Ψ n (a0 O (aX n e)) e=aa (.tup ds))(hl:ds.length=xs.length)(h':cm (be Ψ (n+1) ((xs.zip ds).foldl (fun s p=>ag s p.1 (.d p.2)) (a0 O (aX n e))) r)=aa d):
 cm (be Ψ (n+2) O (.unp xs e::r))=aa d:=et (OY h hl) h'
theorem hG(h:aJ Ψ n (a0 O (aX n c)) c=aa true):b8 Ψ (n+1) O (.ite c as bs)=be Ψ n (a0 O (aX n c)) as:=bI h
theorem gF(h:aJ Ψ n (a0 O (aX n c)) c=aa false):b8 Ψ (n+1) O (.ite c as bs)=be Ψ n (a0 O (aX n c)) bs:=bI h
theorem cp(hc:aJ Ψ n (a0 O (aX n c)) c=aa true)(h:cm (be Ψ n (a0 O (aX n c)) as)=aa d):cm (be Ψ (n+2) O (.ite c as bs::r))=aa d:=oK (by refine rl (hG hc) ?_;exact h)
theorem bM(hc:aJ Ψ (n+1) (a0 O (aX (n+1) c)) c=aa false)(h:cm (be Ψ (n+2) (a0 O (aX (n+1) c)) r)=aa d):cm (be Ψ (n+3) O (.ite c as []::r))=aa d :=
 et (gF hc) h
theorem bz(h:a8 (an Ψ n O) es=aa ds)(h':Ψ f ds=aa d):an Ψ (n+1) O (.call f es)=aa d:=(bI h).trans h'
theorem j1(h:a8 (an Ψ n O) es=aa ds)(F:ds.length<=100000):an Ψ (n+1) O (.tup es)=aa (.tup ds):=(bI h).trans (if_pos F)
theorem fB(ha:an Ψ n O a=aa x)(hb:an Ψ n O b=aa y)(h:vK o x y=aa d):an Ψ (n+1) O (.bin o a b)=aa d:=(bI ha).trans ((bI hb).trans h)
theorem qS(hc:aJ Ψ n O c=aa true)(h:an Ψ n O a=aa d):an Ψ (n+1) O (.ite c a b)=aa d:=(bI hc).trans h
theorem JI(hc:aJ Ψ n O c=aa false)(h:an Ψ n O b=aa d):an Ψ (n+1) O (.ite c a b)=aa d:=(bI hc).trans h
theorem ey{α D:Type}{f:α->Option D}:a8 f []=aa []:=rfl
theorem bk{α D:Type}{f:α->Option D}{a:α}{l:List α}{b:D}{bs:List D}(h:f a=aa b)(h':a8 f l=aa bs):a8 f (a::l)=aa (b::bs):=by simp only [a8,h,h']
theorem GN{α:Type}{f:α->Option (List D)}{g:α->List D}:∀ {l:List α},(∀ x∈l,f x=aa (g x))->jl f l=aa (l.flatMap g):=by
 intro J;induction J with
 |nil =>
  intro _;exact rfl
 |cons a l F =>
  intro h;exact (bI (h a aY)).trans (mI (F fun x G=>h x (aN _ G)))
noncomputable def lr(Ψ:Nat->List D->Option D)(n:Nat)(O:Sg)(t:Tg)(ifs:List Ex)(elt:Ex)(x:D):Option (List D):=lg (aJ Ψ n) O t ifs (fun I=>(an Ψ n I elt).map fun y=>[y]) x
theorem gK(hb:fX O t x=aa I)(ht:eQ (aJ Ψ n I) ifs=aa true)(D:an Ψ n I elt=aa y):lr Ψ n O t ifs elt x=aa [y]:=(bI hb).trans ((bI ht).trans (mI D))
theorem Bf(hb:fX O t x=aa I)(ht:eQ (aJ Ψ n I) ifs=aa false):lr Ψ n O t ifs elt x=aa []:=(bI hb).trans (bI ht)
theorem yl{elt it:Ex}:an Ψ (n+1) O (.comp1 cap elt t it ifs)=if cap.all (fun i=>(ah O i).isSome) then (d5 t (an Ψ n O) (bS (an Ψ n O) O) it).bind fun xs=>(jl (lr Ψ n O t ifs elt) xs).bind mC else none:=rfl
theorem JJ{elt it:Ex}{g:D->List D}(hc:cap.all (fun i=>(ah O i).isSome)=true)(hi:d5 t (an Ψ n O) (bS (an Ψ n O) O) it=aa xs)
 (h:∀ x∈xs,lr Ψ n O t ifs elt x=aa (g x)) (F:(xs.flatMap g).length<=100000):an Ψ (n+1) O (.comp1 cap elt t it ifs)=aa (.list (xs.flatMap g)):=by
 refine rl yl (rl (if_pos hc) ?_)
 exact (bI hi).trans ((bI (GN h)).trans (if_pos F))
theorem zw{elt it:Ex}(h:an Ψ n O (.comp1 cap elt t it ifs)=aa (.list l))(F:l.length<=100000):an Ψ (n+1) O (.prim .tuple (.comp1 cap elt t it ifs))=aa (.tup l):=(bI h).trans (if_pos F)
theorem Bg{i j:Int}(ha:an Ψ n O a=aa (.int i))(hb:bS (an Ψ n O) O b=aa (.int j)):aJ Ψ (n+1) O (.cmp .Eq a b)=aa (decide (i=j)) :=
 (bI ha).trans ((bI hb).trans (by show aa (bf (.int i) (.int j))=_;refine rl (ma ..) ?_;rfl))
end
theorem iU k a v w:Φ (k+1) 8 [.int a,.int v,.int w]=aa (.int (aA v w a)):=by
 rw [dz k 8 (by decide) (by decide) (fn:=Q8) rfl];refine cM rfl ?_;have F:aJ (Φ k) 298 [(0,.d (.int a)),(1,.d (.int v)),(2,.d (.int w))] (.cmp .Eq (.var 0) (.var 1))=aa (decide (a=v)):=Bg (n:=297) rfl rfl;have D:aJ (Φ k) 296 [(0,.d (.int a)),(1,.d (.int v)),(2,.d (.int w))] (.cmp .Eq (.var 0) (.var 2))=aa (decide (a=w)):=Bg (n:=295) rfl rfl;unfold aA;by_cases h1:a=v
 . refine rl (if_pos h1) ?_;rw [decide_eq_true h1] at F;exact cp (n:=298) F (bK (n:=296) rfl)
 . refine rl (if_neg h1) ?_;rw [decide_eq_false h1] at F;refine bM (n:=297) F (bK (n:=297) ?_);by_cases G:a=w
   . refine rl (if_pos G) ?_;rw [decide_eq_true G] at D;exact qS (n:=296) D rfl
   . refine rl (if_neg G) ?_;rw [decide_eq_false G] at D;exact JI (n:=296) D rfl
theorem JK k m x u(D:x=0\/x=1\/x=2):Φ (k+1) 2 [rD m (.ne1 x u)]=aa (rD m (.ne1 x u)):=by
 have:Φ (k+1) 2 [rD m (.ne1 x u)]=aa (rD m (.ne1 x (1 * u))):=by
  rcases D with rfl|rfl|rfl
  iterate 3 kernel_rfl
 refine rl this (rl (tH ..) rfl)
noncomputable def onI(f:Int->Int):D->List D
 | .int y=>[.int (f y)]
 |_=>[]
theorem GO k m u w a b v x:Φ (k+2) 10 [rD m (.card u w a b),.int v,.int x]=aa (rD m (.card (aA v x u) (aA v x w) a b)):=by
 rw [dz (k+1) 10 (by decide) (by decide) (fn:=Q10) rfl];refine cM (n:=300) rfl ?_;refine cR (n:=298) (x:=.str fA) (by kernel_rfl) ?_;refine bM (n:=296) (by kernel_rfl) ?_;refine bM (n:=295) (by kernel_rfl) ?_;refine cp (n:=295) (by kernel_rfl) (bK (n:=293) ?_);refine fB (n:=292) (x:=.tup [.str fA,sc m,.tup [.int (aA v x u),.int (aA v x w)]]) (y:=.tup [.tup [.int 0,.int 0],.tup [.int a,.int b]]) ?_ (by kernel_rfl) (by kernel_rfl);refine j1 (bk (by kernel_rfl) (bk (by kernel_rfl) (bk ?_ ey))) (by simp);refine zw (n:=290) (JJ (n:=289) (xs:=[.int u,.int w]) (g:=onI (aA v x)) (by kernel_rfl) (by kernel_rfl) (fun d hd=>?_) (by simp [onI])) (by simp);rcases aL.mp hd with rfl|hd
 . exact gK rfl rfl (bz (n:=288) (ds:=[.int u,.int v,.int x]) (by kernel_rfl) (iU k u v x))
 . rcases aL.mp hd with rfl|hd
   . exact gK rfl rfl (bz (n:=288) (ds:=[.int w,.int v,.int x]) (by kernel_rfl) (iU k w v x))
   . exact (a7 hd).elim
theorem JL k m(hm:m=2\/m=3)x u v y(D:(Rl.ne1 x u).ok m):Φ (k+2) 9 [rD m (.ne1 x u),sc m,.int v,.int y]=aa (rD m (.ne1 x (aA v y u))):=by
 rw [dz (k+1) 9 (by decide) (by decide) (fn:=Q9) rfl];refine cM (n:=300) rfl ?_;have e:=JK k m x u (by rcases D with h|h|⟨h,_⟩<;>(first|exact Or.intro_left (x=1\/x=2) h|simp [h]))
 refine Be (n:=298) (ds:=[.str oI,.tup [.int 1],.tup [.int x],.int u]) (bz (n:=297) (ds:=[rD m (.ne1 x u)]) (by kernel_rfl) e) rfl ?_;have hc:=iU k u v y;clear e;rcases hm with rfl|rfl
 . rcases D with rfl|rfl|⟨_,h⟩
   . refine cR (n:=297) (x:=.int 1) (by kernel_rfl) (bM (n:=295) (by kernel_rfl) (cp (n:=295) (by kernel_rfl) (bK (n:=293) ?_)));exact j1 (bk (by kernel_rfl) (bk (by kernel_rfl) (bk (by kernel_rfl) (bk (bz (n:=291) (by kernel_rfl) hc) ey)))) (by simp)
   . refine cR (n:=297) (x:=.int 1) (by kernel_rfl) (bM (n:=295) (by kernel_rfl) (cp (n:=295) (by kernel_rfl) (bK (n:=293) ?_)));exact j1 (bk (by kernel_rfl) (bk (by kernel_rfl) (bk (by kernel_rfl) (bk (bz (n:=291) (by kernel_rfl) hc) ey)))) (by simp)
   . clear hc;contradiction
 . rcases D with rfl|rfl|⟨rfl,_⟩
   . refine cR (n:=297) (x:=.int 1) (by kernel_rfl) (bM (n:=295) (by kernel_rfl) (cp (n:=295) (by kernel_rfl) (bK (n:=293) ?_)));exact j1 (bk (by kernel_rfl) (bk (by kernel_rfl) (bk (by kernel_rfl) (bk (bz (n:=291) (by kernel_rfl) hc) ey)))) (by simp)
   . refine cR (n:=297) (x:=.int 1) (by kernel_rfl) (bM (n:=295) (by kernel_rfl) (cp (n:=295) (by kernel_rfl) (bK (n:=293) ?_)));exact j1 (bk (by kernel_rfl) (bk (by kernel_rfl) (bk (by kernel_rfl) (bk (bz (n:=291) (by kernel_rfl) hc) ey)))) (by simp)
   . refine cR (n:=297) (x:=.int 1) (by kernel_rfl) (bM (n:=295) (by kernel_rfl) (cp (n:=295) (by kernel_rfl) (bK (n:=293) ?_)));exact j1 (bk (by kernel_rfl) (bk (by kernel_rfl) (bk (by kernel_rfl) (bk (bz (n:=291) (by kernel_rfl) hc) ey)))) (by simp)
noncomputable def cT(v y:Int):Rl->Rl
 | .ne2 c=>.ne2 c
 | .card u w a b=>.card (aA v y u) (aA v y w) a b
 | .prec u w=>.prec (aA v y u) (aA v y w)
 | .ne1 x u=>.ne1 x (aA v y u)
 | .le c=>.le c
 | .alld=>.alld
noncomputable def Rl.good:Rl->Bool
 | .ne2 c=>decide (c=0)
 | .le _=>false
 |_=>true
noncomputable def fb(m:Nat)(v y:Int)(r:Rl):D:=if r.good=true then rD m (cT v y r) else .none
set_option maxHeartbeats 8000000 in
theorem QJ k m (hm:m=2\/m=3) r (hr:r.ok m) v y:Φ (k+3) 12 [rD m r,sc m,.int v,.int y]=aa (fb m v y r):=by
 rcases r with c|⟨u,w,a,b⟩|⟨u,w⟩|⟨x,u⟩|c|_
 . rcases hm with rfl|rfl<;>rcases hr with rfl|rfl|rfl<;>kernel_rfl
 . have e:=GO k m u w a b v y;rw [dz (k+2) 12 (by decide) (by decide) (fn:=r6) rfl];show _=aa (rD m (.card (aA v y u) (aA v y w) a b));generalize G:rD m (.card (aA v y u) (aA v y w) a b)=res at e;refine cM (n:=300) rfl ?_;clear hr;rcases hm with rfl|rfl
   . refine cR (n:=298) (x:=.str fA) (by kernel_rfl) (bM (n:=296) (by kernel_rfl) (bM (n:=295) (by kernel_rfl) (bM (n:=294) (by kernel_rfl) (bM (n:=293) (by kernel_rfl) (bM (n:=292) (by kernel_rfl) (bM (n:=291) (by kernel_rfl) (cp (n:=291) (by kernel_rfl) ?_)))))));exact cR (n:=289) (x:=.list []) (by kernel_rfl) (cp (n:=288) (by kernel_rfl) (bK (n:=286) (bz (n:=285) (by kernel_rfl) e)))
   . refine cR (n:=298) (x:=.str fA) (by kernel_rfl) (bM (n:=296) (by kernel_rfl) (bM (n:=295) (by kernel_rfl) (bM (n:=294) (by kernel_rfl) (bM (n:=293) (by kernel_rfl) (bM (n:=292) (by kernel_rfl) (bM (n:=291) (by kernel_rfl) (cp (n:=291) (by kernel_rfl) ?_)))))));exact cR (n:=289) (x:=.list []) (by kernel_rfl) (cp (n:=288) (by kernel_rfl) (bK (n:=286) (bz (n:=285) (by kernel_rfl) e)))
 . have F:=iU (k+1) u v y;have D:=iU (k+1) w v y;rw [dz (k+2) 12 (by decide) (by decide) (fn:=r6) rfl];show _=aa (rD m (.prec (aA v y u) (aA v y w)));refine cM (n:=300) rfl ?_;clear hr;rcases hm with rfl|rfl
   . refine cR (n:=298) (x:=.str vg) (by kernel_rfl) (bM (n:=296) (by kernel_rfl) (bM (n:=295) (by kernel_rfl) (bM (n:=294) (by kernel_rfl) (bM (n:=293) (by kernel_rfl) (bM (n:=292) (by kernel_rfl) (cp (n:=292) (by kernel_rfl) ?_))))));refine cR (n:=290) (x:=.bool true) (by kernel_rfl) (bK (n:=289) (qS (n:=288) (by kernel_rfl) ?_));exact j1 (n:=287) (bk (by kernel_rfl) (bk (bz (n:=286) (by kernel_rfl) F) (bk (bz (n:=286) (by kernel_rfl) D) (bk (by kernel_rfl) ey)))) (by simp)
   . refine cR (n:=298) (x:=.str vg) (by kernel_rfl) (bM (n:=296) (by kernel_rfl) (bM (n:=295) (by kernel_rfl) (bM (n:=294) (by kernel_rfl) (bM (n:=293) (by kernel_rfl) (bM (n:=292) (by kernel_rfl) (cp (n:=292) (by kernel_rfl) ?_))))));refine cR (n:=290) (x:=.bool true) (by kernel_rfl) (bK (n:=289) (qS (n:=288) (by kernel_rfl) ?_));exact j1 (n:=287) (bk (by kernel_rfl) (bk (bz (n:=286) (by kernel_rfl) F) (bk (bz (n:=286) (by kernel_rfl) D) (bk (by kernel_rfl) ey)))) (by simp)
 . have e:=JL k m hm x u v y hr;rw [dz (k+2) 12 (by decide) (by decide) (fn:=r6) rfl];show _=aa (rD m (.ne1 x (aA v y u)));generalize G:rD m (.ne1 x (aA v y u))=res at e;refine cM (n:=300) rfl ?_;rcases hm with rfl|rfl
   . rcases hr with rfl|rfl|⟨_,h⟩
     iterate 2 exact cR (n:=298) (x:=.str oI) (by kernel_rfl) (bM (n:=296) (by kernel_rfl) (cp (n:=296) (by kernel_rfl) (bK (n:=294) (bz (n:=293) (by kernel_rfl) e))))
     . clear e;contradiction
   . rcases hr with rfl|rfl|⟨rfl,_⟩
     iterate 3 exact cR (n:=298) (x:=.str oI) (by kernel_rfl) (bM (n:=296) (by kernel_rfl) (cp (n:=296) (by kernel_rfl) (bK (n:=294) (bz (n:=293) (by kernel_rfl) e))))
 . clear hr;rcases hm with rfl|rfl<;>kernel_rfl
 . clear hr;rcases hm with rfl|rfl<;>kernel_rfl
theorem tw{n:Nat}{α:Type}{lt lt':Nat->Nat->Bool}(h:∀ i j,i < n->j < n->lt i j=lt' i j):∀ {t:KasT α} {P:α->Prop},Ok n t P->bU lt t=bU lt' t
 | .ret a,_,_=>rfl
 | .ask i j k,P,o=>by
  show bU lt (k (lt i j))=bU lt' (k (lt' i j));refine rl (h i j o.1 o.2.1) (tw h (o.2.2 _))
structure Cc (n:Nat) (lt:Nat->Nat->Bool):Prop where
 asym:∀ {i j},i < n->j < n->lt i j=true->lt j i=false
 neg:∀ {i j k},i < n->j < n->k < n->lt i j=false->lt j k=false->lt i k=false
noncomputable def tb(l:List Bool)(n i j:Nat):Bool:=l.getD (i * n+j) false
noncomputable def od(lt:Nat->Nat->Bool):List Nat->Bool
 |[]=>true
 |i::r=>r.all (fun j => !lt j i) && od lt r
noncomputable def rt(n:Nat)(lt:Nat->Nat->Bool):Bool:=(c8 n).all fun i=>(c8 n).all fun j=>(!lt i j || !lt j i) && (c8 n).all fun k=>lt i j || lt j k || !lt i k
theorem QK:∀ a b c d e f g h i:Bool,(!rt 3 (tb [a,b,c,d,e,f,g,h,i] 3) || od (tb [a,b,c,d,e,f,g,h,i] 3) (bU (tb [a,b,c,d,e,f,g,h,i] 3) (l7 3)).toList)=true:=by decide +kernel
theorem QM:∀ a b c d:Bool,(!rt 2 (tb [a,b,c,d] 2) || od (tb [a,b,c,d] 2) (bU (tb [a,b,c,d] 2) (l7 2)).toList)=true:=by decide +kernel
theorem ul{lt:Nat->Nat->Bool}:∀ {l:List Nat},od lt l=true->l.Pairwise fun i j=>lt j i=false:=by
 intro G;induction G with
 |nil =>
  intro _;exact .nil
 |cons i r D =>
  intro h;unfold od at h;rw [bX] at h;refine iX.mpr ⟨fun j F=>?_,D h.2⟩
  have:=bq.mp h.1 j F;exact sx_false this
theorem AC{n:Nat}{lt lt':Nat->Nat->Bool}(W:Cc n lt)(h:∀ i j,i < n->j < n->lt i j=lt' i j):rt n lt'=true:=by
 unfold rt;refine bq.mpr fun i hi=>bq.mpr fun j D=>?_;have hi:=en.mp hi;have D:=en.mp D;refine rl (bX ..) (⟨?_,bq.mpr fun k hk=>?_⟩)
 . refine rl (az (h i j hi D)) (rl (az (h j i D hi)) ?_);cases e:lt i j with
   |false=>rfl
   |true=>refine rl (W.asym hi D e) ?_;rfl
 . have hk:=en.mp hk;refine rl (az (h i j hi D)) (rl (az (h j k D hk)) (rl (az (h i k hi hk)) ?_));cases e:lt i j with
   |true=>rfl
   |false=>cases F:lt j k with
    |true=>rfl
    |false=>refine rl (W.neg hi D hk e F) ?_;rfl
theorem JM{n:Nat}{lt:Nat->Nat->Bool}(J:n<=3)(W:Cc n lt):(dF n lt).Pairwise fun i j=>lt j i=false:=by
 have F:=lQ n lt;have D:∀ lt':Nat->Nat->Bool,(∀ i j,i < n->j < n->lt i j=lt' i j)->(dF n lt).Pairwise (fun i j=>lt' j i=false)->(dF n lt).Pairwise fun i j=>lt j i=false:=fun lt' h P =>
  P.imp_of_mem fun {i j} hi G q=>by refine rl (h j i (en.mp (F.mem_iff.mp G)) (en.mp (F.mem_iff.mp hi))) ?_;exact q
 unfold dF at F D ⊢;split
 . have:n=0\/n=1:=oQ ‹_›
   clear D F W J;rcases this with rfl|rfl<;>exact ul rfl
 . rename_i L;rw [if_neg L] at F D;have:n=2\/n=3:=Nl J L
   clear L F J;rcases this with rfl|rfl
   . have h:∀ i j,i < 2->j < 2->lt i j=tb [lt 0 0,lt 0 1,lt 1 0,lt 1 1] 2 i j:=fun i j hi G=>by
      match i,j,hi,G with
      |0,0,_,_=>rfl
      |0,1,_,_=>rfl
      |1,0,_,_=>rfl
      |1,1,_,_=>rfl
     refine D _ h ?_;refine rl (tw h (nK Nm)) ?_;have r:=QM (lt 0 0) (lt 0 1) (lt 1 0) (lt 1 1);rw [AC W h] at r;exact ul r
   . have h:∀ i j,i < 3->j < 3->lt i j=tb [lt 0 0,lt 0 1,lt 0 2,lt 1 0,lt 1 1,lt 1 2,lt 2 0,lt 2 1,lt 2 2] 3 i j:=fun i j hi G=>by
      match i,j,hi,G with
      |0,0,_,_=>rfl
      |0,1,_,_=>rfl
      |0,2,_,_=>rfl
      |1,0,_,_=>rfl
      |1,1,_,_=>rfl
      |1,2,_,_=>rfl
      |2,0,_,_=>rfl
      |2,1,_,_=>rfl
      |2,2,_,_=>rfl
     refine D _ h ?_;refine rl (tw h (nK Nn)) ?_;have r:=QK (lt 0 0) (lt 0 1) (lt 0 2) (lt 1 0) (lt 1 1) (lt 1 2) (lt 2 0) (lt 2 1) (lt 2 2);rw [AC W h] at r;exact ul r
theorem yM{α:Type}{lt:α->α->Bool}(tot:∀ x y,lt x y=false->lt y x=false->x=y):∀ {a b:List α},a.Perm b->a.Pairwise (fun x y=>lt y x=false)->b.Pairwise (fun x y=>lt y x=false)->a=b
 |[],b,p,_,_=>p.nil_eq
 |x::a,[],p,_,_=>absurd p.length_eq (i0 _)
 |x::a,y::b,p,ha,hb=>by
  refine ac (iX.mp ha) fun F J=>ac (iX.mp hb) fun D G=>?_;have e:x=y:=by
   rcases aL.mp (p.mem_iff.mp aY) with e|L
   . exact e
   . rcases aL.mp (p.mem_iff.mpr (aY (a:=y) (l:=b))) with e|N
     . exact e.symm
     . exact tot x y (D x L) (F y N)
  clear D F;subst e;refine rl (yM tot p.cons_inv J G) rfl
structure sa {α:Type} (lt:α->α->Bool):Prop where
 asym:∀ {x y},lt x y=true->lt y x=false
 neg:∀ {x y z},lt x y=false->lt y z=false->lt x z=false
 anti:∀ x y,lt x y=false->lt y x=false->x=y
theorem yN{α:Type}{l:List α}{lt:α->α->Bool}(T:sa lt)(hl:l.length<=3):(bV l lt).Pairwise fun x y=>lt y x=false:=by
 refine rl (nw ..) ?_;rcases l with _|⟨x,r⟩
 . exact wJ
 . generalize hq:x::r=l at hl;have hd:∀ i,i < l.length->l[i]? = aa (l.getD i x):=fun i hi=>by simp [hi]
   have h:=lQ l.length (gS l lt);refine rl (te l (fun i hi=>en.mp (h.mem_iff.mp hi)) x) ?_;refine rp (wL ..) ?_;have e:∀ i j,i < l.length->j < l.length->gS l lt i j=lt (l.getD i x) (l.getD j x):=fun i j hi D=>by unfold gS;refine rl (hd i hi) ?_;refine rl (hd j D) ?_;rfl
   have P:=JM (n:=l.length) (lt:=gS l lt) hl ⟨fun {i j} hi D hh=>by rw [e _ _ hi D] at hh;refine rl (e _ _ D hi) ?_;exact T.asym hh,
    fun {i j k} hi D hk h1 F=>by rw [e _ _ hi D] at h1;rw [e _ _ D hk] at F;refine rl (e _ _ hi hk) ?_;exact T.neg h1 F⟩
   exact P.imp_of_mem fun {i j} hi D hh=>by
    refine rl (az (e j i (en.mp (h.mem_iff.mp D)) (en.mp (h.mem_iff.mp hi)))) hh
theorem FB{α:Type}{a b:List α}{lt:α->α->Bool}(T:sa lt)(ha:a.length<=3)(hb:b.length<=3):bV a lt=bV b lt↔a.Perm b :=
 ⟨fun e=>(gx a lt).symm.trans (e ▸ gx b lt),fun p=>yM T.anti ((gx a lt).trans (p.trans (gx b lt).symm)) (yN T ha) (yN T hb)⟩
theorem Ig{α:Type}{code:α->List Int}(inj:∀ x y,code x=code y->x=y):sa fun x y=>a6 (code x) (code y) where
 asym:=fun {x y} h=>nq _ _ h
 neg:=fun {x y z} h1 D=>by
  by_cases F:a6 (code x) (code z)=true
  . by_cases e:code y=code x
    . rw [e] at D;rw [D] at F;exact nB F
    . rcases tN _ _ e with h|h
      . rw [tv _ _ _ h F] at D;exact nT D
      . rw [h] at h1;exact nT h1
  . exact Eq.mp (jB _) F
 anti:=fun x y h1 D=>by
  by_cases e:code x=code y
  . exact inj _ _ e
  . rcases tN _ _ e with h|h
    . rw [h] at h1;exact nT h1
    . rw [h] at D;exact nT D
noncomputable def fl(m:Nat)(r:Rl):List D:=match rD m r with
 | .tup l=>l
 |_=>[]
theorem vi m r:rD m r = .tup (fl m r):=by obtain ⟨⟩:=r<;>rfl
theorem rO a b as bs:a6 (a::as) (b::bs)=if a=b then a6 as bs else decide (a < b):=rfl
theorem eE a b:bf (.int a) (.int b)=decide (a=b):=ma a b
theorem mL a b:bf (aj a) (aj b)=decide (a=b):=tS a b
theorem l1:(if decide (a=b)=true then aa (a6 x y) else aa (decide (a < b)))=aa (a6 (a::x) (b::y)):=by
 show _=aa (if a=b then a6 x y else decide (a < b))
 by_cases h:a=b
 . rw [if_pos h,if_pos (decide_eq_true h)]
 . rw [if_neg h,if_neg (fun e=>h (of_decide_eq_true e))]
theorem l2:∀ {p q x y:List Int},p.length=q.length->(if decide (p=q)=true then aa (a6 x y) else aa (a6 p q))=aa (a6 (p++x) (q++y)):=by
 intro p;induction p with
 |nil =>
  intro q x y h;rcases q with _|⟨b,q⟩
  . rfl
  . exact absurd h.symm (i0 _)
 |cons a p ih =>
  intro q x y h;rcases q with _|⟨b,q⟩
  . exact absurd h (i0 _)
  . show _=aa (if a=b then a6 (p++x) (q++y) else decide (a < b))
    show (if _ then _ else aa (if a=b then a6 p q else decide (a < b)))=_
    by_cases e:a=b
    . subst e;rw [if_pos rfl,if_pos rfl,← (ih (q:=q) (x:=x) (y:=y) (nm h))];simp
    . rw [if_neg e,if_neg e,if_neg (fun z=>e (List.head_eq_of_cons_eq (of_decide_eq_true z)))]
theorem zx(hm:m=2\/m=3)x y:eC (fl m x) (fl m y)=aa (a6 (code x) (code y)):=by
 rcases x with c|⟨u,w,a,b⟩|⟨u,w⟩|⟨x,u⟩|c|_
 . rcases y with d|_|_|_|_|_
   . have:eC (fl m (.ne2 c)) (fl m (.ne2 d))=(if bf (.int c) (.int d) then aa false else aa (decide (c < d))):=by rcases hm with rfl|rfl<;>kernel_rfl
     refine rl this (rl (eE ..) (l1 (x:=[]) (y:=[])))
   . rcases hm with rfl|rfl<;>kernel_rfl
   . rcases hm with rfl|rfl<;>kernel_rfl
   . rcases hm with rfl|rfl<;>kernel_rfl
   . rcases hm with rfl|rfl<;>kernel_rfl
   . rcases hm with rfl|rfl<;>kernel_rfl
 . rcases y with _|⟨D,F,G,b'⟩|_|_|_|_
   . rcases hm with rfl|rfl<;>kernel_rfl
   . have:eC (fl m (.card u w a b)) (fl m (.card D F G b'))=(if bf (aj [u,w]) (aj [D,F]) then (if bf (aj [a,b]) (aj [G,b']) then aa false else aa (a6 [a,b] [G,b'])) else aa (a6 [u,w] [D,F])):=by
      rcases hm with rfl|rfl<;>kernel_rfl
     refine rl this (rl (mL ..) (rl (mL ..) ((congrArg (fun z=>if decide ([u,w] = [D,F])=true then z else aa (a6 [u,w] [D,F])) (l2 (p:=[a,b]) (q:=[G,b']) (x:=[]) (y:=[]) rfl)).trans (l2 (p:=[u,w]) (q:=[D,F]) rfl))))
   . rcases hm with rfl|rfl<;>kernel_rfl
   . rcases hm with rfl|rfl<;>kernel_rfl
   . rcases hm with rfl|rfl<;>kernel_rfl
   . rcases hm with rfl|rfl<;>kernel_rfl
 . rcases y with _|_|⟨D,F⟩|_|_|_
   . rcases hm with rfl|rfl<;>kernel_rfl
   . rcases hm with rfl|rfl<;>kernel_rfl
   . have:eC (fl m (.prec u w)) (fl m (.prec D F))=(if bf (.int u) (.int D) then (if bf (.int w) (.int F) then aa false else aa (decide (w < F))) else aa (decide (u < D))):=by rcases hm with rfl|rfl<;>kernel_rfl
     refine rl this (rl (eE ..) (rl (eE ..) ((congrArg (fun z=>if decide (u=D)=true then z else aa (decide (u < D))) (l1 (a:=w) (b:=F) (x:=[]) (y:=[]))).trans l1)))
   . rcases hm with rfl|rfl<;>kernel_rfl
   . rcases hm with rfl|rfl<;>kernel_rfl
   . rcases hm with rfl|rfl<;>kernel_rfl
 . rcases y with _|_|_|⟨x',D⟩|_|_
   . rcases hm with rfl|rfl<;>kernel_rfl
   . rcases hm with rfl|rfl<;>kernel_rfl
   . rcases hm with rfl|rfl<;>kernel_rfl
   . have:eC (fl m (.ne1 x u)) (fl m (.ne1 x' D))=(if bf (aj [x]) (aj [x']) then (if bf (.int u) (.int D) then aa false else aa (decide (u < D))) else aa (a6 [x] [x'])):=by rcases hm with rfl|rfl<;>kernel_rfl
     refine rl this (rl (mL ..) (rl (eE ..) ((congrArg (fun z=>if decide ([x] = [x'])=true then z else aa (a6 [x] [x'])) (l1 (a:=u) (b:=D) (x:=[]) (y:=[]))).trans (l2 (p:=[x]) (q:=[x']) rfl))))
   . rcases hm with rfl|rfl<;>kernel_rfl
   . rcases hm with rfl|rfl<;>kernel_rfl
 . rcases y with _|_|_|_|d|_
   . rcases hm with rfl|rfl<;>kernel_rfl
   . rcases hm with rfl|rfl<;>kernel_rfl
   . rcases hm with rfl|rfl<;>kernel_rfl
   . rcases hm with rfl|rfl<;>kernel_rfl
   . have:eC (fl m (.le c)) (fl m (.le d))=(if bf (.int c) (.int d) then aa false else aa (decide (c < d))):=by rcases hm with rfl|rfl<;>kernel_rfl
     refine rl this (rl (eE ..) (l1 (x:=[]) (y:=[])))
   . rcases hm with rfl|rfl<;>kernel_rfl
 . cases y with
   |_=>rcases hm with rfl|rfl<;>kernel_rfl
noncomputable abbrev gV(x y:Rl):Bool:=a6 (code x) (code y)
theorem QN:sa gV:=Ig zv
theorem EU(hm:m=2\/m=3)(hl:l.length < 64):dJ (l.map (rD m))=aa ((bV l gV).map (rD m)):=by
 rcases l with _|⟨x,r⟩
 . rfl
 . have J:(x::r).map (rD m)=((x::r).map (fl m)).map .tup:=by
    refine rl cU (gt fun y N=>vi m y)
   unfold dJ;refine rl (if_pos (by refine rl (aZ ..) ?_;exact hl)) ?_;have L:cr ((x::r).map (rD m))=none:=by refine rl J ?_;rfl
   refine rl L ?_;simp only;refine rl J (rl (yg ..) ?_);simp only;rw [if_pos]
   . refine rl (yh ..) (rl cU ?_);congr 1;have e3:(fun a b=>(eC (fl m a) (fl m b)).getD false)=gV:=by funext a b;rw [zx hm];rfl
     refine rl e3 (gt fun y N=>(vi m y).symm)
   . have F:∀ y:Rl,(fl m y).all kg=true:=fun y=>by
      clear r x L J hl;rcases hm with rfl|rfl<;>obtain ⟨⟩:=y<;>kernel_rfl
     have G:∀ y z:Rl,kD (fl m y) (fl m z)=true:=fun y z=>by obtain ⟨⟩:=y<;>obtain ⟨⟩:=z<;>rfl
     refine rl (bX ..) (rl (bX ..) (⟨⟨bq.mpr fun t ht=>?_,bq.mpr fun t ht=>?_⟩,bq.mpr fun t ht=>bq.mpr fun u P=>?_⟩))
     . clear hm G L J hl;refine bB ht fun a _ D=>?_;subst D;exact F a
     . clear hm F L J hl;refine bB ht fun a _ D=>?_;subst D;exact G a x
     . clear G F L J hl;refine bB ht fun a _ D=>?_;subst D;refine bB P fun b _ D=>?_;subst D;rw [zx hm];rfl
section
variable {Ψ:Nat->List D->Option D} {n:Nat} {e a b c:Ex} {d x y:D}
theorem t8{elt it:Ex}(h:an Ψ n O (.comp1 cap elt t it ifs)=aa (.list l))(F:dJ l=aa r):an Ψ (n+1) O (.prim .sorted (.comp1 cap elt t it ifs))=aa (.list r):=by show (an Ψ n O (.comp1 cap elt t it ifs)).bind (hX .sorted)=_;refine rl h (mI F)
theorem JN(h:an Ψ n O a=aa (.bool false)):an Ψ (n+1) O (.and [a,b])=aa (.bool false):=by show ((an Ψ n O a).bind iH).bind _=_;refine rl h rfl
theorem JO(h:an Ψ n O a=aa (.bool true))(h':an Ψ n O b=aa (.bool q)):an Ψ (n+1) O (.and [a,b])=aa (.bool q):=by show ((an Ψ n O a).bind iH).bind (fun q=>cond q (((an Ψ n O b).bind iH).map D.bool) (aa (D.bool false)))=_;refine rl h (rl h' rfl)
theorem hY(ha:an Ψ n O a=aa x)(hb:bS (an Ψ n O) O b=aa y)(h:fE o x y=aa q):an Ψ (n+1) O (.cmp o a b)=aa (.bool q):=(bI ha).trans ((bI hb).trans (mI h))
theorem db(ha:an Ψ n O a=aa x)(hb:bS (an Ψ n O) O b=aa y)(h:fE o x y=aa q):aJ Ψ (n+1) O (.cmp o a b)=aa q:=(bI ha).trans ((bI hb).trans h)
end
theorem JP{n:Nat}{O:Sg}{i:Nat}(h:an Ψ n O (.call i es)=aa d):bS (an Ψ n O) O (.call i es)=aa d:=h
theorem FC{α J:Type}{F:J->Option (List D)}{f:α->J}{g:α->List D}:∀ {l:List α},(∀ x∈l,F (f x)=aa (g x))->jl F (l.map f)=aa (l.flatMap g):=by
 intro N;induction N with
 |nil =>
  intro _;exact rfl
 |cons a l G =>
  intro h;exact (bI (h a aY)).trans (mI (G fun x L=>h x (aN _ L)))
theorem jh{n:Nat}{O:Sg}{α:Type}{elt it:Ex}{l:List α}{f:α->D}{g:α->List D}(hc:cap.all (fun i=>(ah O i).isSome)=true)
 (hi:d5 t (an Ψ n O) (bS (an Ψ n O) O) it=aa (l.map f)) (h:∀ x∈l,lr Ψ n O t ifs elt (f x)=aa (g x)) (F:(l.flatMap g).length<=100000):an Ψ (n+1) O (.comp1 cap elt t it ifs)=aa (.list (l.flatMap g)):=by
 refine rl yl (rl (if_pos hc) ?_)
 exact (bI hi).trans ((bI (FC h)).trans (if_pos F))
theorem ru{α D:Type}(f:α->D)(l:List α):l.flatMap (fun x=>[f x])=l.map f:=by
 induction l with
 |nil=>rfl
 |cons a l ih=>refine rl wP ?_;refine rl ih ?_;rfl
noncomputable def b6:Rl->Rl
 | .card u w a b=>if w < u then .card w u b a else .card u w a b
 |r=>r
def Rl.ok2(m:Nat):Rl->Prop
 | .card u w _ _=>u≠w
 |r=>r.ok m
theorem uM{r:Rl}(h:r.ok2 m):r.ok m:=by obtain ⟨⟩:=r<;>first|exact h|trivial
theorem OZ u w a b(h:u≠w):dJ [.tup [.int u,.int 0,.int a],.tup [.int w,.int 0,.int b]]=aa (if w < u then [.tup [.int w,.int 0,.int b],.tup [.int u,.int 0,.int a]] else [.tup [.int u,.int 0,.int a],.tup [.int w,.int 0,.int b]]):=by
 have e:=@t6 [[u,0,a],[w,0,b]] [.tup [.int u,.int 0,.int a],.tup [.int w,.int 0,.int b]];have L:=kE [[u,0,a],[w,0,b]];have nd:([[u,0,a],[w,0,b]]:List (List Int)).Nodup:=by simp [h]
 have P:=nh L nd;have s2:=gx [[u,0,a],[w,0,b]] a6;have F:bV [[u,0,a],[w,0,b]] a6=if w < u then [[w,0,b],[u,0,a]] else [[u,0,a],[w,0,b]]:=by
  by_cases D:w < u
  . refine rl (if_pos D) (lN (s2.trans (List.Perm.swap _ _ _)) (fun x J y N=>L.asym x (s2.mem_iff.mp J) y (s2.mem_iff.mp N)) P ?_);have:a6 [w,0,b] [u,0,a]=true:=by refine rl (rO ..) ?_;refine rl (if_neg (fun e=>h e.symm)) ?_;simpa using D
    simp [this]
  . refine rl (if_neg D) (lN s2 (fun x J y N=>L.asym x (s2.mem_iff.mp J) y (s2.mem_iff.mp N)) P ?_);have:a6 [u,0,a] [w,0,b]=true:=by refine rl (rO ..) ?_;refine rl (if_neg h) ?_;simp;exact BE h D
    simp [this]
 have G:eP a6 (bV [[u,0,a],[w,0,b]] a6)=true:=by
  refine rl F ?_;by_cases D:w < u
  . refine rl (if_pos D) ?_;have:a6 [w,0,b] [u,0,a]=true:=by refine rl (rO ..) ?_;refine rl (if_neg (fun e=>h e.symm)) ?_;simpa using D
    simp [eP,this]
  . refine rl (if_neg D) ?_;have:a6 [u,0,a] [w,0,b]=true:=by refine rl (rO ..) ?_;refine rl (if_neg h) ?_;simp;exact BE h D
    simp [eP,this]
 refine rl (e (so rfl) G (by rfl) (pI _)) (rl F ?_);split<;>rfl
theorem ev3 k u w a b(h:u≠w):Φ (k+1) 3 [.tup [.tup [.int u,.int w],.tup [.int 0,.int 0],.tup [.int a,.int b]]] =
 aa (if w < u then .tup [.tup [.int w,.int u],.tup [.int 0,.int 0],.tup [.int b,.int a]] else .tup [.tup [.int u,.int w],.tup [.int 0,.int 0],.tup [.int a,.int b]]):=by
 rw [dz k 3 (by decide) (by decide) (fn:=Q3) rfl];have s:=OZ u w a b h;refine cM (n:=300) rfl ?_;by_cases D:w < u
 . rw [if_pos D] at s ⊢;exact cR (n:=298) (t8 (n:=297) (l:=[.tup [.int u,.int 0,.int a],.tup [.int w,.int 0,.int b]]) (by kernel_rfl) s) (bK (n:=297) (by kernel_rfl))
 . rw [if_neg D] at s ⊢;exact cR (n:=298) (t8 (n:=297) (l:=[.tup [.int u,.int 0,.int a],.tup [.int w,.int 0,.int b]]) (by kernel_rfl) s) (bK (n:=297) (by kernel_rfl))
theorem ev5 k(hm:m=2\/m=3)u w a b(h:u≠w):Φ (k+2) 5 [rD m (.card u w a b)]=aa (rD m (b6 (.card u w a b))):=by
 rw [dz (k+1) 5 (by decide) (by decide) (fn:=Q5) rfl];have s:=ev3 k u w a b h;refine cM (n:=300) rfl ?_;by_cases D:w < u
 . rw [if_pos D] at s;rw [show b6 (.card u w a b) = .card w u b a from if_pos D];rcases hm with rfl|rfl
   . exact cp (n:=298) (by kernel_rfl) (bK (n:=296) (fB (n:=295) (x:=.tup [.str fA,sc 2]) (by kernel_rfl) (bz (n:=294) (by kernel_rfl) s) (by kernel_rfl)))
   . exact cp (n:=298) (by kernel_rfl) (bK (n:=296) (fB (n:=295) (x:=.tup [.str fA,sc 3]) (by kernel_rfl) (bz (n:=294) (by kernel_rfl) s) (by kernel_rfl)))
 . rw [if_neg D] at s;rw [show b6 (.card u w a b) = .card u w a b from if_neg D];rcases hm with rfl|rfl
   . exact cp (n:=298) (by kernel_rfl) (bK (n:=296) (fB (n:=295) (x:=.tup [.str fA,sc 2]) (by kernel_rfl) (bz (n:=294) (by kernel_rfl) s) (by kernel_rfl)))
   . exact cp (n:=298) (by kernel_rfl) (bK (n:=296) (fB (n:=295) (x:=.tup [.str fA,sc 3]) (by kernel_rfl) (bz (n:=294) (by kernel_rfl) s) (by kernel_rfl)))
theorem ev6 k(hm:m=2\/m=3)r(hr:r.ok2 m):Φ (k+3) 6 [rD m r]=aa (rD m (b6 r)):=by
 rcases r with c|⟨u,w,a,b⟩|⟨u,w⟩|⟨x,u⟩|c|_
 . have:Φ (k+3) 6 [rD m (.ne2 c)]=aa (rD m (.ne2 (1 * c))):=by rcases hm with rfl|rfl<;>kernel_rfl
   refine rl this (rl (tH ..) rfl)
 . have e:=ev5 k hm u w a b hr;rw [dz (k+2) 6 (by decide) (by decide) (fn:=Q6) rfl];generalize rD m (b6 (.card u w a b))=res at e;refine cM (n:=300) rfl ?_;clear hr;rcases hm with rfl|rfl
   iterate 2 exact cR (n:=298) (x:=.str fA) (by kernel_rfl) (bM (n:=296) (by kernel_rfl) (bM (n:=295) (by kernel_rfl) (cp (n:=295) (by kernel_rfl) (bK (n:=293) (qS (n:=292) (by kernel_rfl) (bz (n:=291) (by kernel_rfl) e))))))
 . clear hr;rcases hm with rfl|rfl<;>kernel_rfl
 . have:Φ (k+3) 6 [rD m (.ne1 x u)]=aa (rD m (.ne1 x (1 * u))):=by
    rcases hr with rfl|rfl|⟨rfl,rfl⟩
    . rcases hm with rfl|rfl<;>kernel_rfl
    . rcases hm with rfl|rfl<;>kernel_rfl
    . kernel_rfl
   refine rl this (rl (tH ..) rfl)
 . have:Φ (k+3) 6 [rD m (.le c)]=aa (rD m (.le (1 * c))):=by rcases hm with rfl|rfl<;>kernel_rfl
   refine rl this (rl (tH ..) rfl)
 . clear hr;rcases hm with rfl|rfl<;>kernel_rfl
theorem ev7 k(hm:m=2\/m=3)(l:List Rl)(hl:∀ r∈l,r.ok2 m)(F:l.length < 64):Φ (k+4) 7 [.list (l.map (rD m))]=aa (.list ((bV (l.map b6) gV).map (rD m))):=by
 rw [dz (k+3) 7 (by decide) (by decide) (fn:=Q7) rfl];refine cM (n:=300) rfl (bK (n:=298) ?_);refine t8 (n:=297) (l:=(l.map b6).map (rD m)) ?_ (EU hm (l:=l.map b6) (by refine rl (aZ ..) ?_;exact F));have D:(l.flatMap (fun r=>[rD m (b6 r)])).length<=100000:=by rewrite [ru (fun r=>rD m (b6 r))];refine rl (aZ ..) ?_;exact c6 (du ‹_› (by decide))
 have hq:(l.map b6).map (rD m)=l.flatMap (fun r=>[rD m (b6 r)]):=by rewrite [ru (fun r=>rD m (b6 r))];refine rl cU ?_;rfl
 refine rl hq (jh (n:=296) (f:=rD m) ?_ ?_ (fun r hr=>?_) D)
 iterate 2 kernel_rfl
 . exact gK (n:=296) rfl rfl (bz (n:=295) (by kernel_rfl) (ev6 k hm r (hl r hr)))
theorem rx m(hm:m=2\/m=3)r:pl 8 (rD m r)=true:=by rcases hm with rfl|rfl<;>obtain ⟨⟩:=r<;>kernel_rfl
theorem JQ m(hm:m=2\/m=3)v y r:pl 8 (fb m v y r)=true:=by
 unfold fb;split
 . exact rx m hm _
 . rfl
theorem qT{n:Nat}{α:Type}{f:α->D}(h:∀ a,pl n (f a)=true)(l:List α):pl (n+1) (.list (l.map f))=true:=nE.mpr fun d hd=>by refine bB hd fun a _ F=>?_;subst F;exact h a
theorem EW m r:bf (rD m r) .none=false:=by refine rl (vi ..) ?_;exact Ef _
theorem Ih m v y(l:List Rl):h9 (l.map (fb m v y)) .none = !(l.all Rl.good):=by
 induction l with
 |nil=>rfl
 |cons r l ih =>
  unfold h9 at ih ⊢;refine rl b7 (rl xq (rl ih (rl xw ?_)));unfold fb;cases D:r.good with
  |true=>refine rl (if_pos rfl) ?_;refine rl (EW ..) ?_;rfl
  |false=>refine rl (if_neg (fun h=>nB h)) ?_;rfl
theorem AD(hm:m=2\/m=3)x y:bf (rD m x) (rD m y)=@decide (x=y) (zSE x y):=by
 rcases x with c|⟨u,w,a,b⟩|⟨u,w⟩|⟨u,w⟩|c|_
 . rcases y with d|_|_|_|_|_
   . have:bf (rD m (.ne2 c)) (rD m (.ne2 d))=(bf (.int c) (.int d) && true):=by rcases hm with rfl|rfl<;>kernel_rfl
     refine rl this (rl (eE ..) (rl (lJ ..) ?_));exact decide_eq_decide.mpr ⟨fun h=>by refine rl h ?_;rfl,fun h=>by obtain ⟨⟩:=h;rfl⟩
   . rcases hm with rfl|rfl<;>kernel_rfl
   . rcases hm with rfl|rfl<;>kernel_rfl
   . rcases hm with rfl|rfl<;>kernel_rfl
   . rcases hm with rfl|rfl<;>kernel_rfl
   . rcases hm with rfl|rfl<;>kernel_rfl
 . rcases y with _|⟨F,G,L,b'⟩|_|_|_|_
   . rcases hm with rfl|rfl<;>kernel_rfl
   . have:bf (rD m (.card u w a b)) (rD m (.card F G L b'))=(bf (aj [u,w]) (aj [F,G]) && (bf (aj [a,b]) (aj [L,b']) && true)):=by rcases hm with rfl|rfl<;>kernel_rfl
     refine rl this (rl (mL ..) (rl (mL ..) (rl (lJ ..) (rl (az (w4 ..)) ?_))));exact decide_eq_decide.mpr ⟨fun D=>by refine ac D fun h1 J=>?_;clear D;exact by obtain ⟨⟩:=h1;obtain ⟨⟩:=J;rfl,fun h=>by obtain ⟨⟩:=h;exact ⟨rfl,rfl⟩⟩
   . rcases hm with rfl|rfl<;>kernel_rfl
   . rcases hm with rfl|rfl<;>kernel_rfl
   . rcases hm with rfl|rfl<;>kernel_rfl
   . rcases hm with rfl|rfl<;>kernel_rfl
 . rcases y with _|_|⟨F,G⟩|_|_|_
   . rcases hm with rfl|rfl<;>kernel_rfl
   . rcases hm with rfl|rfl<;>kernel_rfl
   . have:bf (rD m (.prec u w)) (rD m (.prec F G))=(bf (.int u) (.int F) && (bf (.int w) (.int G) && true)):=by rcases hm with rfl|rfl<;>kernel_rfl
     refine rl this (rl (eE ..) (rl (eE ..) (rl (lJ ..) (rl (az (w4 ..)) ?_))));exact decide_eq_decide.mpr ⟨fun D=>by refine ac D fun h1 J=>?_;clear D;exact by subst h1;subst J;rfl,fun h=>by obtain ⟨⟩:=h;exact ⟨rfl,rfl⟩⟩
   . rcases hm with rfl|rfl<;>kernel_rfl
   . rcases hm with rfl|rfl<;>kernel_rfl
   . rcases hm with rfl|rfl<;>kernel_rfl
 . rcases y with _|_|_|⟨F,G⟩|_|_
   . rcases hm with rfl|rfl<;>kernel_rfl
   . rcases hm with rfl|rfl<;>kernel_rfl
   . rcases hm with rfl|rfl<;>kernel_rfl
   . have:bf (rD m (.ne1 u w)) (rD m (.ne1 F G))=(bf (aj [u]) (aj [F]) && (bf (.int w) (.int G) && true)):=by rcases hm with rfl|rfl<;>kernel_rfl
     refine rl this (rl (eE ..) (rl (mL ..) (rl (lJ ..) (rl (az (w4 ..)) ?_))));exact decide_eq_decide.mpr ⟨fun D=>by refine ac D fun h1 J=>?_;clear D;exact by obtain ⟨⟩:=h1;subst J;rfl,fun h=>by obtain ⟨⟩:=h;exact ⟨rfl,rfl⟩⟩
   . rcases hm with rfl|rfl<;>kernel_rfl
   . rcases hm with rfl|rfl<;>kernel_rfl
 . rcases y with _|_|_|_|d|_
   . rcases hm with rfl|rfl<;>kernel_rfl
   . rcases hm with rfl|rfl<;>kernel_rfl
   . rcases hm with rfl|rfl<;>kernel_rfl
   . rcases hm with rfl|rfl<;>kernel_rfl
   . have:bf (rD m (.le c)) (rD m (.le d))=(bf (.int c) (.int d) && true):=by rcases hm with rfl|rfl<;>kernel_rfl
     refine rl this (rl (eE ..) (rl (lJ ..) ?_));exact decide_eq_decide.mpr ⟨fun h=>by refine rl h ?_;rfl,fun h=>by obtain ⟨⟩:=h;rfl⟩
   . rcases hm with rfl|rfl<;>kernel_rfl
 . rcases y with _|_|_|_|_|_
   . rcases hm with rfl|rfl<;>kernel_rfl
   . rcases hm with rfl|rfl<;>kernel_rfl
   . rcases hm with rfl|rfl<;>kernel_rfl
   . rcases hm with rfl|rfl<;>kernel_rfl
   . rcases hm with rfl|rfl<;>kernel_rfl
   . rcases hm with rfl|rfl<;>kernel_rfl
noncomputable def fh(D:List Rl)(v y:Int):Bool:=D.all Rl.good && @decide (bV (D.map b6) gV=bV ((D.map (cT v y)).map b6) gV) (@instDecidableEqList _ zSE _ _)
set_option tactic.hygienic true in
theorem uC (h:r.ok2 m) v y (D:v≠y):(cT v y r).ok2 m:=by
 obtain ⟨⟩:=r<;>try exact h
 rename_i u w a b;intro e;apply h;unfold aA at e;repeat' split at e
 all_goals first|(first|exact PM ‹_› ‹_› | exact (No ‹_› ‹_› e).elim|exact (PN ‹_› e).elim|exact absurd ‹_› ‹_› | assumption)|(subst_vars;omega)|simp_all
theorem ji{n:Nat}{O:Sg}{α:Type}{elt it:Ex}{l:List α}{f:α->D}{g:α->D}(hc:cap.all (fun i=>(ah O i).isSome)=true)
 (hi:d5 t (an Ψ n O) (bS (an Ψ n O) O) it=aa (l.map f)) (h:∀ x∈l,lr Ψ n O t ifs elt (f x)=aa [g x]) (F:l.length<=100000):an Ψ (n+1) O (.comp1 cap elt t it ifs)=aa (.list (l.map g)):=by
 rw [←ru g]
 exact jh hc hi h (by rewrite [ru g];refine rl (aZ ..) ?_;exact F)
theorem GP{l:List Rl}(h:l.all Rl.good=true):l.map (fb m v y)=(l.map (cT v y)).map (rD m):=by
 refine rl cU ?_;exact gt fun r hr=>by
  have:=bq.mp h r hr;unfold fb;refine rl (if_pos this) rfl
set_option maxHeartbeats 8000000 in
theorem Cd k (hm:m=2\/m=3) l (hl:∀ r∈l,r.ok2 m) (L:l.length < 64) v y (J:v≠y):Φ (k+5) 13 [.list (l.map (rD m)),sc m,.int v,.int y]=aa (.bool (fh l v y)):=by
 rw [dz (k+4) 13 (by decide) (by decide) (fn:=Q13) rfl];have F:l.length<=100000:=by exact c6 (du ‹_› (by decide))
 refine cM (n:=300) rfl (cR (n:=298) (x:=.list (l.map (rD m))) (ji (n:=297) (f:=rD m) (g:=rD m) ?_ ?_ (fun r hr=>?_) F) ?_)
 iterate 2 kernel_rfl
 . have:=uM (hl r hr);clear F J L hl;rcases hm with rfl|rfl
   . rcases r with _|_|_|⟨x,u⟩|_|_
     iterate 3 kernel_rfl
     . rcases this with rfl|rfl|⟨_,h⟩<;>first|contradiction|kernel_rfl
     iterate 2 kernel_rfl
   . rcases r with _|_|_|⟨x,u⟩|_|_
     iterate 3 kernel_rfl
     . rcases this with rfl|rfl|⟨rfl,_⟩<;>kernel_rfl
     iterate 2 kernel_rfl
 refine cR (n:=297) (x:=.list (l.map (fb m v y))) (ji (n:=296) (f:=rD m) (g:=fb m v y) ?_ ?_ (fun r hr=>?_) F) ?_
 iterate 2 kernel_rfl
 . exact gK (n:=296) rfl rfl (bz (n:=295) (by kernel_rfl) (QJ (k+1) m hm r (uM (hl r hr)) v y))
 refine bK (n:=296) ?_;have G:fg .none (.list (l.map (fb m v y)))=aa (!(l.all Rl.good)):=by
  show (if pl 8 D.none && pl 9 (.list (l.map (fb m v y))) then aa (h9 (l.map (fb m v y)) .none) else ab)=_
  rewrite [qT (n:=8) (JQ m hm v y)];refine rl (Ih ..) rfl
 unfold fh;cases N:l.all Rl.good with
 |false =>
  refine JN (n:=295) (hY (n:=294) (x:=.none) (y:=.list (l.map (fb m v y))) ?_ ?_ ?_)
  iterate 2 kernel_rfl
  . show (fg .none (.list (l.map (fb m v y)))).map (!·)=_;refine rl G (rl N rfl)
 |true =>
  refine JO (n:=295) (hY (n:=294) (x:=.none) (y:=.list (l.map (fb m v y))) ?_ ?_ ?_) ?_
  iterate 2 kernel_rfl
  . show (fg .none (.list (l.map (fb m v y)))).map (!·)=_;refine rl G (rl N rfl)
  refine hY (n:=294) (x:=.list ((bV (l.map b6) gV).map (rD m))) (y:=.list ((bV ((l.map (cT v y)).map b6) gV).map (rD m))) ?_ ?_ ?_
  . exact bz (n:=293) (ds:=[.list (l.map (rD m))]) (by kernel_rfl) (ev7 k hm l hl L)
  . exact JP (bz (n:=293) (ds:=[.list ((l.map (cT v y)).map (rD m))]) (by refine rl (az (GP N)) ?_;kernel_rfl) (ev7 k hm (l.map (cT v y)) (fun r hr=>by refine bB hr fun q hq P=>?_;subst P;exact uC (hl q hq) v y J) (by refine rl (aZ ..) ?_;exact L)))
  . show (if pl 9 (.list ((bV (l.map b6) gV).map (rD m))) && pl 9 (.list ((bV ((l.map (cT v y)).map b6) gV).map (rD m))) then aa (bf (.list ((bV (l.map b6) gV).map (rD m))) (.list ((bV ((l.map (cT v y)).map b6) gV).map (rD m)))) else ab)=_
    rewrite [qT (n:=8) (rx m hm),qT (n:=8) (rx m hm)];refine rl (kB ..) ?_;rewrite [@kC _ zSE _ (AD hm)];rfl
section
variable {Ψ:Nat->List D->Option D} {n:Nat} {σ₂:Sg} {e a b c it:Ex} {d x y:D} {t:Tg} {body:List St} {xs:List D} {r as:List St}
theorem z9(h:an Ψ n O (.comp1 cap elt t it ifs)=aa d):bS (an Ψ n O) O (.comp1 cap elt t it ifs)=aa d:=h
theorem og(h:bS (an Ψ n O) O a=aa (.list l))(hl:l.length<=100000):an Ψ (n+1) O (.prim .len a)=aa (.int l.length):=by
 show (bS (an Ψ n O) O a).bind (hX .len)=_;refine rl h ?_;show gc (fun n:Nat=>D.int n) (if l.length<=100000 then aa l.length else ab)=_
 refine rl (if_pos hl) rfl
theorem kY{cap:List Nat}{elt it:Ex}{t:Tg}{ifs:List Ex}{l:List Int}(h:an Ψ n O (.comp1 cap elt t it ifs)=aa (.list (l.map .int)))(hl:l.length<=100000)(hb:∀ i∈l,i.natAbs<=2 ^ 40):an Ψ (n+1) O (.prim .sum (.comp1 cap elt t it ifs))=aa (.int (l.foldl (· + ·) 0)):=by
 show (an Ψ n O (.comp1 cap elt t it ifs)).bind (hX .sum)=_;refine rl h ?_;show oz (l.map .int)=_;unfold oz;have:cr (l.map .int)=aa l:=by
  clear h hl hb;induction l with
  |nil=>rfl
  |cons a l ih=>exact congrArg (gc (a :: ·)) ih
 simp only [this];refine rl (if_pos ⟨hl,bq.mpr fun i hi=>decide_eq_true (hb i hi)⟩) ?_;rfl
theorem j8(h:aJ Ψ n O e=aa q):eQ (aJ Ψ n O) [e]=aa q:=by refine (bI h).trans ?_;obtain ⟨⟩:=q<;>rfl
theorem mq(hb:fX O t x=aa I)(ht:eQ (aJ Ψ n I) ifs=aa q)(D:an Ψ n I elt=aa y):lr Ψ n O t ifs elt x=aa (if q=true then [y] else []):=by
 rcases q with _|_
 . exact Bf hb ht
 . exact gK hb ht D
theorem jX(h:d5 t (an Ψ n (a0 O (aX n it))) (an Ψ n (a0 O (aX n it))) it=aa xs):b8 Ψ (n+1) O (.loop t it body)=cw Ψ n (a0 O (aX n it)) t body xs:=bI h
theorem vj(hb:fX O t x=aa I)(h:cm (be Ψ n I body)=aa d):cm (cw Ψ (n+1) O t body (x::xs))=aa d:=by
 refine rl (show cw Ψ (n+1) O t body (x::xs)=(be Ψ n I body).bind fun p=>j7 p fun σ₂=>cw Ψ n σ₂ t body xs from bI hb) ?_;revert h;generalize be Ψ n I body=o;intro h;match o,h with
 |some (_,.ret d'),h=>exact h
theorem gm(hb:fX O t x=aa I)(h:be Ψ n I body=aa (σ₂,.next)):cw Ψ (n+1) O t body (x::xs)=cw Ψ n σ₂ t body xs:=(bI hb).trans (bI h)
theorem vk:cw Ψ (n+1) O t body []=aa (O,.next):=rfl
theorem ri(hc:aJ Ψ (n+1) (a0 O (aX (n+1) c)) c=aa false):be Ψ (n+3) O [.ite c as []]=aa (a0 O (aX (n+1) c),.next):=bI (show b8 Ψ (n+2) O (.ite c as [])=aa (a0 O (aX (n+1) c),.next) from gF hc)
end
noncomputable def b4:Rl->List Int->Bool
 | .ne2 c,row => !decide (row.getD 0 0 - row.getD 1 0=c)
 | .ne1 x u,row => !decide (row[x.toNat]? = aa u)
 | .le c,row=>decide (row.getD 0 0+row.getD 1 0<=c)
 | .card u w a b,row=>decide (((row.filter fun v=>decide (v=u)).length:Int)<=a) && decide (((row.filter fun v=>decide (v=w)).length:Int)<=b)
 | .prec u w,row=>match row.find? (fun v=>decide (v=u) || decide (v=w)) with
  |some v=>decide (v=u)
  |none=>true
 | .alld,row=>decide row.Nodup
def gW(row:List Int):Prop:=∀ v∈row,1<=v/\v<=4
noncomputable def vm:List (List Int):=[1,2,3,4].flatMap fun a=>[1,2,3,4].map fun b=>[a,b]
noncomputable def vn:List (List Int):=[1,2,3,4].flatMap fun a=>[1,2,3,4].flatMap fun b=>[1,2,3,4].map fun c=>[a,b,c]
noncomputable def eO(m:Nat):List (List Int):=if m=2 then vm else vn
noncomputable def o3(o:Option D)(b:Bool):Bool:=match o with
 |some (.bool c)=>c == b
 |_=>false
theorem uO(h:o3 o b=true):o=aa (.bool b):=by
 unfold o3 at h;split at h
 . refine rl (eq h) rfl
 . exact nB h
theorem Lj(a b:Int):[a,b].foldl (· + ·) 0=a+b:=by simp
set_option maxHeartbeats 8000000 in
theorem Ii k m (hm:m=2\/m=3) c row (hr:gW row) (hl:row.length=m):Φ (k+1) 22 [rD m (.ne2 c),aj row]=aa (.bool (b4 (.ne2 c) row)):=by
 rw [dz k 22 (by decide) (by decide) (fn:=mK) rfl];have F:∀ a b:Int,(1<=a/\a<=4)->(1<=b/\b<=4)->∀ i ∈ [1 * a,(-1) * b],i.natAbs<=2 ^ 40:=fun a b ha hb i hi=>by
  rcases aL.mp hi with rfl|hi
  . omega
  . rcases aL.mp hi with rfl|hi
    . omega
    . exact (a7 hi).elim
 have D:∀ a b:Int,fE .NotEq (.int ([1 * a,(-1) * b].foldl (· + ·) 0)) (.int c)=aa (!decide (a - b=c)):=fun a b=>by
  show aa (!(bf (.int _) (.int c)))=_;refine rl (eE ..) (rl (Lj ..) ?_);have:1 * a + -1 * b=a - b:=Np
  refine rl this rfl
 rcases hm with rfl|rfl
 . refine kX hl fun a b G=>?_;subst G;refine cM (n:=300) rfl (cp (n:=298) (by kernel_rfl) (bK (n:=296) (hY (n:=295) (y:=.int c) ?_ ?_ (D a b))))
   . exact kY (n:=294) (by kernel_rfl) (by simp) (F a b (hr a (by simp)) (hr b (by simp)))
   . kernel_rfl
 . refine mo hl fun a b e G=>?_;subst G;refine cM (n:=300) rfl (cp (n:=298) (by kernel_rfl) (bK (n:=296) (hY (n:=295) (y:=.int c) ?_ ?_ (D a b))))
   . exact kY (n:=294) (by kernel_rfl) (by simp) (F a b (hr a (by simp)) (hr b (by simp)))
   . kernel_rfl
set_option maxHeartbeats 8000000 in
theorem Ij k m (hm:m=2\/m=3) x u (J:(Rl.ne1 x u).ok m) row (hr:gW row) (hl:row.length=m):Φ (k+1) 22 [rD m (.ne1 x u),aj row]=aa (.bool (b4 (.ne1 x u) row)):=by
 rw [dz k 22 (by decide) (by decide) (fn:=mK) rfl];have F:∀ a:Int,(1<=a/\a<=4)->∀ i ∈ [1 * a],i.natAbs<=2 ^ 40:=fun a ha i hi=>by
  clear hl hr J hm k;clear m;rcases aL.mp hi with rfl|hi
  . omega
  . clear row u x;exact (a7 hi).elim
 have D:∀ a:Int,fE .NotEq (.int ([1 * a].foldl (· + ·) 0)) (.int u)=aa (!decide (aa a=aa u)):=fun a=>by
  show aa (!(bf (.int _) (.int u)))=_;refine rl (eE ..) ?_;have:[1 * a].foldl (· + ·) 0=a:=by simp
  refine rl this ?_;by_cases h:a=u<;>simp [h]
 rcases hm with rfl|rfl
 . refine kX hl fun a b G=>?_;subst G;clear hl;rcases J with rfl|rfl|⟨_,h⟩
   . refine cM (n:=300) rfl (cp (n:=298) (by kernel_rfl) (bK (n:=296) (hY (n:=295) (y:=.int u) ?_ ?_ (D a))))
     . exact kY (n:=294) (by kernel_rfl) (ef _) (F a (hr a (.head _)))
     . kernel_rfl
   . refine cM (n:=300) rfl (cp (n:=298) (by kernel_rfl) (bK (n:=296) (hY (n:=295) (y:=.int u) ?_ ?_ (D b))))
     . exact kY (n:=294) (by kernel_rfl) (ef _) (F b (hr b (by exact .tail _ (.head _))))
     . kernel_rfl
   . clear D F;contradiction
 . refine mo hl fun a b e G=>?_;subst G;clear hl;rcases J with rfl|rfl|⟨rfl,_⟩
   . refine cM (n:=300) rfl (cp (n:=298) (by kernel_rfl) (bK (n:=296) (hY (n:=295) (y:=.int u) ?_ ?_ (D a))))
     . exact kY (n:=294) (by kernel_rfl) (ef _) (F a (hr a (.head _)))
     . kernel_rfl
   . refine cM (n:=300) rfl (cp (n:=298) (by kernel_rfl) (bK (n:=296) (hY (n:=295) (y:=.int u) ?_ ?_ (D b))))
     . exact kY (n:=294) (by kernel_rfl) (ef _) (F b (hr b (by exact .tail _ (.head _))))
     . kernel_rfl
   . refine cM (n:=300) rfl (cp (n:=298) (by kernel_rfl) (bK (n:=296) (hY (n:=295) (y:=.int u) ?_ ?_ (D e))))
     . exact kY (n:=294) (by kernel_rfl) (ef _) (F e (hr e (by exact .tail _ (.tail _ (.head _)))))
     . kernel_rfl
theorem JR k m(hm:m=2\/m=3)c row(hl:row.length=m):Φ (k+1) 22 [rD m (.le c),aj row]=aa (.bool (b4 (.le c) row)):=by
 rcases hm with rfl|rfl
 . refine kX hl fun a b D=>?_;subst D;kernel_rfl
 . refine mo hl fun a b e D=>?_;subst D;kernel_rfl
noncomputable def gr(u:Int)(row:List Int):List Int:=row.filter fun v=>decide (v=u)
theorem zy u row:row.flatMap (fun x=>if decide (x=u)=true then [D.int x] else [])=(gr u row).map .int:=by
 induction row with
 |nil=>rfl
 |cons x row ih =>
  refine rl wP (rl ih ?_);unfold gr;refine rl pB ?_;cases decide (x=u)<;>rfl
theorem JS u row:(gr u row).length<=row.length:=jA ..
noncomputable def Bh:List St:=[.ite (.cmp .Gt (.prim .len (.comp1 [2] (.var 6) (.one 6) (.var 1) [.cmp .Eq (.var 6) (.var 2)])) (.var 3)) [.ret (.bool false)] []]
theorem yO{n:Nat}{O:Sg}(h1:ah O 1=aa (.d (aj row)))(F:ah O 2=aa (.d (.int u)))(G:ah O 3=aa (.d (.int a)))(hl:row.length<=3):
 aJ Ψ (n+5) O (.cmp .Gt (.prim .len (.comp1 [2] (.var 6) (.one 6) (.var 1) [.cmp .Eq (.var 6) (.var 2)])) (.var 3))=aa (decide (((gr u row).length:Int) > a)):=by
 have hc:=JS u row
 refine db (n:=n+4) (x:=.int ((gr u row).map D.int).length) (y:=.int a) (og (n:=n+3) ?_ (by refine rl (aZ ..) ?_;exact BF hl hc)) ?_ ?_
 . refine z9 ?_
   refine rl (az (zy ..)) (jh (n:=n+2) (f:=.int) (g:=fun x=>if decide (x=u)=true then [D.int x] else []) ?_ ?_ (fun x J=>?_) ?_)
   . show ((ah O 2).isSome && true)=true;refine rl F rfl
   . show ((ah O 1).map rI).bind dQ=_;refine rl h1 rfl
   . refine mq (I:=ag O 6 (.d (.int x))) rfl (j8 (db (n:=n+1) (x:=.int x) (y:=.int u) ?_ ?_ ?_)) ?_
     . show (ah (ag O 6 (.d (.int x))) 6).bind rW=_;refine rl br (rl (if_pos rfl) rfl)
     . show (ah (ag O 6 (.d (.int x))) 2).map rI=_;refine rl br ?_;refine rl (if_neg (by decide)) (rl F rfl)
     . show aa (bf (.int x) (.int u))=_;refine rl (eE ..) rfl
     . show (ah (ag O 6 (.d (.int x))) 6).bind rW=_;refine rl br (rl (if_pos rfl) rfl)
   . refine rl (zy ..) (rl (aZ ..) (BF hl hc))
 . show (ah O 3).map rI=_;refine rl G rfl
 . refine rl (aZ ..) rfl
theorem GQ k m(hm:m=2\/m=3)u w a b row(hl:row.length=m):Φ (k+1) 22 [rD m (.card u w a b),aj row]=aa (.bool (b4 (.card u w a b) row)):=by
 rw [dz k 22 (by decide) (by decide) (fn:=mK) rfl];have G:row.length<=3:=by rcases hm with rfl|rfl<;>(first|exact BG hl|with_reducible exact c5 ‹_› | omega)
 have N:b4 (.card u w a b) row=(!decide (((gr u row).length:Int) > a) && !decide (((gr w row).length:Int) > b)):=by
  have e:∀ (n:Nat) (a:Int),decide ((n:Int)<=a) = !decide ((n:Int) > a):=fun n a=>by by_cases h:(n:Int)<=a<;>simp [h]<;>exact Int.not_le.mp ‹_›
  show (decide (((gr u row).length:Int)<=a) && decide (((gr w row).length:Int)<=b))=_;refine rl (e ..) (rl (e ..) rfl)
 refine rl N ?_;have go:∀ s:D,s=sc m->mm (Φ k) NF mK [.tup [.str fA,s,.tup [.int u,.int w],.tup [.int 0,.int 0],.tup [.int a,.int b]],aj row]=aa (.bool (!decide (((gr u row).length:Int) > a) && !decide (((gr w row).length:Int) > b))):=fun s P=>by
  refine cM (n:=300) rfl (bM (n:=297) (by kernel_rfl) (bM (n:=296) (by kernel_rfl) (cp (n:=296) (by kernel_rfl) ?_)));generalize L:decide (((gr u row).length:Int) > a)=q1;generalize J:decide (((gr w row).length:Int) > b)=q2;have F:b8 (Φ k) 295 [(0,.d (.tup [.str fA,s,.tup [.int u,.int w],.tup [.int 0,.int 0],.tup [.int a,.int b]])),(1,.d (aj row))] (.loop (.tup [2,3]) (.zip (.sub (.var 0) (.int 2)) (.sub (.var 0) (.int 4))) Bh)=cw (Φ k) 294 [(0,.d (.tup [.str fA,s,.tup [.int u,.int w],.tup [.int 0,.int 0],.tup [.int a,.int b]])),(1,.d (aj row))] (.tup [2,3]) Bh [.tup [.int u,.int a],.tup [.int w,.int b]]:=by
   exact jX (n:=294) (by kernel_rfl)
  have c1:=yO (Ψ:=Φ k) (n:=286) (O:=[(0,.d (.tup [.str fA,s,.tup [.int u,.int w],.tup [.int 0,.int 0],.tup [.int a,.int b]])),(1,.d (aj row)),(2,.d (.int u)),(3,.d (.int a))]) (row:=row) (u:=u) (a:=a) rfl rfl rfl G;have c2:=yO (Ψ:=Φ k) (n:=285) (O:=[(0,.d (.tup [.str fA,s,.tup [.int u,.int w],.tup [.int 0,.int 0],.tup [.int a,.int b]])),(1,.d (aj row)),(2,.d (.int w)),(3,.d (.int b))]) (row:=row) (u:=w) (a:=b) rfl rfl rfl G;rw [L] at c1;rw [J] at c2;rcases q1 with _|_
  . rcases q2 with _|_
    . refine et (n:=295) (F.trans ((gm (n:=293) rfl (ri (n:=290) c1)).trans ((gm (n:=292) rfl (ri (n:=289) c2)).trans vk))) ?_;exact bK (n:=293) (by kernel_rfl)
    . refine oK (n:=295) (qG (congrArg cm (F.trans (gm (n:=293) rfl (ri (n:=290) c1)))) (vj (n:=292) rfl ?_));exact cp (n:=290) c2 (by kernel_rfl)
  . refine oK (n:=295) (qG (congrArg cm F) (vj (n:=293) rfl ?_));exact cp (n:=291) c1 (by kernel_rfl)
 exact go _ rfl
noncomputable def jn:List St:=[.ite (.cmp .In (.var 4) (.cut (.var 0) (aa (.int 1)) (aa (.int 3)))) [.ret (.cmp .Eq (.var 4) (.sub (.var 0) (.int 1)))] []]
theorem yP{Ψ:Nat->List D->Option D}{m:Nat}(hm:m=2\/m=3)(u w:Int)(F:D)(hr:F=rD m (.prec u w)):∀ (l:List Int) (n:Nat) (R:D) (o:Option D),
 (∀ v,o=aa v->True)->∀ (O:Sg),(O = [(0,.d F),(1,.d R)] \/ ∃ v,O = [(0,.d F),(1,.d R),(4,.d v)]) ->
 (match l.find? (fun v=>decide (v=u) || decide (v=w)) with
  |some v=>cm (cw Ψ (n+8+l.length) O (.one 4) jn (l.map .int))=aa (.bool (decide (v=u)))
  |none=>∃ I,(I = [(0,.d F),(1,.d R)] \/ ∃ v,I = [(0,.d F),(1,.d R),(4,.d v)])/\cw Ψ (n+8+l.length) O (.one 4) jn (l.map .int)=aa (I,.next))
 |[],n,R,o,_,O,hs=>⟨O,hs,rfl⟩
 |x::l,n,R,o,ho,O,hs=>by
  have hb:fX O (.one 4) (.int x)=aa [(0,.d F),(1,.d R),(4,.d (.int x))]:=by
   clear n l hr hm;clear w u m;rcases hs with rfl|⟨v,rfl⟩<;>rfl
  have hc:∀ k,aJ Ψ (k+4) [(0,.d F),(1,.d R),(4,.d (.int x))] (.cmp .In (.var 4) (.cut (.var 0) (aa (.int 1)) (aa (.int 3))))=aa (decide (x=u) || decide (x=w)):=fun k=>by
   have:aJ Ψ (k+4) [(0,.d F),(1,.d R),(4,.d (.int x))] (.cmp .In (.var 4) (.cut (.var 0) (aa (.int 1)) (aa (.int 3))))=aa (bf (.int u) (.int x) || (bf (.int w) (.int x) || false)):=by
    clear hs hb n l;clear O;subst hr;rcases hm with rfl|rfl<;>kernel_rfl
   refine rl this (rl (eE ..) (rl (eE ..) (rl (Bool.or_false ..) ?_)));congr 2<;>exact decide_eq_decide.mpr eq_comm
  refine rl w5 ?_;cases hq:(decide (x=u) || decide (x=w)) with
  |true =>
   show cm (cw Ψ (n+8+l.length+1) O (.one 4) jn (D.int x::l.map .int))=_;refine vj hb ?_;have e:n+8+l.length=(n+l.length+6)+2:=cf _ _ _
   refine rl e ?_;refine cp (n:=n+l.length+6) ((hc _).trans (by refine rl hq ?_;rfl)) ?_;refine bK (n:=n+l.length+4) ?_;have:an Ψ (n+l.length+4) [(0,.d F),(1,.d R),(4,.d (.int x))] (.cmp .Eq (.var 4) (.sub (.var 0) (.int 1)))=aa (.bool (bf (.int x) (.int u))):=by
    clear hs e hc hb;clear O;subst hr;rcases hm with rfl|rfl<;>kernel_rfl
   rw [eE] at this;exact this
  |false =>
   have e:cw Ψ (n+8+(x::l).length) O (.one 4) jn ((x::l).map .int)=cw Ψ (n+8+l.length) [(0,.d F),(1,.d R),(4,.d (.int x))] (.one 4) jn (l.map .int):=by
    show cw Ψ (n+8+l.length+1) O (.one 4) jn (D.int x::l.map .int)=_;refine gm hb ?_;have e:n+8+l.length=(n+l.length+5)+3:=cf _ _ _
    refine rl e ?_;exact ri (n:=n+l.length+5) ((hc _).trans (by refine rl hq ?_;rfl))
   refine rl e ((yP (Ψ:=Ψ) hm u w F hr l n R o ho [(0,.d F),(1,.d R),(4,.d (.int x))] (.inr ⟨_,rfl⟩)))
theorem GR k m(hm:m=2\/m=3)u w row(hl:row.length=m):Φ (k+1) 22 [rD m (.prec u w),aj row]=aa (.bool (b4 (.prec u w) row)):=by
 rw [dz k 22 (by decide) (by decide) (fn:=mK) rfl];have F:row.length<=3:=by rcases hm with rfl|rfl<;>(first|exact BG hl|with_reducible exact c5 ‹_› | omega)
 have G:b8 (Φ k) 294 [(0,.d (rD m (.prec u w))),(1,.d (aj row))] (.loop (.one 4) (.var 1) jn)=cw (Φ k) 293 [(0,.d (rD m (.prec u w))),(1,.d (aj row))] (.one 4) jn (row.map .int):=jX (n:=293) rfl;have L:=yP (Ψ:=Φ k) hm u w (rD m (.prec u w)) rfl row (285 - row.length) (aj row) ab (fun Q Q=>trivial) _ (.inl rfl);have e:285 - row.length+8+row.length=293:=Nq F
 rw [e,← G] at L;have C:cm (be (Φ k) 295 [(0,.d (rD m (.prec u w))),(1,.d (aj row))] [.loop (.one 4) (.var 1) jn,.ret (.bool true)])=aa (.bool (b4 (.prec u w) row)):=by
  show _=aa (D.bool (match row.find? (fun v=>decide (v=u) || decide (v=w)) with|some v=>decide (v=u)|none=>true))
  cases N:row.find? (fun v=>decide (v=u) || decide (v=w)) with
  |some v =>
   rw [N] at L;exact oK (n:=294) L
  |none =>
   rw [N] at L;refine ae L fun I J=>ac J fun P h=>?_;clear L J;refine et (n:=294) h (bK (n:=292) ?_);clear h hm e G F;rcases P with rfl|⟨v,rfl⟩<;>rfl
 refine cM (n:=300) rfl ?_;clear e L G F hl;rcases hm with rfl|rfl
 iterate 2 exact bM (n:=297) (by kernel_rfl) (bM (n:=296) (by kernel_rfl) (bM (n:=295) (by kernel_rfl) (cp (n:=295) (by kernel_rfl) C)))
theorem O0 k:(vm.all fun row=>o3 (Φ (k+1) 22 [rD 2 .alld,aj row]) (b4 .alld row))=true:=by kernel_rfl
theorem Pa k:(vn.all fun row=>o3 (Φ (k+1) 22 [rD 3 .alld,aj row]) (b4 .alld row))=true:=by kernel_rfl
theorem jP(h:1<=v/\v<=4):v∈([1,2,3,4]:List Int):=by
 have:v=1\/v=2\/v=3\/v=4:=vS ‹_›
 clear h;rcases this with rfl|rfl|rfl|rfl<;>(first|exact .head _|exact .tail _ (.head _)|exact .tail _ (.tail _ (.head _))|exact .tail _ (.tail _ (.tail _ (.head _))))
theorem um(hm:m=2\/m=3)(hr:gW row)(hl:row.length=m):row∈eO m:=by
 rcases hm with rfl|rfl
 . refine kX hl fun a b D=>?_;subst D;exact sJ.mpr ⟨a,jP (hr a (.head _)),dj.mpr ⟨b,jP (hr b (by exact .tail _ (.head _))),rfl⟩⟩
 . refine mo hl fun a b c D=>?_;subst D;exact sJ.mpr ⟨a,jP (hr a (.head _)),sJ.mpr ⟨b,jP (hr b (by exact .tail _ (.head _))),dj.mpr ⟨c,jP (hr c (by exact .tail _ (.tail _ (.head _)))),rfl⟩⟩⟩
theorem Ce k m(hm:m=2\/m=3)r(hk:r.ok m)row(hr:gW row)(hl:row.length=m):Φ (k+1) 22 [rD m r,aj row]=aa (.bool (b4 r row)):=by
 rcases r with c|⟨u,w,a,b⟩|⟨u,w⟩|⟨x,u⟩|c|_
 . exact Ii k m hm c row hr hl
 . exact GQ k m hm u w a b row hl
 . exact GR k m hm u w row hl
 . exact Ij k m hm x u hk row hr hl
 . exact JR k m hm c row hl
 . have h:=um hm hr hl;clear hl hr hk;rcases hm with rfl|rfl
   . exact uO (bq.mp (O0 k) row h)
   . exact uO (bq.mp (Pa k) row h)
theorem j2 a b:aA a b a=b:=if_pos rfl
theorem j3 a b:aA a b b=a:=by
 unfold aA;by_cases h:b=a
 . refine rl (if_pos h) (rl h rfl)
 . refine rl (if_neg h) (rl (if_pos rfl) rfl)
theorem gO(h1:x≠a)(D:x≠b):aA a b x=x:=(if_neg h1).trans (if_neg D)
theorem nN v y x:aA v y (aA v y x)=x:=by
 by_cases h1:x=v
 . refine rl h1 (rl (j2 ..) (rl (j3 ..) rfl))
 . by_cases D:x=y
   . refine rl D (rl (j3 ..) (rl (j2 ..) rfl))
   . refine rl (gO h1 D) (rl (gO h1 D) rfl)
theorem n5 v y a b:aA v y a=b↔a=aA v y b:=⟨fun h=>by refine rl (az h) ?_;refine rl (nN ..) ?_;rfl,fun h=>by refine rl h ?_;refine rl (nN ..) ?_;rfl⟩
theorem uD(h:aA v y a=aA v y b):a=b:=by refine rl (az (nN v y a)) ?_;refine rl h ?_;refine rl (nN ..) ?_;rfl
theorem l6 v y a:aA v y a=aA y v a:=by
 by_cases h1:a=v
 . refine rl h1 (rl (j2 ..) (rl (j3 ..) rfl))
 . by_cases D:a=y
   . refine rl D (rl (j3 ..) (rl (j2 ..) rfl))
   . refine rl (gO h1 D) (rl (gO D h1) rfl)
theorem ny{a b c:Int}(h1:a≠b)(J:b≠c)(G:a≠c)x:aA a b (aA b c (aA a b x))=aA a c x:=by
 by_cases F:x=a
 . refine rl F (rl (j2 ..) (rl (j2 ..) (rl (j2 ..) (rl (gO G.symm J.symm) rfl))))
 . by_cases D:x=b
   . refine rl D (rl (j3 ..) (rl (gO h1 G) (rl (j2 ..) (rl (gO h1.symm J) rfl))))
   . by_cases e3:x=c
     . refine rl e3 (rl (gO G.symm J.symm) (rl (j3 ..) (rl (j3 ..) (rl (j3 ..) rfl))))
     . refine rl (gO F D) (rl (gO D e3) (rl (gO F D) (rl (gO F e3) rfl)))
theorem yQ r row:b4 (b6 r) row=b4 r row:=by
 rcases r with _|⟨u,w,a,b⟩|_|_|_|_
 . rfl
 . show b4 (if w < u then Rl.card w u b a else Rl.card u w a b) row=_
   by_cases h:w < u
   . refine rl (if_pos h) (Bool.and_comm ..)
   . refine rl (if_neg h) rfl
 iterate 4 rfl
theorem ym v y u(row:List Int):((row.map (aA v y)).filter fun x=>decide (x=u)).length=(row.filter fun x=>decide (x=aA v y u)).length:=by refine rl List.filter_map (rl (aZ ..) ?_);congr 1;refine List.filter_congr fun x D=>decide_eq_decide.mpr (n5 v y x u)
theorem Ik v y u w:∀ (row:List Int),(row.map (aA v y)).find? (fun x=>decide (x=u) || decide (x=w))=(row.find? fun x=>decide (x=aA v y u) || decide (x=aA v y w)).map (aA v y):=by
 intro F;induction F with
 |nil =>
  exact rfl
 |cons x row D =>
  refine rl b7 (rl w5 (rl w5 ?_));have e:(decide (aA v y x=u) || decide (aA v y x=w))=(decide (x=aA v y u) || decide (x=aA v y w)):=by
   rw [decide_eq_decide.mpr (n5 v y x u),decide_eq_decide.mpr (n5 v y x w)]
  refine rl e ?_;cases (decide (x=aA v y u) || decide (x=aA v y w)) with
  |true=>rfl
  |false=>exact D
theorem GS v y(row:List Int):(row.map (aA v y)).Nodup↔row.Nodup:=by
 unfold List.Nodup;refine rp (wL ..) ?_;constructor
 . exact fun h=>h.imp fun h e=>h (by refine rl e ?_;rfl)
 . exact fun h=>h.imp fun h e=>h (uD e)
theorem GT v y r(D:r.good=true)row(hl:2<=row.length):b4 (cT v y r) row=b4 r (row.map (aA v y)):=by
 rcases r with c|⟨u,w,a,b⟩|⟨u,w⟩|⟨x,u⟩|c|_
 . have:c=0:=of_decide_eq_true D;subst this;match row,hl with
   |a::b::l,_ =>
    show (!decide (a - b=0))=(!decide (aA v y a - aA v y b=0));congr 1;refine decide_eq_decide.mpr ⟨fun h=>?_,fun h=>?_⟩
    . have:a=b:=BH h
      refine rl this Nr
    . have:aA v y a=aA v y b:=BH h
      have:=uD this;exact Nt this
 . unfold b4 cT;simp only;refine rl (ym ..) (rl (ym ..) rfl)
 . show (match row.find? (fun x=>decide (x=aA v y u) || decide (x=aA v y w)) with|some x=>decide (x=aA v y u)|none=>true)=(match (row.map (aA v y)).find? (fun x=>decide (x=u) || decide (x=w)) with|some x=>decide (x=u)|none=>true)
   refine rl (Ik ..) ?_;cases row.find? (fun x=>decide (x=aA v y u) || decide (x=aA v y w)) with
   |none=>rfl
   |some x=>exact decide_eq_decide.mpr (n5 v y x u).symm
 . show (!decide (row[x.toNat]? = aa (aA v y u)))=(!decide ((row.map (aA v y))[x.toNat]? = aa u));refine rl cy ?_;congr 1;cases row[x.toNat]? with
   |none=>rfl
   |some z =>
    simp only [lG,mY];exact decide_eq_decide.mpr (n5 v y z u).symm
 . exact nB D
 . exact decide_eq_decide.mpr (GS v y row).symm
noncomputable def dD(v y:Int)(r:Rl):Rl:=b6 (cT v y r)
theorem qU v y(D:v≠y)r(hr:r.ok2 m):dD v y (b6 r)=dD v y r:=by
 rcases r with _|⟨u,w,a,b⟩|_|_|_|_
 . rfl
 . have h:u≠w:=hr;show b6 (cT v y (if w < u then .card w u b a else .card u w a b))=_
   split
   . show (if aA v y u < aA v y w then Rl.card _ _ _ _ else Rl.card _ _ _ _)=(if aA v y w < aA v y u then Rl.card _ _ _ _ else Rl.card _ _ _ _)
     by_cases h1:aA v y u < aA v y w
     . refine rl (if_pos h1) ?_;refine rl (if_neg (Nu h1)) rfl
     . refine rl (if_neg h1) ?_;refine rl (if_pos (by exact Nv (fun e=>h (uD e)) h1)) ?_;rfl
   . rfl
 iterate 4 rfl
theorem JT(h:r.ok2 m):(b6 r).ok2 m:=by
 rcases r with _|⟨u,w,a,b⟩|_|_|_|_
 . exact h
 . have h:u≠w:=h;show Rl.ok2 m (if w < u then Rl.card w u b a else Rl.card u w a b)
   by_cases D:w < u
   . refine rl (if_pos D) (fun e=>h (az e))
   . refine rl (if_neg D) h
 iterate 4 exact h
theorem GU{a b c:Int}(h1:a≠b)(F:b≠c)(D:a≠c)r:cT a b (cT b c (cT a b r))=cT a c r:=by obtain ⟨⟩:=r<;>first|rfl|(show Rl.card _ _ _ _=Rl.card _ _ _ _;rw [ny h1 F D,ny h1 F D])|(show Rl.prec _ _=Rl.prec _ _;rw [ny h1 F D,ny h1 F D])|(show Rl.ne1 _ _=Rl.ne1 _ _;rw [ny h1 F D])
theorem Il a b r:cT a b r=cT b a r:=by obtain ⟨⟩:=r<;>first|rfl|(show Rl.card _ _ _ _=Rl.card _ _ _ _;rw [l6 a b,l6 a b])|(show Rl.prec _ _=Rl.prec _ _;rw [l6 a b,l6 a b])|(show Rl.ne1 _ _=Rl.ne1 _ _;rw [l6 a b])
theorem GV{a b c:Int}(h1:a≠b)(D:b≠c)(G:a≠c)r(hr:r.ok2 m):dD a b (dD b c (dD a b r))=dD a c r:=by have F:=uC hr a b h1;have:dD b c (dD a b r)=dD b c (cT a b r):=qU b c D _ F;refine rl this ?_;have:dD a b (dD b c (cT a b r))=dD a b (cT b c (cT a b r)):=qU a b h1 _ (uC F b c D);refine rl this ?_;unfold dD;rw [GU h1 D G]
theorem qV{m:Nat}{l:List Rl}(hl:∀ r∈l,r.ok2 m)(B:l.length<=3){v y:Int}(A:v≠y):fh l v y=true↔l.all Rl.good=true/\(l.map b6).Perm ((l.map b6).map (dD v y)):=by
 refine rl (bX ..) ?_;refine rl (@decide_eq_true_eq _ (@instDecidableEqList _ zSE _ _)) ?_;refine rp (FB QN (by refine rl (aZ ..) ?_;exact B) (by refine rl (aZ ..) ?_;refine rl (aZ ..) ?_;exact B) ..) ?_;have:(l.map (cT v y)).map b6=(l.map b6).map (dD v y):=by
  refine rl cU ?_;refine rl cU ?_;exact gt fun r hr=>(qU v y A r (hl r hr)).symm
 refine rl this ?_;rfl
theorem yR{α:Type}{R:List α}{f g:α->α}(F:R.Perm (R.map f))(D:R.Perm (R.map g)):R.Perm (R.map fun x=>g (f x)):=by
 refine D.trans ?_
 have:=F.map g;rw [cU] at this;exact this
theorem zz l a b:fh l a b=fh l b a:=by unfold fh;have:l.map (cT a b)=l.map (cT b a):=gt fun r D=>Il a b r;refine rl this rfl
theorem GX(hl:∀ r∈l,r.ok2 m)(F:l.length<=3){a b c:Int}(h1:a≠b)(L:b≠c)(J:a≠c)(D:fh l a b=true)(G:fh l b c=true):fh l a c=true:=by
 rw [qV hl F h1] at D;rw [qV hl F L] at G;refine rp (qV hl F J ..) (⟨D.1,?_⟩);have:(l.map b6).map (fun x=>dD a b (dD b c (dD a b x)))=(l.map b6).map (dD a c):=by
  refine gt fun x N=>bB N fun r hr P=>?_;subst P;exact GV h1 L J _ (JT (hl r hr))
 refine rl (az this) ((yR (yR D.2 G.2) D.2))
noncomputable def fV(l:List Rl)(row:List Int):Bool:=l.all fun r=>b4 r row
theorem yn(hl:∀ r∈l,r.ok2 m)(N:l.length<=3)(G:v≠y)(h:fh l v y=true)row(hr:2<=row.length):fV l (row.map (aA v y))=fV l row:=by
 rw [qV hl N G] at h;refine ac h fun S P=>?_;clear h;have T:∀ {a b:List Rl},a.Perm b->a.all (fun r=>b4 r row)=b.all (fun r=>b4 r row):=fun p=>by
  refine rp (sS ..) (rp (bq ..) (rp (bq ..) ⟨fun h x J=>h x (p.mem_iff.mpr J),fun h x J=>h x (p.mem_iff.mp J)⟩))
 have L:=T P;rw [cU,List.all_map,List.all_map] at L;unfold fV;have Q:(l.all fun r=>b4 r row)=l.all ((fun r=>b4 r row) ∘ b6):=by
  congr 1;funext r;exact (yQ r row).symm
 refine rl Q (rl L (rp (sS ..) (rp (bq ..) (rp (bq ..) ?_))));have F:∀ r∈l,b4 (dD v y (b6 r)) row=b4 r (row.map (aA v y)):=fun r D=>by
  refine rl (qU v y G r (hl r D)) ?_;unfold dD;refine rl (yQ ..) (GT v y r (bq.mp S r D) row hr)
 constructor
 . intro h r D;show b4 (dD v y (b6 r)) row=true;refine rl (F r D) (h r D)
 . intro h r D;refine rl (az (F r D)) (h r D)
section
variable {Ψ:Nat->List D->Option D} {n i j:Nat} {v x y:V} {d:D} {l:List D} {k:D}
theorem a9(h:ah O j=aa x)(D:j≠i):ah (ag O i v) j=aa x:=by refine rl br ?_;refine rl (if_neg D) ?_;refine rl h ?_;rfl
theorem bZ:ah (ag O i v) i=aa v:=by refine rl br ?_;refine rl (if_pos rfl) ?_;rfl
theorem bG(h:ah O i=aa (.d d)):an Ψ (n+1) O (.var i)=aa d:=bI h
theorem dy(h:ah O i=aa (.d d)):bS f O (.var i)=aa d:=mI h
theorem hI(h:ah O i=aa (.o d)):bS f O (.var i)=aa d:=mI h
theorem iI{x y r:D}(ha:bS (an Ψ n O) O a=aa x)(hb:an Ψ n O b=aa y)(h:ox x y=aa r):an Ψ (n+1) O (.sub a b)=aa r:=(bI ha).trans ((bI hb).trans h)
theorem t_e(h:an Ψ n O (.call f es)=aa (.bool q)):aJ Ψ (n+1) O (.call f es)=aa q:=by show (an Ψ n O (.call f es)).bind iH=_;refine rl h rfl
theorem vo(h:ah O i=aa (.d (.bool q))):aJ Ψ (n+2) O (.var i)=aa q:=by show (an Ψ (n+1) O (.var i)).bind iH=_;refine rl (bG h) rfl
end
noncomputable def dh(l:List Int)(v:Int):Bool:=l.any fun y=>decide (y=v)
theorem GY l v:h9 (l.map .int) (.int v)=dh l v:=by delta h9 dh;refine rl List.any_map ?_;congr 1
theorem qD n(l:List Int):dC n (l.map .int)=true:=nE.mpr fun d hd=>by refine bB hd fun a _ D=>?_;subst D;obtain ⟨⟩:=n<;>rfl
theorem yS n(l:List Bool):dC n (l.map .bool)=true:=nE.mpr fun d hd=>by refine bB hd fun a _ D=>?_;subst D;obtain ⟨⟩:=n<;>rfl
theorem Aa l v:fg (.int v) (.list (l.map .int))=aa (dh l v):=by
 show (if pl 8 (D.int v) && dC 8 (l.map .int) then aa (h9 (l.map .int) (.int v)) else ab)=_
 refine rl (qD ..) (rl (GY ..) rfl)
theorem zA(a b:List Bool):fE .Eq (.list (a.map .bool)) (.list (b.map .bool))=aa (decide (a=b)):=by
 show (if dC 8 (a.map .bool) && dC 8 (b.map .bool) then aa (bf (.list (a.map .bool)) (.list (b.map .bool))) else ab)=_
 refine rl (yS ..) (rl (yS ..) (rl (kB ..) ?_));rewrite [kC _ Hh];rfl
noncomputable def bQ(d:Nat):List Int:=[1,2,3,4].filter fun v=>v != (d:Int)
noncomputable def QO(d:Nat):List (Int×Int):=if d=0 then [(1,4)] else [((1:Int),(d:Int) - 1),((d:Int)+1,4)].filter fun p=>decide (p.1<=p.2)
noncomputable def rP(d:Nat):D:=.tup ((QO d).map fun p=>.tup [.int p.1,.int p.2])
noncomputable def lD(l:List Int):D:=.list (l.map .int)
noncomputable def gn(ks:List Nat):D:=.list (ks.map fun d=>lD (bQ d))
noncomputable def hZ(ks:List Nat):D:=.list (ks.map rP)
theorem JU k:([0,1,2,3,4].all fun d=>[1,2,3,4].all fun v=>o3 (Φ (k+1) 14 [rP d,.int v]) (dh (bQ d) v))=true:=by kernel_rfl
theorem QP k d(hd:d<=4)v(hv:1<=v/\v<=4):Φ (k+1) 14 [rP d,.int v]=aa (.bool (dh (bQ d) v)) :=
 uO (bq.mp (bq.mp (JU k) d (by
  rcases (oB5 ‹_› : d=0\/d=1\/d=2\/d=3\/d=4) with rfl|rfl|rfl|rfl|rfl<;>(first|exact .head _|exact .tail _ (.head _)|exact .tail _ (.tail _ (.head _))|exact .tail _ (.tail _ (.tail _ (.head _)))|exact .tail _ (.tail _ (.tail _ (.tail _ (.head _))))))) v (jP hv))
noncomputable def de(t:List (Int×Int))(v:Int):Int:=(fI t v).getD v
theorem Cf k row t(hl:row.length<=3):Φ (k+1) 23 [aj row,.idict t]=aa (aj (row.map (de t))):=by
 rw [dz k 23 (by decide) (by decide) (fn:=Q23) rfl];refine cM (n:=300) rfl (bK (n:=298) ?_);have e:(row.map (de t)).map D.int=row.map fun v=>D.int (de t v):=by refine rl cU ?_;rfl
 show _=aa (D.tup ((row.map (de t)).map .int));refine rl e ?_;refine zw (n:=297) (ji (n:=296) (f:=.int) (g:=fun v=>.int (de t v)) ?_ ?_ (fun v hv=>?_) (by exact aH ‹_› (by decide))) (by refine rl (aZ ..) ?_;exact aH ‹_› (by decide))
 iterate 2 rfl
 . refine gK rfl rfl ?_;show aa ((fI t v).elim (D.int v) D.int)=aa (D.int ((fI t v).getD v));cases fI t v<;>rfl
theorem JV(h:v≠a):de [(v,a),(a,v)]=aA v a:=by
 funext x;unfold de fI aA;by_cases h1:v=x
 . subst h1;simp
 . by_cases D:a=x
   . subst D;simp [h1,dp h1]
   . simp [h1,D,dp h1,dp D]
theorem Im(h:v≠a):fy (.idict []) [.int v,.int a] [.int a,.int v]=aa (.idict [(v,a),(a,v)]):=by
 have e:[(v,a)].any (fun p=>decide (p.1=a))=false:=by show (decide (v=a) || false)=false;rw [decide_eq_false h];rfl
 show aa (D.idict (if [(v,a)].any (fun p=>decide (p.1=a))=true then _ else [(v,a)] ++ [(a,v)]))=_
 rw [if_neg (by rw [e];exact fN)];rfl
noncomputable def bT(ks:List Nat)(v:Int):List Bool:=ks.map fun d=>dh (bQ d) v
noncomputable def dC1:Ex:=.cmp .Eq (.comp1 [6] (.cmp .In (.var 6) (.var 12)) (.one 12) (.var 3) []) (.comp1 [9] (.cmp .In (.sub (.var 9) (.int 0)) (.var 12)) (.one 12) (.var 3) [])
noncomputable def dEC:Ex:=.call 13 [.var 0,.var 1,.sub (.var 9) (.int 0),.var 6]
noncomputable def dCA:Ex:=.and [.var 10,.cmp .NotEq (.comp1 [9,4,6] (.var 12) (.one 12) (.var 4) [.cmp .NotIn (.call 23 [.var 12,.dict [.var 6,.sub (.var 9) (.int 0)] [.sub (.var 9) (.int 0),.var 6]]) (.var 4)]) (.list [])]
noncomputable def dC4:Ex:=.cmp .NotEq (.comp1 [6] (.var 12) (.one 12) (.var 3) [.cmp .In (.var 6) (.var 12)]) (.list [])
section
variable {Ψ:Nat->List D->Option D} {n:Nat} {ks:List Nat} {a v:Int} {l:List Int}
theorem Ab{w:Int}(F:ah O 3=aa (.d (gn ks)))(hks:ks.length<=3)(hc:cap.all (fun i=>(ah O i).isSome)=true)
 (D:∀ y,an Ψ (n+1) (ag O 12 y) e=aa (.int w)):an Ψ (n+3) O (.comp1 cap (.cmp .In e (.var 12)) (.one 12) (.var 3) [])=aa (.list ((bT ks w).map .bool)):=by
 refine rl cU ?_
 refine ji (n:=n+2) (f:=fun d=>lD (bQ d)) (g:=fun d=>.bool (dh (bQ d) w)) hc ?_ (fun d hd=>?_) (by exact aH ‹_› (by decide))
 . show (bS (an Ψ (n+2) O) O (.var 3)).bind dQ=_
   refine rl (dy F) rfl
 . exact gK (I:=ag O 12 (.d (lD (bQ d)))) rfl rfl (hY (n:=n+1) (D _) (dy bZ) (Aa _ _))
theorem Pb(G:ah O 3=aa (.d (gn ks)))(D:ah O 6=aa (.d (.int v)))(F:ah O 9=aa (.o (lD (a::l))))(hks:ks.length<=3):aJ Ψ (n+5) O dC1=aa (decide (bT ks v=bT ks a)):=by
 refine db (n:=n+4) (Ab (n:=n+1) G hks ?_ fun y=>bG (a9 D (by decide))) (z9 (Ab (n:=n+1) G hks ?_ fun y=>iI (hI (a9 F (by decide))) rfl rfl)) (zA _ _)
 . show ((ah O 6).isSome && true)=true;refine rl D rfl
 . show ((ah O 9).isSome && true)=true;refine rl F rfl
theorem Pc{R S:D}(G:ah O 0=aa (.d R))(h1:ah O 1=aa (.d S))(F:ah O 6=aa (.d (.int v)))(J:ah O 9=aa (.o (lD (a::l))))(h:Ψ 13 [R,S,.int a,.int v]=aa (.bool q)):an Ψ (n+4) O dEC=aa (.bool q) :=
 bz (n:=n+3) (bk (bG G) (bk (bG h1) (bk (iI (hI J) rfl rfl) (bk (bG F) ey)))) h
theorem uo{α D:Type}(l:List α):l.flatMap (fun F=>([]:List D)) = []:=by induction l<;>simp_all
theorem Pd{W:D}{rows:List (List Int)}(h4:ah O 4=aa (.d W))(L:ah O 6=aa (.d (.int v)))(S:ah O 9=aa (.o (lD (a::l))))(J:ah O 10=aa (.d (.bool q)))(G:v≠a)
 (hW:dQ W=aa (rows.map aj)) (hr:∀ row∈rows,row.length<=3) (h23:∀ (row:List Int) t,row.length<=3->Ψ 23 [aj row,.idict t]=aa (aj (row.map (de t))))
 (hq:q=true->∀ row∈rows,fg (aj (row.map (aA v a))) W=aa true):aJ Ψ (n+8) O dCA=aa false:=by
 show eQ (aJ Ψ (n+7) O) [.var 10,_]=aa false
 rcases q with _|_
 . exact bI (vo (Ψ:=Ψ) (n:=n+5) J)
 . show (aJ Ψ (n+7) O (.var 10)).bind (fun q=>cond q (eQ (aJ Ψ (n+7) O) [_]) (aa false))=aa false;refine rl (vo (Ψ:=Ψ) (n:=n+5) J) ?_
   refine j8 (db (n:=n+6) (x:=.list []) (y:=.list []) ?_ rfl rfl);have e:([]:List D)=rows.flatMap fun P=>[]:=(uo rows).symm;have:an Ψ (n+6) O (.comp1 [9,4,6] (.var 12) (.one 12) (.var 4) [.cmp .NotIn (.call 23 [.var 12,.dict [.var 6,.sub (.var 9) (.int 0)] [.sub (.var 9) (.int 0),.var 6]]) (.var 4)])=aa (.list (rows.flatMap fun P=>([]:List D))):=by
    refine jh (n:=n+5) (f:=aj) (g:=fun P=>[]) ?_ ?_ (fun row F=>?_) (by refine rl (uo ..) ?_;simp)
    . show ((ah O 9).isSome && ((ah O 4).isSome && ((ah O 6).isSome && true)))=true;refine rl S (rl h4 (rl L rfl))
    . show (bS (an Ψ (n+5) O) O (.var 4)).bind dQ=_;refine rl (dy h4) hW
    . have Q:∀ {y},ah (ag O 12 y) 6=aa (.d (.int v)):=a9 L (by decide);have N:∀ m y,an Ψ (m+2) (ag O 12 y) (.sub (.var 9) (.int 0))=aa (.int a):=fun m y=>iI (hI (a9 S (by decide))) rfl rfl;have hd:an Ψ (n+3) (ag O 12 (.d (aj row))) (.dict [.var 6,.sub (.var 9) (.int 0)] [.sub (.var 9) (.int 0),.var 6])=aa (.idict [(v,a),(a,v)]):=by
       show (if 2<=15 then (a8 (an Ψ (n+2) _) [.var 6,.sub (.var 9) (.int 0)]).bind (fun a=>(a8 (an Ψ (n+2) _) [.sub (.var 9) (.int 0),.var 6]).bind fun b=>fy (.idict []) a b) else ab)=_
       refine rl (if_pos (by decide)) (rl (bk (bG Q) (bk (N n _) ey)) (rl (bk (N n _) (bk (bG Q) ey)) (Im G)))
      refine Bf (I:=ag O 12 (.d (aj row))) rfl (j8 (db (n:=n+4) (x:=aj (row.map (aA v a))) (y:=W) (bz (n:=n+3) (bk (bG bZ) (bk hd ey)) ?_) (dy (a9 h4 (by decide))) ?_))
      . refine rl (h23 row _ (hr row F)) (rl (JV G) rfl)
      . show (fg (aj (row.map (aA v a))) W).map (!·)=_;refine rl (hq rfl row F) rfl
   refine rl this (rl (uo ..) rfl)
theorem g6{α D:Type}p(f:α->D)(l:List α):l.flatMap (fun x=>if p x=true then [f x] else [])=(l.filter p).map f:=by
 induction l with
 |nil=>rfl
 |cons a l ih =>
  refine rl wP (rl ih (rl pB ?_));cases p a<;>rfl
theorem Pe n l:pl (n+1) (lD l)=true:=qD n l
theorem Pg(J:ah O 3=aa (.d (gn ks)))(G:ah O 6=aa (.d (.int v)))(hks:ks.length<=3)(hv:ks.any (fun d=>dh (bQ d) v)=true):aJ Ψ (n+6) O dC4=aa true:=by
 refine db (n:=n+5) (x:=.list ((ks.filter fun d=>dh (bQ d) v).map fun d=>lD (bQ d))) (y:=.list []) ?_ rfl ?_
 . refine rl (az (g6 ..)) ?_;have F:((ks.flatMap fun d=>if dh (bQ d) v=true then [lD (bQ d)] else []).length)<=100000:=by
    refine rl (g6 ..) (rl (aZ ..) ?_);exact aH (jA ..) (by exact aH ‹_› (by decide))
   refine jh (n:=n+4) (f:=fun d=>lD (bQ d)) (g:=fun d=>if dh (bQ d) v=true then [lD (bQ d)] else []) ?_ ?_ (fun d hd=>?_) F
   . show ((ah O 6).isSome && true)=true;refine rl G rfl
   . show (bS (an Ψ (n+4) O) O (.var 3)).bind dQ=_;refine rl (dy J) rfl
   . exact mq (I:=ag O 12 (.d (lD (bQ d)))) rfl (j8 (db (n:=n+3) (bG (a9 G (by decide))) (dy bZ) (Aa _ _))) (bG bZ)
 . show (if dC 8 ((ks.filter fun d=>dh (bQ d) v).map fun d=>lD (bQ d)) && dC 8 [] then aa (!bf (.list _) (.list [])) else ab)=_
   refine rl (nE.mpr (fun d hd=>by refine bB hd fun x _ D=>?_;subst D;exact Pe 7 _)) ?_;refine rl (kB ..) (ae (wW.mp hv) fun d D=>ac D fun hd hi=>?_);clear D;have hm:d∈ks.filter fun d=>dh (bQ d) v:=b3.mpr ⟨hd,hi⟩;generalize ks.filter (fun d=>dh (bQ d) v)=fs at hm;rcases fs with _|⟨x,xs⟩
   . exact (a7 hm).elim
   . refine rl b7 (rl (IR ..) rfl)
end
theorem JW{Φ:Nat->List D->Option D}{n:Nat}{O:Sg}:cW Φ n P O hm j (l::ls)=((aJ Φ n (ag O P.it (.o (.list l))) P.c1).bind fun q=>if q=true then (an Φ n (ag O P.it (.o (.list l))) P.ec).bind fun d=>(aJ Φ n (ag (ag O P.it (.o (.list l))) P.ii (.d d)) P.ca).bind fun a=>if a=true then ab else (aJ Φ n (ag (ag O P.it (.o (.list l))) P.ii (.d d)) P.ci).bind fun b=>cW Φ n P (eM (ag (ag O P.it (.o (.list l))) P.ii (.d d)) P.it) (if b=true then aa j else hm) (j+1) ls else cW Φ n P O hm (j+1) ls):=rfl
noncomputable def ee(p:Int->Int->Bool)(v:Int):Option Nat->Nat->List (List Int)->Option Nat
 |hm,_,[]=>hm
 |hm,j,l::ls=>ee p v (if p (l.headD 0) v=true then aa j else hm) (j+1) ls
noncomputable def dP(ls:List (List Int))(v:Int):Option Nat->List (List Int)
 |some j=>ls.set j (ls.getD j [] ++ [v])
 |none=>ls ++ [[v]]
noncomputable def fc(p:Int->Int->Bool):List (List Int)->List Int->List (List Int)
 |ls,[]=>ls
 |ls,v::vs=>fc p (dP ls v (ee p v ab 0 ls)) vs
def d8(v:Int)(c:Nat)(ls:List (List Int)):Prop:=ls.length<=c /\ ∀ l∈ls,l.length<=c /\ ∃ a t,l=a::t/\1<=a/\a < v
theorem AE{i:Nat}:∀ {ls:List (List Int)} {hm:Option Nat} {j:Nat},ee p v hm j ls=aa i->hm=aa i\/(j<=i/\i < j+ls.length):=by
 intro F;induction F with
 |nil =>
  intro hm j h;exact .inl h
 |cons l ls D =>
  intro hm j h;rcases D h with h|h
  . split at h
    . replace h:=sI h;subst h;exact .inr ⟨cH _,by exact rE⟩
    . exact .inl h
  . exact .inr ⟨by exact Nw h,by refine rl el ?_;exact Nx h⟩
theorem qW{c:Nat}(h:d8 v c ls)(hv:1<=v)o(P:∀ j,o=aa j->j < ls.length):d8 (v+1) (c+1) (dP ls v o):=by
 rcases o with _|j
 . refine ⟨by rewrite [dP];refine rl gX ?_;have:=h.1;simp;assumption,fun l hl=>?_⟩;rcases bC.mp hl with hl|hl
   . refine ac (h.2 l hl) fun h1 D=>aM D fun a t J=>aE J fun F G L=>?_;clear D J;subst F;exact ⟨by (first|assumption|exact mV ‹_›),a,t,rfl,G,by first|exact vG L|omega⟩
   . rcases aV.mp hl with rfl;exact ⟨by exact ef _,v,[],rfl,hv,by exact Ny⟩
 . have N:=P j rfl;refine ⟨by rewrite [dP];refine rl List.length_set ?_;have:=h.1;exact mV ‹_›,fun l hl=>?_⟩;rcases List.mem_or_eq_of_mem_set hl with hl|rfl
   . refine ac (h.2 l hl) fun h1 D=>aM D fun a t J=>aE J fun F G L=>?_;clear D J;subst F;exact ⟨by (first|assumption|exact mV ‹_›),a,t,rfl,G,by first|exact vG L|omega⟩
   . have hm:ls.getD j []∈ls:=by refine rl f7 ?_;refine rl (dt N) ?_;exact sK N
     refine ac (h.2 _ hm) fun h1 F=>aM F fun a t D=>aE D fun e G L=>?_;clear F D;rw [e] at h1 ⊢;exact ⟨by simp at h1 ⊢;assumption,a,t ++ [v],rfl,G,by first|exact vG L|omega⟩
noncomputable abbrev dI(l:List Int):List D:=l.map .int
structure DG (O:Sg) (R S W:D) (ks:List Nat):Prop where
 g0:ah O 0=aa (.d R)
 g1:ah O 1=aa (.d S)
 g3:ah O 3=aa (.d (gn ks))
 g4:ah O 4=aa (.d W)
theorem DG.set{O:Sg}{R S W:D}(h:DG O R S W ks){i:Nat}(hi:i≠0/\i≠1/\i≠3/\i≠4):DG (ag O i x) R S W ks :=
 ⟨a9 h.g0 (dp hi.1),a9 h.g1 (dp hi.2.1),a9 h.g3 (dp hi.2.2.1),a9 h.g4 (dp hi.2.2.2)⟩
theorem oh{O:Sg}{i j:Nat}(h:ah O j=aa x)(D:j≠i):ah (eM O i) j=aa x:=by refine rl kx ?_;refine rl (if_neg D) ?_;refine rl h ?_;rfl
theorem DG.drop{O:Sg}{R S W:D}(h:DG O R S W ks){i:Nat}(hi:i≠0/\i≠1/\i≠3/\i≠4):DG (eM O i) R S W ks :=
 ⟨oh h.g0 (dp hi.1),oh h.g1 (dp hi.2.1),oh h.g3 (dp hi.2.2.1),oh h.g4 (dp hi.2.2.2)⟩
noncomputable def PD:DT:={ ii:=10,it:=9,iv:=6,c1:=dC1,ec:=dEC,ca:=dCA,ci:=.var 10,c4:=dC4 }
section
variable {Ψ:Nat->List D->Option D} {n:Nat} {R S W:D} {ks:List Nat} {e:Int->Int->Bool} {rows:List (List Int)}
structure DQ (Ψ:Nat->List D->Option D) (R S W:D) (ks:List Nat) (e:Int->Int->Bool) (rows:List (List Int)):Prop where
 hks:ks.length<=3
 any:∀ v:Int,1<=v->v<=4->ks.any (fun d=>dh (bQ d) v)=true
 h13:∀ a v:Int,1<=a->a < v->v<=4->Ψ 13 [R,S,.int a,.int v]=aa (.bool (e a v))
 hW:dQ W=aa (rows.map aj)
 hr:∀ row∈rows,row.length<=3
 h23:∀ (row:List Int) t,row.length<=3->Ψ 23 [aj row,.idict t]=aa (aj (row.map (de t)))
 hq:∀ a v:Int,1<=a->a < v->v<=4->bT ks v=bT ks a->e a v=true->∀ row∈rows,fg (aj (row.map (aA v a))) W=aa true
noncomputable def pE(ks:List Nat)(e:Int->Int->Bool)(a v:Int):Bool:=decide (bT ks v=bT ks a) && e a v
theorem JX(Q:DQ Ψ R S W ks e rows)(hv:v<=4):∀ ls hm j O,DG O R S W ks->ah O 6=aa (.d (.int v))->(∀ l∈ls,∃ a t,l=a::t/\1<=a/\a < v) ->
 ∃ I,DG I R S W ks/\ah I 6=aa (.d (.int v))/\cW Ψ (n+8) PD O hm j (ls.map dI)=aa (I,ee (pE ks e) v hm j ls):=by
 intro i
 induction i with
 |nil =>
  intro hm j O g P _;exact ⟨O,g,P,rfl⟩
 |cons l ls J =>
  intro hm j O g P hl;refine aM (hl l aY) fun a t f=>aE f fun D ha F=>?_;clear f;subst D;have L:∀ l∈ls,∃ a t,l=a::t/\1<=a/\a < v:=fun l h=>hl l (aN _ h);have N:DG (ag O 9 (.o (lD (a::t)))) R S W ks:=g.set (by decide);have T:ah (ag O 9 (.o (lD (a::t)))) 6=aa (.d (.int v)):=a9 P (by decide);have b:ah (ag O 9 (.o (lD (a::t)))) 9=aa (.o (lD (a::t))):=bZ;have c:=Pb (Ψ:=Ψ) (n:=n+3) N.g3 T b Q.hks;refine rl b7 (rl JW (rl c ?_));by_cases hb:bT ks v=bT ks a
  . refine rl (decide_eq_true hb) (rl (Pc (n:=n+4) N.g0 N.g1 T b (Q.h13 a v ha F hv)) ?_);simp only [eG];have G:ah (ag (ag O 9 (.o (lD (a::t)))) 10 (.d (.bool (e a v)))) 10=aa (.d (.bool (e a v))):=bZ;have g10:DG (ag (ag O 9 (.o (lD (a::t)))) 10 (.d (.bool (e a v)))) R S W ks:=N.set (by decide);have ca:aJ Ψ (n+8) (ag (ag O PD.it (.o (.list (dI (a::t))))) PD.ii (.d (.bool (e a v)))) PD.ca=aa false :=
     Pd (n:=n) g10.g4 (a9 T (by decide)) (a9 b (by decide)) G (BI F) Q.hW Q.hr Q.h23 (Q.hq a v ha F hv hb)
    refine rl ca (rl (vo (n:=n+6) G) ?_);refine ae (J (if e a v=true then aa j else hm) (j+1) (eM (ag (ag O 9 (.o (lD (a::t)))) 10 (.d (.bool (e a v)))) 9) (g10.drop (by decide)) (oh (a9 T (by decide)) (by decide)) L) fun I D=>aE D fun h1 V X=>?_;clear D
    refine ⟨I,h1,V,X.trans ?_⟩;show _=aa (I,ee (pE ks e) v (if pE ks e a v=true then aa j else hm) (j+1) ls)
    unfold pE;refine rl (decide_eq_true hb) (rl (Bool.true_and ..) ?_);with_reducible rfl
  . refine rl (decide_eq_false hb) (ae (J hm (j+1) O g P L) fun I D=>aE D fun h1 V X=>?_);clear D;refine ⟨I,h1,V,X.trans ?_⟩;show _=aa (I,ee (pE ks e) v (if pE ks e a v=true then aa j else hm) (j+1) ls)
    have:pE ks e a v=false:=by unfold pE;refine rl (decide_eq_false hb) ?_;rfl
    refine rl this rfl
theorem Io(Q:DQ Ψ R S W ks e rows)(hv:v<=4)ls hm j O(J:DG O R S W ks)(L:ah O 6=aa (.d (.int v)))(N:(∀ l∈ls,∃ a t,l=a::t/\1<=a/\a < v)){G:Prop}(k:∀ I,DG I R S W ks->ah I 6=aa (.d (.int v))->cW Ψ (n+8) PD O hm j (ls.map dI)=aa (I,ee (pE ks e) v hm j ls)->G):G:=ae (JX Q hv ls hm j O J L N) fun F D=>aE D fun z1 z2 P=>k F z1 z2 P
theorem GZ(Q:DQ Ψ R S W ks e rows)(hv:1<=v)(J:v<=4){c:Nat}(hc:c<=10)(F:d8 v c ls){O:Sg}(g:DG O R S W ks):
 ∃ I,DG I R S W ks/\me Ψ (n+8) PD O (ls.map dI) (.int v)=aa (I,(dP ls v (ee (pE ks e) v ab 0 ls)).map dI)/\d8 (v+1) (c+1) (dP ls v (ee (pE ks e) v ab 0 ls)):=by
 refine Io (n:=n) Q J ls ab 0 _ (g.set (by decide)) bZ (fun l hl=>(F.2 l hl).2) fun I h1 P V=>?_
 have G:∀ j,ee (pE ks e) v ab 0 ls=aa j->j < ls.length:=fun j L=>by
  rcases AE L with h|h
  . exact nS h
  . exact BJ h
 refine ⟨I,h1,?_,qW F hv _ G⟩;unfold me;refine rl (if_pos ⟨by refine rl (aZ ..) ?_;have:=F.1;exact rC hc this,bq.mpr fun l hl=>by
  refine bB hl fun x T N=>?_;subst N
  have:=(F.2 x T).1;exact decide_eq_true (by refine rl (aZ ..) ?_;exact rC hc this)⟩) ?_
 refine rl V ?_;cases X:ee (pE ks e) v ab 0 ls with
 |some j =>
  have L:=G j X;simp only [eG,Option.elim_some];refine rl (if_pos (by refine rl (aZ ..) ?_;exact L)) ?_;congr 2;show (ls.map dI).set j ((ls.map dI).getD j [] ++ [.int v])=(ls.set j (ls.getD j [] ++ [v])).map dI;refine rl xP ?_;congr 1;show _=(ls.getD j [] ++ [v]).map D.int;refine rl i4 ?_;congr 1;refine rl f7 (rl f7 (rl cy (rl (dt L) rfl)))
 |none =>
  simp only [eG,Option.elim_none];refine rl (Pg (n:=n+2) h1.g3 P Q.hks (Q.any v hv J)) ?_;simp only [lG,↓reduceIte,dP,i4,b7,lL]
theorem qd(Q:DQ Ψ R S W ks e rows)(hv:1<=v)(F:v<=4){c:Nat}(hc:c<=10)(D:d8 v c ls){O:Sg}(g:DG O R S W ks){G:Prop}(k:∀ I,DG I R S W ks->me Ψ (n+8) PD O (ls.map dI) (.int v)=aa (I,(dP ls v (ee (pE ks e) v ab 0 ls)).map dI)->d8 (v+1) (c+1) (dP ls v (ee (pE ks e) v ab 0 ls))->G):G:=ae (GZ Q hv F hc D g) fun L J=>aE J fun z1 z2 N=>k L z1 z2 N
theorem G0(Q:DQ Ψ R S W ks e rows){O:Sg}(g:DG O R S W ks):∃ I,DG I R S W ks/\jg Ψ (n+8) PD O [] [.int 1,.int 2,.int 3,.int 4]=aa (I,(fc (pE ks e) [] [1,2,3,4]).map dI)/\d8 5 4 (fc (pE ks e) [] [1,2,3,4]):=by have P:d8 1 0 []:=⟨by simp,fun l hl=>by exact (a7 hl).elim⟩;refine lk fun _ J=>qd (n:=n) (v:=1) Q (by decide) (by decide) (c:=0) (by decide) P g fun d g1 F X=>qd (n:=n) (v:=2) Q (by decide) (by decide) (c:=1) (by decide) X g1 fun V g2 L T=>qd (n:=n) (v:=3) Q (by decide) (by decide) (c:=2) (by decide) T g2 fun a g3 e3 b=>qd (n:=n) (v:=4) Q (by decide) (by decide) (c:=3) (by decide) b g3 fun D g4 N G=>J ?_;refine ⟨D,g4,?_,G⟩;dsimp only [jg,lL] at F ⊢;refine rl F ?_;simp only [eG];refine rl L ?_;simp only [eG];refine rl e3 ?_;simp only [eG];refine rl N rfl
end
noncomputable def iE(ls:List (List Int)):List (List Int):=ls.filter fun l=>decide (1 < l.length)
noncomputable def dq(ls:List (List Int)):D:=.list (ls.map aj)
noncomputable def lu:Ex:=.cmp .Gt (.prim .len (.var 12)) (.int 1)
noncomputable def lv:Ex:=.prim .tuple (.var 12)
theorem zB{n:Nat}{O:Sg}{c:Nat}(hc:c<=10)(I:d8 v c ls):mf Ψ (n+8) [] 12 lu lv O (ls.map dI)=aa (dq (iE ls)):=by
 unfold mf;refine rl (if_pos (by rfl)) ?_;have:a8 (n3 Ψ (n+8) O 12 lu lv) (ls.map dI)=aa (ls.map fun l=>if decide (1 < l.length)=true then [aj l] else []):=by
  have h:∀ l:List Int,l.length<=c->n3 Ψ (n+8) O 12 lu lv (dI l)=aa (if decide (1 < l.length)=true then [aj l] else []):=fun l hl=>by
   unfold n3;have F:ah (ag O 12 (.o (.list (dI l)))) 12=aa (.o (.list (dI l))):=bZ;have c3:aJ Ψ (n+8) (ag O 12 (.o (.list (dI l)))) lu=aa (decide (1 < l.length)):=by
    refine db (n:=n+7) (y:=.int 1) (og (n:=n+6) (hI F) (by refine rl (aZ ..) ?_;exact BK hc hl)) rfl ?_;show aa (decide (((dI l).length:Int) > 1))=_;refine rl (aZ ..) ?_;congr 1;exact decide_eq_decide.mpr Nz
   refine rl c3 ?_;cases hq:decide (1 < l.length) with
   |false=>rfl
   |true =>
    first|refine rl (if_pos rfl) ?_|refine rl (if_pos (by decide)) ?_|refine rl (if_pos (by simp)) ?_
    have:an Ψ (n+8) (ag O 12 (.o (.list (dI l)))) lv=aa (aj l):=by
     show (bS (an Ψ (n+7) _) _ (.var 12)).bind (hX .tuple)=_;refine rl (hI F) ?_;show (if (dI l).length<=100000 then _ else _)=_
     refine rl (if_pos (by refine rl (aZ ..) ?_;exact BK hc hl)) ?_;rfl
    refine rl this rfl
  have G:=I.2;clear I;induction ls with
  |nil=>rfl
  |cons l ls ih=>exact bk (h l (G l aY).1) (ih fun x J=>G x (aN _ J))
 refine rl this ?_;simp only [eG];have e:(ls.map fun l=>if decide (1 < l.length)=true then [aj l] else []).flatten=(iE ls).map aj:=by
  refine rl (az List.flatMap_def) (rl (g6 ..) rfl)
 refine rl e ?_;rewrite [if_pos]
 . rfl
 . refine rl (aZ ..) ?_
   have:=jA (fun l:List Int=>decide (1 < l.length)) ls
   have:=I.1;unfold iE;exact NA hc ‹_› this
noncomputable def eu(p:Int->Int->Bool)(v:Int):Nat->List (List Int)->Option Nat
 |_,[]=>ab
 |j,l::ls=>if p (l.headD 0) v=true then aa j else eu p v (j+1) ls
noncomputable def ia(p:Int->Int->Bool):List (List Int)->List Int->List (List Int)
 |ls,[]=>ls
 |ls,v::vs=>ia p (dP ls v (eu p v 0 ls)) vs
theorem yT{i:Nat}:∀ {ls:List (List Int)} {j:Nat},eu p v j ls=aa i->i < j+ls.length:=by
 intro F;induction F with
 |nil =>
  intro j h;exact nS h
 |cons l ls D =>
  intro j h;unfold eu at h;split at h
  . replace h:=sI h;subst h;refine rl el rE
  . have:=D h;refine rl el (vC this)
theorem yU{α G J:Type}{F:G->Option J}{f:α->G}{g:α->J}:∀ {l:List α},(∀ x∈l,F (f x)=aa (g x))->a8 F (l.map f)=aa (l.map g):=by
 intro N;induction N with
 |nil =>
  intro _;exact rfl
 |cons a l D =>
  intro h;exact bk (h a aY) (D fun x L=>h x (aN _ L))
theorem Ip{α J:Type}(f:α->J):∀ l bs,aU (l.map f) bs=(aU l bs).map f:=by
 intro L;induction L with
 |nil =>
  intro bs;obtain ⟨⟩:=bs<;>rfl
 |cons Q P D =>
  intro G;rcases G with _|⟨N,F⟩
  . exact rfl
  . refine rl b7 ?_;simp only [aU,D F];obtain ⟨⟩:=N<;>rfl
theorem FD{α:Type}q:∀ l:List α,aU l (l.map q)=l.filter q:=by
 intro F;induction F with
 |nil =>
  exact rfl
 |cons a l D =>
  refine rl b7 (rl pB ?_);simp only [aU,D]
theorem G1 D F(h:∀ l,p (l.headD 0) v=(D l && F l)):∀ ls s,(aU (aU (pY s ls.length) (ls.map D)) ((ls.filter D).map F)).head? = eu p v s ls:=by
 intro J;induction J with
 |nil =>
  intro s;exact rfl
 |cons l ls G =>
  intro s;refine rl el (rl List.range'_succ (rl b7 (rl pB ?_)));rewrite [eu];refine rl (h l) ?_;cases h1:D l with
  |false =>
   show (aU (aU (pY (s+1) ls.length) (ls.map D)) ((ls.filter D).map F)).head? = _;refine rl (G (s+1)) rfl
  |true =>
   show (aU (s::aU (pY (s+1) ls.length) (ls.map D)) (F l::(ls.filter D).map F)).head? = _;cases L:F l with
   |false =>
    show (aU (aU (pY (s+1) ls.length) (ls.map D)) ((ls.filter D).map F)).head? = _;refine rl (G (s+1)) rfl
   |true=>rfl
noncomputable def lEB:Ex:=.comp1 [2,8] (.call 14 [.sub (.var 2) (.var 12),.var 8]) (.one 12) (.var 1) []
noncomputable def lC1:Ex:=.cmp .Eq (.comp1 [2,12] (.call 14 [.sub (.var 2) (.var 14),.sub (.var 12) (.int 0)]) (.one 14) (.var 1) []) (.var 9)
noncomputable def lC2:Ex:=.call 13 [.var 0,.var 1,.sub (.var 12) (.int 0),.var 8]
noncomputable def iV:LT:={ ik:=8,ib:=9,it1:=12,it2:=12,cap1:=[9,2,1],cap2:=[8,1,0],eb:=lEB,c1:=lC1,c2:=lC2 }
noncomputable def ig(n:Nat):D:=.tup ((c8 n).map fun (i:Nat)=>D.int (i:Int))
theorem n6(hm:m=2\/m=3):sc m=ig m:=by rcases hm with rfl|rfl<;>rfl
structure LG (O:Sg) (R:D) (ks:List Nat):Prop where
 g0:ah O 0=aa (.d R)
 g1:ah O 1=aa (.d (ig ks.length))
 g2:ah O 2=aa (.d (hZ ks))
theorem LG.set{O:Sg}{R:D}(h:LG O R ks){i:Nat}(hi:i≠0/\i≠1/\i≠2):LG (ag O i x) R ks :=
 ⟨a9 h.g0 (dp hi.1),a9 h.g1 (dp hi.2.1),a9 h.g2 (dp hi.2.2)⟩
structure LQ (Ψ:Nat->List D->Option D) (R:D) (ks:List Nat) (e:Int->Int->Bool):Prop where
 hks:ks.length<=3
 h4:∀ d∈ks,d<=4
 h13:∀ a v:Int,1<=a->a < v->v<=4->Ψ 13 [R,ig ks.length,.int a,.int v]=aa (.bool (e a v))
 h14:∀ d,d<=4->∀ v:Int,1<=v/\v<=4->Ψ 14 [rP d,.int v]=aa (.bool (dh (bQ d) v))
section
variable {Ψ:Nat->List D->Option D} {n:Nat} {R:D} {ks:List Nat} {e:Int->Int->Bool}
theorem Ac(Q:LQ Ψ R ks e)(g:LG O R ks){w:Int}(N:1<=w/\w<=4)(G:x≠0/\x≠1/\x≠2)(hc:cap.all (fun i=>(ah O i).isSome)=true)
 (J:∀ y,an Ψ (n+2) (ag O x y) ex=aa (.int w)):an Ψ (n+4) O (.comp1 cap (.call 14 [.sub (.var 2) (.var x),ex]) (.one x) (.var 1) [])=aa (.list ((bT ks w).map .bool)):=by
 have L:(bT ks w).map D.bool=(c8 ks.length).map fun i=>.bool (dh (bQ (ks.getD i 0)) w):=by
  unfold bT;have:ks.map (fun d=>dh (bQ d) w)=(c8 ks.length).map fun i=>dh (bQ (ks.getD i 0)) w:=by
   conv=>lhs;rw [←pK ks 0]
   refine rl cU rfl
  refine rl this (rl cU rfl)
 refine rl L ?_;refine ji (n:=n+3) (f:=fun (i:Nat)=>D.int (i:Int)) (g:=fun i=>.bool (dh (bQ (ks.getD i 0)) w)) hc ?_ (fun i hi=>?_) (by refine rl sA ?_;have:=Q.hks;exact aH ‹_› (by decide))
 . show (bS (an Ψ (n+3) O) O (.var 1)).bind dQ=_;refine rl (dy g.g1) rfl
 . have F:=en.mp hi;have hm:ks.getD i 0∈ks:=by refine rl f7 ?_;refine rl (dt F) ?_;exact sK F
   refine gK (I:=ag O x (.d (.int i))) rfl rfl (bz (n:=n+2) (bk (iI (n:=n+1) (dy (a9 g.g2 (dp G.2.2))) (bG bZ) ?_) (bk (J _) ey)) (Q.h14 _ (Q.h4 _ hm) w N))
   have:=Q.hks;refine rl (uY (by omega)) (rl (lz ..) (rl cy (rl (dt F) (rl f7 (rl (dt F) rfl)))))
noncomputable def pL(ks:List Nat)(e:Int->Int->Bool)(a v:Int):Bool:=decide (bT ks a=bT ks v) && e a v
set_option tactic.hygienic true in
theorem G2 (Q:LQ Ψ R ks e) (g:LG O R ks) (hv:1<=v) (N:v<=4) {c:Nat} (hc:c<=10) (F:d8 v c ls) :
 ∃ I,LG I R ks/\jf Ψ (n+8) iV O (ls.map dI) (.int v)=aa (I,(dP ls v (eu (pL ks e) v 0 ls)).map dI)/\d8 (v+1) (c+1) (dP ls v (eu (pL ks e) v 0 ls)):=by
 have J:∀ j,eu (pL ks e) v 0 ls=aa j->j < ls.length:=fun j q=>by have:=yT q;exact rF this
 have f:LG (ag O 8 (.d (.int v))) R ks:=g.set (by decide)
 have i:ah (ag O 8 (.d (.int v))) 8=aa (.d (.int v)):=bZ
 have eb:an Ψ (n+8) (ag O iV.ik (.d (.int v))) iV.eb=aa (.list ((bT ks v).map .bool)):=by
  refine Ac (n:=n+4) Q f ⟨hv,N⟩ (x:=12) (by decide) ?_ fun y=>bG (a9 i (by decide));show ((ah (ag O 8 (.d (.int v))) 2).isSome && ((ah (ag O 8 (.d (.int v))) 8).isSome && true))=true;refine rl f.g2 (rl i rfl)
 have G:LG (ag (ag O 8 (.d (.int v))) 9 (.d (.list ((bT ks v).map .bool)))) R ks:=f.set (by decide);have V:ah (ag (ag O 8 (.d (.int v))) 9 (.d (.list ((bT ks v).map .bool)))) 8=aa (.d (.int v)):=a9 i (by decide);have k:ah (ag (ag O 8 (.d (.int v))) 9 (.d (.list ((bT ks v).map .bool)))) 9=aa (.d (.list ((bT ks v).map .bool))):=bZ;refine ⟨ag (ag O 8 (.d (.int v))) 9 (.d (.list ((bT ks v).map .bool))),G,?_,qW F hv _ J⟩;generalize b:ag (ag O 8 (.d (.int v))) 9 (.d (.list ((bT ks v).map .bool)))=σ9 at *;unfold jf;refine rl eb ?_;simp only [eG];refine rl b ?_;have c1:∀ l∈ls,aJ Ψ (n+8) (ag σ9 iV.it1 (.o (.list (dI l)))) iV.c1=aa (decide (bT ks (l.headD 0)=bT ks v)):=fun l hl=>by
  refine ac (F.2 l hl) fun _ T=>aM T fun a t S=>aE S fun P ha L=>?_;clear T S;subst P;have g12:LG (ag σ9 12 (.o (lD (a::t)))) R ks:=G.set (by decide);have X:ah (ag σ9 12 (.o (lD (a::t)))) 12=aa (.o (lD (a::t))):=bZ;refine db (n:=n+7) (Ac (n:=n+3) Q g12 (w:=a) ⟨ha,by exact NB N L⟩ (x:=14) (by decide) ?_ fun y=>iI (n:=n+4) (hI (a9 X (by decide))) rfl rfl) (dy (a9 k (by decide))) (zA _ _);show ((ah (ag σ9 12 (.o (lD (a::t)))) 2).isSome && ((ah (ag σ9 12 (.o (lD (a::t)))) 12).isSome && true))=true;refine rl g12.g2 (rl X rfl)
 refine rl (yU c1) ?_;simp only [eG];refine rl (Ip ..) (rl (FD ..) ?_);have c2:∀ l∈ls.filter (fun l=>decide (bT ks (l.headD 0)=bT ks v)),aJ Ψ (n+8) (ag σ9 iV.it2 (.o (.list (dI l)))) iV.c2=aa (e (l.headD 0) v):=fun l hl=>by
  refine ac (F.2 l (b3.mp hl).1) fun _ T=>aM T fun a t S=>aE S fun P ha L=>?_;clear T S;subst P;have g12:LG (ag σ9 12 (.o (lD (a::t)))) R ks:=G.set (by decide);exact t_e (n:=n+7) (bz (n:=n+6) (bk (bG g12.g0) (bk (bG g12.g1) (bk (iI (hI bZ) rfl rfl) (bk (bG (a9 V (by decide))) ey)))) (Q.h13 a v ha L N))
 refine rl (yU c2) ?_;simp only [eG];rw [if_pos]
 . congr 2;refine rl (aZ ..) (rl List.range_eq_range' ?_)
   have:=G1 (p:=pL ks e) (v:=v) (fun l=>decide (bT ks (l.headD 0)=bT ks v)) (fun l=>e (l.headD 0) v) (fun l=>rfl) ls 0;revert this;generalize aU (aU (pY 0 ls.length) (ls.map fun l=>decide (bT ks (l.headD 0)=bT ks v))) ((ls.filter fun l=>decide (bT ks (l.headD 0)=bT ks v)).map fun l=>e (l.headD 0) v)=idx;intro this;rw [←this] at J ⊢;rcases idx with _|⟨j,r⟩
   . simp only [jk,dP,List.head?_nil,i4,b7,lL]
   . show (ls.map dI).set j ((ls.map dI).getD j [] ++ [.int v])=(ls.set j (ls.getD j [] ++ [v])).map dI;refine rl xP ?_;congr 1;show _=(ls.getD j [] ++ [v]).map D.int;refine rl i4 ?_;congr 1;refine rl f7 (rl f7 (rl cy (rl (dt (J j rfl)) rfl)))
 . refine ⟨by rw [aZ];have:=F.1;first|with_reducible assumption|exact rC hc this|omega,bq.mpr fun l hl=>?_,?_,?_⟩
   . refine bB hl fun x m P=>?_;subst P
     have:=(F.2 x m).1;exact decide_eq_true (by refine rl (aZ ..) ?_;exact rC hc this)
   . show ((ah σ9 9).isSome && ((ah σ9 2).isSome && ((ah σ9 1).isSome && true)))=true;refine rl k (rl G.g2 (rl G.g1 rfl))
   . show ((ah σ9 8).isSome && ((ah σ9 1).isSome && ((ah σ9 0).isSome && true)))=true;refine rl V (rl G.g1 (rl G.g0 rfl))
theorem qe(Q:LQ Ψ R ks e)(g:LG O R ks)(hv:1<=v)(F:v<=4){c:Nat}(hc:c<=10)(D:d8 v c ls){G:Prop}(k:∀ I,LG I R ks->jf Ψ (n+8) iV O (ls.map dI) (.int v)=aa (I,(dP ls v (eu (pL ks e) v 0 ls)).map dI)->d8 (v+1) (c+1) (dP ls v (eu (pL ks e) v 0 ls))->G):G:=ae (G2 Q g hv F hc D) fun L J=>aE J fun z1 z2 N=>k L z1 z2 N
theorem G3(Q:LQ Ψ R ks e)(g:LG O R ks):∃ I,LG I R ks/\jT Ψ (n+8) iV O [] [.int 1,.int 2,.int 3,.int 4]=aa (I,(ia (pL ks e) [] [1,2,3,4]).map dI)/\d8 5 4 (ia (pL ks e) [] [1,2,3,4]):=by have P:d8 1 0 []:=⟨by simp,fun l hl=>by exact (a7 hl).elim⟩;refine lk fun _ J=>qe (n:=n) (v:=1) Q g (by decide) (by decide) (c:=0) (by decide) P fun b g1 F V=>qe (n:=n) (v:=2) Q g1 (by decide) (by decide) (c:=1) (by decide) V fun T g2 L S=>qe (n:=n) (v:=3) Q g2 (by decide) (by decide) (c:=2) (by decide) S fun X g3 e3 a=>qe (n:=n) (v:=4) Q g3 (by decide) (by decide) (c:=3) (by decide) a fun D g4 N G=>J ?_;refine ⟨D,g4,?_,G⟩;dsimp only [jT,lL] at F ⊢;refine rl F ?_;simp only [eG];refine rl L ?_;simp only [eG];refine rl e3 ?_;simp only [eG];refine rl N rfl
end
theorem JY:eT.P=iV/\eT.it = .prim .sorted (.var 3)/\eT.cap3 = []/\eT.it3=12/\eT.c3=lu/\eT.e3=lv/\eT.ih=10/\eT.il=4/\eT.ifd=3:=⟨rfl,rfl,rfl,rfl,rfl,rfl,rfl,rfl,rfl⟩
theorem Ad:eD.P=PD/\eD.it = .range2 (.int 1) (.int 5)/\eD.cap3 = []/\eD.it3=12/\eD.c3=lu/\eD.e3=lv/\eD.ih=8/\eD.il=7/\eD.ir=4:=⟨rfl,rfl,rfl,rfl,rfl,rfl,rfl,rfl,rfl⟩
noncomputable def bu(m dc:Nat):List Nat:=dc::List.replicate (m - 1) 0
noncomputable def Lk(dc:Nat):List Int:=if dc=0 then [1,2,3,4] else bQ dc ++ [(dc:Int)]
noncomputable def rz(R:D)(m dc:Nat):Sg:=[(0,.d R),(1,.d (ig m)),(2,.d (hZ (bu m dc))),(3,.d (.bdict (Lk dc))),(5,.d (.int ((m:Int) - 1))),(6,.d (.int 1)),(7,.d (.int 4)),(8,.d (.int 4))]
def eU(m dc:Nat):Prop:=(m=2\/m=3)/\(dc=0\/dc=1\/dc=2\/dc=3\/dc=4)
theorem Ph Ψ R(h:eU m dc):mh Ψ NF eT.cs eT.ifd eT.il [(0,.d R),(1,.d (ig m)),(2,.d (hZ (bu m dc)))]=aa (rz R m dc):=by obtain ⟨rfl|rfl,rfl|rfl|rfl|rfl|rfl⟩:=h<;>kernel_rfl
theorem QR Ψ R(h:eU m dc):d5 (.one 8) (an Ψ NF (rz R m dc)) (an Ψ NF (rz R m dc)) (.prim .sorted (.var 3))=aa [.int 1,.int 2,.int 3,.int 4]:=by obtain ⟨rfl|rfl,rfl|rfl|rfl|rfl|rfl⟩:=h<;>kernel_rfl
theorem jY(h:eU m dc):(bu m dc).length=m:=by obtain ⟨rfl|rfl,_⟩:=h<;>rfl
theorem Pi(h:eU m dc):∀ d∈bu m dc,d<=4:=by
 have:dc<=4:=by obtain ⟨_,rfl|rfl|rfl|rfl|rfl⟩:=h<;>(first|exact f9 _ _|exact fo _)
 intro d hd;clear h;rcases aL.mp hd with rfl|hd
 . exact this
 . refine rl ((List.mem_replicate.mp hd).2) (f9 _ _)
theorem Iq{R:D}(h:eU m dc)(Q:LQ Ψ R (bu m dc) e):nM Ψ NF eT [(0,.d R),(1,.d (ig m)),(2,.d (hZ (bu m dc)))]=aa (dq (iE (ia (pL (bu m dc) e) [] [1,2,3,4]))):=by unfold nM;refine rl (Ph Ψ R h) ?_;simp only [eG];unfold zt;refine vB JY fun V S N L T J P b a=>rl V ?_;refine rl S (rl N (rl L (rl T (rl J (rl P (rl (if_pos rfl) (rl (QR Ψ R h) ?_)))))));simp only [eG];have g:LG (rz R m dc) R (bu m dc):=⟨rfl,by refine rl (jY h) ?_;rfl,rfl⟩;refine ae (G3 (n:=292) Q g) fun I G=>aE G fun X e' F=>?_;clear G;refine rl e' ?_;exact zB (n:=292) (c:=4) (by decide) F
noncomputable def ez:List Nat->List (List Int)
 |[]=>[[]]
 |d::ks=>(bQ d).flatMap fun v=>(ez ks).map fun r=>v::r
theorem t9:row∈ez (d::ks) ↔ ∃ v∈bQ d,∃ r∈ez ks,row=v::r:=by
 show row∈(bQ d).flatMap _↔_;refine rp (sJ ..) ?_;constructor
 . intro D;refine lk fun _ G=>ae D fun v F=>ac F fun hv h=>?_;clear D F;refine bB h fun r hr e=>G ?_;exact ⟨v,hv,r,hr,e.symm⟩
 . intro D;refine lk fun _ G=>ae D fun v F=>?_;clear D;refine ac F fun hv J=>?_;clear F;refine ae J fun r z1=>ac z1 fun hr e=>?_;clear J z1;refine G (⟨v,hv,dj.mpr ⟨r,hr,e.symm⟩⟩)
theorem Ae:dh l v=true↔v∈l:=by
 refine rp (wW ..) ?_;constructor
 . rintro ⟨y,D,e⟩;refine rl (az (of_decide_eq_true e)) D
 . intro h;exact ⟨v,h,by exact of_decide_eq_self_eq_true v⟩
theorem yV:∀ {ks:List Nat} {row:List Int},bT ks v=bT ks a->row∈ez ks->row.map (aA v a)∈ez ks:=by
 intro N;induction N with
 |nil =>
  intro row _ h;rcases aV.mp h with rfl;exact aV.mpr rfl
 |cons d ks F =>
  intro row hb h;refine ae (t9.mp h) fun x J=>ac J fun D z1=>?_;clear J;refine ae z1 fun r z2=>ac z2 fun hr L=>?_;clear z1 z2;subst L;have G:dh (bQ d) v::bT ks v=dh (bQ d) a::bT ks a:=hb;injection G with h1 h2;refine t9.mpr ⟨aA v a x,?_,r.map (aA v a),F h2 hr,rfl⟩;rw [←Ae] at D ⊢;unfold aA;split
  . rename_i e;refine rl (az h1) (rl (az e) D)
  . split
    . rename_i e;refine rl h1 (rl (az e) D)
    . exact D
theorem qE:∀ {ks:List Nat} {row:List Int},row∈ez ks->gW row/\row.length=ks.length
 |[],row,h=>by
  rcases aV.mp h with rfl;exact ⟨fun v hv=>(by exact (a7 hv).elim),rfl⟩
 |d::ks,row,h=>by
  refine ae (t9.mp h) fun x D=>ac D fun G z1=>?_;clear D;refine ae z1 fun r z2=>ac z2 fun hr J=>?_;clear z1 z2;subst J;refine ac (qE hr) fun h1 F=>⟨fun v hv=>?_,by refine rl el ?_;refine rl F ?_;rfl⟩;clear F hr h;clear ks;rcases aL.mp hv with rfl|hv
  . have:=(b3.mp G).1;simp at this;exact NC this
  . exact h1 v hv
theorem yW(F:row∈ez ks){G:Prop}(k:gW row->row.length=ks.length->G):G:=ac (qE F) fun D z1=>k D z1
theorem EX(h:eU m dc):(ez (bu m dc)).Nodup:=by obtain ⟨rfl|rfl,rfl|rfl|rfl|rfl|rfl⟩:=h<;>decide +kernel
theorem yX(h:eU m dc):(ez (bu m dc)).length<=64:=by obtain ⟨rfl|rfl,rfl|rfl|rfl|rfl|rfl⟩:=h<;>decide +kernel
noncomputable def dr:List (List Int)->D
 |[]=>.idict []
 |l=>.tdict l
theorem zC l:dQ (dr l)=aa (l.map aj):=by obtain ⟨⟩:=l<;>rfl
theorem Ir(h:r∈l):fg (aj r) (dr l)=aa true:=by
 rcases l with _|⟨a,l⟩
 . exact (a7 h).elim
 . exact (vN _ _).trans (congrArg aa (pc.mpr h))
theorem It:∀ rs {l:List (List Int)},(l++rs).Nodup->l.length+rs.length<=1000->fy (.tdict l) (rs.map aj) (rs.map fun G=>.bool true)=aa (.tdict (l++rs)):=by
 intro J;induction J with
 |nil =>
  intro l _ _;rw [m6];rfl
 |cons r rs F =>
  intro l h D;have L:l.contains r=false:=by
   refine rp (DN ..) ?_;intro hc
   have:=pc.mp hc;rw [wO] at h;exact h.2.2 r this r aY rfl
  have hk:gk (.tdict l) (aj r) (.bool true)=aa (.tdict (l ++ [r])):=by
   refine rl (uZ (by simp at D;exact ND D)) (rl L rfl)
  refine rl b7 (rl b7 ?_);show (gk (.tdict l) (aj r) (.bool true)).bind (fun d'=>fy d' (rs.map aj) (rs.map fun G=>.bool true))=_;refine rl hk ?_;show fy (.tdict (l ++ [r])) _ _=_
  have:=F (l:=l ++ [r]) (by refine rl (lA ..) ?_;exact h) (by simp at D ⊢;exact NE D);refine rl this (rl (lA ..) rfl)
theorem G4(h:rs.Nodup)(G:rs.length<=1000):nJ (.list (rs.map fun r=>.tup [aj r,.bool true]))=aa (dr rs):=by
 have F:kH (rs.map fun r=>.tup [aj r,.bool true])=aa (rs.map aj,rs.map fun D=>.bool true):=by
  clear h G;induction rs with
  |nil=>rfl
  |cons r rs ih=>exact congrArg (gc fun q=>(aj r::q.1,.bool true::q.2)) ih
 unfold nJ;simp only;refine rl (if_pos (by refine rl (aZ ..) ?_;exact aH ‹_› (by decide))) ?_;refine rl F ?_;show fy (.idict []) (rs.map aj) (rs.map fun D=>.bool true)=_;clear F;rcases rs with _|⟨r,rs⟩
 . rfl
 . refine rl b7 (rl b7 ?_);show (gk (.idict []) (aj r) (.bool true)).bind (fun d'=>fy d' (rs.map aj) (rs.map fun D=>.bool true))=_;refine rl Ar ?_;exact It rs (l:=[r]) h (by simp at G ⊢;exact gs ‹_› _)
theorem Ll{n:Nat}{O:Sg}(h:aJ Ψ n O e=aa q):aJ Ψ (n+1) O (.not e)=aa (!q):=mI h
theorem Af{n:Nat}{O:Sg}{elt it:Ex}(h:an Ψ n O (.comp1 cap elt t it ifs)=aa x)(F:hX p x=aa r):an Ψ (n+1) O (.prim p (.comp1 cap elt t it ifs))=aa r:=by obtain ⟨⟩:=p<;>exact (bI h).trans F
theorem Ag{n m:Nat}(hm:m=2\/m=3){O:Sg}(L:x≠y/\z≠y)(G:ah O x=aa (.d (aj row)))(J:ah O z=aa (.d (.list (l.map (rD m)))))(hl:l.length<=60)
 (h22:∀ r∈l,Ψ 22 [rD m r,aj row]=aa (.bool (b4 r row))):aJ Ψ (n+6) O (.cmp .Eq (.comp1 [x] (.var y) (.one y) (.var z) [.not (.call 22 [.var y,.var x])]) (.list []))=aa (fV l row):=by
 refine db (n:=n+5) (x:=.list ((l.filter fun r => !b4 r row).map (rD m))) (y:=.list []) ?_ rfl ?_
 . refine rl (az (g6 ..)) ?_
   have F:(l.flatMap fun r=>if (!b4 r row)=true then [rD m r] else []).length<=100000:=by
    refine rl (g6 ..) (rl (aZ ..) ?_);exact aH (jA ..) (by exact aH ‹_› (by decide))
   refine jh (n:=n+4) (f:=rD m) (g:=fun r=>if (!b4 r row)=true then [rD m r] else []) ?_ ?_ (fun r hr=>?_) F
   . show ((ah O x).isSome && true)=true;refine rl G rfl
   . show (bS (an Ψ (n+4) O) O (.var z)).bind dQ=_;refine rl (dy J) rfl
   . exact mq (I:=ag O y (.d (rD m r))) rfl (j8 (Ll (n:=n+3) (t_e (n:=n+2) (bz (n:=n+1) (bk (bG bZ) (bk (bG (a9 G L.1)) ey)) (h22 r hr))))) (bG bZ)
 . show (if pl 9 (.list ((l.filter fun r => !b4 r row).map (rD m))) && dC 8 [] then aa (bf (.list _) (.list [])) else ab)=_
   rewrite [qT (n:=8) (rx m hm)];refine rl (kB ..) ?_;show aa _=_;congr 1;have:j5 ((l.filter fun r => !b4 r row).map (rD m)) (([]:List Rl).map (rD m))=@decide ((l.filter fun r => !b4 r row) = []) (@instDecidableEqList _ zSE _ _):=@kC _ zSE _ (AD hm) _ _;refine this.trans ?_;unfold fV;refine rp (sS ..) (rl decide_eq_true_eq (rp (List.filter_eq_nil_iff ..) (rp (bq ..) ?_)));exact ⟨fun h r hr=>by exact az ((fun {a b}=>Bool.not_eq_not.mp) fun a=>h r hr (id (az a))),fun h r hr=>by exact (fun {a b}=>Bool.not_not_eq.mpr) (h r hr)⟩
noncomputable def cA:St:=.asg 4 (.own (.list [.tup []]))
noncomputable def cB:St:=.loop (.one 5) (.var 3) [.asg 4 (.val (.comp2 [5] (.bin .Add (.var 12) (.tup [.var 13])) (.one 12) (.var 4) [] (.one 13) (.var 5) []))]
noncomputable def vp:Ex:=.comp1 [0] (.tup [.var 12,.bool true]) (.one 12) (.var 4) [.cmp .Eq (.comp1 [12] (.var 14) (.one 14) (.var 0) [.not (.call 22 [.var 14,.var 12])]) (.list [])]
noncomputable def cC:St:=.asg 4 (.own (.prim .dict vp))
noncomputable def cD:St:=.asg 7 (.own (.list []))
theorem Pj:eD.cs = [cA,cB,cC,cD]:=rfl
noncomputable def lm(R:D)(m dc:Nat):Sg:=[(0,.d R),(1,.d (ig m)),(2,.d (hZ (bu m dc))),(3,.d (gn (bu m dc)))]
noncomputable def fe(R:D)(m dc:Nat)(v:V):Sg:=[(0,.d R),(1,.d (ig m)),(2,.d (hZ (bu m dc))),(3,.d (gn (bu m dc))),(4,v),(5,.d (lD (bQ 0)))]
theorem QS Ψ R(h:eU m dc):be Ψ 300 (lm R m dc) [cA,cB,cC,cD]=be Ψ 298 (fe R m dc (.d (.list ((ez (bu m dc)).map aj)))) [cC,cD]:=by
 have F:b8 Ψ 299 (lm R m dc) cA=aa (lm R m dc ++ [(4,.o (.list [.tup []]))],.next):=by
  obtain ⟨rfl|rfl,rfl|rfl|rfl|rfl|rfl⟩:=h<;>kernel_rfl
 have G:b8 Ψ 298 (lm R m dc ++ [(4,.o (.list [.tup []]))]) cB=aa (fe R m dc (.d (.list ((ez (bu m dc)).map aj))),.next):=by
  clear F;obtain ⟨rfl|rfl,rfl|rfl|rfl|rfl|rfl⟩:=h<;>kernel_rfl
 exact (g7 F).trans (g7 G)
noncomputable def fC(l:List Rl)(m dc:Nat):List (List Int):=(ez (bu m dc)).filter (fV l)
theorem QT(h:eU m dc)(hl:l.length<=60)(h22:∀ r∈l,∀ row:List Int,gW row->row.length=m->Ψ 22 [rD m r,aj row]=aa (.bool (b4 r row))):
 b8 Ψ 297 (fe (.list (l.map (rD m))) m dc (.d (.list ((ez (bu m dc)).map aj)))) cC=aa (fe (.list (l.map (rD m))) m dc (.o (dr (fC l m dc))),.next):=by
 have hlen:=yX h
 have N:(fC l m dc).length<=64:=aH (jA ..) hlen
 have e:an Ψ 295 (fe (.list (l.map (rD m))) m dc (.d (.list ((ez (bu m dc)).map aj)))) vp=aa (.list ((fC l m dc).map fun r=>.tup [aj r,.bool true])):=by
  refine rl (az (g6 ..)) ?_;have L:((ez (bu m dc)).flatMap fun row=>if fV l row=true then [D.tup [aj row,.bool true]] else []).length<=100000:=by
   refine rl (g6 ..) (rl (aZ ..) ?_);exact aH (jA ..) (by exact aH ‹_› (by decide))
  refine jh (n:=294) (f:=aj) (g:=fun row=>if fV l row=true then [.tup [aj row,.bool true]] else []) rfl ?_ (fun row G=>?_) L
  . rfl
  . refine yW G fun hr F=>?_;rw [jY h] at F;refine mq (I:=ag (fe (.list (l.map (rD m))) m dc (.d (.list ((ez (bu m dc)).map aj)))) 12 (.d (aj row))) rfl (j8 (Ag (n:=288) h.1 (x:=12) (y:=14) (z:=0) (by decide) bZ rfl hl fun r J=>h22 r J row hr F)) rfl
 have hd:=G4 (rs:=fC l m dc) ((EX h).filter _) (by exact aH ‹_› (by decide));have e3:∀ {O:Sg} {d:D},an Ψ 296 O (.prim .dict vp)=aa d->b8 Ψ 297 O cC=aa (ag O 4 (.o d),.next):=fun {O d} h=>by
  exact mI h
 refine rl (e3 (Af (n:=295) e hd)) rfl
theorem Pk(h:eU m dc)(hl:l.length<=60)(h22:∀ r∈l,∀ row:List Int,gW row->row.length=m->Ψ 22 [rD m r,aj row]=aa (.bool (b4 r row))):
 mh Ψ NF eD.cs eD.ir eD.il (lm (.list (l.map (rD m))) m dc)=aa (fe (.list (l.map (rD m))) m dc (.d (dr (fC l m dc)))):=by
 refine vB Ad fun T Q N L S J P G F=>?_
 unfold mh
 refine rl Pj (rl G (rl F ?_))
 have:be Ψ NF (lm (.list (l.map (rD m))) m dc) [cA,cB,cC,cD]=_:=QS Ψ _ h
 refine rl this ?_
 have e:be Ψ 298 (fe (.list (l.map (rD m))) m dc (.d (.list ((ez (bu m dc)).map aj)))) [cC,cD]=aa (fe (.list (l.map (rD m))) m dc (.o (dr (fC l m dc))) ++ [(7,.o (.list []))],.next):=by
  exact (g7 (QT h hl h22)).trans rfl
 refine rl e rfl
theorem JZ(h:eU m dc)(hl:l.length<=60)(h22:∀ r∈l,∀ row:List Int,gW row->row.length=m->Ψ 22 [rD m r,aj row]=aa (.bool (b4 r row)))
 (Q:DQ Ψ (.list (l.map (rD m))) (ig m) (dr (fC l m dc)) (bu m dc) e (fC l m dc)):n4 Ψ NF eD (lm (.list (l.map (rD m))) m dc)=aa (.tup [dq (iE (fc (pE (bu m dc) e) [] [1,2,3,4])),dr (fC l m dc)]):=by
 unfold n4
 refine rl (Pk h hl h22) ?_
 simp only [eG]
 refine vB Ad fun b V P N a J S f X=>?_
 unfold z8
 refine rl b (rl V (rl P (rl N (rl a (rl J (rl S (rl X ?_)))))))
 generalize hW:dr (fC l m dc)=W at *
 have ht:(n9 (fe (.list (l.map (rD m))) m dc (.d W)) && (ah (fe (.list (l.map (rD m))) m dc (.d W)) 8).isNone && (ah (fe (.list (l.map (rD m))) m dc (.d W)) PD.it).isNone)=true:=rfl
 refine rl (if_pos ht) ?_
 have hi:d5 (.one PD.iv) (an Ψ NF (fe (.list (l.map (rD m))) m dc (.d W))) (an Ψ NF (fe (.list (l.map (rD m))) m dc (.d W))) (.range2 (.int 1) (.int 5))=aa [.int 1,.int 2,.int 3,.int 4]:=rfl
 refine rl hi ?_
 simp only [eG]
 have g:DG (fe (.list (l.map (rD m))) m dc (.d W)) (.list (l.map (rD m))) (ig m) W (bu m dc):=⟨rfl,rfl,rfl,rfl⟩
 refine ae (G0 (n:=292) Q g) fun I G=>aE G fun T e' F=>?_;clear G
 have L:jg Ψ NF PD (fe (.list (l.map (rD m))) m dc (.d W)) [] [.int 1,.int 2,.int 3,.int 4]=_:=e'
 refine rl L ?_
 simp only [eG]
 have e3:mf Ψ NF [] 12 lu lv I _=_:=zB (n:=292) (c:=4) (by decide) F
 refine rl e3 (rl T.g4 rfl)
theorem G5{p D:Int->Int->Bool}:∀ ls hm j,(∀ l∈ls,p (l.headD 0) v=D (l.headD 0) v)->ee p v hm j ls=ee D v hm j ls:=by
 intro J;induction J with
 |nil =>
  intro _ _ _;exact rfl
 |cons l ls F =>
  intro hm j h;show ee p v (if p (l.headD 0) v=true then aa j else hm) (j+1) ls=ee D v (if D (l.headD 0) v=true then aa j else hm) (j+1) ls;refine rl (h l aY) ?_
  exact F _ _ fun x G=>h x (aN _ G)
theorem EE{p D:Int->Int->Bool}:∀ ls j,(∀ l∈ls,p (l.headD 0) v=D (l.headD 0) v)->eu p v j ls=eu D v j ls:=by
 intro J;induction J with
 |nil =>
  intro _ _;exact rfl
 |cons l ls F =>
  intro j h;show (if p (l.headD 0) v=true then aa j else eu p v (j+1) ls)=(if D (l.headD 0) v=true then aa j else eu D v (j+1) ls);refine rl (h l aY) (rl (F _ fun x G=>h x (aN _ G)) ?_);rfl
def rA(p D:Int->Int->Bool):Prop:=∀ a v:Int,1<=a->a < v->v<=4->p a v=D a v
set_option tactic.hygienic true in
theorem zD (A:rA p L) (F:v<=4) {c:Nat} (I:d8 v c ls):∀ l∈ls,p (l.headD 0) v=L (l.headD 0) v:=fun l hl=>by
 refine ac (I.2 l hl) fun _ J=>aM J fun a t G=>aE G fun N ha D=>?_;clear J G;subst N;exact A a v ha D F
theorem yo{p D:Int->Int->Bool}(A:rA p D):fc p [] [1,2,3,4]=fc D [] [1,2,3,4]:=by
 have C:∀ (v:Int) (c:Nat) (ls:List (List Int)),1<=v->v<=4->d8 v c ls->dP ls v (ee p v ab 0 ls)=dP ls v (ee D v ab 0 ls)/\d8 (v+1) (c+1) (dP ls v (ee D v ab 0 ls)):=fun v c ls hv F I =>
  ⟨by refine rl (G5 ls ab 0 (zD A F I)) ?_;rfl,qW I hv _ fun j N=>by
   rcases AE N with h|h
   . exact nS h
   . exact BJ h⟩
 refine ac (C 1 0 [] (by decide) (by decide) (⟨by simp,fun l hl=>by exact (a7 hl).elim⟩)) fun Q P=>ac (C 2 1 _ (by decide) (by decide) P) fun G L=>ac (C 3 2 _ (by decide) (by decide) L) fun e3 S=>ac (C 4 3 _ (by decide) (by decide) S) fun J T=>(congrArg (fun l=>fc p l [2,3,4]) Q).trans ((congrArg (fun l=>fc p l [3,4]) G).trans ((congrArg (fun l=>fc p l [4]) e3).trans J))
theorem FE{p D:Int->Int->Bool}(A:rA p D):ia p [] [1,2,3,4]=ia D [] [1,2,3,4]:=by
 have C:∀ (v:Int) (c:Nat) (ls:List (List Int)),1<=v->v<=4->d8 v c ls->dP ls v (eu p v 0 ls)=dP ls v (eu D v 0 ls)/\d8 (v+1) (c+1) (dP ls v (eu D v 0 ls)):=fun v c ls hv F I =>
  ⟨by refine rl (EE ls 0 (zD A F I)) ?_;rfl,qW I hv _ fun j N=>by have:=yT N;exact rF this⟩
 refine ac (C 1 0 [] (by decide) (by decide) (⟨by simp,fun l hl=>by exact (a7 hl).elim⟩)) fun Q P=>ac (C 2 1 _ (by decide) (by decide) P) fun G L=>ac (C 3 2 _ (by decide) (by decide) L) fun e3 S=>ac (C 4 3 _ (by decide) (by decide) S) fun J T=>(congrArg (fun l=>ia p l [2,3,4]) Q).trans ((congrArg (fun l=>ia p l [3,4]) G).trans ((congrArg (fun l=>ia p l [4]) e3).trans J))
noncomputable def mE(N D L G F J:Bool)(a v:Int):Bool :=
 if a=1 then (if v=2 then N else if v=3 then D else L) else if a=2 then (if v=3 then G else F) else J
theorem qr p:rA p (mE (p 1 2) (p 1 3) (p 1 4) (p 2 3) (p 2 4) (p 3 4)):=fun a v ha D hv=>by
 have h1:=vS ⟨ha,nk (Int.lt_of_lt_of_le D hv)⟩;have F:=vS ⟨Int.le_trans ha (nk D),hv⟩;clear ha hv;rcases h1 with rfl|rfl|rfl|rfl<;>rcases F with rfl|rfl|rfl|rfl<;>first|exact absurd D (by decide)|rfl
noncomputable def tri(x y z:Bool):Bool:=(!(x && y) || z) && (!(x && z) || y) && (!(y && z) || x)
noncomputable def bw:List (List (List Int)):=[[],[[1,2]],[[1,3]],[[1,4]],[[2,3]],[[2,4]],[[3,4]],[[1,2],[3,4]],[[1,3],[2,4]],[[1,4],[2,3]],[[1,2,3]],[[1,2,4]],[[1,3,4]],[[2,3,4]],[[1,2,3,4]]]
theorem Iu:∀ N D L G F J:Bool,(!(tri N G D && tri N F L && tri D J L && tri G J F) ||
 (decide (fc (mE N D L G F J) [] [1,2,3,4]=ia (mE N D L G F J) [] [1,2,3,4]) && decide (iE (fc (mE N D L G F J) [] [1,2,3,4])∈bw)))=true:=by decide +kernel
structure oN (p:Int->Int->Bool):Prop where
 sym:∀ a b,p a b=p b a
 trans:∀ a b c,a≠b->b≠c->a≠c->p a b=true->p b c=true->p a c=true
theorem oN.tri(E:oN p){a b c:Int}(h1:a≠b)(F:b≠c)(D:a≠c):tri (p a b) (p b c) (p a c)=true:=by have L:=E.trans a b c h1 F D;have J:=E.trans b a c (dp h1) D F;have G:=E.trans a c b D (dp F) h1;rw [E.sym b a] at J;rw [E.sym c b] at G;revert L J G;cases p a b<;>cases p b c<;>cases p a c<;>simp [Mine.tri]
theorem Ah(E:oN p):fc p [] [1,2,3,4]=ia p [] [1,2,3,4]/\iE (fc p [] [1,2,3,4])∈bw:=by refine rl (yo (qr p)) (rl (FE (qr p)) ?_);have h:=Iu (p 1 2) (p 1 3) (p 1 4) (p 2 3) (p 2 4) (p 3 4);rw [E.tri (a:=1) (b:=2) (c:=3) (by decide) (by decide) (by decide),E.tri (a:=1) (b:=2) (c:=4) (by decide) (by decide) (by decide),E.tri (a:=1) (b:=3) (c:=4) (by decide) (by decide) (by decide),E.tri (a:=2) (b:=3) (c:=4) (by decide) (by decide) (by decide)] at h;simp only [lJ,Bool.not_true,tj,bX,decide_eq_true_eq] at h;exact h
theorem uE(hl:∀ r∈l,r.ok2 m)(G:l.length<=3)ks:oN (pE ks (fh l)) where
 sym:=fun a b=>by unfold pE;refine rl (zz l a b) ?_;rw [decide_eq_decide.mpr (eq_comm (a:=bT ks b) (b:=bT ks a))]
 trans:=fun a b c h1 L J F D=>by
  unfold pE at *;rw [bX,decide_eq_true_eq] at *;exact ⟨D.1.trans F.1,GX hl G h1 L J F.2 D.2⟩
noncomputable def mr(l:List Rl)(m dc:Nat):List (List Int):=iE (fc (pE (bu m dc) (fh l)) [] [1,2,3,4])
theorem Iv(hl:∀ r∈l,r.ok2 m)(D:l.length<=3):mr l m dc∈bw:=(Ah (uE hl D _)).2
theorem QU k(h:eU m dc)(hl:∀ r∈l,r.ok2 m)(F:l.length<=3):Φ (k+6) 15 [.list (l.map (rD m)),sc m,hZ (bu m dc)]=aa (dq (mr l m dc)):=by
 have e:pL (bu m dc) (fh l)=pE (bu m dc) (fh l):=by
  funext a v;delta pL pE;rw [decide_eq_decide.mpr (eq_comm (a:=bT (bu m dc) a) (b:=bT (bu m dc) v))]
 have hr:=Iq (Ψ:=Φ (k+5)) (R:=.list (l.map (rD m))) (e:=fh l) h ⟨by refine rl (jY h) ?_;rcases h.1 with rfl|rfl<;>(first|exact fo _|exact f9 _ _),Pi h,fun a v ha D hv=>by
  refine rl (jY h) ?_;refine rl (az (n6 h.1)) ?_;exact Cd k h.1 l hl (by exact cN ‹_› (by decide)) a v (vH D),fun d hd v hv=>QP (k+4) d hd v hv⟩
 rw [e,← (Ah (uE hl F _)).1] at hr;refine rl (n6 h.1) hr
theorem J1(h:eU m dc)v(h1:1<=v)(h4:v<=4):(bu m dc).any (fun d=>dh (bQ d) v)=true:=by
 refine wW.mpr ⟨0,?_,?_⟩
 . obtain ⟨rfl|rfl,_⟩:=h<;>exact wA rfl
 . refine rp (Ae ..) (jP ⟨h1,h4⟩)
theorem QV k(h:eU m dc)(hl:∀ r∈l,r.ok2 m)(J:l.length<=3):Φ (k+6) 25 [.list (l.map (rD m)),sc m,hZ (bu m dc),gn (bu m dc)]=aa (.tup [dq (mr l m dc),dr (fC l m dc)]):=by
 have hm:m<=3/\2<=m:=by rcases h.1 with rfl|rfl<;>(first|exact NG|exact NH)
 have D:∀ row∈fC l m dc,row.length=m:=fun row hr=>by
  have:=(qE (b3.mp hr).1).2;rw [jY h] at this;exact this
 have hr:=JZ (Ψ:=Φ (k+5)) (l:=l) (e:=fh l) h (by exact aH ‹_› (by decide)) (fun r hr row h1 L=>Ce (k+4) m h.1 r (uM (hl r hr)) row h1 L)
  { hks:=by refine rl (jY h) ?_;exact NI hm
    any:=J1 h
    h13:=fun a v ha F hv=>by
     refine rl (az (n6 h.1)) ?_;exact Cd k h.1 l hl (by exact cN ‹_› (by decide)) a v (vH F)
    hW:=zC _
    hr:=fun row hr=>by have:=D row hr;exact NJ hm this
    h23:=fun row t hl=>Cf (k+4) row t hl
    hq:=fun a v ha F hv hb G row hr=>by
     refine Ir (b3.mpr ⟨yV hb (b3.mp hr).1,?_⟩);rw [zz] at G;refine rl (yn hl J (BI F) G row (by have:=D row hr;exact NK hm this)) ?_;exact (b3.mp hr).2 }
 refine rl (n6 h.1) hr
noncomputable def fZ(ns:List Int):List Int:=if (ns.take 20).map (fun x=>x.fmod 10007) = [] then [0,0,0,1,1,0] else (ns.take 20).map fun x=>x.fmod 10007
noncomputable def mF(r:List Int):List Int:=(c8 20).map fun (k:Nat)=>r.getD (k % r.length) 0+5 * (((k / r.length:Nat)):Int)
theorem zE ns:0 < (fZ ns).length/\(fZ ns).length<=20:=by
 unfold fZ;split
 . decide
 . rename_i h;refine ⟨Dj.mpr h,?_⟩;refine rl (aZ ..) (rl pC BL)
theorem Iw ns:∀ x∈fZ ns,0<=x:=by
 unfold fZ;split
 . decide
 . intro x D;refine bB D fun y _ F=>?_;subst F;exact lx y (by decide)
theorem J2 ns:∀ x∈mF (fZ ns),0<=x:=by
 intro x D;refine bB D fun k _ F=>?_;subst F;have h1:0<=(fZ ns).getD (k % (fZ ns).length) 0:=by
  have hk:k % (fZ ns).length < (fZ ns).length:=Nat.mod_lt _ (zE ns).1;refine rl f7 (rl (dt hk) (Iw ns _ (sK hk)))
 exact Int.add_nonneg h1 (Int.mul_nonneg (by decide) (wD _))
theorem J3 r:(mF r).length=20:=by unfold mF;refine rl (aZ ..) ?_;refine rl sA ?_;rfl
noncomputable def QW:Ex:=.comp1 [1] (.bin .Add (.sub (.var 1) (.bin .Mod (.var 3) (.prim .len (.var 1)))) (.bin .Mult (.int 5) (.bin .FloorDiv (.var 3) (.prim .len (.var 1))))) (.one 3) (.range1 (.int 20)) []
theorem Bi{n:Nat}{O:Sg}(h1:ah O 1=aa (.d (.list (r.map .int))))(G:0 < r.length)(J:r.length<=20):an Ψ (n+8) O QW=aa (.list ((mF r).map .int)):=by
 refine rl cU ?_;refine ji (n:=n+7) (f:=fun (k:Nat)=>D.int (0+(k:Int))) (g:=fun (k:Nat)=>D.int (r.getD (k % r.length) 0+5 * (((k / r.length:Nat)):Int))) ?_ rfl (fun k hk=>?_) (by decide)
 . show ((ah O 1).isSome && true)=true;refine rl h1 rfl
 . have hk:=en.mp hk;have g1:ah (ag O 3 (.d (.int (0+(k:Int))))) 1=aa (.d (.list (r.map .int))):=a9 h1 (by decide);have hlen:∀ j,an Ψ (j+1) (ag O 3 (.d (.int (0+(k:Int))))) (.prim .len (.var 1))=aa (.int r.length):=fun j=>by
    refine rl (og (dy g1) (by refine rl (aZ ..) ?_;exact aH ‹_› (by decide))) ?_;refine rl (aZ ..) rfl
   have F:(r.length:Int)≠0:=NL G
   have hm:k % r.length < r.length:=Nat.mod_lt _ G;have s:an Ψ (n+6) (ag O 3 (.d (.int (0+(k:Int))))) (.sub (.var 1) (.bin .Mod (.var 3) (.prim .len (.var 1))))=aa (.int (r.getD (k % r.length) 0)):=by
    refine iI (n:=n+5) (dy g1) (fB (n:=n+4) (y:=.int r.length) (d:=.int ((k % r.length:Nat):Int)) (bG bZ) (hlen _) ?_) ?_
    . show (if (r.length:Int)=0 then ab else aa (D.int ((0+(k:Int)).fmod r.length)))=_
      refine rl (if_neg F) (rl (Int.zero_add ..) (rl (Int.ofNat_fmod ..) rfl))
    . refine rl (uY (by omega)) (rl (lz ..) (rl cy (rl f7 (rl (dt hm) rfl))))
   have d:an Ψ (n+5) (ag O 3 (.d (.int (0+(k:Int))))) (.bin .FloorDiv (.var 3) (.prim .len (.var 1)))=aa (.int ((k / r.length:Nat):Int)):=by
    refine fB (n:=n+4) (y:=.int r.length) (bG bZ) (hlen _) ?_;show (if (r.length:Int)=0\/1073741824<=(r.length:Int).natAbs then ab else aa (D.int ((0+(k:Int)).fdiv r.length)))=_
    refine rl (if_neg (NM J hm)) (rl (Int.zero_add ..) (rl (Int.ofNat_fdiv ..) rfl))
   have m:an Ψ (n+6) (ag O 3 (.d (.int (0+(k:Int))))) (.bin .Mult (.int 5) (.bin .FloorDiv (.var 3) (.prim .len (.var 1))))=aa (.int (5 * ((k / r.length:Nat):Int))) :=
    fB (n:=n+5) (x:=.int 5) rfl d rfl
   exact gK (I:=ag O 3 (.d (.int (0+(k:Int))))) rfl rfl (fB (n:=n+6) s m rfl)
theorem QX k ns(J:ns.length<=63):Φ (k+1) 20 [.list (ns.map .int)]=aa (.list ((mF (fZ ns)).map .int)):=by
 rw [dz k 20 (by decide) (by decide) (fn:=Q20) rfl];refine cM (n:=300) rfl ?_;have hr:an (Φ k) 298 [(0,.d (.list (ns.map .int)))] (.comp1 [] (.bin .Mod (.var 3) (.int 10007)) (.one 3) (.cut (.var 0) ab (aa (.int 20))) [])=aa (.list (((ns.take 20).map fun x=>x.fmod 10007).map .int)):=by
  refine rl cU ?_;refine ji (n:=297) (f:=.int) (g:=fun x=>.int (x.fmod 10007)) rfl ?_ (fun x L=>?_) (by refine rl pC ?_;exact NN)
  . have hc:lc (.list (ns.map .int)) ab (aa 20)=aa (.list ((ns.take 20).map .int)):=by
     show (if (ns.map D.int).length<=100000 then aa (D.list (eB (ns.map .int) ab (aa 20))) else ab)=_
     refine rl (if_pos (by refine rl (aZ ..) ?_;exact aH ‹_› (by decide))) ?_;refine rl List.map_take rfl
    have e:an (Φ k) 297 [(0,.d (.list (ns.map .int)))] (.cut (.var 0) ab (aa (.int 20)))=lc (.list (ns.map .int)) ab (aa 20):=by kernel_rfl
    show (an (Φ k) 297 [(0,.d (.list (ns.map .int)))] (.cut (.var 0) ab (aa (.int 20)))).bind dQ=_;refine rl e (rl hc rfl)
  . refine gK rfl rfl ?_;kernel_rfl
 refine cR (n:=298) hr ?_;have hl:=zE ns;unfold fZ at hl ⊢;generalize hq:(ns.take 20).map (fun x=>x.fmod 10007)=r0 at hl ⊢;have G:r0.length<=20:=by refine rl (az hq) ?_;refine rl (aZ ..) ?_;refine rl pC ?_;exact BL
 have hc:aJ (Φ k) 297 [(0,.d (.list (ns.map .int))),(1,.d (.list (r0.map .int)))] (.cmp .Eq (.var 1) (.list []))=aa (decide (r0 = [])):=by
  refine db (n:=296) (x:=.list (r0.map .int)) (y:=.list []) rfl rfl ?_;show (if dC 8 (r0.map .int) && dC 8 [] then aa (bf (.list (r0.map .int)) (.list [])) else ab)=_
  refine rl (qD ..) (rl (kB ..) ?_);show aa (j5 (r0.map .int) (([]:List Int).map .int))=_;rw [kC _ ma]
 by_cases F:r0 = []
 . clear G hl hr J;subst F;refine rl (if_pos rfl) ?_;rw [decide_eq_true rfl] at hc;refine et (n:=298) (I:=[(0,.d (.list (ns.map .int))),(1,.o (.list [.int 0,.int 0,.int 0,.int 1,.int 1,.int 0]))]) ((hG (n:=297) hc).trans ?_) ?_
   . rfl
   . exact bK (n:=296) (Bi (n:=288) (r:=[0,0,0,1,1,0]) rfl (by decide) (by decide))
 . rw [if_neg F] at hl ⊢;rw [decide_eq_false F] at hc;refine et (n:=298) (I:=[(0,.d (.list (ns.map .int))),(1,.d (.list (r0.map .int)))]) ((gF (n:=297) hc).trans ?_) ?_
   . rfl
   . exact bK (n:=296) (Bi (n:=288) (r:=r0) rfl hl.1 G)
noncomputable def uN(a:Int):Int:=1+a.fmod 4
noncomputable def wN(a:Int):Int:=1+(a+1+(a.fdiv 4).fmod 3).fmod 4
noncomputable def j4(m:Nat)(k a:Int):Rl :=
 if k.fmod 6=0 then .ne2 (a.fmod 3)
 else if k.fmod 6=1 then .card (uN a) (wN a) 1 (1+(a.fdiv 20).fmod 2)
 else if k.fmod 6=2 then .prec (uN a) (wN a)
 else if k.fmod 6=3 then .ne1 (a.fmod m) (uN a)
 else if k.fmod 6=4 then .le (4+a.fmod 6)
 else .alld
theorem Ix(hm:m=2\/m=3)k a(ha:0<=a):(j4 m k a).ok2 m:=by
 have L:=lx a (b:=3) (by decide);have J:=mU a (b:=3) (by decide);have D:uN a≠wN a:=by
  delta uN wN;refine rl (Int.fdiv_eq_ediv_of_nonneg _ (by decide)) ?_;refine rl (v8 _ (by decide)) ?_;refine rl (v8 _ (by decide)) ?_;refine rl (v8 _ (by decide)) NO
 delta j4;split
 . show a.fmod 3=0\/a.fmod 3=1\/a.fmod 3=2;exact vR ‹_› ‹_›
 . split
   . exact D
   . split
     . exact trivial
     . split
       . show a.fmod m=0\/a.fmod m=1\/(a.fmod m=2/\m=3);have F:=lx a (b:=(m:Int)) (by rcases hm with rfl|rfl<;>decide);have G:=mU a (b:=(m:Int)) (by rcases hm with rfl|rfl<;>decide);rcases hm with rfl|rfl<;>(first|exact NP F G|exact NQ F G)
       . split
         iterate 2 exact trivial
noncomputable def mu:List St:=match r7.body with
 |[_,.loop _ _ b,_]=>b
 |_=>[]
noncomputable def v4:Ex:=match r7.body with
 |[_,.loop _ e _,_]=>e
 |_=>.none
section
variable {Ψ:Nat->List D->Option D} {n:Nat} {e:Ex} {v:D} {l:List D} {x:Nat}
theorem kZ(h:an Ψ n (a0 O (aX n e)) e=aa v)(F:ah (a0 O (aX n e)) x=aa (.o (.list l)))(D:l.length<=100000):be Ψ (n+2) O [.app x e]=aa (ag (a0 O (aX n e)) x (.o (.list (l ++ [v]))),.next):=by refine bI (f:=fun p=>j7 p fun I=>be Ψ (n+1) I []) (a:=(ag (a0 O (aX n e)) x (.o (.list (l ++ [v]))),.next)) ((bI h).trans (mI (bI (x:=(ah (a0 O (aX n e)) x).bind mD) ((bI F)) |>.trans (mI (if_pos D)))))
theorem c9{s:St}(h:b8 Ψ (n+1) O s=o):be Ψ (n+2) O [s]=o:=by
 show ((b8 Ψ (n+1) O s).bind fun p=>j7 p fun I=>be Ψ (n+1) I [])=o;refine rl h ?_;match o with
 |none=>rfl
 |some (_,.next)=>rfl
 |some (_,.ret _)=>rfl
theorem Pl(h:ah O 4=aa (.d (.int k))):aJ Ψ (n+4) O (.cmp .Eq (.bin .Mod (.var 4) (.int 6)) (.int j))=aa (decide (k.fmod 6=j)):=by refine db (n:=n+3) (x:=.int (k.fmod 6)) (y:=.int j) (fB (n:=n+2) (bG h) rfl rfl) rfl ?_;show aa (bf (.int (k.fmod 6)) (.int j))=_;refine rl (eE ..) rfl
end
noncomputable def rS(hd:D)(m:Nat)(rs:List D)(ex:List (Nat×V)):Sg:=[(0,.d hd),(1,.d (.int m)),(2,.o (.list rs)),(3,.d (sc m))]++ex
def o4(ex:List (Nat×V)):Prop:=ex = [] \/ ∃ x y z w,ex = [(4,.d x),(5,.d y),(6,.d z),(7,.d w)]
set_option maxHeartbeats 8000000 in
theorem G6 {n m:Nat} (hm:m=2\/m=3) hd rs (T:rs.length<=10) k a (J:o4 ex) xs :
 cw Ψ (n+21) (rS hd m rs ex) (.tup [4,5]) mu (.tup [.int k,.int a]::xs) =
  cw Ψ (n+20) (rS hd m (rs ++ [rD m (j4 m k a)]) [(4,.d (.int k)),(5,.d (.int a)),(6,.d (.int (uN a))),(7,.d (.int (wN a)))]) (.tup [4,5]) mu xs:=by
 have hb:∃ F,fX (rS hd m rs ex) (.tup [4,5]) (.tup [.int k,.int a])=aa (rS hd m rs F)/\b8 Ψ (n+19) (rS hd m rs F) (.asg2 6 7 (.val (.bin .Add (.int 1) (.bin .Mod (.var 5) (.int 4)))) (.val (.bin .Add (.int 1) (.bin .Mod (.bin .Add (.bin .Add (.var 5) (.int 1)) (.bin .Mod (.bin .FloorDiv (.var 5) (.int 4)) (.int 3))) (.int 4))))) =
  aa (rS hd m rs [(4,.d (.int k)),(5,.d (.int a)),(6,.d (.int (uN a))),(7,.d (.int (wN a)))],.next):=by
  refine lk fun _ S=>?_;clear xs T hm;rcases J with rfl|⟨x,y,z,w,rfl⟩
  . refine S ?_;exact ⟨[(4,.d (.int k)),(5,.d (.int a))],rfl,by kernel_rfl⟩
  . refine S ?_;exact ⟨[(4,.d (.int k)),(5,.d (.int a)),(6,.d z),(7,.d w)],rfl,by kernel_rfl⟩
 refine ae hb fun F Q=>ac Q fun h1 G=>?_;clear hb Q;refine gm h1 ((g7 (n:=n+19) G).trans ?_);have c:∀ (N:Nat) (j:Int),aJ Ψ (N+4) (rS hd m rs [(4,.d (.int k)),(5,.d (.int a)),(6,.d (.int (uN a))),(7,.d (.int (wN a)))]) (.cmp .Eq (.bin .Mod (.var 4) (.int 6)) (.int j))=aa (decide (k.fmod 6=j)):=fun N j=>Pl rfl;unfold j4;by_cases P:k.fmod 6=0
 . refine rl (if_pos P) ?_;refine c9 (n:=n+17) ((hG (n:=n+17) ((c (n+13) 0).trans (by refine rl (decide_eq_true P) ?_;rfl))).trans ?_);clear G h1 J c;clear F;rcases hm with rfl|rfl<;>exact (kZ (n:=n+15) (by kernel_rfl) rfl (by exact aH ‹_› (by decide))).trans rfl
 . refine rl (if_neg P) ?_;refine c9 (n:=n+17) ((gF (n:=n+17) ((c (n+13) 0).trans (by refine rl (decide_eq_false P) ?_;rfl))).trans ?_);by_cases h1:k.fmod 6=1
   . refine rl (if_pos h1) ?_;refine c9 (n:=n+15) ((hG (n:=n+15) ((c (n+11) 1).trans (by refine rl (decide_eq_true h1) ?_;rfl))).trans ?_);clear G h1 J c;clear h1;clear F;rcases hm with rfl|rfl<;>exact (kZ (n:=n+13) (by kernel_rfl) rfl (by exact aH ‹_› (by decide))).trans rfl
   . refine rl (if_neg h1) ?_;refine c9 (n:=n+15) ((gF (n:=n+15) ((c (n+11) 1).trans (by refine rl (decide_eq_false h1) ?_;rfl))).trans ?_);by_cases G:k.fmod 6=2
     . refine rl (if_pos G) ?_;refine c9 (n:=n+13) ((hG (n:=n+13) ((c (n+9) 2).trans (by refine rl (decide_eq_true G) ?_;rfl))).trans ?_);clear G h1 J c;clear G h1;clear F;rcases hm with rfl|rfl<;>exact (kZ (n:=n+11) (by kernel_rfl) rfl (by exact aH ‹_› (by decide))).trans rfl
     . refine rl (if_neg G) ?_;refine c9 (n:=n+13) ((gF (n:=n+13) ((c (n+9) 2).trans (by refine rl (decide_eq_false G) ?_;rfl))).trans ?_);by_cases L:k.fmod 6=3
       . refine rl (if_pos L) ?_;refine c9 (n:=n+11) ((hG (n:=n+11) ((c (n+7) 3).trans (by refine rl (decide_eq_true L) ?_;rfl))).trans ?_);clear G h1 J c;clear G h1;clear F;rcases hm with rfl|rfl<;>exact (kZ (n:=n+9) (by kernel_rfl) rfl (by exact aH ‹_› (by decide))).trans rfl
       . refine rl (if_neg L) ?_;refine c9 (n:=n+11) ((gF (n:=n+11) ((c (n+7) 3).trans (by refine rl (decide_eq_false L) ?_;rfl))).trans ?_);by_cases h4:k.fmod 6=4
         . refine rl (if_pos h4) ?_;refine c9 (n:=n+9) ((hG (n:=n+9) ((c (n+5) 4).trans (by refine rl (decide_eq_true h4) ?_;rfl))).trans ?_);clear G h1 J c;clear G h1;clear F;rcases hm with rfl|rfl<;>exact (kZ (n:=n+7) (by kernel_rfl) rfl (by exact aH ‹_› (by decide))).trans rfl
         . refine rl (if_neg h4) ?_;refine c9 (n:=n+9) ((gF (n:=n+9) ((c (n+5) 4).trans (by refine rl (decide_eq_false h4) ?_;rfl))).trans ?_);clear G h1 J c;clear G h1;clear F;rcases hm with rfl|rfl<;>exact (kZ (n:=n+7) (by kernel_rfl) rfl (by exact aH ‹_› (by decide))).trans rfl
noncomputable def rj(m:Nat)(D:List (Int×Int)):List Rl:=D.map fun p=>j4 m p.1 p.2
theorem G7(hm:m=2\/m=3)hd:∀ F n rs ex,o4 ex->rs.length+F.length<=10 ->
 ∃ G,o4 G/\cw Ψ (n+21+F.length) (rS hd m (rs.map (rD m)) ex) (.tup [4,5]) mu (F.map fun p=>.tup [.int p.1,.int p.2])=aa (rS hd m ((rs++rj m F).map (rD m)) G,.next):=by
 intro b
 induction b with
 |nil =>
  intro n rs ex J _;exact ⟨ex,J,by unfold rj;refine rl lL ?_;refine rl lL ?_;refine rl (m6 ..) ?_;rfl⟩
 |cons T F N =>
  intro n rs ex J L;obtain ⟨k,a⟩:=T;refine ae (N n (rs ++ [j4 m k a]) [(4,.d (.int k)),(5,.d (.int a)),(6,.d (.int (uN a))),(7,.d (.int (wN a)))] (.inr ⟨_,_,_,_,rfl⟩) (by simp at L ⊢;exact PC L)) fun G P=>ac P fun h1 S=>?_;try clear P
  refine ⟨G,h1,?_⟩;have X:n+21+((k,a)::F).length=n+F.length+1+21:=by refine rl el ?_;exact cf _ _ _
  have Q:n+F.length+1+20=n+21+F.length:=NS
  refine rl X (rl b7 ?_);refine (G6 (Ψ:=Ψ) (n:=n+F.length+1) hm hd (rs.map (rD m)) (by refine rl (aZ ..) ?_;simp at L;exact NR L) k a J (F.map fun p=>.tup [.int p.1,.int p.2])).trans ?_;refine rl Q ?_;have e3:rs.map (rD m) ++ [rD m (j4 m k a)]=(rs ++ [j4 m k a]).map (rD m):=by refine rl i4 ?_;rfl
  refine rl e3 (rl S (rl (lA ..) rfl))
theorem FF(hm:m=2\/m=3)hd F n rs ex(P:o4 ex)(Q:rs.length+F.length<=10){G:Prop}(k:∀ J,o4 J->(cw Ψ (n+21+F.length) (rS hd m (rs.map (rD m)) ex) (.tup [4,5]) mu (F.map fun p=>.tup [.int p.1,.int p.2])=aa (rS hd m ((rs++rj m F).map (rD m)) J,.next))->G):G:=ae (G7 hm hd F n rs ex P Q) fun N L=>ac L fun z1 z2=>k N z1 z2
theorem Bj{n:Nat}{O:Sg}(ha:an Ψ n O a=aa x)(hb:an Ψ n O b=aa (.int j))(F:0<=j)(h:lc x ab (aa j)=aa r):an Ψ (n+1) O (.cut a ab (aa b))=aa r:=by refine (bI ha).trans ((bI (a:=ab) rfl).trans ((bI (a:=aa j) ?_).trans h));show (((an Ψ n O b).bind d3).bind BW)=_;refine rl hb (if_pos F)
noncomputable def jZ(ds:List Int):List (Int×Int):=[(ds.getD 4 0,ds.getD 5 0),(ds.getD 6 0,ds.getD 7 0),(ds.getD 8 0,ds.getD 9 0)].take ((ds.getD 3 0).fmod 4).toNat
noncomputable def qX(m:Nat)(ds:List Int):List Rl:=rj m (jZ ds)
theorem QY k{m:Nat}(hm:m=2\/m=3)ds(hl:ds.length=20)(T:∀ x∈ds,0<=x):Φ (k+1) 21 [.list (ds.map .int),.int m]=aa (.list ((qX m ds).map (rD m))):=by
 rw [dz k 21 (by decide) (by decide) (fn:=r7) rfl];refine cM (n:=300) rfl ?_;have F:=lx (ds.getD 3 0) (b:=4) (by decide);have h4:=mU (ds.getD 3 0) (b:=4) (by decide);have J:(jZ ds).length<=3:=by refine rl pC ?_;simp;exact BM
 refine FF (Ψ:=Φ k) hm (.list (ds.map .int)) (jZ ds) (276 - (jZ ds).length) [] [] (.inl rfl) (by simp;exact aH ‹_› (by decide)) fun L G D=>?_;have Q:276 - (jZ ds).length+21+(jZ ds).length=297:=NT J
 rw [Q,List.nil_append] at D;refine et (n:=299) (I:=rS (.list (ds.map .int)) m [] []) ?_ ?_
 . clear D G Q J h4 F;clear L;rcases hm with rfl|rfl<;>kernel_rfl
 . have N:an (Φ k) 297 (rS (.list (ds.map .int)) m [] []) v4=aa (.tup ((jZ ds).map fun p=>.tup [.int p.1,.int p.2])):=by
    have P:(c8 20).map (fun i=>ds.getD i 0)=ds:=by have:=pK ds 0;rwa [hl] at this
    clear hl T J G D Q;generalize (fun i=>ds.getD i 0)=g at P;clear L;subst P;have F:0<=(g 3).fmod 4:=F;have h4:(g 3).fmod 4 < 4:=h4;refine Bj (n:=296) (j:=(g 3).fmod 4) (x:=.tup [.tup [.int (g 4),.int (g 5)],.tup [.int (g 6),.int (g 7)],.tup [.int (g 8),.int (g 9)]]) ?_ ?_ F ?_
    . clear h4 F;clear h4 F;rcases hm with rfl|rfl<;>kernel_rfl
    . clear h4 F;clear h4 F;rcases hm with rfl|rfl<;>kernel_rfl
    . show lc _ ab (aa ((g 3).fmod 4))=aa (.tup (([(g 4,g 5),(g 6,g 7),(g 8,g 9)].take ((g 3).fmod 4).toNat).map fun p=>.tup [.int p.1,.int p.2]));revert F h4;generalize (g 3).fmod 4=j;intro F h4;have:j=0\/j=1\/j=2\/j=3:=rQ ‹_› ‹_›
      clear h4 F hm;clear h4 F;rcases this with rfl|rfl|rfl|rfl<;>rfl
   have S:b8 (Φ k) 298 (rS (.list (ds.map .int)) m [] []) (.loop (.tup [4,5]) v4 mu)=cw (Φ k) 297 (rS (.list (ds.map .int)) m [] []) (.tup [4,5]) mu ((jZ ds).map fun p=>.tup [.int p.1,.int p.2]):=by
    refine jX (n:=297) ?_;show (an (Φ k) 297 (rS (.list (ds.map .int)) m [] []) v4).bind dQ=_;refine rl N rfl
   refine et (n:=298) (S.trans D) (bK (n:=296) ?_);clear h4 F hm D S N Q J;rcases G with rfl|⟨x,y,z,w,rfl⟩<;>rfl
theorem Iy(hm:m=2\/m=3)ds(hl:ds.length=20)(F:∀ x∈ds,0<=x):(∀ r∈qX m ds,r.ok2 m)/\(qX m ds).length<=3:=by
 have J:∀ i,i < 20->0<=ds.getD i 0:=fun i hi=>by
  refine rl f7 ?_;refine rl (dt (NU hl hi)) (F _ (sK _))
 refine ⟨fun r hr=>?_,?_⟩
 . clear F hl;refine bB hr fun p D G=>?_;subst G;refine Ix hm _ _ ?_
   have:=CX D;simp only [aL,a7,or_false] at this;clear D hm;rcases this with rfl|rfl|rfl<;>exact J _ (by decide)
 . have L:=lx (ds.getD 3 0) (b:=4) (by decide);have h4:=mU (ds.getD 3 0) (b:=4) (by decide);refine rl (aZ ..) (rl pC ?_);simp;exact BM
noncomputable def Pn:List (List Int):=[[8389048192121911274,-3550055125485641917,-1440771752368011620,-6333845781340707986],[6794810172467074373,1901736143494378007,8409376899596376432,3516302870623680066],[8756109708711196808,3863035679738500442,5972319052856130739,1079245023883434373],[159514286966033244,-9131917124991031250,-2624276368889032825,3883364387212965600]]
noncomputable def Po:List (List (List Int)):=[[[5750192569890809213,-3541238842066255281,2966401914035743144,-1926672114936953222],[3313134723150563520,-1579939305822132846,529344067295497451,-4363729961677198915],[-4794062710856554262,1713578045245444163,-3179495983727252203,-1070212610609621906],[5056085941107833790,-6883017376499719401,-4773734003382089104,8779936041354766146]],[[-7299810140967063839,6253859903769791411,-5685243413837761780,7868426630899093470],[2550338510997324213,-2342735517975372153,4164905238126626272,-5126526173830438222],[4511638047241446648,-4779793364715617846,1727847391386380579,-3165226637586315787],[-8483314757488085044,5070355287248770206,-6868748030358782985,-361107274256784560]],[[-6377177960154562755,-4267894587036932458,-9160968616009628824,-2653327859907630399],[-925386691174542831,5582254064927455594,-6356849252680097597,7196820792056757653],[2368130659893034178,8875771415995032603,3982697387022336237,-7956405930585216954],[-6228464761852129386,279175994249869039,-4613898034722827327,-2504614661605197030]],[[-1469834585040929973,-6362908614013626339,144732142088372086,-9146699269868692408],[-4335854808978270835,4819457852774216287,-7119645464833336904,6434024579903518346],[273116632916340297,6780757389018338722,8890040762135969019,3996966733163272653],[-2163941213823905396,4343699542278093029,-7595403775329460162,5958266269407395088]]]
noncomputable def o5{α:Type}(l:List α)(d:α):Int->α
 | .ofNat n=>l.getD (n - 1) d
 | .negSucc _=>d
noncomputable def hR:List Int->Int
 |[a,b]=>o5 (o5 Pn [] a) 0 b
 |[a,b,c]=>o5 (o5 (o5 Po [] a) [] b) 0 c
 |_=>0
theorem hR2:(vm.all fun r=>decide (bD r=hR r))=true:=by kernel_rfl
theorem hR3:(vn.all fun r=>decide (bD r=hR r))=true:=by kernel_rfl
theorem Pp(hm:m=2\/m=3)(h:r∈eO m):bD r=hR r:=by
 rcases hm with rfl|rfl
 . exact of_decide_eq_true (bq.mp hR2 r h)
 . exact of_decide_eq_true (bq.mp hR3 r h)
section
variable {K:Type} [DecidableEq K] {h h':K->Int}
theorem EF{es:List K}(H:∀ k∈es,h k=h' k)(i:Nat):iC h es i=iC h' es i:=by
 unfold iC;cases e:es[i]? with
 |none=>rfl
 |some k=>refine rl (lG ..) ?_;refine rl (lG ..) ?_;refine rl (H k (fM e)) ?_;rfl
theorem FG{t:SetTable}{es:List K}{k:K}{D:Nat}(H:∀ x∈es,h x=h' x)(hk:h k=h' k):
 iM h t es D k=iM h' t es D k /\ ∀ L es',iM h t es D k=aa (L,es')->∀ x∈es',x∈es\/x=k:=by
 have hm:∀ p,∀ x∈es.take p++k::es.drop p,x∈es\/x=k:=fun p x F=>by
  rcases bC.mp F with F|F
  . exact .inl (CX F)
  . clear hk H D t;rcases aL.mp F with rfl|F
    . exact .inr rfl
    . exact .inl (List.mem_of_mem_drop F)
 unfold iM;obtain ⟨t₁,p⟩:=t.put D;simp only;have e:(es.take p++k::es.drop p).map h=(es.take p++k::es.drop p).map h':=gt fun x F=>by
  clear t₁ D t;rcases hm p x F with F|rfl
  . exact H x F
  . exact hk
 refine rl e (⟨rfl,fun L es' hq x F=>?_⟩);refine lk fun _ J=>?_;split at hq
 . split at hq
   . split at hq
     . split at hq
       . have:=congrArg Prod.snd (jC hq);simp only at this;rw [←this] at F;refine ae (List.mem_filterMap.mp F) fun i G=>ac G fun _ hi=>?_;clear G;refine J (hm p x (fM hi))
       . clear F hm e;exact nS hq
     . clear F hm e;exact nS hq
   . have:=congrArg Prod.snd (jC hq);simp only at this;rw [←this] at F;refine J (hm p x F)
 . clear F hm e;exact nS hq
theorem FH{t:SetTable}{es:List K}{k:K}(H:∀ x∈es,h x=h' x)(hk:h k=h' k):
 e9 h t es k=e9 h' t es k /\ ∀ F es',e9 h t es k=aa (F,es')->∀ x∈es',x∈es\/x=k:=by
 unfold e9
 refine rl (funext fun i=>EF H i) ?_;refine rl hk ?_
 split
 . exact ⟨rfl,fun D D h=>by exact nS h⟩
 . split
   . exact FG H hk
   . refine ⟨rfl,fun F es' hq x G=>?_⟩;refine lk fun _ J=>bL hq fun D hq=>?_
     have:=congrArg Prod.snd (jC hq);simp only at this;rw [←this] at G;refine J (.inl G)
   . exact ⟨rfl,fun D D h=>by exact nS h⟩
theorem zF{K:Type}{D:SetTable->List K->K->Option (SetTable×List K)}{t:SetTable}{es r:List K}{k:K}:gj D t es (k::r)=(match D t es k with|some (t',es')=>gj D t' es' r|none=>ab):=rfl
theorem EG:∀ {ts:List K} {t:SetTable} {es:List K},(∀ x∈es,h x=h' x)->(∀ x∈ts,h x=h' x)->gj (e9 h) t es ts=gj (e9 h') t es ts:=by
 intro P;induction P with
 |nil =>
  intro t es _ _;exact rfl
 |cons k ts F =>
  intro t es H J;have hk:=J k aY;refine ac (FH (t:=t) H hk) fun G L=>rl zF ?_;refine rl zF (rl (az G) ?_);cases hq:e9 h t es k with
  |none=>rfl
  |some p =>
   obtain ⟨N,es'⟩:=p;exact F (fun x D=>by
    clear G;rcases L N es' hq x D with D|rfl
    . exact H x D
    . exact hk) fun x D=>J x (aN _ D)
end
noncomputable def bl(m:Nat)(p:Int×Int):D:=.tup [.str Cb,.int p.1,.int p.2,sc m]
section
variable {Ψ:Nat->List D->Option D} {n:Nat} {k v:Ex} {x:Nat} {d kd vd y:D}
theorem kS(hv:an Ψ n O v=aa vd)(hk:an Ψ n O k=aa kd)(D:ah O x=aa (.o d))(h:gk d kd vd=aa y):b8 Ψ (n+1) O (.setk x k v)=aa (ag O x (.o y),.next):=by refine (bI hv).trans ((bI hk).trans (mI (a:=ag O x (.o y)) ?_));show ((ah O x).bind mD).bind _=_;refine rl D (mI h)
end
theorem Lm k x y v w:Φ (k+2) 17 [aj [x,y],bl 2 (v,w)]=aa (aj [aA v w x,aA v w y]):=by
 rw [dz (k+1) 17 (by decide) (by decide) (fn:=vZ) rfl];refine cM (n:=300) rfl (vh (n:=298) (x:=.list [.int x,.int y]) (by kernel_rfl) ?_);refine et (n:=298) (I:=[(0,.d (aj [x,y])),(1,.d (bl 2 (v,w))),(2,.o (.list [.int (aA v w x),.int (aA v w y)])),(3,.d (.int 1))]) ?_ (bK (n:=296) (by kernel_rfl));refine (hG (n:=297) (by kernel_rfl)).trans (c9 (n:=295) ((jX (n:=295) (xs:=[.int 0,.int 1]) (by kernel_rfl)).trans ?_));refine (gm (n:=294) (I:=[(0,.d (aj [x,y])),(1,.d (bl 2 (v,w))),(2,.o (.list [.int x,.int y])),(3,.d (.int 0))]) (σ₂:=[(0,.d (aj [x,y])),(1,.d (bl 2 (v,w))),(2,.o (.list [.int (aA v w x),.int y])),(3,.d (.int 0))]) rfl ?_).trans ?_
 . exact c9 (n:=292) (kS (n:=292) (bz (n:=291) (ds:=[.int x,.int v,.int w]) (by kernel_rfl) (iU k x v w)) (kd:=.int 0) (by kernel_rfl) rfl (by kernel_rfl))
 refine (gm (n:=293) (I:=[(0,.d (aj [x,y])),(1,.d (bl 2 (v,w))),(2,.o (.list [.int (aA v w x),.int y])),(3,.d (.int 1))]) (σ₂:=[(0,.d (aj [x,y])),(1,.d (bl 2 (v,w))),(2,.o (.list [.int (aA v w x),.int (aA v w y)])),(3,.d (.int 1))]) rfl ?_).trans vk;exact c9 (n:=291) (kS (n:=291) (bz (n:=290) (ds:=[.int y,.int v,.int w]) (by kernel_rfl) (iU k y v w)) (kd:=.int 1) (by kernel_rfl) rfl (by kernel_rfl))
theorem Ln k x y z v w:Φ (k+2) 17 [aj [x,y,z],bl 3 (v,w)]=aa (aj [aA v w x,aA v w y,aA v w z]):=by
 rw [dz (k+1) 17 (by decide) (by decide) (fn:=vZ) rfl];refine cM (n:=300) rfl (vh (n:=298) (x:=.list [.int x,.int y,.int z]) (by kernel_rfl) ?_);refine et (n:=298) (I:=[(0,.d (aj [x,y,z])),(1,.d (bl 3 (v,w))),(2,.o (.list [.int (aA v w x),.int (aA v w y),.int (aA v w z)])),(3,.d (.int 2))]) ?_ (bK (n:=296) (by kernel_rfl));refine (hG (n:=297) (by kernel_rfl)).trans (c9 (n:=295) ((jX (n:=295) (xs:=[.int 0,.int 1,.int 2]) (by kernel_rfl)).trans ?_));refine (gm (n:=294) (I:=[(0,.d (aj [x,y,z])),(1,.d (bl 3 (v,w))),(2,.o (.list [.int x,.int y,.int z])),(3,.d (.int 0))]) (σ₂:=[(0,.d (aj [x,y,z])),(1,.d (bl 3 (v,w))),(2,.o (.list [.int (aA v w x),.int y,.int z])),(3,.d (.int 0))]) rfl ?_).trans ?_
 . exact c9 (n:=292) (kS (n:=292) (bz (n:=291) (ds:=[.int x,.int v,.int w]) (by kernel_rfl) (iU k x v w)) (kd:=.int 0) (by kernel_rfl) rfl (by kernel_rfl))
 refine (gm (n:=293) (I:=[(0,.d (aj [x,y,z])),(1,.d (bl 3 (v,w))),(2,.o (.list [.int (aA v w x),.int y,.int z])),(3,.d (.int 1))]) (σ₂:=[(0,.d (aj [x,y,z])),(1,.d (bl 3 (v,w))),(2,.o (.list [.int (aA v w x),.int (aA v w y),.int z])),(3,.d (.int 1))]) rfl ?_).trans ?_
 . exact c9 (n:=291) (kS (n:=291) (bz (n:=290) (ds:=[.int y,.int v,.int w]) (by kernel_rfl) (iU k y v w)) (kd:=.int 1) (by kernel_rfl) rfl (by kernel_rfl))
 refine (gm (n:=292) (I:=[(0,.d (aj [x,y,z])),(1,.d (bl 3 (v,w))),(2,.o (.list [.int (aA v w x),.int (aA v w y),.int z])),(3,.d (.int 2))]) (σ₂:=[(0,.d (aj [x,y,z])),(1,.d (bl 3 (v,w))),(2,.o (.list [.int (aA v w x),.int (aA v w y),.int (aA v w z)])),(3,.d (.int 2))]) rfl ?_).trans vk;exact c9 (n:=290) (kS (n:=290) (bz (n:=289) (ds:=[.int z,.int v,.int w]) (by kernel_rfl) (iU k z v w)) (kd:=.int 2) (by kernel_rfl) rfl (by kernel_rfl))
theorem QZ k(hm:m=2\/m=3)row(hl:row.length=m)p:Φ (k+2) 17 [aj row,bl m p]=aa (aj (row.map (aA p.1 p.2))):=by
 rcases hm with rfl|rfl
 . refine kX hl fun x y D=>?_;subst D;exact Lm k x y p.1 p.2
 . refine mo hl fun x y z D=>?_;subst D;exact Ln k x y z p.1 p.2
noncomputable def dA(here:List Int)(fw:List (List Int)×List (List Int))(p:Int×Int):List (List Int)×List (List Int) :=
 if fw.1.contains (here.map (aA p.1 p.2)) then fw else (fw.1 ++ [here.map (aA p.1 p.2)],fw.2 ++ [here.map (aA p.1 p.2)])
noncomputable def f2(steps:List (Int×Int)):Nat->List (List Int)->List (List Int)->Option (List (List Int))
 |0,_,_=>ab
 |n+1,found,waiting=>match waiting.getLast? with
  |none=>aa found
  |some here=>match steps.foldl (dA here) (found,waiting.dropLast) with
   |(f,w)=>if f.length<=1000/\w.length<=1000 then f2 steps n f w else ab
structure OG (O:Sg) (S:D) (f w:List (List Int)):Prop where
 g1:ah O 1=aa (.d S)
 g2:ah O 2=aa (.o (.tdict f))
 g3:ah O 3=aa (.o (.list (w.map aj)))
noncomputable def j0:List St:=[.asg 6 (.val (.call 17 [.var 4,.var 5])),.ite (.cmp .NotIn (.var 6) (.var 2)) [.setk 2 (.var 6) (.bool true),.app 3 (.var 6)] []]
noncomputable def vq:List St:=[.pop 4 3,.loop (.one 5) (.var 1) j0]
noncomputable def vr:Ex:=.cmp .Gt (.prim .len (.var 3)) (.int 0)
theorem yY{O:Sg}{i j:Nat}(h:ah O j=aa (.o d)\/ah O j=aa (.d d)):ah (dO O i) j=aa (.o d)/\j≠i\/ah (dO O i) j=aa (.d d):=by
 unfold dO;by_cases e:j=i
 . subst e;rcases h with h|h
   . refine rl h (.inr bZ)
   . refine rl h (.inr h)
 . split
   . rcases h with h|h
     . exact .inl ⟨a9 h e,e⟩
     . exact .inr (a9 h e)
   . rcases h with h|h
     . exact .inl ⟨h,e⟩
     . exact .inr h
theorem Iz:∀ {is:List Nat} {O:Sg},(ah O j=aa (.o d)\/ah O j=aa (.d d))->(ah (a0 O is) j=aa (.o d)/\j ∉ is)\/ah (a0 O is) j=aa (.d d):=by
 intro Q;induction Q with
 |nil =>
  intro O h;rcases h with h|h
  . exact .inl ⟨h,by exact fun h=>a7 h⟩
  . exact .inr h
 |cons i is G =>
  intro O h;show (ah (a0 (dO O i) is) j=aa (.o d)/\j ∉ i::is)\/ah (a0 (dO O i) is) j=aa (.d d);refine lk fun _ J=>?_;rcases yY (i:=i) h with ⟨h1,L⟩|h1
  . rcases G (.inl h1) with ⟨F,N⟩|F
    . refine J ?_;exact .inl ⟨F,fun hm=>by
       rcases aL.mp hm with e|hm
       . exact L e
       . exact N hm⟩
    . refine J (.inr F)
  . rcases G (.inr h1) with ⟨F,N⟩|F
    . have:∀ {is:List Nat} {O:Sg},ah O j=aa (.d d)->ah (a0 O is) j=aa (.d d):=fun {is}=>by
       induction is with
       |nil=>exact fun h=>h
       |cons i is ih =>
        intro O h;refine ih (O:=dO O i) ?_;rcases yY (i:=i) (.inr h) with ⟨h',_⟩|h'
        . unfold dO at h' ⊢;refine lk fun _ J=>?_;split at h'
          . rename_i x P;by_cases e:j=i
            . try clear x G
              subst e;rw [P] at h;contradiction
            . rw [a9 h e] at h';replace h':=sI h';injection h'
          . rw [h] at h';replace h':=sI h';injection h'
        . exact h'
      rw [this h1] at F;replace F:=sI F;injection F
    . refine J (.inr F)
theorem IA{O:Sg}{j:Nat}{v:V}(h:ah O j=aa v):j∈O.map (·.1):=by
 induction O with
 |nil=>exact nS h
 |cons p O ih =>
  obtain ⟨k,x⟩:=p;unfold ah at h;split at h
  . rename_i e;refine rl b7 (aL.mpr (.inl (eq e).symm))
  . refine rl b7 (aN _ (ih h))
theorem EY{O:Sg}(h:ah O j=aa (.o d)\/ah O j=aa (.d d)):ah (kP O) j=aa (.d d):=by
 rcases Iz (is:=O.map (·.1)) h with ⟨_,F⟩|F
 . exact absurd (by rcases h with h|h<;>exact IA h) F
 . exact F
theorem jo{O:Sg}{i:Nat}(h:ah O i=aa (.d d)):dO O i=O:=by unfold dO;refine rl h ?_;rfl
section
variable {Ψ:Nat->List D->Option D} {n m:Nat} {S:D}
theorem J4(i:∀ row p,row.length=m->Ψ 17 [aj row,bl m p]=aa (aj (row.map (aA p.1 p.2)))){here:List Int}(hh:here.length=m):∀ (F:List (Int×Int)) (n:Nat) (O:Sg) (fw:List (List Int)×List (List Int)),
 OG O S fw.1 fw.2->ah O 4=aa (.d (aj here))->fw.1.length+F.length<=10000->fw.2.length+F.length<=10000 ->
 ∃ I,OG I S (F.foldl (dA here) fw).1 (F.foldl (dA here) fw).2/\cw Ψ (n+15+F.length) O (.one 5) j0 (F.map (bl m))=aa (I,.next):=by
 intro r_;induction r_ with
 |nil =>
  intro n O fw g h4 _ _;exact ⟨O,g,rfl⟩
 |cons p F f =>
  intro n O fw g h4 L J;have V:∃ I,OG I S (dA here fw p).1 (dA here fw p).2/\ah I 4=aa (.d (aj here))/\be Ψ (n+15+F.length) (ag O 5 (.d (bl m p))) j0=aa (I,.next):=by
   have e:n+15+F.length=n+F.length+15:=cf _ _ _
   refine rl e ?_;generalize n+F.length=N;have j:OG (ag O 5 (.d (bl m p))) S fw.1 fw.2:=⟨a9 g.g1 (by decide),a9 g.g2 (by decide),a9 g.g3 (by decide)⟩;have a:ah (ag O 5 (.d (bl m p))) 4=aa (.d (aj here)):=a9 h4 (by decide);have k:ah (ag O 5 (.d (bl m p))) 5=aa (.d (bl m p)):=bZ;have u:a0 (ag O 5 (.d (bl m p))) (aX (N+13) (.call 17 [.var 4,.var 5]))=ag O 5 (.d (bl m p)):=by
    show dO (dO (ag O 5 (.d (bl m p))) 4) 5=_;refine rl (jo a) (rl (jo k) rfl)
   have hc:an Ψ (N+13) (ag O 5 (.d (bl m p))) (.call 17 [.var 4,.var 5])=aa (aj (here.map (aA p.1 p.2))) :=
    bz (n:=N+12) (bk (bG a) (bk (bG k) ey)) (i here p hh)
   have q:b8 Ψ (N+14) (ag O 5 (.d (bl m p))) (.asg 6 (.val (.call 17 [.var 4,.var 5])))=aa (ag (ag O 5 (.d (bl m p))) 6 (.d (aj (here.map (aA p.1 p.2)))),.next):=by
    show (an Ψ (N+13) (a0 (ag O 5 (.d (bl m p))) _) _).map (fun d=>(ag (a0 (ag O 5 (.d (bl m p))) _) 6 (.d d),Fl.next))=_;refine rl u (rl hc rfl)
   have Q:OG (ag (ag O 5 (.d (bl m p))) 6 (.d (aj (here.map (aA p.1 p.2))))) S fw.1 fw.2:=⟨a9 j.g1 (by decide),a9 j.g2 (by decide),a9 j.g3 (by decide)⟩;have P:ah (ag (ag O 5 (.d (bl m p))) 6 (.d (aj (here.map (aA p.1 p.2))))) 4=aa (.d (aj here)):=a9 a (by decide);have b:ah (ag (ag O 5 (.d (bl m p))) 6 (.d (aj (here.map (aA p.1 p.2))))) 6=aa (.d (aj (here.map (aA p.1 p.2)))):=bZ;show ∃ I,_/\_/\be Ψ (N+14+1) _ j0=_;refine rl (g7 (n:=N+14) q) ?_;generalize ag (ag O 5 (.d (bl m p))) 6 (.d (aj (here.map (aA p.1 p.2))))=τ at Q P b;have D:aJ Ψ (N+12) (a0 τ (aX (N+12) (.cmp .NotIn (.var 6) (.var 2)))) (.cmp .NotIn (.var 6) (.var 2))=aa (!fw.1.contains (here.map (aA p.1 p.2))):=by
    show aJ Ψ (N+12) τ _=_;refine db (n:=N+11) (bG b) (hI Q.g2) (congrArg (gc (!·)) (vN _ _))
   cases hq:fw.1.contains (here.map (aA p.1 p.2)) with
   |true =>
    rw [hq] at D;have c:dA here fw p=fw:=by unfold dA;refine rl hq ?_;rfl
    refine ⟨τ,by refine rl c ?_;exact Q,P,?_⟩;exact c9 (n:=N+12) ((gF (n:=N+12) D).trans rfl)
   |false =>
    rw [hq] at D;have c:dA here fw p=(fw.1 ++ [here.map (aA p.1 p.2)],fw.2 ++ [here.map (aA p.1 p.2)]):=by unfold dA;refine rl hq ?_;rfl
    have hk:gk (.tdict fw.1) (aj (here.map (aA p.1 p.2))) (.bool true)=aa (.tdict (fw.1 ++ [here.map (aA p.1 p.2)])):=by
     refine rl (uZ (BO L)) (rl hq rfl)
    have X:ah (ag τ 2 (.o (.tdict (fw.1 ++ [here.map (aA p.1 p.2)])))) 6=aa (.d (aj (here.map (aA p.1 p.2)))):=a9 b (by decide);have G:a0 (ag τ 2 (.o (.tdict (fw.1 ++ [here.map (aA p.1 p.2)])))) (aX (N+9) (.var 6))=ag τ 2 (.o (.tdict (fw.1 ++ [here.map (aA p.1 p.2)]))):=jo X;have y:be Ψ (N+11) (ag τ 2 (.o (.tdict (fw.1 ++ [here.map (aA p.1 p.2)])))) [.app 3 (.var 6)]=aa (ag (ag τ 2 (.o (.tdict (fw.1 ++ [here.map (aA p.1 p.2)])))) 3 (.o (.list (fw.2.map aj ++ [aj (here.map (aA p.1 p.2))]))),.next):=by
     have:=kZ (Ψ:=Ψ) (n:=N+9) (O:=ag τ 2 (.o (.tdict (fw.1 ++ [here.map (aA p.1 p.2)])))) (e:=.var 6) (x:=3) (l:=fw.2.map aj) (v:=aj (here.map (aA p.1 p.2))) (by refine rl G ?_;exact bG X) (by refine rl G ?_;exact a9 Q.g3 (by decide)) (by refine rl (aZ ..) ?_;exact BO J);rw [G] at this;exact this
    refine ⟨ag (ag τ 2 (.o (.tdict (fw.1 ++ [here.map (aA p.1 p.2)])))) 3 (.o (.list (fw.2.map aj ++ [aj (here.map (aA p.1 p.2))]))),?_,a9 (a9 P (by decide)) (by decide),?_⟩
    . refine rl c ?_;exact ⟨a9 (a9 Q.g1 (by decide)) (by decide),a9 bZ (by decide),by refine rl bZ ?_;refine rl i4 ?_;rfl⟩
    . exact c9 (n:=N+12) ((hG (n:=N+12) D).trans ((g7 (n:=N+11) (kS (n:=N+10) rfl (bG b) Q.g2 hk)).trans y))
  refine lk fun _ r=>ae V fun σ₁ T=>aE T fun g1 a t=>?_;clear V T;have hlen:(dA here fw p).1.length<=fw.1.length+1/\(dA here fw p).2.length<=fw.2.length+1:=by
   unfold dA;split
   . exact ⟨by exact fo _,by exact fo _⟩
   . exact ⟨by refine rl gX ?_;exact i3 _,by refine rl gX ?_;exact i3 _⟩
  refine ae (f n σ₁ (dA here fw p) g1 a (by rw [el] at L;exact PE L hlen) (by rw [el] at J;exact PF J hlen)) fun I T=>ac T fun z h'=>?_;clear T;refine r (⟨I,z,?_⟩);show cw Ψ (n+15+F.length+1) O (.one 5) j0 (bl m p::F.map (bl m))=_;exact (gm rfl t).trans h'
theorem IB(F:∀ row p,row.length=m->Ψ 17 [aj row,bl m p]=aa (aj (row.map (aA p.1 p.2)))){here:List Int}(hh:here.length=m)(D:List (Int×Int))(n:Nat)(O:Sg)(fw:List (List Int)×List (List Int))(N:OG O S fw.1 fw.2)(P:ah O 4=aa (.d (aj here)))(Q:fw.1.length+D.length<=10000)(T:fw.2.length+D.length<=10000){G:Prop}(k:∀ I,OG I S (D.foldl (dA here) fw).1 (D.foldl (dA here) fw).2->cw Ψ (n+15+D.length) O (.one 5) j0 (D.map (bl m))=aa (I,.next)->G):G:=ae (J4 F hh D n O fw N P Q T) fun L J=>ac J fun z1 z2=>k L z1 z2
theorem J5(T:∀ row p,row.length=m->Ψ 17 [aj row,bl m p]=aa (aj (row.map (aA p.1 p.2)))){D:List (Int×Int)}(P:D.length<=100):∀ (n:Nat) (O:Sg) (f w r:List (List Int)),
 OG O (.list (D.map (bl m))) f w->(∀ x∈w,x.length=m)->f.length<=1000->w.length<=1000->f2 D n f w=aa r->∃ I,ah I 2=aa (.o (.tdict r))/\oY Ψ (n+20+D.length) O vr vq=aa (I,.next):=by
 intro r_;induction r_ with
 |zero =>
  intro O f w r _ _ _ _ h;exact nS h
 |succ n l =>
  intro O f w r g v k a h;have e:n+1+20+D.length=(n+20+D.length)+1:=lM _ _
  refine rl e ?_;have hc:aJ Ψ (n+20+D.length) O vr=aa (decide (0 < w.length)):=by
   have e:n+20+D.length=(n+D.length+18)+2:=cf _ _ _
   refine rl e ?_;refine db (n:=n+D.length+18+1) (y:=.int 0) (og (n:=n+D.length+18) (hI g.g3) (by refine rl (aZ ..) ?_;exact aH ‹_› (by decide))) rfl ?_;refine rl (aZ ..) ?_;show aa (decide ((w.length:Int) > 0))=_;congr 1;exact decide_eq_decide.mpr NV
  unfold f2 at h;cases hl:w.getLast? with
  |none =>
   rw [hl] at h;clear e P T;replace h:=sI h;subst h;have:w = []:=List.getLast?_eq_none_iff.mp hl;subst this;refine ⟨O,g.g2,?_⟩;exact bI hc
  |some here =>
   rw [hl] at h;simp only at h;have i:w ≠ []:=fun e=>by rw [e] at hl;exact nS hl
   rw [decide_eq_true (Dj.mpr i)] at hc;have G:here.length=m:=v here (wA hl);have V:b8 Ψ (n+19+D.length) O (.pop 4 3)=aa (ag (ag O 3 (.o (.list (w.dropLast.map aj)))) 4 (.d (aj here)),.next):=by
    have e:n+19+D.length=(n+18+D.length)+1:=lM _ _
    refine rl e ?_;have L:(w.map aj).getLast? = aa (aj here):=by refine rl List.getLast?_map ?_;refine rl hl ?_;rfl
    show (((ah O 3).bind mD).bind oG).bind (B7 O 4 3)=_;refine rl g.g3 ?_;refine (if_pos (by refine rl (aZ ..) ?_;exact aH ‹_› (by decide))).trans ?_;refine rl L (rl List.map_dropLast rfl)
   have g4:OG (ag (ag O 3 (.o (.list (w.dropLast.map aj)))) 4 (.d (aj here))) (.list (D.map (bl m))) f w.dropLast:=⟨a9 (a9 g.g1 (by decide)) (by decide),a9 (a9 g.g2 (by decide)) (by decide),a9 bZ (by decide)⟩;have c:w.dropLast.length<=1000:=by refine rl List.length_dropLast ?_;exact NW a
   refine lk fun _ S=>IB T G D (n+2) _ (f,w.dropLast) g4 bZ (by simp only;exact oq4 P k) (by simp only;exact oq4 P c) fun σ₁ g1 h1=>?_;generalize j:D.foldl (dA here) (f,w.dropLast)=fw at h g1;obtain ⟨f',u⟩:=fw;simp only at h g1;refine bL h fun hb h=>?_;have X:∀ x∈u,x.length=m:=by
    have b:∀ (D:List (Int×Int)) (fw:List (List Int)×List (List Int)),(∀ x∈fw.2,x.length=m)->∀ x∈(D.foldl (dA here) fw).2,x.length=m:=by
     intro D;induction D with
     |nil=>exact fun fw h=>h
     |cons p D ih =>
      intro fw h;refine ih _ fun x J=>?_;unfold dA at J;refine lk fun _ S=>?_;split at J
      . refine S (h x J)
      . rcases bC.mp J with J|J
        . refine S (h x J)
        . try clear g1;try clear h1;try clear hb;try clear h
          rcases aV.mp J with rfl;refine S (rl (aZ ..) G)
    have:=b D (f,w.dropLast) fun x J=>v x ((CQ w).subset J);rw [j] at this;exact this
   refine ae (l σ₁ f' u r g1 X hb.1 hb.2 h) fun I q=>ac q fun k2 z=>?_;clear q;refine S (⟨I,k2,?_⟩);have F:b8 Ψ (n+18+D.length) (ag (ag O 3 (.o (.list (w.dropLast.map aj)))) 4 (.d (aj here))) (.loop (.one 5) (.var 1) j0)=aa (σ₁,.next):=by
    have e:n+18+D.length=(n+2+15+D.length)+1:=lM _ _
    refine rl e ?_;have Q:a0 (ag (ag O 3 (.o (.list (w.dropLast.map aj)))) 4 (.d (aj here))) (aX (n+2+15+D.length) (.var 1))=ag (ag O 3 (.o (.list (w.dropLast.map aj)))) 4 (.d (aj here)):=by
     have e:n+2+15+D.length=(n+16+D.length)+1:=lM _ _
     refine rl e (jo g4.g1)
    have:=jX (Ψ:=Ψ) (n:=n+2+15+D.length) (O:=ag (ag O 3 (.o (.list (w.dropLast.map aj)))) 4 (.d (aj here))) (it:=.var 1) (t:=.one 5) (body:=j0) (xs:=D.map (bl m)) (by
     refine rl Q ?_;have e:n+2+15+D.length=(n+16+D.length)+1:=lM _ _
     refine rl e ?_;show (an Ψ (n+16+D.length+1) _ (.var 1)).bind dQ=_;refine rl (bG g4.g1) ?_;rfl)
    refine rl this (rl Q (rl h1 rfl))
   have N:be Ψ (n+20+D.length) O vq=aa (σ₁,.next):=by
    have e1:n+20+D.length=(n+19+D.length)+1:=lM _ _
    have e2:n+19+D.length=(n+17+D.length)+2:=NX
    have e3:n+18+D.length=(n+17+D.length)+1:=lM _ _
    refine rl e1 ((g7 (n:=n+19+D.length) V).trans (rl e2 ?_));rw [e3] at F;exact c9 F
   exact (bI hc).trans ((bI N).trans z)
theorem IC(J:∀ row p,row.length=m->Ψ 17 [aj row,bl m p]=aa (aj (row.map (aA p.1 p.2)))){D:List (Int×Int)}(F:D.length<=100)(n:Nat)(O:Sg)(f w r:List (List Int))(P:OG O (.list (D.map (bl m))) f w)(Q:(∀ x∈w,x.length=m))(S:f.length<=1000)(V:w.length<=1000)(T:f2 D n f w=aa r){G:Prop}(k:∀ I,ah I 2=aa (.o (.tdict r))->oY Ψ (n+20+D.length) O vr vq=aa (I,.next)->G):G:=ae (J5 J F n O f w r P Q S V T) fun N L=>ac L fun z1 z2=>k N z1 z2
end
theorem zSW{Ψ:Nat->List D->Option D}{n:Nat}{c:Ex}{b:List St}{O:Sg}:b8 Ψ (n+1) O (.whil c b)=oY Ψ n O c b:=rfl
theorem Ra k(hm:m=2\/m=3)(hl:row.length=m)(G:F.length<=100)(h:f2 F 40 [row] [row]=aa r){s:List D}(N:dJ (r.map aj)=aa s):Φ (k+3) 18 [aj row,.list (F.map (bl m))]=aa (.list s):=by
 rw [dz (k+2) 18 (by decide) (by decide) (fn:=Q18) rfl];have g:OG [(0,.d (aj row)),(1,.d (.list (F.map (bl m)))),(2,.o (.tdict [row])),(3,.o (.list [aj row]))] (.list (F.map (bl m))) [row] [row]:=⟨rfl,rfl,rfl⟩;refine IC (fun row p h=>QZ k hm row h p) G (237 - F.length+40) _ [row] [row] r g (fun x Q=>by rcases aV.mp Q with rfl;exact hl) (ef _) (ef _) (by
  have mono:∀ (n:Nat) (f w r:List (List Int)),f2 F n f w=aa r->f2 F (n+1) f w=aa r:=by
   intro n;induction n with
   |zero=>intro f w r h;exact nS h
   |succ n ih =>
    intro f w r h;unfold f2 at h ⊢;split at h
    . exact h
    . rename_i here _;simp only at h ⊢;refine bL h fun hb h=>rl (if_pos hb) ?_;exact ih _ _ _ h
  have:∀ j,f2 F (j+40) [row] [row]=aa r:=by
   intro j;induction j with
   |zero=>refine rl (tx ..) ?_;exact h
   |succ j ih=>refine rl (cf ..) ?_;exact mono _ _ _ _ ih
  exact this _) fun I P L=>?_
 have e:237 - F.length+40+20+F.length=297:=NY G
 rw [e] at L;refine cM (n:=300) rfl (et (n:=299) (I:=[(0,.d (aj row)),(1,.d (.list (F.map (bl m)))),(2,.o (.tdict [row])),(3,.o (.list [aj row]))]) ?_ ?_)
 . rcases hm with rfl|rfl
   . refine kX hl fun x y J=>?_;subst J;kernel_rfl
   . refine mo hl fun x y z J=>?_;subst J;kernel_rfl
 . refine et (n:=298) (I:=I) (rl (zSW (n:=297)) L) (bK (n:=296) ?_);show (bS (an (Φ (k+2)) 295 (kP I)) (kP I) (.var 2)).bind (hX .sorted)=_;refine rl (dy (EY (.inl P))) ?_;show (dJ (r.map aj)).map D.list=_;exact congrArg _ N
noncomputable def fG:List (List (List (List Int))):=[
 [[[1,1]],[[1,2]],[[1,3]],[[1,4]],[[2,1]],[[2,2]],[[2,3]],[[2,4]],[[3,1]],[[3,2]],[[3,3]],[[3,4]],[[4,1]],[[4,2]],[[4,3]],[[4,4]]],
 [[[1,1],[2,2]],[[1,2],[2,1]],[[1,3],[2,3]],[[1,4],[2,4]],[[3,1],[3,2]],[[3,3]],[[3,4]],[[4,1],[4,2]],[[4,3]],[[4,4]]],
 [[[1,1],[3,3]],[[1,2],[3,2]],[[1,3],[3,1]],[[1,4],[3,4]],[[2,1],[2,3]],[[2,2]],[[2,4]],[[4,1],[4,3]],[[4,2]],[[4,4]]],
 [[[1,1],[4,4]],[[1,2],[4,2]],[[1,3],[4,3]],[[1,4],[4,1]],[[2,1],[2,4]],[[2,2]],[[2,3]],[[3,1],[3,4]],[[3,2]],[[3,3]]],
 [[[1,1]],[[1,2],[1,3]],[[1,4]],[[2,1],[3,1]],[[2,2],[3,3]],[[2,3],[3,2]],[[2,4],[3,4]],[[4,1]],[[4,2],[4,3]],[[4,4]]],
 [[[1,1]],[[1,2],[1,4]],[[1,3]],[[2,1],[4,1]],[[2,2],[4,4]],[[2,3],[4,3]],[[2,4],[4,2]],[[3,1]],[[3,2],[3,4]],[[3,3]]],
 [[[1,1]],[[1,2]],[[1,3],[1,4]],[[2,1]],[[2,2]],[[2,3],[2,4]],[[3,1],[4,1]],[[3,2],[4,2]],[[3,3],[4,4]],[[3,4],[4,3]]],
 [[[1,1],[2,2]],[[1,2],[2,1]],[[1,3],[1,4],[2,3],[2,4]],[[3,1],[3,2],[4,1],[4,2]],[[3,3],[4,4]],[[3,4],[4,3]]],
 [[[1,1],[3,3]],[[1,2],[1,4],[3,2],[3,4]],[[1,3],[3,1]],[[2,1],[2,3],[4,1],[4,3]],[[2,2],[4,4]],[[2,4],[4,2]]],
 [[[1,1],[4,4]],[[1,2],[1,3],[4,2],[4,3]],[[1,4],[4,1]],[[2,1],[2,4],[3,1],[3,4]],[[2,2],[3,3]],[[2,3],[3,2]]],
 [[[1,1],[2,2],[3,3]],[[1,2],[1,3],[2,1],[2,3],[3,1],[3,2]],[[1,4],[2,4],[3,4]],[[4,1],[4,2],[4,3]],[[4,4]]],
 [[[1,1],[2,2],[4,4]],[[1,2],[1,4],[2,1],[2,4],[4,1],[4,2]],[[1,3],[2,3],[4,3]],[[3,1],[3,2],[3,4]],[[3,3]]],
 [[[1,1],[3,3],[4,4]],[[1,2],[3,2],[4,2]],[[1,3],[1,4],[3,1],[3,4],[4,1],[4,3]],[[2,1],[2,3],[2,4]],[[2,2]]],
 [[[1,1]],[[1,2],[1,3],[1,4]],[[2,1],[3,1],[4,1]],[[2,2],[3,3],[4,4]],[[2,3],[2,4],[3,2],[3,4],[4,2],[4,3]]],
 [[[1,1],[2,2],[3,3],[4,4]],[[1,2],[1,3],[1,4],[2,1],[2,3],[2,4],[3,1],[3,2],[3,4],[4,1],[4,2],[4,3]]]]
noncomputable def fH:List (List (List (List Int))):=[
 [[[1,1,1]],[[1,1,2]],[[1,1,3]],[[1,1,4]],[[1,2,1]],[[1,2,2]],[[1,2,3]],[[1,2,4]],[[1,3,1]],[[1,3,2]],[[1,3,3]],[[1,3,4]],[[1,4,1]],[[1,4,2]],[[1,4,3]],[[1,4,4]],[[2,1,1]],[[2,1,2]],[[2,1,3]],[[2,1,4]],[[2,2,1]],[[2,2,2]],[[2,2,3]],[[2,2,4]],[[2,3,1]],[[2,3,2]],[[2,3,3]],[[2,3,4]],[[2,4,1]],[[2,4,2]],[[2,4,3]],[[2,4,4]],[[3,1,1]],[[3,1,2]],[[3,1,3]],[[3,1,4]],[[3,2,1]],[[3,2,2]],[[3,2,3]],[[3,2,4]],[[3,3,1]],[[3,3,2]],[[3,3,3]],[[3,3,4]],[[3,4,1]],[[3,4,2]],[[3,4,3]],[[3,4,4]],[[4,1,1]],[[4,1,2]],[[4,1,3]],[[4,1,4]],[[4,2,1]],[[4,2,2]],[[4,2,3]],[[4,2,4]],[[4,3,1]],[[4,3,2]],[[4,3,3]],[[4,3,4]],[[4,4,1]],[[4,4,2]],[[4,4,3]],[[4,4,4]]],
 [[[1,1,1],[2,2,2]],[[1,1,2],[2,2,1]],[[1,1,3],[2,2,3]],[[1,1,4],[2,2,4]],[[1,2,1],[2,1,2]],[[1,2,2],[2,1,1]],[[1,2,3],[2,1,3]],[[1,2,4],[2,1,4]],[[1,3,1],[2,3,2]],[[1,3,2],[2,3,1]],[[1,3,3],[2,3,3]],[[1,3,4],[2,3,4]],[[1,4,1],[2,4,2]],[[1,4,2],[2,4,1]],[[1,4,3],[2,4,3]],[[1,4,4],[2,4,4]],[[3,1,1],[3,2,2]],[[3,1,2],[3,2,1]],[[3,1,3],[3,2,3]],[[3,1,4],[3,2,4]],[[3,3,1],[3,3,2]],[[3,3,3]],[[3,3,4]],[[3,4,1],[3,4,2]],[[3,4,3]],[[3,4,4]],[[4,1,1],[4,2,2]],[[4,1,2],[4,2,1]],[[4,1,3],[4,2,3]],[[4,1,4],[4,2,4]],[[4,3,1],[4,3,2]],[[4,3,3]],[[4,3,4]],[[4,4,1],[4,4,2]],[[4,4,3]],[[4,4,4]]],
 [[[1,1,1],[3,3,3]],[[1,1,2],[3,3,2]],[[1,1,3],[3,3,1]],[[1,1,4],[3,3,4]],[[1,2,1],[3,2,3]],[[1,2,2],[3,2,2]],[[1,2,3],[3,2,1]],[[1,2,4],[3,2,4]],[[1,3,1],[3,1,3]],[[1,3,2],[3,1,2]],[[1,3,3],[3,1,1]],[[1,3,4],[3,1,4]],[[1,4,1],[3,4,3]],[[1,4,2],[3,4,2]],[[1,4,3],[3,4,1]],[[1,4,4],[3,4,4]],[[2,1,1],[2,3,3]],[[2,1,2],[2,3,2]],[[2,1,3],[2,3,1]],[[2,1,4],[2,3,4]],[[2,2,1],[2,2,3]],[[2,2,2]],[[2,2,4]],[[2,4,1],[2,4,3]],[[2,4,2]],[[2,4,4]],[[4,1,1],[4,3,3]],[[4,1,2],[4,3,2]],[[4,1,3],[4,3,1]],[[4,1,4],[4,3,4]],[[4,2,1],[4,2,3]],[[4,2,2]],[[4,2,4]],[[4,4,1],[4,4,3]],[[4,4,2]],[[4,4,4]]],
 [[[1,1,1],[4,4,4]],[[1,1,2],[4,4,2]],[[1,1,3],[4,4,3]],[[1,1,4],[4,4,1]],[[1,2,1],[4,2,4]],[[1,2,2],[4,2,2]],[[1,2,3],[4,2,3]],[[1,2,4],[4,2,1]],[[1,3,1],[4,3,4]],[[1,3,2],[4,3,2]],[[1,3,3],[4,3,3]],[[1,3,4],[4,3,1]],[[1,4,1],[4,1,4]],[[1,4,2],[4,1,2]],[[1,4,3],[4,1,3]],[[1,4,4],[4,1,1]],[[2,1,1],[2,4,4]],[[2,1,2],[2,4,2]],[[2,1,3],[2,4,3]],[[2,1,4],[2,4,1]],[[2,2,1],[2,2,4]],[[2,2,2]],[[2,2,3]],[[2,3,1],[2,3,4]],[[2,3,2]],[[2,3,3]],[[3,1,1],[3,4,4]],[[3,1,2],[3,4,2]],[[3,1,3],[3,4,3]],[[3,1,4],[3,4,1]],[[3,2,1],[3,2,4]],[[3,2,2]],[[3,2,3]],[[3,3,1],[3,3,4]],[[3,3,2]],[[3,3,3]]],
 [[[1,1,1]],[[1,1,2],[1,1,3]],[[1,1,4]],[[1,2,1],[1,3,1]],[[1,2,2],[1,3,3]],[[1,2,3],[1,3,2]],[[1,2,4],[1,3,4]],[[1,4,1]],[[1,4,2],[1,4,3]],[[1,4,4]],[[2,1,1],[3,1,1]],[[2,1,2],[3,1,3]],[[2,1,3],[3,1,2]],[[2,1,4],[3,1,4]],[[2,2,1],[3,3,1]],[[2,2,2],[3,3,3]],[[2,2,3],[3,3,2]],[[2,2,4],[3,3,4]],[[2,3,1],[3,2,1]],[[2,3,2],[3,2,3]],[[2,3,3],[3,2,2]],[[2,3,4],[3,2,4]],[[2,4,1],[3,4,1]],[[2,4,2],[3,4,3]],[[2,4,3],[3,4,2]],[[2,4,4],[3,4,4]],[[4,1,1]],[[4,1,2],[4,1,3]],[[4,1,4]],[[4,2,1],[4,3,1]],[[4,2,2],[4,3,3]],[[4,2,3],[4,3,2]],[[4,2,4],[4,3,4]],[[4,4,1]],[[4,4,2],[4,4,3]],[[4,4,4]]],
 [[[1,1,1]],[[1,1,2],[1,1,4]],[[1,1,3]],[[1,2,1],[1,4,1]],[[1,2,2],[1,4,4]],[[1,2,3],[1,4,3]],[[1,2,4],[1,4,2]],[[1,3,1]],[[1,3,2],[1,3,4]],[[1,3,3]],[[2,1,1],[4,1,1]],[[2,1,2],[4,1,4]],[[2,1,3],[4,1,3]],[[2,1,4],[4,1,2]],[[2,2,1],[4,4,1]],[[2,2,2],[4,4,4]],[[2,2,3],[4,4,3]],[[2,2,4],[4,4,2]],[[2,3,1],[4,3,1]],[[2,3,2],[4,3,4]],[[2,3,3],[4,3,3]],[[2,3,4],[4,3,2]],[[2,4,1],[4,2,1]],[[2,4,2],[4,2,4]],[[2,4,3],[4,2,3]],[[2,4,4],[4,2,2]],[[3,1,1]],[[3,1,2],[3,1,4]],[[3,1,3]],[[3,2,1],[3,4,1]],[[3,2,2],[3,4,4]],[[3,2,3],[3,4,3]],[[3,2,4],[3,4,2]],[[3,3,1]],[[3,3,2],[3,3,4]],[[3,3,3]]],
 [[[1,1,1]],[[1,1,2]],[[1,1,3],[1,1,4]],[[1,2,1]],[[1,2,2]],[[1,2,3],[1,2,4]],[[1,3,1],[1,4,1]],[[1,3,2],[1,4,2]],[[1,3,3],[1,4,4]],[[1,3,4],[1,4,3]],[[2,1,1]],[[2,1,2]],[[2,1,3],[2,1,4]],[[2,2,1]],[[2,2,2]],[[2,2,3],[2,2,4]],[[2,3,1],[2,4,1]],[[2,3,2],[2,4,2]],[[2,3,3],[2,4,4]],[[2,3,4],[2,4,3]],[[3,1,1],[4,1,1]],[[3,1,2],[4,1,2]],[[3,1,3],[4,1,4]],[[3,1,4],[4,1,3]],[[3,2,1],[4,2,1]],[[3,2,2],[4,2,2]],[[3,2,3],[4,2,4]],[[3,2,4],[4,2,3]],[[3,3,1],[4,4,1]],[[3,3,2],[4,4,2]],[[3,3,3],[4,4,4]],[[3,3,4],[4,4,3]],[[3,4,1],[4,3,1]],[[3,4,2],[4,3,2]],[[3,4,3],[4,3,4]],[[3,4,4],[4,3,3]]],
 [[[1,1,1],[2,2,2]],[[1,1,2],[2,2,1]],[[1,1,3],[1,1,4],[2,2,3],[2,2,4]],[[1,2,1],[2,1,2]],[[1,2,2],[2,1,1]],[[1,2,3],[1,2,4],[2,1,3],[2,1,4]],[[1,3,1],[1,4,1],[2,3,2],[2,4,2]],[[1,3,2],[1,4,2],[2,3,1],[2,4,1]],[[1,3,3],[1,4,4],[2,3,3],[2,4,4]],[[1,3,4],[1,4,3],[2,3,4],[2,4,3]],[[3,1,1],[3,2,2],[4,1,1],[4,2,2]],[[3,1,2],[3,2,1],[4,1,2],[4,2,1]],[[3,1,3],[3,2,3],[4,1,4],[4,2,4]],[[3,1,4],[3,2,4],[4,1,3],[4,2,3]],[[3,3,1],[3,3,2],[4,4,1],[4,4,2]],[[3,3,3],[4,4,4]],[[3,3,4],[4,4,3]],[[3,4,1],[3,4,2],[4,3,1],[4,3,2]],[[3,4,3],[4,3,4]],[[3,4,4],[4,3,3]]],
 [[[1,1,1],[3,3,3]],[[1,1,2],[1,1,4],[3,3,2],[3,3,4]],[[1,1,3],[3,3,1]],[[1,2,1],[1,4,1],[3,2,3],[3,4,3]],[[1,2,2],[1,4,4],[3,2,2],[3,4,4]],[[1,2,3],[1,4,3],[3,2,1],[3,4,1]],[[1,2,4],[1,4,2],[3,2,4],[3,4,2]],[[1,3,1],[3,1,3]],[[1,3,2],[1,3,4],[3,1,2],[3,1,4]],[[1,3,3],[3,1,1]],[[2,1,1],[2,3,3],[4,1,1],[4,3,3]],[[2,1,2],[2,3,2],[4,1,4],[4,3,4]],[[2,1,3],[2,3,1],[4,1,3],[4,3,1]],[[2,1,4],[2,3,4],[4,1,2],[4,3,2]],[[2,2,1],[2,2,3],[4,4,1],[4,4,3]],[[2,2,2],[4,4,4]],[[2,2,4],[4,4,2]],[[2,4,1],[2,4,3],[4,2,1],[4,2,3]],[[2,4,2],[4,2,4]],[[2,4,4],[4,2,2]]],
 [[[1,1,1],[4,4,4]],[[1,1,2],[1,1,3],[4,4,2],[4,4,3]],[[1,1,4],[4,4,1]],[[1,2,1],[1,3,1],[4,2,4],[4,3,4]],[[1,2,2],[1,3,3],[4,2,2],[4,3,3]],[[1,2,3],[1,3,2],[4,2,3],[4,3,2]],[[1,2,4],[1,3,4],[4,2,1],[4,3,1]],[[1,4,1],[4,1,4]],[[1,4,2],[1,4,3],[4,1,2],[4,1,3]],[[1,4,4],[4,1,1]],[[2,1,1],[2,4,4],[3,1,1],[3,4,4]],[[2,1,2],[2,4,2],[3,1,3],[3,4,3]],[[2,1,3],[2,4,3],[3,1,2],[3,4,2]],[[2,1,4],[2,4,1],[3,1,4],[3,4,1]],[[2,2,1],[2,2,4],[3,3,1],[3,3,4]],[[2,2,2],[3,3,3]],[[2,2,3],[3,3,2]],[[2,3,1],[2,3,4],[3,2,1],[3,2,4]],[[2,3,2],[3,2,3]],[[2,3,3],[3,2,2]]],
 [[[1,1,1],[2,2,2],[3,3,3]],[[1,1,2],[1,1,3],[2,2,1],[2,2,3],[3,3,1],[3,3,2]],[[1,1,4],[2,2,4],[3,3,4]],[[1,2,1],[1,3,1],[2,1,2],[2,3,2],[3,1,3],[3,2,3]],[[1,2,2],[1,3,3],[2,1,1],[2,3,3],[3,1,1],[3,2,2]],[[1,2,3],[1,3,2],[2,1,3],[2,3,1],[3,1,2],[3,2,1]],[[1,2,4],[1,3,4],[2,1,4],[2,3,4],[3,1,4],[3,2,4]],[[1,4,1],[2,4,2],[3,4,3]],[[1,4,2],[1,4,3],[2,4,1],[2,4,3],[3,4,1],[3,4,2]],[[1,4,4],[2,4,4],[3,4,4]],[[4,1,1],[4,2,2],[4,3,3]],[[4,1,2],[4,1,3],[4,2,1],[4,2,3],[4,3,1],[4,3,2]],[[4,1,4],[4,2,4],[4,3,4]],[[4,4,1],[4,4,2],[4,4,3]],[[4,4,4]]],
 [[[1,1,1],[2,2,2],[4,4,4]],[[1,1,2],[1,1,4],[2,2,1],[2,2,4],[4,4,1],[4,4,2]],[[1,1,3],[2,2,3],[4,4,3]],[[1,2,1],[1,4,1],[2,1,2],[2,4,2],[4,1,4],[4,2,4]],[[1,2,2],[1,4,4],[2,1,1],[2,4,4],[4,1,1],[4,2,2]],[[1,2,3],[1,4,3],[2,1,3],[2,4,3],[4,1,3],[4,2,3]],[[1,2,4],[1,4,2],[2,1,4],[2,4,1],[4,1,2],[4,2,1]],[[1,3,1],[2,3,2],[4,3,4]],[[1,3,2],[1,3,4],[2,3,1],[2,3,4],[4,3,1],[4,3,2]],[[1,3,3],[2,3,3],[4,3,3]],[[3,1,1],[3,2,2],[3,4,4]],[[3,1,2],[3,1,4],[3,2,1],[3,2,4],[3,4,1],[3,4,2]],[[3,1,3],[3,2,3],[3,4,3]],[[3,3,1],[3,3,2],[3,3,4]],[[3,3,3]]],
 [[[1,1,1],[3,3,3],[4,4,4]],[[1,1,2],[3,3,2],[4,4,2]],[[1,1,3],[1,1,4],[3,3,1],[3,3,4],[4,4,1],[4,4,3]],[[1,2,1],[3,2,3],[4,2,4]],[[1,2,2],[3,2,2],[4,2,2]],[[1,2,3],[1,2,4],[3,2,1],[3,2,4],[4,2,1],[4,2,3]],[[1,3,1],[1,4,1],[3,1,3],[3,4,3],[4,1,4],[4,3,4]],[[1,3,2],[1,4,2],[3,1,2],[3,4,2],[4,1,2],[4,3,2]],[[1,3,3],[1,4,4],[3,1,1],[3,4,4],[4,1,1],[4,3,3]],[[1,3,4],[1,4,3],[3,1,4],[3,4,1],[4,1,3],[4,3,1]],[[2,1,1],[2,3,3],[2,4,4]],[[2,1,2],[2,3,2],[2,4,2]],[[2,1,3],[2,1,4],[2,3,1],[2,3,4],[2,4,1],[2,4,3]],[[2,2,1],[2,2,3],[2,2,4]],[[2,2,2]]],
 [[[1,1,1]],[[1,1,2],[1,1,3],[1,1,4]],[[1,2,1],[1,3,1],[1,4,1]],[[1,2,2],[1,3,3],[1,4,4]],[[1,2,3],[1,2,4],[1,3,2],[1,3,4],[1,4,2],[1,4,3]],[[2,1,1],[3,1,1],[4,1,1]],[[2,1,2],[3,1,3],[4,1,4]],[[2,1,3],[2,1,4],[3,1,2],[3,1,4],[4,1,2],[4,1,3]],[[2,2,1],[3,3,1],[4,4,1]],[[2,2,2],[3,3,3],[4,4,4]],[[2,2,3],[2,2,4],[3,3,2],[3,3,4],[4,4,2],[4,4,3]],[[2,3,1],[2,4,1],[3,2,1],[3,4,1],[4,2,1],[4,3,1]],[[2,3,2],[2,4,2],[3,2,3],[3,4,3],[4,2,4],[4,3,4]],[[2,3,3],[2,4,4],[3,2,2],[3,4,4],[4,2,2],[4,3,3]],[[2,3,4],[2,4,3],[3,2,4],[3,4,2],[4,2,3],[4,3,2]]],
 [[[1,1,1],[2,2,2],[3,3,3],[4,4,4]],[[1,1,2],[1,1,3],[1,1,4],[2,2,1],[2,2,3],[2,2,4],[3,3,1],[3,3,2],[3,3,4],[4,4,1],[4,4,2],[4,4,3]],[[1,2,1],[1,3,1],[1,4,1],[2,1,2],[2,3,2],[2,4,2],[3,1,3],[3,2,3],[3,4,3],[4,1,4],[4,2,4],[4,3,4]],[[1,2,2],[1,3,3],[1,4,4],[2,1,1],[2,3,3],[2,4,4],[3,1,1],[3,2,2],[3,4,4],[4,1,1],[4,2,2],[4,3,3]],[[1,2,3],[1,2,4],[1,3,2],[1,3,4],[1,4,2],[1,4,3],[2,1,3],[2,1,4],[2,3,1],[2,3,4],[2,4,1],[2,4,3],[3,1,2],[3,1,4],[3,2,1],[3,2,4],[3,4,1],[3,4,2],[4,1,2],[4,1,3],[4,2,1],[4,2,3],[4,3,1],[4,3,2]]]]
noncomputable def Lo(lot:List Int):List (List Int):=(c8 lot.length).foldl (fun os D=>os.flatMap fun o=>(lot.filter fun v => !o.contains v).map fun v=>o ++ [v]) [[]]
noncomputable def f0(L:List (List Int)):List (List (Int×Int)):=L.foldl (fun D lot=>D.flatMap fun table=>(Lo lot).map fun F=>(lot.zip F).foldl (fun t p=>oy t p.1 p.2) table) [[]]
noncomputable def ew(L:List (List Int)):List (Int×Int):=L.flatMap fun lot=>lot.zip (lot.drop 1)
noncomputable def eZ(L:List (List Int)):List Rl:=(ew L).map fun p=>.prec p.1 p.2
noncomputable def vt(L:List (List Int))(r:List (List Int)):Bool:=match r.filter (fV (eZ L)) with
 |[x]=>L != [[1,2,3,4]] || r.head? == aa x
 |_=>false
noncomputable def Cg(L:List (List Int))(row:List Int)(C:List (List Int)):Bool:=match f2 (ew L) 40 [row] [row] with
 |some f=>f.isPerm C
 |none=>false
noncomputable def vO(ts:List (List (Int×Int)))(row:List Int)(C:List (List Int)):Bool:=match gj (e9 hR) iD [] (ts.map fun t=>row.map (de t)) with
 |some (t,es)=>kO t es.length && es.isPerm C
 |none=>false
noncomputable def Ch(ts:List (List (Int×Int)))(L:List (List Int)):List (List Int)->Bool
 |[]=>false
 |row::C=>decide (C.length < 60) && eP a6 (row::C) && vO ts row (row::C) && Cg L row (row::C) && vt L (row::C)
noncomputable def mw(ts:List (List (Int×Int))):Bool:=ts.length<=100 && !ts.isEmpty && ts.all fun t=>[1,2,3,4].all fun v=>decide (1<=de t v) && decide (de t v<=4)
noncomputable def cc(m:Nat)(L:List (List Int))(cls:List (List (List Int))):Bool:=cls.flatten.isPerm (eO m) && mw (f0 L) && cls.all (Ch (f0 L) L)
theorem Lp:cc 2 (bw.getD 0 []) (fG.getD 0 [])=true:=by kernel_rfl
theorem Lq:cc 2 (bw.getD 1 []) (fG.getD 1 [])=true:=by kernel_rfl
theorem Lr:cc 2 (bw.getD 2 []) (fG.getD 2 [])=true:=by kernel_rfl
theorem Ls:cc 2 (bw.getD 3 []) (fG.getD 3 [])=true:=by kernel_rfl
theorem Lu:cc 2 (bw.getD 4 []) (fG.getD 4 [])=true:=by kernel_rfl
theorem Lv:cc 2 (bw.getD 5 []) (fG.getD 5 [])=true:=by kernel_rfl
theorem Lw:cc 2 (bw.getD 6 []) (fG.getD 6 [])=true:=by kernel_rfl
theorem Lx:cc 2 (bw.getD 7 []) (fG.getD 7 [])=true:=by kernel_rfl
theorem Ly:cc 2 (bw.getD 8 []) (fG.getD 8 [])=true:=by kernel_rfl
theorem Lz:cc 2 (bw.getD 9 []) (fG.getD 9 [])=true:=by kernel_rfl
theorem J6:cc 2 (bw.getD 10 []) (fG.getD 10 [])=true:=by kernel_rfl
theorem J7:cc 2 (bw.getD 11 []) (fG.getD 11 [])=true:=by kernel_rfl
theorem J8:cc 2 (bw.getD 12 []) (fG.getD 12 [])=true:=by kernel_rfl
theorem J9:cc 2 (bw.getD 13 []) (fG.getD 13 [])=true:=by kernel_rfl
theorem Ka:cc 2 (bw.getD 14 []) (fG.getD 14 [])=true:=by kernel_rfl
theorem LA:cc 3 (bw.getD 0 []) (fH.getD 0 [])=true:=by kernel_rfl
theorem LB:cc 3 (bw.getD 1 []) (fH.getD 1 [])=true:=by kernel_rfl
theorem LC:cc 3 (bw.getD 2 []) (fH.getD 2 [])=true:=by kernel_rfl
theorem LF:cc 3 (bw.getD 3 []) (fH.getD 3 [])=true:=by kernel_rfl
theorem LH:cc 3 (bw.getD 4 []) (fH.getD 4 [])=true:=by kernel_rfl
theorem LJ:cc 3 (bw.getD 5 []) (fH.getD 5 [])=true:=by kernel_rfl
theorem LK:cc 3 (bw.getD 6 []) (fH.getD 6 [])=true:=by kernel_rfl
theorem LL:cc 3 (bw.getD 7 []) (fH.getD 7 [])=true:=by kernel_rfl
theorem LM:cc 3 (bw.getD 8 []) (fH.getD 8 [])=true:=by kernel_rfl
theorem LN:cc 3 (bw.getD 9 []) (fH.getD 9 [])=true:=by kernel_rfl
theorem Kb:cc 3 (bw.getD 10 []) (fH.getD 10 [])=true:=by kernel_rfl
theorem Kc:cc 3 (bw.getD 11 []) (fH.getD 11 [])=true:=by kernel_rfl
theorem Kd:cc 3 (bw.getD 12 []) (fH.getD 12 [])=true:=by kernel_rfl
theorem Ke:cc 3 (bw.getD 13 []) (fH.getD 13 [])=true:=by kernel_rfl
theorem Kf:cc 3 (bw.getD 14 []) (fH.getD 14 [])=true:=by kernel_rfl
theorem LO(hm:m=2\/m=3)(D:L∈bw):∃ cls,cc m L cls=true:=by
 simp only [bw,aL,a7,or_false] at D;rcases hm with rfl|rfl
 . rcases D with rfl|rfl|rfl|rfl|rfl|rfl|rfl|rfl|rfl|rfl|rfl|rfl|rfl|rfl|rfl
   . exact ⟨_,Lp⟩
   . exact ⟨_,Lq⟩
   . exact ⟨_,Lr⟩
   . exact ⟨_,Ls⟩
   . exact ⟨_,Lu⟩
   . exact ⟨_,Lv⟩
   . exact ⟨_,Lw⟩
   . exact ⟨_,Lx⟩
   . exact ⟨_,Ly⟩
   . exact ⟨_,Lz⟩
   . exact ⟨_,J6⟩
   . exact ⟨_,J7⟩
   . exact ⟨_,J8⟩
   . exact ⟨_,J9⟩
   . exact ⟨_,Ka⟩
 . rcases D with rfl|rfl|rfl|rfl|rfl|rfl|rfl|rfl|rfl|rfl|rfl|rfl|rfl|rfl|rfl
   . exact ⟨_,LA⟩
   . exact ⟨_,LB⟩
   . exact ⟨_,LC⟩
   . exact ⟨_,LF⟩
   . exact ⟨_,LH⟩
   . exact ⟨_,LJ⟩
   . exact ⟨_,LK⟩
   . exact ⟨_,LL⟩
   . exact ⟨_,LM⟩
   . exact ⟨_,LN⟩
   . exact ⟨_,Kb⟩
   . exact ⟨_,Kc⟩
   . exact ⟨_,Kd⟩
   . exact ⟨_,Ke⟩
   . exact ⟨_,Kf⟩
theorem Rb k(D:L∈bw):Φ (k+1) 24 [dq L]=aa (.list ((f0 L).map .idict)):=by simp only [bw,aL,a7,or_false] at D;rcases D with rfl|rfl|rfl|rfl|rfl|rfl|rfl|rfl|rfl|rfl|rfl|rfl|rfl|rfl|rfl<;>kernel_rfl
theorem uF{α:Type}{lt:α->α->Bool}:∀ {l:List α},l.Pairwise (fun a b=>lt a b=true)->eP lt l=true
 |[],_=>rfl
 |[_],_=>rfl
 |a::b::r,h=>by
  refine ac (iX.mp h) fun h1 D=>?_;show (lt a b && eP lt (b::r))=true;refine rl (h1 b aY) (rl (uF D) rfl)
theorem uq(hm:m=2\/m=3)(h:row∈eO m):gW row/\row.length=m:=by
 have h1:∀ row∈eO 2,(row.length=2/\row.all (fun v=>decide (1<=v) && decide (v<=4))=true):=by decide +kernel
 have D:∀ row∈eO 3,(row.length=3/\row.all (fun v=>decide (1<=v) && decide (v<=4))=true):=by decide +kernel
 have:row.length=m/\row.all (fun v=>decide (1<=v) && decide (v<=4))=true:=by
  rcases hm with rfl|rfl
  . exact h1 row h
  . exact D row h
 refine ⟨fun v hv=>?_,this.1⟩
 have:=bq.mp this.2 v hv;simpa using this
theorem ua(hm:m=2\/m=3)(h:row∈eO m){G:Prop}(k:gW row->row.length=m->G):G:=ac (uq hm h) fun D z1=>k D z1
theorem Kg(hm:m=2\/m=3)(ht:mw ts=true)(hr:row∈eO m):∀ x∈ts.map (fun t=>row.map (de t)),x∈eO m:=fun x G=>by
 refine bB G fun t F D=>?_;subst D;unfold mw at ht;rw [bX] at ht;refine ua hm hr fun L J=>um hm (fun v hv=>?_) (by refine rl (aZ ..) ?_;exact J);refine bB hv fun w N D=>?_;subst D
 have:=bq.mp (bq.mp ht.2 t F) w (jP (L w N));simpa using this
theorem FI:∀ l:List (List Int),nY (l.map aj)=aa l:=by
 intro F;induction F with
 |nil =>
  exact rfl
 |cons a l D =>
  refine rl b7 ?_;show ((dT (aj a)).bind cr).bind (fun a=>(nY (l.map aj)).map (a :: ·))=_;refine rl (qM ..) (rl (D) rfl)
theorem ID(hm:m=2\/m=3)(ht:mw ts=true)(hr:row∈eO m){C:List (List Int)}(T:∀ x∈C,x∈eO m)(F:vO ts row C=true)(N:C.Pairwise fun a b=>a6 a b=true)(S:C.length < 64):
 jO (ts.map fun t=>aj (row.map (de t)))=aa (C.map aj):=by
 have e:ts.map (fun t=>aj (row.map (de t)))=(ts.map fun t=>row.map (de t)).map aj:=by refine rl cU ?_;rfl
 have J:=Kg hm ht hr
 have hlen:(ts.map fun t=>row.map (de t)).length<=1000/\(ts.map fun t=>row.map (de t)) ≠ []:=by
  unfold mw at ht;simp only [bX,decide_eq_true_eq,pn] at ht;refine ⟨by refine rl (aZ ..) ?_;omega,fun e=>?_⟩
  have:=List.map_eq_nil_iff.mp e;rw [this] at ht;exact absurd ht.1.2 (fun h=>nT h)
 refine rl e ?_;unfold vO at F;rw [←EG (h:=bD) (h':=hR) (es:=[]) (fun x P=>by exact (a7 P).elim) (fun x P=>Pp hm (J x P))] at F;generalize (ts.map fun t=>row.map (de t))=G at *;unfold jO;refine rl (if_pos (by refine rl (aZ ..) ?_;exact hlen.1)) ?_;have ha:cr (G.map aj)=none:=by
  clear J e S N F T hr;clear C;rcases G with _|⟨x,G⟩
  . exact absurd rfl hlen.2
  . rfl
 refine rl ha ?_;simp only;refine rl (FI ..) ?_;simp only;cases hq:gj (e9 bD) iD [] G with
 |none=>rw [hq] at F;exact nB F
 |some p =>
  obtain ⟨t,es⟩:=p;rw [hq] at F;simp only [bX] at F;have Q:es.Perm C:=sT.mp F.2;have L:C.Nodup:=N.imp fun {a b} h e=>by subst e;rw [tf] at h;exact nB h
  have D:bV es a6=C:=lN ((gx es a6).trans Q) (fun x c y c h=>nq x y h) (nh (kE es) (Q.nodup_iff.mpr L)) N;have X:es.all (fun k => !k.isEmpty)=true:=bq.mpr fun x P=>by
   have V:=uq hm (T x (Q.mem_iff.mp P));clear e S N F T hr ht;clear row ts;rcases x with _|⟨a,x⟩
   . clear D L Q ha hlen J;rcases hm with rfl|rfl<;>exact absurd V.2 (by decide)
   . rfl
  show (match bV es a6 with|r=>if kO t es.length && decide (es.length < 64) && eP a6 r && es.all (fun k => !k.isEmpty) then aa (r.map aj) else ab)=_
  refine rl D ?_;show (if (kO t es.length && decide (es.length < 64) && eP a6 C && es.all (fun k => !k.isEmpty))=true then aa (C.map aj) else ab)=_
  refine rl F.1 (rl (uF N) (rl X ?_));refine rl (decide_eq_true (by refine rl Q.length_eq ?_;exact S)) ?_;rfl
theorem G8{C r:List (List Int)}(F:C.Pairwise fun a b=>a6 a b=true)(P:C.length < 64)(J:∀ x∈C,x ≠ [])(h:r.Perm C):dJ (r.map aj)=aa (C.map aj):=by
 have G:C.Nodup:=F.imp fun {a b} h e=>by subst e;rw [tf] at h;exact nB h
 have D:bV C a6=C:=lN (gx C a6) (fun x L y L h=>nq x y h) (nh (kE C) G) F
 have:=t6 (es:=C) (ds:=r.map aj) P (by refine rl D ?_;exact uF F) (bq.mpr fun x N=>by
  have:=J x N;rcases x with _|⟨a,x⟩
  . exact absurd rfl this
  . rfl) (h.map aj)
 rw [D] at this;exact this
structure Cl (m:Nat) (L:List (List Int)) (row:List Int) (C:List (List Int)):Prop where
 hd:C.head? = aa row
 sub:∀ x∈C,x∈eO m
 len:C.length<=60
 pw:C.Pairwise fun a b=>a6 a b=true
 img:jO ((f0 L).map fun t=>aj (row.map (de t)))=aa (C.map aj)
 orb:∃ f,f2 (ew L) 40 [row] [row]=aa f/\f.Perm C
 kept:vt L C=true
structure v5 (m:Nat) (L:List (List Int)) (cls:List (List (List Int))):Prop where
 cov:cls.flatten.Perm (eO m)
 tab:mw (f0 L)=true
 all:∀ C∈cls,∃ row,Cl m L row C
set_option tactic.hygienic true in
theorem IE (hm:m=2\/m=3) (h:cc m L cls=true):v5 m L cls:=by
 unfold cc at h;simp only [bX] at h;refine ac h fun F V=>?_;clear h;refine ac F fun h1 G=>?_;clear F;have N:cls.flatten.Perm (eO m):=sT.mp h1;refine ⟨N,G,fun C J=>?_⟩;have hc:=bq.mp V C J;have D:∀ x∈C,x∈eO m:=fun x T=>N.mem_iff.mp (sL.mpr ⟨C,J,T⟩);rcases C with _|⟨row,C⟩
 . exact nB hc
 . unfold Ch at hc;simp only [bX,decide_eq_true_eq] at hc;refine ac hc fun F S=>?_;clear hc;refine ac F fun Q c4=>?_;clear F;refine ac Q fun P c3=>?_;clear Q;refine ac P fun c1 c2=>?_;clear P;have pw:(row::C).Pairwise fun a b=>a6 a b=true:=qR (fun a b c=>(kE [a,b,c]).trans a (.head _) b (by exact .tail _ (.head _)) c (by exact .tail _ (.tail _ (.head _)))) _ c2;refine ⟨row,?_,?_,?_,?_,?_,?_,?_⟩
   . rfl
   . exact D
   . refine rl el (Nat.succ_le_of_lt ‹_›)
   . exact pw
   . exact ID hm G (D row aY) D c3 pw (by refine rl el ?_;exact cN ‹_› (by decide))
   . unfold Cg at c4;split at c4
     . rename_i f X;exact ⟨f,X,sT.mp c4⟩
     . exact nB c4
   . exact S
theorem qF n(l:List (List Int)):dC (n+1) (l.map aj)=true:=nE.mpr fun d hd=>by refine bB hd fun a _ D=>?_;subst D;exact qD n a
theorem Kh a b:fE .Eq (dq a) (dq b)=aa (decide (a=b)):=by
 show (if dC 8 (a.map aj) && dC 8 (b.map aj) then aa (bf (.list (a.map aj)) (.list (b.map aj))) else ab)=_
 refine rl (qF ..) (rl (qF ..) (rl (kB ..) ?_));rewrite [kC _ tS];rfl
theorem uG a b:fE .NotEq (dq a) (dq b)=aa (!decide (a=b)):=by
 show (if dC 8 (a.map aj) && dC 8 (b.map aj) then aa (!bf (.list (a.map aj)) (.list (b.map aj))) else ab)=_
 refine rl (qF ..) (rl (qF ..) (rl (kB ..) ?_));rewrite [kC _ tS];rfl
noncomputable def f3(S:List (List Int))(x:List Int):List (List Int):=if S.contains x then S else S ++ [x]
noncomputable def hN(S C:List (List Int)):List (List Int):=C.foldl f3 S
theorem IF{S:List (List Int)}{x y:List Int}:y∈f3 S x↔y∈S\/y=x:=by
 unfold f3;split
 . rename_i h
   have:=pc.mp h;constructor
   . exact .inl
   . rintro (h|h)
     . exact h
     . refine rl h ?_;exact this
 . refine rp (bC ..) ?_;refine rp (aV ..) ?_;rfl
theorem yp{y:List Int}:∀ {C S:List (List Int)},y∈hN S C↔y∈S\/y∈C:=by
 intro B;induction B with
 |nil =>
  intro S;simp [hN]
 |cons x C A =>
  intro S;show y∈hN (f3 S x) C↔_;refine rp (A ..) ?_;refine rp (IF ..) ?_;refine rp (aL ..) ?_;refine rp (or_assoc ..) ?_;rfl
theorem zG S x:(f3 S x).length<=S.length+1:=by
 unfold f3;split
 . exact fo _
 . refine rl gX (i3 _)
theorem FJ:∀ C S,(hN S C).length<=S.length+C.length:=by
 intro F;induction F with
 |nil =>
  intro S;simp [hN]
 |cons x C D =>
  intro S;show (hN (f3 S x) C).length<=_;refine rl el (NZ (D (f3 S x)) (zG S x))
theorem EZ(D:S.length<=100000)x:gk (dr S) (aj x) (.bool true)=aa (dr (f3 S x)):=by
 rcases S with _|⟨s,S⟩
 . exact Ar
 . refine (uZ D).trans ?_;unfold f3;split<;>rfl
theorem Ai S x:fg (aj x) (dr S)=aa (S.contains x):=by
 rcases S with _|⟨s,S⟩
 . exact OD x
 . exact vN _ x
structure TG (O:Sg) (m:Nat) (L S:List (List Int)):Prop where
 g10:ah O 10=aa (.d (dq L))
 g12:ah O 12=aa (.d (.list ((ew L).map (bl m))))
 g13:ah O 13=aa (.d (.list ((eZ L).map (rD m))))
 g14:ah O 14=aa (.d (.list ((f0 L).map .idict)))
 g15:ah O 15=aa (.o (dr S))
theorem TG.set{O:Sg}(h:TG O m L S){i:Nat}(hi:16<=i):TG (ag O i x) m L S :=
 ⟨a9 h.g10 (N0 hi),a9 h.g12 (N1 hi),a9 h.g13 (N2 hi),a9 h.g14 (N3 hi),a9 h.g15 (N4 hi)⟩
noncomputable def oO:List St:=[.setk 15 (.var 18) (.bool true)]
noncomputable def oP:Ex:=.prim .sortedset (.comp1 [16] (.call 23 [.var 16,.var 21]) (.one 21) (.var 14) [])
noncomputable def oi:Ex:=.comp1 [13] (.var 21) (.one 21) (.var 17) [.cmp .Eq (.comp1 [21] (.var 23) (.one 23) (.var 13) [.not (.call 22 [.var 23,.var 21])]) (.list [])]
noncomputable def mM:Ex:=.or [.cmp .NotEq (.call 18 [.var 16,.var 12]) (.var 17),.cmp .NotEq (.prim .len (.var 19)) (.int 1)]
noncomputable def o6:Ex:=.and [.cmp .Eq (.var 10) (.list [.tup [.int 1,.int 2,.int 3,.int 4]]),.cmp .NotEq (.var 19) (.cut (.var 17) ab (aa (.int 1)))]
noncomputable def wDo:List St:=[.asg 17 (.val oP),.loop (.one 18) (.var 17) oO,.asg 19 (.val oi),.ite mM [.ret (.bool false)] [],.ite o6 [.ret (.bool false)] []]
noncomputable def k0:List St:=[.ite (.cmp .NotIn (.var 16) (.var 15)) wDo []]
section
variable {Ψ:Nat->List D->Option D} {n m:Nat} {L S:List (List Int)}
theorem Pq:∀ C n O S,TG O m L S->S.length+C.length<=10000 ->
 ∃ I,TG I m L (hN S C)/\(∀ i,i≠15->i≠18->ah I i=ah O i)/\cw Ψ (n+5+C.length) O (.one 18) oO (C.map aj)=aa (I,.next):=by
 intro a
 induction a with
 |nil =>
  intro n O S g _;exact ⟨O,g,fun P P P=>rfl,rfl⟩
 |cons x C J =>
  intro n O S g G;have D:TG (ag O 18 (.d (aj x))) m L S:=g.set (by decide);have Q:be Ψ (n+5+C.length) (ag O 18 (.d (aj x))) oO=aa (ag (ag O 18 (.d (aj x))) 15 (.o (dr (f3 S x))),.next):=by
   have e:n+5+C.length=(n+C.length+2)+1+2:=cf _ _ _
   refine rl e ?_;exact c9 (kS (n:=n+C.length+2+1) rfl (bG bZ) D.g15 (EZ (by rw [el] at G;exact N5 G) x))
  have V:TG (ag (ag O 18 (.d (aj x))) 15 (.o (dr (f3 S x)))) m L (f3 S x) :=
   ⟨a9 D.g10 (by decide),a9 D.g12 (by decide),a9 D.g13 (by decide),a9 D.g14 (by decide),bZ⟩
  refine ae (J n _ (f3 S x) V (by have:=zG S x;rw [el] at G;exact PA G this)) fun I N=>aE N fun h1 T X=>?_;clear N;refine ⟨I,h1,fun i F h18=>?_,?_⟩
  . refine rl (T i F h18) (rl br (rl (if_neg F) (rl br (rl (if_neg h18) rfl))))
  . exact (gm rfl Q).trans X
theorem LP C n O S(J:TG O m L S)(N:S.length+C.length<=10000){G:Prop}(k:∀ I,TG I m L (hN S C)->(∀ i,i≠15->i≠18->ah I i=ah O i)->cw Ψ (n+5+C.length) O (.one 18) oO (C.map aj)=aa (I,.next)->G):G:=ae (Pq C n O S J N) fun F D=>aE D fun z1 z2 P=>k F z1 z2 P
theorem LU(g:TG O m L S)(h:row∈S):be Ψ (n+6) (ag O 16 (.d (aj row))) k0=aa (ag O 16 (.d (aj row)),.next):=by refine c9 (n:=n+4) ((gF (n:=n+4) ?_).trans rfl);refine db (n:=n+3) (bG bZ) (hI (g.set (by decide)).g15) ?_;show (fg (aj row) (dr S)).map (!·)=_;refine rl (Ai ..) (rl (pc.mpr h) rfl)
structure WQ (Ψ:Nat->List D->Option D) (m:Nat) (L:List (List Int)):Prop where
 hm:m=2\/m=3
 tabs:(f0 L).length<=100
 steps:(ew L).length<=50
 h23:∀ (row:List Int) t,row.length<=3->Ψ 23 [aj row,.idict t]=aa (aj (row.map (de t)))
 h22:∀ r∈eZ L,∀ row:List Int,gW row->row.length=m->Ψ 22 [rD m r,aj row]=aa (.bool (b4 r row))
 h18:∀ row:List Int,row.length=m->∀ r s,f2 (ew L) 40 [row] [row]=aa r->dJ (r.map aj)=aa s->Ψ 18 [aj row,.list ((ew L).map (bl m))]=aa (.list s)
set_option tactic.hygienic true in
theorem Rc (Q:WQ Ψ m L) {C:List (List Int)} (K:Cl m L row C) (g:TG O m L S) (h:row ∉ S) (hz:S.length<=5000) :
 ∃ I,TG I m L (hN S C)/\be Ψ (n+100) (ag O 16 (.d (aj row))) k0=aa (I,.next):=by
 refine ua Q.hm (K.sub row (DO K.hd)) fun hr1 j=>?_
 have hr3:row.length<=3:=by rcases Q.hm with e|e<;>(first|exact N6 j e|exact N7 j e)
 have X:TG (ag O 16 (.d (aj row))) m L S:=g.set (by decide)
 have G:ah (ag O 16 (.d (aj row))) 16=aa (.d (aj row)):=bZ
 generalize ag O 16 (.d (aj row))=σ₀ at X G
 have hc:aJ Ψ (n+98) (a0 σ₀ (aX (n+98) (.cmp .NotIn (.var 16) (.var 15)))) (.cmp .NotIn (.var 16) (.var 15))=aa true:=by
  show aJ Ψ (n+98) σ₀ _=_;refine db (n:=n+97) (bG G) (hI X.g15) ?_;show (fg (aj row) (dr S)).map (!·)=_;refine rl (Ai ..) ?_;have:S.contains row=false:=by refine rp (DN ..) ?_;exact fun hc=>h (pc.mp hc)
  refine rl this rfl
 have c10:an Ψ (n+96) σ₀ oP=aa (.list (C.map aj)):=by
  refine Af (n:=n+95) (p:=.sortedset) (x:=.list ((f0 L).map fun t=>aj (row.map (de t)))) ?_ ?_
  . refine ji (n:=n+94) (f:=.idict) (g:=fun t=>aj (row.map (de t))) ?_ ?_ (fun t ht=>?_) (by have:=Q.tabs;exact aH ‹_› (by decide))
    . show ((ah σ₀ 16).isSome && true)=true;refine rl G rfl
    . show (bS (an Ψ (n+94) σ₀) σ₀ (.var 14)).bind dQ=_;refine rl (dy X.g14) rfl
    . exact gK (I:=ag σ₀ 21 (.d (.idict t))) rfl rfl (bz (n:=n+93) (bk (bG (a9 G (by decide))) (bk (bG bZ) ey)) (Q.h23 row t hr3))
  . show (jO ((f0 L).map fun t=>aj (row.map (de t)))).map D.list=_;refine rl K.img rfl
 have s17:b8 Ψ (n+97) σ₀ (.asg 17 (.val oP))=aa (ag σ₀ 17 (.d (.list (C.map aj))),.next):=by
  have N:a0 σ₀ (aX (n+96) oP)=σ₀:=rfl;show (an Ψ (n+96) (a0 σ₀ _) oP).map (fun d=>(ag (a0 σ₀ _) 17 (V.d d),Fl.next))=_;refine rl N (rl c10 rfl)
 have g17:TG (ag σ₀ 17 (.d (.list (C.map aj)))) m L S:=X.set (by decide);have b:ah (ag σ₀ 17 (.d (.list (C.map aj)))) 16=aa (.d (aj row)):=a9 G (by decide);have P:ah (ag σ₀ 17 (.d (.list (C.map aj)))) 17=aa (.d (.list (C.map aj))):=bZ;generalize e10:ag σ₀ 17 (.d (.list (C.map aj)))=σ₁ at s17 g17 b P;have hlen:=K.len;refine LP (Ψ:=Ψ) (m:=m) (L:=L) C (n+90 - C.length) σ₁ S g17 (PB hz hlen) fun σ₂ g2 hg2 h2=>?_;have e2:n+90 - C.length+5+C.length=n+95:=N8 hlen
 rw [e2] at h2;have s18:b8 Ψ (n+96) σ₁ (.loop (.one 18) (.var 17) oO)=aa (σ₂,.next):=by
  have N:a0 σ₁ (aX (n+95) (.var 17))=σ₁:=jo P;refine (jX (n:=n+95) (xs:=C.map aj) ?_).trans ?_
  . refine rl N ?_;show (an Ψ (n+95) σ₁ (.var 17)).bind dQ=_;refine rl (bG P) rfl
  . refine rl N h2
 have u:ah σ₂ 17=aa (.d (.list (C.map aj))):=(hg2 17 (by decide) (by decide)).trans P;have q:an Ψ (n+94) σ₂ oi=aa (.list ((C.filter (fV (eZ L))).map aj)):=by
  refine rl (az (g6 ..)) ?_;have hle:(C.flatMap fun x=>if fV (eZ L) x=true then [aj x] else []).length<=100000:=by
   refine rl (g6 ..) (rl (aZ ..) ?_);exact aH (jA ..) (by exact aH ‹_› (by decide))
  have hex:(eZ L).length<=60:=by unfold eZ;refine rl (aZ ..) ?_;have:=Q.steps;exact aH ‹_› (by decide)
  refine jh (n:=n+93) (f:=aj) (g:=fun x=>if fV (eZ L) x=true then [aj x] else []) ?_ ?_ (fun x hx=>?_) hle
  . show ((ah σ₂ 13).isSome && true)=true;refine rl g2.g13 rfl
  . show (bS (an Ψ (n+93) σ₂) σ₂ (.var 17)).bind dQ=_;refine rl (dy u) rfl
  . refine ua Q.hm (K.sub x hx) fun x1 x2=>mq (I:=ag σ₂ 21 (.d (aj x))) rfl (j8 (Ag (n:=n+87) Q.hm (x:=21) (y:=23) (z:=13) (by decide) bZ (a9 g2.g13 (by decide)) hex fun r hr=>Q.h22 r hr x x1 x2)) (bG bZ)
 have i:b8 Ψ (n+95) σ₂ (.asg 19 (.val oi))=aa (ag σ₂ 19 (.d (.list ((C.filter (fV (eZ L))).map aj))),.next):=by
  have N:a0 σ₂ (aX (n+94) oi)=σ₂:=rfl;show (an Ψ (n+94) (a0 σ₂ _) oi).map (fun d=>(ag (a0 σ₂ _) 19 (V.d d),Fl.next))=_;refine rl N (rl q rfl)
 obtain ⟨x,hx,J⟩:∃ x,C.filter (fV (eZ L)) = [x]/\(L ≠ [[1,2,3,4]]\/x=row):=by
  have hk:=K.kept;unfold vt at hk;split at hk
  . rename_i x hx;refine ⟨x,hx,?_⟩;rw [lF] at hk;rcases hk with hk|hk
    . exact .inl (by simpa using hk)
    . rw [K.hd] at hk
      have:=eq hk;exact .inr (jC this).symm
  . exact nB hk
 rw [hx] at i;have F:TG (ag σ₂ 19 (.d (.list ([x].map aj)))) m L (hN S C):=g2.set (by decide);have T:ah (ag σ₂ 19 (.d (.list ([x].map aj)))) 16=aa (.d (aj row)):=a9 ((hg2 16 (by decide) (by decide)).trans b) (by decide);have l:ah (ag σ₂ 19 (.d (.list ([x].map aj)))) 17=aa (.d (.list (C.map aj))):=a9 u (by decide);have o:ah (ag σ₂ 19 (.d (.list ([x].map aj)))) 19=aa (.d (.list ([x].map aj))):=bZ;generalize ag σ₂ 19 (.d (.list ([x].map aj)))=σ₃ at i F T l o;refine ae K.orb fun f q0=>ac q0 fun hf1 hf2=>?_;clear q0;have k:dJ (f.map aj)=aa (C.map aj):=G8 K.pw (by exact cN ‹_› (by decide)) (fun y hy e=>by
  have:=(uq Q.hm (K.sub y hy)).2;rw [e] at this;rcases Q.hm with e|e<;>simp at this<;>(first|exact (N9 this e).elim|exact (Oa this e).elim)) hf2
 have t1:aJ Ψ (n+93) (a0 σ₃ (aX (n+93) mM)) mM=aa false:=by
  have N:a0 σ₃ (aX (n+93) mM)=σ₃:=by
   show dO (dO σ₃ 16) 12=σ₃;refine rl (jo T) (rl (jo F.g12) rfl)
  refine rl N ?_;show lf (aJ Ψ (n+92) σ₃) [.cmp .NotEq (.call 18 [.var 16,.var 12]) (.var 17),.cmp .NotEq (.prim .len (.var 19)) (.int 1)]=_;have a:aJ Ψ (n+92) σ₃ (.cmp .NotEq (.call 18 [.var 16,.var 12]) (.var 17))=aa false:=by
   refine db (n:=n+91) (bz (n:=n+90) (bk (bG T) (bk (bG F.g12) ey)) (Q.h18 row j f _ hf1 k)) (dy l) ?_
   have:=uG C C;rw [decide_eq_true rfl] at this;exact this
  have a2:aJ Ψ (n+92) σ₃ (.cmp .NotEq (.prim .len (.var 19)) (.int 1))=aa false :=
   db (n:=n+91) (og (n:=n+90) (dy o) (ef _)) rfl rfl
  exact (bI a).trans (bI a2)
 have s1:b8 Ψ (n+94) σ₃ (.ite mM [.ret (.bool false)] [])=aa (σ₃,.next):=by
  refine (gF (n:=n+93) t1).trans ?_;have N:a0 σ₃ (aX (n+93) mM)=σ₃:=by
   show dO (dO σ₃ 16) 12=σ₃;refine rl (jo T) (rl (jo F.g12) rfl)
  refine rl N rfl
 have t2:aJ Ψ (n+92) (a0 σ₃ (aX (n+92) o6)) o6=aa false:=by
  show aJ Ψ (n+92) σ₃ o6=_;show eQ (aJ Ψ (n+91) σ₃) [.cmp .Eq (.var 10) (.list [.tup [.int 1,.int 2,.int 3,.int 4]]),.cmp .NotEq (.var 19) (.cut (.var 17) ab (aa (.int 1)))]=_;have a:aJ Ψ (n+91) σ₃ (.cmp .Eq (.var 10) (.list [.tup [.int 1,.int 2,.int 3,.int 4]]))=aa (decide (L = [[1,2,3,4]])) :=
   db (n:=n+90) (bG F.g10) rfl (Kh L [[1,2,3,4]])
  rcases J with J|J
  . rw [decide_eq_false J] at a;exact bI a
  . have a2:aJ Ψ (n+91) σ₃ (.cmp .NotEq (.var 19) (.cut (.var 17) ab (aa (.int 1))))=aa false:=by
     have v:lc (.list (C.map aj)) ab (aa 1)=aa (dq [x]):=by
      show (if (C.map aj).length<=100000 then aa (D.list (eB (C.map aj) ab (aa 1))) else ab)=_
      refine rl (if_pos (by refine rl (aZ ..) ?_;exact aH ‹_› (by decide))) ?_;refine rl J ?_;have hd:=K.hd;rcases C with _|⟨c,C⟩
      . exact nS hd
      . replace hd:=sI hd;subst hd;rfl
     refine db (n:=n+90) (bG o) (Bj (n:=n+89) (bG l) rfl (by decide) v) ?_
     have:=uG [x] [x];rw [decide_eq_true rfl] at this;exact this
    cases hq:decide (L = [[1,2,3,4]]) with
    |false=>rw [hq] at a;exact bI a
    |true=>rw [hq] at a;exact (bI a).trans (bI a2)
 have s2:be Ψ (n+94) σ₃ [.ite o6 [.ret (.bool false)] []]=aa (σ₃,.next) :=
  c9 (n:=n+92) ((gF (n:=n+92) t2).trans rfl)
 refine ⟨σ₃,F,c9 (n:=n+98) ((hG (n:=n+98) hc).trans ?_)⟩;show be Ψ (n+98) σ₀ wDo=_;exact (g7 (n:=n+97) s17).trans ((g7 (n:=n+96) s18).trans ((g7 (n:=n+95) i).trans ((g7 (n:=n+94) s1).trans s2)))
end
theorem Ki{P:List Int->Prop}(X:∀ p∈J,∀ x:List Int,P x->P (x.map (aA p.1 p.2))):∀ n f w r,f2 J n f w=aa r->(∀ x∈f,P x)->(∀ x∈w,P x)->∀ x∈r,P x:=by
 intro a;induction a with
 |zero =>
  intro f w r h _ _;exact nS h
 |succ n N =>
  intro f w r h V Q;unfold f2 at h;cases hl:w.getLast? with
  |none=>rw [hl] at h;replace h:=sI h;subst h;exact V
  |some here =>
   rw [hl] at h;simp only at h;have hh:P here:=Q here (wA hl);have L:∀ (G:List (Int×Int)),(∀ q∈G,q∈J)->∀ fw:List (List Int)×List (List Int),(∀ x∈fw.1,P x)->(∀ x∈fw.2,P x)->(∀ x∈(G.foldl (dA here) fw).1,P x)/\(∀ x∈(G.foldl (dA here) fw).2,P x):=by
    intro G;induction G with
    |nil=>exact fun S fw h1 F=>⟨h1,F⟩
    |cons q G ih =>
     intro hq fw h1 F;have T:=X q (hq q aY) here hh;refine ih (fun y d=>hq y (aN _ d)) _ (fun x D=>?_) fun x D=>?_
     . unfold dA at D;split at D
       . exact h1 x D
       . rcases bC.mp D with D|D
         . exact h1 x D
         . clear F h1 hq hh;rcases aV.mp D with rfl;exact T
     . unfold dA at D;split at D
       . exact F x D
       . rcases bC.mp D with D|D
         . exact F x D
         . clear F h1 hq hh;rcases aV.mp D with rfl;exact T
   refine ac (L J (fun S h=>h) (f,w.dropLast) V fun x D=>Q x ((CQ w).subset D)) fun b c=>bL h fun S h=>N _ _ r h b c
theorem Ps{α:Type}:∀ {cls:List (List α)},cls.flatten.Nodup->∀ C∈cls,∀ C'∈cls,∀ x,x∈C->x∈C'->C=C':=by
 intro T;induction T with
 |nil =>
  intro _ C L _ _ _ _ _;exact (a7 L).elim
 |cons D cls N =>
  intro h C L C' G x J F;rw [pp,wO] at h;rcases aL.mp L with S|h1
  . rcases aL.mp G with Q|P
    . refine rl S (rl Q rfl)
    . rw [S] at J;exact absurd rfl (h.2.2 x J x (sL.mpr ⟨C',P,F⟩))
  . rcases aL.mp G with Q|P
    . rw [Q] at F;exact absurd rfl (h.2.2 x F x (sL.mpr ⟨C,h1,J⟩))
    . exact N h.2.1 C h1 C' P x J F
theorem E1(hm:m=2\/m=3):(eO m).Nodup:=by rcases hm with rfl|rfl<;>decide +kernel
section
variable {Ψ:Nat->List D->Option D} {m:Nat} {L:List (List Int)} {cls:List (List (List Int))} {rows:List (List Int)}
structure RQ (m:Nat) (L:List (List Int)) (cls:List (List (List Int))) (rows:List (List Int)):Prop where
 cl:v5 m L cls
 sub:∀ x∈rows,x∈eO m
 pw:rows.Pairwise fun a b=>a6 a b=true
 stp:∀ p∈ew L,∀ x∈rows,x.map (aA p.1 p.2)∈rows
theorem E2 a b(x:List Int):(x.map (aA a b)).map (aA a b)=x:=by
 refine rl cU ?_;have:(aA a b ∘ aA a b)=id:=by funext y;exact nN a b y
 refine rl this (rl (pX ..) rfl)
theorem IG(R:RQ m L cls rows){C:List (List Int)}{D:List Int}(K:Cl m L D C)(N:x∈C):x∈rows↔D∈rows:=by
 refine ae K.orb fun f J=>ac J fun h1 Q=>?_;clear J;refine Ki (P:=fun x=>x∈rows↔D∈rows) (fun p G x h=>?_) 40 [D] [D] f h1 (fun y F=>by rcases aV.mp F with rfl;exact gH) (fun y F=>by rcases aV.mp F with rfl;exact gH) x (Q.mem_iff.mpr N);refine Iff.trans ⟨fun h'=>?_,fun h'=>R.stp p G x h'⟩ h
 have:=R.stp p G _ h';rw [E2] at this;exact this
theorem LV(Q:WQ Ψ m L)(R:RQ m L cls rows):∀ post pre n O S,rows=pre++post->TG O m L S->(∀ C∈cls,∀ x∈C,x∈S->∀ y∈C,y∈S)->(∀ x∈pre,x∈S)->S.length<=60 * pre.length->pre.length+post.length<=64 ->
 ∃ I,cw Ψ (n+101+post.length) O (.one 16) k0 (post.map aj)=aa (I,.next):=by
 intro r_
 induction r_ with
 |nil =>
  intro pre n O S _ _ _ _ _ _;exact ⟨O,rfl⟩
 |cons row post v =>
  intro pre n O S e g q i2 p hl;have e':rows=(pre ++ [row])++post:=by refine rl e ?_;refine rl (lA ..) ?_;rfl
  have F:row∈rows:=by refine rl e ?_;exact List.mem_append_cons_self
  have X:∃ σ₁ D,be Ψ (n+101+post.length) (ag O 16 (.d (aj row))) k0=aa (σ₁,.next)/\TG σ₁ m L D/\(∀ C∈cls,∀ x∈C,x∈D->∀ y∈C,y∈D)/\(∀ x∈pre ++ [row],x∈D)/\D.length<=60 * (pre ++ [row]).length:=by
   by_cases h:row∈S
   . refine aR (ag O 16 (.d (aj row))) S ⟨?_,g.set (i:=16) (by decide),q,fun x J=>?_,by refine rl gX ?_;simp;exact Ob p⟩
     . have e:n+101+post.length=(n+95+post.length)+6:=Oc
       refine rl e (LU g h)
     . rcases bC.mp J with J|J
       . exact i2 x J
       . clear e F e' n;rcases aV.mp J with rfl;exact h
   . have a:row∈cls.flatten:=R.cl.cov.mem_iff.mpr (R.sub row F);refine ae (sL.mp a) fun C T=>ac T fun f G=>?_;clear T;refine ae (R.cl.all C f) fun V K=>?_;have r:V=row:=Classical.byContradiction fun j=>by
      have N:V∈rows:=(IG R K G).mp F;have k:V∈C:=DO K.hd;have o:a6 V row=true:=by
       have pw:=K.pw;have hd:=K.hd;clear N a F e' n;rcases C with _|⟨c,C⟩
       . clear K G f h;exact nS hd
       . clear K f h k;replace hd:=sI hd;subst hd;rcases aL.mp G with e|G
         . exact absurd e.symm j
         . exact (iX.mp pw).1 row G
      have l:V∈pre:=by
       rw [e] at N;rcases bC.mp N with N|N
       . exact N
       . rcases aL.mp N with N|N
         . exact absurd N j
         . have pw:=R.pw;rw [e] at pw
           have:=(iX.mp ((List.pairwise_append.mp pw).2.1)).1 V N;rw [nq _ _ o] at this;exact nB this
      exact h (q C f V k (i2 V l) row G)
     clear a F e';subst r;have hS:S.length<=5000:=by rw [el] at hl;exact Od p hl
     refine ae (Rc (n:=n+1+post.length) Q K g h hS) fun σ₁ T=>ac T fun g1 h1=>?_;clear T;refine aR σ₁ (hN S C) ⟨?_,g1,fun C' b x J P y u=>?_,fun x J=>?_,?_⟩
     . have e:n+101+post.length=(n+1+post.length)+100:=Oe
       refine rl e h1
     . rw [yp] at P ⊢;clear h1 g1 G e K;clear σ₁;rcases P with P|t
       . exact .inl (q C' b x J P y u)
       . skip
         have:=Ps (R.cl.cov.nodup_iff.mpr (E1 Q.hm)) C' b C f x J t;rw [this] at u;exact .inr u
     . refine rp (yp ..) ?_;rcases bC.mp J with J|J
       . exact .inl (i2 x J)
       . clear h1 g1 e;clear σ₁;rcases aV.mp J with rfl;exact .inr G
     . have:=FJ C S
       have:=K.len;refine rl gX ?_;simp;exact Of p ‹_› this
  refine aM X fun σ₁ D T=>cX T fun h1 h2 h3 h4 z=>?_;clear X T;refine ae (v (pre ++ [row]) n σ₁ D e' h2 h3 h4 z (by refine rl gX ?_;simp at hl ⊢;exact PO hl)) fun I h'=>?_;exact ⟨I,(gm (n:=n+101+post.length) rfl h1).trans h'⟩
theorem Kj(Q:WQ Ψ m L)(R:RQ m L cls rows)post pre n O S(J:rows=pre++post)(N:TG O m L S)(P:(∀ C∈cls,∀ x∈C,x∈S->∀ y∈C,y∈S))(V:(∀ x∈pre,x∈S))(T:S.length<=60 * pre.length)(D:pre.length+post.length<=64){G:Prop}(k:∀ I,cw Ψ (n+101+post.length) O (.one 16) k0 (post.map aj)=aa (I,.next)->G):G:=ae (LV Q R post pre n O S J N P V T D) fun F z1=>k F z1
end
theorem G9:∀ N D L G F J:Bool,(!(tri N G D && tri N F L && tri D J L && tri G J F) ||
 (ew (iE (fc (mE N D L G F J) [] [1,2,3,4]))).all fun q=>decide (1<=q.1) && decide (q.1 < q.2) && decide (q.2<=4) && mE N D L G F J q.1 q.2)=true:=by decide +kernel
theorem FK(E:oN p):∀ q∈ew (iE (fc p [] [1,2,3,4])),q.1≠q.2/\p q.1 q.2=true:=by
 refine rl (yo (qr p)) ?_;have h:=G9 (p 1 2) (p 1 3) (p 1 4) (p 2 3) (p 2 4) (p 3 4);rw [E.tri (a:=1) (b:=2) (c:=3) (by decide) (by decide) (by decide),E.tri (a:=1) (b:=2) (c:=4) (by decide) (by decide) (by decide),E.tri (a:=1) (b:=3) (c:=4) (by decide) (by decide) (by decide),E.tri (a:=2) (b:=3) (c:=4) (by decide) (by decide) (by decide)] at h;simp only [lJ,Bool.not_true,tj] at h;intro q hq
 have:=bq.mp h q hq;simp only [bX,decide_eq_true_eq] at this;refine ac this fun D h4=>?_;clear this;refine ac D fun F J=>?_;clear D;refine ac F fun h1 G=>?_;clear F;exact ⟨by exact vH G,by refine rl (qr p q.1 q.2 h1 G J) ?_;exact h4⟩
theorem FL(h:eU m dc):eP a6 (ez (bu m dc))=true:=by obtain ⟨rfl|rfl,rfl|rfl|rfl|rfl|rfl⟩:=h<;>kernel_rfl
theorem Pt(h:eU m dc)(hl:∀ r∈l,r.ok2 m)(N:l.length<=3)(hc:v5 m (mr l m dc) cls):RQ m (mr l m dc) cls (fC l m dc) where
 cl:=hc
 sub:=fun x G=>by
  refine yW (b3.mp G).1 fun h1 P=>um h.1 h1 (by refine rl P ?_;refine rl (jY h) ?_;rfl)
 pw:=(qR (fun a b c=>(kE [a,b,c]).trans a (.head _) b (by exact .tail _ (.head _)) c (by exact .tail _ (.tail _ (.head _)))) _ (FL h)).filter _
 stp:=fun p Q x G=>by
  refine ac (FK (uE hl N (bu m dc)) p Q) fun J D=>?_;unfold pE at D;rw [bX,decide_eq_true_eq] at D;refine jv G fun F L=>?_;have hlen:=(qE F).2;rw [jY h] at hlen;refine b3.mpr ⟨?_,?_⟩
  . have:=yV D.1 F;have e:aA p.1 p.2=aA p.2 p.1:=by funext y;exact l6 _ _ _
    refine rl e this
  . refine rl (yn hl N J D.2 x (by rcases h.1 with e|e<;>(first|exact Og hlen e|exact Oh hlen e))) ?_
    exact L
theorem Re k(hm:m=2\/m=3)(D:L∈bw):Φ (k+1) 19 [dq L,sc m]=aa (.list ((ew L).map (bl m))):=by simp only [bw,aL,a7,or_false] at D;rcases hm with rfl|rfl<;>rcases D with rfl|rfl|rfl|rfl|rfl|rfl|rfl|rfl|rfl|rfl|rfl|rfl|rfl|rfl|rfl<;>kernel_rfl
theorem Rf k(hm:m=2\/m=3)(D:L∈bw):Φ (k+1) 16 [dq L,sc m]=aa (.list ((eZ L).map (rD m))):=by simp only [bw,aL,a7,or_false] at D;rcases hm with rfl|rfl<;>rcases D with rfl|rfl|rfl|rfl|rfl|rfl|rfl|rfl|rfl|rfl|rfl|rfl|rfl|rfl|rfl<;>kernel_rfl
theorem ub(D:L∈bw):(ew L).length<=50/\(f0 L).length<=100:=by
 have:∀ L∈bw,(ew L).length<=50/\(f0 L).length<=100:=by decide +kernel
 exact this L D
theorem FM:∀ r∈eZ L,∀ m,r.ok m:=fun r hr m=>by
 refine bB hr fun p _ D=>?_;subst D;trivial
noncomputable def gP(i:Nat):St:=r9.body.getD i .bad
noncomputable def uP:Ex:=match gP 10 with
 | .ite (.cmp _ _ b) _ _=>b
 |_=>.none
noncomputable def AF:Ex:=match gP 3 with
 | .asg _ (.val e)=>e
 |_=>.none
theorem Ha{Ψ:Nat->List D->Option D}{m:Nat}(hm:m=2\/m=3){L:List (List Int)}(J:L∈bw)(N e P X c T b a S F Q G:V):
 aJ Ψ 288 [(0,N),(1,e),(2,P),(3,.d (sc m)),(4,X),(5,c),(6,T),(7,b),(8,a),(9,S),(10,.d (dq L)),(11,F),(12,.d (.list ((ew L).map (bl m)))),(13,G)] (.cmp .NotEq (.var 12) uP)=aa false:=by
 simp only [bw,aL,a7,or_false] at J
 rcases hm with rfl|rfl<;>rcases J with rfl|rfl|rfl|rfl|rfl|rfl|rfl|rfl|rfl|rfl|rfl|rfl|rfl|rfl|rfl<;>kernel_rfl
def vP(lk:Nat):Prop:=lk=1\/lk=2\/lk=3\/lk=4
theorem IH{m lk dc:Nat}(hm:m=2\/m=3)(F:vP lk)(G:dc=0\/dc=lk)J L :
 b8 Ψ 294 [(0,J),(1,L),(2,.d (.int m)),(3,.d (sc m)),(4,.d (.int lk)),(5,.d (gn (bu m dc))),(6,.o (.list []))] (gP 5) =
  aa ([(0,J),(1,L),(2,.d (.int m)),(3,.d (sc m)),(4,.d (.int lk)),(5,.d (gn (bu m dc))),(6,.o (hZ (bu m dc))),(7,.d (lD (bQ 0))),(8,.d (.list [.tup [.int 1,.int 4]]))],.next):=by
 rcases hm with rfl|rfl<;>rcases F with rfl|rfl|rfl|rfl<;>rcases G with rfl|rfl<;>kernel_rfl
theorem Rg{D:Ex->Option Bool}{a b c:Ex}(h1:D a=aa x)(G:D b=aa y)(F:D c=aa z):lf D [a,b,c]=aa (x || (y || z)):=by show (D a).bind (fun q=>cond q (aa true) ((D b).bind fun q=>cond q (aa true) ((D c).bind fun q=>cond q (aa true) (aa false))))=_;rw [h1,G,F];obtain ⟨⟩:=x<;>obtain ⟨⟩:=y<;>obtain ⟨⟩:=z<;>rfl
theorem uH{ds:List Int}(D:j < ds.length)(F:ds.length<=100):ox (.list (ds.map .int)) (.int j)=aa (.int (ds.getD j 0)):=by refine rl (uY (by omega)) (rl (lz ..) (rl cy (rl f7 (rl (dt D) rfl))))
theorem Hb{m lk dc:Nat}(hm:m=2\/m=3)(J:vP lk){ds:List Int}(hl:ds.length=20)(F:dc=if (ds.getD 1 0).fmod 3=2 then lk else 0)l c :
 an Ψ 295 [(0,l),(1,.d (.list (ds.map .int))),(2,c),(3,.d (sc m)),(4,.d (.int lk))] AF=aa (gn (bu m dc)):=by
 generalize G:[(0,l),(1,V.d (.list (ds.map .int))),(2,c),(3,.d (sc m)),(4,.d (.int lk))]=O
 have g1:ah O 1=aa (.d (.list (ds.map .int))):=by refine rl (az G) ?_;rfl
 have g3:ah O 3=aa (.d (ig m)):=by refine rl (az G) ?_;refine rl (az (n6 hm)) ?_;rfl
 have g4:ah O 4=aa (.d (.int lk)):=by refine rl (az G) ?_;rfl
 have e:gn (bu m dc) = .list ((c8 m).map fun i=>lD (bQ ((bu m dc).getD i 0))):=by
  clear g4 g3 g1 F hl J;rcases hm with rfl|rfl<;>rfl
 refine rl e ?_;refine ji (n:=294) (f:=fun (i:Nat)=>D.int (i:Int)) (g:=fun i=>lD (bQ ((bu m dc).getD i 0))) ?_ ?_ (fun i hi=>?_) (by refine rl sA ?_;rcases hm with rfl|rfl<;>exact f9 _ _)
 . show ((ah O 1).isSome && ((ah O 4).isSome && true))=true;refine rl g1 (rl g4 rfl)
 . show (bS (an Ψ 294 O) O (.var 3)).bind dQ=_;refine rl (dy g3) rfl
 . have p:=en.mp hi;have S:ah (ag O 21 (.d (.int (i:Int)))) 1=aa (.d (.list (ds.map .int))):=a9 g1 (by decide);have X:ah (ag O 21 (.d (.int (i:Int)))) 4=aa (.d (.int lk)):=a9 g4 (by decide);have L:ah (ag O 21 (.d (.int (i:Int)))) 21=aa (.d (.int (i:Int))):=bZ;refine gK (I:=ag O 21 (.d (.int (i:Int)))) rfl rfl ?_;generalize ag O 21 (.d (.int (i:Int)))=τ at S X L;have Q:bQ ((bu m dc).getD i 0) = [1,2,3,4].filter fun v:Int => !decide ((ds.getD 1 0).fmod 3=2) || (!decide ((i:Int)=0) || !decide (v=(lk:Int))):=by
    by_cases hq:(ds.getD 1 0).fmod 3=2
    . rw [if_pos hq] at F;subst F;refine rl (decide_eq_true hq) ?_;rcases hm with rfl|rfl
      . have:i=0\/i=1:=oQ ‹_›
        rcases this with rfl|rfl<;>rcases J with rfl|rfl|rfl|rfl<;>rfl
      . have:i=0\/i=1\/i=2:=vQ ‹_›
        rcases this with rfl|rfl|rfl<;>rcases J with rfl|rfl|rfl|rfl<;>rfl
    . rw [if_neg hq] at F;subst F;refine rl (decide_eq_false hq) ?_;rcases hm with rfl|rfl
      . have:i=0\/i=1:=oQ ‹_›
        rcases this with rfl|rfl<;>rfl
      . have:i=0\/i=1\/i=2:=vQ ‹_›
        rcases this with rfl|rfl|rfl<;>rfl
   unfold lD;refine rl Q (rl (az (g6 ..)) ?_);have T:(([1,2,3,4]:List Int).flatMap fun v=>if (!decide ((ds.getD 1 0).fmod 3=2) || (!decide ((i:Int)=0) || !decide (v=(lk:Int))))=true then [D.int v] else []).length<=100000:=by
    refine rl (g6 ..) (rl (aZ ..) ?_);exact aH (jA ..) (by decide)
   refine jh (n:=293) (f:=.int) (g:=fun v=>if (!decide ((ds.getD 1 0).fmod 3=2) || (!decide ((i:Int)=0) || !decide (v=(lk:Int))))=true then [D.int v] else []) ?_ rfl (fun v hv=>?_) T
   . show ((ah τ 1).isSome && ((ah τ 4).isSome && ((ah τ 21).isSome && true)))=true;refine rl S (rl X (rl L rfl))
   . have o:ah (ag τ 23 (.d (.int v))) 1=aa (.d (.list (ds.map .int))):=a9 S (by decide);have k:ah (ag τ 23 (.d (.int v))) 4=aa (.d (.int lk)):=a9 X (by decide);have P:ah (ag τ 23 (.d (.int v))) 21=aa (.d (.int (i:Int))):=a9 L (by decide);have N:ah (ag τ 23 (.d (.int v))) 23=aa (.d (.int v)):=bZ;refine mq (I:=ag τ 23 (.d (.int v))) rfl (j8 ?_) (bG N);generalize ag τ 23 (.d (.int v))=ρ at o k P N;have ne:∀ a b:Int,fE .NotEq (.int a) (.int b)=aa (!decide (a=b)):=fun a b=>by
      show aa (!(bf (.int a) (.int b)))=_;refine rl (eE ..) rfl
     show lf (aJ Ψ 292 ρ) _=_;refine Rg (db (n:=291) (fB (n:=290) (iI (n:=289) (dy o) rfl (uH (j:=1) (Oi hl) (vI hl))) rfl rfl) rfl (ne _ _)) (db (n:=291) (bG P) rfl (ne _ _)) (db (n:=291) (bG N) (dy k) (ne _ _))
set_option tactic.hygienic true in
theorem Pu (vz:∀ ns:List Int,ns.length<=63->Φ 7 26 [.list (ns.map .int)]=aa (.bool true)):PySem.Challenge.rw_ok0089_01.Holds:=by
 refine hd (fun w t s₁ y mb G Y k o pm cd doc dV kV ho u x hD j hg args l as V P f g c=>?_);have T:=G.T;clear G Y;wrow_args V P f g c;rename_i ns _ _ _ _ _ _ _ a vs _ p _ w1 _ z _ hlen _;have N:ns.length<=63:=Oj hlen
 have D:∃ n,s₁.heap.get? a=aa (cL vs n):=by
  refine ae p fun o' F=>?_;clear p;refine aE F fun h1 m X=>?_;clear F;refine ae X fun n' i=>?_;clear X;cases w1 with
  |list h4 _ =>
   rw [h4] at h1;replace h1:=sI h1;subst h1;injection i with i h5;exact ⟨0,by refine rl h4 ?_;refine rl i ?_;rfl⟩
 refine ae D fun n hl=>?_;clear D;have J:∃ d,d7[26]? = aa d/\d.name=PySem.Challenge.rw_ok0089_01.row.name:=by
  have:d7[26]?.map (·.name)=aa PySem.Challenge.rw_ok0089_01.row.name:=by kernel_rfl
  refine aG this fun d h1 m=>⟨d,h1,m⟩
 refine ae J fun d F=>ac F fun S L=>?_;clear J F;have Q:y d.name=aa (.ref k):=by refine rl L ?_;exact j
 refine aF ((OX (B:=PySem.Challenge.rw_ok0089_01.row.prog) (w:=w) T 7 26 d S k Q _ _ (vz ns N)) callerA [] s₁ [.ref a] (⟨rfl,by decide,by decide⟩) (fun b o e=>e) (fun b hb=>by exact (a7 hb).elim) (fun b hb=>by exact (a7 hb).elim) (.cons (lU.mpr ⟨a,vs,n,rfl,by exact fun h=>a7 h,hl,lV.mp z⟩) .nil)) (fun v s' q=>?_) fun r r e=>e.elim;refine ac q fun F rv=>?_;clear q;refine iO F fun h' tk X hk=>?_;clear F;subst X;obtain rfl:=ei.mp rv;refine GoodW.toG ⟨.inl ⟨.bool true,.bool true,[],rfl,fun cls=>?_,?_,?_,?_⟩,hk,rfl,hg⟩
 . rfl
 . constructor
 . wrow_post
 . exact fun r=>⟨xc,fun a ha=>by exact (a7 ha).elim⟩
theorem II:r9.body = [gP 0,gP 1,gP 2,.asg 5 (.val AF),.asg 6 (.own (.list [])),gP 5,gP 6,gP 7,gP 8,gP 9,.ite (.cmp .NotEq (.var 12) uP) [.ret (.bool false)] [],gP 11,.loop (.one 16) (.var 11) k0,.ret (.bool true)]:=rfl
theorem uQ{n:Nat}{O:Sg}(F:x≠y)(ha:jy Ψ n O a=aa p)(hb:jy Ψ n O b=aa q):b8 Ψ (n+1) O (.asg2 x y a b)=aa (ag (ag O x p) y q,.next):=(if_neg F).trans ((bI ha).trans (mI hb))
theorem oj{n:Nat}{O:Sg}(h:an Ψ n O e=aa d):jy Ψ n O (.val e)=aa (.d d):=by simp only [jy,h,gc]
theorem Aj{n:Nat}{O I:Sg}{c:Ex}(F:a0 O (aX (n+1) c)=I)(hc:aJ Ψ (n+1) I c=aa false)(h:cm (be Ψ (n+2) I r)=aa d):cm (be Ψ (n+3) O (.ite c as []::r))=aa d:=by subst F;exact bM hc h
theorem Ak{n:Nat}{O I σ₂:Sg}{s:St}(h:b8 Ψ n O s=aa (I,.next))(e:I=σ₂)(h':cm (be Ψ n σ₂ r)=aa d):cm (be Ψ (n+1) O (s::r))=aa d:=by subst e;exact et h h'
theorem LW{n:Nat}{O I σ₂:Sg}(F:a0 O (aX n e)=σ₂)(h:an Ψ n σ₂ e=aa (.tup ds))(hl:ds.length=xs.length)(G:(xs.zip ds).foldl (fun s p=>ag s p.1 (.d p.2)) σ₂=I)(h':cm (be Ψ (n+1) I r)=aa d):
 cm (be Ψ (n+2) O (.unp xs e::r))=aa d:=by
 subst F;subst G;exact Be h hl h'
noncomputable def lS(L F S N G li J a X T P Q:D)(ex:List (Nat×V)):Sg:=[(0,.d L),(1,.d F),(2,.d S),(3,.d N),(4,.d G),(5,.d li),(6,.d J),(7,.d a),(8,.d X),(9,.d T),(10,.d P),(11,.d Q)]++ex
noncomputable def Pw:Ex:=.or [.cmp .Is (.var 10) .none,.cmp .NotEq (.call 15 [.var 9,.var 3,.var 6]) (.var 10)]
theorem IJ N G Q J li F T S P(hm:m=2\/m=3)(hL:L∈bw)(V:rows.length<=64)
 (c:Ψ 15 [P,sc m,F]=aa (dq L)) (f:Ψ 19 [dq L,sc m]=aa (.list ((ew L).map (bl m)))) (e:Ψ 16 [dq L,sc m]=aa (.list ((eZ L).map (rD m)))) (j:Ψ 24 [dq L]=aa (.list ((f0 L).map .idict)))
 (X:WQ Ψ m L) (b:RQ m L cls rows) :
 cm (be Ψ 292 (lS N G Q (sc m) J li F T S P (dq L) (dr rows) []) [.ite Pw [.ret (.bool false)] [],.asg2 12 13 (.val (.call 19 [.var 10,.var 3])) (.val (.call 16 [.var 10,.var 3])),.ite (.cmp .NotEq (.var 12) uP) [.ret (.bool false)] [],.asg2 14 15 (.val (.call 24 [.var 10])) (.own (.dict [] [])),.loop (.one 16) (.var 11) k0,.ret (.bool true)])=aa (.bool true):=by
 have g:=@Ha Ψ m hm L hL (.d N) (.d G) (.d Q) (.d J) (.d li) (.d F) (.d T) (.d S) (.d P) (.d (dr rows)) (.d (.list ((ew L).map (bl m)))) (.d (.list ((eZ L).map (rD m))))
 have a:=uG L L
 rw [decide_eq_true rfl] at a
 have k:=zC rows
 have g0:TG (lS N G Q (sc m) J li F T S P (dq L) (dr rows) [(12,.d (.list ((ew L).map (bl m)))),(13,.d (.list ((eZ L).map (rD m)))),(14,.d (.list ((f0 L).map .idict))),(15,.o (.idict []))]) m L []:=⟨rfl,rfl,rfl,rfl,rfl⟩
 refine Kj X b rows [] (185 - rows.length) _ [] rfl g0 (fun C ο x ο h=>(by exact (a7 h).elim)) (fun x h=>(by exact (a7 h).elim)) (cG _) (by simp;assumption) fun I l=>?_
 have r:185 - rows.length+101+rows.length=286:=Ol V
 rw [r] at l
 clear g0 b X r
 generalize i:dq L=LD at *
 generalize z:dr rows=RD at *
 generalize hSD:D.list ((ew L).map (bl m))=SD at *
 generalize hED:D.list ((eZ L).map (rD m))=ED at *
 generalize hTD:D.list ((f0 L).map .idict)=TD at *
 generalize hsc:sc m=scD at *
 refine Aj (n:=289) (I:=lS N G Q scD J li F T S P LD RD []) (by kernel_rfl) ?_ ?_
 . have v:aJ Ψ 289 (lS N G Q scD J li F T S P LD RD []) (.cmp .Is (.var 10) .none)=aa false:=by
    refine rl (az i) ?_;kernel_rfl
   have u:aJ Ψ 289 (lS N G Q scD J li F T S P LD RD []) (.cmp .NotEq (.call 15 [.var 9,.var 3,.var 6]) (.var 10))=aa false:=by
    refine db (n:=288) (x:=LD) (y:=LD) (bz (n:=287) (ds:=[P,scD,F]) (by kernel_rfl) c) (by kernel_rfl) a
   show lf (aJ Ψ 289 (lS N G Q scD J li F T S P LD RD [])) [.cmp .Is (.var 10) .none,.cmp .NotEq (.call 15 [.var 9,.var 3,.var 6]) (.var 10)]=aa false;exact (bI v).trans (bI u)
 refine Ak (n:=290) (σ₂:=lS N G Q scD J li F T S P LD RD [(12,.d SD),(13,.d ED)]) (uQ (n:=289) (p:=.d SD) (q:=.d ED) (by decide) (oj (bz (n:=288) (ds:=[LD,scD]) (by kernel_rfl) f)) (oj (bz (n:=288) (ds:=[LD,scD]) (by kernel_rfl) e))) (by kernel_rfl) ?_;refine Aj (n:=287) (I:=lS N G Q scD J li F T S P LD RD [(12,.d SD),(13,.d ED)]) (by kernel_rfl) g ?_;refine Ak (n:=288) (σ₂:=lS N G Q scD J li F T S P LD RD [(12,.d SD),(13,.d ED),(14,.d TD),(15,.o (.idict []))]) (uQ (n:=287) (p:=.d TD) (q:=.o (.idict [])) (by decide) (oj (bz (n:=286) (ds:=[LD]) (by kernel_rfl) j)) (by kernel_rfl)) (by kernel_rfl) ?_;have t:a0 (lS N G Q scD J li F T S P LD RD [(12,.d SD),(13,.d ED),(14,.d TD),(15,.o (.idict []))]) (aX 286 (.var 11))=lS N G Q scD J li F T S P LD RD [(12,.d SD),(13,.d ED),(14,.d TD),(15,.o (.idict []))]:=by kernel_rfl
 refine et (n:=287) (I:=I) ?_ (bK (n:=285) rfl);refine (jX (n:=286) (xs:=rows.map aj) ?_).trans ?_
 . refine rl t ?_;show (an Ψ 286 (lS N G Q scD J li F T S P LD RD [(12,.d SD),(13,.d ED),(14,.d TD),(15,.o (.idict []))]) (.var 11)).bind dQ=_;refine rl (bG (d:=RD) (by kernel_rfl)) k
 . refine rl t l
theorem vz(ns:List Int)(hn:ns.length<=63):Φ 7 26 [.list (ns.map .int)]=aa (.bool true):=by
 rw [dz 6 26 (by decide) (by decide) (fn:=r9) rfl];refine cM (n:=300) rfl (rl II ?_);have F:=J3 (fZ ns);have G:=J2 ns;have P:=QX 5 ns hn;generalize mF (fZ ns)=ds at F G P;generalize d10:D.list (ns.map .int)=scr at P;have n0:=lx (ds.getD 0 0) (b:=2) (by decide);have n1:=mU (ds.getD 0 0) (b:=2) (by decide);refine lk fun _ v=>?_;obtain ⟨m,hm,p⟩:∃ m:Nat,(m=2\/m=3)/\(2+(ds.getD 0 0).fmod 2:Int)=m:=by
  have:(ds.getD 0 0).fmod 2=0\/(ds.getD 0 0).fmod 2=1:=oI2 ‹_› ‹_›
  clear n1 n0 P G F hn;rcases this with h|h
  . exact ⟨2,.inl rfl,by refine rl h ?_;rfl⟩
  . exact ⟨3,.inr rfl,by refine rl h ?_;rfl⟩
 refine v ?_;have l0:=lx (ds.getD 2 0) (b:=4) (by decide);have l1:=mU (ds.getD 2 0) (b:=4) (by decide);refine lk fun _ v=>?_;obtain ⟨lk,T,f⟩:∃ lk:Nat,vP lk/\(1+(ds.getD 2 0).fmod 4:Int)=lk:=by
  have:(ds.getD 2 0).fmod 4=0\/(ds.getD 2 0).fmod 4=1\/(ds.getD 2 0).fmod 4=2\/(ds.getD 2 0).fmod 4=3:=rQ ‹_› ‹_›
  clear p hm l1 l0 n1 n0 P G;clear m;rcases this with h|h|h|h
  . exact ⟨1,.inl rfl,by refine rl h ?_;rfl⟩
  . exact ⟨2,.inr (.inl rfl),by refine rl h ?_;rfl⟩
  . exact ⟨3,.inr (.inr (.inl rfl)),by refine rl h ?_;rfl⟩
  . exact ⟨4,.inr (.inr (.inr rfl)),by refine rl h ?_;rfl⟩
 clear l1 l0 n1 n0 hn;obtain ⟨dc,c⟩:∃ dc:Nat,dc=if (ds.getD 1 0).fmod 3=2 then lk else 0:=⟨_,rfl⟩
 have Q:dc=0\/dc=lk:=by
  refine rl c ?_;split
  . exact .inr rfl
  . exact .inl rfl
 have X:eU m dc:=⟨hm,by
  clear c f p hm;clear P G F;rcases Q with h|h
  . exact .inl h
  . clear m;rcases T with e|e|e|e<;>(refine rl h ?_;refine rl e ?_)<;>(first|exact Or.inr (Or.inl rfl)|exact .inr (.inr (.inl rfl))|exact .inr (.inr (.inr (.inl rfl)))|decide)⟩
 refine ac (Iy hm ds F G) fun N J=>?_;have o:=QY 5 hm ds F G;generalize qX m ds=l at N J o;have V:=Iv (m:=m) (dc:=dc) N J;have a:=QV 0 X N J;have k:=QU 0 X N J;refine ae (LO hm V) fun cls g=>?_;have q:=Pt X N J (IE hm g);generalize hLe:mr l m dc=L at V a k q;have S:(fC l m dc).length<=64:=aH (jA ..) (yX X);generalize fC l m dc=rows at a q S;generalize hRd:D.list (l.map (rD m))=Rd at o a k;refine v (cR (n:=298) (O:=[(0,.d scr)]) (i:=1) (e:=.call 20 [.var 0]) (x:=.list (ds.map .int)) (bz (n:=297) (ds:=[scr]) rfl P) (cR (n:=297) (O:=[(0,.d scr),(1,.d (.list (ds.map .int)))]) (i:=2) (e:=.bin .Add (.int 2) (.bin .Mod (.sub (.var 1) (.int 0)) (.int 2))) (x:=.int m) ?_ ?_))
 . refine rl (az p) ?_;exact fB (n:=296) rfl (fB (n:=295) (iI (n:=294) (dy rfl) rfl (uH (j:=0) (Om F) (vI F))) rfl rfl) rfl
 refine et (n:=297) (I:=[(0,.d scr),(1,.d (.list (ds.map .int))),(2,.d (.int m)),(3,.d (sc m)),(4,.d (.int lk))]) ?_ ?_
 . refine uQ (n:=296) (O:=[(0,.d scr),(1,.d (.list (ds.map .int))),(2,.d (.int m))]) (x:=3) (y:=4) (by decide) (oj (d:=sc m) ?_) (oj (d:=.int lk) ?_)
   . clear g J N T Q c;rcases hm with rfl|rfl<;>kernel_rfl
   . refine rl (az f) ?_;exact fB (n:=295) rfl (fB (n:=294) (iI (n:=293) (dy rfl) rfl (uH (j:=2) (On F) (vI F))) rfl rfl) rfl
 refine cR (n:=295) (Hb hm T F c _ _) (vh (n:=294) (x:=.list []) rfl (et (n:=294) (IH hm T Q _ _) (cR (n:=292) (bz (n:=291) (ds:=[.list (ds.map .int),.int m]) rfl o) ?_)));have tl:=IJ (Ψ:=Φ 6) scr (.list (ds.map .int)) (.int m) (.int lk) (gn (bu m dc)) (hZ (bu m dc)) (lD (bQ 0)) (.list [.tup [.int 1,.int 4]]) Rd hm V S k (Re 5 hm V) (Rf 5 hm V) (Rb 5 V)
  ⟨hm,(ub V).2,(ub V).1,fun row t h=>Cf 5 row t h,fun r hr row h1 z=>Ce 5 m hm r (FM r hr m) row h1 z,fun row u r s h1 z=>Ra 3 hm u (by have:=(ub V).1;exact aH ‹_› (by decide)) h1 z⟩ q
 generalize hLD:dq L=LD at *;generalize hRD:dr rows=RD at *;generalize hsc:sc m=scD at *;generalize hdo:hZ (bu m dc)=doD at *;generalize hli:gn (bu m dc)=liD at *;exact LW (n:=291) (ds:=[LD,RD]) (σ₂:=[(0,.d scr),(1,.d (.list (ds.map .int))),(2,.d (.int m)),(3,.d scD),(4,.d (.int lk)),(5,.d liD),(6,.d doD),(7,.d (lD (bQ 0))),(8,.d (.list [.tup [.int 1,.int 4]])),(9,.d Rd)]) (by kernel_rfl)
  (bz (n:=290) (ds:=[Rd,scD,doD,liD]) (by kernel_rfl) a) rfl (by kernel_rfl) tl
end Mine
end
theorem PySem.Challenge.cw_ok0089_01_holds : PySem.Challenge.rw_ok0089_01.Holds :=
  Mine.Pu Mine.vz
