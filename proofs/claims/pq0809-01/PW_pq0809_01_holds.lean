import PyProof.Rows.All
import Wide.All
import OpenK.AllK
import Wide.FinOn
import KE.KRevIter
import PyProof.WalksEnum
import PyProof.EnumMake
import PyProof.RangeFor
import PyProof.Rows.Range3
import PyProof.CompFree
import PyProof.CompUse
import KE.KRevSl
import KE.KBytesCut
import PyProof.ExcInit
import PyProof.ExcClass3
import PyProof.ExcBaseAll.Exception
import PyProof.RulesAs
import PyProof.RulesDel
import PyProof.ZipIter
import Lean
import PySem.Challenge.RW_pq0809_01
set_option bootstrap.genMatcherCode false
set_option maxRecDepth 100000
set_option Elab.async false
set_option autoImplicit true
set_option linter.unusedVariables false
set_option tactic.hygienic false
namespace Mine.Internal
open _root_.Option renaming some→U,none→ae,isSome_iff_exists→kr,isNone_iff_eq_none→lm,map_eq_some_iff→qi
open _root_.Bool renaming true→af,false→ah,or_eq_true→nV,and_false→tf,false_ne_true→tg,not_eq_true'→th,or_eq_true_iff→ti,and_eq_true→xz,and_eq_true_iff→F2,false_eq_true→F3,or_true→F4,and_self→Vi,eq_false_iff→Vj,false_or→Vk,or_eq_false_iff→Vl
open PySem renaming Addr→aq,wpAny_bind→ax,Value→ay,wpAny→aD,Expr→aH,Shared→aP,wpAny_pure→bg,Heap→bz,Scope→bJ,Stmt→cH,wpAny_mono→cI,Around→c6,Builtin→eQ,wpAny_holding→e6,wpAny_ite_false→fb,wpAny_of_eq→fx,wpAny_field→fN,wpAny_standAt→fO,FuncData→gx,IntMulOk→gy,IsPair→gz,IsZip→h1,Const→i0,NameKind→i3,wpAny_seqItems→i6,Program→jL,DictEntry→km,World→ku,wpAny_loadPart→kv,BoolOp→k9,getMethod_builtin→lp,intKind_is→lq,wpAny_ite→lu,BindsTo→mB,strKind_is→mO,wpAny_Name→mP,wpAny_call→mQ,ExceptHandler→nW,Model→nY,Operator→n3,wpAny_call_entry→oa,wpAny_execs_nil→ob,wpAny_rule→oe,wpAny_setField_rec→og,CmpOp→p5,sizeLine_eq→qm,wpAny_ite_true→qn,wpAny_loadName_local→qo,wpAny_newObj_type→qp,wpAny_onRaise→qq,wpAny_storeName_local→qr,Comprehension→tl,IsPart→ts,Keyword→tu,bindC→tK,UnaryOp→tN,ZipApart→tR,wpAny_callSpecial?_slot→tT,wpAny_execs_cons→tU,wpAny_letGo→tV,wpAny_truthy_bool→tW,call_meets→xU,wpAny_attempt→xW,wpAny_items_cons→xX,ClassData→F7,slot_list_append→GK,arm_eval_Call→GL,arm_eval_Subscript→GM,bm_if_false→GN,builtinLookup_eq_fast→GO,codeAny_call_builtin→GP,codeAny_loop→GQ,codeAny_of_tree→GR,typeIs_str→GY,typeLookup_type→GZ,wpAny_Constant_int→G0,wpAny_Constant_str→G1,wpAny_List→G2,wpAny_items_nil→G3,wpAny_mkText→G4,wpAny_newTuple→G5,wpAny_noted→G6,wpAny_pyIter_list→G7,wpAny_pyIter_tuple→G8,wpAny_setField→G9,wpAny_typeOf→Ha,wpAny_updateSeq_pair→Hb,wpAt_bind→WD,wpAt_of_wpAny→WE,arm_eval_Attribute→WH,codeAny_compStart_list→WJ,entryFor_of_tree→WK,plainObj_wpAny_Assign_Attribute→WL,slot_list_getitem→WM,slot_list_setitem→WN,tupleKind_room_in1→WO,wpAny_Assign_Name→WP,wpAny_Assign_Subscript→WQ,wpAny_Return_some→WR,wpAny_Try_except→WS,wpAny_askSetting→WT,wpAny_comprehension_free→WU,wpAny_isInstance→WV,wpAny_isSubtype_exc→WW,wpAny_letTemporaryGo→WX,wpAny_loadName_cell→WY,wpAny_lookBehind→WZ,wpAny_newFunctionEnv→W0,wpAny_pyIter_listiter→W2,wpAny_pyIter_zip→W3,wpAny_pyNext_list_end→W4,wpAny_pyNext_list_item→W5
open _root_.Or renaming elim→aS
open _root_.Option.some renaming inj→aX
open _root_.List renaming mem_cons→b9,mem_append_right→ch,not_mem_nil→c4,mem_append→dj,mem_singleton→dx,nodup_append→dH,mem_append_left→d9,isEmpty_iff→eH,append_assoc→eM,nodup_cons→e5,map_cons→fa,getElem?_eq_getElem→fm,length_map→fn,mem_map→fw,append_nil→fL,getElem?_eq_some_iff→fM,length_cons→gg,length_append→gP,size_toArray→gQ,replicate→h3,all_eq_true→i2,length_take→jI,range→kp,range'→kq,any_cons→lg,perm_middle→lh,eq_nil_of_length_eq_zero→mF,forIn_cons→mG,length→mH,lookup_cons→mI,mem_filter→mJ,nil_append→mK,forIn_nil→p9,getElem?_map→qa,length_drop→qb,mem_of_getElem?→qc,contains_iff_mem→tv,drop_eq_getElem_cons→tw,filterMap_cons→tx,find?_cons→tA,reverse_cons→tB,getD_eq_getElem?_getD→xH,getElem?_append_right→xI,mem_range→xJ,perm_append_comm_assoc→xK,take_append_drop→xL,all_cons→Gi,cons_ne_nil→Gj,contains_cons→Gk,drop_eq_nil_of_le→Gl,filter_sublist→Gm,flatten_append→Gn,getElem?_append_left→Go,getElem?_concat_length→Gp,getElem?_take_of_lt→Gq,getElem?_zip_eq_some→Gr,mem_cons_of_mem→Gs,mergeSort_perm→Gu,push_toArray→Gv,take_add_one→Gw,take_sublist→Gx,any_eq_true→VL,any_toArray→VM,dropLast_eq_take→VN,drop_length→VO,findIdx?_cons→VP,flatten_singleton→VQ,foldl_cons→VR,getElem?_replicate→VS,getElem?_set→VT,getElem_inj→VU,getLast?_eq_getElem?→VV,le_trans→VW,length_mergeSort→VX,length_nil→VY,length_reverse→VZ,length_set→V0,lookup_eq_some_iff→V1,map_congr_left→V2,map_map→V3,mem_cons_self→V4,mem_iff_getElem?→V5,mem_mergeSort→V6,mem_of_mem_take→V7,pairwise_cons→V8,pairwise_map→V9,pairwise_mergeSort→Wa,perm_append_comm→Wb,replicate_succ→Wc,set_comm→Wd,set_set→We,take_of_length_le→Wf,zipIdx_cons→Wg,zipIdx_nil→Wh,zip_append→Wi,zip_cons_cons→Wj
open PySem.W renaming Frag→de,typeIs_bytes→i5,Looks→mL,emptyDict→n6,any_some→ql,hideAll_get→tS,looks_findIn→xV,looks_clsIn→GV,looks_subIn→GW,plainGet_of→GX
open _root_.Nat renaming zero_le→di,le_trans→dt,le_refl→eg,le_add_right→eA,lt_of_le_of_lt→eB,ble→gh,lt_irrefl→gA,not_lt→gB,le_of_eq→gR,lt_of_lt_of_le→hj,le_of_lt→iu,le_succ→i4,le_add_left→jJ,ne_of_lt→lj,succ_le_succ→ll,lt_of_succ_lt_succ→mM,zero_add→mN,add_right_comm→nZ,le_antisymm→n0,min_eq_left→n1,ne_of_gt→n2,add_le_add_left→qd,le_succ_of_le→qe,lt_succ_of_le→qf,lt_succ_self→qg,noConfusion→qh,add_comm→tC,add_le_add_right→tD,min_le_left→tE,not_lt_zero→tF,sub_sub_right→tG,succ_add→tH,add_le_add→xN,le_of_ble_eq_true→xO,log2_lt→xP,lt_succ_of_lt→xQ,add_assoc→Gz,add_sub_of_le→GA,lt_of_succ_lt→GB,lt_trans→GC,sub_le→GD,sub_self→GE,add_sub_add_left→Wl,le_of_succ_le_succ→Wm,not_succ_le_zero→Wn,pow_lt_pow_right→Wo,sub_add_cancel→Wp,sub_le_iff_le_add→Wq,succ_le_of_lt→Wr
open _root_.Int renaming fmod→dm,fdiv→dY,natCast_nonneg→fK,toNat→hi,ofNat_lt→ir,natAbs→ko,le_refl→p7,le_trans→p8,toNat_natCast→tq,fmod_lt_of_pos→xE,fmod_nonneg_of_pos→xF,ofNat_le→xG,add_comm→Gb,ediv_nonneg→Gd,fdiv_eq_ediv_of_nonneg→Ge,le_of_lt→Gf,natAbs_eq_zero→Gg,toNat_of_nonneg→Gh,fmod_eq_emod_of_nonneg→VB,lt_of_le_of_lt→VC,max_eq_right→VD,natAbs_add_le→VE
open PySem.Heap renaming get?_push_of_some→dX,get?_push_size→ez,lt_size→eX,dictOf_iff→hg,get?_update_ne→i1,get?_none_of_le→jH,SameBut→kn,get?_update_self→lc,size_push→nX,get?_update_other→p6,MadeExcOf→Ga,IsTuple→Vz
open PySem.Str renaming ofString→ek
open _root_.False renaming elim→fl
open PySem.Obj renaming mapSeq→hk,mapFields→tI,putName→tJ,data_mapFields→xS,isFreed_of_fields→GF,cls_mapFields→Ws
open PySem.Value renaming none→hl,ref→kt,builtin→tO,bytes→tP,int→tQ
open PySem.Builtin renaming divisionGoesByPylong→hF,bitXor→tk
open PySem.Builtin.Range renaming rangeSize→jF,small→F5,rangeFitsLong→XS
open PySem.SeqAt renaming EqAt→jG,RcNeAt→tL
open _root_.Ne renaming symm→jK
open _root_.ForInStep renaming yield→lb
open _root_.List.Sublist renaming refl→lf
open _root_.PyProof.Rows renaming tail_any→lr,IntsAre→tr,neg_int→Wt,assign_Tuple_tuple→WI
open _root_.Array renaming size→mA,getElem?_eq_getElem→tb,length_toList→tc,size_append→td,getElem?_eq_some_iff→xy,eq_empty_of_size_eq_zero→F0,toList_append→F1,any_toList→Vd,getElem?_eq_none→Ve,mem_toList_iff→Vf
open PySem.Builtin.Int renaming intBits→mC,intTooBig→Vm
open PySem.Builtin.SmallTypes renaming nextOf→mD,ownedTupleIsFree→xA,ownedTupleHandOut→Vn
open _root_.List.cons renaming inj→mE
open PySem.PyData renaming keyHash→n5
open PySem.Txt renaming count→n7,slice→tM
open _root_.UInt8 renaming ofNat→n8
open PySem.Value.ref renaming inj→n9,elim→WG
open PySem.Builtin.Bytes renaming holds→p4,order→tj
open PySem.F renaming excBase_Exception→qj,plainAttrs_list→qk,slot_tuple_iterator_next→xC,slot_zip_next→xD,slot_list_pop→xT,bm_called→GH,slot_dict_get→GI,slot_list_extend→GJ,args_tuple_iterator_next_1→Vt,args_zip_next_1→Vu,entry_tuple_iterator_next→Vv,entry_zip_next→Vw,attr_Exception→Wu,bm_plain→Wv,entry_dict_get→Ww,entry_list_pop→Wx,slot_str_count→Wy,store_object→Wz,type_list_append→WA,type_list_extend→WB,type_list_pop→WC
open PySem.Expr renaming noConfusion→tm,ListComp→Vs
open PySem.W.FB renaming slot_bytes_getitem→tn,args_bytes_getitem_2→Vx,entry_bytes_getitem→Vy
open _root_.Int.ofNat renaming inj→tp
open _root_.And renaming intro→xx
open _root_.Eq renaming symm→xB
open PySem.NameKind renaming free→xM
open _root_.Nat.succ renaming inj→xR
open PySem.Calls renaming call_len_list→F6,Name_function_global→Gy,loadGlobal_builtin→GS,loadGlobal_global→GU
open PySem.SeqAt.EqAt renaming same→F8,int_int→Vq,of_refs→Vr
open PySem.Heap.IsSliceOf renaming new→F9
open _root_.Prod renaming fst→GG
open PySem.AutoSeq1 renaming wpAny_loadPart'→Vg
open PySem.Bind renaming checkArgs→Vh
open PySem.Code renaming quiet_builtin→Vo
open PySem.EntryCells renaming newEntry→Vp
open PySem.Heap.SameBut renaming update→VA
open PySem.IsRange renaming new→VF
open PySem.W.KBw renaming ints_length→VG
open PySem.W.KBy renaming look_buffer→VH,own_buffer→VI,special_eq→VJ
open _root_.List.Perm renaming eq_of_pairwise→VK
open PySem.W.Looks renaming of_pure→Wk
open PySem.Shared renaming heap→WF
open PySem.Expr.Attribute renaming elim→XT
open PySem.Expr.Constant renaming elim→XU
open PySem.Expr.ListComp renaming elim→XV
open PySem.Expr.Subscript renaming elim→XW
open PySem.Manifest renaming Signature→XX
open _root_.Std.Legacy.Range renaming forIn_eq_forIn_range'→XY
universe u v w jD v1 gd g7 v2
@[elab_as_elim] theorem bG{α:Sort u}{P:α→Prop}{a b:α}(e:a=b)(h:P a):P b:=Eq.rec (motive:=λa _=>P a) h e
@[elab_as_elim] theorem ac{α:Sort u}{P:α→Prop}{a b:α}(e:a=b)(h:P b):P a:=bG e.symm h
theorem nn{α:Type}{a:α}{P:Prop}(h:(ae:Option α)=U a):P:=nomatch h
theorem cb{P:Prop}(h:ah=af):P:=nomatch h
section
variable{a b c d e f g i j l m:Prop}{C:Prop}
theorem aC(h:a∧b)(k:a→b→C):C:=k h.1 h.2
theorem cR(h:a∧b∧c)(k:a→b→c→C):C:=aC h λg h=>aC h (k g)
theorem hp(h:a∧b∧c∧d)(k:a→b→c→d→C):C:=aC h λg h=>cR h (k g)
theorem mW(h:a∧b∧c∧d∧e)(k:a→b→c→d→e→C):C:=aC h λg h=>hp h (k g)
theorem mX(h:a∧b∧c∧d∧e∧f)(k:a→b→c→d→e→f→C):C:=aC h λg h=>mW h (k g)
theorem kJ(h:a∧b∧c∧d∧e∧f∧g)(k:a→b→c→d→e→f→g→C):C:=aC h λg h=>mX h (k g)
theorem yU(h:a∧b∧c∧d∧e∧f∧g∧i)(k:a→b→c→d→e→f→g→i→C):C:=aC h λg h=>kJ h (k g)
theorem yV(h:a∧b∧c∧d∧e∧f∧g∧i∧j)(k:a→b→c→d→e→f→g→i→j→C):C:=aC h λg h=>yU h (k g)
theorem HF(h:a∧b∧c∧d∧e∧f∧g∧i∧j∧l)(k:a→b→c→d→e→f→g→i→j→l→C):C:=aC h λg h=>yV h (k g)
theorem HG(h:a∧b∧c∧d∧e∧f∧g∧i∧j∧l∧m)(k:a→b→c→d→e→f→g→i→j→l→m→C):C:=aC h λg h=>HF h (k g)
theorem bk(h:a)(k:b)(h2:c):a∧b∧c:=⟨h,k,h2⟩
theorem c5(h:a)(k:b)(h2:c)(n:d):a∧b∧c∧d:=⟨h,k,h2,n⟩
theorem uP(h:a)(k:b)(h2:c)(n:d)(o:e):a∧b∧c∧d∧e:=⟨h,k,h2,n,o⟩
theorem HQ(h:a)(k:b)(h2:c)(n:d)(o:e)(p:f):a∧b∧c∧d∧e∧f:=⟨h,k,h2,n,o,p⟩
theorem qJ(h:a)(k:b)(h2:c)(n:d)(o:e)(p:f)(q:g):a∧b∧c∧d∧e∧f∧g:=⟨h,k,h2,n,o,p,q⟩
theorem HR(k:a)(n:b)(h2:c)(o:d)(p:e)(q:f)(r:g)(s:i)(t:j)(u:l)(h:m):a∧b∧c∧d∧e∧f∧g∧i∧j∧l∧m:=⟨k,n,h2,o,p,q,r,s,t,u,h⟩
end
section
variable{α:Sort u}{a b c d e f:α→Prop}{C:Prop}
theorem aG(h:∃ x,a x)(k:∀ x,a x→C):C:=h.elim λx h=>k x h
theorem aI(h:∃ x,a x∧b x)(k:∀ x,a x→b x→C):C:=h.elim λx h=>aC h (k x)
theorem c0(h:∃ x,a x∧b x∧c x)(k:∀ x,a x→b x→c x→C):C:=h.elim λx h=>cR h (k x)
theorem qH(h:∃ x,a x∧b x∧c x∧d x)(k:∀ x,a x→b x→c x→d x→C):C:=h.elim λx h=>hp h (k x)
theorem yW(h:∃ x,a x∧b x∧c x∧d x∧e x∧f x)(k:∀ x,a x→b x→c x→d x→e x→f x→C):C:=h.elim λx h=>mX h (k x)
theorem aM(x:α)(g:a x)(h:b x):∃ x,a x∧b x:=⟨x,g,h⟩
theorem cJ(x:α)(g:a x)(h:b x)(h2:c x):∃ x,a x∧b x∧c x:=⟨x,g,h,h2⟩
theorem HS(x:α)(g:a x)(h:b x)(h2:c x)(i:d x):∃ x,a x∧b x∧c x∧d x:=⟨x,g,h,h2,i⟩
theorem yY(x:α)(g:a x)(h:b x)(h2:c x)(i:d x)(j:e x)(k:f x):∃ x,a x∧b x∧c x∧d x∧e x∧f x:=⟨x,g,h,h2,i,j,k⟩
end
section
variable{α:Sort u}{β:Sort v}{a b c d e:α→β→Prop}{C:Prop}
theorem gE(h:∃ x y,a x y)(k:∀ x y,a x y→C):C:=h.elim λx h=>h.elim λy h=>k x y h
theorem dP(h:∃ x y,a x y∧b x y)(k:∀ x y,a x y→b x y→C):C:=h.elim λx h=>h.elim λy h=>aC h (k x y)
theorem dn(h:∃ x y,a x y∧b x y∧c x y)(k:∀ x y,a x y→b x y→c x y→C):C:=h.elim λx h=>h.elim λy h=>cR h (k x y)
theorem jf(h:∃ x y,a x y∧b x y∧c x y∧d x y)(k:∀ x y,a x y→b x y→c x y→d x y→C):C:=h.elim λx h=>h.elim λy h=>hp h (k x y)
theorem uM(h:∃ x y,a x y∧b x y∧c x y∧d x y∧e x y)(k:∀ x y,a x y→b x y→c x y→d x y→e x y→C):C:=h.elim λx h=>h.elim λy h=>mW h (k x y)
theorem jT(x:α)(y:β)(f:a x y):∃ x y,a x y:=⟨x,y,f⟩
theorem h7(x:α)(y:β)(f:a x y)(g:b x y):∃ x y,a x y∧b x y:=⟨x,y,f,g⟩
theorem dL(x:α)(y:β)(f:a x y)(g:b x y)(h2:c x y):∃ x y,a x y∧b x y∧c x y:=⟨x,y,f,g,h2⟩
theorem jh(x:α)(y:β)(f:a x y)(g:b x y)(h2:c x y)(h:d x y):∃ x y,a x y∧b x y∧c x y∧d x y:=⟨x,y,f,g,h2,h⟩
theorem yZ(x:α)(y:β)(f:a x y)(g:b x y)(h2:c x y)(h:d x y)(i:e x y):∃ x y,a x y∧b x y∧c x y∧d x y∧e x y:=⟨x,y,f,g,h2,h,i⟩
end
section
variable{α:Sort u}{β:Sort v}{e4:Sort w}{a b c d e f g:α→β→e4→Prop}{C:Prop}
theorem HH(h:∃ x y z,a x y z)(k:∀ x y z,a x y z→C):C:=h.elim λx h=>h.elim λy h=>h.elim λz h=>k x y z h
theorem jg(h:∃ x y z,a x y z∧b x y z)(k:∀ x y z,a x y z→b x y z→C):C:=h.elim λx h=>h.elim λy h=>h.elim λz h=>aC h (k x y z)
theorem kK(h:∃ x y z,a x y z∧b x y z∧c x y z)(k:∀ x y z,a x y z→b x y z→c x y z→C):C:=h.elim λx h=>h.elim λy h=>h.elim λz h=>cR h (k x y z)
theorem ov(h:∃ x y z,a x y z∧b x y z∧c x y z∧d x y z)(k:∀ x y z,a x y z→b x y z→c x y z→d x y z→C):C:=h.elim λx h=>h.elim λy h=>h.elim λz h=>hp h (k x y z)
theorem HI(h:∃ x y z,a x y z∧b x y z∧c x y z∧d x y z∧e x y z)(k:∀ x y z,a x y z→b x y z→c x y z→d x y z→e x y z→C):C:=h.elim λx h=>h.elim λy h=>h.elim λz h=>mW h (k x y z)
theorem HJ(h:∃ x y z,a x y z∧b x y z∧c x y z∧d x y z∧e x y z∧f x y z)(k:∀ x y z,a x y z→b x y z→c x y z→d x y z→e x y z→f x y z→C):C:=h.elim λx h=>h.elim λy h=>h.elim λz h=>mX h (k x y z)
theorem qI(h:∃ x y z,a x y z∧b x y z∧c x y z∧d x y z∧e x y z∧f x y z∧g x y z)(k:∀ x y z,a x y z→b x y z→c x y z→d x y z→e x y z→f x y z→g x y z→C):C:=h.elim λx h=>h.elim λy h=>h.elim λz h=>kJ h (k x y z)
theorem y0(x:α)(y:β)(z:e4)(h:a x y z):∃ x y z,a x y z:=⟨x,y,z,h⟩
theorem uQ(x:α)(y:β)(z:e4)(h:a x y z)(i:b x y z):∃ x y z,a x y z∧b x y z:=⟨x,y,z,h,i⟩
theorem lK(x:α)(y:β)(z:e4)(h:a x y z)(i:b x y z)(h2:c x y z):∃ x y z,a x y z∧b x y z∧c x y z:=⟨x,y,z,h,i,h2⟩
theorem ji(x:α)(y:β)(z:e4)(h:a x y z)(i:b x y z)(h2:c x y z)(j:d x y z):∃ x y z,a x y z∧b x y z∧c x y z∧d x y z:=⟨x,y,z,h,i,h2,j⟩
theorem HT(x:α)(y:β)(z:e4)(h:a x y z)(i:b x y z)(h2:c x y z)(j:d x y z)(k:e x y z):∃ x y z,a x y z∧b x y z∧c x y z∧d x y z∧e x y z:=⟨x,y,z,h,i,h2,j,k⟩
theorem qK(x:α)(y:β)(z:e4)(h:a x y z)(i:b x y z)(h2:c x y z)(j:d x y z)(k:e x y z)(l:f x y z):∃ x y z,a x y z∧b x y z∧c x y z∧d x y z∧e x y z∧f x y z:=⟨x,y,z,h,i,h2,j,k,l⟩
theorem uR(x:α)(y:β)(z:e4)(h:a x y z)(i:b x y z)(h2:c x y z)(j:d x y z)(k:e x y z)(l:f x y z)(m:g x y z):∃ x y z,a x y z∧b x y z∧c x y z∧d x y z∧e x y z∧f x y z∧g x y z:=⟨x,y,z,h,i,h2,j,k,l,m⟩
end
section
variable{α:Sort u}{β:Sort v}{e4:Sort w}{hc:Sort jD}{a b c d e f g:α→β→e4→hc→Prop}{C:Prop}
theorem HK(h:∃ x y z u,a x y z u)(k:∀ x y z u,a x y z u→C):C:=h.elim λx h=>h.elim λy h=>h.elim λz h=>h.elim λu h=>k x y z u h
theorem uN(h:∃ x y z u,a x y z u∧b x y z u)(k:∀ x y z u,a x y z u→b x y z u→C):C:=h.elim λx h=>h.elim λy h=>h.elim λz h=>h.elim λu h=>aC h (k x y z u)
theorem uO(h:∃ x y z u,a x y z u∧b x y z u∧c x y z u)(k:∀ x y z u,a x y z u→b x y z u→c x y z u→C):C:=h.elim λx h=>h.elim λy h=>h.elim λz h=>h.elim λu h=>cR h (k x y z u)
theorem yX(h:∃ x y z u,a x y z u∧b x y z u∧c x y z u∧d x y z u∧e x y z u∧f x y z u)(k:∀ x y z u,a x y z u→b x y z u→c x y z u→d x y z u→e x y z u→f x y z u→C):C:=h.elim λx h=>h.elim λy h=>h.elim λz h=>h.elim λu h=>mX h (k x y z u)
theorem HL(h:∃ x y z u,a x y z u∧b x y z u∧c x y z u∧d x y z u∧e x y z u∧f x y z u∧g x y z u)(k:∀ x y z u,a x y z u→b x y z u→c x y z u→d x y z u→e x y z u→f x y z u→g x y z u→C):C:=h.elim λx h=>h.elim λy h=>h.elim λz h=>h.elim λu h=>kJ h (k x y z u)
theorem HU(x:α)(y:β)(z:e4)(u:hc)(h:a x y z u):∃ x y z u,a x y z u:=⟨x,y,z,u,h⟩
theorem HV(x:α)(y:β)(z:e4)(u:hc)(h:a x y z u)(i:b x y z u):∃ x y z u,a x y z u∧b x y z u:=⟨x,y,z,u,h,i⟩
theorem uS(x:α)(y:β)(z:e4)(u:hc)(h:a x y z u)(i:b x y z u)(h2:c x y z u):∃ x y z u,a x y z u∧b x y z u∧c x y z u:=⟨x,y,z,u,h,i,h2⟩
theorem y4(x:α)(y:β)(z:e4)(u:hc)(h:a x y z u)(i:b x y z u)(h2:c x y z u)(j:d x y z u)(k:e x y z u)(l:f x y z u):∃ x y z u,a x y z u∧b x y z u∧c x y z u∧d x y z u∧e x y z u∧f x y z u:=⟨x,y,z,u,h,i,h2,j,k,l⟩
theorem HW(x:α)(y:β)(z:e4)(u:hc)(h:a x y z u)(i:b x y z u)(h2:c x y z u)(j:d x y z u)(k:e x y z u)(l:f x y z u)(m:g x y z u):∃ x y z u,a x y z u∧b x y z u∧c x y z u∧d x y z u∧e x y z u∧f x y z u∧g x y z u:=⟨x,y,z,u,h,i,h2,j,k,l,m⟩
end
section
variable{α:Sort u}{β:Sort v}{e4:Sort w}{hc:Sort jD}{k8:Sort v1}{a b c d e f g:α→β→e4→hc→k8→Prop}{C:Prop}
theorem HM(h:∃ x y z u v,a x y z u v∧b x y z u v∧c x y z u v)(k:∀ x y z u v,a x y z u v→b x y z u v→c x y z u v→C):C:=h.elim λx h=>h.elim λy h=>h.elim λz h=>h.elim λu h=>h.elim λv h=>cR h (k x y z u v)
theorem HN(h:∃ x y z u v,a x y z u v∧b x y z u v∧c x y z u v∧d x y z u v∧e x y z u v∧f x y z u v∧g x y z u v)(k:∀ x y z u v,a x y z u v→b x y z u v→c x y z u v→d x y z u v→e x y z u v→f x y z u v→g x y z u v→C):C:=h.elim λx h=>h.elim λy h=>h.elim λz h=>h.elim λu h=>h.elim λv h=>kJ h (k x y z u v)
theorem HX(x:α)(y:β)(z:e4)(u:hc)(v:k8)(h:a x y z u v)(i:b x y z u v)(h2:c x y z u v)(j:d x y z u v)(k:e x y z u v)(l:f x y z u v)(m:g x y z u v):∃ x y z u v,a x y z u v∧b x y z u v∧c x y z u v∧d x y z u v∧e x y z u v∧f x y z u v∧g x y z u v:=⟨x,y,z,u,v,h,i,h2,j,k,l,m⟩
end
section
variable{α:Sort u}{β:Sort v}{e4:Sort w}{hc:Sort jD}{k8:Sort v1}{p3:Sort gd}{a:α→β→e4→hc→k8→p3→Prop}{C:Prop}
theorem HO(h:∃ x y z u v w,a x y z u v w)(k:∀ x y z u v w,a x y z u v w→C):C:=h.elim λx h=>h.elim λy h=>h.elim λz h=>h.elim λu h=>h.elim λv h=>h.elim λw h=>k x y z u v w h
theorem HY(x:α)(y:β)(z:e4)(u:hc)(v:k8)(w:p3)(b:a x y z u v w):∃ x y z u v w,a x y z u v w:=⟨x,y,z,u,v,w,b⟩
end
section
variable{α:Sort u}{β:Sort v}{e4:Sort w}{hc:Sort jD}{k8:Sort v1}{p3:Sort gd}{FY:Sort g7}{FZ:Sort v2}{a b c d e:α→β→e4→hc→k8→p3→FY→FZ→Prop}{C:Prop}
theorem HP(h:∃ x y z u v w x1 y1,a x y z u v w x1 y1∧b x y z u v w x1 y1∧c x y z u v w x1 y1∧d x y z u v w x1 y1∧e x y z u v w x1 y1)(k:∀ x y z u v w x1 y1,a x y z u v w x1 y1→b x y z u v w x1 y1→c x y z u v w x1 y1→d x y z u v w x1 y1→e x y z u v w x1 y1→C):C:=h.elim λx h=>h.elim λy h=>h.elim λz h=>h.elim λu h=>h.elim λv h=>h.elim λw h=>h.elim λx1 h=>h.elim λy1 h=>mW h (k x y z u v w x1 y1)
theorem HZ(x:α)(y:β)(z:e4)(u:hc)(v:k8)(w:p3)(x1:FY)(y1:FZ)(f:a x y z u v w x1 y1)(g:b x y z u v w x1 y1)(h2:c x y z u v w x1 y1)(h:d x y z u v w x1 y1)(i:e x y z u v w x1 y1):∃ x y z u v w x1 y1,a x y z u v w x1 y1∧b x y z u v w x1 y1∧c x y z u v w x1 y1∧d x y z u v w x1 y1∧e x y z u v w x1 y1:=⟨x,y,z,u,v,w,x1,y1,f,g,h2,h,i⟩
end
open PySem PySem.W PySem.Calls PyProof.Rows PySem.SeqAt
section
set_option tactic.hygienic true
theorem cq{P:Prop}(h:(a&&b)=af)(k:a=af→b=af→P):P:=k (F2.mp h).1 (F2.mp h).2
theorem eS{P:Prop}(h:(a&&(b&&c))=af)(k:a=af→b=af→c=af→P):P:=cq h λp q=>cq q (k p)
theorem hq{P:Prop}(h:(a&&(b&&(c&&d)))=af)(k:a=af→b=af→c=af→d=af→P):P:=cq h λp q=>eS q (k p)
theorem oy{P:Prop}(h:(a&&(b&&(c&&(d&&e))))=af)(k:a=af→b=af→c=af→d=af→e=af→P):P:=cq h λp q=>hq q (k p)
theorem jV{P:Prop}(h:(a&&(b&&(c&&(d&&(e&&f)))))=af)(k:a=af→b=af→c=af→d=af→e=af→f=af→P):P:=cq h λp q=>oy q (k p)
theorem oz{P:Prop}(h:(a&&(b&&(c&&(d&&(e&&(f&&g))))))=af)(k:a=af→b=af→c=af→d=af→e=af→f=af→g=af→P):P:=cq h λp q=>jV q (k p)
theorem qN{P:Prop}(h:(a&&(b&&(c&&(d&&(e&&(f&&(g&&i)))))))=af)(k:a=af→b=af→c=af→d=af→e=af→f=af→g=af→i=af→P):P:=cq h λp q=>oz q (k p)
theorem H8{P:Prop}(h:(a&&(b&&(c&&(d&&(e&&(f&&(g&&(i&&j))))))))=af)(k:a=af→b=af→c=af→d=af→e=af→f=af→g=af→i=af→j=af→P):P:=cq h λp q=>qN q (k p)
theorem H7{P:Prop}(h:(a&&(b&&(c&&(d&&(e&&(f&&(g&&(i&&(j&&l)))))))))=af)(k:a=af→b=af→c=af→d=af→e=af→f=af→g=af→i=af→j=af→l=af→P):P:=cq h λp q=>H8 q (k p)
end
section
set_option smartUnfolding false
open PySem.Builtin
theorem QT:Manifest.owners.lookup (String.ofList ['s','e','t','y','b'].reverse)=U Manifest.sig_bytes:=by kernel_rfl
theorem Ff:Slot "bytes" "join" "bytes.join":=
  .of (owner:="bytes") (n:="join") (by rewrite [GZ];refine ac GO ?_;kernel_rfl) (by decide +kernel) (by decide +kernel) (by decide +kernel)
    (by first | exact .inl (by decide +kernel) | exact .inr (by decide +kernel)) (by rw [isSubtype_type];kernel_rfl)
theorem US:typeOf (.builtin "bytes.join")=pure (.type "method_descriptor"):=by show builtinType _=_;refine ac builtinType_eq_fast ?_;kernel_rfl
theorem LQ:entryFor table "bytes.join"= U eQ.«bytes.join»:=WK (by kernel_rfl)
theorem Ii(a b):argsOk "bytes.join" ⟨[a,b],[]⟩:=by unfold argsOk;refine ac (signature?_of (id:="bytes.join") (n:=['n','i','o','j']) (o:=['s','e','t','y','b']) (by kernel_rfl) QT) ?_;kernel_rfl
section
variable{prog:jL}{w:ku}{A:c6}{E:ay→aP→Prop}{s:aP}
theorem I6{id:String}:Bytes.buffer? id (.bytes b t) full=pure (U b):=by
  unfold Bytes.buffer?;refine ac (VJ VH) (ac VI (ac KBy.own_release ?_))
  kernel_rfl
theorem Ux{id:String}:Bytes.takeBufferQuiet? id (.bytes b t) 0=pure (U (b,ae)):=by
  unfold Bytes.takeBufferQuiet? Bytes.takeBuffer?;refine ac (VJ VH) (ac VI (ac I6 ?_))
  kernel_rfl
theorem PJ{β:Type}{M:nY}{f:Nat→β→Sem (ForInStep β)}(b:Nat→β){Q:β→aP→Prop}(h:∀ i,i<4→∀ R:ForInStep β→aP→Prop,R (.yield (b (i+1))) s→aD M A (f i (b i)) R E s)(k:Q (b 4) s):
    aD M A (forIn [0,1,2,3] (b 0) f) Q E s:=by
  simp only [mG,p9];exact ax (h 0 (by decide) _ (ax (h 1 (by decide) _ (ax (h 2 (by decide) _ (ax (h 3 (by decide) _ (bg k))))))))
noncomputable def mb(it:Nat→Array UInt8×Tok):Nat→Array (Array UInt8)×List (ay×Option ay)|0=>(#[],[])|n+1=>((mb it n).1.push (it n).1,(mb it n).2++[(.bytes (it n).1 (it n).2,ae)])
theorem OQ(it:Nat→Array UInt8×Tok)(n):(mb it n).2.any (·.1.onHeap)=ah:=by induction n with|zero=>rfl|succ n a=>show((mb it n).2++[(tP (it n).1 (it n).2,ae)]).any _=ah;refine ac List.any_append (ac a ?_);rfl
theorem OR(it:Nat→Array UInt8×Tok)(n):∀ x∈(mb it n).2,x.2=ae:=by
  induction n with
  | zero=>exact λx h=>absurd h c4
  | succ n b=>
    intro x a;refine aS (dj.mp a) (λh=>?_) λh=>?_
    · exact b x h
    · exact ac (dx.mp h) rfl
theorem OP{b b0 cB eh c1:Array UInt8}{t t1 t2 t3 c:Tok}(j:s.heap.IsList l #[.bytes b0 t1,.bytes cB t2,.bytes eh t3,.bytes c1 c])(ak:b.size=0)
    (hz:b0.size+cB.size+eh.size+c1.size≤16777216) (h:∀ F k,R (.bytes (b0++cB++eh++c1) F) {s with toks:=k}):
    aD (model prog w) A (call (.builtin "bytes.join") [.bytes b t,.ref l]) R E s:=by
  refine oa Ff (i5 _ _ _) LQ ?_ (Ii _ _);unfold eQ.«bytes.join» Bytes.joinM;refine c0 (id j) λo e a4 xr=>aG xr λn hd=>ax (fx (a:=(tP b t,kt l)) rfl ?_);dsimp only;refine ax ?_;unfold Bytes.joinItems;refine ax (Ha j.typeIs ?_);refine lu (ac (if_pos (by decide)) (bg (ax (i6 e hd ?_))));dsimp only;refine lu (ac (if_pos (by decide)) ?_)
  let it:Nat→Array UInt8×Tok:=λn=>match n with | 0=>(b0,t1) | 1=>(cB,t2) | 2=>(eh,t3) | _=>(c1,c)
  obtain C:∀ i,i<4→(#[tP b0 t1,.bytes cB t2,.bytes eh t3,.bytes c1 c]:Array ay).getD i .none=.bytes (it i).1 (it i).2:=λi h=>by rcases i with _ | _ | _ | _ | i <;>first | rfl | exact absurd h (gB.mpr (jJ 4 i))
  obtain u:∀ {α:Type} (f:Nat→α→Sem (ForInStep α)) (i:α),(forIn [:(#[tP b0 t1,.bytes cB t2,.bytes eh t3,.bytes c1 c]:Array ay).size] i f:Sem α)=forIn [0,1,2,3] i f:=λf i=>by rw [XY];with_unfolding_all rfl
  with_unfolding_all refine ax (m:=forIn [:(#[tP b0 t1,.bytes cB t2,.bytes eh t3,.bytes c1 c]:Array ay).size] _ _) ?_
  rw [u];refine PJ (mb it) (λi au R B=>?_) ?_
  · refine ax (i6 e hd ?_);dsimp only;refine lu (ac (if_neg (by rw [OQ];exact tg)) (ac (C i au) (ax (e6 (fx Ux ?_)))));dsimp only;refine ax (i6 e hd ?_);dsimp only;exact lu (ac (if_neg (by simp)) (bg B))
  refine ax (fx (a:=b) rfl ?_);refine lu ?_;obtain g:b=#[]:=F0 ak;subst g;refine ac (show(mb it 4).1=#[b0,cB,eh,c1] from rfl) ?_;refine ac (if_neg (by
    rw [KBy.tooLong_not]
    · exact tg
    · simp;lia)) ?_
  obtain v:Bytes.joined #[] (#[b0,cB,eh,c1]:Array (Array UInt8)).toList=b0++cB++eh++c1:=by simp [Bytes.joined,List.zipIdx]
  refine ac v (ax ?_);show aD _ _ (mkBytes (b0++cB++eh++c1)) _ _ _;refine wpAny_mkBytes ?_ (by refine ac qm ?_;simp;lia);refine ax (e6 (wpAny_point ?_));refine ax ?_;obtain go:∀ vs keep Q' d s',(∀ x∈vs,x.2=ae)→Q' () s'→aD (model prog w) A.in1 (Bytes.joinLetGo vs keep) Q' d s':=by
    intro vs
    induction vs with
    | nil=>intro keep Q' d s' _ q;exact bg q
    | cons x r D=>
      intro keep Q' d s' p q;obtain⟨x,y⟩:=x;have:y=ae:=p _ (V4 ..)
      subst this;unfold Bytes.joinLetGo;dsimp only;refine ax (tV ?_);exact D _ _ _ _ (λz hz=>p z (Gs _ hz)) q
  exact go _ _ _ _ _ (OR it 4) (bg (aM _ rfl (h _ _)))
end
end
section
set_option genSizeOf false
set_option genInjectivity false
theorem al(h:gh a b=af):a≤b:=xO h
theorem ltB(h:a<b)(e:gh b n=af):a<n:=hj h (al e)
theorem leB(h:a≤b)(e:gh b n=af):a≤n:=dt h (al e)
theorem dE(h:a≤b)(e:gh (b+1) n=af):a<n:=eB h (al e)
theorem iM(h:a<b)(e:gh b n=af):a≤n:=iu (ltB h e)
theorem ew(h:a+m<L)(e:gh k m=af):a+k<L:=eB (qd (al e) a) h
theorem CG(h:a+m≤L)(e:gh k m=af):a+k≤L:=dt (qd (al e) a) h
theorem UT(h:a+m≤L)(e:gh k m=af)(f:gh (L+1) N=af):a+k<N:=eB (CG h e) (al f)
inductive V where|none|bool (b:Bool)|int (i:Int)|lit (n:Nat)|str (s:Str)|bytes (b:Array UInt8)|ao (xs:List V)|list (xs:List V)|dict (es:List (Nat×V))|a3 (C:aq) (fs:List V)|aB (i:Nat)|a6 (a:aq)|cC (n:Nat)
inductive aQ where|list (xs:List V)|cY (es:List (Nat×V))|id (es:List (Int×V))|fV (es:List ((Int×Int)×V))|d4 (C:aq) (x:aq) (fs:List V)|dead
structure aU where
  prog:jL
  w:ku
  K:de
  ak:bz
  P:jL
  loose:List Str
  ww:Str→Option ay
  CR:Str→Option ay
  ls:Nat→Str
  nl:Nat
  lay:aq→List Nat
  gens:Array GenState
  drawn:Drawn
  os:OsState
structure aU.Ok(c:aU):Prop where
  X:c.K.In c.ak
  T:TopRead c.P c.loose c.ww c.CR c.ak
  inj:∀ i j,i<c.nl→j<c.nl→c.ls i=c.ls j→i=j
  sys:c.ak.get? sysModules≠ae
noncomputable abbrev aU.M(c:aU):nY:=model c.prog c.w
noncomputable def ec:Nat→ay|0=>.type "int" | 1=>.type "bool" | 2=>.type "list" | 3=>.type "dict" | 4=>.type "bytes"|5=>.type "range" | 6=>.type "str" | 7=>.type "tuple" | 8=>.type "enumerate" | 9=>.type "zip" | 10=>.type "reversed"|11=>.builtin "isinstance" | 12=>.builtin "len" | 13=>.builtin "abs" | 14=>.builtin "sum" | 15=>.builtin "sorted"|_=>.none
noncomputable abbrev aU.hQ(c:aU):KeyKind c.prog c.w Str:=strKind c.prog c.w
noncomputable abbrev aU.gr(c:aU):KeyKind c.prog c.w Int:=intKind c.prog c.w
noncomputable abbrev aU.sa(c:aU):HeapKind c.prog c.w (List Int):=tupleKind c.gr
mutual
inductive aK(c:aU)(Z:bz)(ga:List aq):ay→V→Prop where|none:aK c Z ga .none .none|bool (b:Bool):aK c Z ga (.bool b) (.bool b)|int (i:Int) (t:Tok):aK c Z ga (.int i t) (.int i)|lit {v:ay} (n:Nat) (t:Tok):v=.str (c.ls n) t→n<c.nl→aK c Z ga v (.lit n)|str (s:Str) (t:Tok):aK c Z ga (.str s t) (.str s)|bytes (b:Array UInt8) (t:Tok):aK c Z ga (.bytes b t) (.bytes b)|ao {a:aq} {vs:List ay} {xs:List V}:Z.IsTuple a vs.toArray→ba c Z ga vs xs→aK c Z ga (.ref a) (.ao xs)|list {a:aq} {vs:List ay} {xs:List V}:Z.IsList a vs.toArray→ba c Z ga vs xs→aK c Z ga (.ref a) (.list xs)|dict {a:aq} {o:Obj} {kvs:List (Str×ay)} {es:List (Nat×V)}:(a==sysModules)=ah→Z.get? a=U o→o.IsDictOf c.hQ kvs→dO c Z ga kvs es→aK c Z ga (.ref a) (.dict es)|a3 {x cP C:aq} {ox:Obj} {ds:List km} {n:Nat} {fs:List V}:Z.get? x=U ox→ox.cls=.ref C→notCls ox=af→ox.dict=U cP→Z.get? cP=U (dictOf ds n)→eb c Z ga ds (c.lay C) fs→aK c Z ga (.ref x) (.a3 C fs)|aB {i:Nat} {a:aq}:ga[i]?=U a→aK c Z ga (.ref a) (.aB i)|a6 (a:aq):keepIn c.K (.ref a)=af→aK c Z ga (.ref a) (.a6 a)|cC {v:ay} (n:Nat):v=ec n→n≤15→aK c Z ga v (.cC n)
inductive ba(c:aU)(Z:bz)(ga:List aq):List ay→List V→Prop where|nil:ba c Z ga [] []|cons {v:ay} {x:V} {vs:List ay} {xs:List V}:aK c Z ga v x→ba c Z ga vs xs→ba c Z ga (v :: vs) (x :: xs)
inductive dO(c:aU)(Z:bz)(ga:List aq):List (Str×ay)→List (Nat×V)→Prop where|nil:dO c Z ga [] []|cons {k:Nat} {v:ay} {x:V} {ds:List (Str×ay)} {es:List (Nat×V)}:k<c.nl→aK c Z ga v x→dO c Z ga ds es→dO c Z ga ((c.ls k,v) :: ds) ((k,x) :: es)
inductive eb(c:aU)(Z:bz)(ga:List aq):List km→List Nat→List V→Prop where|nil {ns:List Nat}:eb c Z ga [] ns []|cons {k:Nat} {h:Int} {t:Tok} {v:ay} {x:V} {ds:List km} {ns:List Nat} {fs:List V}:aK c Z ga v x→eb c Z ga ds ns fs→eb c Z ga (⟨h,.str (c.ls k) t,v⟩ :: ds) (k :: ns) (x :: fs)
end
noncomputable abbrev bp(s:aP)(h:bz)(t:Nat):aP:=⟨h,s.gens,s.drawn,t,s.os⟩
noncomputable abbrev dh(s:aP)(h:bz):aP:=⟨h,s.gens,s.drawn,s.toks,s.os⟩
noncomputable abbrev e8(s:aP)(t:Nat):aP:=⟨s.heap,s.gens,s.drawn,t,s.os⟩
theorem pS(e:n=L+1-i)(h:i<L):L+1-(i+1)<n:=e▸Nat.sub_lt_sub_left (xQ h) (qg i)
noncomputable def Pre{α:Type}(l a:List α):Prop:=∃ r,a=l++r
theorem Pre.refl{α:Type}(l:List α):Pre l l:=⟨[],by exact(fL _).symm⟩
theorem Pre.get{α:Type}{l b:List α}(p:Pre l b){i:Nat}{a:α}(h:l[i]?=U a):b[i]?=U a:=by refine aG p λr c=>?_;obtain rfl:=c;refine ac (Go (fM.mp h).1) ?_;exact h
theorem Pre.trans{α:Type}{a b d:List α}(p:Pre a b)(q:Pre b d):Pre a d:=by refine aG p λr c=>?_;clear p;obtain rfl:=c;refine aG q λe c=>?_;clear q;obtain rfl:=c;exact⟨r++e,by exact eM ..⟩
theorem f3{Z Z':bz}{a:aq}{vs:Array ay}(k:∀ b o,Z.get? b=U o→Z'.get? b=U o)(h:Z.IsTuple a vs):Z'.IsTuple a vs:=by refine aI h λo c r=>?_;exact(aM o (k _ _ c) r)
theorem fR{Z Z':bz}{a:aq}{vs:Array ay}(k:∀ b o,Z.get? b=U o→Z'.get? b=U o)(h:Z.IsList a vs):Z'.IsList a vs:=by refine aI h λo c r=>?_;exact(aM o (k _ _ c) r)
noncomputable def x4(c:aU)(Z:bz)(ga:List aq)(vs:List ay)(x:V)(xs:List V):Prop:=∀ a:Prop,(∀ v us,vs=v :: us→aK c Z ga v x→ba c Z ga us xs→a)→a
noncomputable def yJ(c:aU)(Z:bz)(ga:List aq)(vs:List ay):List V→Prop|[]=>vs=[]|x :: xs=>x4 c Z ga vs x xs
noncomputable def yH(c:aU)(Z:bz)(ga:List aq)(ds:List (Str×ay)):List (Nat×V)→Prop|[]=>ds=[]|p :: es=>∃ v us,ds=(c.ls p.1,v) :: us∧p.1<c.nl∧aK c Z ga v p.2∧dO c Z ga us es
theorem ba.inv(r:ba c Z ga vs xs):yJ c Z ga vs xs:=ba.casesOn (motive_2:=λvs xs ag=>yJ c Z ga vs xs) r rfl (λa b ag aj=>aj _ _ rfl a b)
theorem dO.inv(r:dO c Z ga ds es):yH c Z ga ds es:=dO.casesOn (motive_3:=λds es ag=>yH c Z ga ds es) r rfl (λh a b=>(jh _ _ rfl h a b))
theorem ba.nil_inv(r:ba c Z ga vs []):vs=[]:=r.inv
theorem ba.cons_inv(r:ba c Z ga vs (x :: xs)):x4 c Z ga vs x xs:=r.inv
theorem eb.ind{P:List km→List Nat→List V→Prop}(d:∀ ns,P [] ns [])(f:∀ k h t v x ds ns fs,aK c Z ga v x→P ds ns fs→P (⟨h,.str (c.ls k) t,v⟩ :: ds) (k :: ns) (x :: fs))(h:eb c Z ga ds ns fs):P ds ns fs:=by induction ds generalizing ns fs with|nil=>exact eb.casesOn (motive_4:=λds ns fs ag=>ds=[]→P ds ns fs) h (λag=>d _) (λag ag q=>absurd q (Gj _ _)) rfl|cons e r g=>exact eb.casesOn (motive_4:=λds ns fs ag=>ds=e :: r→P ds ns fs) h (λq=>absurd q.symm (Gj _ _)) (λa b q=>f _ _ _ _ _ _ _ _ a ((mE q).2▸g ((mE q).2▸b))) rfl
section
variable{c:aU}{Z Z':bz}{ga dS:List aq}
theorem aK.mono(k:∀ b o,Z.get? b=U o→Z'.get? b=U o)(j:Pre ga dS){v:ay}{x:V}(h:aK c Z ga v x):aK c Z' dS v x:=by
  refine aK.rec (motive_1:=λv x ag=>aK c Z' dS v x) (motive_2:=λvs xs ag=>ba c Z' dS vs xs) (motive_3:=λds es ag=>dO c Z' dS ds es)
    (motive_4:=λds ns fs ag=>eb c Z' dS ds ns fs) ?_ ?_ ?_ ?_ ?_ ?_ ?_ ?_ ?_ ?_ ?_ ?_ ?_ ?_ ?_ ?_ ?_ ?_ ?_ h
  · exact .none
  · exact .bool
  · exact .int
  · exact λn t h l=>.lit n t h l
  · exact .str
  · exact .bytes
  · exact λh ag d=>.ao (f3 k h) d
  · exact λh ag d=>.list (fR k h) d
  · exact λy h q ag d=>.dict y (k _ _ h) q d
  · exact λe h2 f g i ag d=>.a3 (k _ _ e) h2 f g (k _ _ i) d
  · exact λh=>.aB (j.get h)
  · exact λa h=>.a6 a h
  · exact λn h h2=>.cC n h h2
  · exact .nil
  · exact λag ag a b=>.cons a b
  · exact .nil
  · exact λh ag ag a b=>.cons h a b
  · exact .nil
  · exact λag ag a b=>.cons a b
theorem ba.mono(k:∀ b o,Z.get? b=U o→Z'.get? b=U o)(d:Pre ga dS){vs:List ay}{xs:List V}(h:ba c Z ga vs xs):ba c Z' dS vs xs:=by induction xs generalizing vs with|nil=>exact h.nil_inv▸.nil|cons x xs f=>exact h.cons_inv _ λv us e a b=>e▸.cons (a.mono k d) (f b)
theorem ba.length(h:ba c Z ga vs xs):vs.length=xs.length:=by induction xs generalizing vs with|nil=>exact h.nil_inv▸rfl|cons x xs d=>exact h.cons_inv _ λv us e a b=>e▸congrArg (·+1) (d b)
theorem ba.get{vs:List ay}{xs:List V}(h:ba c Z ga vs xs){i:Nat}{x:V}(d:xs[i]?=U x):∃ v,vs[i]?=U v∧aK c Z ga v x:=by
  induction xs generalizing vs i with
  | nil=>exact nn d
  | cons y xs f=>
    refine h.cons_inv _ λv us e a b=>?_;clear h;subst e;cases i with|zero=>exact(aM _ rfl (aX d▸a))|succ i=>exact f b d
theorem ba.append(h:ba c Z ga vs xs)(h':ba c Z ga cL d):ba c Z ga (vs++cL) (xs++d):=by induction xs generalizing vs with|nil=>exact h.nil_inv▸h'|cons x xs f=>exact h.cons_inv _ λv us e a b=>e▸.cons a (f b)
theorem dO.mono(k:∀ b o,Z.get? b=U o→Z'.get? b=U o)(d:Pre ga dS){ds:List (Str×ay)}{es:List (Nat×V)}(h:dO c Z ga ds es):dO c Z' dS ds es:=by
  induction es generalizing ds with
  | nil=>rw [show ds=[] from h.inv];exact .nil
  | cons x xs f=>
    refine jf (show ∃ v us,ds=(c.ls x.1,v) :: us∧x.1<c.nl∧aK c Z ga v x.2∧dO c Z ga us xs from h.inv) λv us e h a b=>?_;rw [e];exact .cons h (a.mono k d) (f b)
theorem eb.mono(k:∀ b o,Z.get? b=U o→Z'.get? b=U o)(d:Pre ga dS){ds:List km}{ns:List Nat}{fs:List V}(h:eb c Z ga ds ns fs):eb c Z' dS ds ns fs:=eb.ind (P:=λds ns fs=>eb c Z' dS ds ns fs) (λag=>.nil) (λag ag ag ag ag ag ag ag a b=>.cons (a.mono k d) b) h
end
end
section
set_option genCtorIdx false
set_option backward.match.sparseCases false
set_option genSizeOf false
set_option genInjectivity false
structure bo where
  A:c6
  env:Env
  a8:Env
  outer:List Env
  nm:List Str
  cn:List Str
  bZ:Bool
noncomputable def bo.dN(J:bo):List aq:=J.outer.filterMap (·.frame)
noncomputable def bo.cl(J:bo):List aq:=J.a8.cells.map (·.2)
noncomputable def bo.dR(J:bo):List aq:=if J.bZ then [J.env.locals] else []
structure bo.Ok(J:bo):Prop where
  frames:J.A.frames=U (J.a8 :: J.outer)
  handled:J.A.handled=ae
  frame:J.a8.frame=U J.a8.locals
  kind:J.a8.scope.kind=.function
  jp:J.env.scope.kind=.function
  aO:J.env.globals=mainGlobals
  blt:J.env.builtins=builtinsNs
  nodup:J.nm.Nodup
  vr:J.cn.Nodup
  units:J.A.units+100<cLine
  depth:J.A.depth<recursionLimit
  a6:J.bZ=ah→J.env=J.a8
inductive cA where|val (x:V)|cv (i:Nat)|new (x:aq) (i:Nat)
structure aA where
  bB:List (Option cA)
  aR:List aQ
  aE:List aQ
  aT:List (Option V):=[]
noncomputable abbrev aA.b8(S:aA)(g:List aQ):aA:=⟨S.bB,S.aR,g,S.aT⟩
noncomputable abbrev aA.dc(S:aA)(c:List (Option V)):aA:=⟨S.bB,S.aR,S.aE,c⟩
noncomputable abbrev aA.dW(S:aA)(v:List (Option cA)):aA:=⟨v,S.aR,S.aE,S.aT⟩
noncomputable abbrev aA.dV(S:aA)(l:List aQ):aA:=⟨S.bB,l,S.aE,S.aT⟩
structure bP where
  m:Str→Option ay
  cm:Str→Option ay
  la:List aq
  ga:List aq
  aw:List aq
noncomputable def bL:List aq→List aQ→List aq|_ :: la,.dead :: os=>bL la os|a :: la,_ :: os=>a :: bL la os|_,_=>[]
noncomputable def b6(J:bo)(S:aA)(W:bP):List aq:=J.a8.locals :: J.dN++J.cl++J.dR++bL W.la S.aR++bL W.ga S.aE++W.aw
noncomputable def ar(J:bo)(S:aA)(W:bP)(h:bz):bz:=hideAll h (b6 J S W)
class inductive gD(c:aU)(Z:bz)(ga:List aq):List (Int×ay)→List (Int×V)→Prop where|nil:gD c Z ga [] []|cons {k:Int} {v:ay} {x:V} {ds:List (Int×ay)} {es:List (Int×V)}:aK c Z ga v x→gD c Z ga ds es→gD c Z ga ((k,v) :: ds) ((k,x) :: es)
theorem gD.mono(k:∀ b o,Z.get? b=U o→Z'.get? b=U o)(d:Pre ga dS)(h:gD c Z ga ds es):gD c Z' dS ds es:=by induction h with|nil=>exact .nil|cons a _ e=>exact .cons (a.mono k d) e
class inductive gS(c:aU)(Z:bz)(ga:List aq):List (List Int×aq×ay)→List ((Int×Int)×V)→Prop where|nil:gS c Z ga [] []|cons {i j:Int} {a:aq} {v:ay} {x:V} {ds:List (List Int×aq×ay)} {es:List ((Int×Int)×V)}:IsTupleKey c.gr Z [i,j] a→aK c Z ga v x→gS c Z ga ds es→gS c Z ga (([i,j],a,v) :: ds) (((i,j),x) :: es)
theorem IsTupleKey.mono{c:aU}{Z Z':bz}(k:∀ b o,Z.get? b=U o→Z'.get? b=U o){ks:List Int}{a:aq}(h:IsTupleKey c.gr Z ks a):IsTupleKey c.gr Z' ks a:=by refine jg h λo items n d h2=>?_;exact(uQ o items n (k _ _ d) h2)
theorem gS.mono{c:aU}(k:∀ b o,Z.get? b=U o→Z'.get? b=U o)(d:Pre ga dS)(h:gS c Z ga ds es):gS c Z' dS ds es:=by induction h with|nil=>exact .nil|cons a b _ e=>exact .cons (IsTupleKey.mono k a) (b.mono k d) e
theorem gS.keys(h:gS c Z ga ds es):∀ x∈ds,IsTupleKey c.gr Z x.1 x.2.1:=by
  induction h with
  | nil=>intro x b;cases b
  | cons a _ _ d=>intro x b;cases b with | head=>exact a | tail _ m=>exact d x m
noncomputable def HD(c:aU)(o:Obj)(xs:List (List Int×aq×ay)):Prop:=∃ ds ep,o.ExactDict∧o.data=.dict ds ep∧ds.toList=xs.map (entryOfKey c.sa)∧(xs.map (·.1)).Nodup
noncomputable def d3(c:aU)(Z h:bz)(ga:List aq)(a:aq):aQ→Prop|.list xs=>∃ vs n,h.get? a=U (listOf vs.toArray n)∧ba c Z ga vs xs|.cY es=>∃ o ds,h.get? a=U o∧o.IsDictOf c.hQ ds∧dO c Z ga ds es|.id es=>∃ o ds,h.get? a=U o∧o.IsDictOf c.gr ds∧gD c Z ga ds es|.fV es=>∃ o ds,h.get? a=U o∧HD c o ds∧gS c Z ga ds es|.d4 C x fs=>∃ ds n,h.get? a=U (dictOf ds n)∧eb c Z ga ds (c.lay C) fs∧∃ ox,Z.get? x=U ox∧ox.cls=.ref C∧notCls ox=af∧ox.dict=U a|.dead=>True
theorem d3.mono{c:aU}{Z Z' h h':bz}{ga dS:List aq}{a:aq}{o:aQ}(k:∀ b o,Z.get? b=U o→Z'.get? b=U o)(g:Pre ga dS)(f:∀ o,h.get? a=U o→h'.get? a=U o)
    (H:d3 c Z h ga a o):d3 c Z' h' dS a o:=by
  cases o with|list xs=>refine dP H λvs n d h2=>?_;exact(h7 vs n (f _ d) (h2.mono k g))|cY es=>refine dn H λo n d e h2=>?_;exact(dL o n (f _ d) e (h2.mono k g))|id es=>refine dn H λo n d e h2=>?_;exact(dL o n (f _ d) e (h2.mono k g))|fV es=>refine dn H λo n d e h2=>?_;exact(dL o n (f _ d) e (h2.mono k g))|d4 C x fs=>refine dn H λvs n d h2 xr=>aI xr λox e i=>?_;exact(dL vs n (f _ d) (h2.mono k g) ⟨ox,k _ _ e,i⟩)|dead=>trivial
noncomputable def iw(env:Env)(m:Str→Option ay)(h:bz)(x:Str)(v:ay):Prop:=(env.kindOf x=U .local∧m x=U v)∨∃ cl,env.kindOf x=U .cell∧env.cells.lookup x=U cl∧h.IsCell cl (U v)
noncomputable def fX(c:aU)(Z:bz)(ga la:List aq)(v:ay):cA→Prop|.val x=>aK c Z ga v x|.cv i=>∃ a,v=.ref a∧la[i]?=U a|.new x _=>v=.ref x
theorem fX.mono(k:∀ b o,Z.get? b=U o→Z'.get? b=U o)(f:Pre ga dS)(g:Pre la d)(h:fX c Z ga la v X):fX c Z' dS d v X:=by cases X with|val x=>exact aK.mono k f h|cv i=>refine aI h λa e h2=>?_;exact(aM a e (g.get h2))|new x i=>exact h
structure av(c:aU)(J:bo)(S:aA)(W:bP)(s:aP):Prop where
  gens:s.gens=c.gens
  drawn:s.drawn=c.drawn
  os:s.os=c.os
  keep:∀ b o,c.ak.get? b=U o→s.heap.get? b=U o
  above:c.ak.objs.size≤J.a8.locals
  ns:s.heap.Ns J.a8.locals W.m
  jo:J.bZ=af→s.heap.Ns J.env.locals W.cm
  bB:∀ (k:Nat) x X,J.nm[k]?=U x→S.bB[k]?=U (U X)→∃ v,iw J.a8 W.m s.heap x v∧fX c (ar J S W s.heap) W.ga W.la v X
  kP:∀ (k:Nat) x X,J.cn[k]?=U x→S.aT[k]?=U (U X)→∃ v,W.cm x=U v∧aK c (ar J S W s.heap) W.ga v X
  cells:∀ x cl,(x,cl)∈J.a8.cells→∃ gw,s.heap.IsCell cl gw
  ee:W.la.length=S.aR.length
  dT:W.ga.length=S.aE.length
  locs:∀ (i:Nat) (a:aq) (o:aQ),W.la[i]?=U a→S.aR[i]?=U o→d3 c (ar J S W s.heap) s.heap W.ga a o
  eZ:∀ (i:Nat) (a:aq) (o:aQ),W.ga[i]?=U a→S.aE[i]?=U o→d3 c (ar J S W s.heap) s.heap W.ga a o
  nodup:(b6 J S W).Nodup
  new:∀ a∈b6 J S W,c.ak.get? a=ae
  there:∀ a∈b6 J S W,∃ o,s.heap.get? a=U o
  frames:s.heap.FunFrames c.ak (J.a8 :: J.outer)
structure aV(J:bo)(S:aA)(W:bP)(s:aP)(S':aA)(W':bP)(s':aP):Prop where
  ar:∀ b o,(ar J S W s.heap).get? b=U o→(ar J S' W' s'.heap).get? b=U o
  la:Pre W.la W'.la
  ga:Pre W.ga W'.ga
  out:∀ b∈J.dN,∀ o,s.heap.get? b=U o→∃ da,s'.heap.get? b=U {o with slots:=da}
  aw:∀ b∈W.aw,b∈W'.aw∧∀ o,s.heap.get? b=U o→s'.heap.get? b=U o
  b4:∀ b,s'.heap.get? b=ae→s.heap.get? b=ae
theorem aV.refl:aV J S W s S W s:=⟨λag ag e=>e,.refl _,.refl _,λag ag o e=>⟨o.slots,e⟩,λag h=>⟨h,λag e=>e⟩,λag e=>e⟩
theorem aV.trans(a:aV J S W s S' W' s')(b:aV J S' W' s' d f g):aV J S W s d f g:=⟨λx o e=>b.ar x o (a.ar x o e),a.la.trans b.la,a.ga.trans b.ga,λx c o e=>by refine aG (a.out x c o e) λ_ h=>?_;refine aG (b.out x c _ h) λda i=>?_;exact⟨da,i⟩,λx c=>⟨(b.aw x (a.aw x c).1).1,λo e=>(b.aw x (a.aw x c).1).2 o ((a.aw x c).2 o e)⟩,λx e=>a.b4 x (b.b4 x e)⟩
theorem aK.step(h:aK c (ar J S W s.heap) W.ga v x)(t:aV J S W s S' W' s'):aK c (ar J S' W' s'.heap) W'.ga v x:=h.mono t.ar t.ga
theorem ba.step(h:ba c (ar J S W s.heap) W.ga v x)(t:aV J S W s S' W' s'):ba c (ar J S' W' s'.heap) W'.ga v x:=h.mono t.ar t.ga
theorem fg{J:bo}{S:aA}{W:bP}{h:bz}{a:aq}{o:Obj}(e:h.get? a=U o)(n:a∉b6 J S W):(ar J S W h).get? a=U o:=tS _ e n
theorem ik(e:(ar J S W h).get? a=U o):h.get? a=U o∧a∉b6 J S W:=⟨of_hideAll _ e,λm=>by rw [ar,hideAll_none _ m] at e;cases e⟩
noncomputable def jO(c:aU)(J:bo)(S:aA)(W:bP)(h₀ h:bz)(e:ay)(x:V):Prop:=∀ d:Prop,(∀ a cP C b vs ds n fs,e=.ref a→x=.a3 C fs→a∈W.aw→h₀.get? a=ae→h.get? a=U b→b.cls=.ref C→b.dict=U cP→b.data=.fields vs→(ar J S W h).get? cP=U (dictOf ds n)→eb c (ar J S W h) W.ga ds (c.lay C) fs→((vs[1]?=U .none)∨∃ T f b1,vs[1]?=U (.ref T)∧T≠a∧T∈W.aw∧h₀.get? T=ae∧h.get? T=U f∧f.data=.fields b1∧b1[3]?=U .none)→d)→d
section
variable(c:aU)(J:bo)(S:aA)(W:bP)(s:aP)
noncomputable def bQ(Q:V→aA→Prop)(v:ay)(s':aP):Prop:=∀ a:Prop,(∀ (x:V) (S':aA) (W':bP),Q x S'→av c J S' W' s'→aV J S W s S' W' s'→aK c (ar J S' W' s'.heap) W'.ga v x→a)→a
noncomputable def dG(X:V→aA→Prop)(e:ay)(s':aP):Prop:=∀ a:Prop,(∀ (x:V) (S':aA) (W':bP),X x S'→av c J S' W' s'→aV J S W s S' W' s'→jO c J S' W' s.heap s'.heap e x→a)→a
end
noncomputable def Ev(c:aU)(J:bo)(S:aA)(t:Sem ay)(Q:V→aA→Prop)(X:V→aA→Prop):Prop:=∀ W s,av c J S W s→aD c.M J.A t (bQ c J S W s Q) (dG c J S W s X) s
section
variable{c:aU}{J:bo}{S S':aA}{W W':bP}{s s':aP}
theorem bQ.of(t:aV J S W s S' W' s')(h:bQ c J S' W' s' Q v a):bQ c J S W s Q v a:=by refine h _ λx aJ aY b h2 d e=>?_;exact(λ_ aj=>aj x aJ aY b h2 (t.trans d) e)
theorem dG.of(t:aV J S W s S' W' s')(h:dG c J S' W' s' X v f):dG c J S W s X v f:=by
  refine h _ λx aJ aY g h2 i e=>?_;refine e _ λa cP C k vs ds n fs l m o p u w y z A b d=>?_;refine(λ_ aj=>aj x aJ aY g h2 (t.trans i) (λ_ aj=>aj a cP C k vs ds n fs l m o (t.b4 a p) u w y z A b ?_));refine aS d (λq=>?_) λG=>HI G λT j b1 B D E F r=>?_
  · exact .inl q
  · exact .inr (HT T j b1 B D E (t.b4 T F) r)
theorem Ev.mono(H:Ev c J S t Q X)(h:∀ x S,Q x S→Q' x S)(j:∀ x S,X x S→jS x S):Ev c J S t Q' jS:=λW s i=>cI (H W s i) (λ_ _ g=>g _ λx S' W' a b d e=>(λ_ aj=>aj x S' W' (h _ _ a) b d e)) λ_ _ f=>f _ λx S' W' a b d e=>(λ_ aj=>aj x S' W' (j _ _ a) b d e)
end
end
section
variable{c:aU}{J:bo}{S S':aA}{W W':bP}{s s':aP}
theorem jr{h h':bz}{T:List aq}(d:∀ b o,h.get? b=U o→b∉T→h'.get? b=U o)(bp:∀ b∈T,b∈b6 J S W)(i:∀ a∈b6 J S' W',a∈b6 J S W∨h.get? a=ae):
    ∀ b o,(ar J S W h).get? b=U o→(ar J S' W' h').get? b=U o:=λb o e=>by
  refine aC (ik e) λf g=>fg (d b o f λm=>g (bp b m)) λm=>aS (i b m) (λq=>?_) λq=>?_
  · exact g q
  · rw [f] at q;cases q
theorem vU{h h':bz}(k:∀ b o,h.get? b=U o→h'.get? b=U o):∀ b,h'.get? b=ae→h.get? b=ae:=λb e=>by cases q:h.get? b with|none=>rfl|some o=>obtain e:=(k b o q)▸e;cases e
theorem ng{h h':bz}(k:∀ o,h.get? a=U o→h'.get? a=U o)(x:h.IsCell a v):h'.IsCell a v:=by refine aI x λo b r=>?_;exact(aM o (k _ b) r)
theorem fH{h h':bz}(k:∀ o,h.get? a=U o→h'.get? a=U o)(x:h.Ns a m):h'.Ns a m:=by refine jg x λo es ep b r=>?_;exact(uQ o es ep (k _ b) r)
theorem iw.of{env:Env}(k:∀ cl,(x,cl)∈env.cells→∀ o,h.get? cl=U o→h'.get? cl=U o)(a:iw env m h x v):iw env m h' x v:=by
  refine aS a (λa=>?_) λe=>c0 e λcl b h2 d=>?_
  · exact .inl a
  · refine .inr (cJ cl b h2 (ng (k cl ?_) d));refine dP (V1.mp h2) λl1 bY q _=>ac q ?_;simp
theorem vP{h h' base:bz}(k:∀ b o,h.get? b=U o→(∀ vs,o.data≠.fields vs)→∃ o',h'.get? b=U o'∧∀ vs,o'.data≠.fields vs):∀ {l:List Env},h.FunFrames base l→h'.FunFrames base l:=by
  intro l
  induction l with
  | nil=>
    intro _;exact trivial
  | cons _ _ j=>
    rintro⟨e,⟨L,o,hf,f,g,hd⟩,i⟩;exact aI (k L o g hd) λo' d a=>(bk e (jh L o' hf f d a) (j i))
theorem av.grow(d:av c J S W s)(g:s'.gens=s.gens)(hd:s'.drawn=s.drawn)(j:s'.os=s.os)(k:∀ b o,s.heap.get? b=U o→s'.heap.get? b=U o):av c J S W s'∧aV J S W s S W s':=by
  have z:∀ b o,(Internal.ar J S W s.heap).get? b=U o→(Internal.ar J S W s'.heap).get? b=U o:=jr (T:=[]) (λb o e ag=>k b o e) (λag h=>absurd h c4) λa h=>.inl h;refine⟨⟨g.trans d.gens,hd.trans d.drawn,j.trans d.os,λb o e=>k b o (d.keep b o e),d.above,fH (k _) d.ns,λe=>fH (k _) (d.jo e),λi x X a b=>?_,λi x X a b=>?_,λx cl m=>?_,d.ee,d.dT,λi a o f h2=>(d.locs i a o f h2).mono z (.refl _) (k _),λi a o f h2=>(d.eZ i a o f h2).mono z (.refl _) (k _),d.nodup,d.new,λa m=>?_,?_⟩,⟨z,.refl _,.refl _,λb ag o e=>⟨o.slots,k b o e⟩,λb m=>⟨m,k b⟩,vU k⟩⟩
  · exact aI (d.bB i x X a b) λv f h2=>(aM v (f.of λcl ag=>k cl) (h2.mono z (.refl _) (.refl _)))
  · exact aI (d.kP i x X a b) λv f h2=>(aM v f (h2.mono z (.refl _)))
  · exact aG (d.cells x cl m) λgw h=>⟨gw,ng (k _) h⟩
  · exact aG (d.there a m) λo e=>⟨o,k _ _ e⟩
  · exact d.frames.of_keeps λb o e ag=>(aM o (k b o e) rfl)
theorem av.tok(a:av c J S W s)(t):av c J S W (e8 s t):=⟨a.gens,a.drawn,a.os,a.keep,a.above,a.ns,a.jo,a.bB,a.kP,a.cells,a.ee,a.dT,a.locs,a.eZ,a.nodup,a.new,a.there,a.frames⟩
theorem aV.tok:aV J S W s S W (e8 s t):=⟨λag ag e=>e,.refl _,.refl _,λag ag o e=>⟨o.slots,e⟩,λag h=>⟨h,λag e=>e⟩,λag e=>e⟩
theorem aV.UK(h:aV J S W s S' W' s'):aV J S W s S' W' (e8 s' t):=⟨h.ar,h.la,h.ga,h.out,h.aw,h.b4⟩
theorem nd(a:av c J S W s):s.heap.objs.size∉b6 J S W:=λm=>by exact aG (a.there _ m) λo e=>absurd (eX e) (gA _)
theorem av.push(d:av c J S W s)(o)(t)(hf:o.isFreed=ah:=by rfl):
    av c J S W (bp s (s.heap.push o) t)∧aV J S W s S W (bp s (s.heap.push o) t)∧(ar J S W (s.heap.push o)).get? s.heap.objs.size=U o:=by
  refine aC (d.grow (s':=(bp s (s.heap.push o) t)) rfl rfl rfl λb o' e=>dX _ e) λa b=>?_;exact(bk a b (fg (ez _ hf) (nd d)))
theorem PU:J.a8.locals∈b6 J S W:=by exact .head _
theorem PV(h:(x,cl)∈J.a8.cells):cl∈b6 J S W:=by have:cl∈J.cl:=fw.mpr (aM _ h rfl);simp [b6,this]
theorem pg(os):bL [] os=[]:=by cases os with|nil=>rfl|cons p os=>cases p <;>rfl
theorem PE(la):bL la []=[]:=by cases la <;>rfl
theorem me{a:aq}{la:List aq}{o:aQ}{os:List aQ}(h:o≠.dead):bL (a :: la) (o :: os)=a :: bL la os:=by cases o <;>first | rfl | exact absurd rfl h
theorem ph(a)(o):(∀ la os,bL (a :: la) (o :: os)=bL la os)∨∀ la os,bL (a :: la) (o :: os)=a :: bL la os:=by cases o <;>first | exact .inl λag ag=>rfl | exact .inr λag ag=>rfl
theorem PD{os:List aQ}(h:(bL (a :: la) (o :: os)).Nodup):(bL la os).Nodup:=by
  refine aS (ph a o) (λe=>?_) λe=>?_ <;>rw [e] at h
  · exact h
  · exact(e5.mp h).2
theorem CO{a:aq}{la b:List aq}{o:aQ}{os d:List aQ}{f:List aq→List aq}(hf:∀ l,f (a :: l)=a :: f l)(h:bL b d=f (bL la os)):bL (a :: b) (o :: d)=f (bL (a :: la) (o :: os)):=by cases o <;>first | exact h | exact(congrArg (a :: ·) h).trans (hf _).symm
theorem fE{la:List aq}{os:List aQ}{i:Nat}(d:la[i]?=U a)(h2:os[i]?=U o)(f:o≠.dead):a∈bL la os:=by
  induction la generalizing os i with
  | nil=>exact nn d
  | cons b la g=>cases os with
    | nil=>exact nn h2
    | cons p os=>cases i with
      | zero=>refine bG (aX d) ?_;exact ac (aX h2) (ac (me f) (.head _))
      | succ i=>
        obtain m:=g (os:=os) (i:=i) d h2;refine aS (ph b p) (λe=>?_) λe=>?_ <;>rw [e]
        · exact m
        · exact .tail _ m
theorem fF:b6 J S W=(J.a8.locals :: J.dN)++(J.cl++(J.dR++(bL W.la S.aR++(bL W.ga S.aE++W.aw)))):=by simp [b6]
theorem eW{l1 bY:List aq}(h:(l1++bY).Nodup)(b:a∈l1)(h2:a∈bY):False:=(dH.mp h).2.2 a b a h2 rfl
noncomputable abbrev dv(S:aA)(W:bP):List aq:=bL W.la S.aR++(bL W.ga S.aE++W.aw)
theorem av.kX(a:av c J S W s):((J.a8.locals :: J.dN)++(J.cl++(J.dR++dv S W))).Nodup:=fF▸a.nodup
theorem av.cX(a:av c J S W s){b:aq}(m:b∈J.a8.locals :: J.dN)(q:b∈J.cl++(J.dR++dv S W)):False:=eW a.kX m q
theorem av.cg(a:av c J S W s){b:aq}(m:b∈J.cl)(q:b∈J.dR++dv S W):False:=eW (dH.mp a.kX).2.1 m q
theorem av.C1(a:av c J S W s):(J.dR++dv S W).Nodup:=(dH.mp (dH.mp a.kX).2.1).2.1
theorem av.d6(a:av c J S W s){b:aq}(m:b∈J.dR)(q:b∈dv S W):False:=eW a.C1 m q
theorem av.fG(a:av c J S W s):(dv S W).Nodup:=(dH.mp a.C1).2.1
theorem r4{i:Nat}{a:aq}{o:aQ}(b:W.la[i]?=U a)(h2:S.aR[i]?=U o)(d:o≠.dead):a∈dv S W:=d9 _ (fE b h2 d)
theorem o7{i:Nat}{a:aq}{o:aQ}(b:W.ga[i]?=U a)(h2:S.aE[i]?=U o)(d:o≠.dead):a∈dv S W:=ch _ (d9 _ (fE b h2 d))
theorem ht(h:a∈W.aw):a∈dv S W:=ch _ (ch _ h)
theorem iJ(h:a∈J.dR++dv S W):a∈J.cl++(J.dR++dv S W):=ch _ h
theorem iK(h:a∈dv S W):a∈J.dR++dv S W:=ch _ h
theorem l8(h:(x,cl)∈J.a8.cells):cl∈J.cl:=fw.mpr (aM _ h rfl)
theorem rr(h:J.bZ=af):J.env.locals∈J.dR:=by unfold bo.dR;refine ac h ?_;exact .head _
theorem vx(o:aQ):o=.dead∨o≠.dead:=by cases o <;>simp
theorem d3.keep(z:∀ b o,Z.get? b=U o→Z'.get? b=U o)(k:∀ b o,b≠a→h.get? b=U o→h'.get? b=U o)(ak:o≠.dead→b≠a)(H:d3 c Z h ga b o):d3 c Z' h' ga b o:=by
  rcases vx o with rfl | hd
  · trivial
  · exact H.mono z (.refl _) λo e=>k b o (ak hd) e
theorem none_of{h h':bz}{a:aq}(k:∀ b o,b≠a→h.get? b=U o→h'.get? b=U o)(f:∃ o,h'.get? a=U o)(b)(e:h'.get? b=ae):h.get? b=ae:=by
  cases dU:h.get? b with
  | none=>rfl
  | some o=>
    by_cases q:b=a
    · exact aG f λo d=>nn (e.symm.trans (q▸d))
    · exact nn (e.symm.trans (k b o q dU))
theorem av.sY(a:av c J S W s){h':bz}(d:∀ b∈J.cl++J.dR,∀ o,s.heap.get? b=U o→h'.get? b=U o)(e:J.bZ=af):h'.Ns J.env.locals W.cm:=fH (d _ (ch _ (rr e))) (a.jo e)
theorem av.sX(a:av c J S W s){h':bz}(d:∀ b∈J.cl++J.dR,∀ o,s.heap.get? b=U o→h'.get? b=U o)(x cl)(m:(x,cl)∈J.a8.cells):∃ gw,h'.IsCell cl gw:=by exact aG (a.cells x cl m) λgw h=>⟨gw,ng (d _ (d9 _ (l8 m))) h⟩
theorem av.nN(f:av c J S W s)(z:∀ b o,(ar J S W s.heap).get? b=U o→Z.get? b=U o)(g:∀ b∈J.cl++J.dR,∀ o,s.heap.get? b=U o→h'.get? b=U o)(j:Pre W.la d)(h:Pre W.ga dS)(i:Nat)(x:Str)(X:cA)(a:J.nm[i]?=U x)(b:S.bB[i]?=U (U X)):∃ v,iw J.a8 W.m h' x v∧fX c Z dS d v X:=by exact aI (f.bB i x X a b) λv e h2=>(aM v (e.of λcl m=>g cl (d9 _ (l8 m))) (h2.mono z h j))
theorem av.sZ(e:av c J S W s){Z:bz}{dS:List aq}(z:∀ b o,(ar J S W s.heap).get? b=U o→Z.get? b=U o)(f:Pre W.ga dS)(i:Nat)(x)(X)(a:J.cn[i]?=U x)(b:S.aT[i]?=U (U X)):∃ v,W.cm x=U v∧aK c Z dS v X:=by exact aI (e.kP i x X a b) λv d h2=>(aM v d (h2.mono z f))
theorem av.Fw(e:av c J S W s){h' Z:bz}{dS:List aq}(z:∀ b o,(ar J S W s.heap).get? b=U o→Z.get? b=U o)(f:Pre W.ga dS)(k:∀ b∈bL W.la S.aR,∀ o,s.heap.get? b=U o→h'.get? b=U o)(i:Nat)(a)(o)(d:W.la[i]?=U a)(h2:S.aR[i]?=U o):d3 c Z h' dS a o:=by
  rcases vx o with rfl | hd
  · trivial
  · exact(e.locs i a o d h2).mono z f (k a (fE d h2 hd))
theorem av.Uu(e:av c J S W s){h' Z:bz}{dS:List aq}(z:∀ b o,(ar J S W s.heap).get? b=U o→Z.get? b=U o)(f:Pre W.ga dS)(k:∀ b∈bL W.ga S.aE,∀ o,s.heap.get? b=U o→h'.get? b=U o)(i:Nat)(a)(o)(d:W.ga[i]?=U a)(h2:S.aE[i]?=U o):d3 c Z h' dS a o:=by
  rcases vx o with rfl | hd
  · trivial
  · exact(e.eZ i a o d h2).mono z f (k a (fE d h2 hd))
theorem wx(m:b∈J.a8.locals :: J.dN):b∈b6 J S W:=fF▸d9 _ m
theorem mg(m:b∈dv S W):b∈b6 J S W:=fF▸ch _ (iJ (iK m))
theorem XB(m:b∈J.cl++J.dR):b∈b6 J S W:=by
  refine ac fF (aS (dj.mp m) (λq=>?_) λq=>?_)
  · exact ch _ (d9 _ q)
  · exact ch _ (iJ (d9 _ q))
theorem av.CZ(a:av c J S W s)(m:b∈J.a8.locals :: J.dN)(q:b∈J.cl++J.dR):False:=by
  refine aS (dj.mp q) (λq=>?_) λq=>?_
  · exact a.cX m (d9 _ q)
  · exact a.cX m (iJ (d9 _ q))
theorem av.wz(a:av c J S W s)(m:b∈J.cl++J.dR)(q:b∈dv S W):False:=by
  refine aS (dj.mp m) (λm=>?_) λm=>?_
  · exact a.cg m (iK q)
  · exact a.d6 m q
theorem av.iN(a:av c J S W s)(m:b∈J.a8.locals :: J.dN)(q:b∈dv S W):False:=a.cX m (iJ (iK q))
theorem av.s8(d:av c J S W s){T gq:List aq}{h':bz}(t:Nat)(k:∀ b o,b∉T→s.heap.get? b=U o→h'.get? b=U o)(j:∀ b∈T,b∈b6 J S W)(n:∀ b∈J.cl++J.dR,b∉T)(g:∀ b∈bL W.la S.aR++bL W.ga S.aE,b∉T)
    (sm:∀ a∈b6 J S {W with aw:=gq},a∈b6 J S W) (bT:(b6 J S {W with aw:=gq}).Nodup) (p:∀ a∈b6 J S {W with aw:=gq},∃ o,h'.get? a=U o) (i:h'.Ns J.a8.locals W.m) (l:h'.FunFrames c.ak (J.a8 :: J.outer)):
    av c J S {W with aw:=gq} (bp s h' t)∧∀ b o,(ar J S W s.heap).get? b=U o→(ar J S {W with aw:=gq} h').get? b=U o:=by
  obtain z:=jr (T:=T) (λb o e m=>k b o m e) j λa h=>.inl (sm a h);have f:∀ b∈J.cl++J.dR,∀ o,s.heap.get? b=U o→h'.get? b=U o:=λb m o=>k b o (n b m)
  refine⟨⟨d.gens,d.drawn,d.os,λb o e=>k b o (λq=>?_) (d.keep b o e),d.above,i,d.sY f,d.nN z f (.refl _) (.refl _),d.sZ z (.refl _),d.sX f,d.ee,d.dT,d.Fw z (.refl _) λa m o=>k a o (g a (d9 _ m)),d.Uu z (.refl _) λa m o=>k a o (g a (ch _ m)),bT,λa m=>d.new a (sm a m),p,l⟩,z⟩;exact nn ((d.new _ (j b q)).symm.trans e)
theorem wF{h h':bz}{T:List aq}(k:∀ b o,b∉T→h.get? b=U o→h'.get? b=U o)(d:∀ b∈T,∃ o,h'.get? b=U o)(b)(e:h'.get? b=ae):h.get? b=ae:=by
  cases dU:h.get? b with
  | none=>rfl
  | some o=>
    by_cases q:b∈T
    · exact aG (d b q) λo a=>nn (e.symm.trans a)
    · exact nn (e.symm.trans (k b o q dU))
theorem Cc(h:a∈bL W.la S.aR++bL W.ga S.aE):a∈dv S W:=by
  refine aS (dj.mp h) (λq=>?_) λq=>?_
  · exact d9 _ q
  · exact ch _ (d9 _ q)
theorem av.CX(b:av c J S W s){a:aq}(h:a∈bL W.la S.aR++bL W.ga S.aE)(m:a∈W.aw):False:=by
  refine aS (dj.mp h) (λq=>?_) λq=>?_
  · exact eW b.fG q (ch _ m)
  · exact eW (dH.mp b.fG).2.1 q m
theorem xm(f:av c J S W s){h':bz}{T:List aq}(k:∀ b o,b∉T→s.heap.get? b=U o→h'.get? b=U o){a:aq}(d:a∈b6 J S W)(g:a∈T→∃ o,h'.get? a=U o):∃ o,h'.get? a=U o:=by
  by_cases q:a∈T
  · exact g q
  · exact aG (f.there a d) λo e=>⟨o,k a o q e⟩
theorem av.write(d:av c J S W s){a:aq}{h':bz}
    (f:b6 J S' ⟨m',hM,W.la,W.ga,W.aw⟩=b6 J S W) (g:a∈b6 J S W) (k:∀ b o,b≠a→s.heap.get? b=U o→h'.get? b=U o) (l:∃ o,h'.get? a=U o)
    (E:W.la.length=S'.aR.length) (u:W.ga.length=S'.aE.length) (r:h'.FunFrames c.ak (J.a8 :: J.outer)) (na:a∉J.dN) (n:h'.Ns J.a8.locals m') (j:J.bZ=af→h'.Ns J.env.locals hM) (D:∀ x,(x,a)∈J.a8.cells→∃ gw,h'.IsCell a gw)
    (H:(∀ b o,(ar J S W s.heap).get? b=U o→(ar J S' ⟨m',hM,W.la,W.ga,W.aw⟩ h').get? b=U o)→
      (∀ (k:Nat) (x:Str) (X:cA),J.nm[k]?=U x→S'.bB[k]?=U (U X)→∃ v,iw J.a8 m' h' x v∧fX c (ar J S' ⟨m',hM,W.la,W.ga,W.aw⟩ h') W.ga W.la v X)∧
      (∀ (k:Nat) (x:Str) (X:V),J.cn[k]?=U x→S'.aT[k]?=U (U X)→∃ v,hM x=U v∧aK c (ar J S' ⟨m',hM,W.la,W.ga,W.aw⟩ h') W.ga v X)∧
      (∀ (i:Nat) a o,W.la[i]?=U a→S'.aR[i]?=U o→d3 c (ar J S' ⟨m',hM,W.la,W.ga,W.aw⟩ h') h' W.ga a o)∧
      (∀ (i:Nat) a o,W.ga[i]?=U a→S'.aE[i]?=U o→d3 c (ar J S' ⟨m',hM,W.la,W.ga,W.aw⟩ h') h' W.ga a o)):
    av c J S' ⟨m',hM,W.la,W.ga,W.aw⟩ (bp s h' t)∧∀ bb a0 a5,aV J bb a0 a5 S W s→a∉a0.aw→aV J bb a0 a5 S' ⟨m',hM,W.la,W.ga,W.aw⟩ (bp s h' t):=by
  obtain z:=jr (T:=[a]) (λb o e m=>k b o (λq=>m (dx.mpr q)) e) (λb m=>dx.mp m▸g) λx h=>.inl (f▸h);refine hp (H z) λw h2 A B=>?_;refine⟨⟨d.gens,d.drawn,d.os,λb o e=>k b o (λq=>?_) (d.keep b o e),d.above,n,j,w,h2,λy cl m=>?_,E,u,A,B,f▸d.nodup,f▸d.new,λb m=>?_,r⟩,λbb a0 a5 st C=>⟨λb o e=>z b o (st.ar b o e),st.la,st.ga,λb m o e=>?_,λb m=>⟨(st.aw b m).1,λo e=>k b o (λq=>C (q▸m)) ((st.aw b m).2 o e)⟩,λb e=>st.b4 b (none_of k l b e)⟩⟩
  · exact nn ((d.new _ g).symm.trans (q▸e))
  · by_cases q:cl=a
    · exact q▸D y (q▸m)
    · exact aG (d.cells y cl m) λgw h=>⟨gw,ng (λo=>k _ o q) h⟩
  · by_cases q:b=a
    · exact q▸l
    · exact aG (d.there b (f▸m)) λo e=>⟨o,k b o q e⟩
  · exact aG (st.out b m o e) λda p=>⟨da,k b _ (λq=>na (q▸m)) p⟩
theorem turned(e:a∉W.aw)(h:av c J b je d∧∀ bb a0 a5,aV J bb a0 a5 S W s→a∉a0.aw→aV J bb a0 a5 b je d):av c J b je d∧aV J S W s b je d:=⟨h.1,h.2 _ _ _ .refl e⟩
theorem wC{l:List Str}{i k:Nat}{x y:Str}(f:l.Nodup)(e:l[k]?=U x)(a:l[i]?=U y)(h:¬ k=i):y≠x:=λq=>by refine aG (fM.mp a) λl1 b=>?_;refine aG (fM.mp e) λbY d=>?_;exact h ((VU (h₀:=bY) (h₁:=l1) f).mp (d.trans (q.symm.trans b.symm)))
theorem pI{α:Type}{l:List α}{k i:Nat}{x y:α}(h:(l.set k x)[i]?=U y):(k=i∧x=y)∨(¬ k=i∧l[i]?=U y):=by
  rw [VT] at h;by_cases q:k=i
  · rw [if_pos q] at h;split at h
    · exact .inl ⟨q,aX h⟩
    · exact nn h
  · exact .inr ⟨q,(if_neg q).symm.trans h⟩
theorem ns_obj{h:bz}(x:h.Ns a m):∃ o,h.get? a=U o∧∀ vs,o.data≠.fields vs:=by exact kK x λo es ep b d _=>(aM o b λvs q=>nomatch d.symm.trans q)
theorem av.Fo(f:av c J S W s){k:Nat}{x:Str}{h':bz}{v:Option ay}{X:Option cA}(p:J.nm.Nodup)(A:J.nm[k]?=U x)(n:J.a8.kindOf x=U .local)(l:h'.Ns J.a8.locals (λy=>if y=x then v else W.m y))(L:kn J.a8.locals s.heap h')
    (G:∀ Y,X=U Y→∃ u,v=U u∧fX c (ar J S W s.heap) W.ga W.la u Y) (t:Nat):
    av c J (S.dW (S.bB.set k X)) {W with m:=λy=>if y=x then v else W.m y} (bp s h' t)∧aV J S W s (S.dW (S.bB.set k X)) {W with m:=λy=>if y=x then v else W.m y} (bp s h' t):=by
  have h:∀ b o,b≠J.a8.locals→s.heap.get? b=U o→h'.get? b=U o:=λb o q e=>(L.2 b q).trans e;have g:J.a8.locals∉J.cl++(J.dR++dv S W):=f.cX (.head _);have nl:∀ {x:Str} {cl:aq},(x,cl)∈J.a8.cells→cl≠J.a8.locals:=λ{x cl} m q=>g (d9 _ (l8 (q▸m)));refine aI (ns_obj l) λo' w D=>?_;refine turned (a:=J.a8.locals) (λm=>g (iJ (iK (ht m)))) (f.write (t:=t) (a:=J.a8.locals) (S':=S.dW (S.bB.set k X)) (m':=λy=>if y=x then v else W.m y) (hM:=W.cm) rfl PU h ⟨o',w⟩ f.ee f.dT (vP (λb o e p=>by
      by_cases q:b=J.a8.locals
      · exact(aM o' (q▸w) D)
      · exact(aM o (h b o q e) p)) f.frames) (e5.mp (dH.mp f.kX).1).1 l (λe=>fH (λo C=>h _ o (λq=>g (iJ (d9 _ (q▸rr e)))) C) (f.jo e)) (λx m=>absurd rfl (nl m)) λz=>
    (c5 (λi y Y a b=>?_) (λi y Y a b=>by refine aI (f.kP i y Y a b) λu d h2=>?_;exact(aM u d (h2.mono z (.refl _)))) (λi a o d h2=>(f.locs i a o d h2).keep z h λhd q=>g (iJ (iK (q▸r4 d h2 hd)))) λi a o d h2=>(f.eZ i a o d h2).keep z h λhd q=>g (iJ (iK (q▸o7 d h2 hd)))))
  · refine aS (pI b) (λj=>aC j λq r=>?_) λj=>aC j λq r=>?_
    · refine aI (G _ r) λu F E=>?_;obtain e:=aX (A.symm.trans (q▸a));exact(aM u (.inl ⟨e▸n,(if_pos e.symm).trans F⟩) (E.mono z (.refl _) (.refl _)))
    · refine aI (f.bB i y Y a r) λu d h2=>(aM u ?_ (h2.mono z (.refl _) (.refl _)));refine aS d (λd=>?_) λj=>c0 j λcl H B I=>?_
      · exact .inl ⟨d.1,(if_neg (wC p A a q)).trans d.2⟩
      · refine .inr (cJ cl H B (ng (λo=>h _ o (nl (x:=y) ?_)) I));refine dP (V1.mp B) λl1 bY q _=>ac q ?_;simp
theorem av.store(g:av c J S W s)(f:J.nm.Nodup)(d:J.nm[k]?=U x)(a:J.a8.kindOf x=U .local)(b:h'.Ns J.a8.locals (λy=>if y=x then U v else W.m y))(i:kn J.a8.locals s.heap h')
    (h:fX c (ar J S W s.heap) W.ga W.la v X) (t):
    av c J (S.dW (S.bB.set k (U X))) {W with m:=λy=>if y=x then U v else W.m y} (bp s h' t)∧aV J S W s (S.dW (S.bB.set k (U X))) {W with m:=λy=>if y=x then U v else W.m y} (bp s h' t):=
  g.Fo f d a b i (λY e=>by obtain rfl:=aX e;exact(aM v rfl h)) t
end
theorem CN{os:List aQ}(h:os[i]?=U o)(b:o≠.dead)(h2:o'≠.dead):bL la (os.set i o')=bL la os:=by
  induction os generalizing la i with
  | nil=>exact nn h
  | cons p os c=>cases la with
    | nil=>rw [pg,pg]
    | cons a la=>cases i with
      | zero=>refine ac List.set_cons_zero ?_;exact ac (me h2) (ac (aX h) (ac (me b) rfl))
      | succ i=>exact CO (f:=id) (λag=>rfl) (c h)
theorem CM{la:List aq}{os:List aQ}{i j:Nat}(c:(bL la os).Nodup)(d:la[i]?=U a)(h2:os[i]?=U o)(g:o≠.dead)(e:la[j]?=U a)(f:os[j]?=U o')(h:o'≠.dead):i=j:=by
  induction la generalizing os i j with
  | nil=>exact nn d
  | cons b la k=>cases os with
    | nil=>exact nn h2
    | cons p os=>
      cases i with
      | zero=>cases j with
        | zero=>rfl
        | succ j=>
          rw [aX h2,me g,aX d] at c;exact absurd (fE (os:=os) (i:=j) e f h) (e5.mp c).1
      | succ i=>cases j with
        | zero=>
          rw [aX f,me h,aX e] at c;exact absurd (fE (os:=os) (i:=i) d h2 g) (e5.mp c).1
        | succ j=>exact ac (k (os:=os) (i:=i) (j:=j) (PD c) d h2 e f) rfl
theorem rV{h h' base:bz}:∀ {l:List Env},(∀ b∈l.filterMap (·.frame),∀ o,h.get? b=U o→(∀ vs,o.data≠.fields vs)→∃ o',h'.get? b=U o'∧∀ vs,o'.data≠.fields vs)→h.FunFrames base l→h'.FunFrames base l:=by
  intro l
  induction l with
  | nil=>
    intro _ _;exact trivial
  | cons env _ i=>
    rintro k ⟨d,⟨L,o,hf,e,f,hd⟩,g⟩;obtain k:=tx▸k;obtain k:=hf▸k;exact aI (k L (.head _) o f hd) λo' c a=>(bk d (jh L o' hf e c a) (i (λb m=>k b (.tail _ m)) g))
section
variable{c:aU}{J:bo}{S S':aA}{W W':bP}{s s':aP}
theorem EQ(e:∀ b∈W.aw,b∈je.aw)(h:av c J a je d∧∀ bb a0 a5,aV J bb a0 a5 S W s→(∀ b∈a0.aw,b∈W.aw→b∈je.aw)→aV J bb a0 a5 a je d):av c J a je d∧aV J S W s a je d:=⟨h.1,h.2 _ _ _ .refl λb m ag=>e b m⟩
theorem av.turn(d:av c J S W s)(hf:J.a8.frame=U J.a8.locals){a:aq}(t)
    (g:a∈bL W.la S.aR++(bL W.ga S.aE++W.aw)) (k:∀ b o,b≠a→s.heap.get? b=U o→h'.get? b=U o) (u:∃ o,h'.get? a=U o)
    (p:bL W.la loc'=bL W.la S.aR) (n:bL W.ga gG=bL W.ga S.aE) (v:S.aR.length=loc'.length) (l:S.aE.length=gG.length)
    (h:(∀ b o,(ar J S W s.heap).get? b=U o→(ar J {S with aR:=loc',aE:=gG} W h').get? b=U o)→∀ (i:Nat) b o,W.la[i]?=U b→loc'[i]?=U o→d3 c (ar J {S with aR:=loc',aE:=gG} W h') h' W.ga b o)
    (f:(∀ b o,(ar J S W s.heap).get? b=U o→(ar J {S with aR:=loc',aE:=gG} W h').get? b=U o)→∀ (i:Nat) b o,W.ga[i]?=U b→gG[i]?=U o→d3 c (ar J {S with aR:=loc',aE:=gG} W h') h' W.ga b o):
    av c J {S with aR:=loc',aE:=gG} W (bp s h' t)∧∀ bb a0 a5,aV J bb a0 a5 S W s→a∉a0.aw→aV J bb a0 a5 {S with aR:=loc',aE:=gG} W (bp s h' t):=by
  have j:∀ b∈J.cl++J.dR,∀ o,s.heap.get? b=U o→h'.get? b=U o:=λb m o=>k b o λq=>d.wz m (q▸g);have cX:∀ b,b∈J.a8.locals :: J.dN→b≠a:=λb ak q=>d.cX ak (iJ (iK (q▸g)));refine d.write (t:=t) (S':={S with aR:=loc',aE:=gG}) (m':=W.m) (hM:=W.cm) (by simp only [b6,p,n]) (mg g) k u (d.ee.trans v) (d.dT.trans l) ?_ (λm=>cX a (.tail _ m) rfl)
    (fH (λo=>k _ o (cX _ (.head _))) d.ns) (d.sY j) (λx m=>(d.cg (l8 m) (iK g)).elim) λz=>(c5 (d.nN z j (.refl _) (.refl _)) (d.sZ z (.refl _)) (h z) (f z))
  refine rV (λb m o e r=>(aM o (k b o (cX b ?_) e) r)) d.frames;obtain m:=tx▸m;obtain m:=hf▸m;exact m
theorem av.xu(f:av c J S W s)(hf:J.a8.frame=U J.a8.locals){i:Nat}{a:aq}{o o':aQ}{h':bz}(t:Nat)(au:W.la[i]?=U a)(g:S.aR[i]?=U o)(hd:o≠.dead)(l:o'≠.dead)
    (k:∀ b o,b≠a→s.heap.get? b=U o→h'.get? b=U o)
    (new:(∀ b o,(ar J S W s.heap).get? b=U o→(ar J (S.dV (S.aR.set i o')) W h').get? b=U o)→d3 c (ar J (S.dV (S.aR.set i o')) W h') h' W.ga a o') (n:∃ o,h'.get? a=U o):
    av c J (S.dV (S.aR.set i o')) W (bp s h' t)∧aV J S W s (S.dV (S.aR.set i o')) W (bp s h' t):=by
  refine turned (λm=>eW f.fG (fE au g hd) (ch _ m)) (f.turn hf (a:=a) t (r4 au g hd) k n (CN g hd l) rfl (by exact(V0 ..).symm) rfl (λz j b p d h2=>?_) λz j b p d h2=>?_)
  · refine aS (pI h2) (λh=>aC h λq r=>?_) λh=>aC h λq r=>?_
    · exact r▸aX (au.symm.trans (q▸d))▸new z
    · exact(f.locs j b p d r).keep z k λbt e=>q (CM (dH.mp f.fG).1 au g hd (e▸d) r bt)
  · exact(f.eZ j b p d h2).keep z k λbt e=>eW f.fG (fE au g hd) (d9 _ (e▸fE d h2 bt))
theorem av.s7(g:av c J S W s)(hf:J.a8.frame=U J.a8.locals){i:Nat}{a:aq}{o o':aQ}{h':bz}(t:Nat)(au:W.ga[i]?=U a)(f:S.aE[i]?=U o)(hd:o≠.dead)(l:o'≠.dead)
    (k:∀ b o,b≠a→s.heap.get? b=U o→h'.get? b=U o)
    (new:(∀ b o,(ar J S W s.heap).get? b=U o→(ar J (S.b8 (S.aE.set i o')) W h').get? b=U o)→d3 c (ar J (S.b8 (S.aE.set i o')) W h') h' W.ga a o') (n:∃ o,h'.get? a=U o):
    av c J (S.b8 (S.aE.set i o')) W (bp s h' t)∧aV J S W s (S.b8 (S.aE.set i o')) W (bp s h' t):=by
  have nz:=(dH.mp g.fG).2.1;refine turned (λm=>eW nz (fE au f hd) m) (g.turn hf (a:=a) t (o7 au f hd) k n rfl (CN f hd l) rfl (by exact(V0 ..).symm) (λz j b p d h2=>?_) λz j b p d h2=>?_)
  · exact(g.locs j b p d h2).keep z k λbt e=>eW g.fG (fE d h2 bt) (d9 _ (e▸fE au f hd))
  · refine aS (pI h2) (λh=>aC h λq r=>?_) λh=>aC h λq r=>?_
    · exact r▸aX (au.symm.trans (q▸d))▸new z
    · exact(g.eZ j b p d r).keep z k λbt e=>q (CM (dH.mp nz).1 au f hd (e▸d) r bt)
theorem av.pX(f:av c J S W s)(hf:J.a8.frame=U J.a8.locals){a:aq}{h':bz}(t:Nat)(au:a∈W.aw)(k:∀ b o,b≠a→s.heap.get? b=U o→h'.get? b=U o)(g:∃ o,h'.get? a=U o):
    av c J S W (bp s h' t)∧∀ bb a0 a5,aV J bb a0 a5 S W s→a∉a0.aw→aV J bb a0 a5 S W (bp s h' t):=by
  refine f.turn hf (a:=a) t (ht au) k g rfl rfl rfl rfl (λz j b p d h2=>?_) λz j b p d h2=>?_
  · exact(f.locs j b p d h2).keep z k λbt e=>eW f.fG (fE d h2 bt) (ch _ (e▸au))
  · exact(f.eZ j b p d h2).keep z k λbt e=>eW (dH.mp f.fG).2.1 (fE d h2 bt) (e▸au)
end
section
variable{c:aU}{J:bo}{S:aA}{W:bP}{s s':aP}
theorem gt:b6 J S W=((J.a8.locals :: J.dN)++(J.cl++J.dR))++dv S W:=by simp [b6]
theorem av.w6(d:av c J S W s)(A:S'.bB=S.bB)(a4:S'.aT=S.aT)(p:W'.m=W.m)(f:W'.cm=W.cm)(x:s'.gens=s.gens)(hd:s'.drawn=s.drawn)(y:s'.os=s.os)(k:∀ b o,s.heap.get? b=U o→s'.heap.get? b=U o)
    (t:Pre W.la W'.la) (l:Pre W.ga W'.ga) (g:∀ a∈dv S' W',a∈dv S W∨s.heap.get? a=ae) (bT:(dv S' W').Nodup) (C:∀ a∈dv S' W',∃ o,s'.heap.get? a=U o) (B:W'.la.length=S'.aR.length) (v:W'.ga.length=S'.aE.length)
    (H:(∀ b o,(ar J S W s.heap).get? b=U o→(ar J S' W' s'.heap).get? b=U o)→
      (∀ (i:Nat) b o,W'.la[i]?=U b→S'.aR[i]?=U o→d3 c (ar J S' W' s'.heap) s'.heap W'.ga b o)∧
      (∀ (i:Nat) b o,W'.ga[i]?=U b→S'.aE[i]?=U o→d3 c (ar J S' W' s'.heap) s'.heap W'.ga b o)):
    av c J S' W' s'∧∀ bb a0 a5,aV J bb a0 a5 S W s→(∀ b∈a0.aw,b∈W.aw→b∈W'.aw)→aV J bb a0 a5 S' W' s':=by
  have j:∀ a∈b6 J S' W',a∈b6 J S W∨(s.heap.get? a=ae∧a∈dv S' W'):=λa m=>by
    rw [gt] at m;refine ac gt (aS (dj.mp m) (λm=>?_) λm=>?_)
    · exact .inl (d9 _ m)
    · refine aS (g a m) (λq=>?_) λq=>?_
      · exact .inl (ch _ q)
      · exact .inr ⟨q,m⟩
  obtain z:=jr (T:=[]) (λb o e ag=>k b o e) (λag h=>absurd h c4) λa m=>(j a m).imp id (·.1);refine aC (H z) λw h2=>?_;refine⟨⟨x.trans d.gens,hd.trans d.drawn,y.trans d.os,λb o e=>k b o (d.keep b o e),d.above,fH (k _) (p▸d.ns),f▸d.sY λb m=>k b,A▸p▸d.nN z (λb m=>k b) t l,a4▸f▸d.sZ z l,d.sX λb m=>k b,B,v,w,h2,?_,λa m=>?_,λa m=>?_,?_⟩,λbb a0 a5 st hh=>⟨λb o e=>z b o (st.ar b o e),st.la.trans t,st.ga.trans l,λb m o e=>by refine aG (st.out b m o e) λda u=>?_;exact⟨da,k b _ u⟩,λb m=>⟨hh b m (st.aw b m).1,λo e=>k b o ((st.aw b m).2 o e)⟩,λb e=>st.b4 b (vU k b e)⟩⟩
  · refine ac gt (cR (dH.mp (gt▸d.nodup)) λcX cg d6=>dH.mpr (bk cX bT λa n b ak q=>?_));refine aS (g b ak) (λr=>?_) λr=>?_
    · exact d6 a n b r q
    · exact aG (d.there a (gt▸d9 _ n)) λo e=>nn (r.symm.trans (q▸e))
  · refine aS (j a m) (λq=>?_) λq=>?_
    · exact d.new a q
    · cases h:c.ak.get? a with|none=>rfl|some o=>exact nn (q.1.symm.trans (d.keep a o h))
  · refine aS (j a m) (λq=>?_) λq=>?_
    · exact aG (d.there a q) λo e=>⟨o,k a o e⟩
    · exact C a q.2
  · exact d.frames.of_keeps λb o e ag=>(aM o (k b o e) rfl)
theorem sh{os:List aQ}(h:la.length=os.length)(hd:o≠.dead):bL (la++[a]) (os++[o])=bL la os++[a]:=by
  induction la generalizing os with
  | nil=>cases os with
    | nil=>exact me hd
    | cons p os=>exact qh h
  | cons b la d=>cases os with
    | nil=>exact qh h
    | cons p os=>exact CO (f:=(·++[a])) (λag=>rfl) (d (xR h))
theorem Pre.snoc{α:Type}(l:List α)(a):Pre l (l++[a]):=⟨[a],rfl⟩
theorem CK{os:List aQ}:(bL la (os.set i .dead)).Sublist (bL la os):=by
  induction os generalizing la i with
  | nil=>exact .refl _
  | cons p os a=>cases la with
    | nil=>rw [pg,pg];exact .refl _
    | cons b la=>cases i with
      | zero=>
        show(bL la os).Sublist _;refine aS (ph b p) (λe=>?_) λe=>?_ <;>rw [e]
        · exact .refl _
        · exact .cons _ (.refl _)
      | succ i=>
        show(bL (b :: la) (p :: os.set i .dead)).Sublist _;refine aS (ph b p) (λe=>?_) λe=>?_ <;>rw [e,e]
        · exact a
        · exact a.cons_cons _
theorem CL{os:List aQ}(bT:(bL la os).Nodup)(au:la[i]?=U a)(d:os[i]?=U o)(hd:o≠.dead):a∉bL la (os.set i .dead):=by
  induction la generalizing os i with
  | nil=>exact nn au
  | cons b la f=>cases os with
    | nil=>exact nn d
    | cons p os=>cases i with
      | zero=>
        obtain bT:=(aX d)▸bT;obtain bT:=(me hd)▸bT;obtain bT:=(aX au)▸bT;exact(e5.mp bT).1
      | succ i=>
        show a∉bL (b :: la) (p :: os.set i .dead);refine aS (ph b p) (λe=>?_) λe=>?_ <;>rw [e] at bT ⊢
        · exact f bT au d
        · intro h;have n:=e5.mp bT
          refine aS (b9.mp h) (λq=>?_) λq=>?_
          · exact n.1 (q▸fE (os:=os) (i:=i) au d hd)
          · exact f n.2 au d q
theorem kh{α:Type}{l:List α}{i:Nat}{x y:α}(h:(l++[x])[i]?=U y):l[i]?=U y∨(i=l.length∧x=y):=by
  rw [List.getElem?_append] at h;by_cases q:i<l.length
  · exact .inl ((if_pos q).symm.trans h)
  · refine .inr ?_;rw [if_neg q] at h;have:=(fM.mp h).1
    have e:i=l.length:=n0 (Nat.sub_eq_zero_iff_le.mp (Nat.lt_one_iff.mp this)) (Nat.le_of_not_lt q);refine⟨e,aX ?_⟩;rw [e,GE] at h;exact h
theorem j8{α:Type}{l:List α}{i:Nat}{x:α}(h:l[i]?=U x)(e:i=l.length):False:=gA _ (e▸(fM.mp h).1)
theorem kT{h:bz}(b)(o')(e:h.get? b=U o'):(h.push o).get? b=U o':=dX _ e
theorem av.w1(d:av c J S W s){o:Obj}{t:Nat}(hf:o.isFreed=ah){S':aA}{W':bP}(k:S'.bB=S.bB)(a4:S'.aT=S.aT)(j:W'.m=W.m)(f:W'.cm=W.cm)(r:Pre W.la W'.la)(p:Pre W.ga W'.ga)
    (P:(dv S' W').Perm (s.heap.objs.size :: dv S W)) (l:W'.la.length=S'.aR.length) (g:W'.ga.length=S'.aE.length) (hh:∀ b∈W.aw,b∈W'.aw)
    (H:(∀ b o',(ar J S W s.heap).get? b=U o'→(ar J S' W' (s.heap.push o)).get? b=U o')→
      (∀ (i:Nat) b o',W'.la[i]?=U b→S'.aR[i]?=U o'→d3 c (ar J S' W' (s.heap.push o)) (s.heap.push o) W'.ga b o')∧
      (∀ (i:Nat) b o',W'.ga[i]?=U b→S'.aE[i]?=U o'→d3 c (ar J S' W' (s.heap.push o)) (s.heap.push o) W'.ga b o')):
    av c J S' W' (bp s (s.heap.push o) t)∧aV J S W s S' W' (bp s (s.heap.push o) t):=by
  have n:s.heap.objs.size∉dv S W:=λm=>nd d (gt▸ch _ m);refine EQ hh (d.w6 (s':=(bp s (s.heap.push o) t)) k a4 j f rfl rfl rfl kT r p (λa m=>?_) (P.nodup_iff.mpr (e5.mpr ⟨n,d.fG⟩)) (λa m=>?_) l g H)
  · refine aS (b9.mp (P.mem_iff.mp m)) (λq=>?_) λq=>?_
    · refine .inr ?_;cases h:s.heap.get? a with|none=>rfl|some o=>exact absurd (q▸eX h) (gA _)
    · exact .inl q
  · refine aS (b9.mp (P.mem_iff.mp m)) (λq=>?_) λq=>?_
    · exact⟨_,q▸ez _ hf⟩
    · exact aG (d.there a (gt▸ch _ q)) λo' e=>⟨o',dX _ e⟩
theorem av.Qj(d:av c J S W s)(o:Obj)(dA:aQ)(t:Nat)(hd:dA≠.dead)(hf:o.isFreed=ah)
    (new:(∀ b q,(ar J S W s.heap).get? b=U q→(ar J (S.dV (S.aR++[dA])) {W with la:=W.la++[s.heap.objs.size]} (s.heap.push o)).get? b=U q)→d3 c (ar J (S.dV (S.aR++[dA])) {W with la:=W.la++[s.heap.objs.size]} (s.heap.push o)) (s.heap.push o) W.ga s.heap.objs.size dA):
    av c J (S.dV (S.aR++[dA])) {W with la:=W.la++[s.heap.objs.size]} (bp s (s.heap.push o) t)∧aV J S W s (S.dV (S.aR++[dA])) {W with la:=W.la++[s.heap.objs.size]} (bp s (s.heap.push o) t):=by
  refine d.w1 hf rfl rfl rfl rfl (Pre.snoc _ _) (.refl _) ?_ (by simp [d.ee]) d.dT (λag m=>m) λz=>⟨λi b p a h2=>?_,λi b p a h2=>(d.eZ i b p a h2).mono z (.refl _) (kT b)⟩
  · show((bL (W.la++[s.heap.objs.size]) (S.aR++[dA]))++(bL W.ga S.aE++W.aw)).Perm _;exact ac (sh d.ee hd) (ac (eM ..) lh)
  · refine aS (kh a) (λa=>?_) λe=>aC e λq a=>?_ <;>refine aS (kh h2) (λh2=>?_) λe=>aC e λr h2=>?_
    · exact(d.locs i b p a h2).mono z (.refl _) (kT b)
    · exact(j8 a (r.trans d.ee.symm)).elim
    · exact(j8 h2 (q.trans d.ee)).elim
    · exact a▸h2▸new z
theorem av.wB(d:av c J S W s)(o:Obj)(dA:aQ)(t:Nat)(hd:dA≠.dead)(hf:o.isFreed=ah)
    (new:(∀ b q,(ar J S W s.heap).get? b=U q→(ar J (S.b8 (S.aE++[dA])) {W with ga:=W.ga++[s.heap.objs.size]} (s.heap.push o)).get? b=U q)→d3 c (ar J (S.b8 (S.aE++[dA])) {W with ga:=W.ga++[s.heap.objs.size]} (s.heap.push o)) (s.heap.push o) (W.ga++[s.heap.objs.size]) s.heap.objs.size dA):
    av c J (S.b8 (S.aE++[dA])) {W with ga:=W.ga++[s.heap.objs.size]} (bp s (s.heap.push o) t)∧aV J S W s (S.b8 (S.aE++[dA])) {W with ga:=W.ga++[s.heap.objs.size]} (bp s (s.heap.push o) t):=by
  refine d.w1 hf rfl rfl rfl rfl (.refl _) (Pre.snoc _ _) ?_ d.ee (by simp [d.dT]) (λag m=>m) λz=>⟨λi b p a h2=>(d.locs i b p a h2).mono z (Pre.snoc _ _) (kT b),λi b p a h2=>?_⟩
  · show((bL W.la S.aR)++(bL (W.ga++[s.heap.objs.size]) (S.aE++[dA])++W.aw)).Perm _;exact ac (sh d.dT hd) (((ac (eM ..) lh:((bL W.ga S.aE++[s.heap.objs.size])++W.aw).Perm _).append_left _).trans lh)
  · refine aS (kh a) (λa=>?_) λe=>aC e λq a=>?_ <;>refine aS (kh h2) (λh2=>?_) λe=>aC e λr h2=>?_
    · exact(d.eZ i b p a h2).mono z (Pre.snoc _ _) (kT b)
    · exact(j8 a (r.trans d.dT.symm)).elim
    · exact(j8 h2 (q.trans d.dT)).elim
    · exact a▸h2▸new z
theorem av.kY(a:av c J S W s)(o:Obj)(t:Nat)(hf:o.isFreed=ah):
    av c J S {W with aw:=s.heap.objs.size :: W.aw} (bp s (s.heap.push o) t)∧aV J S W s S {W with aw:=s.heap.objs.size :: W.aw} (bp s (s.heap.push o) t):=
  a.w1 hf rfl rfl rfl rfl (.refl _) (.refl _) ((lh.append_left _).trans lh) a.ee a.dT (λag m=>.tail _ m) λz=>⟨λi b p d h2=>(a.locs i b p d h2).mono z (.refl _) (kT b),λi b p d h2=>(a.eZ i b p d h2).mono z (.refl _) (kT b)⟩
theorem av.same(f:av c J S W s){S':aA}{W':bP}(j:S'.bB=S.bB)(a4:S'.aT=S.aT)(h:W'.m=W.m)(d:W'.cm=W.cm)(n:Pre W.la W'.la)(l:Pre W.ga W'.ga)(sub:∀ a∈dv S' W',a∈dv S W)(bT:(dv S' W').Nodup)(k:W'.la.length=S'.aR.length)(g:W'.ga.length=S'.aE.length)
    (H:(∀ b o,(ar J S W s.heap).get? b=U o→(ar J S' W' s.heap).get? b=U o)→
      (∀ (i:Nat) b o,W'.la[i]?=U b→S'.aR[i]?=U o→d3 c (ar J S' W' s.heap) s.heap W'.ga b o)∧
      (∀ (i:Nat) b o,W'.ga[i]?=U b→S'.aE[i]?=U o→d3 c (ar J S' W' s.heap) s.heap W'.ga b o)):
    av c J S' W' s∧∀ bb a0 a5,aV J bb a0 a5 S W s→(∀ b∈a0.aw,b∈W.aw→b∈W'.aw)→aV J bb a0 a5 S' W' s:=
  f.w6 j a4 h d rfl rfl rfl (λag ag e=>e) n l (λa m=>.inl (sub a m)) bT (λa m=>f.there a (gt▸ch _ (sub a m))) k g H
theorem av.less(d:av c J S W s)(da:(bL W.la loc'++(bL W.ga gG++gq)).Sublist (dv S W))(k:W.la.length=loc'.length)(h:W.ga.length=gG.length)
    (j:∀ (i:Nat) (o:aQ),loc'[i]?=U o→S.aR[i]?=U o∨o=.dead) (h2:∀ (i:Nat) o,gG[i]?=U o→S.aE[i]?=U o∨o=.dead):
    av c J {S with aR:=loc',aE:=gG} {W with aw:=gq} s∧∀ bb a0 a5,aV J bb a0 a5 S W s→(∀ b∈a0.aw,b∈W.aw→b∈gq)→aV J bb a0 a5 {S with aR:=loc',aE:=gG} {W with aw:=gq} s:=by
  refine d.same rfl rfl rfl rfl (.refl _) (.refl _) (λa m=>da.subset m) (d.fG.sublist da) k h λz=>⟨λi b p f g=>?_,λi b p f g=>?_⟩
  · rcases j i p g with r | rfl
    · exact(d.locs i b p f r).mono z (.refl _) λag e=>e
    · trivial
  · rcases h2 i p g with r | rfl
    · exact(d.eZ i b p f r).mono z (.refl _) λag e=>e
    · trivial
theorem Fd{l:List aQ}(i:Nat)(o)(h:(l.set k .dead)[i]?=U o):l[i]?=U o∨o=.dead:=by
  refine aS (pI h) (λa=>aC a λq r=>?_) λa=>aC a λq r=>?_
  · exact .inr r.symm
  · exact .inl r
theorem av.show(a:av c J S W s)(h:gq.Sublist W.aw):av c J S {W with aw:=gq} s∧∀ bb a0 a5,aV J bb a0 a5 S W s→(∀ b∈a0.aw,b∈W.aw→b∈gq)→aV J bb a0 a5 S {W with aw:=gq} s:=a.less ((lf _).append ((lf _).append h)) a.ee a.dT (λi o e=>.inl e) λi o e=>.inl e
theorem av.freeze(b:av c J S W s){i:Nat}(au:W.la[i]?=U a)(f:S.aR[i]?=U o)(hd:o≠.dead)(g:s.heap.get? a=U j):
    av c J (S.dV (S.aR.set i .dead)) W s∧aV J S W s (S.dV (S.aR.set i .dead)) W s∧(ar J (S.dV (S.aR.set i .dead)) W s.heap).get? a=U j:=by
  refine aC (b.less (loc':=S.aR.set i .dead) (gG:=S.aE) (gq:=W.aw) (CK.append (.refl _)) (by simp [b.ee]) b.dT Fd λi o e=>.inl e) λh h2=>(bk h (h2 _ _ _ .refl λag m ag=>m) (fg g λm=>?_));have d:=fE au f hd
  refine aS (dj.mp (gt▸m)) (λq=>?_) λq=>?_
  · exact eW (gt▸b.nodup) q (d9 _ d)
  · refine aS (dj.mp q) (λq=>?_) λq=>?_
    · exact CL (dH.mp b.fG).1 au f hd q
    · exact eW b.fG d q
theorem av.NU(b:av c J S W s){i:Nat}(au:W.ga[i]?=U a)(d:S.aE[i]?=U o)(hd:o≠.dead)(g:s.heap.get? a=U j):
    av c J (S.b8 (S.aE.set i .dead)) W s∧aV J S W s (S.b8 (S.aE.set i .dead)) W s∧(ar J (S.b8 (S.aE.set i .dead)) W s.heap).get? a=U j:=by
  refine aC (b.less (loc':=S.aR) (gG:=S.aE.set i .dead) (gq:=W.aw) ((lf _).append (CK.append (.refl _))) b.ee (by simp [b.dT]) (λi o e=>.inl e) Fd) λh h2=>(bk h (h2 _ _ _ .refl λag m ag=>m) (fg g λm=>?_));have nz:=(dH.mp b.fG).2.1
  have f:=fE au d hd;refine aS (dj.mp (gt▸m)) (λq=>?_) λq=>?_
  · exact eW (gt▸b.nodup) q (o7 au d hd)
  · refine aS (dj.mp q) (λq=>?_) λq=>?_
    · exact eW b.fG q (d9 _ f)
    · refine aS (dj.mp q) (λq=>?_) λq=>?_
      · exact CL (dH.mp nz).1 au d hd q
      · exact eW nz f q
end
section
set_option genCtorIdx false
set_option backward.match.sparseCases false
set_option genSizeOf false
set_option genInjectivity false
inductive bh where|var (k:Nat)|cvar (k:Nat)|aO (g:Nat)|d5|f6 (b:Bool)|b5 (i:Int)|bC (n:Nat)|gK (b:List UInt8)|neg (e:bh)|not (e:bh)|a7 (op:n3) (a b:bh)|bi (op:p5) (a b:bh)|eC (op:k9) (es:List bh)|bn (t a b:bh)|ao (es:List bh)|lst (es:List bh)|eT (ks:List Nat) (es:List bh)|rX|rY (i:Int) (e:bh)|r1|l6 (es:List bh)|call (f:bh) (as:List bh)|bE (o:bh) (n:Nat) (as:List bh)|k7 (k:Nat) (n:Nat) (as:List bh)|pV (k:Nat)|bS (o:bh) (n:Nat)|bq (o i:bh)|hW (o:bh) (lo au:Option bh)|rev (o:bh)|comp (elt:bh) (bO:Option Nat) (kind:Nat) (dd:List bh) (cond:Option bh)|flat (dd:bh)|rU (e:bh)
inductive qA where|bH (k:Nat)|mr (n:Nat)
inductive be where|bH (k:Nat) (e:bh)|lP (k:Nat) (mode:Nat) (elt:bh) (bO:Option Nat) (kind:Nat) (dd:List bh) (cond:Option bh)|hr (ks:List Nat) (e:bh)|lQ (ks:List Nat) (es:List bh)|nH (k:Nat) (es:List bh)|pA (k:Nat) (ks:List Nat) (es:List bh)|fI (k:Nat) (n:Nat) (e:bh)|kg (o i e:bh)|nM (k:Nat) (i:Nat) (e:bh)|ex (e:bh)|ret (e:bh)|ke|bn (t:bh) (a b:List be)|kl (t:bh) (b:List be)|gF (bO:List Nat) (ao:Bool) (kind:Nat) (dd:List bh) (b:List be)|e2 (g:Nat) (as:List bh)|mx (b:List be)|nQ (b:List be) (g:Nat) (j:Nat) (h:qA)
inductive lz where
  | next
  | ret (x:V)
noncomputable abbrev bU:=V→aA→Prop
noncomputable abbrev el:=V→List aQ→Prop
structure cp where
  ju:Nat→Option V
  gH:Nat→Str
  lay:aq→List Nat
  bE:aq→Nat→Option aq
  hu:aq→aq→Bool
  fC:aq→Bool
  ls:Nat→Str
  call:aq→List V→List aQ→el→el→Prop
  exc:aq→List V→Option V
noncomputable def bF{α:Type}(o:Option α)(P:α→Prop):Prop:=match o with|some a=>P a|none=>False
noncomputable def QI(α:Type)(o:Option α)(P:α→Prop):Prop:=∀ b:Prop,(∀ (a),o=U a→P a→b)→b
theorem cy{α:Type}{o:Option α}{P:α→Prop}(h:bF o P):QI α o P:=by cases o with|none=>exact h.elim|some a=>exact(λ_ aj=>aj a rfl h)
theorem cu{α:Type}{o:Option α}{P:α→Prop}{a:α}(e:o=U a)(h:P a):bF o P:=by subst e;exact h
noncomputable def u2:V→Option Unit|.none=>U ()|_=>ae
noncomputable def uX:V→Option Bool|.bool b=>U b|_=>ae
noncomputable def oH:V→Option Int|.int i=>U i|_=>ae
noncomputable def zw:V→Option Nat|.lit n=>U n|_=>ae
noncomputable def qV:V→Option (Array UInt8)|.bytes b=>U b|_=>ae
noncomputable def q5:V→Option (List V)|.ao xs=>U xs|_=>ae
noncomputable def oI:V→Option (List V)|.list xs=>U xs|_=>ae
noncomputable def zo:V→Option (List (Nat×V))|.dict es=>U es|_=>ae
noncomputable def m2:V→Option Nat|.aB g=>U g|_=>ae
noncomputable def jk:V→Option (aq×List V)|.a3 C fs=>U (C,fs)|_=>ae
theorem u3(h:u2 x=U u):x=.none:=by cases x <;>first | rfl | exact nn h
theorem oB(h:uX x=U b):x=.bool b:=by cases x <;>first | exact congrArg V.bool (aX h) | exact nn h
theorem iA(h:oH x=U i):x=.int i:=by cases x <;>first | exact congrArg V.int (aX h) | exact nn h
theorem Iu(h:zw x=U n):x=.lit n:=by cases x <;>first | exact congrArg V.lit (aX h) | exact nn h
theorem oC(h:qV x=U b):x=.bytes b:=by cases x <;>first | exact congrArg V.bytes (aX h) | exact nn h
theorem oM(h:q5 x=U xs):x=.ao xs:=by cases x <;>first | exact congrArg V.ao (aX h) | exact nn h
theorem oJ(h:oI x=U xs):x=.list xs:=by cases x <;>first | exact congrArg V.list (aX h) | exact nn h
theorem Ip(h:zo x=U es):x=.dict es:=by cases x <;>first | exact congrArg V.dict (aX h) | exact nn h
theorem oG(h:m2 x=U g):x=.aB g:=by cases x <;>first | exact congrArg V.aB (aX h) | exact nn h
theorem q1(h:jk x=U p):x=.a3 p.1 p.2:=by cases x <;>first | exact congrArg (λp:aq×List V=>V.a3 p.1 p.2) (aX h) | exact nn h
noncomputable abbrev pt(x:V)(P:Prop):Prop:=bF (u2 x) λag=>P
noncomputable abbrev nD(x:V)(P:Bool→Prop):Prop:=bF (uX x) P
noncomputable abbrev cc(x:V)(P:Int→Prop):Prop:=bF (oH x) P
noncomputable abbrev iR(x:V)(P:Nat→Prop):Prop:=bF (zw x) P
noncomputable abbrev onBytes(x:V)(P:Array UInt8→Prop):Prop:=bF (qV x) P
noncomputable abbrev gb(x:V)(P:List V→Prop):Prop:=bF (q5 x) P
noncomputable abbrev hA(x:V)(P:List V→Prop):Prop:=bF (oI x) P
noncomputable abbrev wM(x:V)(P:List (Nat×V)→Prop):Prop:=bF (zo x) P
noncomputable abbrev pr(x:V)(P:Nat→Prop):Prop:=bF (m2 x) P
noncomputable abbrev iQ(x:V)(P:aq→List V→Prop):Prop:=bF (jk x) λp=>P p.1 p.2
noncomputable def hy(xs:List V)(P:V→Prop):Prop:=match xs with
  | []=>False
  | x :: r=>(match r with
    | []=>P x
    | _ :: _=>False)
noncomputable def j2(b:Bool)(P:Prop):Prop:=match b with|true=>P|false=>False
theorem rW{P:Prop}(h:j2 (gh a b) P):a≤b∧P:=by
  cases q:gh a b with
  | true=>obtain h:=q▸h;exact⟨xO q,h⟩
  | false=>obtain h:=q▸h;exact h.elim
noncomputable def k0(xs:List V)(P:V→V→Prop):Prop:=match xs with|[]=>False|x :: r=>hy r (P x)
noncomputable def Dc(xs:List V)(P:V→V→V→Prop):Prop:=match xs with|[]=>False|x :: r=>k0 r (P x)
theorem iP(h:hy xs P):∃ x,xs=[x]∧P x:=by
  cases xs with
  | nil=>exact h.elim
  | cons x r=>cases r with
    | nil=>exact(aM x rfl h)
    | cons y r=>exact h.elim
noncomputable def QD(xs:List V)(P:V→V→Prop):Prop:=∀ a:Prop,(∀ (x y),xs=[x,y]→P x y→a)→a
theorem nC(h:k0 xs P):QD xs P:=by cases xs with|nil=>exact h.elim|cons x r=>refine aI (iP (show hy r (P x) from h)) λy e p=>?_;exact(λ_ aj=>aj x y (e▸rfl) p)
noncomputable def QF(xs:List V)(P:V→V→V→Prop):Prop:=∀ a:Prop,(∀ (x y z),xs=[x,y,z]→P x y z→a)→a
theorem QE(h:Dc xs P):QF xs P:=by cases xs with|nil=>exact h.elim|cons x r=>refine(nC (show k0 r (P x) from h)) _ ?_;intro y z e p;exact(λ_ aj=>aj x y z (e▸rfl) p)
noncomputable def lM:aQ→Option (List V)|.list xs=>U xs|_=>ae
noncomputable def qQ:aQ→Option (List (Nat×V))|.cY es=>U es|_=>ae
noncomputable def qP:aQ→Option (List (Int×V))|.id es=>U es|_=>ae
noncomputable def zd:aQ→Option (List ((Int×Int)×V))|.fV es=>U es|_=>ae
theorem uV(h:lM o=U xs):o=.list xs:=by cases o <;>first | exact congrArg aQ.list (aX h) | exact nn h
theorem zc(h:qQ o=U xs):o=.cY xs:=by cases o <;>first | exact congrArg aQ.cY (aX h) | exact nn h
theorem Ib(h:qP o=U xs):o=.id xs:=by cases o <;>first | exact congrArg aQ.id (aX h) | exact nn h
theorem Ic(h:zd o=U xs):o=.fV xs:=by cases o <;>first | exact congrArg aQ.fV (aX h) | exact nn h
noncomputable def IV(α:Type)(β:Type)(o:Option α)(f:α→Option β)(b:β):Prop:=∀ c:Prop,(∀ (a),o=U a→f a=U b→c)→c
theorem df{α β:Type}{o:Option α}{f:α→Option β}{b:β}(h:o.bind f=U b):IV α β o f b:=by cases o with|none=>exact nn h|some a=>exact(λ_ aj=>aj a rfl h)
noncomputable abbrev hU(l:List aQ)(g:Nat)(P:List V→Prop):Prop:=bF (l[g]?.bind lM) P
noncomputable abbrev wN(l:List aQ)(g:Nat)(P:List (Nat×V)→Prop):Prop:=bF (l[g]?.bind qQ) P
noncomputable abbrev Dd(l:List aQ)(g:Nat)(P:List (Int×V)→Prop):Prop:=bF (l[g]?.bind qP) P
noncomputable abbrev wO(l:List aQ)(g:Nat)(P:List ((Int×Int)×V)→Prop):Prop:=bF (l[g]?.bind zd) P
theorem nE{l:List aQ}{g:Nat}{P:List V→Prop}(h:hU l g P):∃ xs,l[g]?=U (.list xs)∧P xs:=by refine(cy h) _ λa e p=>?_;refine(df e) _ λo b c=>?_;exact(aM a (uV c▸b) p)
theorem De{l:List aQ}{g:Nat}{P:List (Nat×V)→Prop}(h:wN l g P):∃ xs,l[g]?=U (.cY xs)∧P xs:=by refine(cy h) _ λa e p=>?_;refine(df e) _ λo b c=>?_;exact(aM a (zc c▸b) p)
theorem QG{l:List aQ}{g:Nat}{P:List (Int×V)→Prop}(h:Dd l g P):∃ xs,l[g]?=U (.id xs)∧P xs:=by refine(cy h) _ λa e p=>?_;refine(df e) _ λo b c=>?_;exact(aM a (Ib c▸b) p)
theorem Df{l:List aQ}{g:Nat}{P:List ((Int×Int)×V)→Prop}(h:wO l g P):∃ xs,l[g]?=U (.fV xs)∧P xs:=by refine(cy h) _ λa e p=>?_;refine(df e) _ λo b c=>?_;exact(aM a (Ic c▸b) p)
section
variable(ai:cp)
noncomputable def strOf:V→Option Str|.lit n=>U (ai.ls n)|.str s=>U s|_=>ae
noncomputable def lZ{α:Type}(a:Option α)(l:Option (List α)):Option (List α):=match a with|some x=>l.map (x :: ·)|none=>ae
noncomputable def allInts:List V→Option (List Int)|[]=>U []|x :: r=>lZ (oH x) (allInts r)
noncomputable def fB(op:n3)(a b:Int)(Q:Int→Prop):Prop:=match op with|.Sub=>Q (a-b)|.FloorDiv=>b≠0∧hF a b=ah∧Q (dY a b)|.Mod=>b≠0∧Q (dm a b)|.BitAnd=>Q (Builtin.bitAnd a b)|.BitOr=>Q (Builtin.bitOr a b)|.BitXor=>Q (tk a b)|.LShift=>0≤b∧b≤1000000∧ko a<2^64∧Q (a*2^b.toNat)|.RShift=>0≤b∧Q (dY a (2^b.toNat))|.Pow=>0≤b∧((mC a:Nat):Int)*b≤2^27∧Q (a^b.toNat)|_=>False
noncomputable def y9(x y:V)(Q:V→Prop):Prop:=match x with|.int a=>cc y λb=>Q (.int (a+b))|.bytes a=>onBytes y λb=>a.size+b.size≤2^20∧Q (.bytes (a++b))|.list a=>hA y λb=>a.length+b.length≤2^20∧Q (.list (a++b))|.ao a=>gb y λb=>a.length+b.length≤2^20∧Q (.ao (a++b))|x=>bF (strOf ai x) λa=>bF (strOf ai y) λb=>a.length+b.length≤2^20∧Q (.str (a++b))
noncomputable def CV(x y:V)(Q:V→Prop):Prop:=match x with|.int a=>cc y λb=>gy a b∧Q (.int (a*b))|.list a=>cc y λn=>(allInts a).isSome=af∧-(2^20)≤n∧n≤2^20∧a.length*n.toNat≤2^20∧Q (.list ((h3 n.toNat a).flatten))|_=>False
noncomputable def c7(op:n3)(x y:V)(Q:V→Prop):Prop:=match op with|.Add=>y9 ai x y Q|.Mult=>CV x y Q|op=>cc x λa=>cc y λb=>fB op a b λr=>Q (.int r)
noncomputable def jW(a b:Option Bool):Option Bool:=match a with|some x=>b.map (x&&·)|none=>ae
mutual
noncomputable def gm:V→V→Option Bool|.none,y=>(u2 y).map λag=>af|.int a,y=>(oH y).map (a==·)|.bool a,y=>(uX y).map (a==·)|.lit a,y=>(strOf ai y).map (ai.ls a==·)|.str a,y=>(strOf ai y).map (a==·)|.bytes a,y=>(qV y).map (a.toList==·.toList)|.ao xs,y=>(q5 y).bind (gX xs ·)|.list xs,y=>(oI y).bind (gX xs ·)|_,_=>ae
noncomputable def gX:List V→List V→Option Bool
  | [],ys=>U ys.isEmpty
  | x :: xs,ys=>(match ys with
    | []=>U ah
    | y :: ys=>jW (gm x y) (gX xs ys))
end
mutual
noncomputable def dep:V→Nat|.ao xs=>fz xs+1|.list xs=>fz xs+1|_=>0
noncomputable def fz:List V→Nat|[]=>0|x :: xs=>max (dep x) (fz xs)
end
noncomputable def rM(x y:V)(Q:Bool→Prop):Prop:=bF (gm ai x y) λb=>dep x≤64∧Q b
noncomputable def uT:List V→Option (List (List Int))|[]=>U []|x :: r=>lZ ((q5 x).bind allInts) (uT r)
noncomputable def keyOf:List (Nat×V)→Nat→Option V|[],_=>ae|(k,v) :: r,n=>if k==n then U v else keyOf r n
noncomputable def f7:List (Int×V)→Int→Option V|[],_=>ae|(k,v) :: r,n=>if k==n then U v else f7 r n
noncomputable def gL:List ((Int×Int)×V)→Int×Int→Option V|[],_=>ae|(k,v) :: r,n=>if k==n then U v else gL r n
noncomputable def k1:List (Int×V)→Int→V→List (Int×V)|[],n,v=>[(n,v)]|(k,u) :: r,n,v=>if k==n then(k,v) :: r else(k,u) :: k1 r n v
noncomputable def putN:List (Nat×V)→Nat→V→List (Nat×V)|[],n,v=>[(n,v)]|(k,u) :: r,n,v=>if k==n then(k,v) :: r else(k,u) :: putN r n v
noncomputable def jB:List ((Int×Int)×V)→Int×Int→V→List ((Int×Int)×V)|[],n,v=>[(n,v)]|(k,u) :: r,n,v=>if k==n then(k,v) :: r else(k,u) :: jB r n v
theorem nr:f7 ((k,v) :: r) n=if k==n then U v else f7 r n:=rfl
theorem nt:gL ((k,v) :: r) n=if k==n then U v else gL r n:=rfl
theorem w2:k1 ((k,u) :: r) n v=if k==n then(k,v) :: r else(k,u) :: k1 r n v:=rfl
theorem w3:jB ((k,u) :: r) n v=if k==n then(k,v) :: r else(k,u) :: jB r n v:=rfl
noncomputable def Ca(x:V)(ys:List V)(Q:Bool→Prop):Prop:=match x with|.int i=>bF (allInts ys) λis=>Q (is.any (·==i))|.ao xs=>bF (allInts xs) λk=>bF (uT ys) λks=>Q (ks.any (·==k))|_=>False
noncomputable def Cb(x:V)(l:List aQ)(g:Nat)(Q:Bool→Prop):Prop:=match x with|.int i=>Dd l g λes=>Q (f7 es i).isSome|.ao xs=>k0 xs λp q=>cc p λa=>cc q λb=>wO l g λes=>Q (gL es (a,b)).isSome|_=>False
noncomputable def bZ(x y:V)(S:aA)(Q:Bool→Prop):Prop:=match y with|.dict es=>iR x λn=>Q (keyOf es n).isSome|.ao ys=>Ca x ys Q|.aB g=>Cb x S.aE g Q|_=>False
noncomputable def isNone:V→Bool|.none=>af|_=>ah
noncomputable def et:V→Bool|.cC _=>af|_=>ah
noncomputable def b3(x y:V)(S:aA)(Q:Bool→Prop):Prop:=match m2 x with
  | some g=>hU S.aE g λxs=>rM ai (.list xs) y Q
  | none=>(match m2 y with
    | some g=>hU S.aE g λys=>rM ai x (.list ys) Q
    | none=>rM ai x y Q)
noncomputable def fT(x y:V)(Q:Bool→Prop):Prop:=match x with|.int a=>cc y λb=>Q (decide (a<b))|.bytes a=>onBytes y λb=>Q (p4 "__lt__" (tj a.toList b.toList))|_=>False
noncomputable def kO(op:p5)(x y:V)(S:aA)(Q:Bool→Prop):Prop:=match op with|.Eq=>b3 ai x y S Q|.NotEq=>b3 ai x y S λb=>Q !b|.Lt=>fT x y Q|.Gt=>cc x λa=>cc y λb=>Q (decide (b<a))|.Is=>pt y (et x=ah∧Q (isNone x))|.IsNot=>pt y (et x=ah∧Q (!isNone x))|.In=>bZ x y S Q|.NotIn=>wM y λes=>iR x λn=>Q (!(keyOf es n).isSome)|_=>False
noncomputable def place(n:Nat)(i:Int):Nat:=if 0≤i then i.toNat else(n+i).toNat
noncomputable def placeOk(n:Nat)(i:Int):Prop:=-(n:Int)≤i∧i<n∧n<2^40
noncomputable def o6(xs:List V)(i:Int)(Q:V→Prop):Prop:=placeOk xs.length i∧bF xs[place xs.length i]? Q
noncomputable def Om(o:aQ)(i:Int)(Q:V→Prop):Prop:=match o with|.list xs=>o6 xs i Q|.id es=>bF (f7 es i) Q|_=>False
noncomputable def e0(l:List aQ)(g:Nat)(y:V)(Q:V→Prop):Prop:=match y with|.int i=>bF l[g]? λo=>Om o i Q|.lit n=>wN l g λes=>bF (keyOf es n) Q|_=>False
noncomputable def cr(x y:V)(S:aA)(Q:V→Prop):Prop:=match x with|.list xs=>cc y λi=>o6 xs i Q|.ao xs=>cc y λi=>o6 xs i Q|.bytes b=>cc y λi=>0≤i∧i<b.size∧b.size≤2^20∧Q (.int (b.toList.getD i.toNat 0).toNat)|.dict es=>iR y λn=>bF (keyOf es n) Q|.aB g=>e0 S.aE g y Q|_=>False
noncomputable def cut{α:Type}(xs:List α)(lo au:Option Int):List α:=(xs.drop (lo.elim 0 (clipAt xs.length))).take (au.elim xs.length (clipAt xs.length)-lo.elim 0 (clipAt xs.length))
noncomputable def wQ(x:Option V):Option (Option Int):=match x with|none=>U ae|some y=>(oH y).map U
noncomputable def TE(x:V)(l h:Option Int)(S:aA)(Q:V→Prop):Prop:=match x with|.list xs=>xs.length≤2^20∧Q (.list (cut xs l h))|.bytes b=>b.size≤2^20∧Q (.bytes (cut b.toList l h).toArray)|.lit n=>l=ae∧bF h λj=>(ai.ls n).length≤2^20∧Q (.str (tM (ai.ls n) ae (U j)))|.aB g=>hU S.aE g λxs=>xs.length≤2^20∧Q (.list (cut xs l h))|_=>False
noncomputable def gu(x:V)(lo au:Option V)(S:aA)(Q:V→Prop):Prop:=bF (wQ lo) λl=>bF (wQ au) λh=>TE ai x l h S Q
noncomputable def fieldOf:List Nat→List V→Nat→Option V|k :: ks,x :: xs,n=>if k==n then U x else fieldOf ks xs n|_,_,_=>ae
theorem BI:fieldOf (k :: ks) (x :: xs) n=if k==n then U x else fieldOf ks xs n:=rfl
noncomputable def nR:V→Option Nat|.none=>U 0|.bool _=>U 1|.int _=>U 2|.lit _=>U 3|.str _=>U 3|.bytes _=>U 4|.ao _=>U 5|.list _=>U 6|.dict _=>U 7|_=>ae
noncomputable def qR:aQ→Option Nat|.list _=>U 6|.cY _=>U 7|_=>ae
noncomputable def iL(t n:Nat):Bool:=match n with|0=>t==2 || t==1|1=>t==1|2=>t==6|3=>t==7|_=>t==4
noncomputable def pT(S:aA)(x:V):Option Nat:=match x with|.aB g=>S.aE[g]?.bind qR|x=>nR x
noncomputable def db(x:V)(t:V)(S:aA)(Q:Bool→Prop):Prop:=match t with
  | .a6 D=>ai.fC D=af∧(match jk x with
    | some p=>ai.fC p.1=af∧Q (ai.hu p.1 D)
    | none=>(pT S x).isSome=af∧Q ah)
  | .cC n=>n≤4∧(match jk x with
    | some p=>ai.fC p.1=af∧Q ah
    | none=>bF (pT S x) λk=>Q (iL k n))
  | _=>False
noncomputable def ow:List V→Option (List (Array UInt8))|[]=>U []|x :: r=>lZ (qV x) (ow r)
noncomputable def lenOf(S:aA):V→Option Nat|.list xs=>U xs.length|.ao xs=>U xs.length|.bytes b=>U b.size|.aB g=>(S.aE[g]?.bind lM).map (·.length)|_=>ae
noncomputable def mu(xs:List Int):List Int:=xs.mergeSort
noncomputable def ki(xs:List Nat):List Nat:=xs.mergeSort λa b=>decide ((ai.ls a).cps.toList≤(ai.ls b).cps.toList)
noncomputable def TN(o:aQ)(Q:V→Prop):Prop:=match o with|.cY es=>es.length<60∧Q (.list ((ki ai (es.map (·.1))).map .lit))|.id es=>es.length<60∧Q (.list ((mu (es.map (·.1))).map .int))|_=>False
noncomputable def pJ(x:V)(S:aA)(Q:V→Prop):Prop:=match x with|.dict es=>es.length<60∧Q (.list ((ki ai (es.map (·.1))).map .lit))|.aB g=>bF S.aE[g]? λo=>TN ai o Q|_=>False
noncomputable def jn(x:V)(Q:V→Prop):Prop:=match x with|.bytes b=>b.size≤2^20∧Q (.bytes b)|.list xs=>bF (allInts xs) λis=>(∀ i∈is,0≤i∧i<256)∧is.length≤2^20∧Q (.bytes (is.map λi=>n8 i.toNat).toArray)|_=>False
noncomputable def Au(n:Nat)(xs:List V)(S:aA)(Q:V→aA→Prop):Prop:=
  if n=11 then k0 xs λx t=>db ai x t S λb=>Q (.bool b) S
  else hy xs λx=>
    if n=15 then pJ ai x S λz=>Q z S
    else if n=12 then bF (lenOf S x) λk=>k≤2^20∧Q (.int k) S
    else if n=13 then cc x λi=>Q (.int i.natAbs) S
    else if n=4 then jn x λz=>Q z S
    else if n=0 then cc x λi=>Q (.int i) S
    else if n=6 then cc x λi=>i.natAbs<10^10∧Q (.str (ek (toString i))) S
    else if n=7 then hA x λxs=>xs.length≤2^20∧Q (.ao xs) S
    else if n=14 then pr x λg=>hU S.aE g λxs=>bF (allInts xs) λis=>is.length≤2^20∧Q (.int is.sum) S
    else False
noncomputable def dw(a b st:Int):List Int:=(kp (jF a b st).toNat).map λ(i:Nat)=>a+(i:Int)*st
noncomputable def ta:List V→List V→List V|x :: xs,y :: ys=>.ao [x,y] :: ta xs ys|_,_=>[]
noncomputable def oY:Int→List V→List V|_,[]=>[]|i,x :: xs=>.ao [.int i,x] :: oY (i+1) xs
noncomputable def h8:V→Option (List V)|.list xs=>U xs|.ao xs=>U xs|_=>ae
noncomputable def gN(kind:Nat)(xs:List V)(Q:List V→Prop):Prop:=match kind with|0=>hy xs λx=>bF (h8 x) λxs=>xs.length≤2^20∧Q xs|1=>hy xs λx=>cc x λn=>0≤n∧n≤2^20∧Q ((dw 0 n 1).map .int)|2=>Dc xs λx y z=>cc x λa=>cc y λb=>cc z λst=>0≤a∧a≤2^20∧0≤b∧b≤2^20∧0<st∧st≤2^20∧Q ((dw a b st).map .int)|3=>hy xs λx=>hA x λxs=>xs.length≤2^20∧Q (oY 0 xs)|4=>k0 xs λx y=>gb x λxs=>gb y λys=>xs.length≤2^20∧ys.length≤2^20∧Q (ta xs ys)|_=>hy xs λx=>hA x λxs=>xs.length≤2^20∧Q xs.reverse
structure dy where
  append:Nat
  extend:Nat
  pop:Nat
  get:Nat
  count:Nat
  join:Nat
variable(an:dy)
noncomputable def j6:aQ→Nat|.list _=>4|.id _=>5|.cY _=>6|_=>0
noncomputable def dM(S:aA):V→Nat|.a3 ..=>1|.dict _=>2|.bytes _=>3|.aB g=>S.aE[g]?.elim 0 j6|.str _=>7|.lit _=>7|_=>0
noncomputable def eG(k n:Nat):Option String:=
  if k=2∨k=5∨k=6 then(if n=an.get then U "dict.get" else ae)
  else if k=4 then(if n=an.append then U "list.append" else if n=an.pop then U "list.pop" else if n=an.extend then U "list.extend" else ae)
  else if k=3 then(if n=an.join then U "bytes.join" else ae)
  else if k=7 then(if n=an.count then U "str.count" else ae)
  else ae
noncomputable def hx(S:aA)(o:V)(n:Nat):Prop:=match jk o with|some p=>(ai.bE p.1 n).isSome=af|none=>(eG an (dM S o) n).isSome=af
noncomputable def CJ(g n:Nat)(ys:List V)(x:V)(S:aA)(Q:bU):Prop:=
  if n=an.append then ys.length<2^20∧Q .none (S.b8 (S.aE.set g (.list (ys++[x]))))
  else n=an.pop∧x=.int 0∧ys.length≤2^20∧∃ y r,ys=y :: r∧Q y (S.b8 (S.aE.set g (.list r)))
noncomputable def nv(g n:Nat)(o:aQ)(xs:List V)(S:aA)(Q:bU):Prop:=match o with|.list ys=>hy xs λx=>CJ an g n ys x S Q|.id es=>k0 xs λx d=>cc x λk=>Q ((f7 es k).getD d) S|.cY es=>hy xs λx=>iR x λk=>Q ((keyOf es k).getD .none) S|_=>False
noncomputable def Cp(ys:List V)(b:Array UInt8)(Q:Array UInt8→Prop):Prop:=bF (ow ys) λbs=>∃ b0 cB eh c1,bs=[b0,cB,eh,c1]∧b.size=0∧b0.size≤2^10∧cB.size≤2^10∧eh.size≤2^10∧c1.size≤2^10∧Q (b0++cB++eh++c1)
noncomputable def CT(o:V)(n:Nat)(xs:List V)(S:aA)(Q:bU):Prop:=match o with|.dict es=>hy xs λx=>iR x λk=>Q ((keyOf es k).getD .none) S|.aB g=>bF S.aE[g]? λo=>nv an g n o xs S Q|.bytes b=>hy xs λx=>hA x λys=>Cp ys b λz=>Q (.bytes z) S|x=>bF (strOf ai x) λz=>hy xs λk=>iR k λk=>Q (.int (n7 z (ai.ls k))) S
noncomputable def hS(o:V)(n:Nat)(xs:List V)(S:aA)(Q X:bU):Prop:=match jk o with|some p=>bF (ai.bE p.1 n) λa=>ai.call a (.a3 p.1 p.2 :: xs) S.aE (λx g=>Q x (S.b8 g)) (λx g=>X x (S.b8 g))|none=>CT ai an o n xs S Q
noncomputable def pz(i:Nat)(n:Nat)(ys:List V)(xs:List V)(S:aA)(Q:bU):Prop:=match xs with
  | []=>n=an.pop∧ys.length≤2^20∧bF ys.getLast? λy=>Q y (S.dV (S.aR.set i (.list ys.dropLast)))
  | x :: r=>r=[]∧if n=an.append then ys.length<2^20∧Q .none (S.dV (S.aR.set i (.list (ys++[x]))))
      else n=an.extend∧hA x λzs=>ys.length+zs.length≤2^20∧Q .none (S.dV (S.aR.set i (.list (ys++zs))))
noncomputable def BR(o:aQ)(k i:Nat)(S:aA)(Q:bU):Prop:=match o with
  | .list xs=>Q (.list xs) {S with aR:=S.aR.set i .dead,bB:=S.bB.set k (U (.val (.list xs)))}
  | .cY es=>Q (.dict es) {S with aR:=S.aR.set i .dead,bB:=S.bB.set k (U (.val (.dict es)))}
  | _=>False
noncomputable def UW(y:cA)(k:Nat)(S:aA)(Q:bU):Prop:=match y with|.val x=>Q x S|.cv i=>bF S.aR[i]? λo=>BR o k i S Q|_=>False
noncomputable def getVar(k:Nat)(S:aA)(Q:bU):Prop:=bF (S.bB[k]?.bind id) λy=>UW y k S Q
noncomputable def iF:List Nat→List V→List (Nat×V)|k :: ks,x :: xs=>(k,x) :: iF ks xs|_,_=>[]
noncomputable def dup:List Nat→Bool|[]=>ah|k :: r=>r.contains k || dup r
noncomputable def bindC(bO:Option Nat)(x:V)(S:aA)(Q:aA→Prop):Prop:=match bO with|none=>Q (S.dc ([U x]))|some n=>gb x λxs=>xs.length=n∧Q (S.dc (xs.map U))
noncomputable def dB(f:V→aA→(Option V→aA→Prop)→Prop):List V→aA→List V→(List V→aA→Prop)→Prop
  | [],S,acc,Q=>Q acc S
  | x :: r,S,acc,Q=>f x S λo S'=>match o with
    | some y=>dB f r S' (acc++[y]) Q
    | none=>dB f r S' acc Q
noncomputable def gW(Q:Bool→aA→Prop)(x:V)(S:aA):Prop:=nD x λb=>Q b S
noncomputable def zH(n:Nat)(Q:bU)(x:V)(S:aA):Prop:=iQ x λC fs=>bF (fieldOf (ai.lay C) fs n) λx=>Q x S
noncomputable def jq:List V→Option (List V)|[]=>U []|x :: r=>(oI x).bind λxs=>(jq r).map (xs++·)
noncomputable def BS(Q:bU)(x:V)(S:aA):Prop:=pr x λg=>hU S.aE g λxs=>Q (.list xs) (S.b8 (S.aE.set g .dead))
inductive x2 where|a6 (a:aq)|cC (n:Nat)
noncomputable def qY:V→Option x2|.a6 a=>U (.a6 a)|.cC n=>U (.cC n)|_=>ae
noncomputable def rt(f:x2)(xs:List V)(S:aA)(Q X:bU):Prop:=match f with|.a6 a=>ai.call a xs S.aE (λx g=>Q x (S.b8 g)) (λx g=>X x (S.b8 g))|.cC n=>Au ai n xs S Q
noncomputable def ownAt(S:aA)(k:Nat):Option (Nat×List V):=(S.bB[k]?.bind id).bind λy=>match y with|.cv i=>(S.aR[i]?.bind lM).map λys=>(i,ys)|_=>ae
noncomputable def hX(op:k9)(b:Bool):Bool:=match op with|.And=>!b|.Or=>b
mutual
noncomputable def cG(e:bh)(S:aA)(Q X:bU):Prop:=match e with|.var k=>getVar k S Q|.cvar k=>bF (S.aT[k]?.bind id) λx=>Q x S|.aO g=>bF (ai.ju g) λx=>Q x S|.d5=>Q .none S|.f6 b=>Q (.bool b) S|.b5 i=>Q (.int i) S|.bC n=>Q (.lit n) S|.gK b=>Q (.bytes b.toArray) S|.neg e=>cG e S (λx S=>cc x λi=>Q (.int (-i)) S) X|.not e=>cG e S (gW λb S=>Q (.bool !b) S) X|.a7 op a b=>cG a S (λx S=>cG b S (λy S=>c7 ai op x y λz=>Q z S) X) X|.bi op a b=>cG a S (λx S=>cG b S (λy S=>kO ai op x y S λz=>Q (.bool z) S) X) X|.eC op es=>nS op es S (λb S=>Q (.bool b) S) X|.bn t a b=>cG t S (gW λc S=>if c then cG a S Q X else cG b S Q X) X|.ao es=>eP es S (λxs S=>j2 (gh xs.length (2^20)) (Q (.ao xs) S)) X|.lst es=>eP es S (λxs S=>j2 (gh xs.length (2^20)) (Q (.list xs) S)) X|.eT ks es=>eP es S (λxs S=>dup ks=ah∧ks.length=xs.length∧ks.length≤15∧Q (.dict (iF ks xs)) S) X|.rX=>Q (.aB S.aE.length) (S.b8 (S.aE++[.cY []]))|.r1=>Q (.aB S.aE.length) (S.b8 (S.aE++[.fV []]))|.rY i e=>cG e S (λx S=>Q (.aB S.aE.length) (S.b8 (S.aE++[.id [(i,x)]]))) X|.l6 es=>eP es S (λxs S=>j2 (gh xs.length (2^20)) (Q (.aB S.aE.length) (S.b8 (S.aE++[.list xs])))) X|.call f as=>cG f S (λeE S=>bF (qY eE) λf=>eP as S (λxs S=>rt ai f xs S Q X) X) X|.bE o n as=>cG o S (λd j=>hx ai an j d n∧eP as j (λxs S=>dM S d=dM j d∧hS ai an d n xs S Q X) X) X|.k7 k n as=>bF (ownAt S k) λp=>(eG an 4 n).isSome=af∧eP as S (λxs S=>hU S.aR p.1 λys=>pz an p.1 n ys xs S Q) X|.pV k=>bF (ownAt S k) λp=>p.2.length≤2^20∧Q (.int p.2.length) S|.bS o n=>cG o S (zH ai n Q) X|.bq o i=>cG o S (λx S=>cG i S (λy S=>cr x y S λz=>Q z S) X) X|.hW o lo au=>cG o S (λx S=>nU lo S (λl S=>nU au S (λh S=>gu ai x l h S λz=>Q z S) X) X) X|.rev o=>cG o S (λx S=>onBytes x λb=>b.size≤2^20∧Q (.bytes b.toList.reverse.toArray) S) X|.comp elt bO kind dd cond=>eP dd S (λxs S=>gN kind xs λitems=>items.length≤2^20∧dB (λx S k=>bindC bO x S λS=>nT cond S (λb S=>if b then cG elt S (λy S=>k (U y) S) (λag ag=>False) else k ae S) (λag ag=>False)) items (S.dc ([])) [] λys S=>Q (.list ys) (S.dc ([]))) X|.flat dd=>cG dd S (λx S=>hA x λxs=>bF (jq xs) λys=>ys.length≤2^10∧Q (.list ys) S) X|.rU e=>cG e S (BS Q) X
noncomputable def eP(es:List bh)(S:aA)(Q:List V→aA→Prop)(X:bU):Prop:=match es with|[]=>Q [] S|e :: r=>cG e S (λx S=>eP r S (λxs S=>Q (x :: xs) S) X) X
noncomputable def nS(op:k9)(es:List bh)(S:aA)(Q:Bool→aA→Prop)(X:bU):Prop:=match es with|[]=>False|e :: r=>cG e S (gW λb S=>if r.isEmpty || hX op b then Q b S else nS op r S Q X) X
noncomputable def nU(e:Option bh)(S:aA)(Q:Option V→aA→Prop)(X:bU):Prop:=match e with|none=>Q ae S|some e=>cG e S (λx S=>Q (U x) S) X
noncomputable def nT(e:Option bh)(S:aA)(Q:Bool→aA→Prop)(X:bU):Prop:=match e with|none=>Q af S|some e=>cG e S (gW Q) X
end
end
end
section
set_option backward.match.sparseCases false
noncomputable abbrev fc:=lz→aA→Prop
noncomputable def fu:List Nat→List V→aA→aA|k :: ks,x :: xs,S=>fu ks xs (S.dW (S.bB.set k (U (.val x))))|_,_,S=>S
section
variable(ai:cp)(an:dy)
noncomputable def vi(bO:List Nat)(ao:Bool)(x:V)(S:aA)(Q:aA→Prop):Prop:=match ao with|false=>bF bO.head? λk=>Q (S.dW (S.bB.set k (U (.val x))))|true=>gb x λxs=>xs.length=bO.length∧Q (fu bO xs S)
noncomputable def ei(Q:fc)(k:aA→Prop)(a:lz)(S:aA):Prop:=match a with|.next=>k S|.ret v=>Q (.ret v) S
noncomputable def forL(bO:List Nat)(ao:Bool)(body:aA→fc→Prop):List V→aA→fc→Prop|[],S,Q=>Q .next S|x :: r,S,Q=>vi bO ao x S λS=>body S (ei Q λS=>forL bO ao body r S Q)
noncomputable def g9(test:aA→(Bool→aA→Prop)→Prop)(body:aA→fc→Prop):Nat→aA→fc→Prop|0,_,_=>False|n+1,S,Q=>test S λb S=>if b then body S (ei Q λS=>g9 test body n S Q) else Q .next S
noncomputable def Tp(o:aQ)(g:Nat)(i:Int)(y:V)(S:aA)(Q:aA→Prop):Prop:=match o with|.list xs=>0≤i∧i<xs.length∧xs.length≤2^20∧Q (S.b8 (S.aE.set g (.list (xs.set i.toNat y))))|.id es=>es.length≤2^20∧Q (S.b8 (S.aE.set g (.id (k1 es i y))))|_=>False
noncomputable def setG(g:Nat)(i y:V)(S:aA)(Q:aA→Prop):Prop:=match i with|.int i=>bF S.aE[g]? λo=>Tp o g i y S Q|.lit n=>wN S.aE g λes=>es.length≤2^20∧Q (S.b8 (S.aE.set g (.cY (putN es n y))))|.ao xs=>k0 xs λp q=>cc p λa=>cc q λb=>wO S.aE g λes=>es.length≤2^10∧gL es (a,b)=ae∧Q (S.b8 (S.aE.set g (.fV (jB es (a,b) y))))|_=>False
noncomputable def nL(o i y:V)(S:aA)(Q:aA→Prop):Prop:=pr o λg=>setG g i y S Q
noncomputable def r2(h:qA)(j:Nat)(x:V)(S:aA)(Q:fc):Prop:=match h with|.bH k=>Q .next (S.dW ((S.bB.set k (U (.val x))).set j ae))|.mr n=>iQ x λC fs=>bF (fieldOf (ai.lay C) fs n) λy=>Q (.ret y) (S.dW (S.bB.set j ae))
noncomputable def nx(mode:Nat)(ys:List V)(S:aA)(Q:cA→aA→Prop):Prop:=match mode with|0=>Q (.val (.list ys)) S|1=>Q (.cv S.aR.length) (S.dV (S.aR++[.list ys]))|_=>Q (.val (.aB S.aE.length)) (S.b8 (S.aE++[.list ys]))
noncomputable def nA(S:aA)(k:Nat):Option (aq×Nat×aq×List V):=(S.bB[k]?.bind id).bind λy=>match y with
  | .new a i=>S.aR[i]?.bind λo=>(match o with
    | .d4 C b fs=>if b=a then U (a,i,C,fs) else ae
    | _=>ae)
  | _=>ae
noncomputable def sx(S:aA)(k:Nat):Option (Nat×List (Nat×V)):=(S.bB[k]?.bind id).bind λy=>match y with|.cv i=>(S.aR[i]?.bind qQ).map λes=>(i,es)|_=>ae
noncomputable def o4(g:Nat):Option aq:=(ai.ju g).bind λv=>match v with|.a6 a=>U a|_=>ae
noncomputable def ET(Q:fc)(x:V)(S:aA):Prop:=Q (.ret x) S
mutual
noncomputable def wpS(st:be)(S:aA)(Q:fc)(X:bU):Prop:=match st with
  | .bH k e=>cG ai an e S (λx S=>Q .next (S.dW (S.bB.set k (U (.val x))))) X
  | .lP k mode elt bO kind dd cond=>eP ai an dd S (λxs S=>gN kind xs λitems=>items.length≤2^20∧dB (λx S k=>bindC bO x S λS=>nT ai an cond S (λb S=>if b then cG ai an elt S (λy S=>k (U y) S) (λag ag=>False) else k ae S) (λag ag=>False)) items (S.dc ([])) [] λys S=>nx mode ys (S.dc ([])) λY S=>Q .next (S.dW (S.bB.set k (U Y)))) X
  | .hr ks e=>cG ai an e S (λx S=>gb x λxs=>xs.length=ks.length∧Q .next (fu ks xs S)) X
  | .lQ ks es=>eP ai an es S (λxs S=>xs.length=ks.length∧Q .next (fu ks.reverse xs.reverse S)) X
  | .nH k es=>eP ai an es S (λxs S=>j2 (gh xs.length (2^20)) (Q .next {S with bB:=S.bB.set k (U (.cv S.aR.length)),aR:=S.aR++[.list xs]})) X
  | .pA k ks es=>eP ai an es S (λxs S=>dup ks=ah∧ks.length=xs.length∧ks.length≤15∧Q .next {S with bB:=S.bB.set k (U (.cv S.aR.length)),aR:=S.aR++[.cY (iF ks xs)]}) X
  | .fI k n e=>cG ai an e S (λx S=>bF (nA S k) λp=>(ai.lay p.2.2.1)[p.2.2.2.length]?=U n∧Q .next (S.dV (S.aR.set p.2.1 (.d4 p.2.2.1 p.1 (p.2.2.2++[x]))))) X
  | .kg o i e=>cG ai an e S (λy S=>cG ai an o S (λo S=>cG ai an i S (λi S=>nL o i y S λS=>Q .next S) X) X) X
  | .nM k n e=>cG ai an e S (λx S=>bF (sx S k) λp=>p.2.length≤2^10∧Q .next (S.dV (S.aR.set p.1 (.cY (putN p.2 n x))))) X
  | .ex e=>cG ai an e S (λag S=>Q .next S) X
  | .ret e=>cG ai an e S (ET Q) X
  | .ke=>Q (.ret .none) S
  | .bn t a b=>cG ai an t S (gW λc S=>if c then aZ a S Q X else aZ b S Q X) X
  | .kl t b=>∃ n,g9 (λS Q=>cG ai an t S (gW Q) (λag ag=>False)) (λS Q=>aZ b S Q (λag ag=>False)) n S Q
  | .gF bO ao kind dd b=>eP ai an dd S (λxs S=>gN kind xs λitems=>forL bO ao (λS Q=>aZ b S Q (λag ag=>False)) items S Q) X
  | .e2 g as=>bF (o4 ai g) λC=>eP ai an as S (λxs S=>bF (ai.exc C xs) λx=>X x S) X
  | .mx b=>aZ b S Q (λag ag=>False)
  | .nQ b g j h=>aZ b S Q (λx S=>bF (o4 ai g) λD=>iQ x λC fs=>ai.hu C D=af∧r2 ai h j (.a3 C fs) S Q)
noncomputable def aZ(b:List be)(S:aA)(Q:fc)(X:bU):Prop:=match b with|[]=>Q .next S|st :: r=>wpS st S (ei Q λS=>aZ r S Q X) X
end
end
end
section
set_option backward.match.sparseCases false
set_option tactic.hygienic true
section
variable{c:aU}{J:bo}{S:aA}{W:bP}{s:aP}{Q:bU}{bj:ay→aP→Prop}{ai:cp}
theorem bQ.here(b:av c J S W s)(a:Q x S)(r:aK c (ar J S W s.heap) W.ga v x)(t):bQ c J S W s Q v (e8 s t):=(λ_ aj=>aj x S W a (b.tok t) aV.tok r)
theorem bQ.same(b:av c J S W s)(a:Q x S)(r:aK c (ar J S W s.heap) W.ga v x):bQ c J S W s Q v s:=(λ_ aj=>aj x S W a b aV.refl r)
theorem bQ.push(f:av c J S W s)(o:Obj)(hf:o.isFreed=ah)(e:Q x S)(t:Nat)
    (r:(∀ b p,(ar J S W s.heap).get? b=U p→(ar J S W (s.heap.push o)).get? b=U p)→(ar J S W (s.heap.push o)).get? s.heap.objs.size=U o→aK c (ar J S W (s.heap.push o)) W.ga v x):
    bQ c J S W s Q v (bp s (s.heap.push o) t):=by
  exact cR (f.push o t hf) λa b d=>(λ_ aj=>aj x S W e a b (r b.ar d))
noncomputable def yT(c:aU)(Z:bz)(ga:List aq)(v:ay)(xs:List V):Prop:=∀ b:Prop,(∀ a vs,v=.ref a→Z.IsTuple a vs.toArray→ba c Z ga vs xs→b)→b
noncomputable def yE(c:aU)(Z:bz)(ga:List aq)(v:ay)(xs:List V):Prop:=∀ b:Prop,(∀ a vs,v=.ref a→Z.IsList a vs.toArray→ba c Z ga vs xs→b)→b
noncomputable def x5(c:aU)(Z:bz)(ga:List aq)(v:ay)(es:List (Nat×V)):Prop:=∀ b:Prop,(∀ a o kvs,v=.ref a→(a==sysModules)=ah→Z.get? a=U o→o.IsDictOf c.hQ kvs→dO c Z ga kvs es→b)→b
noncomputable def yd(c:aU)(Z:bz)(ga:List aq)(v:ay)(C:aq)(fs:List V):Prop:=∀ a:Prop,(∀ x cP ox ds n,v=.ref x→Z.get? x=U ox→ox.cls=.ref C→notCls ox=af→ox.dict=U cP→Z.get? cP=U (dictOf ds n)→eb c Z ga ds (c.lay C) fs→a)→a
noncomputable def Hr(c:aU)(Z:bz)(ga:List aq)(v:ay)(P:List V→Prop):Prop:=∀ b:Prop,(∀ a vs xs,v=.ref a→Z.IsTuple a vs.toArray→ba c Z ga vs xs→P xs→b)→b
noncomputable def Hq(c:aU)(Z:bz)(ga:List aq)(v:ay)(P:List V→Prop):Prop:=∀ b:Prop,(∀ a vs xs,v=.ref a→Z.IsList a vs.toArray→ba c Z ga vs xs→P xs→b)→b
noncomputable def yK(c:aU)(Z:bz)(ga:List aq)(v:ay):V→Prop|.none=>v=.none|.bool b=>v=.bool b|.int i=>∃ t,v=.int i t|.lit n=>∃ t,v=.str (c.ls n) t∧n<c.nl|.str z=>∃ t,v=.str z t|.bytes b=>∃ t,v=.bytes b t|.ao xs=>yT c Z ga v xs|.list xs=>yE c Z ga v xs|.dict es=>x5 c Z ga v es|.a3 C fs=>yd c Z ga v C fs|.aB g=>∃ a,v=.ref a∧ga[g]?=U a|.a6 a=>v=.ref a∧keepIn c.K (.ref a)=af|.cC n=>v=ec n∧n≤15
theorem aK.inv(r:aK c Z ga v x):yK c Z ga v x:=
  aK.casesOn (motive_1:=λv x ag=>yK c Z ga v x) r rfl (λag=>rfl) (λag t=>⟨t,rfl⟩) (λag t e h=>(aM t e h)) (λag t=>⟨t,rfl⟩) (λag t=>⟨t,rfl⟩) (λa b ag aj=>aj _ _ rfl a b) (λa b ag aj=>aj _ _ rfl a b)
    (λd h2 f g ag aj=>aj _ _ _ rfl d h2 f g) (λd h2 f g i j ag aj=>aj _ _ _ _ _ rfl d h2 f g i j) (λh=>(aM _ rfl h)) (λag h=>⟨rfl,h⟩) (λag e h=>⟨e,h⟩)
theorem aK.none_inv(r:aK c Z ga v .none):v=.none:=r.inv
theorem aK.bool_inv(r:aK c Z ga v (.bool b)):v=.bool b:=r.inv
theorem aK.int_inv(r:aK c Z ga v (.int i)):∃ t,v=.int i t:=r.inv
theorem aK.j7(r:aK c Z ga v (.lit n)):∃ t,v=.str (c.ls n) t∧n<c.nl:=r.inv
theorem aK.str_inv(r:aK c Z ga v (.str z)):∃ t,v=.str z t:=r.inv
theorem aK.gj(r:aK c Z ga v (.bytes b)):∃ t,v=.bytes b t:=r.inv
theorem aK.gv(r:aK c Z ga v (.ao xs)):yT c Z ga v xs:=r.inv
theorem aK.gs(r:aK c Z ga v (.list xs)):yE c Z ga v xs:=r.inv
theorem aK.l2(r:aK c Z ga v (.dict es)):x5 c Z ga v es:=r.inv
theorem aK.r6(r:aK c Z ga v (.a3 C fs)):yd c Z ga v C fs:=r.inv
theorem aK.BY(r:aK c Z ga v (.aB g)):∃ a,v=.ref a∧ga[g]?=U a:=r.inv
theorem aK.o1(r:aK c Z ga v (.a6 a)):v=.ref a∧keepIn c.K (.ref a)=af:=r.inv
theorem aK.oR(r:aK c Z ga v (.cC n)):v=ec n∧n≤15:=r.inv
theorem ba.one(h:ba c Z ga vs [x]):∃ v,vs=[v]∧aK c Z ga v x:=by refine h.cons_inv _ λv us e a b=>?_;exact(aM v (b.nil_inv▸e) a)
noncomputable def Hy(c:aU)(Z:bz)(ga:List aq)(vs:List ay)(x:V)(y:V):Prop:=∀ a:Prop,(∀ (v u),vs=[v,u]→aK c Z ga v x→aK c Z ga u y→a)→a
theorem ba.two(h:ba c Z ga vs [x,y]):Hy c Z ga vs x y:=by refine h.cons_inv _ λv us e a b=>?_;exact aI b.one λu d b=>(λ_ aj=>aj v u (d▸e) a b)
noncomputable def QL(v:ay)(P:Int→Prop):Prop:=∀ a:Prop,(∀ (i t),v=.int i t→P i→a)→a
theorem e1(r:aK c Z ga v x)(h:cc x P):QL v P:=by refine(cy h) _ λi e p=>?_;obtain r:=(iA e)▸r;exact aG r.int_inv λt e=>(λ_ aj=>aj i t e p)
theorem sv(r:aK c Z ga v x)(h:nD x P):∃ b,v=.bool b∧P b:=by refine(cy h) _ λi e p=>?_;obtain r:=(oB e)▸r;exact(aM i r.bool_inv p)
noncomputable def QK(v:ay)(P:Array UInt8→Prop):Prop:=∀ a:Prop,(∀ (b t),v=.bytes b t→P b→a)→a
theorem wP(r:aK c Z ga v x)(h:onBytes x P):QK v P:=by refine(cy h) _ λi e p=>?_;obtain r:=(oC e)▸r;exact aG r.gj λt e=>(λ_ aj=>aj i t e p)
noncomputable def QM(c:aU)(v:ay)(P:Nat→Prop):Prop:=∀ a:Prop,(∀ (n t),v=.str (c.ls n) t→n<c.nl→P n→a)→a
theorem pv(r:aK c Z ga v x)(h:iR x P):QM c v P:=by refine(cy h) _ λi e p=>?_;obtain r:=(Iu e)▸r;exact aI r.j7 λt e q=>(λ_ aj=>aj i t e q p)
theorem nF(r:aK c Z ga v x)(h:hA x P):Hq c Z ga v P:=by refine(cy h) _ λi e p=>?_;obtain r:=(oJ e)▸r;refine r.gs _ λa vs e b h2=>?_;exact(λ_ aj=>aj a vs i e b h2 p)
theorem pw(r:aK c Z ga v x)(h:gb x P):Hr c Z ga v P:=by refine(cy h) _ λi e p=>?_;obtain r:=(oM e)▸r;refine r.gv _ λa vs e b h2=>?_;exact(λ_ aj=>aj a vs i e b h2 p)
theorem Uc(h:strOf ai x=U z):(∃ n,x=.lit n∧ai.ls n=z)∨x=.str z:=by cases x <;>first | exact .inl (aM _ rfl (aX h)) | exact .inr (congrArg V.str (aX h)) | exact nn h
theorem kd(b:ai.ls=c.ls)(r:aK c Z ga v x)(h:strOf ai x=U z):∃ t,v=.str z t:=by
  rcases Uc h with⟨n,rfl,e⟩ | rfl
  · exact aI r.j7 λt a _=>⟨t,by refine ac a ?_;refine bG e ?_;exact ac b rfl⟩
  · exact r.str_inv
noncomputable def QN(v:ay)(P:Str→Prop):Prop:=∀ a:Prop,(∀ (z t),v=.str z t→P z→a)→a
theorem Dh(a:ai.ls=c.ls)(r:aK c Z ga v x)(h:bF (strOf ai x) P):QN v P:=by refine(cy h) _ λz e p=>?_;exact aG (kd a r e) λt e=>(λ_ aj=>aj z t e p)
theorem sQ(h:a+b≤2^20):a+b≤sizeLine:=dt h (by decide)
theorem hV(h:a≤2^20):a≤sizeLine:=dt h (by decide)
theorem rT(a:av c J S W s):Fr c.ak J.a8.locals s.heap W.m:=⟨a.ns,a.keep,a.above⟩
theorem ct:∀ b o,(ar J S W h).get? b=U o→h.get? b=U o:=λag ag e=>(ik e).1
noncomputable def jU(ak:bz)(L:aq)(h:bz):List (aq×Obj):=(kp h.objs.size).filterMap λa=>if a=L then ae else if(ak.get? a).isSome then ae else(h.get? a).map λo=>(a,o)
theorem wu:(a,o)∈jU ak L h↔a≠L∧ak.get? a=ae∧h.get? a=U o:=by
  unfold jU;rw [List.mem_filterMap];constructor
  · rintro⟨b,_,e⟩;by_cases d:b=L
    · rw [if_pos d] at e;exact nn e
    · rw [if_neg d] at e;cases q:ak.get? b with
      | some _=>rw [q] at e;exact nn e
      | none=>
        rw [q] at e;refine aI (qi.mp e) λo' g i=>?_;clear e;cases i;exact(bk d q g)
  · rintro⟨j,h2,f⟩;refine(aM a (xJ.mpr (eX f)) ?_);exact ac (if_neg j) (ac h2 (ac f rfl))
theorem sp:News ak L h (jU ak L h):=λp bt=>by exact cR (wu.mp (show(p.1,p.2)∈_ from bt)) λa h2 b=>(bk b a h2)
theorem O2(k:∀ b o,ak.get? b=U o→h.get? b=U o)(F:Fr ak L h' m)(N:News ak L h' (ex++jU ak L h)):∀ b o,b≠L→h.get? b=U o→h'.get? b=U o:=λb o a e=>by
  cases q:ak.get? b with
  | some o'=>
    have:=k b o' q;rw [e] at this;obtain rfl:=aX this;exact F.keep b o q
  | none=>exact(N (b,o) (ch _ (wu.mpr (bk a q e)))).1
theorem av.news(d:av c J S W s)(F:Fr c.ak J.a8.locals h' W.m)(N:News c.ak J.a8.locals h' (ex++jU c.ak J.a8.locals s.heap))(t:Nat):
    av c J S W (bp s h' t)∧aV J S W s S W (bp s h' t):=by
  have k:=O2 d.keep F N;have bX:∀ b o,b∉[J.a8.locals]→s.heap.get? b=U o→h'.get? b=U o:=λb o m=>k b o λq=>m (dx.mpr q);have i:J.a8.locals∉J.dN:=(e5.mp (dH.mp d.kX).1).1;have f:∀ {b},b∈[J.a8.locals]→b∈J.a8.locals :: J.dN:=λm=>dx.mp m▸.head _;refine aI (ns_obj F.ns) λo' g j=>?_;have h:∀ b∈[J.a8.locals],∃ o,h'.get? b=U o:=λb m=>dx.mp m▸⟨o',g⟩;refine aC (d.s8 t bX (λb m=>wx (f m)) (λb m q=>d.CZ (f q) m) (λb m q=>d.iN (f q) (Cc m)) (λa m=>m) d.nodup (λa m=>xm d bX m (h a)) F.ns (vP (λb o e l=>by
    by_cases q:b=J.a8.locals
    · exact(aM o' (q▸g) j)
    · exact(aM o (k b o q e) l)) d.frames)) λa z=>?_
  exact⟨a,z,.refl _,.refl _,λb m o e=>⟨o.slots,k b o (λq=>i (q▸m)) e⟩,λb m=>⟨m,λo e=>k b o (λq=>d.iN (.head _) (ht (q▸m))) e⟩,λb e=>wF bX h b e⟩
theorem bQ.news(d:av c J S W s)(F:Fr c.ak J.a8.locals h' W.m)(N:News c.ak J.a8.locals h' ((s.heap.objs.size,o) :: jU c.ak J.a8.locals s.heap))(e:Q x S)(t:Nat)
    (r:(∀ b p,(ar J S W s.heap).get? b=U p→(ar J S W h').get? b=U p)→(ar J S W h').get? s.heap.objs.size=U o→aK c (ar J S W h') W.ga v x):bQ c J S W s Q v (bp s h' t):=by
  exact aC (d.news (ex:=[(s.heap.objs.size,o)]) F N t) λa b=>(λ_ aj=>aj x S W e a b (r b.ar (fg (N _ (.head _)).1 (nd d))))
end
end
section
variable{c:aU}{J:bo}{S S':aA}{W W':bP}{s s':aP}
theorem PP{α β:Type}:∀ {l:List (α×β)} {a d:α} {b:β},(l.map (·.2)).Nodup→(a,b)∈l→(d,b)∈l→a=d:=by
  intro l
  induction l with
  | nil=>
    intro _ _ _ _ h _;exact absurd h c4
  | cons x0 r e=>
    obtain⟨x,y⟩:=x0;intro a d b bT h h';obtain n:=e5.mp bT;refine aS (b9.mp h) (λq=>?_) λq=>?_ <;>refine aS (b9.mp h') (λdU=>?_) λdU=>?_
    · cases q;cases dU;rfl
    · cases q;exact absurd (fw.mpr (aM _ dU rfl)) n.1
    · cases dU;exact absurd (fw.mpr (aM _ q rfl)) n.1
    · exact e n.2 q dU
theorem lookup_mem{α:Type}:∀ {l:List (Str×α)} {x:Str} {b:α},l.lookup x=U b→(x,b)∈l:=by
  intro l
  induction l with
  | nil=>
    intro _ _ h;simp at h
  | cons x0 r a=>
    obtain⟨y,d⟩:=x0;intro x b h;rw [mI] at h;cases q:x==y with
    | true=>rw [q] at h;obtain rfl:=aX h;exact ac (beq_iff_eq.mp q) (.head _)
    | false=>rw [q] at h;exact .tail _ (a h)
theorem av.T8(f:av c J S W s)(p:J.nm.Nodup)(C:J.nm[k]?=U x)(n:J.a8.kindOf x=U .cell)(D:J.a8.cells.lookup x=U cl)(w:h'.IsCell cl (U v))(M:kn cl s.heap h')
    (G:fX c (ar J S W s.heap) W.ga W.la v X) (t):
    av c J (S.dW (S.bB.set k (U X))) W (bp s h' t)∧aV J S W s (S.dW (S.bB.set k (U X))) W (bp s h' t):=by
  have h:∀ b o,b≠cl→s.heap.get? b=U o→h'.get? b=U o:=λb o q e=>(M.2 b q).trans e;have l:=lookup_mem D;have cX:∀ {b},b∈J.a8.locals :: J.dN→b≠cl:=λm q=>f.cX (q▸m) (d9 _ (l8 l));have cg:∀ {b},b∈J.dR++dv S W→b≠cl:=λm q=>f.cg (l8 l) (q▸m);have H:∃ o,h'.get? cl=U o∧∀ vs,o.data≠.fields vs:=by refine aI w λo e d=>?_;exact(aM o e λvs q=>nomatch d.symm.trans q)
  refine aI H λo' B F=>?_;refine turned (a:=cl) (λm=>cg (iK (ht m)) rfl) (f.write (t:=t) (S':=S.dW (S.bB.set k (U X))) (m':=W.m) (hM:=W.cm) rfl (PV l) h ⟨o',B⟩ f.ee f.dT (vP (λb o e p=>by
      by_cases q:b=cl
      · exact(aM o' (q▸B) F)
      · exact(aM o (h b o q e) p)) f.frames) (λm=>cX (.tail _ m) rfl) (fH (λo=>h _ o (cX (.head _))) f.ns) (λe=>fH (λo=>h _ o (cg (d9 _ (rr e)))) (f.jo e)) (λx m=>⟨_,w⟩) λz=>
    (c5 (λi y Y a b=>?_) (λi y Y a b=>by refine aI (f.kP i y Y a b) λu g h2=>?_;exact(aM u g (h2.mono z (.refl _)))) (λi a o g h2=>(f.locs i a o g h2).keep z h λhd=>cg (iK (r4 g h2 hd))) λi a o g h2=>(f.eZ i a o g h2).keep z h λhd=>cg (iK (o7 g h2 hd))))
  refine aS (pI b) (λj=>aC j λq r=>?_) λj=>aC j λq r=>?_
  · obtain e:=aX (C.symm.trans (q▸a));exact(aM v (.inr (cJ cl (e▸n) (e▸D) w)) (aX r▸G.mono z (.refl _) (.refl _)))
  · refine aI (f.bB i y Y a r) λu g h2=>(aM u ?_ (h2.mono z (.refl _) (.refl _)));refine aS g (λg=>?_) λj=>c0 j λA I E L=>?_
    · exact .inl g
    · exact .inr (cJ A I E (ng (λo=>h _ o λe=>wC p C a q (PP (dH.mp (dH.mp f.kX).2.1).1 (lookup_mem E) (e▸l))) L))
theorem sU(G:J.Ok)(d:av c J S W s)(au:J.bZ=ah)(g:J.nm[k]?=U x)(ak:(J.a8.kindOf x=U .local∨(J.a8.kindOf x=U .cell∧(J.a8.cells.lookup x).isSome=af)))
    (i:fX c (ar J S W s.heap) W.ga W.la v X)
    (h:∀ W' s',av c J (S.dW (S.bB.set k (U X))) W' s'→aV J S W s (S.dW (S.bB.set k (U X))) W' s'→Q () s'):aD c.M A (storeName J.env x v) Q E s:=by
  refine ac (G.a6 au) (aS ak (λak=>?_) λn=>aC n λak a4=>?_)
  · refine qr ak d.ns (λh' m f=>?_) (by refine ac G.kind ?_;rfl);exact aC (d.store G.nodup g ak m f i (s.toks+1)) λa b=>h _ _ a b
  · exact aG (kr.mp a4) λcl e=>aG (d.cells x cl (lookup_mem e)) λgw l=>wpAny_storeName_cell G.kind ak e l λh' j f=>aC (d.T8 G.nodup g ak e j f i s.toks) λa b=>h _ _ a b
theorem vb(G:J.Ok)(g:av c J S W s)(a:iw J.a8 W.m s.heap x v)
    (a4:J.bZ=af→J.env.kindOf x=U .cell∧J.env.cells.lookup x=J.a8.cells.lookup x∧J.a8.kindOf x=U .cell) (h:Q v s):aD c.M A (loadName J.env x) Q E s:=by
  cases au:J.bZ with
  | false=>
    refine ac (G.a6 au) (aS a (λd=>aC d λa b=>?_) λd=>c0 d λcl f h2 e=>?_)
    · exact qo G.kind a g.ns b h
    · exact WY G.kind f h2 e h
  | true=>
    refine cR (a4 au) λi j k=>aS a (λd=>aC d λa b=>?_) λd=>c0 d λcl f h2 e=>?_
    · obtain a:=k▸a;cases a
    · exact WY G.jp i (j.trans h2) e h
end
section
variable{c:aU}{J:bo}{S:aA}{W:bP}{s:aP}{Q:bU}{bj:ay→aP→Prop}{ai:cp}
theorem RT(b:av c J S W s)(r:ba c (ar J S W s.heap) W.ga vs xs)(a:Q (.ao xs) S)(t):
    bQ c J S W s Q (.ref s.heap.objs.size) {s with heap:=s.heap.push {cls:=.type "tuple",data:=.seq vs.toArray},toks:=t}:=
  bQ.push b _ rfl a t λk e=>.ao (cJ _ e rfl ⟨0,rfl⟩) (r.mono k (.refl _))
theorem ba.CI(a:ba c Z ga vs xs)(b:ba c Z ga ws ys)(h:xs.length+ys.length≤2^20):vs.length+ws.length≤sizeLine:=by exact ac a.length (ac b.length (sQ h))
theorem H5(d:av c J S W s){a b:aq}{vs ws:List ay}{xs ys:List V}(h:(ar J S W s.heap).IsList a vs.toArray)(ak:(ar J S W s.heap).IsList b ws.toArray)
    (f:ba c (ar J S W s.heap) W.ga vs xs) (g:ba c (ar J S W s.heap) W.ga ws ys) (j:xs.length+ys.length≤2^20) (i:Q (.list (xs++ys)) S):
    aD c.M J.A (binaryOp .Add (.ref a) (.ref b)) (bQ c J S W s Q) bj s:=
  add_lists (hsz:=f.CI g j) (rT d) sp (fR ct h) (fR ct ak) λh' F N=>.news d F N i _ λk e=>.list (cJ _ e rfl ⟨0,rfl⟩) ((f.append g).mono k (.refl _))
theorem H6(f:av c J S W s){a b:aq}{vs ws:List ay}{xs ys:List V}(i:(ar J S W s.heap).IsTuple a vs.toArray)(ak:(ar J S W s.heap).IsTuple b ws.toArray)
    (g:ba c (ar J S W s.heap) W.ga vs xs) (h:ba c (ar J S W s.heap) W.ga ws ys) (j:xs.length+ys.length≤2^20) (d:Q (.ao (xs++ys)) S):
    aD c.M J.A (binaryOp .Add (.ref a) (.ref b)) (bQ c J S W s Q) bj s:=by
  refine add_tuples (hsz:=g.CI h j) (rT f) sp (f3 ct i) (f3 ct ak) (λe=>?_) (λag e=>?_) λag ag h' F N=>.news f F N d _ λk e=>.ao (cJ _ e rfl ⟨0,rfl⟩) ((g.append h).mono k (.refl _))
  · subst e;cases xs with|nil=>exact .same f d (.ao ak h)|cons _ _=>refine g.cons_inv _ ?_;intro _ _ e _;exact nomatch e
  · subst e;clear ak j;cases ys with|nil=>rw [fL] at d;exact .same f d (.ao i g)|cons _ _=>refine h.cons_inv _ ?_;intro _ _ e _;exact nomatch e
noncomputable def Kh(α:Type)(a:Option α)(l:Option (List α))(r:List α):Prop:=∀ b:Prop,(∀ (x xs),a=U x→l=U xs→r=x :: xs→b)→b
theorem iE{α:Type}{a:Option α}{l:Option (List α)}{r:List α}(h:lZ a l=U r):Kh α a l r:=by
  cases a with
  | none=>exact nn h
  | some x=>cases l with
    | none=>exact nn h
    | some xs=>exact(λ_ aj=>aj x xs rfl rfl ((aX h).symm))
theorem intsAre_of{Z:bz}{ga:List aq}:∀ {xs:List V} {vs:List ay} {is:List Int},ba c Z ga vs xs→allInts xs=U is→tr vs is:=by
  intro xs
  induction xs with
  | nil=>
    intro _ _ r h;cases r.nil_inv;obtain rfl:=aX h;exact .nil
  | cons x xs k=>
    intro _ _ r h;refine r.cons_inv _ λv us d a b=>?_;obtain rfl:=d;refine(iE h) _ λi l e j f=>?_;obtain rfl:=f;rw [iA e] at a;refine aG a.int_inv λt g=>?_;clear a h r;obtain rfl:=g;exact .cons _ _ (k b j)
theorem ba.flat(a:ba c Z ga vs xs):∀ n,ba c Z ga (h3 n vs).flatten (h3 n xs).flatten|0=>.nil|n+1=>by simpa [Wc] using a.append (a.flat n)
theorem Qe(b:av c J S W s)(g:(ar J S W s.heap).IsList a vs.toArray)
    (d:ba c (ar J S W s.heap) W.ga vs xs) (au:(allInts xs).isSome=af) (l:-(2^20)≤n) (m:n≤2^20) (t:xs.length*n.toNat≤2^20) (i:Q (.list ((h3 n.toNat xs).flatten)) S):
    aD c.M J.A (binaryOp .Mult (.ref a) (.int n u)) (bQ c J S W s Q) bj s:=by
  refine aG (kr.mp au) λis au=>?_;obtain f:=intsAre_of d au;refine mul_list_is (rT b) (news:=jU c.ak J.a8.locals s.heap) sp (fR ct g) (lm_carried_ints f) (by lia) (VC ‹_› (by decide)) (by refine ac d.length ?_;exact leB ‹_› rfl) λh' F N j e k=>?_;exact aC (b.news (ex:=[]) F N s.toks) λp q=>aI e λo h r=>(λ_ aj=>aj _ S W i p q (.list (aM o (fg h (nd b)) r) ((d.flat _).mono q.ar (.refl _))))
theorem OD(d:av c J S W s)(h:fB op a b λr=>Q (.int r) S):aD c.M J.A (binaryOp op (.int a t) (.int b u)) (bQ c J S W s Q) bj s:=by cases op with|Sub=>exact sub_int (.here d h (.int _ _) _)|FloorDiv=>exact floordiv_int h.1 (.here d h.2.2 (.int _ _) _) (.inl h.2.1)|Mod=>exact mod_int' h.1 (.here d h.2 (.int _ _) _)|BitAnd=>exact and_int (.here d h (.int _ _) _)|BitOr=>exact or_int (.here d h (.int _ _) _)|BitXor=>exact xor_int (.here d h (.int _ _) _)|LShift=>exact lshift_int_small h.1 h.2.1 h.2.2.1 (.here d h.2.2.2 (.int _ _) _)|RShift=>exact rshift_int h.1 (.here d h.2 (.int _ _) _)|Pow=>exact pow_int h.1 h.2.1 (.here d h.2.2 (.int _ _) _)|_=>exact h.elim
theorem H4(d:ai.ls=c.ls)(j:av c J S W s)(g:aK c (ar J S W s.heap) W.ga a x)(i:aK c (ar J S W s.heap) W.ga b y)
    (h:bF (strOf ai x) λa=>bF (strOf ai y) λb=>a.length+b.length≤2^20∧Q (.str (a++b)) S):aD c.M J.A (binaryOp .Add a b) (bQ c J S W s Q) bj s:=by
  refine(Dh d g h) _ λp t e h=>?_;obtain rfl:=e;refine(Dh d i h) _ λq u f h=>?_;clear i g;obtain rfl:=f;exact add_str (λk cj=>.here j h.2 (.str _ _) _) (sQ h.1)
theorem H1(w:ai.ls=c.ls)(g:av c J S W s)(d:aK c (ar J S W s.heap) W.ga a x)(e:aK c (ar J S W s.heap) W.ga b y)
    (h:y9 ai x y λz=>Q z S):aD c.M J.A (binaryOp .Add a b) (bQ c J S W s Q) bj s:=by
  cases x with
  | int i=>
    refine aG d.int_inv λt l=>?_;obtain rfl:=l;refine(e1 e h) _ λj u v h=>?_;clear e d;obtain rfl:=v;exact add_int (.here g h (.int _ _) _)
  | bytes i=>
    refine aG d.gj λt l=>?_;obtain rfl:=l;refine(wP e h) _ λj u r h=>?_;clear e d;obtain rfl:=r;exact KBy.add_bytes (sQ h.1) λB k=>.here g h.2 (.bytes _ _) _
  | list xs=>
    obtain f:=d.gs;clear d;refine f _ λa vs q m d=>?_;obtain rfl:=q;obtain f:=nF e h;clear e h;refine f _ λb us ys o ak e h=>?_;clear f;obtain rfl:=o;exact H5 g m ak d e h.1 h.2
  | ao xs=>
    obtain f:=d.gv;clear d;refine f _ λa vs p m d=>?_;obtain rfl:=p;obtain f:=pw e h;clear e h;refine f _ λb us ys n ak e h=>?_;clear f;obtain rfl:=n;exact H6 g m ak d e h.1 h.2
  | _=>exact H4 w g d e h
theorem Qc{a b:ay}{x y:V}(f:av c J S W s)(d:aK c (ar J S W s.heap) W.ga a x)(e:aK c (ar J S W s.heap) W.ga b y)
    (h:CV x y λz=>Q z S):aD c.M J.A (binaryOp .Mult a b) (bQ c J S W s Q) bj s:=by
  cases x with
  | int i=>
    refine aG d.int_inv λt m=>?_;obtain rfl:=m;refine(e1 e h) _ λj u l h=>?_;clear e d;obtain rfl:=l;exact mul_int (.here f h.2 (.int _ _) _) h.1
  | list xs=>
    obtain o:=d.gs;clear d;refine o _ λa vs g n d=>?_;obtain rfl:=g;refine(e1 e h) _ λj u k h=>?_;clear e;obtain rfl:=k;exact Qe f n d h.1 h.2.1 h.2.2.1 h.2.2.2.1 h.2.2.2.2
  | _=>exact fl h
theorem IR(k:av c J S W s)(f:aK c (ar J S W s.heap) W.ga a x)(g:aK c (ar J S W s.heap) W.ga b y)
    (h:cc x λa=>cc y λb=>fB op a b λr=>Q (.int r) S):aD c.M J.A (binaryOp op a b) (bQ c J S W s Q) bj s:=by
  refine(e1 f h) _ λi t d h=>?_;obtain rfl:=d;refine(e1 g h) _ λj u e h=>?_;clear g f;obtain rfl:=e;exact OD k h
theorem IQ(g:ai.ls=c.ls)(d:av c J S W s)(e:aK c (ar J S W s.heap) W.ga a x)(f:aK c (ar J S W s.heap) W.ga b y)
    (h:c7 ai op x y λz=>Q z S):aD c.M J.A (binaryOp op a b) (bQ c J S W s Q) bj s:=by
  cases op with|Add=>exact H1 g d e f h|Mult=>exact Qc d e f h|_=>exact IR d e f h
end
section
variable{c:aU}{ai:cp}{Z:bz}{ga:List aq}
theorem TJ:Slot "bytes" (cmpInfo .Lt).2.1 "bytes.__lt__":=Slot.of (owner:="bytes") (n:="__lt__") (by rewrite [GZ];refine ac GO ?_;kernel_rfl) (by decide +kernel) (by decide +kernel) (by decide +kernel) (.inl (by decide +kernel)) (by rw [isSubtype_type];kernel_rfl)
theorem LR:entryFor table "bytes.__lt__"= U eQ.«bytes.__lt__»:=WK (by kernel_rfl)
theorem Ij(a b:ay):argsOk "bytes.__lt__" ⟨[a,b],[]⟩:=by unfold argsOk;kernel_rfl
theorem N4(b d:Array UInt8)(t u:Tok):Gives (eQ.«bytes.__lt__» ⟨[.bytes b t,.bytes d u],[]⟩) (.val (.bool (p4 "__lt__" (tj b.toList d.toList)))):=by refine .of_wp λM A E s Q a=>?_;show aD M A (isInstance (.bytes d u) (.type "bytes") >>= λr=>_) _ E s;refine ax (WV (i5 s d u) F.sub_bytes_bytes ?_);exact bg (aM _ rfl a)
noncomputable def PO(α:Type)(β:Type)(o:Option α)(f:α→β)(b:β):Prop:=∀ d:Prop,(∀ (a),o=U a→f a=b→d)→d
theorem eV{α β:Type}{o:Option α}{f:α→β}{b:β}(h:o.map f=U b):PO α β o f b:=by refine aI (qi.mp h) λa e q=>?_;exact(λ_ aj=>aj a e q)
noncomputable def H9(a:Option Bool)(b:Option Bool)(r:Bool):Prop:=∀ d:Prop,(∀ (p q),a=U p→b=U q→r=(p&&q)→d)→d
theorem qO{a b:Option Bool}{r:Bool}(h:jW a b=U r):H9 a b r:=by cases a with|none=>exact nn h|some p=>refine(eV h) _ ?_;intro q e h;exact(λ_ aj=>aj p q rfl e h.symm)
noncomputable def yN(c:aU)(ai:cp)(Z:bz)(ga:List aq)(x:V):Prop:=∀ {y:V} {v:ay} {b:Bool},aK c Z ga v x→aK c Z ga v y→gm ai x y=U b→b=af
noncomputable def yM(c:aU)(ai:cp)(Z:bz)(ga:List aq)(xs:List V):Prop:=∀ {ys:List V} {vs:List ay} {b:Bool},ba c Z ga vs xs→ba c Z ga vs ys→gX ai xs ys=U b→b=af
theorem same_str(f:ai.ls=c.ls){y:V}{v:ay}{b:Bool}(g:∃ t,v=.str z t)(i:aK c Z ga v y)(h:(strOf ai y).map (z==·)=U b):b=af:=by
  refine(eV h) _ λk e h=>?_;refine aG g λt d=>aG (kd f i e) λj a=>?_;obtain a:=d▸a;injection a with a _
  exact bG h (ac a (beq_self_eq_true _))
theorem E9(f:yM c ai Z ga xs)(e:∃ o,Z.get? l=U o∧o.cls=.type T∧∃ n,o.data=.seq vs n)(ak:∃ o,Z.get? l=U o∧o.cls=.type T∧∃ n,o.data=.seq us n)(g:ba c Z ga vs.toList xs)(i:ba c Z ga us.toList ys)(h:gX ai xs ys=U b):b=af:=by
  refine c0 e λo a _ xr=>aG xr λn d=>c0 ak λo' bX _ xr=>aG xr λj eu=>?_;obtain bX:=a▸bX;obtain eu:=(aX bX).symm▸eu;obtain eu:=d▸eu;injection eu with eu _
  exact f g (eu▸i) h
theorem E8(o:ai.ls=c.ls)(x:V):yN c ai Z ga x:=by
  refine V.rec (motive_1:=λx=>yN c ai Z ga x) (motive_2:=λxs=>yM c ai Z ga xs) (motive_3:=λag=>True) (motive_4:=λag=>True) ?_ ?_ ?_ ?_ ?_ ?_ ?_ ?_ ?_ ?_ ?_ ?_ ?_ ?_ ?_ ?_ ?_ ?_ x
  · intro y v b _ _ h;refine(eV h) _ λ_ _ h=>?_;exact h.symm
  · intro i y v b d a h;refine(eV h) _ λj e h=>?_;rw [oB e] at a;obtain q:=d.bool_inv.symm.trans a.bool_inv;injection q with q
    exact bG h (ac q (beq_self_eq_true _))
  · intro i y v b d a h;refine(eV h) _ λj e h=>?_;rw [iA e] at a;refine aG d.int_inv λt g=>aG a.int_inv λH f=>?_;rw [g] at f;injection f with q _
    exact bG h (ac q (beq_self_eq_true _))
  · intro n y v b d a h;exact aI d.j7 λt e _=>same_str o ⟨t,o▸e⟩ a h
  · intro z y v b d a h;exact same_str o d.str_inv a h
  · intro i y v b d a h;refine(eV h) _ λj e h=>?_;rw [oC e] at a;refine aG d.gj λt g=>aG a.gj λH f=>?_;rw [g] at f;injection f with q _
    exact bG h (ac q (beq_self_eq_true _))
  · intro xs k y v b d a h;refine(df h) _ λys e h=>?_;rw [oM e] at a;refine d.gv _ λl vs g m s=>?_;refine a.gv _ λE us f h2 u=>?_;rw [g] at f;injection f with f
    clear a d;subst f;exact E9 k m h2 s u h
  · intro xs k y v b d a h;refine(df h) _ λys e h=>?_;rw [oJ e] at a;refine d.gs _ λl vs g m s=>?_;refine a.gs _ λE us f h2 u=>?_;rw [g] at f;injection f with f
    clear a d;subst f;exact E9 k m h2 s u h
  · intro _ _ y v b _ _ h;exact nn h
  · intro _ _ _ y v b _ _ h;exact nn h
  · intro _ y v b _ _ h;exact nn h
  · intro _ y v b _ _ h;exact nn h
  · intro _ y v b _ _ h;exact nn h
  · intro ys vs b d a h;rw [d.nil_inv] at a;clear d;cases ys with|nil=>exact(aX h).symm|cons y ys=>refine a.cons_inv _ ?_;intro _ _ e _;exact nomatch e
  · intro x xs k A ys vs b d a h;refine d.cons_inv _ λv us r C D=>?_;obtain rfl:=r;cases ys with
    | nil=>exact nomatch a.nil_inv
    | cons y ys=>
      refine a.cons_inv _ λw ws e b0 cB=>?_;injection e with g f
      refine(qO h) _ λp q F G B=>?_;clear h a d;obtain rfl:=B;refine ac (k C (g▸b0) F) (ac (A D (f▸cB) G) ?_);rfl
  · trivial
  · intros;trivial
  · intros;trivial
end
section
variable{c:aU}{ai:cp}{Z:bz}{ga:List aq}{A:c6}{s:aP}
theorem Br(d:∃ t,v=.str x t)(b:∃ t,u=.str y t):jG A s v u (x==y):=by refine aG d λt a=>?_;clear d;obtain rfl:=a;refine aG b λe a=>?_;clear b;obtain rfl:=a;exact EqAt.str_str _ _ _ _
theorem LV(A:c6)(s:aP)(a b:Array UInt8)(t u:Tok):jG A s (.bytes a t) (.bytes b u) (a.toList==b.toList):=λprog w E Q h=>by
  unfold eqBool;refine e6 (wpAny_ite_split (λd=>?_) λag=>?_)
  · have e:=eq_of_beq d;clear d;cases e;rw [beq_self_eq_true] at h;exact ax (oe (bg h))
  · exact ax (eq_bytes (tW h))
theorem R3(A:c6)(s:aP)(a b:Array UInt8)(t u:Tok):RcAt A s (.bytes a t) (.bytes b u) (a.toList==b.toList)∧tL A s (.bytes a t) (.bytes b u) (!(a.toList==b.toList)):=⟨λag ag ag ag h=>eq_bytes h,λag ag ag ag h=>ne_bytes h⟩
theorem EL(d:∃ t,v=.str x t)(b:∃ t,u=.str y t):RcAt A s v u (x==y)∧tL A s v u (!(x==y)):=by refine aG d λt a=>?_;obtain rfl:=a;refine aG b λe a=>?_;obtain rfl:=a;exact⟨RcAt.str_str _ _ _ _,RcNeAt.str_str _ _ _ _⟩
noncomputable def j9(ai:cp)(xs ys:List V)(j:Nat):Bool:=(gm ai (xs.getD j .none) (ys.getD j .none)).getD ah
theorem Bv(xs ys:List V)(h:gX ai xs ys=U b):((kp (min xs.length ys.length)).all (j9 ai xs ys)&&xs.length==ys.length)=b:=by
  induction xs generalizing ys b with
  | nil=>cases ys <;>exact aX h
  | cons x xs f=>cases ys with
    | nil=>exact aX h
    | cons y ys=>
      refine(qO h) _ λp q d e a=>?_;clear h;obtain rfl:=a;obtain ih:min (x :: xs).length (y :: ys).length=min xs.length ys.length+1:=Nat.add_min_add_right ..;obtain g4:((x :: xs).length==(y :: ys).length)=(xs.length==ys.length):=by simp
      obtain wt:j9 ai (x :: xs) (y :: ys) 0=p:=by show(gm ai x y).getD ah=p;refine ac d ?_;rfl
      refine ac ih (ac g4 (ac List.range_succ_eq_map (ac Gi (ac List.all_map (bG (f ys e) (ac wt ?_))))));rewrite [Bool.and_assoc];rfl
theorem EN(d:s.heap.IsTuple l vs.toArray)(ak:s.heap.IsTuple e us.toArray)(g:ba c Z ga vs xs)(i:ba c Z ga us ys)(h:gX ai xs ys=U b)(k:A.units+1<cLine)
    (ib:∀ j (f:j<vs.length) (h2:j<us.length),jG A.in1 s vs[j] us[j] (j9 ai xs ys j)):RcAt A s (.ref l) (.ref e) b∧tL A s (.ref l) (.ref e) (!b):=by
  have a:∀ j (f:j<vs.toArray.size) (h2:j<us.toArray.size),jG A.in1 s vs.toArray[j] us.toArray[j] (j9 ai xs ys j):=ib;have q:=Bv xs ys h;obtain q:=(g.length).symm▸q;obtain q:=(i.length).symm▸q;exact q▸⟨RcAt.tuples d ak (iM ‹_› rfl) a,RcNeAt.tuples d ak (iM ‹_› rfl) a⟩
theorem EM(a:s.heap.IsList l vs.toArray)(ak:s.heap.IsList f us.toArray)(m:ba c Z ga vs xs)(n:ba c Z ga us ys)(h:gX ai xs ys=U b)(o:A.units+1<cLine)
    (ib:∀ j (k:j<vs.length) (h2:j<us.length),jG A.in1 s vs[j] us[j] (j9 ai xs ys j)):RcAt A s (.ref l) (.ref f) b∧tL A s (.ref l) (.ref f) (!b):=by
  have d:∀ j (k:j<vs.toArray.size) (h2:j<us.toArray.size),jG A.in1 s vs.toArray[j] us.toArray[j] (j9 ai xs ys j):=ib;have q:=Bv xs ys h;obtain q:=(m.length).symm▸q;obtain q:=(n.length).symm▸q;by_cases e:vs.length=us.length
  · obtain q:=e▸q;rw [Nat.min_self,beq_self_eq_true,Bool.and_true] at q;obtain q:=e.symm▸q;exact q▸⟨RcAt.lists a ak e (iM ‹_› rfl) d,RcNeAt.lists a ak e (iM ‹_› rfl) d⟩
  · have i:(vs.length==us.length)=ah:=beq_eq_false_iff_ne.mpr e;obtain q:=i▸q;rw [tf] at q;have g:(vs.toArray.size != us.toArray.size)=af:=bne_iff_ne.mpr e;exact q▸⟨RcAt.lists_lengths a ak g (iM ‹_› rfl),RcNeAt.lists_lengths a ak g (iM ‹_› rfl)⟩
noncomputable def ya(c:aU)(ai:cp)(Z:bz)(ga:List aq)(s:aP)(x:V):Prop:=∀ {y:V} {A:c6} {v u:ay} {b:Bool},aK c Z ga v x→aK c Z ga u y→gm ai x y=U b→A.units+dep x<cLine→jG A s v u b
noncomputable def x9(c:aU)(ai:cp)(Z:bz)(ga:List aq)(s:aP)(xs:List V):Prop:=∀ {ys:List V} {A:c6} {vs us:List ay} {b:Bool},ba c Z ga vs xs→ba c Z ga us ys→gX ai xs ys=U b→A.units+fz xs<cLine→∀ j (a:j<vs.length) (h2:j<us.length),jG A s vs[j] us[j] (j9 ai xs ys j)
theorem Bt(g:ai.ls=c.ls)(k:∀ b o,Z.get? b=U o→s.heap.get? b=U o)(x:V):ya c ai Z ga s x:=by
  refine V.rec (motive_1:=λx=>ya c ai Z ga s x) (motive_2:=λxs=>x9 c ai Z ga s xs) (motive_3:=λag=>True) (motive_4:=λag=>True) ?_ ?_ ?_ ?_ ?_ ?_ ?_ ?_ ?_ ?_ ?_ ?_ ?_ ?_ ?_ ?_ ?_ ?_ x
  · intro y A v u b d a h _;refine(eV h) _ λ_ e am=>?_;clear h;obtain rfl:=am;obtain a:=(u3 e)▸a;exact ac d.none_inv (ac a.none_inv (F8 _))
  · intro i y A v u b d a h _;refine(eV h) _ λj e Y=>?_;clear h;obtain rfl:=Y;obtain a:=(oB e)▸a;exact ac d.bool_inv (ac a.bool_inv (EqAt.bool_bool _ _))
  · intro i y A v u b d a h _;refine(eV h) _ λj e I=>?_;obtain rfl:=I;obtain a:=(iA e)▸a;refine aG d.int_inv λt D=>?_;obtain rfl:=D;refine aG a.int_inv λa2 X=>?_;clear a d h;obtain rfl:=X;exact Vq _ _ _ _
  · intro n y A v u b d a h _;refine(eV h) _ λz e W=>?_;clear h;obtain rfl:=W;exact Br (kd g d rfl) (kd g a e)
  · intro n y A v u b d a h _;refine(eV h) _ λz e T=>?_;clear h;obtain rfl:=T;exact Br d.str_inv (kd g a e)
  · intro i y A v u b d a h _;refine(eV h) _ λj e H=>?_;obtain rfl:=H;obtain a:=(oC e)▸a;refine aG d.gj λt D=>?_;obtain rfl:=D;refine aG a.gj λa2 S=>?_;clear a d h;obtain rfl:=S;exact LV _ _ _ _ _ _
  · intro xs r y A v u b d a h m;refine(df h) _ λys e h'=>?_;rw [oM e] at a h;obtain E:A.units+(fz xs+1)<cLine:=m;refine d.gv _ λl vs N f B=>?_;obtain rfl:=N;refine a.gv _ λF us P h2 C=>?_;obtain rfl:=P;by_cases q:l=F
    · clear h2;subst q;exact ac (E8 g _ d a h) (F8 _)
    · exact Vr q (EN (f3 k f) (f3 k h2) B C h' (ew ‹_› rfl) (r B C h' (by show A.units+1+_<_;lia))).1
  · intro xs r y A v u b d a h m;refine(df h) _ λys e h'=>?_;rw [oJ e] at a h;obtain E:A.units+(fz xs+1)<cLine:=m;refine d.gs _ λl vs M f B=>?_;obtain rfl:=M;refine a.gs _ λF us O h2 C=>?_;obtain rfl:=O;by_cases q:l=F
    · clear h2;subst q;exact ac (E8 g _ d a h) (F8 _)
    · exact Vr q (EM (fR k f) (fR k h2) B C h' (ew ‹_› rfl) (r B C h' (by show A.units+1+_<_;lia))).1
  · intro _ _ y A v u b _ _ h;exact nn h
  · intro _ _ _ y A v u b _ _ h;exact nn h
  · intro _ y A v u b _ _ h;exact nn h
  · intro _ y A v u b _ _ h;exact nn h
  · intro _ y A v u b _ _ h;exact nn h
  · intro ys A vs us b d _ _ _ j f;obtain f:=d.nil_inv▸f;exact absurd f (tF _)
  · intro x xs r Q ys A vs us b d a h m j f h2;cases ys with
    | nil=>obtain h2:=a.nil_inv▸h2;exact absurd h2 (tF _)
    | cons y ys=>
      refine d.cons_inv _ λv vs G ap as=>?_;obtain rfl:=G;refine a.cons_inv _ λw ws L b0 cB=>?_;obtain rfl:=L;refine(qO h) _ λp q R a1 _=>?_;obtain E:A.units+max (dep x) (fz xs)<cLine:=m;clear h a d;cases j with|zero=>exact(show j9 ai (x :: xs) (y :: ys) 0=p by show(gm ai x y).getD ah=p;refine ac R ?_;rfl)▸r ap b0 R (by lia)|succ j=>exact Q as cB a1 (by lia) j (mM f) (mM h2)
  · trivial
  · intros;trivial
  · intros;trivial
theorem LW(x y:V)(a:ai.ls=c.ls)(k:∀ b o,Z.get? b=U o→s.heap.get? b=U o)(e:aK c Z ga v x)(f:aK c Z ga u y)(h:gm ai x y=U b)(d:A.units+dep x<cLine):jG A s v u b:=Bt a k x e f h d
theorem Bq(r:ai.ls=c.ls)(k:∀ b o,Z.get? b=U o→s.heap.get? b=U o):x9 c ai Z ga s xs:=by
  induction xs with
  | nil=>intro ys A vs us b d _ _ _ j a;rw [d.nil_inv] at a;exact absurd a (tF _)
  | cons x xs i=>
    intro ys A vs us b d g h t j a h2;cases ys with
    | nil=>rw [g.nil_inv] at h2;exact absurd h2 (tF _)
    | cons y ys=>
      refine d.cons_inv _ λv vs e m n=>?_;obtain rfl:=e;refine g.cons_inv _ λw ws f b0 cB=>?_;obtain rfl:=f;refine(qO h) _ λp q l u _=>?_;obtain z:A.units+max (dep x) (fz xs)<cLine:=t;cases j with|zero=>exact(show j9 ai (x :: xs) (y :: ys) 0=p by show(gm ai x y).getD ah=p;refine ac l ?_;rfl)▸Bt r k x m b0 l (by lia)|succ j=>exact i n cB u (by lia) j (mM a) (mM h2)
end
section
variable{c:aU}{ai:cp}{Z:bz}{ga:List aq}
theorem R4(x y)(g:ai.ls=c.ls)(k:∀ b o,Z.get? b=U o→s.heap.get? b=U o)(d:aK c Z ga v x)(a:aK c Z ga u y)(h:gm ai x y=U b)(f:A.units+dep x<cLine):
    RcAt A s v u b∧tL A s v u (!b):=by
  cases x with
  | none=>
    refine(eV h) _ λ_ e O=>?_;clear h f;obtain rfl:=O;rw [u3 e] at a;exact ac d.none_inv (ac a.none_inv ⟨RcAt.none_none,RcNeAt.none_none⟩)
  | bool i=>
    refine(eV h) _ λj e N=>?_;clear h f;obtain rfl:=N;rw [oB e] at a;exact ac d.bool_inv (ac a.bool_inv ⟨RcAt.bool_bool _ _,RcNeAt.bool_bool _ _⟩)
  | int i=>
    refine(eV h) _ λj e C=>?_;obtain rfl:=C;rw [iA e] at a;refine aG d.int_inv λt q=>?_;obtain rfl:=q;refine aG a.int_inv λQ M=>?_;clear a d h f;obtain rfl:=M;exact⟨RcAt.int_int _ _ _ _,RcNeAt.int_int _ _ _ _⟩
  | lit n=>
    refine(eV h) _ λz e L=>?_;clear h f;obtain rfl:=L;exact EL (kd g d rfl) (kd g a e)
  | str n=>
    refine(eV h) _ λz e I=>?_;clear h f;obtain rfl:=I;exact EL d.str_inv (kd g a e)
  | bytes i=>
    refine(eV h) _ λj e B=>?_;obtain rfl:=B;rw [oC e] at a;refine aG d.gj λt q=>?_;obtain rfl:=q;refine aG a.gj λQ H=>?_;clear a d h f;obtain rfl:=H;exact R3 _ _ _ _ _ _
  | ao xs=>
    refine(df h) _ λys e h'=>?_;rw [oM e] at a;obtain w:A.units+(fz xs+1)<cLine:=f;refine d.gv _ λl vs E r m=>?_;obtain rfl:=E;refine a.gv _ λP us G h2 p=>?_;obtain rfl:=G;exact EN (f3 k r) (f3 k h2) m p h' (ew ‹_› rfl) (Bq g k m p h' (by show A.units+1+_<_;lia))
  | list xs=>
    refine(df h) _ λys e h'=>?_;rw [oJ e] at a;obtain w:A.units+(fz xs+1)<cLine:=f;refine d.gs _ λl vs D r m=>?_;obtain rfl:=D;refine a.gs _ λP us F h2 p=>?_;obtain rfl:=F;exact EM (fR k r) (fR k h2) m p h' (ew ‹_› rfl) (Bq g k m p h' (by show A.units+1+_<_;lia))
  | _=>exact nn h
end
section
set_option backward.match.sparseCases false
theorem FP{K:Type}[DecidableEq K](k:K)(v)(ds):valueAt ((k,v) :: ds) k=U v:=by simp [valueAt]
theorem FQ{K:Type}[DecidableEq K]{k n:K}(v)(ds)(h:k≠n):valueAt ((k,v) :: ds) n=valueAt ds n:=by simp [valueAt,h]
theorem pb{c:aU}{Z:bz}{ga:List aq}(inj:∀ i j,i<c.nl→j<c.nl→c.ls i=c.ls j→i=j){ds:List (Str×ay)}{es:List (Nat×V)}(h:dO c Z ga ds es){n:Nat}(a:n<c.nl):
    (keyOf es n=ae∧valueAt ds (c.ls n)=ae)∨∃ x v,keyOf es n=U x∧valueAt ds (c.ls n)=U v∧aK c Z ga v x:=by
  induction es generalizing ds with
  | nil=>exact .inl ⟨rfl,by refine ac (show ds=[] from h.inv) ?_;rfl⟩
  | cons p es b=>
    refine jf (show ∃ v us,ds=(c.ls p.1,v) :: us∧p.1<c.nl∧aK c Z ga v p.2∧dO c Z ga us es from h.inv) λv us d f g r=>?_;obtain rfl:=d;obtain⟨k,x⟩:=p;by_cases q:k=n
    · clear b a;subst q;exact .inr (dL x v (if_pos (beq_self_eq_true k)) (FP _ _ _) g)
    · exact ac (show keyOf ((k,x) :: es) n=keyOf es n from if_neg (λe=>q (beq_iff_eq.mp e))) (ac (FQ _ _ (λe=>q (inj k n f a e))) (b r))
theorem wg{c:aU}(h:gD c Z ga ds es)(n:Int):
    (f7 es n=ae∧valueAt ds n=ae)∨∃ x v,f7 es n=U x∧valueAt ds n=U v∧aK c Z ga v x:=by
  induction h with
  | nil=>exact .inl ⟨rfl,rfl⟩
  | @cons k v x ds es b r a=>
    by_cases q:k=n
    · clear a;subst q;exact .inr (dL x v (if_pos (beq_self_eq_true k)) (FP _ _ _) b)
    · exact ac (show f7 ((k,x) :: es) n=f7 es n from if_neg (λe=>q (beq_iff_eq.mp e))) (ac (FQ _ _ q) a)
theorem Cy(h:gS c Z ga ds es)(i j):
    (gL es (i,j)).isSome=(atKey ds [i,j]).isSome:=by
  induction h with
  | nil=>rfl
  | @cons b d a v x ds es p s r f=>
    by_cases q:b=i∧d=j
    · clear f;refine aC q λg k=>?_;clear q;obtain rfl:=g;obtain rfl:=k;refine ac nt ?_;simp [atKey]
    · obtain n:¬ ((b,d)=(i,j)):=λe=>q (by simpa using e);obtain o:¬ ([b,d]=[i,j]):=λe=>q (by simpa using e);obtain l:gL (((b,d),x) :: es) (i,j)=gL es (i,j):=by simp only [nt,beq_iff_eq,n,if_false]
      obtain m:atKey (([b,d],a,v) :: ds) [i,j]=atKey ds [i,j]:=by simp only [atKey,tA,o,decide_false]
      exact ac l (ac m f)
section
variable{c:aU}{J:bo}{S:aA}{W:bP}{s:aP}{Q:bU}{bj:ay→aP→Prop}{ai:cp}
theorem mi(X:c.Ok)(b:av c J S W s)(h:a∈b6 J S W):(a==sysModules)=ah:=by refine beq_eq_false_iff_ne.mpr λe=>?_;subst e;exact X.sys (b.new _ h)
theorem nf{i:Nat}(b:W.ga[i]?=U a)(h2:S.aE[i]?=U o)(hd:o≠.dead):a∈b6 J S W:=by rw [fF];exact ch _ (ch _ (ch _ (ch _ (d9 _ (fE b h2 hd)))))
theorem PG{i:Nat}(b:W.la[i]?=U a)(h2:S.aR[i]?=U o)(hd:o≠.dead):a∈b6 J S W:=by exact ac fF (ch _ (ch _ (ch _ (d9 _ (fE b h2 hd)))))
noncomputable def N6(c:aU)(J:bo)(S:aA)(W:bP)(s:aP)(v:ay)(g:Nat)(o:aQ):Prop:=∀ b:Prop,(∀ (a),v=.ref a→W.ga[g]?=U a→d3 c (ar J S W s.heap) s.heap W.ga a o→b)→b
theorem gI(d:av c J S W s)(r:aK c (ar J S W s.heap) W.ga v (.aB g))(h:S.aE[g]?=U o):N6 c J S W s v g o:=by exact aI r.BY λa e b=>(λ_ aj=>aj a e b (d.eZ _ _ _ b h))
noncomputable def o3(J:bo)(S:aA)(W:bP)(h:bz)(a:aq):bz:=hideAll h ((b6 J S W).filter λb=>b≠a)
theorem vQ:∀ b o,(ar J S W h).get? b=U o→(o3 J S W h a).get? b=U o:=λb o e=>by exact aC (ik e) λd f=>tS _ d λm=>f (mJ.mp m).1
theorem NW{h:bz}{a:aq}:∀ b o,(o3 J S W h a).get? b=U o→h.get? b=U o:=λag ag e=>of_hideAll _ e
theorem NX(e:h.get? a=U o):(o3 J S W h a).get? a=U o:=tS _ e λm=>by simp [mJ] at m
theorem vE(f:op=.Eq∨op=.NotEq)(j:ai.ls=c.ls)(G:J.Ok)(g:av c J S W s)(k:∀ b o,Z.get? b=U o→s.heap.get? b=U o)(l:aK c Z W.ga a x)(m:aK c Z W.ga b y)
    (h:rM ai x y λz=>Q (.bool (if op=.Eq then z else !z)) S):aD c.M J.A (compareOp op a b) (bQ c J S W s Q) bj s:=by
  refine(cy h) _ λz e d=>?_;refine aC d λhd q=>?_;clear d;refine aC (R4 (A:=J.A) (s:=s) x y j k l m e (by have:=G.units;lia)) λi h2=>?_;clear h;rcases f with rfl | rfl
  · exact i _ _ _ _ (.same g q (.bool _))
  · exact h2 _ _ _ _ (.same g q (.bool _))
theorem Bs(d:op=.Eq∨op=.NotEq)(m:ai.ls=c.ls)(G:J.Ok)(j:av c J S W s)(f:aK c (ar J S W s.heap) W.ga a x)(i:aK c (ar J S W s.heap) W.ga b y)
    (h:b3 ai x y S λz=>Q (.bool (if op=.Eq then z else !z)) S):aD c.M J.A (compareOp op a b) (bQ c J S W s Q) bj s:=by
  have lst:∀ {g:Nat} {v:ay} {xs:List V},S.aE[g]?=U (.list xs)→aK c (ar J S W s.heap) W.ga v (.aB g)→∃ l,(∀ b o,(o3 J S W s.heap l).get? b=U o→s.heap.get? b=U o)∧aK c (o3 J S W s.heap l) W.ga v (.list xs):=λ{g v xs} e r=>by refine(gI j r e) _ λl t _ u=>?_;clear r;obtain rfl:=t;exact dP u λvs n w h2=>(aM l NW (.list (cJ _ (NX w) rfl ⟨n,rfl⟩) (h2.mono vQ (.refl _))))
  unfold b3 at h;cases p:m2 x with
  | some g=>
    obtain h:=p▸h;refine aI (nE h) λxs e h=>?_;obtain f:=(oG p)▸f;exact aI (lst e f) λl k r=>vE d m G j k r (i.mono vQ (.refl _)) h
  | none=>
    obtain h:=p▸h;cases q:m2 y with
    | some g=>
      obtain h:=q▸h;refine aI (nE h) λxs e h=>?_;obtain i:=(oG q)▸i;exact aI (lst e i) λl k r=>vE d m G j k (f.mono vQ (.refl _)) r h
    | none=>obtain h:=q▸h;exact vE d m G j ct f i h
theorem Cg(r:aK c Z ga v x)(ak:et x=ah):plainIs v .none=af∧(v==.none)=isNone x:=by revert ak;refine aK.casesOn (motive_1:=λv x ag=>et x=ah→plainIs v .none=af∧(v==.none)=isNone x) r (λag=>⟨rfl,rfl⟩) (λag ag=>⟨rfl,rfl⟩) (λag ag ag=>⟨rfl,rfl⟩) (λn t e ag ag=>?_) (λag ag ag=>⟨rfl,rfl⟩) (λag ag ag=>⟨rfl,rfl⟩) (λag ag ag=>⟨rfl,rfl⟩) (λag ag ag=>⟨rfl,rfl⟩) (λag ag ag ag ag=>⟨rfl,rfl⟩) (λag ag ag ag ag ag ag=>⟨rfl,rfl⟩) (λag ag=>⟨rfl,rfl⟩) (λag ag ag=>⟨rfl,rfl⟩) (λn ag ag h=>cb h.symm);rw [e];exact⟨rfl,rfl⟩
noncomputable def vy:ay→Option Int|.int i _=>U i|_=>ae
noncomputable def rI:List ay→Option (List Int)|[]=>U []|v :: r=>(vy v).bind λi=>(rI r).map (i :: ·)
noncomputable def rJ(Z:bz):ay→Option (List Int)
  | .ref a=>(match Z.get? a with
    | some o=>(match o.data with
      | .seq xs _=>rI xs.toList
      | _=>ae)
    | none=>ae)
  | _=>ae
theorem Km:∀ {xs:List V} {vs:List ay} {is:List Int},ba c Z ga vs xs→allInts xs=U is→rI vs=U is:=by
  intro xs
  induction xs with
  | nil=>
    intro _ _ r h;refine ac r.nil_inv (bG (aX h) ?_);rfl
  | cons x xs k=>
    intro _ _ r h;refine r.cons_inv _ λv us d a b=>?_;obtain rfl:=d;refine(iE h) _ λi l e j f=>?_;obtain rfl:=f;rw [iA e] at a;refine aG a.int_inv λt g=>?_;clear a h r;obtain rfl:=g;show(rI us).map _=_;exact ac (k b j) rfl
theorem Bu:∀ {xs ys:List V} {is f:List Int},allInts xs=U is→allInts ys=U f→gX ai xs ys=U (is==f)
  | [],[],_,_,a,h2=>by rw [← aX a,← aX h2];rfl
  | [],y :: ys,_,_,a,h2=>by refine(iE h2) _ λ_ _ _ _ d=>?_;obtain rfl:=d;rw [← aX a];rfl
  | x :: xs,[],_,_,a,h2=>by refine(iE a) _ λ_ _ _ _ b=>?_;obtain rfl:=b;rw [← aX h2];rfl
  | x :: xs,y :: ys,_,_,a,h2=>by refine(iE a) _ λi _ l h g=>?_;obtain rfl:=g;refine(iE h2) _ λj _ m k e=>?_;obtain rfl:=e;rw [iA l,iA m];show jW (U (i==j)) (gX ai xs ys)=_;rw [Bu h k];rfl
theorem Kp:∀ {xs:List V} {is:List Int},allInts xs=U is→fz xs=0:=by
  intro xs
  induction xs with
  | nil=>
    intro _ _;exact rfl
  | cons x xs e=>
    intro _ h;refine(iE h) _ λi _ d b a=>?_;clear h;obtain rfl:=a;refine ac (iA d) ?_;show max 0 (fz xs)=0;refine ac (e b) ?_;rfl
noncomputable abbrev Ou(s:aP)(A:c6)(i:Int)(t:Tok)(us:List ay)(is:List Int):Prop:=(∀ u∈us,jG A s u (.int i t) ((vy u).any (·==i)))∧us.any (λu=>(vy u).any (·==i))=is.any (·==i)
theorem Ot:∀ {ys:List V} {us:List ay} {is:List Int},ba c Z ga us ys→allInts ys=U is→Ou s A i t us is:=by
  intro ys
  induction ys with
  | nil=>
    intro _ _ h au;exact ac h.nil_inv (bG (aX au) ⟨λag m=>((absurd m c4)),rfl⟩)
  | cons y ys o=>
    intro _ _ h au;refine h.cons_inv _ λv us f a h2=>?_;obtain rfl:=f;refine(iE au) _ λj ks e k d=>?_;obtain rfl:=d;rw [iA e] at a;refine aG a.int_inv λp g=>?_;obtain rfl:=g;refine aC (o h2 k) λl n=>⟨λu b=>?_,by refine ac lg ?_;refine ac lg ?_;refine ac n ?_;rfl⟩;clear a au h;rcases b9.mp b with rfl | b
    · exact Vq _ _ _ _
    · exact l u b
noncomputable abbrev Ow(s:aP)(Z:bz)(A:c6)(v:ay)(a:List Int)(us:List ay)(is:List (List Int)):Prop:=(∀ u∈us,jG A s u v ((rJ Z u).any (·==a)))∧us.any (λu=>(rJ Z u).any (·==a))=is.any (·==a)
theorem Ov(B:ai.ls=c.ls)(k:∀ b o,Z.get? b=U o→s.heap.get? b=U o)(H:A.units+1<cLine)(G:aK c Z ga v (.ao xs))(C:allInts xs=U E):
    ∀ {ys:List V} {us:List ay} {is:List (List Int)},ba c Z ga us ys→uT ys=U is→Ow s Z A v E us is:=by
  intro ys
  induction ys with
  | nil=>
    intro _ _ h au;exact ac h.nil_inv (bG (aX au) ⟨λag m=>((absurd m c4)),rfl⟩)
  | cons y ys D=>
    intro _ _ h au;refine h.cons_inv _ λw us q g h2=>?_;obtain rfl:=q;refine(iE au) _ λp ks e r j=>?_;obtain rfl:=j;refine(df e) _ λzs z i=>?_;rw [oM z] at g;refine aC (D h2 r) λt x=>?_;have hd:rJ Z w=U p:=by clear au h;refine g.gv _ λa vs l f F=>?_;clear g;obtain rfl:=l;refine c0 f λo b0 _ xr=>?_;clear f;refine aG xr λn cB=>?_;clear xr;unfold rJ;dsimp only;refine ac b0 ?_;dsimp only;exact ac cB (Km F i)
    refine⟨λu d=>?_,by refine ac lg ?_;refine ac lg ?_;refine ac x ?_;refine ac hd ?_;rfl⟩;clear au h;rcases b9.mp d with rfl | d
    · exact ac hd (LW (.ao zs) (.ao xs) B k g G (Bu i C) (by show A.units+(fz zs+1)<cLine;refine ac (Kp i) ?_;assumption))
    · exact t u d
theorem PK{a b:ay}{x y:V}(k:av c J S W s)(f:aK c (ar J S W s.heap) W.ga a x)(g:aK c (ar J S W s.heap) W.ga b y)
    (h:fT x y λz=>Q (.bool z) S):aD c.M J.A (compareOp .Lt a b) (bQ c J S W s Q) bj s:=by
  cases x with
  | int i=>
    refine aG f.int_inv λt d=>?_;obtain rfl:=d;refine(e1 g h) _ λj u m h=>?_;clear g f;obtain rfl:=m;exact lt_int (.same k h (.bool _))
  | bytes i=>
    refine aG f.gj λt d=>?_;obtain rfl:=d;refine(wP g h) _ λj u l h=>?_;clear g f;obtain rfl:=l;exact compareOp_gives (op:=.Lt) (i5 s _ _) (i5 s _ _) TJ LR (Ij _ _) (N4 _ _ _ _) (λe=>nomatch e) (.same k h (.bool _))
  | _=>exact fl h
theorem N7(k:av c J S W s)(f:aK c (ar J S W s.heap) W.ga a x)(g:aK c (ar J S W s.heap) W.ga b y)
    (h:cc x λa=>cc y λb=>Q (.bool (decide (b<a))) S):aD c.M J.A (compareOp .Gt a b) (bQ c J S W s Q) bj s:=by
  refine(e1 f h) _ λi t d h=>?_;obtain rfl:=d;refine(e1 g h) _ λj u e h=>?_;clear g f;obtain rfl:=e;exact gt_int (.same k h (.bool _))
theorem Dg{P:Prop}(r:aK c Z ga v x)(h:pt x P):v=.none∧P:=by refine(cy h) _ λ_ e p=>?_;obtain r:=(u3 e)▸r;exact⟨r.none_inv,p⟩
theorem OF(j:av c J S W s)(k:aK c (ar J S W s.heap) W.ga a x)(f:aK c (ar J S W s.heap) W.ga b y)
    (h:pt y (et x=ah∧Q (.bool (isNone x)) S)):aD c.M J.A (compareOp .Is a b) (bQ c J S W s Q) bj s:=by
  refine aC (Dg f h) λd e=>?_;clear f;obtain rfl:=d;exact aC e λak h=>aC (Cg k ak) λg i=>wpAny_is_plain g (.same j (i.symm▸h) (.bool _))
theorem OH(j:av c J S W s)(k:aK c (ar J S W s.heap) W.ga a x)(f:aK c (ar J S W s.heap) W.ga b y)
    (h:pt y (et x=ah∧Q (.bool (!isNone x)) S)):aD c.M J.A (compareOp .IsNot a b) (bQ c J S W s Q) bj s:=by
  refine aC (Dg f h) λd e=>?_;clear f;obtain rfl:=d;exact aC e λak h=>aC (Cg k ak) λg i=>wpAny_isNot_plain g (.same j (i.symm▸h) (.bool _))
theorem Ox(p:ai.ls=c.ls)(G:J.Ok)(g:av c J S W s)(j:aK c (ar J S W s.heap) W.ga a x)(ak:(ar J S W s.heap).IsTuple l us.toArray)(m:ba c (ar J S W s.heap) W.ga us ys)
    (h:Ca x ys λz=>Q (.bool z) S):aD c.M J.A (compareOp .In a (.ref l)) (bQ c J S W s Q) bj s:=by
  obtain q:=G.units;cases x with
  | int i=>
    refine(cy h) _ λis e h=>?_;refine aG j.int_inv λt n=>?_;obtain rfl:=n;exact aC (Ot (A:=J.A.in1) (s:=s) (i:=i) (t:=t) m e) λb d=>in_tupleAt _ (f3 ct ak) (λy f=>b y (Vf.mpr f)) (.same g (by refine ac VM ?_;refine ac d ?_;exact h) (.bool _))
  | ao xs=>
    refine(cy h) _ λk e h=>?_;refine(cy h) _ λks o h=>?_;exact aC (Ov (A:=J.A.in1) (s:=s) p ct (by show J.A.units+1+1<_;lia) j e m o) λb d=>in_tupleAt _ (f3 ct ak) (λy f=>b y (Vf.mpr f)) (.same g (by refine ac VM ?_;refine ac d ?_;exact h) (.bool _))
  | _=>exact fl h
theorem Os(X:c.Ok)(G:J.Ok){a b:ay}(f:av c J S W s)(m:aK c (ar J S W s.heap) W.ga a x)(r:aK c (ar J S W s.heap) W.ga b (.aB g))
    (h:Cb x S.aE g λz=>Q (.bool z) S):aD c.M J.A (compareOp .In a b) (bQ c J S W s Q) bj s:=by
  obtain cl:=G.units;cases x with
  | int i=>
    refine aI (QG h) λes e h=>aG m.int_inv λt T=>?_;clear m;obtain rfl:=T;refine(gI f r e) _ λd O w P=>?_;clear r;obtain rfl:=O;refine dn P λo ds u h2 k=>?_;have hd:s.heap.DictOf c.gr d ds:=hg.mpr (aM o u h2)
    refine wpAny_in_of (lq _ _ _ _) (mi X f (nf w e (λq=>nomatch q))) hd.mapOf (.here f ?_ (.bool _) _);refine aS (wg k i) (λI=>aC I λL N=>?_) λI=>dn I λx v L N _=>?_ <;>rw [L] at h <;>refine ac N ?_ <;>exact h
  | ao xs=>
    refine(nC h) _ λp q am mc=>?_;refine m.gv _ λl us B ap H=>?_;obtain rfl:=B;rw [am] at H;refine H.two _ λgd g8 C V Y=>?_;obtain rfl:=C;refine(e1 V mc) _ λi t1 D bX=>?_;obtain rfl:=D;refine(e1 Y bX) _ λj t2 R cw=>?_;clear Y V H m;obtain rfl:=R;refine aI (Df cw) λes e h=>(gI f r e) _ λd E w F=>?_;clear r;obtain rfl:=E;refine dn F λo ds u Z k=>jf Z λfY ep bs ca cd ce=>?_;obtain y:IsTupleKey c.gr s.heap [i,j] l:=by exact c0 (f3 (Z':=s.heap) ct ap) λo' a1 a2 xr=>aG xr λn bm=>(ji o' _ n a1 a2 bm (.cons (lq _ _ _ _) (.cons (lq _ _ _ _) .nil)))
    refine wpAny_in_heap (knd:=c.sa) (WO (ew ‹_› rfl)) y (mi X f (nf w e (λq=>nomatch q))) (qK o fY ep u bs ca cd (λx as=>IsTupleKey.mono ct (k.keys x as)) ce) (.here f ?_ (.bool _) _);rw [← Cy k];exact h
  | _=>exact fl h
theorem Oq(X:c.Ok)(D:ai.ls=c.ls)(G:J.Ok)(i:av c J S W s)(f:aK c (ar J S W s.heap) W.ga a x)(e:aK c (ar J S W s.heap) W.ga b y)
    (h:bZ x y S λz=>Q (.bool z) S):aD c.M J.A (compareOp .In a b) (bQ c J S W s Q) bj s:=by
  cases y with
  | dict es=>
    refine(pv f h) _ ?_;intro n t u E h;obtain rfl:=u;refine e.l2 _ ?_;intro d o kvs k j B h2 C;clear e f;obtain rfl:=k;have hd:s.heap.DictOf c.hQ d kvs:=hg.mpr (aM o (ct _ _ B) h2)
    refine wpAny_in_of (mO _ _ _ _) j hd.mapOf (.here i ?_ (.bool _) _);refine aS (pb X.inj C E) (λm=>aC m λp q=>?_) λm=>dn m λx v p q _=>?_ <;>rw [p] at h <;>refine ac q ?_ <;>exact h
  | ao ys=>
    obtain w:=e.gv;clear e;refine w _ ?_;intro l us r ak e;clear w;obtain rfl:=r;exact Ox D G i f ak e h
  | aB g=>exact Os X G i f e h
  | _=>exact fl h
theorem Qp(X:c.Ok){a b:ay}{x y:V}(w:av c J S W s)(p:aK c (ar J S W s.heap) W.ga a x)(f:aK c (ar J S W s.heap) W.ga b y)
    (h:wM y λes=>iR x λn=>Q (.bool (!(keyOf es n).isSome)) S):aD c.M J.A (compareOp .NotIn a b) (bQ c J S W s Q) bj s:=by
  refine(cy h) _ ?_;intro es e h;obtain f:=(Ip e)▸f;refine(pv p h) _ ?_;intro n t i u h;obtain rfl:=i;refine f.l2 _ ?_;intro d o kvs j g q h2 r;clear f p;obtain rfl:=j;have hd:s.heap.DictOf c.hQ d kvs:=hg.mpr (aM o (ct _ _ q) h2)
  refine wpAny_notIn_of (mO _ _ _ _) g hd.mapOf (.here w ?_ (.bool _) _);refine aS (pb X.inj r u) (λk=>aC k λl m=>?_) λk=>dn k λx v l m _=>?_ <;>obtain h:=l▸h <;>refine ac m ?_ <;>exact h
theorem AS(X:c.Ok)(g:ai.ls=c.ls)(G:J.Ok)(d:av c J S W s)(e:aK c (ar J S W s.heap) W.ga a x)(f:aK c (ar J S W s.heap) W.ga b y)
    (h:kO ai op x y S λz=>Q (.bool z) S):aD c.M J.A (compareOp op a b) (bQ c J S W s Q) bj s:=by
  cases op with|Eq=>exact Bs (.inl rfl) g G d e f h|NotEq=>exact Bs (.inr rfl) g G d e f h|Lt=>exact PK d e f h|Gt=>exact N7 d e f h|Is=>exact OF d e f h|IsNot=>exact OH d e f h|In=>exact Oq X g G d e f h|NotIn=>exact Qp X d e f h|_=>exact fl h
end
end
section
set_option backward.match.sparseCases false
noncomputable def nB:aH→Bool|.Slice ..=>ah|_=>af
theorem pL(h:nB e=af)(o i):subscripted e ah o i=operate [o,i] (getItem o i):=by unfold subscripted;cases e <;>first | rfl | exact cb h
section
variable{c:aU}{J:bo}{S:aA}{W:bP}{s:aP}{Q:bU}{bj:ay→aP→Prop}{ai:cp}
theorem o8(x:h.IsTuple a items):IsTup h a items:=by refine c0 x λo b h2 xr=>aG xr λn d=>?_;exact(cJ o b h2 ⟨n,d⟩)
theorem Dy(h:placeOk n i):place n i<n∧(0≤i→place n i=i.toNat)∧(i<0→place n i=(i+n).toNat)∧seqIndex? i n=U (place n i):=by
  refine cR h λd h2 e=>?_;unfold place seqIndex?;by_cases q:0≤i
  · have dU:¬ i<0:=by lia
    simp only [q,dU,if_true,if_false,h2,and_self,decide_true,Vi];refine(c5 (by lia) (λag=>trivial) (λh=>h.elim) trivial)
  · have dU:i<0:=by lia
    obtain a:0≤i+(n:Int):=by lia
    obtain b:i+(n:Int)<n:=by lia
    simp only [q,dU,if_true,if_false,a,b,and_self,decide_true,Vi];refine(c5 (by lia) (λh=>h.elim) (λag=>by rw [Gb]) ?_);rw [Gb]
theorem B9(g:s.heap.IsList a vs.toArray)(d:ba c Z ga vs xs)(h:o6 xs i P)
    (j:∀ v x,P x→aK c Z ga v x→R v s):aD c.M J.A (getItem (.ref a) (.int i u)) R bj s:=by
  refine aC h λb h2=>(cy h2) _ λx h2 f=>?_;refine aI (d.get h2) λv e r=>hp (Dy b) λm k l n=>?_;obtain ak:=b.2.2;by_cases q:0≤i
  · obtain e:=(k q)▸e;exact wpAny_getItem_list g q (by have:=b.2.1;lia) (by simpa using e) (j _ _ f r)
  · obtain e:=(l (by lia))▸e;exact wpAny_getItem_list_neg g (by lia) (by simp [d.length];exact b.1) (by have:=b.1;lia) (by simpa [d.length] using e) (j _ _ f r)
theorem On(g:s.heap.IsTuple a vs.toArray)(d:ba c Z ga vs xs)(h:o6 xs i P)
    (k:∀ v x,P x→aK c Z ga v x→R v s):aD c.M J.A (getItem (.ref a) (.int i u)) R bj s:=by
  refine aC h λb h2=>(cy h2) _ λx h2 f=>?_;refine aI (d.get h2) λv e r=>hp (Dy b) λm n o l=>?_;obtain ak:=b.2.2;exact PyProof.Rows.getItem_tuple (o8 g) (by have:=b.1;lia) (by have:=b.2.1;lia) (j:=place xs.length i) (by simpa [d.length] using l) (by simpa using e) (k _ _ f r)
theorem v7{K:Type}[DecidableEq K]{knd:KeyKind c.prog c.w K}{value slice:aH}(j:nB slice=af){d:aq}{kvs:List (K×ay)}{k:K}{b:ay}{o':Option V}(l:av c J S W s)(hd:s.heap.DictOf knd d kvs)(ak:knd.is k b=af)(m:(o'=ae∧valueAt kvs k=ae)∨∃ x v,o'=U x∧valueAt kvs k=U v∧aK c (ar J S W s.heap) W.ga v x)(h:bF o' λz=>Q z S):aD c.M J.A (subscriptTail value slice (.ref d) b) (bQ c J S W s Q) bj s:=by
  refine(cy h) _ λx a i=>?_;refine aS m (λf=>aC f λe _=>?_) λf=>dn f λn v e g r=>?_
  · obtain a:=e▸a;exact nn a
  · obtain a:=e▸a;obtain r:=(aX a)▸r;exact lr hd.mapOf.typeIs slot_dict_getitem.lookup (wpAny_getItem_of ak hd.mapOf g (.here l i r _)) (pL j _ _)
theorem Ol(X:c.Ok){value slice:aH}(w:nB slice=af){a b:ay}{g:Nat}{y:V}(f:av c J S W s)(j:aK c (ar J S W s.heap) W.ga a (.aB g))(p:aK c (ar J S W s.heap) W.ga b y)
    (h:e0 S.aE g y λz=>Q z S):aD c.M J.A (subscriptTail value slice a b) (bQ c J S W s Q) bj s:=by
  cases y with
  | int i=>
    refine(cy h) _ λo e k=>?_;refine aG p.int_inv λt N=>?_;obtain rfl:=N;clear p;cases o with
    | list xs=>
      refine(gI f j e) _ λl F _ G=>?_;clear e j;obtain rfl:=F;refine dP G λvs n m h2=>?_;obtain H:s.heap.IsList l vs.toArray:=(cJ _ m rfl ⟨n,rfl⟩)
      exact lr H.typeIs WM.lookup (B9 H h2 k λv x q r=>.same f q r) (pL w _ _)
    | id es=>
      refine(gI f j e) _ λd D O E=>?_;clear e j;obtain rfl:=D;exact dn E λo ds m h2 u=>v7 w f (hg.mpr (aM o m h2)) (lq _ _ _ _) (wg u i) k
    | _=>exact fl k
  | lit n=>
    refine aI (De h) λes e k=>aI p.j7 λt L I=>?_;clear p;obtain rfl:=L;refine(gI f j e) _ λd B O C=>?_;clear e j;obtain rfl:=B;exact dn C λo ds m h2 u=>v7 w f (hg.mpr (aM o m h2)) (mO _ _ _ _) (pb X.inj u I) k
  | _=>exact fl h
theorem Oj(X:c.Ok){value slice:aH}(m:nB slice=af){a b:ay}{x y:V}(p:av c J S W s)(e:aK c (ar J S W s.heap) W.ga a x)(f:aK c (ar J S W s.heap) W.ga b y)
    (h:cr x y S λz=>Q z S):aD c.M J.A (subscriptTail value slice a b) (bQ c J S W s Q) bj s:=by
  cases x with
  | list xs=>
    obtain B:=e.gs;clear e;refine B _ λa vs I D e=>?_;obtain rfl:=I;refine(e1 f h) _ λi t R h=>?_;clear f B;obtain rfl:=R;obtain k:=fR (Z':=s.heap) ct D;exact lr k.typeIs WM.lookup (B9 k e h λv x q r=>.same p q r) (pL m _ _)
  | ao xs=>
    obtain B:=e.gv;clear e;refine B _ λa vs H D e=>?_;obtain rfl:=H;refine(e1 f h) _ λi t P h=>?_;clear f B;obtain rfl:=P;obtain k:=f3 (Z':=s.heap) ct D;exact lr (by refine c0 k λo j h2 _=>?_;exact(aM o j h2)) PySem.F.slot_tuple_getitem.lookup (On k e h λv x q r=>.same p q r) (pL m _ _)
  | bytes Z=>
    refine aG e.gj λt Y=>?_;obtain rfl:=Y;refine(e1 f h) _ λi u O T=>?_;clear f e;obtain rfl:=O;refine hp T λam j h2 C=>?_;have:=PySem.W.getItem_bytes (prog:=c.prog) (w:=c.w) (A:=J.A) (E:=bj) (s:=s) (t:=t) (u:=u) (l:=Z.toList) (i:=i) (Q:=bQ c J S W s Q) (by refine ac tc ?_;exact leB ‹_› rfl) am (by refine ac tc ?_;exact j) (.here p C (.int _ _) _)
    obtain this:=Array.toArray_toList▸this;exact lr (i5 _ _ _) tn.lookup this (pL m _ _)
  | dict es=>
    refine(pv f h) _ λn t G N h=>?_;obtain rfl:=G;refine e.l2 _ λd o kvs L ap j h2 C=>?_;clear e f;obtain rfl:=L;exact v7 m p (hg.mpr (aM o (ct _ _ j) h2)) (mO _ _ _ _) (pb X.inj C N) h
  | aB g=>exact Ol X m p e f h
  | _=>exact fl h
theorem ba.drop(k)(h:ba c Z ga vs xs):ba c Z ga (vs.drop k) (xs.drop k):=by
  induction k generalizing vs xs with
  | zero=>exact h
  | succ k d=>cases xs with
    | nil=>refine ac h.nil_inv ?_;exact .nil
    | cons=>have b:=h.cons_inv;clear h;refine b _ λ_ _ a _ h=>?_;clear b;obtain rfl:=a;exact d h
theorem ba.take(k)(h:ba c Z ga vs xs):ba c Z ga (vs.take k) (xs.take k):=by
  induction k generalizing vs xs with
  | zero=>exact .nil
  | succ k e=>cases xs with
    | nil=>refine ac h.nil_inv ?_;exact .nil
    | cons=>have d:=h.cons_inv;clear h;refine d _ λ_ _ b a h=>?_;clear d;obtain rfl:=b;exact .cons a (e h)
theorem ba.cut(h:ba c Z ga vs xs)(lo au):ba c Z ga (slicePick vs.toArray lo au ae).toList (cut xs lo au):=by rw [slicePick_plain];unfold Internal.cut;simp only [gQ,h.length];exact(h.drop _).take _
noncomputable def kC(c:aU)(Z:bz)(ga:List aq)(v:ay):Option V→Prop|some x=>aK c Z ga v x|none=>v=.none
theorem Ch(h:wQ x=U l)(r:kC c Z ga v x):ts v l:=by
  cases x with
  | none=>refine bG (aX h) ?_;exact ac (show v=.none from r) .none
  | some x=>
    refine(eV h) _ λi e h=>?_;obtain r:aK c Z ga v x:=r;rw [iA e] at r;refine aG r.int_inv λt a=>?_;clear r;obtain rfl:=a;exact bG h (.int _ _)
theorem Fe(m:av c J S W s)(i:s.heap.IsList a vs.toArray)(g:ba c (ar J S W s.heap) W.ga vs xs)(n:ts b l)(o:ts d h)
    (hz:xs.length≤2^20) (j:Q (.list (cut xs l h)) S):
    aD c.M J.A (subscriptTail value (.Slice lower upper ae p) (.ref a) (.ref s.heap.objs.size)) (bQ c J S W s Q) bj {s with heap:=s.heap.push {cls:=.type "slice",data:=.fields #[b,d,.none]}}:=by
  refine cR (m.push {cls:=.type "slice",data:=.fields #[b,d,.none]} s.toks) λs1 t1 _=>?_;obtain f:(s.heap.push {cls:=.type "slice",data:=.fields #[b,d,.none]}).IsList a vs.toArray:=i.push _;refine lr (Heap.IsList.typeIs (s:={s with heap:=s.heap.push {cls:=.type "slice",data:=.fields #[b,d,.none]}}) f) list_getitem_lookup (wpAny_getItem_list_slice f (F9 ..) n o .none (by decide) ?_ (by simp [g.length];exact hV hz)) rfl;refine bQ.of t1 (bQ.push s1 _ rfl j s.toks λk e=>.list (cJ _ e rfl ⟨_,rfl⟩) (((g.step t1).cut l h).mono k (.refl _)))
theorem TG(m:av c J S W s)(hz:x.length≤2^20)(l:Q (.str (tM x ae (U j))) S):
    aD c.M J.A (subscriptTail value (.Slice lower upper ae p) (.str x t) (.ref s.heap.objs.size)) (bQ c J S W s Q) bj {s with heap:=s.heap.push {cls:=.type "slice",data:=.fields #[.none,.int j uj,.none]}}:=by
  refine dn (SBH.sliceItem_ns (prog:=c.prog) (w:=c.w) (A:=J.A) (E:=bj) (P:=λh=>∀ b o,s.heap.get? b=U o→h.get? b=U o) (s:=s) (x:=x) (t:=t) (j:=j) (uj:=uj) (Q:=bQ c J S W s Q)
    (λh n k b o e=>dX _ (k b o e)) (λag ag e=>e) (λh' q k i=>by obtain⟨a,d⟩:=m.grow (s':=(bp s h' k)) rfl rfl rfl i;exact(λ_ aj=>aj _ S W l a d (.str _ _))) (hV hz)) λT id f h2 g=>?_
  exact lr h2 f g rfl
theorem TF(f:av c J S W s)(g:ts a l)(i:ts d h)(hz:b.size≤2^20)(e:Q (.bytes (cut b.toList l h).toArray) S):
    aD c.M J.A (subscriptTail value (.Slice lower upper ae p) (.bytes b t) (.ref s.heap.objs.size)) (bQ c J S W s Q) bj {s with heap:=s.heap.push {cls:=.type "slice",data:=.fields #[a,d,.none]}}:=by
  refine cR (f.push {cls:=.type "slice",data:=.fields #[a,d,.none]} s.toks) λs1 t1 _=>?_;refine lr (i5 _ _ _) tn.lookup (getItem_meets (i5 _ _ _) (by decide) tn Vy (Vx _ _) (KBc.meets_slice2 b t _ g i)
    (bk (F9 _ _ _ _) (dt (KBc.size_picked_le b l h) (hV hz)) λj k=>?_)) rfl
  refine bQ.of t1 (bQ.here s1 e ?_ k);exact ac (show KBy.picked b l h=(cut b.toList l h).toArray by rw [KBc.picked_eq];simp [cut]) (.bytes _ _)
noncomputable abbrev TD(c:aU)(J:bo)(S:aA)(W:bP)(s:aP)(Q:bU)(bj:ay→aP→Prop)(value:aH)(lower:Option aH)(upper:Option aH)(p:Pos)(a:ay)(b:ay)(d:ay):Prop:=aD c.M J.A (subscriptTail value (.Slice lower upper ae p) a (.ref s.heap.objs.size)) (bQ c J S W s Q) bj {s with heap:=s.heap.push {cls:=.type "slice",data:=.fields #[b,d,.none]}}
theorem TC(F:ai.ls=c.ls){lo au:Option V}(k:av c J S W s)(d:aK c (ar J S W s.heap) W.ga a x)
    (m:kC c (ar J S W s.heap) W.ga G lo) (w:kC c (ar J S W s.heap) W.ga H au)
    (h:gu ai x lo au S λz=>Q z S):TD c J S W s Q bj value lower upper p a G H:=by
  refine(cy h) _ λl f h=>?_;refine(cy h) _ λh' i h=>?_;have o:=Ch f m
  have q:=Ch i w;cases x with
  | list xs=>
    obtain A:=d.gs;clear d;refine A _ λa vs v E d=>?_;clear A i m f;obtain rfl:=v;exact Fe k (fR ct E) d o q h.1 h.2
  | bytes b=>
    obtain⟨t,y⟩:=d.gj;clear d w i m f;obtain rfl:=y;exact TF k o q h.1 h.2
  | lit n=>
    obtain⟨t,rfl,_⟩:=d.j7;obtain⟨B,h⟩:=h;refine(cy h) _ λj C h=>?_;subst B C;cases o;clear d w i m f;cases q;obtain h:=F▸h;exact TG k h.1 h.2
  | aB g=>
    obtain⟨xs,e,h⟩:=nE h;refine(gI k d e) _ λa r _ u=>?_;clear d f m i;obtain rfl:=r;obtain⟨vs,n,D,h2⟩:=u;exact Fe k (cJ _ D rfl ⟨n,rfl⟩) h2 o q h.1 h.2
  | _=>exact fl h
end
end
noncomputable def uh(h:bz)(x C:aq):Prop:=∀ a:Prop,(∀ (ox cP ds n),h.get? x=U ox→ox.cls=.ref C→notCls ox=af→ox.dict=U cP→h.get? cP=U (dictOf ds n)→a)→a
noncomputable def tyName(t:Nat):String:=match t with|0=>"NoneType" | 1=>"bool" | 2=>"int" | 3=>"str" | 4=>"bytes" | 5=>"tuple" | 6=>"list" | _=>"dict"
structure mV(c:aU)(ai:cp):Prop where
  ls:ai.ls=c.ls
  wj:∀ C x,ai.fC C=af→KitX c.K (.ref x) (.ref C) (λh=>uh h x C)
  kV:∀ C D,ai.fC C=af→ai.fC D=af→kitOne c.K (.ref C) (.ref D)=U (ai.hu C D)
  Cm:∀ C n,ai.fC C=af→n≤4→kitOne c.K (.ref C) (ec n)=U ah
  Cn:∀ D t,ai.fC D=af→t≤7→kitOne c.K (.type (tyName t)) (.ref D)=U ah
theorem Pj(K):((kp 8).all λt=>(kp 5).all λn=>kitOne K (.type (tyName t)) (ec n)==U (iL t n))=af:=by kernel_rfl
theorem Pl(K)(b:t≤7)(a:n≤4):kitOne K (.type (tyName t)) (ec n)=U (iL t n):=eq_of_beq (i2.mp (i2.mp (Pj K) t (xJ.mpr (qf b))) n (xJ.mpr (qf a)))
section
variable{c:aU}{J:bo}{S:aA}{W:bP}{s:aP}{Q:bU}{bj:ay→aP→Prop}{ai:cp}
theorem OB(k:∀ b o,Z.get? b=U o→h.get? b=U o)(r:aK c Z ga v (.a3 C fs)):∃ x,v=.ref x∧uh h x C:=by refine r.r6 _ λx cP ox ds n e a h2 d f g _=>?_;exact(aM x e (λ_ aj=>aj ox cP ds n (k _ _ a) h2 d f (k _ _ g)))
noncomputable def Pn(c:aU)(h:bz)(v:ay)(t:Nat):Prop:=∀ a:Prop,(t≤7→(∃ H,KitX c.K v (.type (tyName t)) H∧H h)→a)→a
theorem Pm(k:∀ b o,Z.get? b=U o→h.get? b=U o)(r:aK c Z ga v x)(e:nR x=U t):Pn c h v t:=by
  cases x with
  | none=>obtain rfl:=aX e;exact ac r.none_inv (λ_ aj=>aj (by decide) (aM _ kitx_none trivial))
  | bool=>obtain rfl:=aX e;exact ac r.bool_inv (λ_ aj=>aj (by decide) (aM _ kitx_bool trivial))
  | int=>obtain rfl:=aX e;refine aG r.int_inv λ_ u=>?_;clear r;obtain rfl:=u;exact(λ_ aj=>aj (by decide) (aM _ kitx_int trivial))
  | lit n=>obtain rfl:=aX e;refine aI r.j7 λ_ q _=>?_;clear r;obtain rfl:=q;exact(λ_ aj=>aj (by decide) (aM _ kitx_str trivial))
  | str=>obtain rfl:=aX e;refine aG r.str_inv λ_ p=>?_;clear r;obtain rfl:=p;exact(λ_ aj=>aj (by decide) (aM _ kitx_str trivial))
  | bytes=>obtain rfl:=aX e;refine aG r.gj λ_ m=>?_;clear r;obtain rfl:=m;exact(λ_ aj=>aj (by decide) (aM _ kitx_bytes trivial))
  | ao=>obtain rfl:=aX e;refine r.gv _ λ_ _ j l _=>?_;clear r;obtain rfl:=j;exact c0 l λo a h2 _=>(λ_ aj=>aj (by decide) (aM _ kitx_tuple ⟨o,k _ _ a,h2⟩))
  | list=>obtain rfl:=aX e;refine r.gs _ λ_ _ g i _=>?_;clear r;obtain rfl:=g;exact c0 i λo a h2 _=>(λ_ aj=>aj (by decide) (aM _ kitx_list ⟨o,k _ _ a,h2⟩))
  | dict=>obtain rfl:=aX e;refine r.l2 _ λ_ o _ d _ a f _=>?_;clear r;obtain rfl:=d;exact dP f λes ep w _=>aC w λy _=>(λ_ aj=>aj (by decide) (aM _ kitx_dict ⟨o,k _ _ a,y⟩))
  | _=>exact nn e
theorem Ie(h:qR o=U t):(∃ xs,o=.list xs∧t=6)∨∃ es,o=.cY es∧t=7:=by cases o <;>first | exact .inl (aM _ rfl ((aX h).symm)) | exact .inr (aM _ rfl ((aX h).symm)) | exact nn h
theorem r9(X:c.Ok)(a:av c J S W s)(Z:KitX c.K v t H)(p:H s.heap)(e:kitOne c.K t cl=U b)(f:v≠.builtin "__main__.__loader__#opaque")(d:Q (.bool b) S):
    aD c.M J.A (call (.builtin "isinstance") [v,cl]) (bQ c J S W s Q) bj s:=
  kia_one Z (X.X.keeps a.keep) p e f λcj=>.here a d (.bool _) cj
noncomputable def AD(v:ay):Bool:=match v with | .builtin _=>af | _=>ah
theorem UR(r:aK c Z ga v x)(e:nR x=U t):v≠.builtin "__main__.__loader__#opaque":=by
  revert e;have k:∀ {v x},aK c Z ga v x→nR x=U t→AD v=ah:=λr=>aK.casesOn (motive_1:=λv x ag=>nR x=U t→AD v=ah) r (λag=>rfl) (λag ag=>rfl) (λag ag ag=>rfl) (λag ag e ag ag=>ac e rfl) (λag ag ag=>rfl) (λag ag ag=>rfl) (λag ag ag=>rfl) (λag ag ag=>rfl) (λag ag ag ag ag=>rfl) (λag ag ag ag ag ag ag=>rfl) (λag ag=>rfl) (λag ag ag=>rfl) (λag ag ag h=>nn h)
  exact λe q=>cb ((k r e).symm.trans (ac q rfl))
noncomputable def Pk(c:aU)(s:aP)(v:ay)(t:Nat):Prop:=∀ a:Prop,(t≤7→v≠.builtin "__main__.__loader__#opaque"→(∃ H,KitX c.K v (.type (tyName t)) H∧H s.heap)→a)→a
theorem CA(y:av c J S W s)(r:aK c (ar J S W s.heap) W.ga v x)(e:pT S x=U t):Pk c s v t:=by
  by_cases q:∃ g,x=.aB g
  · refine aG q λg p=>?_;clear q;obtain rfl:=p;refine(df (show S.aE[g]?.bind qR=U t from e)) _ λo m u=>?_;refine(gI y r m) _ λd k A f=>?_;obtain rfl:=k;clear m r e;rcases Ie u with⟨xs,rfl,rfl⟩ | ⟨es,rfl,rfl⟩
    · refine dP f λvs B a h2=>?_;clear f;exact(λ_ aj=>aj (by decide) (λq=>(nomatch q)) (aM _ kitx_list ⟨_,a,rfl⟩))
    · refine dn f λo ds a j n=>?_;clear f;refine dP j λz ep i _=>?_;clear j;refine aC i λw _=>?_;clear i;exact(λ_ aj=>aj (by decide) (λq=>(nomatch q)) (aM _ kitx_dict ⟨o,a,w⟩))
  · have l:nR x=U t:=by cases x <;>first | exact e | exact absurd ⟨_,rfl⟩ q
    refine(Pm (h:=s.heap) ct r l) _ λa b=>?_;refine aI b λH h2 n=>?_;clear b;exact(λ_ aj=>aj a (UR r l) (aM H h2 n))
noncomputable abbrev OL(c:aU)(J:bo)(S:aA)(W:bP)(s:aP)(Q:bU)(bj:ay→aP→Prop)(a:ay)(b:ay):Prop:=aD c.M J.A (call (.builtin "isinstance") [a,b]) (bQ c J S W s Q) bj s
theorem OK(X:c.Ok)(T:mV c ai)(i:av c J S W s)(g:aK c (ar J S W s.heap) W.ga a x)(d:aK c (ar J S W s.heap) W.ga b y)
    (h:db ai x y S λz=>Q (.bool z) S):OL c J S W s Q bj a b:=by
  cases au:jk x with
  | some p=>
    obtain g:=(q1 au)▸g;refine aI (OB (h:=s.heap) ct g) λu v I=>?_;obtain rfl:=v;cases y with
    | a6 D=>
      refine aC d.o1 λr _=>?_;clear d g;obtain rfl:=r;refine aC h λf h=>?_;obtain h:=au▸h;exact r9 X i (T.wj p.1 u h.1) I (T.kV p.1 D h.1 f) (λe=>nomatch e) h.2
    | cC n=>
      refine aC d.oR λq _=>?_;clear d g;obtain rfl:=q;refine aC h λf h=>?_;obtain h:=au▸h;exact r9 X i (T.wj p.1 u h.1) I (T.Cm p.1 n h.1 f) (λe=>nomatch e) h.2
    | _=>exact fl h
  | none=>
    cases y with
    | a6 D=>
      refine aC d.o1 λo _=>?_;clear d;obtain rfl:=o;refine aC h λf h=>?_;obtain h:=au▸h;refine aG (kr.mp h.1) λt e=>(CA i g e) _ λbX cw k=>?_;exact aI k λH eu j=>r9 X i eu j (T.Cn D t f bX) cw h.2
    | cC n=>
      refine aC d.oR λm _=>?_;clear d;obtain rfl:=m;refine aC h λf h=>?_;obtain h:=au▸h;refine(cy h) _ λt e h=>?_;refine(CA i g e) _ λbX cw l=>?_;exact aI l λH eu j=>r9 X i eu j (Pl c.K bX f) cw h
    | _=>exact fl h
end
theorem Fj:∀ l,sortedS l=af→l.Pairwise λa b=>a.cps.toList≤b.cps.toList
  | [],_=>.nil
  | [_],_=>by simp
  | x :: y :: r,h=>by
    have h':(!PySem.Spec.ltCps y.cps.toList x.cps.toList&&risingS y r)=af:=h;rw [xz,th,ltCps_eq,decide_eq_false_iff_not] at h';have c:=Fj (y :: r) h'.2;have d:x.cps.toList≤y.cps.toList:=h'.1;refine V8.mpr ⟨λz hz=>?_,c⟩;rcases b9.mp hz with rfl | hz
    · exact d
    · exact VW d ((V8.mp c).1 z hz)
theorem TM(ai:cp)(bt:e.Perm (xs.map ai.ls))(f:e.Pairwise λa b=>a.cps.toList≤b.cps.toList):e=(ki ai xs).map ai.ls:=by
  obtain c:=Wa (le:=λa b=>decide ((ai.ls a).cps.toList≤(ai.ls b).cps.toList)) (by
    intro a b d c h2;simp only [decide_eq_true_eq] at c h2 ⊢;exact VW c h2) (by
    intro a b;simp only [nV,decide_eq_true_eq];exact List.le_total _ _) xs
  refine VK (le:=λa b:Str=>a.cps.toList≤b.cps.toList) (λa b ag ag p q=>?_) f ?_ (bt.trans ((Gu xs _).map ai.ls).symm)
  · have:=List.le_antisymm p q;cases a;(try clear q);(try clear p);(try clear ag);(try clear ag);(try clear p);(try clear q);cases b;simp only [Str.mk.injEq];exact Array.toList_inj.mp this
  · rw [V9];exact c.imp λh=>by simpa using h
theorem TP(bt:is.Perm xs)(e:is.Pairwise (·≤·)):is=mu xs:=by
  obtain c:=Wa (le:=λa b:Int=>decide (a≤b)) (by
    intro a b d c h2;simp only [decide_eq_true_eq] at c h2 ⊢;exact p8 ‹_› ‹_›) (by
    intro a b;simp only [nV,decide_eq_true_eq];lia) xs
  exact VK (le:=λa b:Int=>a≤b) (λa b ag ag p q=>Int.le_antisymm p q) e (c.imp λh=>by simpa using h) (bt.trans (Gu xs _).symm)
section
variable{c:aU}{J:bo}{S:aA}{W:bP}{s:aP}{Q:bU}{bj:ay→aP→Prop}{ai:cp}
theorem JN(h:R (.bytes b t) s):aD (model prog w) A (call (.type "bytes") [.bytes b t]) R bj s:=by
  refine callType_codes (Q₁:=λobj d=>d.TypeIs obj "bytes"∧R obj d) GH (PySem.F.bm_typeCall _) PySem.F.entry_object_init ?_ λobj d h₁=>(bk h₁.1 (PySem.F.args_object_init_2 obj _) (object_init_meets GH.init.lookup GH.made (by decide) prog w A.in1 _ d ⟨h₁.1,rfl,h₁.2⟩))
  refine GR ?_;show aD _ A.in1.in1 (do checkBuiltinCall "bytes.__new__" ⟨[.type "bytes",.bytes b t],[]⟩;again (.builtin "bytes.__new__" ⟨[.type "bytes",.bytes b t],[]⟩)) _ _ s;refine ax (fx (PySem.F.bm_newCall _) (bg ⟨plainId_quiet Wv _,codeAny_builtin PySem.F.bm_entry ?_⟩));refine ac (Around.under_plainId Wv _) ?_;unfold eQ.«bytes.__new__»;refine ax (fx (a:=af) rfl ?_);refine GN rfl (ax (fx PySem.F.bm_sub ?_));refine GN rfl (ax (fx (PySem.F.bm_bind _) ?_));refine ax (fx (a:=()) rfl ?_);refine ax (fx (a:=()) rfl ?_);refine GN rfl (ax (wpAny_specialOf (T:="bytes") (i5 _ _ _) (r:=U (.builtin "bytes.__bytes__")) ?_ ?_))
  · rewrite [GZ];refine ac GO ?_;kernel_rfl
  · dsimp only;refine ax (oe ?_);refine ax (fx (a:=Value.type "bytes") rfl ?_);exact lu (ac (if_pos (by decide)) (bg ⟨i5 _ _ _,h⟩))
theorem xh(h:dO c Z ga kvs es):kvs.map (·.1)=(es.map (·.1)).map c.ls:=by
  induction es generalizing kvs with
  | nil=>refine ac (show kvs=[] from h.inv) ?_;rfl
  | cons p es b=>
    refine jf (show ∃ v us,kvs=(c.ls p.1,v) :: us∧p.1<c.nl∧aK c Z ga v p.2∧dO c Z ga us es from h.inv) λv us a _ _ r=>?_;obtain rfl:=a;refine ac fa (ac (b r) ?_);rfl
theorem Cz(h:dO c Z ga kvs es):∀ k∈es.map (·.1),k<c.nl:=by
  induction es generalizing kvs with
  | nil=>intro k a;cases a
  | cons p es d=>
    refine jf (show ∃ v us,kvs=(c.ls p.1,v) :: us∧p.1<c.nl∧aK c Z ga v p.2∧dO c Z ga us es from h.inv) λv us b q _ r=>?_;obtain rfl:=b;intro k a;rcases b9.mp a with rfl | a
    · exact q
    · exact d r k a
theorem Cf(h:gD c Z ga kvs es):kvs.map (·.1)=es.map (·.1):=by induction h with|nil=>rfl|cons _ _ a=>simp [a]
theorem Sb:∀ {ys:List Nat} {vs:List ay},(∀ k∈ys,k<c.nl)→StrsAre vs (ys.map c.ls)→ba c Z ga vs (ys.map .lit):=by
  intro ys
  induction ys with
  | nil=>
    intro _ _ h;cases h;exact .nil
  | cons y ys d=>
    intro _ a h;cases h with | cons _ t r=>
    exact .cons (.lit y t rfl (a y (V4 ..))) (d (λk b=>a k (Gs _ b)) r)
theorem ES(h:tr vs is):ba c Z ga vs (is.map .int):=by induction h with|nil=>exact .nil|cons i t _ a=>exact .cons (.int i t) a
theorem Fl{K:Type}[DecidableEq K]{knd:KeyKind c.prog c.w K}{kvs:List (K×ay)}{d:aq}{x:V}(G:J.Ok)(t:av c J S W s)(lo:(d==sysModules)=ah)(hd:s.heap.DictOf knd d kvs)(am:kvs.length<60)(R:Q x S)(F:∀ (D:aq) (vs:List ay) a P (E:ay→aP→Prop),vs.length=kvs.length→(∀ (j:Nat) (v:ay),vs[j]?=U v→∃ k y,kvs[j]?=U (k,y)∧knd.is k v=af)→a.heap.get? D=U (seqObj "list" vs.toArray 0)→(∀ out:Array ay,(∀ Z ga,∃ xs,x=.list xs∧ba c Z ga out.toList xs)→P (.done (.ret .none)) (dh a (sortedHeap a.heap D vs out)))→aD c.M J.A.in1.in1 (eQ.«list.sort» ⟨[.ref D],[]⟩) P E a):
    aD c.M J.A (call (.builtin "sorted") [.ref d]) (bQ c J S W s Q) bj s:=by
  refine aG hd.dictAt λep B=>kdu_sorted (kdl_dict (knd:=knd) (kvs:=kvs) (ep:=ep) lo) G.handled (rT t) (sp:News c.ak J.a8.locals s.heap _) B (kdl_size (iM ‹_› rfl)) λD h' cj vs l i l1 N T=>?_;have n:=(i _ (.head _)).1
  refine oa slot_list_sort (aM _ n rfl) entry_list_sort (F D vs (bp s h' cj) _ _ N (λj v e=>T j v e) n λout O=>(aM _ rfl ?_)) (args_list_sort _);refine aI (O (ar J S W (sortedHeap h' D vs out)) W.ga) λxs H Y=>?_;obtain rfl:=H;have f:D≠J.a8.locals:=(i _ (.head _)).2.1
  have g:c.ak.get? D=ae:=(i _ (.head _)).2.2;have lt:∀ {b o},h'.get? b=U o→b≠D→(sortedHeap h' D vs out).get? b=U o:=λ{b o} e ak=>(sortedHeap_old ak (eX e)).trans e;refine aG (sortedHeap_at (out:=out) n) λe h=>?_;obtain cz:Fr c.ak J.a8.locals (sortedHeap h' D vs out) W.m:=by refine jg l.ns λX es u L r=>⟨uQ X es u (lt L (jK f)) r,λb o q=>lt (l.keep b o q) λz=>?_,l.above⟩;obtain q:=z▸q;obtain q:=g▸q;exact nn q
  obtain I:News c.ak J.a8.locals (sortedHeap h' D vs out) ((D,seqObj "list" out e) :: jU c.ak J.a8.locals s.heap):=λp bt=>by
    rcases b9.mp bt with rfl | bt
    · exact(bk h f g)
    · obtain q:=i p (Gs _ bt);exact⟨lt q.1 (lj (l1 p bt)),q.2⟩
  refine aC (t.news (ex:=[_]) cz I cj) λs1 t1=>(λ_ aj=>aj _ S W R s1 t1 (.list (vs:=out.toList) (cJ _ (fg h λm=>?_) rfl ⟨e,by rfl⟩) Y));by_cases q:D=J.a8.locals
  · exact f q
  · refine aG (t.there D m) λo C=>?_;have:(D,o)∈jU c.ak J.a8.locals s.heap:=wu.mpr (bk q g C)
    exact gA _ (l1 _ this)
theorem Uf{kvs:List (Str×ay)}:∀ {vs:List ay},vs.length=kvs.length→(∀ (j:Nat) v,vs[j]?=U v→∃ k y,kvs[j]?=U (k,y)∧c.hQ.is k v=af)→StrsAre vs (kvs.map (·.1)):=by
  induction kvs with
  | nil=>intro vs h _;cases vs <;>first | exact .nil | simp at h
  | cons p kvs d=>
    intro vs h a;cases vs with
    | nil=>simp at h
    | cons v vs=>
      refine dP (a 0 v rfl) λk y e r=>?_;simp at e;subst e;refine aG (Value.isStrOf_shape r) λt b=>?_;(try clear r);obtain rfl:=b;exact .cons _ t (d (by simpa using h) λj v e=>by simpa using a (j+1) v (by simpa using e))
theorem OE{kvs:List (Int×ay)}:∀ {vs:List ay},vs.length=kvs.length→(∀ (j:Nat) v,vs[j]?=U v→∃ k y,kvs[j]?=U (k,y)∧c.gr.is k v=af)→tr vs (kvs.map (·.1)):=by
  induction kvs with
  | nil=>intro vs h _;cases vs <;>first | exact .nil | simp at h
  | cons p kvs d=>
    intro vs h a;cases vs with
    | nil=>simp at h
    | cons v vs=>
      refine dP (a 0 v rfl) λk y e r=>?_;simp at e;subst e;refine aG (Value.isInt_shape r) λt b=>?_;(try clear r);obtain rfl:=b;exact .cons _ t (d (by simpa using h) λj v e=>by simpa using a (j+1) v (by simpa using e))
theorem Fk(f:ai.ls=c.ls)(G:J.Ok)(p:av c J S W s){d:aq}{kvs:List (Str×ay)}{es:List (Nat×V)}(lo:(d==sysModules)=ah)(hd:s.heap.DictOf c.hQ d kvs)(r:dO c Z ga kvs es)(x:es.length<60)
    (o:Q (.list ((ki ai (es.map (·.1))).map .lit)) S):aD c.M J.A (call (.builtin "sorted") [.ref d]) (bQ c J S W s Q) bj s:=by
  have hlen:kvs.length=es.length:=by have:=congrArg mH (xh r);simpa using this
  refine Fl (knd:=c.hQ) G p lo hd (by lia) o λD vs q P E j h2 l m=>?_;have b:=Uf j h2
  obtain b:=(xh r)▸b;refine list_sort_treeK strKind_oneLt l b.keysOf (λt u rest e=>keyKind_strs (by refine bG e ?_;exact b)) (by lia) λw bt g=>?_;refine c0 (sorted_out_str b bt g) λv a h i=>m _ λZ ga=>(aM _ rfl ?_)
  have:=TM ai (xs:=es.map (·.1)) (by refine ac f ?_;exact h) (Fj _ i);obtain a:=this▸a;obtain a:=f▸a;refine Sb (λk n=>Cz r k ?_) a;exact(Gu _ _).mem_iff.mp n
theorem TQ(G:J.Ok)(k:av c J S W s){d:aq}{kvs:List (Int×ay)}{es:List (Int×V)}(lo:(d==sysModules)=ah)(hd:s.heap.DictOf c.gr d kvs)(r:gD c Z ga kvs es)(n:es.length<60)
    (j:Q (.list ((mu (es.map (·.1))).map .int)) S):aD c.M J.A (call (.builtin "sorted") [.ref d]) (bQ c J S W s Q) bj s:=by
  have hlen:kvs.length=es.length:=by have:=congrArg mH (Cf r);simpa using this
  refine Fl (knd:=c.gr) G k lo hd (by lia) j λD vs l P E g h2 h i=>?_;obtain a:=OE g h2;obtain a:=(Cf r)▸a;refine list_sort_tree h a (by lia) λout m b e f=>i _ λZ ga=>(aM _ rfl ?_)
  exact bG (TP e f) (ES b)
theorem Pv(i:av c J S W s)(d:aK c (ar J S W s.heap) W.ga a x)(h:lenOf S x=U k)(C:k≤2^20)(j:Q (.int k) S):aD c.M J.A (call (.builtin "len") [a]) (bQ c J S W s Q) bj s:=by
  cases x with
  | list xs=>
    obtain f:=d.gs;clear d;refine f _ λl vs u p d=>?_;(try clear f);obtain rfl:=u;obtain h:xs.length=k:=aX h;obtain h:=(d.length).symm▸h;refine F6 (fR ct p) (by refine ac gQ ?_;refine ac h ?_;lia) ?_;exact ac gQ (ac h (.here i j (.int _ _) _))
  | ao xs=>
    obtain f:=d.gv;clear d;refine f _ λl vs r p d=>?_;(try clear f);obtain rfl:=r;obtain h:xs.length=k:=aX h;obtain h:=(d.length).symm▸h;refine PyProof.Rows.len_tuple (o8 (f3 ct p)) (by refine ac gQ ?_;refine ac h ?_;lia) ?_;exact ac gQ (ac h (.here i j (.int _ _) _))
  | bytes b=>
    refine aG d.gj λt w=>?_;(try clear d);(try clear d);(try clear f);obtain rfl:=w;obtain h:b.size=k:=aX h;refine KBw.len_K rfl (by rw [VG];lia) ?_;rewrite [VG];exact ac h (.here i j (.int _ _) _)
  | aB g=>
    refine(eV (show(S.aE[g]?.bind lM).map (·.length)=U k from h)) _ λxs e h=>?_;refine(df e) _ λo m y=>?_;obtain m:=(uV y)▸m;refine(gI i d m) _ λl v B q=>?_;(try clear d);(try clear f);obtain rfl:=v;refine dP q λvs n z h2=>?_;dsimp only at h;obtain h:=(h2.length).symm▸h;refine F6 (cJ _ z rfl ⟨n,rfl⟩) (by refine ac gQ ?_;refine ac h ?_;lia) ?_;exact ac gQ (ac h (.here i j (.int _ _) _))
  | _=>exact nn h
theorem Qg(i):(if i<0 then -i else i)=(i.natAbs:Int):=by split <;>lia
theorem TL(X:c.Ok)(T:mV c ai)(G:J.Ok){a:ay}{x:V}(b:av c J S W s)(r:aK c (ar J S W s.heap) W.ga a x)(h:pJ ai x S λz=>Q z S):aD c.M J.A (call (.builtin "sorted") [a]) (bQ c J S W s Q) bj s:=by
  cases x with
  | dict es=>
    refine r.l2 _ λd o kvs m j f h2 i=>?_;obtain rfl:=m;exact Fk T.ls G b j (hg.mpr (aM o (ct _ _ f) h2)) i h.1 h.2
  | aB g=>
    refine(cy h) _ λo e k=>?_;refine(gI b r e) _ λd n l p=>?_;obtain rfl:=n;(try clear r);cases o with
    | cY es=>
      exact dn p λo ds f h2 i=>Fk T.ls G b (mi X b (nf l e (λq=>nomatch q))) (hg.mpr (aM o f h2)) i k.1 k.2
    | id es=>
      exact dn p λo ds f h2 i=>TQ G b (mi X b (nf l e (λq=>nomatch q))) (hg.mpr (aM o f h2)) i k.1 k.2
    | _=>exact fl k
  | _=>exact fl h
theorem I7(G:J.Ok)(d:av c J S W s)(r:aK c (ar J S W s.heap) W.ga a x)(h:jn x λz=>Q z S):aD c.M J.A (call (.type "bytes") [a]) (bQ c J S W s Q) bj s:=by
  cases x with
  | bytes b=>
    refine aG r.gj λt g=>?_;(try clear r);obtain rfl:=g;exact JN (.same d h.2 (.bytes _ _))
  | list xs=>
    refine(cy h) _ λis e h=>?_;refine r.gs _ λl vs f o i=>?_;(try clear r);obtain rfl:=f;exact call_bytes_ints (fR ct o) (intsAre_of i e) (λn q=>h.1 n q) (by have:=(intsAre_of i e).length;have:=hV h.2.1;lia) G.handled λh' t k p=>aC (d.grow (s':=(bp s h' k)) rfl rfl rfl p) λj m=>(λ_ aj=>aj _ S W h.2.2 j m (.bytes _ _))
  | _=>exact fl h
theorem H0(d:av c J S W s)(r:aK c (ar J S W s.heap) W.ga a x)(h:cc x λi=>Q (.int i.natAbs) S):aD c.M J.A (call (.builtin "abs") [a]) (bQ c J S W s Q) bj s:=by refine(e1 r h) _ λi t b h=>?_;(try clear r);obtain rfl:=b;refine call_abs_int λu cj=>?_;rw [Qg];exact .here d h (.int _ _) _
theorem OC(d:av c J S W s)(r:aK c (ar J S W s.heap) W.ga a x)(h:cc x λi=>Q (.int i) S):aD c.M J.A (call (.type "int") [a]) (bQ c J S W s Q) bj s:=by refine(e1 r h) _ λi t b h=>?_;(try clear r);obtain rfl:=b;exact call_int_int (.same d h (.int _ _))
theorem Ub(d:av c J S W s)(r:aK c (ar J S W s.heap) W.ga a x)(h:cc x λi=>i.natAbs<10^10∧Q (.str (ek (toString i))) S):aD c.M J.A (call (.type "str") [a]) (bQ c J S W s Q) bj s:=by
  refine(e1 r h) _ λi t b h=>?_;(try clear r);obtain rfl:=b;refine PySem.P.str_of_int ?_ (.here d h.2 (.str _ _) _);by_cases q:i.natAbs=0
  · refine ac q ?_;decide
  · rw [xP q];exact hj h.1 (by decide +kernel)
theorem UN(j:av c J S W s)(r:aK c (ar J S W s.heap) W.ga a x)(h:hA x λxs=>xs.length≤2^20∧Q (.ao xs) S):aD c.M J.A (call (.type "tuple") [a]) (bQ c J S W s Q) bj s:=by refine(nF r h) _ λl vs xs d g e h=>?_;(try clear r);obtain rfl:=d;refine call_tuple_list (fR ct g) (λh' i=>?_) (by refine ac gQ ?_;refine ac e.length ?_;exact hV h.1);exact aC (j.grow (s':=(dh s h')) rfl rfl rfl i) λf b=>bQ.of b (RT f (e.step b) h.2 s.toks)
theorem Uh(G:J.Ok)(b:av c J S W s)(r:aK c (ar J S W s.heap) W.ga a x)(h:pr x λg=>hU S.aE g λxs=>bF (allInts xs) λis=>is.length≤2^20∧Q (.int is.sum) S):aD c.M J.A (call (.builtin "sum") [a]) (bQ c J S W s Q) bj s:=by
  refine(cy h) _ λg j h=>?_;rw [oG j] at r;refine aI (nE h) λxs e h=>(cy h) _ λis i h=>?_;refine(gI b r e) _ λl d t f=>?_;(try clear r);obtain rfl:=d;refine dP f λvs n o h2=>?_;have au:=intsAre_of h2 i
  refine aG au.allInts.items λps bt=>?_;obtain q:s.heap.IsList l (intItems ps):=(cJ _ o rfl ⟨n,by exact bG bt rfl⟩)
  refine sum_intListG G.handled q λh' cj u p=>aC (b.grow (s':=(bp s h' cj)) rfl rfl rfl p) λk m=>(λ_ aj=>aj _ S W h.2 k m ?_);have:is=ps.toList.map (·.1):=by refine bG au.numsOf ?_;rewrite [← nums_intItems];exact bG bt rfl
  rewrite [preSum_eq];exact ac (Wf (by simp)) (bG this (.int _ _))
theorem ig{p:Prop}[Decidable p]{A B:Prop}(h:if p then A else B):(p∧A)∨(¬p∧B):=by
  by_cases q:p
  · rw [if_pos q] at h;exact .inl ⟨q,h⟩
  · rw [if_neg q] at h;exact .inr ⟨q,h⟩
noncomputable abbrev IP(c:aU)(J:bo)(S:aA)(W:bP)(s:aP)(Q:bU)(bj:ay→aP→Prop)(n:Nat)(vs:List ay):Prop:=aD c.M J.A (call (ec n) vs) (bQ c J S W s Q) bj s
theorem IN(X:c.Ok)(T:mV c ai)(G:J.Ok)(b:av c J S W s)(r:ba c (ar J S W s.heap) W.ga vs xs)(h:Au ai n xs S Q):IP c J S W s Q bj n vs:=by
  refine aS (ig h) (λa=>aC a λe h=>?_) λa=>aC a λ_ h=>?_
  · refine(nC h) _ λx t d h=>?_;obtain r:=d▸r;refine r.two _ λv u f i j=>?_;exact ac f (ac e (OK X T b i j h))
  refine aI (iP h) λx d h=>?_;obtain r:=d▸r;refine aI r.one λv f r=>ac f (aS (ig h) (λa=>aC a λe h=>?_) λa=>aC a λ_ h=>?_)
  · exact ac e (TL X T G b r h)
  refine aS (ig h) (λa=>aC a λe h=>?_) λa=>aC a λ_ h=>?_
  · refine(cy h) _ λk g h=>?_;exact ac e (Pv b r g h.1 h.2)
  refine aS (ig h) (λa=>aC a λe h=>?_) λa=>aC a λ_ h=>?_
  · exact ac e (H0 b r h)
  refine aS (ig h) (λa=>aC a λe h=>?_) λa=>aC a λ_ h=>?_
  · exact ac e (I7 G b r h)
  refine aS (ig h) (λa=>aC a λe h=>?_) λa=>aC a λ_ h=>?_
  · exact ac e (OC b r h)
  refine aS (ig h) (λa=>aC a λe h=>?_) λa=>aC a λ_ h=>?_
  · exact ac e (Ub b r h)
  refine aS (ig h) (λa=>aC a λe h=>?_) λa=>aC a λ_ h=>?_
  · exact ac e (UN b r h)
  refine aS (ig h) (λa=>aC a λe h=>?_) λa=>aC a λ_ h=>?_
  · exact ac e (Uh G b r h)
  · exact h.elim
end
theorem si(f:Array ay→Array ay)(a)(n):∃ b,hk f (listOf a n)=listOf (f a) b:=⟨_,rfl⟩
theorem Ng(l)(items)(n)(b)(a)(cg)(fY)(da)(c:items.size+a.size≤sizeLine):
    Meets (eQ.«list.extend» ⟨[.ref l,.ref b],[]⟩) (λag R s=>s.heap.get? l=U {cls:=.type "list",dict:=ae,data:=.seq items n,slots:=#[]}∧s.heap.get? b=U {cls:=.type "list",dict:=fY,data:=.seq a cg,slots:=da}∧R (.ok (.ret hl)) (bp s (s.heap.update l (hk λx=>x++a)) s.toks)):=
  .of_wp λprog w A R s h=>by
    obtain⟨bt,g,d,cj,os⟩:=s;refine cR h λf ak h=>?_;obtain j:=extend_door c;obtain e:items.size≤sizeLine:=dt (eA _ _) c;obtain f1:=AutoSeq1.idx_int;have f2:=AutoSeq1.sub_tuple_tuple;have k:=AutoSeq1.sub_list_list;have m:=AutoSeq1.sub_tuple_list;have o:=AutoSeq1.sub_list_tuple
    obtain i:(items++a).size≤sizeLine+1:=by refine ac td ?_;exact qe c
    wp_walk using (wpAny_updateSeq f rfl (hz:=e) (_hz':=i)),Vg f,Vg ak;exact(aM _ rfl h)
section
variable{c:aU}{J:bo}{S:aA}{W:bP}{s:aP}{Q:bU}{bj:ay→aP→Prop}{ai:cp}
theorem wR(G:J.Ok)(m:av c J S W s){vs us:List ay}(au:W.la[i]?=U a)(l:S.aR[i]?=U (.list ys))(e:s.heap.get? a=U (listOf vs.toArray n))(k:f vs.toArray=us.toArray)
    (p:ba c (ar J S W s.heap) W.ga us zs) (t):
    av c J (S.dV (S.aR.set i (.list zs))) W (bp s (s.heap.update a (hk f)) t)∧aV J S W s (S.dV (S.aR.set i (.list zs))) W (bp s (s.heap.update a (hk f)) t):=by
  refine aG (si f vs.toArray n) λj d=>?_;rw [k] at d;have g:(s.heap.update a (hk f)).get? a=U (listOf us.toArray j):=by rw [lc _ e (by rw [d];rfl),d]
  exact m.xu G.frame t au l (by simp) (by simp) (λb o ak h=>(i1 _ _ _ _ ak).trans h) (λz=>(h7 us j g (p.mono z (.refl _)))) ⟨_,g⟩
theorem vS(G:J.Ok)(m:av c J S W s){vs us:List ay}(au:W.ga[i]?=U a)(l:S.aE[i]?=U (.list ys))(e:s.heap.get? a=U (listOf vs.toArray n))(k:f vs.toArray=us.toArray)
    (p:ba c (ar J S W s.heap) W.ga us zs) (t):
    av c J (S.b8 (S.aE.set i (.list zs))) W (bp s (s.heap.update a (hk f)) t)∧aV J S W s (S.b8 (S.aE.set i (.list zs))) W (bp s (s.heap.update a (hk f)) t):=by
  refine aG (si f vs.toArray n) λj d=>?_;obtain d:=k▸d;have g:(s.heap.update a (hk f)).get? a=U (listOf us.toArray j):=by rw [lc _ e (by rw [d];rfl),d]
  exact m.s7 G.frame t au l (by simp) (by simp) (λb o ak h=>(i1 _ _ _ _ ak).trans h) (λz=>(h7 us j g (p.mono z (.refl _)))) ⟨_,g⟩
theorem ba.dropLast(h:ba c Z ga vs xs):ba c Z ga vs.dropLast xs.dropLast:=by exact ac VN (ac VN (ac h.length (h.take _)))
theorem By(vs:List ay)(k):vs.toArray.eraseIdxIfInBounds k=(vs.eraseIdx k).toArray:=by
  unfold Array.eraseIdxIfInBounds;split
  · rw [List.eraseIdx_toArray]
  · rename_i h;exact ac (List.eraseIdx_of_length_le (by simpa using h)) rfl
theorem PB(e:s.heap.get? a=U (listOf (v :: vs).toArray n))(hz:(v :: vs).length≤2^20)
    (h:R v (dh s (s.heap.update a (hk λxs=>xs.eraseIdxIfInBounds 0)))):aD c.M J.A (call (.builtin "list.pop") [.ref a,.int 0 u]) R bj s:=
  xU xT (aM _ e rfl) Wx (PySem.F.args_list_pop_2 _ _) (MeetsSeq.list_pop_at a _ n 0 u 0 v (by decide +kernel) (by simp [seqIndex?]) (by rfl) (hs1:=by simpa using hV hz)) ⟨e,h⟩
theorem PC{vs:List ay}(e:s.heap.get? a=U (listOf vs.toArray n))(b:vs.getLast?=U v)(hz:vs.length≤2^20)
    (h:R v (dh s (s.heap.update a (hk λxs=>xs.eraseIdxIfInBounds (vs.toArray.size-1))))):aD c.M J.A (call (.builtin "list.pop") [.ref a]) R bj s:=
  xU xT (aM _ e rfl) Wx (PySem.F.args_list_pop_1 _) (MeetsSeq.list_pop_last a _ n v (by simpa [VV] using b) (hs1:=by simpa using hV hz)) ⟨e,h⟩
theorem sg{vs:List ay}(e:s.heap.get? a=U (listOf vs.toArray n))(hz:vs.length≤2^20)
    (h:R .none (dh s (s.heap.update a (hk λxs=>xs.push v)))):aD c.M J.A (call (.builtin "list.append") [.ref a,v]) R bj s:=
  xU GK (aM _ e rfl) PySem.entry_list_append (PySem.args_list_append _ _) (AutoListH.list_append_list_val_0 a _ n v (hsz:=by simpa using hV hz)) ⟨e,h⟩
theorem PA{vs us:List ay}(e:s.heap.get? a=U (listOf vs.toArray n))(ak:s.heap.IsList b us.toArray)(hz:vs.length+us.length≤2^20)
    (h:R .none (dh s (s.heap.update a (hk λxs=>xs++us.toArray)))):aD c.M J.A (call (.builtin "list.extend") [.ref a,.ref b]) R bj s:=by
  refine c0 ak λd f a4 xr=>?_;clear ak;obtain⟨cls,fY,data,da⟩:=d;refine aG xr λcg hd=>?_;clear xr;simp only at a4 hd;subst a4 hd;exact xU GJ (aM _ e rfl) PySem.F.entry_list_extend (PySem.F.args_list_extend_2 _ _) (Ng a vs.toArray n b us.toArray cg fY da (by simpa using sQ hz)) (bk e f h)
theorem ba.snoc(h:ba c Z ga vs xs)(r:aK c Z ga v x):ba c Z ga (vs++[v]) (xs++[x]):=h.append (.cons r .nil)
theorem ba.getLast(h:ba c Z ga vs xs)(e:xs.getLast?=U y):∃ v,vs.getLast?=U v∧aK c Z ga v y:=by rw [VV] at e ⊢;exact ac h.length (h.get e)
theorem Bk:∀ (us:List ay),us.dropLast=us.eraseIdx (us.length-1)|[]=>rfl|[_]=>rfl|x :: y :: r=>by have:=Bk (y :: r);simp only [List.dropLast_cons₂,gg,Nat.add_sub_cancel] at this ⊢;rw [this];rfl
theorem vZ(h:n=an.append):eG an 4 n=U "list.append":=by unfold eG;refine ac (if_neg (by decide)) ?_;refine ac (if_pos rfl) ?_;exact ac (if_pos h) rfl
theorem v5(a:n≠an.append)(h:n=an.pop):eG an 4 n=U "list.pop":=by unfold eG;refine ac (if_neg (by decide)) ?_;refine ac (if_pos rfl) ?_;refine ac (if_neg a) ?_;exact ac (if_pos h) rfl
theorem B7(a:n≠an.append)(b:n≠an.pop)(h:n=an.extend):eG an 4 n=U "list.extend":=by unfold eG;refine ac (if_neg (by decide)) ?_;refine ac (if_pos rfl) ?_;refine ac (if_neg a) ?_;refine ac (if_neg b) ?_;exact ac (if_pos h) rfl
noncomputable abbrev QP(c:aU)(J:bo)(S:aA)(W:bP)(s:aP)(Q:bU)(bj:ay→aP→Prop)(a:aq)(vs:List ay)(id:String):Prop:=aD c.M J.A (call (.builtin id) (.ref a :: vs)) (bQ c J S W s Q) bj s
theorem QO(an:dy)(G:J.Ok)(l:av c J S W s){id:String}(au:W.la[i]?=U a)(j:S.aR[i]?=U (.list ys))(r:ba c (ar J S W s.heap) W.ga vs xs)
    (aw:eG an 4 n=U id) (m:an.append≠an.pop∧an.append≠an.extend∧an.pop≠an.extend) (h:pz an i n ys xs S Q):QP c J S W s Q bj a vs id:=by
  refine dP (l.locs i a _ au j) λus k e g=>?_;cases xs with
  | nil=>
    refine ac r.nil_inv (cR h λd hz h=>(cy h) _ λy E C=>?_);obtain aw:=(v5 (d▸jK m.1) d)▸aw;refine bG (aX aw) (aI (g.getLast E) λv D F=>PC e D (by refine ac g.length ?_;exact hz) ?_);obtain z:us.toArray.eraseIdxIfInBounds (us.toArray.size-1)=us.dropLast.toArray:=by rewrite [By];exact ac gQ (ac (Bk us) rfl)
    exact aC (wR G l (f:=λxs=>xs.eraseIdxIfInBounds (us.toArray.size-1)) au j e z g.dropLast s.toks) λs1 t1=>(λ_ aj=>aj _ _ W C s1 t1 (F.step t1))
  | cons x H=>
    refine aC h λw h=>?_;obtain r:=w▸r;refine aI r.one λv q o=>ac q (aS (ig h) (λp=>aC p λd h=>?_) λp=>cR p λA d h=>?_)
    · obtain aw:=(vZ d)▸aw;refine bG (aX aw) (sg e (by refine ac g.length ?_;exact iu h.1) ?_);exact aC (wR G l (f:=λxs=>xs.push v) au j e (us:=us++[v]) (Gv _ _) (g.snoc o) s.toks) λs1 t1=>(λ_ aj=>aj _ _ W h.2 s1 t1 .none)
    · obtain aw:=(B7 A (d▸jK m.2.2) d)▸aw;refine bG (aX aw) ?_;clear q;refine(nF o h) _ λb ws zs t B u h=>?_;clear o;obtain rfl:=t;refine PA e (fR ct B) (by refine ac g.length ?_;refine ac u.length ?_;exact h.1) ?_;exact aC (wR G l (f:=λxs=>xs++ws.toArray) au j e (us:=us++ws) (List.append_toArray _ _) (g.append u) s.toks) λs1 t1=>(λ_ aj=>aj _ _ W h.2 s1 t1 .none)
noncomputable def Hk(c:aU)(an:dy)(s:aP)(v:ay)(n:Nat)(id:String):Prop:=
  (n=an.get∧id="dict.get"∧∃ d o,v=.ref d∧s.heap.get? d=U o∧o.ExactDict)∨((id="list.append"∨id="list.pop"∨id="list.extend")∧∃ d us k,v=.ref d∧s.heap.get? d=U (listOf us k))∨
  (id="bytes.join"∧s.TypeIs v "bytes"∧∀ a,v≠.ref a)∨(id="str.count"∧s.TypeIs v "str"∧∀ a,v≠.ref a)
theorem il{n m:Nat}{a id:String}(h:(if n=m then U a else ae)=U id):n=m∧id=a:=by
  by_cases q:n=m
  · rw [if_pos q] at h;exact⟨q,(aX h).symm⟩
  · rw [if_neg q] at h;exact nn h
theorem B8{id:String}(h:eG an 4 n=U id):id="list.append"∨id="list.pop"∨id="list.extend":=by
  by_cases a:n=an.append
  · rw [vZ a] at h;exact .inl (aX h).symm
  by_cases h2:n=an.pop
  · rw [v5 a h2] at h;exact .inr (.inl (aX h).symm)
  by_cases b:n=an.extend
  · rw [B7 a h2 b] at h;exact .inr (.inr (aX h).symm)
  unfold eG at h;rw [if_neg (by decide),if_pos rfl,if_neg a,if_neg h2,if_neg b] at h;exact nomatch h
theorem PM(an){f:aA}(F:av c J f i l){id:String}(r:aK c (ar J f i l.heap) i.ga v x)(au:jk x=ae)(aw:eG an (dM f x) n=U id):Hk c an l v n id:=by
  cases x with
  | dict es=>
    refine aC (il aw) λh h2=>r.l2 _ λd o kvs e _ q y _=>?_;exact dP y λ_ _ j _=>.inl (bk h h2 ⟨d,o,e,ct _ _ q,j⟩)
  | bytes b=>
    refine aC (il aw) λh h2=>aG r.gj λt D=>?_;clear r aw au;obtain rfl:=D;exact .inr (.inr (.inl (bk h2 (i5 _ _ _) λa e=>nomatch e)))
  | str z=>
    refine aC (il aw) λh h2=>aG r.str_inv λt B=>?_;clear r aw au;obtain rfl:=B;exact .inr (.inr (.inr (bk h2 (GY _ _ _) λa e=>nomatch e)))
  | lit k=>
    refine aC (il aw) λh h2=>aI r.j7 λt A _=>?_;clear r aw au;obtain rfl:=A;exact .inr (.inr (.inr (bk h2 (GY _ _ _) λa e=>nomatch e)))
  | aB g=>
    obtain w:dM f (.aB g)=f.aE[g]?.elim 0 j6:=rfl;cases p:f.aE[g]? with
    | none=>obtain aw:=w▸aw;obtain aw:=p▸aw;exact nn aw
    | some o=>
      obtain aw:=w▸aw;obtain aw:=p▸aw;refine(gI F r p) _ λd e G u=>?_;clear p r au;cases o with
      | list xs=>
        exact dP u λvs k E _=>.inr (.inl ⟨B8 aw,d,_,k,e,E⟩)
      | cY es=>
        exact aC (il aw) λh h2=>dn u λo ds q m _=>dP m λ_ _ j _=>.inl (bk h h2 ⟨d,o,e,q,j⟩)
      | id es=>
        exact aC (il aw) λh h2=>dn u λo ds q m _=>dP m λ_ _ j _=>.inl (bk h h2 ⟨d,o,e,q,j⟩)
      | _=>exact nn aw
  | a3 C fs=>exact nn au.symm
  | _=>exact nn aw
theorem N3(an)(z:av c J g j f){id:String}(r:aK c (ar J g j f.heap) j.ga v x)(au:jk x=ae)
    (aw:eG an (dM g x) n=U id) (y:∀ k i,eG an k n=U i→(i="dict.get"→c.ls n="get")∧(i="list.append"→c.ls n="append")∧(i="list.pop"→c.ls n="pop")∧(i="list.extend"→c.ls n="extend")∧(i="bytes.join"→c.ls n="join")∧(i="str.count"→c.ls n="count"))
    (h:R (.builtin id,[v]) f):aD c.M J.A (getMethod v (c.ls n) B) R bj f:=by
  refine mX (y _ _ aw) λcX cg d6 n4 sl CY=>aS (PM an z r au aw) (λb=>cR b λ_ e xr=>dn xr λd o m t u=>?_) λb=>aS b (λb=>aC b λq xr=>jg xr λd us k m hd=>?_) λb=>aS b (λb=>cR b λe bp p=>?_) λb=>cR b λe bp p=>?_
  · refine ac (cX e) (ac m ?_);obtain h:=e▸h;obtain h:=m▸h;exact lp (aM o t u.1) PySem.F.plainAttrs_dict GI PySem.F.type_dict_get (λa e=>by refine bG (n9 e) ?_;exact(aM o t u.2.1)) h
  · rw [m] at h ⊢;have bp:f.TypeIs (.ref d) "list":=(aM _ hd rfl)
    have l:∀ a,kt d=.ref a→∃ o,f.heap.get? a=U o∧o.dict=ae:=λa w=>by refine bG (n9 w) ?_;exact(aM _ hd rfl)
    refine aS q (λe=>?_) λb=>aS b (λe=>?_) λe=>?_
    · refine ac (cg e) ?_;obtain h:=e▸h;exact lp bp qk GK WA l h
    · refine ac (d6 e) ?_;obtain h:=e▸h;exact lp bp qk xT WC l h
    · refine ac (n4 e) ?_;obtain h:=e▸h;exact lp bp qk GJ WB l h
  · refine ac (sl e) ?_;obtain h:=e▸h;exact lp bp FB.plainAttrs_bytes Ff US (λa e=>absurd e (p a)) h
  · refine ac (CY e) ?_;obtain h:=e▸h;exact lp bp PySem.F.plainAttrs_str Wy PySem.F.type_str_count (λa e=>absurd e (p a)) h
end
section
variable{c:aU}{J:bo}{S:aA}{W:bP}{s:aP}{Q X:bU}{bj:ay→aP→Prop}{ai:cp}
theorem Bg{K:Type}[DecidableEq K](f:av c J S W s){kvs:List (K×ay)}{k:K}{u:ay}{y:V}{o':Option V}(g:(o'=ae∧valueAt kvs k=ae)∨∃ x w,o'=U x∧valueAt kvs k=U w∧aK c (ar J S W s.heap) W.ga w x)(i:aK c (ar J S W s.heap) W.ga u y)(a:Q (o'.getD y) S)(t):bQ c J S W s Q ((valueAt kvs k).getD u) (e8 s t):=by
  refine aS g (λe=>aC e λb d=>?_) λe=>dn e λx w b d h=>?_
  · obtain a:=b▸a;exact ac d (bQ.here f a i _)
  · obtain a:=b▸a;exact ac d (bQ.here f a h _)
theorem Bf(aW:c.Ok)(f:av c J S W s){d:aq}{kvs:List (Str×ay)}(lo:(d==sysModules)=ah)(hd:s.heap.DictOf c.hQ d kvs)(r:dO c (ar J S W s.heap) W.ga kvs es)
    (g:aK c (ar J S W s.heap) W.ga v x) (h:iR x λk=>Q ((keyOf es k).getD .none) S):aD c.M J.A (call (.builtin "dict.get") [.ref d,v]) (bQ c J S W s Q) bj s:=by
  refine(pv g h) _ λk t a b e=>?_;obtain rfl:=a;exact call_meetsIn GI hd.mapOf.typeIs Ww (PySem.F.args_dict_get_2 _ _) (meets_dict_get c.hQ d (mO _ _ _ _) lo) (aM _ hd.mapOf (Bg f (pb aW.inj r b) .none e _))
theorem Kr(f:av c J S W s){d:aq}{kvs:List (Int×ay)}(lo:(d==sysModules)=ah)(hd:s.heap.DictOf c.gr d kvs)(r:gD c (ar J S W s.heap) W.ga kvs es)
    (b:aK c (ar J S W s.heap) W.ga v x) (g:aK c (ar J S W s.heap) W.ga u y) (h:cc x λk=>Q ((f7 es k).getD y) S):aD c.M J.A (call (.builtin "dict.get") [.ref d,v,u]) (bQ c J S W s Q) bj s:=by
  refine(e1 b h) _ λk t a e=>?_;clear b;obtain rfl:=a;exact call_meetsIn GI hd.mapOf.typeIs Ww (PySem.F.args_dict_get_3 _ _ _) (meets_dict_get_default c.gr d (lq _ _ _ _) lo u) (aM _ hd.mapOf (Bg f (wg r k) g e _))
noncomputable def NS(c:aU)(Z:bz)(ga:List aq)(vs:List ay)(b:Array UInt8)(bs:List (Array UInt8)):Prop:=∀ d:Prop,(∀ (t cL a),vs=.bytes b t :: cL→ba c Z ga cL a→ow a=U bs→d)→d
theorem rS(r:ba c Z ga vs ys)(h:ow ys=U (b :: bs)):NS c Z ga vs b bs:=by
  cases ys with
  | nil=>exact nomatch (aX h)
  | cons y ys=>
    refine(iE h) _ λn m e k g=>?_;injection g with i j
    refine r.cons_inv _ λv us d a l=>?_;obtain rfl:=d;rw [oC e] at a;refine aG a.gj λt f=>?_;clear a r;obtain rfl:=f;exact(λ_ aj=>aj t us ys (ac i rfl) l (by refine ac j ?_;exact k))
noncomputable def NR(vs:List ay)(b0:Array UInt8)(cB:Array UInt8)(eh:Array UInt8)(c1:Array UInt8):Prop:=∀ a:Prop,(∀ (t1 t2 t3 b),vs=[.bytes b0 t1,.bytes cB t2,.bytes eh t3,.bytes c1 b]→a)→a
theorem NQ(r:ba c Z ga vs ys)(h:ow ys=U [b0,cB,eh,c1]):NR vs b0 cB eh c1:=by
  refine(rS r h) _ λt1 q w b l i=>?_;refine(rS l i) _ λt2 t x d m h2=>?_;refine(rS m h2) _ λt3 u z f n j=>?_;refine(rS n j) _ λp v a g o k=>?_;cases a with
  | nil=>exact(λ_ aj=>aj t1 t2 t3 p (by refine ac b ?_;refine ac d ?_;refine ac f ?_;refine ac g ?_;exact ac o.nil_inv rfl))
  | cons y ys=>
    refine(iE k) _ λ_ _ _ _ e=>?_;exact nomatch e
theorem A3(T:mV c ai)(f:av c J S W s)(b:ba c (ar J S W s.heap) W.ga vs xs)(g:v=.str z t)(h:hy xs λk=>iR k λk=>Q (.int (n7 z (ai.ls k))) S):
    aD c.M J.A (call (.builtin "str.count") (v :: vs)) (bQ c J S W s Q) bj s:=by
  refine aI (iP h) λx e h=>?_;rw [e] at b;refine aI b.one λu d i=>?_;obtain rfl:=d;refine(pv i h) _ λk j a _ h=>?_;obtain rfl:=a;rw [T.ls] at h;subst g;exact call_gives Wy (GY _ _ _) PySem.F.entry_str_count (PySem.F.args_str_count_2 _ _) (gives_str_count _ _ _ _) (.here f h (.int _ _) _)
noncomputable abbrev Pz(c:aU)(J:bo)(S:aA)(W:bP)(s:aP)(Q:bU)(bj:ay→aP→Prop)(a:aq)(u:ay)(id:String):Prop:=aD c.M J.A (call (.builtin id) [.ref a,u]) (bQ c J S W s Q) bj s
theorem Py(an:dy)(G:J.Ok)(o:av c J S W s){id:String}(i:W.ga[g]?=U a)(m:S.aE[g]?=U (.list ys))(e:s.heap.get? a=U (listOf us.toArray k))(b:ba c (ar J S W s.heap) W.ga us ys)
    (d:aK c (ar J S W s.heap) W.ga u x) (aw:eG an 4 n=U id) (E:an.append≠an.pop) (h:CJ an g n ys x S Q):Pz c J S W s Q bj a u id:=by
  refine aS (ig h) (λl=>aC l λj h=>?_) λl=>mW l λv j z hz xr=>dP xr λy F A w=>?_
  · rw [vZ j] at aw;refine bG (aX aw) (sg e (by refine ac b.length ?_;exact iu h.1) ?_);exact aC (vS G o (f:=λxs=>xs.push u) i m e (us:=us++[u]) (Gv _ _) (b.snoc d) s.toks) λs1 t1=>(λ_ aj=>aj _ _ W h.2 s1 t1 .none)
  · rw [v5 v j] at aw;refine bG (aX aw) ?_;rw [z] at d;refine aG d.int_inv λt q=>?_;clear d;obtain rfl:=q;obtain D:=b.length;rw [A] at b;refine b.cons_inv _ λH r p B C=>?_;clear b;obtain rfl:=p;refine PB e (by refine ac D ?_;exact hz) ?_;exact aC (vS G o (f:=λxs=>xs.eraseIdxIfInBounds 0) i m e (us:=r) (by rw [By];rfl) C s.toks) λs1 t1=>(λ_ aj=>aj _ _ W w s1 t1 (B.step t1))
noncomputable abbrev P0(c:aU)(J:bo)(S:aA)(W:bP)(s:aP)(Q:bU)(bj:ay→aP→Prop)(v:ay)(vs:List ay)(id:String):Prop:=aD c.M J.A (call (.builtin id) (v :: vs)) (bQ c J S W s Q) bj s
theorem PZ(an:dy)(aW:c.Ok)(G:J.Ok)(b:av c J S W s){id:String}(r:aK c (ar J S W s.heap) W.ga v (.aB g))(a:ba c (ar J S W s.heap) W.ga vs xs)
    (aw:eG an (dM S (.aB g)) n=U id) (A:an.append≠an.pop) (h:bF S.aE[g]? λo=>nv an g n o xs S Q):P0 c J S W s Q bj v vs id:=by
  refine(cy h) _ λo i h=>?_;refine(gI b r i) _ λd B j z=>?_;obtain rfl:=B;obtain aw:eG an (S.aE[g]?.elim 0 j6) n=U id:=aw;obtain aw:=i▸aw;cases o with
  | list ys=>
    refine dP z λus k e l=>aI (iP h) λx f h=>?_;obtain a:=f▸a;refine aI a.one λu E I=>?_;clear a r;obtain rfl:=E;exact Py an G b j i e l I aw A h
  | id es=>
    refine dn z λo ds m h2 p=>aC (il aw) λ_ D=>?_;clear aw r;obtain rfl:=D;refine(nC h) _ λx y f h=>?_;obtain a:=f▸a;refine a.two _ λu w t l F=>?_;clear a;obtain rfl:=t;exact Kr b (mi aW b (nf j i (λq=>nomatch q))) (hg.mpr (aM o m h2)) p l F h
  | cY es=>
    refine dn z λo ds m h2 p=>aC (il aw) λ_ H=>?_;obtain rfl:=H;refine aI (iP h) λx f h=>?_;obtain a:=f▸a;refine aI a.one λu C l=>?_;clear a aw r;obtain rfl:=C;exact Bf aW b (mi aW b (nf j i (λq=>nomatch q))) (hg.mpr (aM o m h2)) p l h
  | _=>exact fl h
noncomputable abbrev PX(c:aU)(J:bo)(S:aA)(W:bP)(s:aP)(Q:bU)(bj:ay→aP→Prop)(v:ay)(vs:List ay)(id:String):Prop:=aD c.M J.A (call (.builtin id) (v :: vs)) (bQ c J S W s Q) bj s
theorem PW(an)(aW:c.Ok)(T:mV c ai)(G:J.Ok)(i:av c J S W s){id:String}(r:aK c (ar J S W s.heap) W.ga v x)(f:ba c (ar J S W s.heap) W.ga vs xs)
    (aw:eG an (dM S x) n=U id) (q:an.append≠an.pop) (h:CT ai an x n xs S Q):PX c J S W s Q bj v vs id:=by
  cases x with
  | dict es=>
    refine aC (il aw) λ_ a=>?_;obtain rfl:=a;refine r.l2 _ λd o kvs y p L h2 M=>?_;obtain rfl:=y;refine aI (iP h) λx m h=>?_;rw [m] at f;refine aI f.one λu E j=>?_;clear f r aw;obtain rfl:=E;exact Bf aW i p (hg.mpr (aM o (ct _ _ L) h2)) M j h
  | bytes b=>
    refine aC (il aw) λ_ a=>?_;obtain rfl:=a;refine aG r.gj λt a=>?_;obtain rfl:=a;refine aI (iP h) λx m h=>?_;rw [m] at f;refine aI f.one λu a j=>?_;obtain rfl:=a;refine(nF j h) _ λl us ys w N F h=>?_;obtain rfl:=w;refine(cy h) _ λbs e A=>?_;refine HL A λb0 cB eh c1 H I ey V Y Z O=>?_;rw [H] at e;refine(NQ F e) _ λt1 t2 t3 R D=>?_;clear F j f r aw;obtain rfl:=D;exact OP (fR ct N) I (by lia) λP k=>.here i O (.bytes _ _) k
  | str z=>
    refine aC (il aw) λ_ C=>?_;clear aw;obtain rfl:=C;exact aG r.str_inv λt e=>A3 T i f e h
  | lit k=>
    refine aC (il aw) λ_ B=>?_;clear aw;obtain rfl:=B;exact aG (kd T.ls r rfl) λt e=>A3 T i f e h
  | aB g=>exact PZ an aW G i r f aw q h
  | _=>exact fl h
end
section
set_option tactic.hygienic true
open Builtin Builtin.ObjectAttr Builtin.Getset_descriptor
noncomputable def qs(c:aU)(C:aq)(name:Str):Prop:=∀ A E s Q x ox cP ds k v expr,
  c.K.In s.heap→s.heap.get? x=U ox→ox.cls=.ref C→notCls ox=af→ox.dict=U cP→s.heap.get? cP=U (dictOf ds k)→getL name ds=U (U v)→handedIn v=af→
  (∀ t,Q v (e8 s t))→aD c.M A (getAttr (.ref x) name expr) Q E s
noncomputable def uC(c:aU)(C:aq)(name:Str)(f:aq):Prop:=∀ A E s Q x ox cP ds k a,
  c.K.In s.heap→s.heap.get? x=U ox→ox.cls=.ref C→notCls ox=af→ox.dict=U cP→s.heap.get? cP=U (dictOf ds k)→getL name ds=U ae→
  Q (.ref f,[.ref x]) s→aD c.M A (getMethod (.ref x) name a) Q E s
noncomputable def uG(c:aU)(C:aq)(name:Str):Prop:=∀ A E s Q x ox cP ds k v,
  c.K.In s.heap→s.heap.get? x=U ox→ox.cls=.ref C→notCls ox=af→ox.dict=U cP→s.heap.get? cP=U (dictOf ds k)→(getL name ds).isSome=af→ds.length≤500→
  (∀ a t,Q () (bp s (s.heap.update cP (tJ name (n5 c.w.params name) (.str name a) v)) t))→aD c.M A (setAttr (.ref x) name v) Q E s
theorem l9(a:h.get? x=U ox)(h2:ox.cls=.ref C)(b:notCls ox=af)(c:ox.dict=U cP)(d:h.get? cP=U od):InstAt h x ox C (U od):=⟨a,h2,b,by refine ac c ?_;exact d⟩
theorem IF(g:plainGet c.K C name=af)(hh:hasDictIn c.K C=af)(f:findIn c.K (.ref C) name=U bS)(j:noGet c.K bS=af):qs c C name:=λA E s Q x ox cP ds k v expr X a h2 b d e i l h=>get_value X (l9 a h2 b d e) (GX g).1 (findObj_own hh f j i) l (h _)
theorem P1(a:plainGet c.K C name=af)(hf:findIn c.K (.ref C) name=U (U (.ref f)))(j:isFn c.K (.ref f)=af):uC c C name f:=λA E s Q x ox cP ds k l X b h2 d e g i h=>method_fn X (l9 b h2 d e g) (GX a).1 (GX a).2 hf (beq_iff_eq.mp j) (by show(lookIn name (dictOf ds k)).map _=_;rewrite [lookIn_dict];refine ac i ?_;rfl) h
theorem RV(name)(h)(k)(v):∀ l:List km,(putL name h k v l).length≤l.length+1:=by
  intro l
  induction l with|nil=>simp [putL]|cons e r a=>unfold putL;split <;>simp <;>assumption
theorem pC{H:bz}(D:H.get? cP=U (dictOf ds k)):
    (H.update cP (tJ name hh (.str name t) v)).get? cP=U (dictOf (putL name hh (.str name t) v ds) (PySem.W.putN name ds k)):=by
  refine ac (lc _ D (by rw [putName_dict];rfl)) ?_;rw [putName_dict]
theorem DC(hz:ds.length≤500):(dictOf (putL name hh aj v ds) n).data.pastItsLine=ae:=pastItsLine_dict (by have a:=RV name hh aj v ds;refine ac gQ ?_;refine ac qm ?_;lia)
theorem C8(D:s.heap.get? cP=U (dictOf ds k))(a:(getL name ds).isSome=af)(hz:ds.length≤500)
    (h:∀ d t,Q () (bp s (s.heap.update cP (tJ name (n5 w.params name) (.str name d) v)) t)):aD (model prog w) A (nsSet cP name v) Q E s:=by
  unfold nsSet;refine ax (ax (WT (bg (ax (G4 (ax (kv D ?_)))))));dsimp only;obtain b:(!ds.toArray.any (·.key.isStr name)&&ds.toArray.any (·.refKey))=ah:=by
    refine bG Vd (bG Vd ?_);unfold getL at a;split at a
    · rename_i c he;refine ac (VL.mpr (aM c (List.mem_of_find?_eq_some he) (List.find?_some he))) ?_;rfl
    · split at a
      · exact cb a
      · rename_i z;rw [Bool.not_eq_true] at z;refine ac z ?_;rw [tf]
  rewrite [aRefKeyMayBeTheName_at];exact ac b (wpAny_updatePart D (h _ _))
end
section
set_option tactic.hygienic true
open Builtin Builtin.ObjectAttr Builtin.Getset_descriptor
theorem eK(h:(a&&b)=af):a=af∧b=af:=by cases a with|false=>exact cb h|true=>exact⟨rfl,h⟩
theorem eqB{α:Type}[BEq α][LawfulBEq α]{a b:α}(h:(a==b)=af):a=b:=eq_of_beq h
noncomputable def wq:List ay→Bool|[]=>ah|v :: r=>v :: r==[.type "Exception",.type "BaseException",.type "object"] || (v :: r==[.type "object"] || (v.ctorIdx==10&&wq r))
theorem R6(self){l:List ay}(h:wq l=af):refuseLoop self "__setattr__" l=pure ()∧l.contains (.type "object")=af:=by
  induction l with
  | nil=>exact cb h
  | cons v r b=>
    refine aS (ti.mp h) (λh=>?_) λh=>?_
    · exact ac (eqB h) ⟨PySem.F.store_Exception.passes self,by decide⟩
    · refine aS (ti.mp h) (λh=>?_) λh=>?_
      · exact ac (eqB h) ⟨Wz.passes self,by decide⟩
      · exact cq h λe h=>WG (motive:=λv=>refuseLoop self "__setattr__" (v :: r)=pure ()∧(v :: r).contains (.type "object")=af) v (eqB e) λa=>⟨by rw [refuseLoop_ref];exact(b h).1,by refine ac Gk ?_;refine ac ((b h).2) ?_;rw [F4]⟩
noncomputable def nG(K:de)(C:aq):Bool:=(clsIn K C).any λcd=>wq cd.mro
section
variable{prog:jL}{w:ku}{A:c6}{K:de}{C x:aq}{s:aP}{R:Result→aP→Prop}
theorem Dj(X:K.In s.heap)(I:InstAt s.heap x ox C od)(bt:nG K C=af)(m:takerIn K C name=U ae)
    (h:∀ b,aD (model prog w) A.in1 (storeInOwnDict (.ref x) (.ref C) (.str name cj) name v b)
      (λfin s'=>match fin with | .done f=>R (.ok f) s' | .again i=>i.quiet=af∧codeAny (model prog w) A i R s') (λe s'=>R (.error e) s') s):
    codeAny (model prog w) A (.call (.builtin "object.__setattr__") ⟨[.ref x,.str name cj,v],[]⟩) R s:=by
  obtain c:=Wz;refine aI (ql bt) λcd a4 g=>aC (R6 (.ref x) g) λn o=>?_;obtain ne:cd.mro.isEmpty=ah:=by cases q:cd.mro with | nil=>obtain g:=q▸g;exact cb g | cons _ _=>rfl
  obtain sub:mL (model prog w) s.heap (isInstance (.ref x) (.type "object")) af:=I.type.andThen (looks_mroIn X (by unfold mroIn;rw [a4,Option.bind_some,if_neg (by rw [ne];decide),o]));refine GP c.slot.plain c.entry (@check_slot (model prog w) _ _ s "object.__setattr__" "object" "__setattr__" (.ref x) [.str name cj,v] [] _ c.kind c.split sub (c.args (.ref x) (.str name cj) v) ?_);refine aI (Option.bind_eq_some_iff.mp m) λbS k d=>?_;obtain l:mL (model prog w) s.heap (mroOf (.ref C)) cd.mro:=(GV X a4).andThen .now;obtain j:mL (model prog w) s.heap (storeTaker? bS) ae:=by
    cases bS with
    | none=>exact .now
    | some a=>
      refine aI (qi.mp d) λb ak d=>(looks_takesIn X ak).andThen ?_;clear ak;cases b <;>first | exact .now | (obtain d:=(if_pos rfl)▸d;exact nn d.symm)
  rw [osa_eq,refuse_eq];refine ax (ax (I.type.here (ax (l.here ?_))));rw [n];refine bg (ax (I.type.here (ax ((xV X k).here (ax (j.here ?_))))));exact h _
variable{E:ay→aP→Prop}{name:Str}{cj:Tok}{ox:Obj}{od:Option Obj}
theorem BU{fill expr:Bool}(X:K.In s.heap)(I:InstAt s.heap x ox C od)(a:findIn K (.ref C) "__getattribute__"= U (U (.builtin "BaseException.__getattribute__")))(b:findIn K (.ref C) "__getattr__"= U ae)
    (ak:subIn K (.ref C) (.type "BaseException")=U af)
    (h:aD (model prog w) A.in1 (eQ.«object.__getattribute__» ⟨[.ref x,.str name cj],[]⟩) (λfin s'=>match fin with | .done (.ret v)=>aD (model prog w) A (handedOut v) Q E s' | _=>False) (λag ag=>False) s):
    aD (model prog w) A (getAttrBy (.ref x) (.str name cj) fill expr) Q E s:=by
  unfold getAttrBy;refine e6 (ax (I.type.here (ax ((xV X a).here ?_))));dsimp only;rw [show(onTheHeap (.ref C)&&tO "BaseException.__getattribute__"== tO "object.__getattribute__")=ah from by rw [show(tO "BaseException.__getattribute__"== tO "object.__getattribute__")=ah from by decide +kernel,tf],if_neg (by decide)];refine ax ((looks_hook X (by rw [if_pos (show onTheHeap (.ref C)=af from rfl)];exact b)).here (ax (xW (e6 ?_))));unfold callGetattribute;rw [show(expr&&onTheHeap (tO "BaseException.__getattribute__"))=ah from tf _,if_neg (by decide)];unfold boundAndCalled;rw [Wu.ga.bind];refine ax (bg ?_);show aD _ _ (call (.builtin "BaseException.__getattribute__") [.ref x,.str name cj]) _ _ _;refine mQ (GP Wu.ga.plain PySem.F.entry_bexc_ga (@check_slot (model prog w) _ _ s "BaseException.__getattribute__" "BaseException" "__getattribute__" (.ref x) [.str name cj] [] _ (by decide +kernel) (by decide +kernel) (I.type.andThen (GW X ak)) (PySem.F.args_bexc_ga (.ref x) (.str name cj)) (cI h (λfin s' z=>?_) λag ag z=>z.elim)));rcases fin with(_ | _ | _ | _) | _ <;>first | exact z | exact z.elim
theorem QC(X:K.In s.heap)(I:InstAt s.heap x ox C od)(hf:findObj K C od name=U (.value v))(h:Q (.done (.ret v)) s):
    aD (model prog w) A (eQ.«object.__getattribute__» ⟨[.ref x,.str name cj],[]⟩) Q E s:=by
  unfold eQ.«object.__getattribute__»;refine ax (bg (ax (bg (ax (I.type.here (ax ((looks_find X I hf).here ?_)))))));exact bg h
theorem QB(X:K.In s.heap)(I:InstAt s.heap x ox C od)(hf:findObj K C od name=U (.bind g a))
    (h:aD (model prog w) A (call g [a,.ref x,.ref C]) P E s):
    aD (model prog w) A (eQ.«object.__getattribute__» ⟨[.ref x,.str name cj],[]⟩) (λfin s'=>match fin with | .done (.ret v)=>P v s' | _=>False) E s:=by
  unfold eQ.«object.__getattribute__»;refine ax (bg (ax (bg (ax (I.type.here (ax ((looks_find X I hf).here ?_)))))));show aD _ _ (holding [a] (call g [a,.ref x,.ref C]) >>= ret) _ _ _;exact ax (e6 (cI h (λv s' z=>bg z) λag ag z=>z))
end
noncomputable def oZ(K:de)(C:aq):Bool:=findIn K (.ref C) "__getattribute__"== U (U (.builtin "BaseException.__getattribute__"))&&(findIn K (.ref C) "__getattr__"== U ae&&subIn K (.ref C) (.type "BaseException")==U af)
section
variable{c:aU}{C:aq}{name:Str}
theorem IE{bS:Option ay}(g:oZ c.K C=af)(hh:hasDictIn c.K C=af)(f:findIn c.K (.ref C) name=U bS)(j:noGet c.K bS=af):qs c C name:=
  λA E s Q x ox cP ds k v expr X a h2 b d e i l h=>by
  refine eS g λg1 g2 g3=>?_;obtain I:=l9 a h2 b d e;unfold getAttr;refine ax (G4 (BU (s:=(e8 s (s.toks+1))) X I (eqB g1) (eqB g2) (eqB g3) (QC (s:=(e8 s (s.toks+1))) X I (findObj_own hh f j i) ?_)));show aD _ _ (handedOut v) _ _ _;exact ac (handedOut_of l) (bg (h _))
theorem Fb(n:findIn c.K (.ref C) "__setattr__"= U (U (.builtin "object.__setattr__")))(bt:nG c.K C=af)(o:takerIn c.K C name=U ae)(hh:hasDictIn c.K C=af):uG c C name:=
  λA E s Q x ox cP ds k v X g h2 i d f m hz h=>by
  have I:=l9 g h2 i d f;refine set_plain X I n (Dj (s:=(e8 s (s.toks+1))) X I bt o λb=>?_);refine aI (ql hh) λcd a4 j=>?_;obtain⟨oc,q,p,iS⟩:=ox;dsimp only at h2 d;clear I i;subst h2 d;dsimp only;unfold storeInOwnDict;refine ax (bg (ax (ax (kv g (ax ((GV (h:=s.heap) X a4) _ _ _ _ (λag ag e=>e) ?_))))));refine ac j (bg (a:=U cP) (ax (bg (ax ?_))));exact C8 f m hz λl t=>ax (WZ (s:=(bp s (s.heap.update cP (tJ name (n5 c.w.params name) (.str name l) v)) t)) (pC f) (DC hz) (bg (h l t)))
end
section
variable{prog:jL}{w:ku}{A:c6}{E:ay→aP→Prop}{K:de}{D x:aq}{s:aP}{ox od:Obj}
theorem Pi(c:oZ K D=af)(l7:hasDictIn K D=af)(b:findIn K (.ref D) "__class__"= U (U (.builtin "object.__class__")))
    (e:specialIn K (.builtin "object.__class__") "__get__"= U (U (.builtin "getset_descriptor.__get__"))) (a:takesIn K (.builtin "object.__class__")=U af) (d:mroIn K D (.type "object")=U af)
    {Q:Option ay→aP→Prop} (X:K.In s.heap) (I:InstAt s.heap x ox D (U od)) (h:Q (U (.ref D)) (e8 s (s.toks+1))):aD (model prog w) A (getAttr? (.ref x) "__class__") Q E s:=by
  refine eS c λg1 g2 g3=>?_;obtain hf:findObj K D (U od) "__class__"= U (.bind (.builtin "getset_descriptor.__get__") (.builtin "object.__class__")):=findObj_data (by refine aI (ql l7) λcd a4 _=>?_;refine ac a4 ?_;rfl) b e a;unfold getAttr? getAttrBy?;refine ax (G4 (ax (xW (BU (s:=(e8 s (s.toks+1))) X I (eqB g1) (eqB g2) (eqB g3) (QB (s:=(e8 s (s.toks+1))) X I hf
    (mQ (class_get (s:=(e8 s (s.toks+1))) (ox:=ox) (od:=U od) X I d (handed_on rfl (bg h)))))))))
theorem Po(o:oZ K D=af)(l7:hasDictIn K D=af)(m:findIn K (.ref D) "__class__"= U (U (.builtin "object.__class__")))
    (r:specialIn K (.builtin "object.__class__") "__get__"= U (U (.builtin "getset_descriptor.__get__"))) (f:takesIn K (.builtin "object.__class__")=U af) (p:mroIn K D (.type "object")=U af):
    KitX K (.ref x) (.ref D) (λh=>InstAt h x ox D (U od)) where
  ty:=λag ag ag I=>I.type
  it:=λag ag X ag=>by
    refine aI (ql l7) λd a _=>?_;unfold clsIn at a;split at a
    · rename_i j l c i b;intro v Q' y s' k q;unfold isType loadHead;exact ax (kv (k _ _ (X _ _ b)) (bg q))
    · exact nn a
  ne:=λh t fY u n da X g=>by
    refine aI (ql l7) λd a _=>Vj.mpr λq=>?_;obtain e:D=t:=n9 (eqB q);subst e;unfold clsIn at a;split at a
    · rename_i j l c i b;have z:=(X _ _ b).symm.trans g
      clear b q;cases z
    · exact nn a
  ca:=λX I k=>Pi o l7 m r f p X I k
end
end
section
variable(c:aU)(J:bo)(S:aA)(W:bP)(s:aP)
noncomputable def Hj(Q:List V→aA→Prop)(vs:List ay)(s':aP):Prop:=∀ a:Prop,(∀ xs S' W',Q xs S'→av c J S' W' s'→aV J S W s S' W' s'→ba c (ar J S' W' s'.heap) W'.ga vs xs→a)→a
noncomputable def tX(Q:Bool→aA→Prop)(b:Bool)(s':aP):Prop:=∀ a:Prop,(∀ S' W',Q b S'→av c J S' W' s'→aV J S W s S' W' s'→a)→a
end
noncomputable def gi(c:aU)(J:bo)(S:aA)(t:Sem (List ay))(Q:List V→aA→Prop)(X:bU):Prop:=∀ W s,av c J S W s→aD c.M J.A t (Hj c J S W s Q) (dG c J S W s X) s
noncomputable def eI(c:aU)(J:bo)(S:aA)(t:Sem Bool)(Q:Bool→aA→Prop)(X:bU):Prop:=∀ W s,av c J S W s→aD c.M J.A t (tX c J S W s Q) (dG c J S W s X) s
section
variable{c:aU}{J:bo}{S bb:aA}{W a0:bP}{s a5:aP}{Q Q1 X:bU}{ai:cp}{env:Env}
theorem Ev.next(H:Ev c J S t Q1 X)(g:av c J S W s)(st:aV J bb a0 a5 S W s)
    (h:∀ v x S' W' s',Q1 x S'→av c J S' W' s'→aV J bb a0 a5 S' W' s'→aV J S W s S' W' s'→aK c (ar J S' W' s'.heap) W'.ga v x→k v s'):aD c.M J.A t k (dG c J bb a0 a5 X) s:=
  cI (H W s g) (λv s' a=>a _ λx S' W' d h2 b f=>h v x S' W' s' d h2 (st.trans b) b f) λag ag e=>e.of st
theorem gi.next(H:gi c J S t b2 X)(g:av c J S W s)(st:aV J bb a0 a5 S W s)
    (h:∀ v x S' W' s',b2 x S'→av c J S' W' s'→aV J bb a0 a5 S' W' s'→aV J S W s S' W' s'→ba c (ar J S' W' s'.heap) W'.ga v x→k v s'):aD c.M J.A t k (dG c J bb a0 a5 X) s:=
  cI (H W s g) (λv s' a=>a _ λx S' W' d h2 b f=>h v x S' W' s' d h2 (st.trans b) b f) λag ag e=>e.of st
theorem eI.next(H:eI c J S t b2 X)(f:av c J S W s)(st:aV J bb a0 a5 S W s)
    (h:∀ v S' W' s',b2 v S'→av c J S' W' s'→aV J bb a0 a5 S' W' s'→aV J S W s S' W' s'→k v s'):aD c.M J.A t k (dG c J bb a0 a5 X) s:=
  cI (H W s f) (λv s' a=>a _ λS' W' d h2 b=>h v S' W' s' d h2 (st.trans b) b) λag ag e=>e.of st
theorem fin(b:av c J S W s)(st:aV J bb a0 a5 S W s)(a:Q x S)(r:aK c (ar J S W s.heap) W.ga v x):bQ c J bb a0 a5 Q v s:=(λ_ aj=>aj x S W a b st r)
theorem o0(b:av c J S W s)(st:aV J bb a0 a5 S W s)(a:Q x S)(r:aK c (ar J S W s.heap) W.ga v x)(t):bQ c J bb a0 a5 Q v (e8 s t):=(λ_ aj=>aj x S W a (b.tok t) st.UK r)
theorem prim(h:aD c.M J.A t (bQ c J S W s Q) k s)(st:aV J bb a0 a5 S W s):aD c.M J.A t (bQ c J bb a0 a5 Q) k s:=cI h (λag ag p=>p.of st) λag ag e=>e
theorem MD(h:Q .none S):Ev c J S (eval (.Constant .none c9 pos) env) Q X:=λW s a=>wpAny_Constant_none (fin a .refl h .none)
theorem Mh(h:Q (.bool b) S):Ev c J S (eval (.Constant (.bool b) c9 pos) env) Q X:=λW s a=>wpAny_Constant_bool (fin a .refl h (.bool b))
theorem My(h:Q (.int i) S):Ev c J S (eval (.Constant (.int i) c9 pos) env) Q X:=λW s a=>G0 (o0 a .refl h (.int i _) _)
theorem Mz(a:n<c.nl)(d:x=c.ls n)(h:Q (.lit n) S):Ev c J S (eval (.Constant (.str x) c9 pos) env) Q X:=λW s b=>by subst d;exact G1 (o0 b .refl h (.lit n _ rfl a) _)
theorem Mk(h:Q (.bytes b.toArray) S):Ev c J S (eval (.Constant (.bytes b) c9 pos) env) Q X:=λW s a=>Constant_bytes (o0 a .refl h (.bytes _ _) _)
theorem Mg(k:ai.ls=c.ls){eR:V→bU}(j:Ev c J S (eval l env) Q1 X)(ak:∀ x d,Q1 x d→Ev c J d (eval r env) (eR x) X)(h:∀ x d y aJ,Q1 x d→eR x y aJ→c7 ai op x y λz=>Q z aJ):
    Ev c J S (eval (.BinOp l op r pos) env) Q X:=λW s m=>
  wpAny_BinOp (j.next m .refl λa x d q s1 g hs1 bv ag o=>(ak x d g).next hs1 bv λb y aJ aY s2 n f i e p=>prim (IQ k f (o.step e) p (h x d y aJ g n)) i)
theorem Mm(aW:c.Ok)(k:ai.ls=c.ls)(G:J.Ok){eR:V→bU}(j:Ev c J S (eval l env) Q1 X)(ak:∀ x d,Q1 x d→Ev c J d (eval r env) (eR x) X)(h:∀ x d y aJ,Q1 x d→eR x y aJ→kO ai op x y aJ λz=>Q (.bool z) aJ)
    (m:behindInMarks op r=ah):Ev c J S (eval (.Compare l [op] [r] pos) env) Q X:=λW s n=>
  wpAny_Compare1 (j.next n .refl λa x d t s1 g hs1 bv ag p=>(ak x d g).next hs1 bv λb y aJ aY s2 o f i e q=>prim (AS aW k G f (p.step e) q (h x d y aJ g o)) i) m
theorem MC(g:Ev c J S (eval e env) Q1 X)(h:∀ x b,Q1 x b→cc x λi=>Q (.int (-i)) b):Ev c J S (eval (.UnaryOp .USub e pos) env) Q X:=λW s j=>UnaryOp_ (g.next j .refl λa x b l s1 k hs1 bv ag f=>by refine(e1 f (h x b k)) _ ?_;intro i t d q;clear f;obtain rfl:=d;exact Wt (o0 hs1 bv q (.int _ _) _))
theorem ME(j:Ev c J S (eval e env) Q1 X)(h:∀ x d,Q1 x d→nD x λb=>Q (.bool !b) d):Ev c J S (eval (.UnaryOp .Not e pos) env) Q X:=λW s k=>UnaryOp_ (j.next k .refl λa x d m s1 l hs1 bv ag g=>by refine aI (sv g (h x d l)) λi f q=>?_;clear g;obtain rfl:=f;exact not_of (tW (fin hs1 bv q (.bool _))))
theorem L2(k:Ev c J S whole Q1 X)(h:∀ x b,Q1 x b→gW g x b)(he:isTrue e env whole=(do let v ← whole;standAt e.pos;holding [v] (truthy v))):
    eI c J S (isTrue e env whole) g X:=λW s l=>
  wpAny_isTrue_value (k.next l .refl λa x b j s1 m hs1 bv ag f=>by refine aI (sv f (h x b m)) λi d q=>?_;clear f;obtain rfl:=d;exact tW (λ_ aj=>aj b j q hs1 bv)) he
theorem LZ(aW:c.Ok)(B:ai.ls=c.ls)(G:J.Ok){eR:V→bU}(A:Ev c J S (eval l env) Q1 X)(ak:∀ x d,Q1 x d→Ev c J d (eval r env) (eR x) X)
    (h:∀ x d y aJ,Q1 x d→eR x y aJ→kO ai op x y aJ λz=>j z aJ) (C:behindInMarks op r=ah):eI c J S (isTrue (.Compare l [op] [r] pos) env whole) j X:=λW s D=>
  wpAny_isTrue_Compare1 (A.next D .refl λa x d I s1 n hs1 bv ag F=>(ak x d n).next hs1 bv λb y aJ aY s2 E k q i H=>cI (AS (Q:=gW j) aW B G k (F.step i) H (h x d y aJ n E)) (λv L f=>f _ λz u w g m t p=>by refine aI (sv p g) λb o g=>?_;clear p f;obtain rfl:=o;exact tW (λ_ aj=>aj u w g m (q.trans t))) λag ag e=>e) C
theorem L1(i:eI c J S (isTrue e env (eval e env)) d X)(h:∀ b a,d b a→f (!b) a):eI c J S (isTrue (.UnaryOp .Not e pos) env whole) f X:=λW s j=>by show aD c.M J.A (do return !(← isTrue e env (eval e env))) _ _ s;exact ax (i.next j .refl λb a g s1 k hs1 bv ag=>bg (λ_ aj=>aj a g (h b a k) hs1 bv))
theorem LY(b:eI c J S (allTrue op es env) a X):eI c J S (isTrue (.BoolOp op es pos) env whole) a X:=λW s d=>wpAny_isTrue_BoolOp (b W s d)
theorem L0(m:eI c J S (isTrue t env (eval t env)) h X)(k:∀ d,h af d→eI c J d (isTrue a env (eval a env)) i X)(h2:∀ d,h ah d→eI c J d (isTrue b env (eval b env)) i X):
    eI c J S (isTrue (.IfExp t a b pos) env whole) i X:=λW s l=>by
  rw [arm_isTrue_IfExp];refine ax (m.next l .refl λb d n s1 j hs1 bv ag=>?_);cases b with|true=>exact(k d j).next hs1 bv λb aJ aY s2 g e f ag=>(λ_ aj=>aj aJ aY g e f)|false=>exact(h2 d j).next hs1 bv λb aJ aY s2 g e f ag=>(λ_ aj=>aj aJ aY g e f)
theorem Mx{t a b:aH}{pos:Pos}{g:Bool→aA→Prop}(m:eI c J S (isTrue t env (eval t env)) g X)(k:∀ d,g af d→Ev c J d (eval a env) Q X)(h2:∀ d,g ah d→Ev c J d (eval b env) Q X):
    Ev c J S (eval (.IfExp t a b pos) env) Q X:=λW s l=>
  IfExp_ (m.next l .refl λb d n s1 j hs1 bv ag=>by
    cases b with
    | true=>exact(k d j).next hs1 bv λv x aJ aY s2 h e f ag i=>fin e f h i
    | false=>exact(h2 d j).next hs1 bv λv x aJ aY s2 h e f ag i=>fin e f h i)
theorem LX(m:eI c J S (isTrue e env (eval e env)) g X)(j:∀ b a,g b a→(r.isEmpty || hX op b)=af→i b a)(h2:∀ b a,g b a→(r.isEmpty || hX op b)=ah→eI c J a (allTrue op r env) i X):
    eI c J S (allTrue op (e :: r) env) i X:=λW s n=>by
  obtain go:∀ {b a d s1},g b a→av c J a d s1→aV J S W s a d s1→hX op b=ah→(∀ k,k b s1→aD c.M J.A (allTrue op [] env) k (dG c J S W s X) s1)→aD c.M J.A (allTrue op r env) (tX c J S W s i) (dG c J S W s X) s1:=λ{b a d s1} f hs1 bv ak q=>by
    cases l:r.isEmpty with
    | true=>
      obtain l:r=[]:=eH.mp l;clear h2;subst l;exact q _ (λ_ aj=>aj a d (j b a f rfl) hs1 bv)
    | false=>exact(h2 b a f (by refine ac l ?_;refine ac ak ?_;rfl)).next hs1 bv λb aJ aY s2 t o p ag=>(λ_ aj=>aj aJ aY t o p)
  obtain stop:∀ {b a d s1},g b a→av c J a d s1→aV J S W s a d s1→hX op b=af→tX c J S W s i b s1:=λ{b a d s1} f hs1 bv ak=>(λ_ aj=>aj a d (j b a f (by refine ac ak ?_;rw [F4])) hs1 bv)
  cases op with
  | And=>exact wpAny_allTrue_And_cons (m.next n .refl λb a d s1 f hs1 bv ag=>by clear j h2;cases b with|true=>exact go f hs1 bv rfl λk h=>wpAny_allTrue_And_nil h|false=>exact stop f hs1 bv rfl)
  | Or=>exact wpAny_allTrue_Or_cons (m.next n .refl λb a d s1 f hs1 bv ag=>by clear j h2;cases b with|true=>exact stop f hs1 bv rfl|false=>exact go f hs1 bv rfl λk h=>wpAny_allTrue_Or_nil h)
theorem Mj(a:Ev c J S (eval e env) Q X):Ev c J S (boolOp pos op (evalEach [e] env)) Q X:=a
noncomputable def AC(op:k9)(pos:Pos)(es:List aH)(env:Env)(v:ay)(t:Bool):Sem ay:=match op,t with|.And,ah | .Or,af=>pure v|_,_=>boolOp pos op (evalEach es env)
theorem I5(op)(pos)(es)(v)(t):AC op pos es env v t=if hX op t=af then pure v else boolOp pos op (evalEach es env):=by cases op <;>cases t <;>rfl
theorem Mi{op:k9}{e f:aH}{r:List aH}{pos:Pos}(k:Ev c J S (eval e env) Q1 X)(h:∀ x d,Q1 x d→nD x λb=>(hX op b=af→Q (.bool b) d)∧(hX op b=ah→Ev c J d (boolOp pos op (evalEach (f :: r) env)) Q X)):
    Ev c J S (boolOp pos op (evalEach (e :: f :: r) env)) Q X:=λW s l=>by
  show aD _ _ (eval e env >>= λv=>standAt pos >>= λag=>holding [v] (truthy v) >>= λt=>AC op pos (f :: r) env v t) _ _ s;refine ax (k.next l .refl λa x d u s1 m hs1 bv ag p=>ax (fO (ax (e6 ?_))));refine aI (sv p (h x d m)) λb j q=>?_;obtain rfl:=j;refine tW ?_;rw [I5];cases ak:hX op b with|true=>exact bg (fin hs1 bv (q.1 ak) (.bool _))|false=>exact(q.2 ak).next hs1 bv λv x aJ aY s2 n g i ag o=>fin g i n o
theorem L6(h:b2 [] S):gi c J S (spliced (backTo pos (starEach [] env))) b2 X:=λW s a=>G3 (λ_ aj=>aj [] S W h a .refl .nil)
theorem L5{pos:Pos}{e:aH}{r:List aH}{b2:List V→aA→Prop}{eR:V→List V→aA→Prop}(he:starEach (e :: r) env=(ah,eval e env) :: starEach r env)(h:Ev c J S (eval e env) Q1 X)
    (ak:∀ x b,Q1 x b→gi c J b (spliced (backTo pos (starEach r env))) (λxs aJ=>b2 (x :: xs) aJ) X):gi c J S (spliced (backTo pos (starEach (e :: r) env))) b2 X:=λW s i=>
  xX (h.next i .refl λa x b n s1 j hs1 bv ag l=>(ak x b j).next hs1 bv λvs xs aJ aY s2 k f g d m=>(λ_ aj=>aj (x :: xs) aJ aY k f g (.cons (l.step d) m))) he
theorem BA(i:gi c J S (spliced (backTo pos (starEach es env))) b2 X)(h:∀ xs e,b2 xs e→xs.length≤2^20∧Q (.ao xs) e):Ev c J S (eval (.Tuple es c9 pos) env) Q X:=λW s k=>wpAny_Tuple (i.next k .refl λvs xs e g s1 l hs1 bv ag f=>by refine aC (h xs e l) λhz j=>?_;refine⟨by rw [f.length];exact hV hz,?_⟩;refine cR (hs1.push {cls:=.type "tuple",data:=.seq vs.toArray} s1.toks) λa b d=>?_;exact(λ_ aj=>aj _ e g j a (bv.trans b) (.ao (cJ _ d rfl ⟨_,rfl⟩) (f.step b))))
theorem MA(i:gi c J S (spliced (backTo pos (starEach es env))) b2 X)(h:∀ xs e,b2 xs e→xs.length≤2^20∧Q (.list xs) e):Ev c J S (eval (.List es pos) env) Q X:=λW s k=>G2 (i.next k .refl λvs xs e g s1 l hs1 bv ag f=>by refine aC (h xs e l) λhz j=>?_;refine⟨by refine ac f.length ?_;exact hV hz,?_⟩;refine cR (hs1.push {cls:=.type "list",data:=.seq vs.toArray} s1.toks) λa b d=>?_;exact(λ_ aj=>aj _ e g j a (bv.trans b) (.list (cJ _ d rfl ⟨_,rfl⟩) (f.step b))))
theorem Mu(f:gi c J S (spliced (backTo pos (starEach es env))) b2 X)(h:∀ xs d,b2 xs d→xs.length≤2^20∧Q (.aB d.aE.length) (d.b8 (d.aE++[.list xs]))):Ev c J S (eval (.List es pos) env) Q X:=λW s i=>G2 (f.next i .refl λvs xs d k s1 j hs1 bv ag e=>by refine aC (h xs d j) λhz g=>?_;refine⟨by refine ac e.length ?_;exact hV hz,?_⟩;refine aC (hs1.wB {cls:=.type "list",data:=.seq vs.toArray} (.list xs) s1.toks (by simp) rfl (λz=>(h7 vs 0 (ez _ rfl) (e.mono z (Pre.snoc _ _))))) λa b=>?_;exact(λ_ aj=>aj _ _ _ g a (bv.trans b) (.aB (by refine bG hs1.dT ?_;simp))))
end
noncomputable def kI(J:bo)(x:Str):Prop:=(x==("__debug__":Str))=ah∧(J.bZ=af→J.env.kindOf x=U .cell∧J.env.cells.lookup x=J.a8.cells.lookup x∧J.a8.kindOf x=U .cell)
noncomputable def hH(c:aU)(x:Str)(v:ay):Prop:=c.ww x=U v∨(c.ww x=ae∧c.CR x=U v)
section
variable{c:aU}{J:bo}{S bb:aA}{W a0:bP}{s a5:aP}{Q Q1 X:bU}{ai:cp}{env:Env}
theorem av.sG(a:av c J S W s)(h:∀ (k:Nat) x X,J.nm[k]?=U x→vars'[k]?=U (U X)→∃ v,iw J.a8 W.m s.heap x v∧fX c (ar J S W s.heap) W.ga W.la v X):
    av c J (S.dW vars') W s:=⟨a.gens,a.drawn,a.os,a.keep,a.above,a.ns,a.jo,h,a.kP,a.cells,a.ee,a.dT,a.locs,a.eZ,a.nodup,a.new,a.there,a.frames⟩
theorem aV.sG(h:aV J bb a0 a5 S W s):aV J bb a0 a5 (S.dW vars') W s:=⟨h.ar,h.la,h.ga,h.out,h.aw,h.b4⟩
theorem av.Fc(d:av c J S W s)(e:J.nm[k]?=U x)(a:iw J.a8 W.m s.heap x v)(r:fX c (ar J S W s.heap) W.ga W.la v Y):av c J (S.dW (S.bB.set k (U Y))) W s:=by
  refine d.sG λj y Z b h2=>?_;rw [VT] at h2;by_cases q:k=j
  · subst q;rw [if_pos rfl] at h2;rw [e] at b;cases b;split at h2
    · cases h2;exact(aM v a r)
    · exact nn h2
  · rw [if_neg q] at h2;exact d.bB j y Z b h2
theorem NT(aW:c.Ok)(f:av c J S W s)(l:J.nm[k]?=U x)(a:iw J.a8 W.m s.heap x (.ref d))(hd:W.la[i]?=U d)(b:S.aR[i]?=U o)(h:BR o k i S Q):bQ c J S W s Q (.ref d) s:=by
  cases o with
  | list xs=>
    refine dP (f.locs i d _ hd b) λvs n e j=>cR (f.freeze hd b (λq=>nomatch q) e) λs1 t1 f1=>?_;obtain g:aK c (ar J (S.dV (S.aR.set i .dead)) W s.heap) W.ga (.ref d) (.list xs):=.list (cJ _ f1 rfl ⟨_,rfl⟩) (j.step t1);exact(λ_ aj=>aj _ _ W h (s1.Fc l a g) t1.sG g)
  | cY es=>
    refine dn (f.locs i d _ hd b) λo ds e p j=>cR (f.freeze hd b (λq=>nomatch q) e) λs1 t1 f1=>?_;obtain g:aK c (ar J (S.dV (S.aR.set i .dead)) W s.heap) W.ga (.ref d) (.dict es):=.dict (mi aW f (PG hd b (λq=>nomatch q))) f1 p (j.mono t1.ar (.refl _));exact(λ_ aj=>aj _ _ W h (s1.Fc l a g) t1.sG g)
  | _=>exact fl h
theorem s6{k:Nat}(h:S.bB[k]?.bind id=U y):S.bB[k]?=U (U y):=by refine(df h) _ λo a b=>?_;exact ac a (ac (show o=U y from b) rfl)
theorem MH(aW:c.Ok)(G:J.Ok){k:Nat}(e:J.nm[k]?=U x)(f:kI J x)(h:getVar k S Q):Ev c J S (eval (.Name x pos) J.env) Q X:=λW s b=>by
  refine(cy h) _ λy l h=>?_;refine aI (b.bB k x _ e (s6 l)) λv a r=>mP (vb G b a f.2 ?_) f.1;cases y with
  | val y=>exact fin b .refl h r
  | cv i=>
    refine aI r λd g hd=>?_;clear r;obtain rfl:=g;refine(cy h) _ λo j h=>?_;exact NT aW b e a hd j h
  | _=>exact fl h
theorem Mo(G:J.Ok){k:Nat}{x:Str}(au:J.bZ=af)(d:J.cn[k]?=U x)(f:(x==("__debug__":Str))=ah)(e:J.env.kindOf x=U .local)(g:S.aT[k]?=U (U y))(h:Q y S):Ev c J S (eval (.Name x pos) J.env) Q X:=λW s b=>by exact aI (b.kP k x y d g) λv a r=>mP (qo G.jp e (b.jo au) a (fin b .refl h r)) f
theorem vV(a:av c J S W s):∀ b o,c.ak.get? b=U o→(ar J S W s.heap).get? b=U o:=λb o e=>fg (a.keep b o e) λm=>by obtain e:=(a.new b m)▸e;exact nn e
theorem vF(aW:c.Ok)(G:J.Ok)(l:(x==("__debug__":Str))=ah)(j:J.env.kindOf x=U .globalImplicit)(k:hH c x v)(r:aK c c.ak [] v y)(h:Q y S):Ev c J S (eval (.Name x pos) J.env) Q X:=λW s a=>by
  have d:aK c (ar J S W s.heap) W.ga v y:=r.mono (vV a) ⟨_,rfl⟩;have T:=aW.T.keeps a.keep;refine Gy G.jp j ?_ l;refine aS k (λe=>?_) λm=>aC m λf i=>?_
  · exact GU (by refine ac G.aO ?_;exact T.g) e (fin a .refl h d)
  · exact GS (by refine ac G.aO ?_;exact T.g) f (by refine ac G.blt ?_;exact T.b) i (fin a .refl h d)
theorem Mw(aW:c.Ok){eR:V→bU}(k:nB slice=af)(j:Ev c J S (eval value env) Q1 X)(ak:∀ x d,Q1 x d→Ev c J d (eval slice env) (eR x) X)(h:∀ x d y aJ,Q1 x d→eR x y aJ→cr x y aJ λz=>Q z aJ):
    Ev c J S (eval (.Subscript value slice pos) env) Q X:=λW s l=>by
  rw [GM];refine ax (j.next l .refl λa x d p s1 g hs1 bv ag n=>ax (e6 ((ak x d g).next hs1 bv λb y aJ aY s2 m f i e o=>ax (fO ?_))));exact prim (Oj aW k f (n.step e) o (h x d y aJ g m)) i
theorem kC.step(h:kC c (ar J S W s.heap) W.ga v x)(t:aV J S W s S' W' s'):kC c (ar J S' W' s'.heap) W'.ga v x:=by cases x with|none=>exact h|some x=>exact aK.step h t
noncomputable def lx(c:aU)(J:bo)(S:aA)(t:Sem ay)(Q:Option V→aA→Prop)(X:bU):Prop:=∀ W s,av c J S W s→aD c.M J.A t (λv s'=>∃ x S' W',Q x S'∧av c J S' W' s'∧aV J S W s S' W' s'∧kC c (ar J S' W' s'.heap) W'.ga v x) (dG c J S W s X) s
theorem L7(h:a ae S):lx c J S (evalPart ae env) a X:=λW s b=>bg (ji ae S W h b .refl rfl)
theorem L8(h:Ev c J S (eval e env) (λx S=>a (U x) S) X):lx c J S (evalPart (U e) env) a X:=λW s f=>h.next f .refl λv x b d s1 g hs1 bv ag r=>(ji (U x) b d g hs1 bv r)
theorem lx.next(H:lx c J S t b X)(g:av c J S W s)(st:aV J bb a0 a5 S W s)
    (h:∀ v x S' W' s',b x S'→av c J S' W' s'→aV J bb a0 a5 S' W' s'→aV J S W s S' W' s'→kC c (ar J S' W' s'.heap) W'.ga v x→k v s'):aD c.M J.A t k (dG c J bb a0 a5 X) s:=
  cI (H W s g) (λv s' q=>by refine ov q λx S' W' d h2 a f=>?_;exact h v x S' W' s' d h2 (st.trans a) a f) λag ag e=>e.of st
theorem MG(o:ai.ls=c.ls){eR:V→Option V→aA→Prop}{lE:V→Option V→Option V→aA→Prop}(n:Ev c J S (eval value env) Q1 X)(m:∀ x f,Q1 x f→lx c J f (evalPart lower env) (eR x) X)
    (h2:∀ x lo aJ,eR x lo aJ→lx c J aJ (evalPart upper env) (lE x lo) X) (h:∀ x lo au b,lE x lo au b→gu ai x lo au b λz=>Q z b):
    Ev c J S (eval (.Subscript value (.Slice lower upper ae p) pos) env) Q X:=λW s q=>by
  rw [GM];refine ax (n.next q .refl λa x f A s1 r hs1 bv ag v=>ax (e6 (wpAny_Slice ?_)));exact(m x f r).next hs1 bv λD lo aJ aY s2 t i k g w=>(h2 x lo aJ t).next i k λE au b B C u j l d y=>bg (ax (fO (cI (TC o j (v.step (g.trans d)) (w.step d) y (h x lo au b u)) (λag ag p=>p.of l) λag ag e=>e)))
theorem Me(ak:attributeBase value bS env (eval value env)=eval value env)(i:Ev c J S (eval value env) Q1 X)
    (h:∀ x b,Q1 x b→∀ v d s1,av c J b d s1→aK c (ar J b d s1.heap) d.ga v x→aD c.M J.A (getAttr v bS af) (bQ c J b d s1 Q) (λag ag=>False) s1):Ev c J S (eval (.Attribute value bS pos) env) Q X:=λW s j=>by
  rewrite [WH];refine ac ak (ax (i.next j .refl λa x b d s1 k hs1 bv ag n=>ax (fO (ax (e6 ?_)))));refine cI (h x b k a d s1 hs1 n) (λv s2 p=>?_) λag ag e=>e.elim;refine p _ λy aJ aY l f g m=>?_;exact ax (WX (bg (fin f (bv.trans g) l m)))
end
noncomputable def putK{K:Type}[DecidableEq K]:List (K×ay)→K→ay→List (K×ay)|[],k,v=>[(k,v)]|(j,u) :: r,k,v=>if j=k then(j,v) :: r else(j,u) :: putK r k v
theorem DB{K:Type}[DecidableEq K]{j k:K}{u v:ay}{r:List (K×ay)}:putK ((j,u) :: r) k v=if j=k then(j,v) :: r else(j,u) :: putK r k v:=rfl
theorem PN{K:Type}[DecidableEq K]{k:K}{v:ay}:∀ {l:List (K×ay)},k∉l.map (·.1)→l.map (λa=>if a.1=k then(a.1,v) else a)=l:=by
  intro l
  induction l with
  | nil=>
    intro _;exact rfl
  | cons x0 r b=>
    obtain⟨j,u⟩:=x0;intro h;simp only [fa,b9,not_or] at h;exact ac fa (ac (if_neg (jK h.1)) (ac (b h.2) rfl))
theorem Ua{K:Type}[DecidableEq K]{k:K}{v:ay}:∀ {l:List (K×ay)},(l.map (·.1)).Nodup→stored l k v=putK l k v:=by
  intro l
  induction l with
  | nil=>
    intro _;rfl
  | cons x0 r a=>
    obtain⟨j,u⟩:=x0;intro h;simp only [fa,e5] at h;obtain a:=a h.2;refine ac DB ?_;by_cases q:j=k
    · (try clear a);(try clear a);subst q;refine ac (if_pos rfl) ?_;unfold stored;exact ac (if_pos (by simp)) (ac fa (ac (if_pos rfl) (ac (PN h.1) rfl)))
    · refine ac (if_neg q) (bG a ?_);unfold stored;simp only [lg,q,decide_false,Vk];split
      · exact ac fa (ac (if_neg q) rfl)
      · rfl
section
variable{c:aU}{J:bo}{S:aA}{W:bP}{s:aP}{Q:bU}{bj:ay→aP→Prop}{ai:cp}
theorem dO.length(h:dO c Z ga ds es):ds.length=es.length:=by
  induction es generalizing ds with
  | nil=>refine ac (show ds=[] from h.inv) ?_;rfl
  | cons p es d=>
    refine dP (show ∃ v us,ds=(c.ls p.1,v) :: us∧p.1<c.nl∧aK c Z ga v p.2∧dO c Z ga us es from h.inv) λv us a b=>?_;(try clear h);obtain rfl:=a;exact cR b λ_ _ r=>ac gg (ac gg (ac (d r) rfl))
theorem gD.length(h:gD c Z ga ds es):ds.length=es.length:=by induction h with|nil=>rfl|cons a _ b=>simp [b]
theorem gS.length(h:gS c Z ga ds es):ds.length=es.length:=by induction h with|nil=>rfl|cons a _ _ b=>simp [b]
theorem dO.put(inj:∀ i j,i<c.nl→j<c.nl→c.ls i=c.ls j→i=j)(h:dO c Z ga ds es)(b:n<c.nl)(r:aK c Z ga v y):dO c Z ga (putK ds (c.ls n) v) (putN es n y):=by
  induction es generalizing ds with
  | nil=>refine ac (show ds=[] from h.inv) ?_;exact .cons b r .nil
  | cons p es d=>
    refine jf (show ∃ v us,ds=(c.ls p.1,v) :: us∧p.1<c.nl∧aK c Z ga v p.2∧dO c Z ga us es from h.inv) λu us g a l f=>?_;obtain rfl:=g;obtain⟨k,x⟩:=p;by_cases q:k=n
    · (try clear d);(try clear b);subst q;exact ac (show putN ((k,x) :: es) k y=(k,y) :: es from if_pos (beq_self_eq_true k)) (ac (show putK ((c.ls k,u) :: us) (c.ls k) v=(c.ls k,v) :: us from if_pos rfl) (.cons a r f))
    · exact ac (show putN ((k,x) :: es) n y=(k,x) :: putN es n y from if_neg (λe=>q (beq_iff_eq.mp e))) (ac (show putK ((c.ls k,u) :: us) (c.ls n) v=(c.ls k,u) :: putK us (c.ls n) v from if_neg (λe=>q (inj k n a b e))) (.cons a l (d f)))
theorem gD.put{Z:bz}{ga:List aq}(h:gD c Z ga ds es)(r:aK c Z ga v y):gD c Z ga (putK ds n v) (k1 es n y):=by
  induction h with
  | nil=>exact .cons r .nil
  | @cons k u x f g b e a=>
    refine ac DB (ac w2 ?_);by_cases q:k=n
    · (try clear a);subst q;simp only [if_true,beq_self_eq_true];exact .cons r e
    · obtain d:(k==n)=ah:=by simpa using q
      simp only [q,if_false,d,F3];exact .cons b a
theorem gS.snoc(h:gS c Z ga ds es)(g:IsTupleKey c.gr Z [i,j] a)(r:aK c Z ga v y)(b:gL es (i,j)=ae):
    gS c Z ga (ds++[([i,j],a,v)]) (jB es (i,j) y):=by
  induction h with
  | nil=>exact .cons g r .nil
  | @cons l m k o x ds es d e n f=>
    refine ac w3 ?_;rw [nt] at b;split at b
    · exact nn b.symm
    · rename_i q;exact ac (if_neg q) (.cons d e (f b))
theorem To{k:Int}(e:s.heap.get? l=U (listOf items ne))
    (b:0≤k) (a:k<2^63) (m:k<items.size)
    (f:R () (dh s (s.heap.update l (hk (·.setIfInBounds k.toNat v))))):
    aD (model prog w) A (setItem (.ref l) (.int k t) v) R bj s:=by
  obtain d:s.heap.IsList l items:=(cJ _ e rfl ⟨ne,rfl⟩)
  unfold setItem;try with_reducible refine e6 ?_;refine ax (wpAny_sequenceKey d.typeIs (by decide) ?_);refine ax (tT (name:=ek "__setitem__") d.typeIs WN
    (oa WN d.typeIs entry_list_setitem ?_ (args_list_setitem _ _ _)))
  show aD _ _ (Builtin.List.listSubscript? (.int k t) >>= _) _ _ s;refine ax (wpAny_listSubscript_int (fitsIndex_of b a) ?_);clear a;refine aG (Int.eq_ofNat_of_zero_le b) λj h=>?_;(try clear b);obtain rfl:=h;have i:j<items.size:=by exact ir.mp ‹_›
  obtain g:items[j]?=U items[j]:=tb i;show aD _ _ ((seqItemAt l j >>= λr=>pure (r.map (j,·))) >>= _) _ _ s;refine ax (ax (wpAny_seqItemAt e rfl (bg ?_)));refine ac g ?_;show aD _ _ (setSeqItemAt l j v >>= _) _ _ s;refine ax (wpAny_setSeqItemAt e rfl ?_)
  first
    | exact ax (bg (bg (aM .none rfl (bg f))))
    | exact bg ⟨.none,rfl,bg f⟩
theorem ba.setAt(r:aK c Z ga v y)(h:ba c Z ga vs xs)(i):ba c Z ga (vs.set i v) (xs.set i y):=by
  induction xs generalizing vs i with
  | nil=>refine ac h.nil_inv ?_;exact .nil
  | cons x xs e=>
    refine h.cons_inv _ λu us d a b=>?_;obtain rfl:=d;cases i with|zero=>exact .cons r b|succ i=>exact .cons a (e b i)
noncomputable def uH(c:aU)(J:bo)(S:aA)(W:bP)(s:aP)(Q:aA→Prop)(s':aP):Prop:=∀ a:Prop,(∀ S' W',Q S'→av c J S' W' s'→aV J S W s S' W' s'→a)→a
theorem Tz(h:n≤2^20):n≤sizeLine:=dt h (by decide)
theorem w4{K:Type}[DecidableEq K]{knd:KeyKind c.prog c.w K}{d:aq}{kvs:List (K×ay)}{k:K}{b v:ay}{o:Obj}{R:aP→Prop}(f:s.heap.get? d=U o)(h2:o.IsDictOf knd kvs)(ak:knd.is k b=af)(hz:kvs.length≤2^20)(g:∀ h' o',h'.get? d=U o'→o'.IsDictOf knd (putK kvs k v)→kn d s.heap h'→R (bp s h' (s.toks+1))):aD c.M J.A (setItem (.ref d) b v) (λag s'=>R s') bj s:=by refine wpAny_setItem_pairs (knd:=knd) ak (hg.mpr (aM o f h2)) (λh' hd h=>?_) (Tz hz);refine aI (hg.mp hd) λo' e a=>uM h2 λj i _ _ _ _ bT=>?_;rw [Ua bT] at a;exact g h' o' e a h
noncomputable abbrev Tm(c:aU)(J:bo)(S:aA)(W:bP)(s:aP)(bj:ay→aP→Prop)(a:ay)(b:ay)(v:ay)(d0:aA→Prop):Prop:=aD c.M J.A (setItem a b v) (λag s'=>uH c J S W s d0 s') bj s
theorem Tl(aW:c.Ok)(G:J.Ok)(D:av c J S W s){a b v:ay}{g:Nat}{i y:V}{d0:aA→Prop}(I:aK c (ar J S W s.heap) W.ga a (.aB g))(F:aK c (ar J S W s.heap) W.ga b i)(N:aK c (ar J S W s.heap) W.ga v y)
    (h:setG g i y S d0):Tm c J S W s bj a b v d0:=by
  cases i with
  | int k=>
    refine(cy h) _ λo w h=>?_;refine aG F.int_inv λt cm=>?_;obtain rfl:=cm;refine(gI D I w) _ λl T A r=>?_;obtain rfl:=T;(try clear I);(try clear F);cases o with
    | list xs=>
      refine dP r λus n e E=>hp h λcs B h2 C=>To e cs (by lia) (by refine ac gQ ?_;refine ac E.length ?_;exact B) ?_;exact aC (vS G D (f:=λxs=>xs.setIfInBounds k.toNat v) A w e (us:=us.set k.toNat v) (zs:=xs.set k.toNat y) (by simp) (ba.setAt N E _) s.toks) λs1 t1=>(λ_ aj=>aj _ W C s1 t1)
    | id es=>
      refine dn r λo ds B h2 u=>aC h λhz C=>w4 B h2 (lq _ _ _ _) (by refine ac u.length ?_;exact hz) λh' o' m H L=>?_;exact aC (D.s7 G.frame (o':=.id (k1 es k y)) (s.toks+1) A w (λq=>nomatch q) (λq=>nomatch q) (λb ca ak e=>(L.2 b ak).trans e) (λz=>(dL o' _ m H ((u.put N).mono z (.refl _)))) ⟨_,m⟩) λs1 t1=>(λ_ aj=>aj _ W C s1 t1)
    | _=>exact fl h
  | lit n=>
    refine c0 (De h) λes w hz C=>aI F.j7 λt cd M=>?_;(try clear F);(try clear r);(try clear E);obtain rfl:=cd;refine(gI D I w) _ λd O A P=>?_;obtain rfl:=O;refine dn P λo ds B h2 u=>w4 B h2 (mO _ _ _ _) (by refine ac u.length ?_;exact hz) λh' o' m H L=>?_;exact aC (D.s7 G.frame (o':=.cY (putN es n y)) (s.toks+1) A w (λq=>nomatch q) (λq=>nomatch q) (λb ca ak e=>(L.2 b ak).trans e) (λz=>(dL o' _ m H ((u.put aW.inj M N).mono z (.refl _)))) ⟨_,m⟩) λs1 t1=>(λ_ aj=>aj _ W C s1 t1)
  | ao xs=>
    refine(nC h) _ λx1 bI co mc=>?_;refine F.gv _ λpP us R em E=>?_;obtain rfl:=R;rw [co] at E;refine E.two _ λjD g7 X ce cl=>?_;obtain rfl:=X;refine(e1 ce mc) _ λi fs Y bX=>?_;obtain rfl:=Y;refine(e1 cl bX) _ λj f0 Z cw=>?_;obtain rfl:=Z;refine qH (Df cw) λes w hz M C=>(gI D I w) _ λd am A ap=>?_;obtain rfl:=am;refine dn ap λo ds B cn u=>jf cn λfY ep t1 t2 t3 ex=>?_;have key:IsTupleKey c.gr (ar J S W s.heap) [i,j] pP:=by exact c0 em λev bX cw xr=>aG xr λn eu=>(ji ev _ n bX cw eu (.cons (lq _ _ _ _) (.cons (lq _ _ _ _) .nil)))
    obtain fr:=G.units;obtain as:atKey ds [i,j]=ae:=by have:=Cy u i j;rw [M] at this;(try clear w);(try clear I);(try clear cl);(try clear ce);(try clear E);(try clear F);(try clear r);cases q:atKey ds [i,j] with|none=>rfl|some p=>rw [q] at this;exact cb this
    refine wpAny_setItem_heap (knd:=c.sa) (WO (ew ‹_› rfl)) (IsTupleKey.mono ct key) (qK o fY ep B t1 t2 t3 (λx eq=>IsTupleKey.mono ct (u.keys x eq)) ex) (λh' hd L=>?_) (by refine ac u.length ?_;exact dt hz (by decide));refine HJ hd λo' bs bm m d1 d2 a1 fd a2=>?_;rw [storedH_new as] at a1 a2;exact aC (D.s7 G.frame (o':=.fV (jB es (i,j) y)) (s.toks+c.sa.draws [i,j]) A w (λq=>nomatch q) (λq=>nomatch q) (λb ca ak e=>(L.2 b ak).trans e) (λz=>(dL o' _ m (jh bs bm d1 d2 a1 a2) ((u.snoc key N M).mono z (.refl _)))) ⟨_,m⟩) λs1 t1=>(λ_ aj=>aj _ W C s1 t1)
  | _=>exact fl h
theorem Tn(aW:c.Ok)(G:J.Ok)(f:av c J S W s){a b v:ay}{o i y:V}{d0:aA→Prop}(d:aK c (ar J S W s.heap) W.ga a o)(j:aK c (ar J S W s.heap) W.ga b i)(k:aK c (ar J S W s.heap) W.ga v y)
    (h:nL o i y S d0):aD c.M J.A (setItem a b v) (λag s'=>uH c J S W s d0 s') bj s:=by
  refine(cy h) _ λg e h=>?_;obtain d:=(oG e)▸d;exact Tl aW G f d j k h
theorem Tq(aW:c.Ok)(G:J.Ok)(j:av c J S W s){i:Nat}{d:aq}{b v:ay}{n:Nat}(au:W.la[i]?=U d)(h:S.aR[i]?=U (.cY es))(l:aK c (ar J S W s.heap) W.ga b (.lit n))(u:aK c (ar J S W s.heap) W.ga v y)
    (hz:es.length≤2^20) (r:d0 (S.dV (S.aR.set i (.cY (putN es n y))))):aD c.M J.A (setItem (.ref d) b v) (λag s'=>uH c J S W s d0 s') bj s:=by
  refine dn (j.locs i d _ au h) λo ds m h2 f=>aI l.j7 λt k p=>?_;(try clear l);obtain rfl:=k;refine w4 m h2 (mO _ _ _ _) (by refine ac f.length ?_;exact hz) λh' o' a g w=>?_;exact aC (j.xu G.frame (o':=.cY (putN es n y)) (s.toks+1) au h (λq=>nomatch q) (λq=>nomatch q) (λb x ak e=>(w.2 b ak).trans e) (λz=>(dL o' _ a g ((f.put aW.inj p u).mono z (.refl _)))) ⟨_,a⟩) λs1 t1=>(λ_ aj=>aj _ W r s1 t1)
end
theorem stored_new{K:Type}[DecidableEq K]{k:K}{v:ay}{l:List (K×ay)}(h:k∉l.map (·.1)):stored l k v=l++[(k,v)]:=by unfold stored;rw [if_neg];intro q;rw [VL] at q;exact aI q λx a e=>h (fw.mpr ⟨x,a,of_decide_eq_true e⟩)
theorem CS{K:Type}[DecidableEq K]:∀ {l acc:List (K×ay)},((acc++l).map (·.1)).Nodup→merged acc l=acc++l:=by
  intro l
  induction l with
  | nil=>
    intro acc _;simp [merged]
  | cons x0 r b=>
    obtain⟨k,v⟩:=x0;intro acc h;have a:k∉acc.map (·.1):=λm=>by rw [List.map_append,fa] at h;exact(dH.mp h).2.2 k m k (.head _) rfl
    show merged (stored acc k v) r=_;refine ac (stored_new a) (ac (b (by simpa using h)) ?_);simp
theorem KD:∀ {l:List Nat},dup l=ah→l.Nodup:=by
  intro l
  induction l with
  | nil=>
    intro _;exact .nil
  | cons k r a=>
    intro h;simp only [dup,Vl] at h;refine e5.mpr ⟨λm=>?_,a h.2⟩;have:=tv.mpr m
    obtain h:=this▸h;cases h.1
section
variable{c:aU}{J:bo}{S bb:aA}{W a0:bP}{s a5:aP}{Q Q1 X:bU}{ai:cp}{env:Env}
theorem BO{l:List aq}:(l.filter λa=>a != d).Sublist l:=Gm
theorem nu{l:List aq}:b∈(l.filter λa=>a != d)↔b∈l∧b≠d:=by simp [mJ]
theorem in4(h:a∈bL W.la S.aR++(bL W.ga S.aE++W.aw)):a∈b6 J S W:=by exact gt▸ch _ h
theorem av.wm(e:av c J S W s){d:aq}(hd:d∈W.aw)(g:s.heap.get? d=U o):
    av c J S {W with aw:=W.aw.filter λa=>a != d} s∧(∀ bb a0 a5,aV J bb a0 a5 S W s→d∉a0.aw→aV J bb a0 a5 S {W with aw:=W.aw.filter λa=>a != d} s)∧(ar J S {W with aw:=W.aw.filter λa=>a != d} s.heap).get? d=U o:=by
  refine aC (e.show (gq:=W.aw.filter λa=>a != d) BO) λa b=>⟨a,λbb a0 a5 st f=>b _ _ _ st λx m m'=>nu.mpr ⟨m',λq=>f (q▸m)⟩,fg g λm=>?_⟩;refine aS (dj.mp (gt▸m)) (λq=>?_) λq=>?_
  · exact eW (gt▸e.nodup) q (ht hd)
  · refine aS (dj.mp q) (λq=>?_) λq=>?_
    · exact eW e.fG q (ch _ hd)
    · refine aS (dj.mp q) (λq=>?_) λq=>?_
      · exact eW (dH.mp e.fG).2.1 q hd
      · exact(nu.mp q).2 rfl
theorem av.B5(b:av c J S W s)(hd:d∈W.aw):(d :: W.aw.filter λa=>a != d).Perm W.aw:=by have n:=(dH.mp (dH.mp b.fG).2.1).2.1;exact(n.erase_eq_filter d▸List.perm_cons_erase hd).symm
theorem av.sb(f:av c J S W s){S':aA}{W':bP}(k:S'.bB=S.bB)(a4:S'.aT=S.aT)(h:W'.m=W.m)(e:W'.cm=W.cm)(p:Pre W.la W'.la)(n:Pre W.ga W'.ga)(P:(dv S' W').Perm (dv S W))(l:W'.la.length=S'.aR.length)(g:W'.ga.length=S'.aE.length){d:aq}(hh:W'.aw=W.aw.filter λa=>a != d)
    (H:(∀ b o,(ar J S W s.heap).get? b=U o→(ar J S' W' s.heap).get? b=U o)→
      (∀ (i:Nat) b o,W'.la[i]?=U b→S'.aR[i]?=U o→d3 c (ar J S' W' s.heap) s.heap W'.ga b o)∧
      (∀ (i:Nat) b o,W'.ga[i]?=U b→S'.aE[i]?=U o→d3 c (ar J S' W' s.heap) s.heap W'.ga b o)):
    av c J S' W' s∧∀ bb a0 a5,aV J bb a0 a5 S W s→d∉a0.aw→aV J bb a0 a5 S' W' s:=by
  exact aC (f.same k a4 h e p n (λa m=>P.mem_iff.mp m) (P.nodup_iff.mpr f.fG) l g H) λa b=>⟨a,λbb a0 a5 st j=>b _ _ _ st λx m m'=>hh▸nu.mpr ⟨m',λq=>j (q▸m)⟩⟩
theorem av.CD(f:av c J S W s){d:aq}{dA:aQ}(hd:d∈W.aw)(j:dA≠.dead)
    (new:(∀ b q,(ar J S W s.heap).get? b=U q→(ar J (S.b8 (S.aE++[dA])) {W with ga:=W.ga++[d],aw:=W.aw.filter λa=>a != d} s.heap).get? b=U q)→d3 c (ar J (S.b8 (S.aE++[dA])) {W with ga:=W.ga++[d],aw:=W.aw.filter λa=>a != d} s.heap) s.heap (W.ga++[d]) d dA):
    av c J (S.b8 (S.aE++[dA])) {W with ga:=W.ga++[d],aw:=W.aw.filter λa=>a != d} s∧(∀ bb a0 a5,aV J bb a0 a5 S W s→d∉a0.aw→aV J bb a0 a5 (S.b8 (S.aE++[dA])) {W with ga:=W.ga++[d],aw:=W.aw.filter λa=>a != d} s):=by
  refine f.sb (S':=S.b8 (S.aE++[dA])) (W':={W with ga:=W.ga++[d],aw:=W.aw.filter λa=>a != d}) (d:=d) rfl rfl rfl rfl (.refl _) (Pre.snoc _ _) ?_ f.ee (by simp [f.dT]) rfl λz=>⟨λi b p g h2=>(f.locs i b p g h2).mono z (Pre.snoc _ _) λag e=>e,λi b p g h2=>?_⟩
  · refine List.Perm.append_left _ ?_;show((bL (W.ga++[d]) (S.aE++[dA]))++_).Perm _;exact ac (sh f.dT j) (ac (eM ..) ((f.B5 hd).append_left _))
  · refine aS (kh g) (λg=>?_) λh=>aC h λq g=>?_ <;>refine aS (kh h2) (λh2=>?_) λh=>aC h λr h2=>?_
    · exact(f.eZ i b p g h2).mono z (Pre.snoc _ _) λag e=>e
    · exact(j8 g (r.trans f.dT.symm)).elim
    · exact(j8 h2 (q.trans f.dT)).elim
    · exact g▸h2▸new z
theorem av.CE(f:av c J S W s){d:aq}{dA:aQ}(hd:d∈W.aw)(j:dA≠.dead)
    (new:(∀ b q,(ar J S W s.heap).get? b=U q→(ar J (S.dV (S.aR++[dA])) {W with la:=W.la++[d],aw:=W.aw.filter λa=>a != d} s.heap).get? b=U q)→d3 c (ar J (S.dV (S.aR++[dA])) {W with la:=W.la++[d],aw:=W.aw.filter λa=>a != d} s.heap) s.heap W.ga d dA):
    av c J (S.dV (S.aR++[dA])) {W with la:=W.la++[d],aw:=W.aw.filter λa=>a != d} s∧(∀ bb a0 a5,aV J bb a0 a5 S W s→d∉a0.aw→aV J bb a0 a5 (S.dV (S.aR++[dA])) {W with la:=W.la++[d],aw:=W.aw.filter λa=>a != d} s):=by
  refine f.sb (S':=S.dV (S.aR++[dA])) (W':={W with la:=W.la++[d],aw:=W.aw.filter λa=>a != d}) (d:=d) rfl rfl rfl rfl (Pre.snoc _ _) (.refl _) ?_ (by simp [f.ee]) f.dT rfl λz=>⟨λi b p g h2=>?_,λi b p g h2=>(f.eZ i b p g h2).mono z (.refl _) λag e=>e⟩
  · show((bL (W.la++[d]) (S.aR++[dA]))++_).Perm _;exact ac (sh f.ee j) (ac (eM ..) ((lh.symm.trans ((f.B5 hd).append_left _)).append_left _))
  · refine aS (kh g) (λg=>?_) λh=>aC h λq g=>?_ <;>refine aS (kh h2) (λh2=>?_) λh=>aC h λr h2=>?_
    · exact(f.locs i b p g h2).mono z (.refl _) λag e=>e
    · exact(j8 g (r.trans f.ee.symm)).elim
    · exact(j8 h2 (q.trans f.ee)).elim
    · exact g▸h2▸new z
noncomputable def Ht(c:aU)(J:bo)(S:aA)(W:bP)(s:aP)(ks:List Nat)(b2:List V→aA→Prop)(vs:List (ay×ay))(s':aP):Prop:=∃ xs kvs S' W',b2 xs S'∧av c J S' W' s'∧aV J S W s S' W' s'∧Carries c.hQ vs kvs∧ks.length=xs.length∧dO c (ar J S' W' s'.heap) W'.ga kvs (iF ks xs)
noncomputable def ly(c:aU)(J:bo)(S:aA)(t:Sem (List (ay×ay)))(ks:List Nat)(b2:List V→aA→Prop)(X:bU):Prop:=∀ W s,av c J S W s→aD c.M J.A t (Ht c J S W s ks b2) (dG c J S W s X) s
theorem Ma(h:b2 [] S):ly c J S (evalPairs []) [] b2 X:=λW s a=>evalPairs_nil (y4 [] [] S W h a .refl trivial rfl .nil)
theorem L9(i:n<c.nl)(k:x=c.ls n)(g:Ev c J S (eval e env) Q1 X)
    (ak:∀ x a,Q1 x a→ly c J a (evalPairs rest) ks (λxs aJ=>b2 (x :: xs) aJ) X):
    ly c J S (evalPairs ((eval (.Constant (.str x) c9 p) env,do let x ← eval e env;standAt pos;pure x) :: rest)) (n :: ks) b2 X:=λW s j=>by
  subst k;refine evalPairs_cons (G1 ?_);refine ax (g.next (j.tok (s.toks+1)) aV.tok λv y a f s1 l hs1 bv ag o=>ax (fO (bg ?_)));refine cI (ak y a l f s1 hs1) (λvs s2 p=>?_) λag ag e=>e.of bv;exact yX p λxs kvs aJ aY m d b a4 h q=>(y4 (y :: xs) ((c.ls n,v) :: kvs) aJ aY m d (bv.trans b) (bk (mO _ _ _ _) rfl a4) (by simp [h]) (.cons i (o.step b) q))
theorem vA:∀ {ks:List Nat} {xs:List V},ks.length=xs.length→(iF ks xs).map (·.1)=ks|[],[],_=>rfl|k :: ks,x :: xs,h=>congrArg (k :: ·) (vA (ks:=ks) (xs:=xs) (xR h))
theorem R9(inj:∀ i j,i<c.nl→j<c.nl→c.ls i=c.ls j→i=j)(r:dO c Z ga kvs es)(h:(es.map (·.1)).Nodup):(kvs.map (·.1)).Nodup:=by
  refine ac (xh r) ?_;obtain d:=Cz r;generalize es.map (·.1)=l at h d
  induction l with
  | nil=>exact .nil
  | cons a l g=>
    refine ac fa ?_;have n:=e5.mp h
    refine e5.mpr ⟨λm=>?_,g n.2 λk f=>d k (.tail _ f)⟩;exact aI (fw.mp m) λb ak e=>n.1 (inj b a (d b (.tail _ ak)) (d a (.head _)) e▸ak)
theorem Bh(aW:c.Ok)(G:J.Ok)(w:av c J S W s)
    (j:keys.all (·.isSome)=af) (I:keys.length=values.length) (F:keys≠[]) (hlen:keys.length≤15) (hd:dup ks=ah) (P:ks.length=keys.length)
    (bt:ly c J S (evalPairs (pairTrees keys values env pos)) ks b2 X) (H:∀ e s',dG c J S W s X e s'→bj e s')
    (h:∀ d xs kvs g f s1 o,b2 xs g→av c J g f s1→aV J S W s g f s1→d∉W.aw→d∈f.aw→s1.heap.get? d=U o→o.IsDictOf c.hQ kvs→dO c (ar J g f s1.heap) f.ga kvs (iF ks xs)→ks.length=xs.length→R (.ref d) s1):
    aD c.M J.A (eval (.Dict keys values pos) env) R bj s:=by
  refine aC (w.kY {cls:=.type "dict",data:=.dict #[]} s.toks rfl) λs1 t1=>?_;have E:=nd w
  have y:s.heap.objs.size∉W.aw:=λm=>E (by refine ac fF ?_;simp [m]);refine wpAny_Dict_any j I F hlen (cI (bt _ _ s1) (λvs s2 p=>?_) λag ag e=>H _ _ (e.of t1));refine yX p λxs kvs aJ aY N x i a4 k l=>aC (i.aw s.heap.objs.size (.head _)) λg4 g2=>?_;have r:=g2 _ (ez s.heap rfl);have n:s2.heap.DictOf c.hQ s.heap.objs.size []:=(qK _ (#[]) 0 r (bk rfl rfl rfl) rfl (λe he=>by simp at he) .nil .nil)
  have bT:(kvs.map (·.1)).Nodup:=R9 aW.inj l (by refine ac (vA k) ?_;exact KD hd);have hz:kvs.length≤15:=by have D:=congrArg mH (vA k);rw [fn,← l.length] at D;lia
  unfold storeAll;refine wpAny_storeAll vs kvs [] s2 _ a4 n (by refine ac VY ?_;refine ac qm ?_;lia) λh' u z=>?_;rw [CS (by simpa using bT),mK] at u;refine aI (hg.mp u) λo v t=>aC (x.pX G.frame (s2.toks+vs.length) g4 (λb L ak e=>(z.2 b ak).trans e) ⟨_,v⟩) λO t3=>?_;have B:=t3 S W s (t1.trans i) y
  have C:∀ b o,(ar J aJ aY s2.heap).get? b=U o→(ar J aJ aY h').get? b=U o:=jr (T:=[s.heap.objs.size]) (λb L e m=>(z.2 b (λq=>m (dx.mpr q))).trans e) (λb m=>dx.mp m▸(in4 (ch _ (ch _ ‹_›)))) λa h=>.inl h;exact h _ xs kvs aJ aY _ o N O B y g4 v t (l.mono C (.refl _)) k
end
section
variable{c:aU}{J:bo}{S bb:aA}{W a0:bP}{s a5:aP}{Q Q1 X:bU}{ai:cp}{env:Env}
noncomputable def om(c:aU)(J:bo)(S:aA)(t:Sem ay)(Q:cA→aA→Prop)(X:bU):Prop:=∀ W s,av c J S W s→aD c.M J.A t (λv s'=>∃ Y S' W',Q Y S'∧av c J S' W' s'∧aV J S W s S' W' s'∧fX c (ar J S' W' s'.heap) W'.ga W'.la v Y) (dG c J S W s X) s
theorem Md(h:Ev c J S t (λx S=>d0 (.val x) S) X):om c J S t d0 X:=λW s g=>cI (h W s g) (λv s' a=>a _ λx S' W' b h2 d f=>(ji (.val x) S' W' b h2 d f)) λag ag e=>e
noncomputable def emptyDict:Obj:={cls:=.type "dict",data:=.dict #[]}
theorem Bo{K:Type}[DecidableEq K]{knd:KeyKind c.prog c.w K}:emptyDict.IsDictOf knd []:=(yZ (#[]) 0 (bk rfl rfl rfl) rfl (λe he=>by simp at he) .nil .nil)
theorem xt(h:R (.ref s.heap.objs.size) (dh s (s.heap.push emptyDict))):aD M A (eval (.Dict [] [] pos) env) R E s:=by rw [eval_Dict_empty];exact ax (fO (qp h))
theorem RS(a:av c J S W s):c.ak.get? s.heap.objs.size=ae:=by cases q:c.ak.get? s.heap.objs.size with|none=>rfl|some o=>exact absurd (eX (a.keep _ _ q)) (gA _)
theorem C6(aW:c.Ok)(h:c.ak.get? d=ae):(d==sysModules)=ah:=by refine beq_eq_false_iff_ne.mpr λe=>?_;subst e;exact aW.sys h
theorem Mq(aW:c.Ok){pos:Pos}(h:Q (.dict []) S):Ev c J S (eval (.Dict [] [] pos) env) Q X:=λW s e=>by exact xt (cR (e.push emptyDict s.toks) λa b d=>(λ_ aj=>aj _ S W h a b (.dict (C6 aW (RS e)) d Bo .nil)))
theorem Ms{pos:Pos}(h:Q (.aB S.aE.length) (S.b8 (S.aE++[.cY []]))):Ev c J S (eval (.Dict [] [] pos) env) Q X:=λW s d=>by refine xt (aC (d.wB emptyDict (.cY []) s.toks (by simp) rfl λz=>(dL _ [] (ez _ rfl) Bo .nil)) λa b=>?_);exact(λ_ aj=>aj _ _ _ h a b (.aB (by rw [← d.dT];simp)))
theorem Mv(h:Q (.aB S.aE.length) (S.b8 (S.aE++[.fV []]))):Ev c J S (eval (.Dict [] [] pos) env) Q X:=λW s d=>by refine xt (aC (d.wB emptyDict (.fV []) s.toks (by simp) rfl λz=>(dL _ [] (ez _ rfl) (jh (#[]) 0 (bk rfl rfl rfl) rfl rfl .nil) .nil)) λa b=>?_);exact(λ_ aj=>aj _ _ _ h a b (.aB (by refine bG d.dT ?_;simp)))
theorem N9(a:av c J S W s)(h:d∈W.aw):c.ak.get? d=ae:=a.new d (in4 (ch _ (ch _ ‹_›)))
theorem Mp(aW:c.Ok)(G:J.Ok)
    (j:keys.all (·.isSome)=af) (r:keys.length=values.length) (n:keys≠[]) (hlen:keys.length≤15) (hd:dup ks=ah) (l:ks.length=keys.length)
    (bt:ly c J S (evalPairs (pairTrees keys values env pos)) ks b2 X) (h:∀ xs i,b2 xs i→ks.length=xs.length→Q (.dict (iF ks xs)) i):Ev c J S (eval (.Dict keys values pos) env) Q X:=λW s u=>
  Bh aW G u j r n hlen hd l bt (λag ag e=>e) λd xs kvs i y s1 o v hs1 bv cX ih t k w p=>by
    refine cR (hs1.wm ih t) λa b f=>?_;exact(λ_ aj=>aj _ i _ (h xs i v p) a (b _ _ _ bv cX) (.dict (C6 aW (N9 hs1 ih)) f k (w.mono (b _ _ _ .refl |> λag=>jr (T:=[]) (λag ag e ag=>e) (λag m=>absurd m c4) λx m=>.inl (by
      have m':=m;rw [fF] at m' ⊢;simp only [dj,nu] at m' ⊢;refine aS m' (λq=>?_) λg=>aS g (λq=>?_) λg=>aS g (λq=>?_) λg=>aS g (λq=>?_) λg=>aS g (λq=>?_) λq=>?_
      · exact .inl q
      · exact .inr (.inl q)
      · exact .inr (.inr (.inl q))
      · exact .inr (.inr (.inr (.inl q)))
      · exact .inr (.inr (.inr (.inr (.inl q))))
      · exact .inr (.inr (.inr (.inr (.inr q.1)))))) (.refl _))))
theorem Mb(aW:c.Ok)(G:J.Ok)
    (g:keys.all (·.isSome)=af) (m:keys.length=values.length) (k:keys≠[]) (hlen:keys.length≤15) (hd:dup ks=ah) (j:ks.length=keys.length)
    (bt:ly c J S (evalPairs (pairTrees keys values env pos)) ks b2 X) (h:∀ xs f,b2 xs f→ks.length=xs.length→d0 (.cv f.aR.length) (f.dV (f.aR++[.cY (iF ks xs)]))):om c J S (eval (.Dict keys values pos) env) d0 X:=λW s p=>
  Bh aW G p g m k hlen hd j bt (λag ag e=>e) λd xs kvs f t s1 o q hs1 bv cX ih n i r l=>by exact aC (hs1.CE (dA:=.cY (iF ks xs)) ih (by simp) λz=>(dL o kvs n i (r.mono z (.refl _)))) λa b=>(ji _ _ _ (h xs f q l) a (b _ _ _ bv cX) ⟨d,rfl,by refine bG hs1.ee ?_;simp⟩)
theorem Mc(f:gi c J S (spliced (backTo pos (starEach es env))) b2 X)(h:∀ xs d,b2 xs d→xs.length≤2^20∧d0 (.cv d.aR.length) (d.dV (d.aR++[.list xs]))):om c J S (eval (.List es pos) env) d0 X:=λW s i=>G2 (f.next i .refl λvs xs d k s1 j hs1 bv ag e=>by refine aC (h xs d j) λhz g=>?_;refine⟨by refine ac e.length ?_;exact hV hz,?_⟩;refine aC (hs1.Qj {cls:=.type "list",data:=.seq vs.toArray} (.list xs) s1.toks (by simp) rfl (λz=>(h7 vs 0 (ez _ rfl) (e.mono z (.refl _))))) λa b=>?_;exact(ji _ _ _ g a (bv.trans b) ⟨_,rfl,by refine bG hs1.ee ?_;simp⟩))
theorem RI(k e)(pos):pairTrees [U k] [e] env pos=[(eval k env,do let x ← eval e env;standAt pos;pure x)]:=rfl
theorem Mt(aW:c.Ok)(G:J.Ok)(E:Ev c J S (eval e env) Q1 X)(h:∀ x d,Q1 x d→Q (.aB d.aE.length) (d.b8 (d.aE++[.id [(i,x)]]))):Ev c J S (eval (.Dict [U (.Constant (.int i) c9 p)] [e] pos) env) Q X:=λW s t=>by
  refine aC (t.kY {cls:=.type "dict",data:=.dict #[]} s.toks rfl) λs1 t1=>?_;obtain D:=nd t;obtain u:s.heap.objs.size∉W.aw:=λm=>D (by refine ac fF ?_;simp [m]);refine wpAny_Dict_any rfl rfl (by simp) (al rfl) ?_;rw [RI];refine evalPairs_cons (G0 ?_);refine ax (E.next (s1.tok (s.toks+1)) (t1.trans aV.tok) λv y aJ aY s2 H f A g I=>ax (fO (bg (evalPairs_nil ?_))));refine aC (g.aw s.heap.objs.size (.head _)) λg4 g2=>?_;obtain k:=g2 _ (ez s.heap rfl);obtain j:s2.heap.DictOf c.gr s.heap.objs.size []:=(qK _ (#[]) 0 k (bk rfl rfl rfl) rfl (λe he=>by simp at he) .nil .nil)
  unfold storeAll;refine wpAny_storeAll (knd:=c.gr) [(.int i s.toks,v)] [(i,v)] [] s2 _ (bk (lq _ _ _ _) rfl trivial) j (by refine ac qm ?_;simp) λh' n w=>?_;rw [CS (by simp),mK] at n;refine aI (hg.mp n) λo r l=>aC (f.pX G.frame (s2.toks+1) g4 (λb F ak e=>(w.2 b ak).trans e) ⟨_,r⟩) λL t3=>?_;obtain B:=t3 S W s A u;obtain C:∀ b o,(ar J aJ aY s2.heap).get? b=U o→(ar J aJ aY h').get? b=U o:=jr (T:=[s.heap.objs.size]) (λb F e m=>(w.2 b (λq=>m (dx.mpr q))).trans e) (λb m=>dx.mp m▸(in4 (ch _ (ch _ ‹_›)))) λa h=>.inl h;exact aC (L.CD (dA:=.id [(i,y)]) g4 (by simp) λz=>(dL o _ r l (.cons ((I.mono C (.refl _)).mono z (Pre.snoc _ _)) .nil))) λa b=>(λ_ aj=>aj _ _ _ (h y aJ H) a (b _ _ _ B u) (.aB (by refine bG f.dT ?_;simp)))
end
noncomputable def kept(J:bo)(S:aA)(W:bP):List aq:=J.cl++(J.dR++(bL W.la S.aR++W.aw))
noncomputable def sub(J:bo)(A:c6)(env:Env)(nm:List Str):bo:={A:=A.deeper env,env:=env,a8:=env,outer:=J.a8 :: J.outer,nm:=nm,cn:=[],bZ:=ah}
section
variable{c:aU}{J:bo}{S S':aA}{W W':bP}{s s':aP}{A:c6}{env:Env}{nm:List Str}
theorem Db(G:J.Ok):(sub J A env nm).dN=J.a8.locals :: J.dN:=by show(J.a8 :: J.outer).filterMap (·.frame)=_;refine ac tx (ac G.frame ?_);rfl
theorem wy(G:J.Ok)(S')(W'):b6 (sub J A env nm) S' W'=(env.locals :: J.a8.locals :: J.dN)++((env.cells.map (·.2))++(bL W'.la S'.aR++(bL W'.ga S'.aE++W'.aw))):=by obtain e:(sub J A env nm).dR=[]:=rfl;unfold b6;refine ac (Db G) (ac e ?_);simp only [fL,eM];rfl
theorem PS:a∈kept J S W↔a∈J.cl∨a∈J.dR∨a∈bL W.la S.aR∨a∈W.aw:=by simp [kept]
theorem PT:a∈b6 J S W↔(a=J.a8.locals∨a∈J.dN)∨a∈kept J S W∨a∈bL W.ga S.aE:=by
  rewrite [PS];refine ac fF ?_;simp only [dj,b9];constructor
  · rintro(h | h | h | h | h | h) <;>simp_all
  · rintro(h | (h | h | h | h) | h) <;>simp_all
theorem vR(d:∀ b o,h.get? b=U o→h'.get? b=U o)(g:∀ a∈b6 bW S' W',a∈b6 J S W∨h.get? a=ae):
    ∀ b o,(ar J S W h).get? b=U o→(ar bW S' W' h').get? b=U o:=λb o e=>by
  refine aC (ik e) λf i=>fg (d b o f) λm=>aS (g b m) (λq=>?_) λq=>?_
  · exact i q
  · obtain q:=f▸q;exact nn q.symm
theorem vW(b:av c J S W s)(h:s.heap.get? a=ae):c.ak.get? a=ae:=by cases q:c.ak.get? a with|none=>rfl|some o=>obtain h:=(b.keep a o q)▸h;exact nn h.symm
noncomputable def nw(env:Env)(la:List aq)(aR:List aQ):List aq:=env.locals :: (env.cells.map (·.2)++bL la aR)
theorem RP(X C L G c d l h:List aq):(X++(C++(L++(G++(c++(d++(l++h))))))).Perm ((C++L)++(X++(c++(d++(l++(G++h)))))):=by refine .trans (.append_left X ?_) (xK ..);refine ac (eM ..) (.append_left C (.append_left L ?_));exact(xK ..).trans (.append_left c ((xK ..).trans (.append_left d (xK ..))))
theorem sj(G:J.Ok):(b6 (sub J A env nm) ⟨bB,aR,S.aE,[]⟩ ⟨m,cm,la,W.ga,kept J S W⟩).Perm (nw env la aR++b6 J S W):=by exact ac (wy G ..) (ac fF (.cons _ (RP ..)))
theorem none_lt{h:bz}(f:h.objs.size≤a)(l:a≤b):h.get? b=ae:=by cases q:h.get? b with|none=>rfl|some o=>exact absurd (eX q) (gB.mpr (dt f l))
theorem sr{h h':bz}(d:∀ b o,h.get? b=U o→h'.get? b=U o)(e:h'.get? a=ae):h.get? a=ae:=by cases q:h.get? a with|none=>rfl|some o=>exact nn (e.symm.trans (d a o q))
section
variable{sm:aP}{aR:List aQ}{la:List aq}{m cm:Str→Option ay}
theorem wL(f:sm.heap.objs.size≤env.locals)(lL:∀ n c,(n,c)∈env.cells→env.locals<c){a:aq}(h:a∈nw env la aR):sm.heap.get? a=ae∨a∈bL la aR:=by
  rcases b9.mp h with rfl | h
  · exact .inl (none_lt f (eg _))
  · refine aS (dj.mp h) (λh=>?_) λh=>?_
    · refine aI (fw.mp h) λd q e=>?_;obtain⟨x,b⟩:=d;exact .inl (e▸none_lt f (iu (lL x b q)))
    · exact .inr h
theorem Qv(f:sm.heap.objs.size≤env.locals)(lL:∀ n c,(n,c)∈env.cells→env.locals<c)(i:env.cells.Pairwise λx y=>x.2≠y.2)(d:(bL la aR).Nodup)(k:∀ a∈bL la aR,∃ o,sm.heap.get? a=U o):(nw env la aR).Nodup:=by
  have no:∀ a,env.locals≤a→a∉bL la aR:=λa l m=>by exact aG (k a m) λo e=>nn ((none_lt f l).symm.trans e)
  have lt:∀ b∈env.cells.map (·.2),env.locals<b:=λb h=>by refine aI (fw.mp h) λg q e=>?_;obtain⟨x,b⟩:=g;exact e▸lL x b q
  refine e5.mpr ⟨λh=>?_,dH.mpr (bk (List.nodup_iff_pairwise_ne.mpr (V9.mpr i)) d λa j b ak q=>no b (iu (q▸lt a j)) ak)⟩;refine aS (dj.mp h) (λh=>?_) λh=>?_
  · exact gA _ (lt _ h)
  · exact no _ (eg _) h
end
noncomputable abbrev LP(J:bo)(S:aA)(W:bP)(s:aP)(s':aP)(A:c6)(env:Env)(nm:List Str)(sm:aP)(aR:List aQ)(la:List aq)(m:Str→Option ay)(cm:Str→Option ay)(bB:List (Option cA)):Prop:=(∀ b o,(ar J S W s.heap).get? b=U o→(ar (sub J A env nm) ⟨bB,aR,S.aE,[]⟩ ⟨m,cm,la,W.ga,kept J S W⟩ s'.heap).get? b=U o)∧(∀ b o,sm.heap.get? b=U o→b∉b6 J S W→b∉bL la aR→(ar (sub J A env nm) ⟨bB,aR,S.aE,[]⟩ ⟨m,cm,la,W.ga,kept J S W⟩ s'.heap).get? b=U o)
theorem Bp(G:J.Ok)(l:av c J S W s){sm:aP}(h:∀ b o,s.heap.get? b=U o→sm.heap.get? b=U o)
    (g:∀ a∈bL la aR,s.heap.get? a=ae∧∃ o,sm.heap.get? a=U o)
    (I:InCallC sm env.locals m env.cells cm s')
    :LP J S W s s' A env nm sm aR la m cm bB:=by
  obtain⟨⟨⟨k,cj,rfl⟩,ns,f,d⟩,i,apart,above⟩:=I;refine⟨vR (λb o e=>f b o (h b o e)) λa j=>?_,λb o e cX cg=>fg (f b o e) λq=>?_⟩
  · refine aS (dj.mp ((sj G).mem_iff.mp j)) (λq=>?_) λq=>?_
    · exact .inr ((wL d above q).elim (sr h) λq=>(g a q).1)
    · exact .inl q
  · refine aS (dj.mp ((sj G).mem_iff.mp q)) (λq=>?_) λq=>?_
    · refine aS (wL d above q) (λq=>?_) λq=>?_
      · exact nn (q.symm.trans e)
      · exact cg q
    · exact cX q
theorem av.enter(G:J.Ok)(d:av c J S W s)(n:∀ b o,s.heap.get? b=U o→sm.heap.get? b=U o)(same:sm.gens=s.gens∧sm.drawn=s.drawn∧sm.os=s.os)(w:la.length=aR.length)(p:(bL la aR).Nodup)
    (g:∀ a∈bL la aR,s.heap.get? a=ae∧∃ o,sm.heap.get? a=U o) {m cm:Str→Option ay} {bB:List (Option cA)} (E:env.scope.kind=.function) (hf:env.frame=U env.locals)
    (I:InCallC sm env.locals m env.cells cm s') (a4:∀ x cl,(x,cl)∈env.cells→env.cells.lookup x=U cl)
    (H:∀ (k:Nat) (x:Str) (X:cA),nm[k]?=U x→bB[k]?=U (U X)→∃ v,iw env m s'.heap x v∧fX c (ar (sub J A env nm) ⟨bB,aR,S.aE,[]⟩ ⟨m,cm,la,W.ga,kept J S W⟩ s'.heap) W.ga la v X)
    (t:∀ (i:Nat) (a:aq) (o:aQ),la[i]?=U a→aR[i]?=U o→d3 c (ar (sub J A env nm) ⟨bB,aR,S.aE,[]⟩ ⟨m,cm,la,W.ga,kept J S W⟩ s'.heap) s'.heap W.ga a o):
    av c (sub J A env nm) ⟨bB,aR,S.aE,[]⟩ ⟨m,cm,la,W.ga,kept J S W⟩ s':=by
  have z:=(Bp (A:=A) (nm:=nm) (bB:=bB) G d n g I).1;obtain⟨⟨⟨D,cj,rfl⟩,ns,l,f⟩,j,apart,above⟩:=I;have keep:∀ b o,s.heap.get? b=U o→D.get? b=U o:=λb o e=>l b o (n b o e);have nl:s.heap.get? env.locals=ae:=sr n (none_lt f (eg _));have old:∀ a∈nw env la aR,s.heap.get? a=ae:=λa q=>(wL f above q).elim (sr n) λq=>(g a q).1;have mm:∀ {a},a∈b6 (sub J A env nm) ⟨bB,aR,S.aE,[]⟩ ⟨m,cm,la,W.ga,kept J S W⟩→a∈nw env la aR∨a∈b6 J S W:=λh=>dj.mp ((sj G).mem_iff.mp h);refine⟨same.1.trans d.gens,same.2.1.trans d.drawn,same.2.2.trans d.os,λb o e=>keep b o (d.keep b o e),?_,ns,λe=>(cb e),H,λi x X a=>nn a,λx cl F=>⟨cm x,j x cl (a4 x cl F)⟩,w,d.dT,t,λi a o u h2=>(d.eZ i a o u h2).mono z (.refl _) (keep a),(sj G).nodup_iff.mpr (dH.mpr (bk (Qv f above apart p λa q=>(g a q).2) d.nodup λa h b ak q=>?_)),λa h=>?_,λa h=>?_,?_⟩
  · exact jg d.ns λo _ _ e _=>dt d.above (dt (iu (eX (n _ o e))) f)
  · exact aG (d.there b ak) λo e=>nn ((old a h).symm.trans (q▸e))
  · exact(mm h).elim (λq=>vW d (old a q)) (d.new a)
  · refine aS (mm h) (λq=>?_) λq=>?_
    · rcases b9.mp q with rfl | q
      · exact jg ns λo _ _ e _=>⟨o,e⟩
      · refine aS (dj.mp q) (λq=>?_) λq=>?_
        · refine aI (fw.mp q) λy q r=>?_;obtain⟨x,b⟩:=y;exact aI (j x b (a4 x b q)) λo e _=>⟨o,r▸e⟩
        · exact aG ((g a q).2) λo e=>⟨o,l a o e⟩
    · exact aG (d.there a q) λo e=>⟨o,keep a o e⟩
  · exact aI (ns_obj ns) λo B C=>(bk (by refine ac (show(sub J A env nm).a8.scope.kind=.function from E) ?_;decide) (jh env.locals o hf (vW d nl) B C) (d.frames.of_keeps λb o e ag=>(aM o (keep b o e) rfl)))
end
section
variable{c:aU}{J:bo}{S aJ:aA}{W aY:bP}{s s1 s2:aP}{A:c6}{env:Env}{nm:List Str}{bB:List (Option cA)}{aR:List aQ}{la:List aq}{m cm:Str→Option ay}{ex:List aq}
theorem O4(m:b∈J.cl++J.dR):b∈kept J S W:=(eM ..).subst (motive:=(b∈·)) (d9 _ m)
theorem O6(m:b∈bL W.la S.aR):b∈kept J S W:=ch _ (ch _ (d9 _ m))
theorem O5(m:b∈W.aw):b∈kept J S W:=ch _ (ch _ (ch _ m))
theorem RO(X C L l G e h:List aq):(X++(C++(L++(l++(G++(e++h)))))).Perm (X++((C++(L++(l++h)))++(G++e))):=by refine .append_left X (ac (eM ..) (.append_left C ?_));refine ac (eM ..) (.append_left L ?_);refine ac (eM ..) (.append_left l ?_);exact(eM ..)▸Wb
theorem wf:(b6 J (S.b8 aJ.aE) {W with ga:=aY.ga,aw:=ex++W.aw}).Perm ((J.a8.locals :: J.dN)++(kept J S W++(bL aY.ga aJ.aE++ex))):=ac fF (RO ..)
theorem O7(m:b∈kept J S W):b∈b6 J S W:=PT.mpr (.inr (.inl m))
theorem av.O3(a:av c J S W s):(kept J S W).Nodup:=(dH.mp a.kX).2.1.sublist ((lf _).append ((lf _).append ((lf _).append (List.sublist_append_right ..))))
theorem av.leave(G:J.Ok)(g:av c J S W s)(z:∀ b o,(ar J S W s.heap).get? b=U o→(ar (sub J A env nm) ⟨bB,aR,S.aE,[]⟩ ⟨m,cm,la,W.ga,kept J S W⟩ s1.heap).get? b=U o)(bX:∀ b o,s.heap.get? b=U o→s1.heap.get? b=U o)
    (d:av c (sub J A env nm) aJ aY s2) (st:aV (sub J A env nm) ⟨bB,aR,S.aE,[]⟩ ⟨m,cm,la,W.ga,kept J S W⟩ s1 aJ aY s2) (j:∀ a∈ex,a∈aY.aw∧s.heap.get? a=ae) (B:ex.Nodup):
    av c J (S.b8 aJ.aE) {W with ga:=aY.ga,aw:=ex++W.aw} s2∧aV J S W s (S.b8 aJ.aE) {W with ga:=aY.ga,aw:=ex++W.aw} s2∧(∀ b o,(ar (sub J A env nm) aJ aY s2.heap).get? b=U o→(ar J (S.b8 aJ.aE) {W with ga:=aY.ga,aw:=ex++W.aw} s2.heap).get? b=U o)∧(∀ a∈bL aY.la aJ.aR,a∉b6 J (S.b8 aJ.aE) {W with ga:=aY.ga,aw:=ex++W.aw}):=by
  have aj:∀ b∈kept J S W,b∈aY.aw∧∀ o,s.heap.get? b=U o→s2.heap.get? b=U o:=λb ak=>⟨(st.aw b ak).1,λo e=>(st.aw b ak).2 o (bX b o e)⟩
  have y:∀ b∈J.a8.locals :: J.dN,∀ o,s.heap.get? b=U o→∃ da,s2.heap.get? b=U {o with slots:=da}:=λb ak o e=>st.out b (Db G▸ak) o (bX b o e);have l:=wy G ..▸d.nodup;have t:=(dH.mp l).2.1;have n:=(dH.mp (dH.mp t).2.1).2.1;have x:∀ {a},a∈kept J S W++(bL aY.ga aJ.aE++ex)→a∈bL aY.ga aJ.aE++aY.aw:=λm=>by
    refine aS (dj.mp m) (λq=>?_) λq=>?_
    · exact ch _ (aj _ q).1
    · refine aS (dj.mp q) (λq=>?_) λq=>?_
      · exact d9 _ q
      · exact ch _ (j _ q).1
  have h:∀ a,a∈b6 J (S.b8 aJ.aE) {W with ga:=aY.ga,aw:=ex++W.aw}→a∈b6 (sub J A env nm) aJ aY:=λa f=>by
    refine ac (wy G ..) (aS (dj.mp (wf.mem_iff.mp f)) (λq=>?_) λq=>?_)
    · exact d9 _ (.tail _ q)
    · exact ch _ (ch _ (ch _ (x q)))
  have k:∀ b o,(ar (sub J A env nm) aJ aY s2.heap).get? b=U o→(ar J (S.b8 aJ.aE) {W with ga:=aY.ga,aw:=ex++W.aw} s2.heap).get? b=U o:=λb o e=>by exact aC (ik e) λu v=>fg u λq=>v (h b q)
  have p:∀ b o,(ar J S W s.heap).get? b=U o→(ar J (S.b8 aJ.aE) {W with ga:=aY.ga,aw:=ex++W.aw} s2.heap).get? b=U o:=λb o e=>k b o (st.ar b o (z b o e));have w:∀ b∈J.cl++J.dR,∀ o,s.heap.get? b=U o→s2.heap.get? b=U o:=λb m=>(aj b (O4 m)).2;refine(c5 ⟨d.gens,d.drawn,d.os,d.keep,g.above,?_,g.sY w,g.nN p w (.refl _) st.ga,g.sZ p st.ga,g.sX w,g.ee,d.dT,g.Fw p st.ga λb m=>(aj b (O6 m)).2,λi a o D h2=>(d.eZ i a o D h2).mono k (.refl _) λF e=>e,wf.nodup_iff.mpr (dH.mpr (bk ((dH.mp g.kX).1) (dH.mpr (bk g.O3 (dH.mpr (bk ((dH.mp n).1) B λa f b ak q=>?_)) λa f b ak q=>?_)) λa f b ak q=>?_)),λa f=>d.new a (h a f),λa f=>d.there a (h a f),d.frames.2.2⟩ ⟨p,.refl _,st.ga,λb ak o e=>y b (.tail _ ak) o e,λb ak=>⟨ch _ ak,(aj b (O5 ak)).2⟩,λb e=>sr bX (st.b4 b e)⟩ k λa f E=>?_)
  · exact kK g.ns λo es ep u v r=>aG (y _ (.head _) o u) λda C=>(lK _ es ep C v r)
  · exact eW n f (q▸(j b ak).1)
  · refine aS (dj.mp ak) (λr=>?_) λr=>?_
    · exact eW n r (q▸(aj a f).1)
    · exact aG (g.there a (O7 f)) λo e=>nn ((j b r).2.symm.trans (q▸e))
  · exact eW l (.tail _ f) (ch _ (ch _ (q▸x ak)))
  · refine aS (dj.mp (wf.mem_iff.mp E)) (λq=>?_) λq=>?_
    · exact eW l (.tail _ q) (ch _ (d9 _ f))
    · exact eW (dH.mp t).2.1 f (x q)
end
section
variable{c:aU}{J:bo}{S bb:aA}{W a0:bP}{s a5:aP}{Q Q1 X:bU}
theorem o2(G:J.Ok):(J.a8 :: J.outer).filterMap (·.frame)=J.a8.locals :: J.dN:=by refine ac tx (ac G.frame ?_);rfl
theorem av.slots(G:J.Ok)(d:av c J S W s)(x:Heap.SlotsOnly ((J.a8 :: J.outer).filterMap (·.frame)) s.heap h'):
    av c J S W (dh s h')∧∀ bb a0 a5,aV J bb a0 a5 S W s→aV J bb a0 a5 S W (dh s h'):=by
  obtain x:=(o2 G)▸x;have k:∀ b o,b∉J.a8.locals :: J.dN→s.heap.get? b=U o→h'.get? b=U o:=λb o m e=>(x.2.1 b m).trans e
  have da:∀ b o,s.heap.get? b=U o→∃ da,h'.get? b=U {o with slots:=da}:=x.2.2;have h:∀ b∈b6 J S W,∃ o,h'.get? b=U o:=λb m=>by exact aG (d.there b m) λo e=>aG (da b o e) λs1 f=>⟨_,f⟩
  refine aC (d.s8 s.toks k (λb m=>wx m) (λb m q=>d.CZ q m) (λb m q=>d.iN q (Cc m)) (λa m=>m) d.nodup h (by obtain⟨o,es,ep,f,g,r⟩:=d.ns;obtain⟨s1,i⟩:=da _ o f;exact(lK _ es ep i g r)) (d.frames.of_keeps λb o e ag=>by obtain⟨s1,f⟩:=da b o e;exact(aM _ f rfl))) λa z=>?_;refine⟨a,λbb a0 a5 st=>⟨λb o e=>z b o (st.ar b o e),st.la,st.ga,λb m o e=>?_,λb m=>⟨(st.aw b m).1,λo e=>k b o (λq=>d.iN q (ht (st.aw b m).1)) ((st.aw b m).2 o e)⟩,λb e=>st.b4 b (wF k (λb m=>h b (wx m)) b e)⟩⟩;exact aG (st.out b m o e) λs1 f=>aG (da b _ f) λs2 g=>⟨s2,g⟩
theorem Ku(o:Obj)(f):(o.mapFields f).dict=o.dict:=by obtain⟨c,d,a,da⟩:=o;cases a <;>rfl
theorem Ur(a b c d e:ay)(l):3<([a,b,c,d,e]++l).toArray.size:=hj (al rfl:3<5) (jJ 5 l.length)
theorem xe(G:J.Ok)(j:av c J S W s){A:c6}{b:aq}{o:Obj}{vs:Array ay}{i:Nat}{x:ay}{Q:Unit→aP→Prop}(ak:b∈W.aw)(g:s.heap.get? b=U o)(hd:o.data=.fields vs)(au:i<vs.size)
    (h:∀ h' o',av c J S W (dh s h')→(∀ bb a0 a5,aV J bb a0 a5 S W s→b∉a0.aw→aV J bb a0 a5 S W (dh s h'))→(∀ d p,(ar J S W s.heap).get? d=U p→(ar J S W h').get? d=U p)→h'.get? b=U o'→o'.data=.fields (vs.setIfInBounds i x)→o'.cls=o.cls→o'.dict=o.dict→(∀ d,d≠b→h'.get? d=s.heap.get? d)→Q () (dh s h')):aD c.M A (setField (.ref b) i x) Q E s:=by
  have f:=xS hd (·.setIfInBounds i x);have ne:∀ d,d≠b→(s.heap.update b (tI (·.setIfInBounds i x))).get? d=s.heap.get? d:=λd q=>i1 _ _ _ _ q;have e:=lc (tI (·.setIfInBounds i x)) g (GF f);refine aC (j.pX G.frame s.toks ak (λd o q e=>(ne d q).trans e) ⟨_,e⟩) λa st=>G9 g hd au (h _ _ a st (jr (T:=[b]) (λd o e m=>(ne d λq=>m (dx.mpr q)).trans e) (λd m=>dx.mp m▸mg (ht ak)) λa h=>.inl h) e f (Ws _ _) (Ku _ _) ne)
theorem Qk(d:av c J S W s){Q:ay→aP→Prop}
    (h:∀ h' o,av c J S {W with aw:=s.heap.objs.size :: W.aw} (dh s h')→aV J S W s S {W with aw:=s.heap.objs.size :: W.aw} (dh s h')→h'.get? s.heap.objs.size=U o→o.data=.fields vs→(∀ b o,s.heap.get? b=U o→h'.get? b=U o)→Q (.ref s.heap.objs.size) (dh s h')) (hd:sizeOk (.fields vs)):aD c.M A (newObj (.type T) (.fields vs)) Q E s:=by
  exact aC (d.kY {cls:=.type T,data:=.fields vs} s.toks rfl) λa st=>qp (h _ _ a st (ez _ rfl) rfl kT) hd
theorem C7(G:J.Ok)(w:av c J bb a0 a5)(ce:av c J S W s)(st:aV J bb a0 a5 S W s)(F:jO c J S W a5.heap s.heap e x)
    (h:∀ W' s' a T,av c J S W' s'→aV J bb a0 a5 S W' s'→e=.ref a→a≠T→jO c J S W' a5.heap s'.heap e x→(∃ u vs,s'.heap.get? a=U u∧u.data=.fields vs∧vs[1]?=U (.ref T))→R () s'):aD c.M J.A (noteFrame e J.a8) (λag s'=>aD c.M J.A (setFlight e ae) R bj s') bj s:=by
  refine F _ λa cP C u vs ds n fs N O a1 Z he a2 bm hd B co hZ=>?_;obtain rfl:=N;obtain rfl:=O;have no:∀ {b},a5.heap.get? b=ae→b∉a0.aw:=λf m=>by exact aG (w.there _ (mg (ht m))) λo e=>nn (f.symm.trans e)
  have entry:∀ g s1 head i,av c J S g s1→aV J bb a0 a5 S g s1→a∈g.aw→s1.heap.get? a=U u→1<vs.size→(ar J S g s1.heap).get? cP=U (dictOf ds n)→eb c (ar J S g s1.heap) g.ga ds (c.lay C) fs→aD c.M J.A (do let x ← frameOf J.a8;let l ← entryPlaceOf J.a8.locals i;let b ← Vp head x .none (rawInt J.a8.locals) .none l;setField (.ref a) 1 b) (λag s'=>aD c.M J.A (setFlight (.ref a) ae) R bj s') bj s1:=by
    intro g s1 head i hs1 bv p bs hsz H cs;refine ax (wpAny_frameOf_fun G.frames hs1.frames G.frame λd k=>?_);refine aC (hs1.slots G k) λcl t2=>?_;have z:d.get? a=U u:=by obtain k:=(o2 G)▸k;exact(k.2.1 a λq=>hs1.iN q (ht p)).trans bs
    refine ax (wpAny_entryPlaceOf λl cd=>?_);unfold Vp newFields;have hz:3<([head,.ref J.a8.locals,.none,rawInt J.a8.locals,.none]++(if l.isEmpty then h3 6 hl else l)).toArray.size:=Ur ..
    have I:=cd.sizeOk5 head (.ref J.a8.locals) .none (rawInt J.a8.locals) .none;revert hz I;generalize ([head,.ref J.a8.locals,.none,rawInt J.a8.locals,.none]++(if l.isEmpty then h3 6 hl else l)).toArray=V;intro hz I;refine ax (Qk cl (λE fd cm t3 am d2 eu=>?_) I);have j:d.objs.size≠a:=n2 (eX z);refine xe G cm (.tail _ p) (eu _ _ z) hd hsz λem eq t P y r v iD s9 L=>?_;unfold setFlight;refine ax (fN r v (x:=.ref d.objs.size) (by simp [hsz]) ?_);refine ac (if_pos (show(kt d.objs.size != hl)=af from by rfl)) (xe G t (.head _) ((L _ j).trans am) d2 hz λep fr cn es ex ca d1 vk f2 md=>?_);have D:=t2 _ _ _ bv;have freshT:a5.heap.get? d.objs.size=ae:=D.b4 _ (none_lt (eg _) (eg _));have Y:=(md _ (jK j)).trans r;have mz:∀ b o,(ar J S g s1.heap).get? b=U o→(ar J S {g with aw:=d.objs.size :: g.aw} ep).get? b=U o:=λb o e=>ex b o (y b o (t3.ar b o ((t2 _ _ _ .refl).ar b o e)));exact h _ _ a d.objs.size cn (es _ _ _ (P _ _ _ (D.trans t3) (no Z)) (no freshT)) rfl (jK j) (λ_ aj=>aj a cP C _ _ ds n fs rfl rfl (.tail _ p) Z Y (iD.trans a2) (s9.trans bm) v (mz _ _ H) (cs.mono mz (.refl _)) (.inr (uR d.objs.size _ _ (by simp [hsz]) j (.head _) freshT ca d1 (by simp [hz])))) (dL _ _ Y v (by simp [hsz]))
  unfold noteFrame;refine ac G.frame (aS hZ (λd=>?_) λev=>qI ev λT f0 b1 d ap as f1 bp o5 E=>?_)
  · refine ax (fN he hd d ?_);exact ac (if_neg (by decide)) (entry W s _ _ ce st a1 he (xy.mp d).1 B co)
  · refine ax (fN he hd d ?_);refine ac (if_pos (show(kt T != hl)=af from by rfl)) (ax (fN bp o5 E ?_));refine ac (if_neg (show ¬ ((hl==rawInt J.a8.locals)=af) from by simp [rawInt])) (ax (xe G ce as bp o5 (xy.mp E).1 λem eq t P y r v iD s9 L=>?_));exact entry W _ _ _ t (P _ _ _ st (no f1)) a1 ((L _ (jK ap)).trans he) (xy.mp d).1 (y _ _ B) (co.mono y (.refl _))
theorem Pt(G:J.Ok)(b:av c J bb a0 a5)(f:av c J S W s)(st:aV J bb a0 a5 S W s)(F:jO c J S W a5.heap s.heap e x)
    (h:∀ W' s' a T,av c J S W' s'→aV J bb a0 a5 S W' s'→e=.ref a→a≠T→jO c J S W' a5.heap s'.heap e x→(∃ d vs,s'.heap.get? a=U d∧d.data=.fields vs∧vs[1]?=U (.ref T))→R () s'):aD c.M J.A (leaving J.a8 e) R bj s:=
  ax (C7 G b f st F h)
end
section
set_option genCtorIdx false
set_option genSizeOf false
set_option genInjectivity false
inductive ho(c:aU)(Z:bz)(ga:List aq):Flow→lz→Prop where
  | next:ho c Z ga .next .next
  | ret {v:ay} {x:V}:aK c Z ga v x→ho c Z ga (.ret v) (.ret x)
@[elab_as_elim] theorem ho.lT{c:aU}{Z:bz}{ga:List aq}{P:Flow→lz→Prop}{f:Flow}{a:lz}(r:ho c Z ga f a)(b:P .next .next)(h2:∀ v x,aK c Z ga v x→P (.ret v) (.ret x)):P f a:=by
  cases r with
  | next=>exact b
  | ret r=>exact h2 _ _ r
noncomputable def HB(c:aU)(J:bo)(S:aA)(W:bP)(s:aP)(Q:fc)(f:Flow)(s':aP):Prop:=∀ a:Prop,(∀ b S' W',Q b S'→av c J S' W' s'→aV J S W s S' W' s'→ho c (ar J S' W' s'.heap) W'.ga f b→a)→a
noncomputable def dZ(c:aU)(J:bo)(S:aA)(t:Sem Flow)(Q:fc)(X:bU):Prop:=∀ W s,av c J S W s→aD c.M J.A t (HB c J S W s Q) (dG c J S W s X) s
structure kE where
  aa:bJ
  nm:List Str
  np:Nat
noncomputable def wi(aa:bJ)(x:Str):Bool:=aa.names.lookup x==U .local || aa.names.lookup x==U .cell
structure kE.Ok(br:kE):Prop where
  kind:br.aa.kind=.function
  co:br.aa.isCoroutine=ah
  gen:br.aa.isGenerator=ah
  names:(br.aa.names.map (·.1)).Nodup
  nodup:br.nm.Nodup
  kinds:∀ x∈br.nm,wi br.aa x=af
  np:br.np≤br.nm.length
theorem JV:∀ names n acc x,x∈(cellsFrom n names acc).map (·.1)↔(x,NameKind.cell)∈names∨x∈acc.map (·.1):=by
  intro names
  induction names with
  | nil=>
    intro n acc x;simp [cellsFrom]
  | cons x0 r a=>
    obtain⟨y,k⟩:=x0;intro n acc x;unfold cellsFrom;cases k with
    | cell=>
      refine ac (if_pos (by rfl)) ?_;rewrite [a];simp only [fa,b9,Prod.mk.injEq,and_true];constructor
      · rintro(h | h | h) <;>simp_all
      · rintro((h | h) | h) <;>simp_all
    | _=>refine ac (if_neg (by decide)) ?_;rewrite [a];simp
theorem JW:∀ (names:List (Str×i3)) (n:Nat) (acc:List (Str×aq)),(names.map (·.1)).Nodup→(acc.map (·.1)).Nodup→(∀ x∈names.map (·.1),x∉acc.map (·.1))→((cellsFrom n names acc).map (·.1)).Nodup:=by
  intro names
  induction names with
  | nil=>
    intro n acc _ h _;exact h
  | cons x0 r d=>
    obtain⟨y,k⟩:=x0;intro n acc a h2 c;rw [fa,e5] at a;unfold cellsFrom;split
    · refine d _ _ a.2 ?_ λx b=>?_
      · exact ac fa (e5.mpr ⟨c y (.head _),h2⟩)
      · refine ac fa ?_;rewrite [b9,not_or];exact⟨λq=>a.1 (q▸b),c x (.tail _ b)⟩
    · exact d _ _ a.2 h2 λx b=>c x (.tail _ b)
theorem pj{α:Type}:∀ {l:List (Str×α)} {x:Str} {b:α},(l.map (·.1)).Nodup→(x,b)∈l→l.lookup x=U b:=by
  intro l
  induction l with
  | nil=>
    intro _ _ _ h;exact absurd h c4
  | cons x0 r a=>
    obtain⟨y,c⟩:=x0;intro x b bT h;rw [fa,e5] at bT;refine ac mI (aS (b9.mp h) (λq=>?_) λq=>?_)
    · clear h;cases q;simp
    · have:(x==y)=ah:=by refine beq_eq_false_iff_ne.mpr λe=>?_;clear h;subst e;exact bT.1 (fw.mpr (aM _ q rfl))
      exact ac this (a bT.2 q)
theorem rv(h:names.lookup x=U .cell):((cellsFrom n names []).lookup x).isSome=af:=by
  have m:x∈(cellsFrom n names []).map (·.1):=(JV names n [] x).mpr (.inl (lookup_mem h));refine aI (fw.mp m) λc a e=>?_;obtain⟨y,b⟩:=c;dsimp only at e;subst e;cases q:(cellsFrom n names []).lookup y with
  | some _=>rfl
  | none=>exact absurd a (by
      intro a;have:=List.lookup_eq_none_iff.mp q _ a
      simp at this)
theorem Ay(kindOf:Str→Option i3):∀ binds m,x∉binds.map (·.1)→bindL kindOf binds m x=m x|[],m,_=>rfl|(n,v) :: r,m,h=>by simp only [fa,b9,not_or] at h;unfold bindL;rw [Ay kindOf r _ h.2];split <;>simp [h.1]
theorem oS(kindOf:Str→Option i3)(a:kindOf x=U .local):∀ binds m,(binds.map (·.1)).Nodup→(x,v)∈binds→bindL kindOf binds m x=U v
  | [],_,_,h=>absurd h c4
  | (n,u) :: r,m,bT,h=>by
    rw [fa,e5] at bT;unfold bindL;refine aS (b9.mp h) (λq=>?_) λq=>?_
    · cases q;rw [Ay kindOf r _ bT.1,if_pos a];simp
    · exact oS kindOf a r _ bT.2 q
theorem Ax(kindOf:Str→Option i3):∀ binds m,x∉binds.map (·.1)→tK kindOf binds m x=m x|[],m,_=>rfl|(n,v) :: r,m,h=>by simp only [fa,b9,not_or] at h;unfold tK;rw [Ax kindOf r _ h.2];split <;>simp [h.1]
theorem Aw(kindOf:Str→Option i3)(a:kindOf x≠U .local):∀ binds m,(binds.map (·.1)).Nodup→(x,v)∈binds→tK kindOf binds m x=U v
  | [],_,_,h=>absurd h c4
  | (n,u) :: r,m,bT,h=>by
    rw [fa,e5] at bT;unfold tK;refine aS (b9.mp h) (λq=>?_) λq=>?_
    · cases q;rw [Ax kindOf r _ bT.1,if_neg a];simp
    · exact Aw kindOf a r _ bT.2 q
section
variable{prog:jL}{w:ku}{A:c6}{s:aP}
theorem AU
    (k:A.depth<recursionLimit) (u:s.heap.get? a=U o) (i:o.data=.func fd) (n:s.heap.NoLimit) (p:s.heap.CodeRec fd.code fd.qualname)
    (g:fd.body=.stmts body) (d:mB s fd ⟨vals,[]⟩ binds) (l:fd.closure=[])
    (j:∀ x∈binds,fd.scope.names.lookup x.1=U .local∨(fd.scope.names.lookup x.1=U .cell∧((cellsFrom (s.heap.objs.size+1) fd.scope.names []).lookup x.1).isSome=af))
    (h:∀ c,InCallC s (callEnvC fd s.heap.objs.size a).locals (bindL (callEnvC fd s.heap.objs.size a).kindOf binds λag=>ae) (callEnvC fd s.heap.objs.size a).cells
        (tK (callEnvC fd s.heap.objs.size a).kindOf binds λag=>ae) c→
      aD (model prog w) (A.deeper (callEnvC fd s.heap.objs.size a)) (execs body (callEnvC fd s.heap.objs.size a)) (λf s'=>R (.ok (.ret (match f with | .ret v=>v | _=>.none))) s')
        (λe s'=>aD (model prog w) (A.deeper (callEnvC fd s.heap.objs.size a)) (leaving (callEnvC fd s.heap.objs.size a) e) (λag b=>R (.error e) b) (λr b=>R (.error r) b) s') c)
    (q:fd.scope.isCoroutine=ah) (m:fd.scope.isGenerator=ah) (t:fd.scope.kind=.function):
    codeAny (model prog w) A (.call (.ref a) ⟨vals,[]⟩) R s:=by
  refine codeAny_call_function k u i q m g p (d _ _ _ _ ?_);refine ac l (wpAny_newFunctionEnv_cells t j λenv he s' x=>?_);subst he;exact⟨n.keeps x.toInCall.keep,codeAny_func (h s' x)⟩
end
structure FnAt(c:aU)(f:aq)(fd:gx)(br:kE)(body:List cH):Prop where
  obj:∃ oc od iS,c.K.lookup f=U ⟨oc,od,.func fd,iS⟩
  code:codeIn c.K fd.code fd.qualname=af
  aO:fd.globals=mainGlobals
  blt:fd.builtins=builtinsNs
  m6:fd.closure=[]
  scope:fd.scope=br.aa
  I3:fd.body=.stmts body
class inductive jR(c:aU)(Z:bz)(ga la:List aq):List ay→List cA→Prop where|nil:jR c Z ga la [] []|cons {v:ay} {x:cA} {vs:List ay} {xs:List cA}:fX c Z ga la v x→jR c Z ga la vs xs→jR c Z ga la (v :: vs) (x :: xs)
theorem jR.length(h:jR c Z ga la vs xs):vs.length=xs.length:=by induction h with|nil=>rfl|cons _ _ a=>exact congrArg (·+1) a
theorem jR.get{c:aU}{Z:bz}{ga la:List aq}{vs:List ay}{xs:List cA}(h:jR c Z ga la vs xs){i:Nat}{x:cA}(b:xs[i]?=U x):∃ v,vs[i]?=U v∧fX c Z ga la v x:=by
  induction h generalizing i with
  | nil=>exact nn b
  | cons a _ d=>cases i with
    | zero=>exact(aM _ rfl (aX b▸a))
    | succ i=>exact d b
theorem ba.toS(h:ba c Z ga vs xs):jR c Z ga la vs (xs.map .val):=by induction xs generalizing vs with|nil=>exact h.nil_inv▸.nil|cons x xs d=>exact h.cons_inv _ λv us e a b=>e▸.cons a (d b)
noncomputable def gV(br:kE)(xs:List cA):List (Option cA):=xs.map U++h3 (br.nm.length-xs.length) ae
noncomputable def Xr(fd:gx)(L:aq)(a:aq):Prop:=∀ b:Prop,((callEnvC fd L a).scope=fd.scope→(callEnvC fd L a).locals=L→(callEnvC fd L a).globals=fd.globals→(callEnvC fd L a).cells=cellsFrom (L+1) fd.scope.names []→(callEnvC fd L a).frame=U L→(callEnvC fd L a).builtins=fd.builtins→b)→b
section
variable{c:aU}{J:bo}{S:aA}{W:bP}{s sm:aP}{Q X:bU}{A:c6}
theorem Fp(G:J.Ok)(F:FnAt c f fd br body)(K:br.Ok)(a:A.frames=U (J.a8 :: J.outer))(hh:A.handled=ae)(hd:A.depth+1<recursionLimit)(b:A.units+3+100<cLine):(sub J A (callEnvC fd L f) br.nm).Ok where
  frames:=Around.frames_deeper a
  handled:=hh
  frame:=rfl
  kind:=by show fd.scope.kind=_;exact ac F.scope K.kind
  jp:=by show fd.scope.kind=_;exact ac F.scope K.kind
  aO:=F.aO
  blt:=F.blt
  nodup:=K.nodup
  vr:=.nil
  units:=b
  depth:=hd
  a6:=λag=>rfl
theorem AI(aW:c.Ok)(G:J.Ok)(E:av c J S W s){f:aq}{fd:gx}{br:kE}{body:List cH}(F:FnAt c f fd br body)(K:br.Ok)(hf:A.frames=U (J.a8 :: J.outer))(hh:A.handled=ae)(hd:A.depth+1<recursionLimit)(hz:A.units+3+100<cLine)
    (H:∀ b o,s.heap.get? b=U o→sm.heap.get? b=U o) (same:sm.gens=s.gens∧sm.drawn=s.drawn∧sm.os=s.os) {aR:List aQ} {la:List aq} (ev:la.length=aR.length) (cn:(bL la aR).Nodup)
    (g:∀ a∈bL la aR,s.heap.get? a=ae∧∃ o,sm.heap.get? a=U o)
    {vs vals:List ay} {xs:List cA} (P:mB sm fd ⟨vs,[]⟩ ((br.nm.take br.np).zip vals)) (hlen:xs.length=br.np)
    (y:∀ Z,(∀ b o,(ar J S W s.heap).get? b=U o→Z.get? b=U o)→(∀ b o,sm.heap.get? b=U o→b∉b6 J S W→b∉bL la aR→Z.get? b=U o)→jR c Z W.ga la vals xs∧∀ (h':bz),(∀ b o,sm.heap.get? b=U o→h'.get? b=U o)→∀ (i:Nat) (a:aq) (o:aQ),la[i]?=U a→aR[i]?=U o→d3 c Z h' W.ga a o)
    {ep:fc} (V:∀ L,dZ c (sub J A (callEnvC fd L f) br.nm) ⟨gV br xs,aR,S.aE,[]⟩ (execs body (callEnvC fd L f)) ep g3)
    (cs:∀ v j aJ W' s' (B:List aq) (ca:List aq),ep j aJ→av c J (S.b8 aJ.aE) W' s'→aV J S W s (S.b8 aJ.aE) W' s'→aK c (ar J (S.b8 aJ.aE) W' s'.heap) W'.ga v (match j with | .ret x=>x | .next=>.none)→
      Pre la ca→(∀ b o,sm.heap.get? b=U o→b∉b6 J S W→b∉bL la aR→(ar J (S.b8 aJ.aE) W' s'.heap).get? b=U o)→
      (∀ (i:Nat) (a:aq) (o:aQ),ca[i]?=U a→aJ.aR[i]?=U o→o≠.dead→a∉b6 J (S.b8 aJ.aE) W'∧d3 c (ar J (S.b8 aJ.aE) W' s'.heap) s'.heap W'.ga a o)→R (.ok (.ret v)) s')
    (cm:∀ e x aJ W' s',g3 x aJ→av c J (S.b8 aJ.aE) W' s'→aV J S W s (S.b8 aJ.aE) W' s'→jO c J (S.b8 aJ.aE) W' s.heap s'.heap e x→R (.error e) s'):codeAny c.M A (.call (.ref f) ⟨vs,[]⟩) R sm:=by
  refine HH F.obj λoc od iS hw=>?_;have a1:∀ b o,c.ak.get? b=U o→sm.heap.get? b=U o:=λb o e=>H b o (E.keep b o e)
  have eq:c.K.In sm.heap:=aW.X.keeps a1;have kinds:∀ x∈br.nm,fd.scope.names.lookup x=U .local∨fd.scope.names.lookup x=U .cell:=λx em=>by
    have:=K.kinds x em;refine ac F.scope ?_
    simpa [wi] using this
  have go:vals.length=br.np:=by
    have r:=(y (hideAll sm.heap (b6 J S W++bL la aR)) (λb o e=>?_) (λb o e cX cg=>tS _ e (λq=>(dj.mp q).elim cX cg))).1
    · exact ac r.length (ac hlen rfl)
    · refine aC (ik e) λu ce=>tS _ (H b o u) λq=>(dj.mp q).elim ce λq=>?_;rw [(g b q).1] at u;clear q;exact nn u
  have lk:(br.nm.take br.np).length=br.np:=by refine ac jI ?_;exact n1 K.np
  have a2:(((br.nm.take br.np).zip vals).map (·.1))=br.nm.take br.np:=by show((br.nm.take br.np).zip vals).map GG=_;exact ac (List.map_fst_zip (by lia)) rfl
  have cd:(((br.nm.take br.np).zip vals).map (·.1)).Nodup:=by refine ac a2 ?_;exact K.nodup.sublist (Gx _ _)
  have f4:∀ p∈(br.nm.take br.np).zip vals,p.1∈br.nm:=λp bt=>V7 (by refine bG a2 ?_;exact fw.mpr (aM p bt rfl));refine AU (GB hd) (eq _ _ hw) rfl (aW.T.nolimit.keeps a1) (codeRec_of eq F.code) F.I3 P F.m6 (λp bt=>(kinds p.1 (f4 p bt)).imp id λq=>⟨q,rv q⟩) (λN I=>?_)
    (by refine ac F.scope ?_;exact K.co) (by refine ac F.scope ?_;exact K.gen) (by refine ac F.scope ?_;exact K.kind)
  have hm:(callEnvC fd sm.heap.objs.size f).scope.kind=.function:=by show fd.scope.kind=_;exact ac F.scope K.kind
  have a4:∀ x cl,(x,cl)∈(callEnvC fd sm.heap.objs.size f).cells→(callEnvC fd sm.heap.objs.size f).cells.lookup x=U cl:=λx cl Y=>pj (JW _ _ _ (by refine ac F.scope ?_;exact K.names) .nil (λag ag q=>nomatch q)) Y;refine aC (Bp (A:=A) (nm:=br.nm) (bB:=gV br xs) G E H g I) λz gl=>?_;refine aC (y _ z gl) λis ks=>?_;have sat:=E.enter (A:=A) (nm:=br.nm) (bB:=gV br xs) G H same ev cn g hm rfl I a4 (λk x X w h2=>by
    have bs:xs[k]?=U X:=by
      unfold gV at h2;by_cases q:k<xs.length
      · rw [Go (by simpa using q),qa] at h2
        simpa using h2
      · rw [xI (by simpa using q),VS] at h2;split at h2 <;>cases h2
    refine aI (is.get bs) λv h0 r=>?_;have fr:k<br.np:=by refine bG hlen ?_;exact(fM.mp bs).1
    have Y:(x,v)∈(br.nm.take br.np).zip vals:=by refine qc (i:=k) ?_;rw [Gr];exact⟨by refine ac (Gq fr) ?_;exact w,h0⟩
    have em:x∈br.nm:=qc w;refine(aM v ?_ r);refine aS (kinds x em) (λq=>?_) λq=>?_
    · exact .inl ⟨q,oS _ q _ _ cd Y⟩
    · refine aG (kr.mp (rv (n:=sm.heap.objs.size+1) q)) λcl bm=>?_;have:=I.cell x cl bm
      rw [Aw _ (by show fd.scope.names.lookup x≠_;refine ac q ?_;decide) _ _ cd Y] at this;exact .inr (cJ cl q bm this)) (ks _ λb o e=>I.toInCall.keep b o e)
  have bX:∀ b o,s.heap.get? b=U o→N.heap.get? b=U o:=λb o e=>I.toInCall.keep b o (H b o e);refine cI (V _ _ _ sat) (λj s2 p=>?_) λe s2 p=>?_
  · refine p _ λes aJ aY m l st it=>?_;refine hp (E.leave G z bX l st (ex:=[]) (λag h=>nomatch h) .nil) λb0 cB d out=>cs _ es aJ _ s2 [] aY.la m b0 cB ?_ st.la (λb o e cX cg=>d b o (st.ar b o (gl b o e cX cg))) λi a o w h2 hd=>⟨out a (fE w h2 hd),(l.locs i a o w h2).mono d (.refl _) λag e=>e⟩
    exact ho.lT it .none λag ag r=>r.mono d (.refl _)
  · refine p _ λx aJ aY m l st j=>?_;have g0:(sub J A (callEnvC fd sm.heap.objs.size f) br.nm).Ok:=Fp G F K hf hh hd hz
    refine Pt g0 sat l st j λlt kw a T f0 f8 he D ap bp=>?_;have O:∀ b,N.heap.get? b=ae→s.heap.get? b=ae:=λb e=>by cases q:s.heap.get? b with|none=>rfl|some o=>rw [bX b o q] at e;clear q D j m;exact nn e.symm
    refine ap _ λlv cP C im cL ds n fs u ce ih f1 g1 dQ d1 am ey io hZ=>?_;subst he;cases u;refine dn bp λln le as t t1=>?_;clear bp;rw [g1] at as;cases as;rw [am] at t;cases t;refine aS hZ (λq=>?_) λli=>qI li λls ii b1 t2 cg g4 f2 g2 d2 t3=>?_
    · rw [q] at t1;clear q g1 D j m;cases t1
    · rw [t2] at t1;cases t1;refine hp (E.leave G z bX f0 f8 (ex:=[a,T]) (λb ak=>by
        simp only [b9,c4,or_false] at ak;clear t2 g2 cg g1 j m ap p;rcases ak with rfl | rfl
        · exact⟨ih,O _ f1⟩
        · exact⟨g4,O _ f2⟩) (by simp;exact D)) λb0 cB d out=>?_
      exact cm _ x aJ _ kw m b0 cB (λ_ aj=>aj a cP C im cL ds n fs rfl ce (.head _) (O _ f1) g1 dQ d1 am (d _ _ ey) (io.mono d (.refl _)) (.inr (uR T ii b1 t2 cg (.tail _ (.head _)) (O _ f2) g2 d2 t3)))
end
end
theorem FI(A:c6)(C)(vals):(A.under (.builtin "type.__call__" ⟨.ref C :: vals,[]⟩)).depth=A.depth+1:=rfl
theorem UU(A:c6)(C)(vals):(A.under (.builtin "type.__call__" ⟨.ref C :: vals,[]⟩)).units=A.units+1:=rfl
theorem FJ(A:c6)(C)(vals):(A.under (.builtin "type.__call__" ⟨.ref C :: vals,[]⟩)).frames=A.frames:=rfl
theorem FK(A:c6)(C)(vals):(A.under (.builtin "type.__call__" ⟨.ref C :: vals,[]⟩)).handled=A.handled:=rfl
section
variable{c:aU}{J:bo}{S:aA}{W:bP}{s:aP}{Q X:bU}
theorem call_cls(aW:c.Ok)(G:J.Ok)(E:av c J S W s)(P:makesIn c.K C=af)(au:findIn c.K (.ref C) "__init__"= U (U (.ref dD)))(Y:typeIn c.K (.ref dD)=U (.type "function"))
    (F:FnAt c dD fd br body) (K:br.Ok) (hd:J.A.depth+2<recursionLimit) (co:J.A.units+4+100<cLine) (k:∀ x s',c.K.In s'.heap→mB s' fd ⟨x :: vs,[]⟩ ((br.nm.take br.np).zip (x :: vals))) (hlen:xs.length+1=br.np) (T:ba c (ar J S W s.heap) W.ga vals xs) {uD:V→List aQ→Prop}
    (l:∀ x L,dZ c (sub J (J.A.under (.builtin "type.__call__" ⟨.ref C :: vs,[]⟩)) (callEnvC fd L dD) br.nm) ⟨gV br (.new x 0 :: xs.map .val),[.d4 C x []],S.aE,[]⟩ (execs body (callEnvC fd L dD)) (λh aJ=>(match h with | .next=>True | .ret _=>False)∧∃ fs,aJ.aR[0]?=U (.d4 C x fs)∧uD (.a3 C fs) aJ.aE) N)
    (D:∀ v x g W' s',uD x g→av c J (S.b8 g) W' s'→aV J S W s (S.b8 g) W' s'→aK c (ar J (S.b8 g) W' s'.heap) W'.ga v x→R v s')
    (z:∀ e x aJ W' s',N x aJ→av c J (S.b8 aJ.aE) W' s'→aV J S W s (S.b8 aJ.aE) W' s'→jO c J (S.b8 aJ.aE) W' s.heap s'.heap e x→bj e s'):aD c.M J.A (call (.ref C) vs) R bj s:=by
  refine mQ ?_;have j:c.K.In s.heap:=aW.X.keeps E.keep
  obtain⟨hh,g,d,t,os⟩:=s;have u:∀ b o,hh.get? b=U o→((hh.push n6).push (instObj C hh.objs.size)).get? b=U o:=λb o e=>dX _ (dX _ e)
  have am:((hh.push n6).push (instObj C hh.objs.size)).get? (hh.objs.size+1)=U (instObj C hh.objs.size):=by
    have:=ez (hh.push n6) (o:=instObj C hh.objs.size) rfl
    rwa [nX] at this
  have r:((hh.push n6).push (instObj C hh.objs.size)).get? hh.objs.size=U n6:=dX _ (ez hh rfl);have fresh:∀ a,hh.objs.size≤a→hh.get? a=ae:=λa f=>jH f;have I:∀ a,hh.objs.size≤a→a∉b6 J S W:=λa f m=>by
    refine aG (E.there a m) λo e=>?_;have w:hh.get? a=U o:=e
    obtain w:=(fresh a f)▸w;clear f;exact nn w
  refine make_core (makes_of j P) (xV j au) (λself=>bind_fn j self Y) (.inl rfl) ?_;have xl:hh.objs.size+1∉bL [hh.objs.size] [aQ.d4 C (hh.objs.size+1) []]:=by show hh.objs.size+1∉[hh.objs.size];simp
  refine AI (A:=J.A.under (.builtin "type.__call__" ⟨.ref C :: vs,[]⟩)) (sm:=⟨(hh.push n6).push (instObj C hh.objs.size),g,d,t,os⟩) (aR:=[.d4 C (hh.objs.size+1) []]) (la:=[hh.objs.size]) (xs:=.new (hh.objs.size+1) 0 :: xs.map .val) (vals:=.ref (hh.objs.size+1) :: vals)
    aW G E F K (by rw [FJ];exact G.frames) (by rw [FK];exact G.handled) (by rw [FI];exact hd) (by rw [UU];assumption) u (bk rfl rfl rfl) rfl (by show [hh.objs.size].Nodup;simp) (λa f=>?_)
    (k _ _ (j.keeps u)) (by simp [hlen]) (λZ bX cw=>⟨.cons rfl (ba.toS (T.mono bX (.refl _))),λh' ap i a o y h2=>?_⟩) (l (hh.objs.size+1)) ?_ ?_
  · have p:a∈[hh.objs.size]:=f;simp at p;clear f;subst p;exact⟨fresh _ (eg _),_,r⟩
  · cases i with
    | zero=>
      simp at y h2;subst y h2;refine(dL [] 0 (ap _ _ r) .nil ⟨instObj C hh.objs.size,cw _ _ am (I _ (i4 _)) xl,rfl,rfl,rfl⟩)
    | succ i=>simp at y
  · intro v h aJ W' s' B H q sat st cn as eu out;refine aC q λa1 xr=>aI xr λfs a2 bm=>?_;have O:H[0]?=U hh.objs.size:=as.get rfl
    refine aC (out 0 _ _ O a2 (by simp)) λcX xr=>dn xr λds n bs ca xr=>qH xr λox cd ce cl cm=>?_;cases h with
    | ret _=>exact a1.elim
    | next=>
      exact⟨aK.none_inv cn,D _ (.a3 C fs) aJ.aE W' s' bm sat st (.a3 cd ce cl cm (fg bs cX) ca)⟩
  · intro e x aJ W' s' q sat st h;exact z e x aJ W' s' q sat st h
end
section
set_option backward.match.sparseCases false
noncomputable def noStar:aH→Bool|.Starred ..=>ah|_=>af
theorem xg(h:noStar e=af):starEach (e :: r) env=(ah,eval e env) :: starEach r env:=by cases e <;>first | rfl | exact cb h
theorem plain_any:∀ {es:List aH},es.all noStar=af→(backTo pos (starEach es env)).any (·.1)=ah:=by
  intro es
  induction es with
  | nil=>
    intro _;exact rfl
  | cons e r a=>
    intro h;simp only [Gi,xz] at h;refine ac (xg h.1) ?_;show(ah || (backTo pos (starEach r env)).any (·.1))=ah;refine ac (a h.2) ?_;rfl
theorem vM(h:es.all noStar=af)(b:es.length<30):methodCallForm (es.length+([]:List tu).length) (backTo pos (starEach es env)) (backToKw pos (keywordEach [] env))=af:=by
  obtain e:=plain_any (pos:=pos) (env:=env) h;unfold methodCallForm;obtain a:(backTo pos (starEach es env)).all (λx=>!x.1)=af:=by
    rw [List.any_eq_false] at e;rw [i2];intro x c;have:=e x c
    simpa using this
  refine ac a ?_;show(af&&af&&decide (es.length+0+0<30))=af;simp [b]
noncomputable def Callee(K:de)(f:ay):Prop:=(∃ id,f=.builtin id)∨(∃ T,f=.type T)∨keepIn K f=af
section
variable{c:aU}{J:bo}{S bb:aA}{W a0:bP}{s a5:aP}{Q Q1 X:bU}{ai:cp}{env:Env}
theorem lS{K:de}(hf:Callee K f)(he:es.all noStar=af)
    (h:aD M A (spliced (backTo pos (starEach es env))) (λvs a=>K.In a.heap∧aD M A (call f (first++vs)) R E a) E s):aD M A (callWith pos f first (backTo pos (starEach es env)) (backToKw pos (keywordEach [] env))) R E s:=by
  have b:∀ h,K.In h→∃ k,(k=Keeper.frame∨k=Keeper.machine∨k=Keeper.boundFrame)∧mL M h (keeperOf f) k:=λh X=>by
    rcases hf with⟨id,rfl⟩ | ⟨T,rfl⟩ | hf
    · exact(aM .machine (.inr (.inl rfl)) (Wk rfl))
    · exact(aM .machine (.inr (.inl rfl)) (Wk rfl))
    · exact keeps_K hf h X
  refine callWith_of (P:=K.In) (by show((backTo pos (starEach es env)).any (·.1) || false)=ah;refine ac (plain_any he) ?_;rfl) b ?_;cases es with
  | nil=>
    unfold evalArgs;show aD M A (spliced [] >>= _) _ E s;refine ax (cI h (λvs s' h'=>?_) λag ag x=>x);refine ax (bg (e6 ?_));exact ax (bg (ax (bg (bg h'))))
  | cons e r=>
    simp only [Gi,xz] at he;rw [xg he.1] at h ⊢;exact evalArgs_plain h
end
end
section
set_option backward.match.sparseCases false
structure h5(c:aU)(ai:cp)(an:dy):Prop where
  base:mV c ai
  lay:ai.lay=c.lay
  jz:∀ C,∀ k∈c.lay C,k<c.nl
  sc:∀ C,(c.lay C).Nodup
  sd:∀ C,(c.lay C).length≤400
  aO:∀ g X,ai.ju g=U X→∃ v,hH c (ai.gH g) v∧aK c c.ak [] v X
  bE:∀ C n a,ai.bE C n=U a→n<c.nl∧n∉c.lay C∧uC c C (c.ls n) a∧keepIn c.K (.ref a)=af
  bS:∀ C,∀ n∈c.lay C,qs c C (c.ls n)
  set:∀ C,∀ n∈c.lay C,uG c C (c.ls n)
  pm:∀ n k i,eG an k n=U i→(i="dict.get"→c.ls n="get")∧(i="list.append"→c.ls n="append")∧(i="list.pop"→c.ls n="pop")∧(i="list.extend"→c.ls n="extend")∧(i="bytes.join"→c.ls n="join")∧(i="str.count"→c.ls n="count")
  sub:∀ C D,ai.fC C=af→ai.fC D=af→subIn c.K (.ref C) (.ref D)=U (ai.hu C D)
  pn:an.append≠an.pop∧an.append≠an.extend∧an.pop≠an.extend
noncomputable def mR(c:aU)(ai:cp)(J:bo):Prop:=∀ a xs S Q X,ai.call a xs S.aE (λx g=>Q x (S.b8 g)) (λx g=>X x (S.b8 g))→keepIn c.K (.ref a)=af∧∀ W s vs,av c J S W s→ba c (ar J S W s.heap) W.ga vs xs→aD c.M J.A (call (.ref a) vs) (bQ c J S W s Q) (dG c J S W s X) s
theorem q9(h:∀ id p b,o=.Call (.Name id p) [] [] b→(id != ("super":Str))=af):attributeBase o bS env whole=whole:=by
  cases o with
  | Call f args a pos=>cases f with
    | Name id p=>cases args with
      | nil=>cases a with
        | nil=>unfold attributeBase;dsimp only;refine ac (h id p pos rfl) ?_;rfl
        | cons _ _=>rfl
      | cons _ _=>rfl
    | _=>rfl
  | _=>rfl
section
variable{c:aU}{J:bo}{S bb:aA}{W a0:bP}{s a5:aP}{Q Q1 X:bU}{ai:cp}{env:Env}{an:dy}
theorem B1(r:aK c Z ga v x):handedIn v=af:=by
  refine aK.casesOn (motive_1:=λv x ag=>handedIn v=af) r rfl (λag=>rfl) (λag ag=>rfl) (λag ag e ag=>ac e rfl) (λag ag=>rfl) (λag ag=>rfl) (λag ag=>rfl) (λag ag=>rfl) (λag ag ag ag=>rfl) (λag ag ag ag ag ag=>rfl) (λag=>rfl) (λag ag=>rfl) λn e h=>?_
  · rw [e];exact(show ∀ n:Fin 16,handedIn (ec n.val)=af by decide +kernel) ⟨n,qf h⟩
theorem Ci(inj:∀ i j,i<c.nl→j<c.nl→c.ls i=c.ls j→i=j){i j:Nat}{t:Tok}(au:i<c.nl)(a:j<c.nl):(Value.str (c.ls i) t).isStr (c.ls j)=(i==j):=by
  unfold Value.isStr;by_cases q:i=j
  · subst q;simp
  · have:c.ls i≠c.ls j:=λe=>q (inj i j au a e);show(c.ls i==c.ls j)=(i==j);exact ac (beq_eq_false_iff_ne.mpr this) (ac (beq_eq_false_iff_ne.mpr q) rfl)
theorem rN{func:aH}{es:List aH}{pos:Pos}{env:Env}(b:∀ o a p,func≠.Attribute o a p):eval (.Call func es [] pos) env=(do callWith pos (← eval func env) [] (backTo pos (starEach es env)) (backToKw pos (keywordEach [] env))):=by cases func <;>first | rfl | exact absurd rfl (b _ _ _)
theorem N1(h:e.key.isStr x=af):getL x (e :: es)=U (U e.val):=by unfold getL;refine ac (tA) ?_;exact ac h rfl
theorem BV(h:e.key.isStr x=ah)(k:e.refKey=ah):getL x (e :: es)=getL x es:=by unfold getL;refine ac (tA) ?_;refine ac h ?_;refine ac lg ?_;refine ac k ?_;rfl
theorem BK(inj:∀ i j,i<c.nl→j<c.nl→c.ls i=c.ls j→i=j)(r:eb c Z ga ds ns fs)(b:∀ k∈ns,k<c.nl)(f:n<c.nl)(h:fieldOf ns fs n=U x):∃ v,getL (c.ls n) ds=U (U v)∧aK c Z ga v x:=by
  refine eb.ind (P:=λds ns fs=>(∀ k∈ns,k<c.nl)→fieldOf ns fs n=U x→∃ v,getL (c.ls n) ds=U (U v)∧aK c Z ga v x) (λns ag h=>by clear ag;cases ns <;>exact nn h) (λk hh t v y ds ns fs a g b h=>?_) r b h;obtain e:=Ci inj (t:=t) (b k (.head _)) f;rw [BI] at h;cases q:k==n with
  | true=>rw [q] at h e;exact(aM v (N1 e) (aX h▸a))
  | false=>
    rw [q] at h e;exact ac (BV e rfl) (g (λk d=>b k (.tail _ d)) h)
theorem BL(inj:∀ i j,i<c.nl→j<c.nl→c.ls i=c.ls j→i=j)(r:eb c Z ga ds ns fs)(b:∀ k∈ns,k<c.nl)(f:n<c.nl)(h:n∉ns.take fs.length):getL (c.ls n) ds=U ae:=by refine eb.ind (P:=λds ns fs=>(∀ k∈ns,k<c.nl)→n∉ns.take fs.length→getL (c.ls n) ds=U ae) (λag ag ag=>rfl) (λk hh t v y ds ns fs a g b h=>?_) r b h;obtain e:=Ci inj (t:=t) (b k (.head _)) f;obtain e:=(beq_eq_false_iff_ne.mpr λ(q:k=n)=>h (q▸.head _))▸e;exact ac (BV e rfl) (g (λk d=>b k (.tail _ d)) λm=>h (.tail _ m))
theorem BJ:∀ {ns:List Nat} {fs:List V} {n:Nat} {x:V},fieldOf ns fs n=U x→n∈ns
 :=λ{ns}=>by
  induction ns with
  | nil=>exact λh=>nn h
  | cons k ks a=>
    intro fs n x h;cases fs with
    | nil=>exact nn h
    | cons y ys=>
      obtain h:=BI▸h;cases q:k==n with|true=>refine ac (beq_iff_eq.mp q) ?_;exact .head _|false=>obtain h:=q▸h;exact .tail _ (a h)
theorem Mf(aW:c.Ok)(T:h5 c ai an)(o:bS=c.ls n)(ak:attributeBase value bS env (eval value env)=eval value env)(m:Ev c J S (eval value env) Q1 X)
    (h:∀ x a,Q1 x a→∃ C fs y,x=.a3 C fs∧fieldOf (ai.lay C) fs n=U y∧Q y a):Ev c J S (eval (.Attribute value bS pos) env) Q X:=
  Me ak m λx a q v z s1 hs1 r=>by refine kK (h x a q) λC fs y e hf p=>?_;obtain rfl:=e;obtain hf:=T.lay▸hf;clear q ak;subst o;refine r.r6 _ λx cP ox ds cX f i h2 j k l w=>?_;rw [f];obtain b:=BJ hf;exact aI (BK aW.inj w (T.jz C) (T.jz C n b) hf) λu g d=>T.bS C n b J.A _ s1 _ _ _ _ _ _ u af (aW.X.keeps hs1.keep) (ct _ _ i) h2 j k (ct _ _ l) g (B1 d) λt=>.here hs1 p d t
theorem Ml{b2:V→List V→aA→Prop}(i:∀ o a p,func≠.Attribute o a p)(he:es.all noStar=af)(aW:c.Ok)(k:Ev c J S (eval func env) Q1 X)
    (ak:∀ f b,Q1 f b→gi c J b (spliced (backTo pos (starEach es env))) (b2 f) X)
    (h:∀ f b v d s1,Q1 f b→av c J b d s1→aK c (ar J b d s1.heap) d.ga v f→Callee c.K v∧∀ xs aJ vs aY s2,b2 f xs aJ→av c J aJ aY s2→ba c (ar J aJ aY s2.heap) aY.ga vs xs→aD c.M J.A (call v vs) (bQ c J aJ aY s2 Q) (dG c J aJ aY s2 X) s2):
    Ev c J S (eval (.Call func es [] pos) env) Q X:=λW s l=>by
  refine ac (rN i) (ax (k.next l .refl λv f b d s1 j hs1 bv ag n=>?_));refine aC (h f b v d s1 j hs1 n) λcl h=>lS cl he ((ak f b j).next hs1 bv λvs xs aJ aY s2 m e g ag q=>⟨aW.X.keeps e.keep,?_⟩);exact cI (h xs aJ vs aY s2 m e q) (λag ag p=>p.of g) λag ag p=>p.of g
theorem MB{b2:V→aA→List V→aA→Prop}(ak:attributeBase o name env (eval o env)=eval o env)(he:es.all noStar=af)(t:es.length<30)(e:(apos.endLine==pos.line)=af)(aW:c.Ok)(n:Ev c J S (eval o env) Q1 X)
    (m:∀ x a,Q1 x a→gi c J a (spliced (backTo pos (starEach es env))) (b2 x a) X)
    (q:∀ x a v b s1,Q1 x a→av c J a b s1→aK c (ar J a b s1.heap) b.ga v x→∃ f,Callee c.K f∧(∀ R bj w,R (f,[v]) s1→aD c.M J.A (getMethod v name w) R bj s1)∧∀ xs aJ vs aY s2,b2 x a xs aJ→av c J aJ aY s2→aV J a b s1 aJ aY s2→ba c (ar J aJ aY s2.heap) aY.ga vs xs→aD c.M J.A (call f (v :: vs)) (bQ c J aJ aY s2 Q) (dG c J aJ aY s2 X) s2):
    Ev c J S (eval (.Call (.Attribute o name apos) es [] pos) env) Q X:=λW s u=>by
  rewrite [GL];refine ac ak (ax (n.next u .refl λv x a b s1 k hs1 bv ag z=>ax (fO ?_)));refine c0 (q x a v b s1 k hs1 z) λf cl l r=>?_;obtain d:=vM (pos:=pos) (env:=env) he t;obtain i:methodCallPos af o env apos pos=pure pos:=by unfold methodCallPos;simp [e]
  unfold methodCall;refine ac d (ax (e6 (l _ _ _ ?_)));refine ax (fx i ?_);refine lS cl he ((m x a k).next hs1 bv λvs xs aJ aY s2 y g h j B=>⟨aW.X.keeps g.keep,?_⟩);exact cI (r xs aJ vs aY s2 y g j B) (λag ag p=>p.of h) λag ag p=>p.of h
end
end
section
variable{c:aU}{J:bo}{S bb:aA}{W a0:bP}{s a5 s':aP}{Q Q1 X:bU}{ai:cp}{env:Env}{an:dy}
theorem av.U8(G:J.Ok)(d:av c J S W s){wr:List aq}(hw:∀ b∈wr,b∈W.aw){h':bz}(t)(k:∀ b o,b∉wr→s.heap.get? b=U o→h'.get? b=U o)(h:∀ b∈wr,∃ o,h'.get? b=U o):
    av c J S W (bp s h' t)∧(∀ bb a0 a5,aV J bb a0 a5 S W s→(∀ b∈wr,b∉a0.aw)→aV J bb a0 a5 S W (bp s h' t))∧(∀ b o,(ar J S W s.heap).get? b=U o→(ar J S W h').get? b=U o):=by
  have f:∀ b∈wr,b∈dv S W:=λb ak=>ht (hw b ak);refine aC (d.s8 t k (λb m=>mg (f b m)) (λb m q=>d.wz m (f b q)) (λb m q=>d.CX m (hw b q)) (λa m=>m) d.nodup (λa m=>xm d k m (h a)) (fH (λo=>k _ o λq=>d.iN (.head _) (f _ q)) d.ns) (rV (λb m o e g=>(aM o (k b o (λq=>d.iN (o2 G▸m) (f b q)) e) g)) d.frames)) λa z=>(bk a (λbb a0 a5 st g=>⟨λb o e=>z b o (st.ar b o e),st.la,st.ga,λb m o e=>?_,λb m=>⟨(st.aw b m).1,λo e=>k b o (λq=>g b q m) ((st.aw b m).2 o e)⟩,λb e=>st.b4 b (wF k h b e)⟩) z);exact aG (st.out b m o e) λs1 i=>⟨s1,k b _ (λq=>d.iN (.tail _ m) (f b q)) i⟩
theorem av.xv(G:J.Ok)(d:av c J S W s){wr:List aq}(hw:∀ b∈wr,b∈W.aw){h':bz}(t)(k:∀ b o,b∉wr→s.heap.get? b=U o→h'.get? b=U o):
    av c J S {W with aw:=W.aw.filter λa=>!wr.contains a} (bp s h' t)∧(∀ bb a0 a5,aV J bb a0 a5 S W s→av c J bb a0 a5→(∀ b∈wr,a5.heap.get? b=ae)→aV J bb a0 a5 S {W with aw:=W.aw.filter λa=>!wr.contains a} (bp s h' t)):=by
  have f:∀ b∈wr,b∈dv S W:=λb ak=>ht (hw b ak);have i:∀ {b},b∈(W.aw.filter λa=>!wr.contains a)↔b∈W.aw∧b∉wr:=by intro b;simp [mJ]
  have da:(b6 J S {W with aw:=W.aw.filter λa=>!wr.contains a}).Sublist (b6 J S W):=(lf _).append Gm;have nw:∀ a∈b6 J S {W with aw:=W.aw.filter λa=>!wr.contains a},a∉wr:=λa m q=>by
    refine aS (dj.mp m) (λm=>?_) λm=>?_
    · exact eW d.nodup m (hw a q)
    · exact(i.mp m).2 q
  refine aC (d.s8 (gq:=W.aw.filter λa=>!wr.contains a) t k (λb m=>mg (f b m)) (λb m q=>d.wz m (f b q)) (λb m q=>d.CX m (hw b q)) (λa m=>da.subset m) (d.nodup.sublist da) (λa m=>xm d k (da.subset m) λq=>absurd q (nw a m)) (fH (λo=>k _ o λq=>d.iN (.head _) (f _ q)) d.ns) (rV (λb m o e g=>(aM o (k b o (λq=>d.iN (o2 G▸m) (f b q)) e) g)) d.frames)) λa z=>⟨a,λbb a0 a5 st h g=>⟨λb o e=>z b o (st.ar b o e),st.la,st.ga,λb m o e=>?_,λb m=>?_,λb e=>?_⟩⟩
  · exact aG (st.out b m o e) λs1 l=>⟨s1,k b _ (λq=>d.iN (.tail _ m) (f b q)) l⟩
  · have j:b∉wr:=λq=>by exact aG (h.there b (mg (ht m))) λo e=>nn ((g b q).symm.trans e)
    exact⟨i.mpr ⟨(st.aw b m).1,j⟩,λo e=>k b o j ((st.aw b m).2 o e)⟩
  · by_cases q:b∈wr
    · exact g b q
    · refine st.b4 b ?_;cases dU:s.heap.get? b with|none=>rfl|some o=>exact nn (e.symm.trans (k b o q dU))
theorem av.r0(d:av c J S W s)(t:s'.gens=s.gens)(hd:s'.drawn=s.drawn)(u:s'.os=s.os)(k:∀ b o,s.heap.get? b=U o→s'.heap.get? b=U o){ns:List aq}(l:∀ a∈ns,s.heap.get? a=ae∧∃ o,s'.heap.get? a=U o)(bT:ns.Nodup):
    av c J S {W with aw:=ns++W.aw} s'∧aV J S W s S {W with aw:=ns++W.aw} s'∧(∀ b o,s'.heap.get? b=U o→s.heap.get? b=ae→b∉ns→(ar J S {W with aw:=ns++W.aw} s'.heap).get? b=U o):=by
  obtain n:∀ a∈ns,a∉dv S W:=λa j m=>by exact aG (d.there a (in4 m)) λo e=>nn ((l a j).1.symm.trans e)
  have p:(bL W.la S.aR++(bL W.ga S.aE++(ns++W.aw))).Perm (ns++(bL W.la S.aR++(bL W.ga S.aE++W.aw))):=by
    obtain f:(bL W.la S.aR++(bL W.ga S.aE++(ns++W.aw)))=((bL W.la S.aR++bL W.ga S.aE)++ns)++W.aw:=by simp
    obtain g:ns++(bL W.la S.aR++(bL W.ga S.aE++W.aw))=(ns++(bL W.la S.aR++bL W.ga S.aE))++W.aw:=by simp
    exact ac f (ac g (List.Perm.append_right _ Wb))
  refine aC (EQ (je:={W with aw:=ns++W.aw}) (λag m=>ch _ m) (d.w6 (S':=S) (s':=s') rfl rfl rfl rfl t hd u k (.refl _) (.refl _) (λa m=>(dj.mp (p.mem_iff.mp m)).elim (λq=>.inr (l a q).1) .inl) (p.nodup_iff.mpr (dH.mpr (bk bT d.fG λa j b ak q=>n a j (q▸ak)))) (λa m=>by
      rcases dj.mp (p.mem_iff.mp m) with q | q
      · exact(l a q).2
      · obtain⟨o,e⟩:=d.there a (in4 q);exact⟨o,k a o e⟩) d.ee d.dT λz=>⟨λi b p h h2=>(d.locs i b p h h2).mono z (.refl _) (k b),λi b p h h2=>(d.eZ i b p h h2).mono z (.refl _) (k b)⟩)) λa b=>?_
  refine(bk a b λb o f g ak=>fg f λm=>?_);have old:b∈b6 J S W→False:=λq=>by exact aG (d.there b q) λo' r=>nn (g.symm.trans r)
  refine aS (dj.mp (gt▸m)) (λq=>?_) λq=>?_
  · exact old (gt▸d9 _ q)
  · refine aS (dj.mp (p.mem_iff.mp q)) (λq=>?_) λq=>?_
    · exact ak q
    · exact old (in4 q)
end
noncomputable def nj:aH→Bool|.Tuple ..=>af|_=>ah
noncomputable def nh:aH→Bool|.Name ..=>af|_=>ah
noncomputable def Dl:List String:=["enumerate","zip","dict_itemiterator","dict_reverseitemiterator","odict_iterator","itertools.zip_longest","itertools.pairwise"]
structure Src(c:aU)(A:c6)(ao:Bool)(I:aq)(ed wr:List aq)(items:List V)(St:Nat→bz→Prop)(mY:bz)(ga:List aq):Prop where
  sub:∀ b∈wr,b∈ed
  frame:∀ i h h',St i h→(∀ b∈ed,∀ o,h.get? b=U o→h'.get? b=U o)→St i h'
  bL:∀ i h,St i h→∀ b∈wr,∃ o,h.get? b=U o
  item:∀ (target:aH),(if ao=af then nj target else nh target)=af→∀ (i:Nat) (s:aP) (Q:ay→aP→Prop) (E:ay→aP→Prop) (x:V),items[i]?=U x→St i s.heap→
    (∀ v h' cj,St (i+1) h'→(∀ b o,b∉wr→s.heap.get? b=U o→h'.get? b=U o)→(∀ Z',(∀ b o,mY.get? b=U o→Z'.get? b=U o)→(∀ b o,h'.get? b=U o→s.heap.get? b=ae→b∉wr→Z'.get? b=U o)→aK c Z' ga v x)→Q v (bp s h' cj))→
    aD c.M A (pyNext (.ref I)) (λr s1=>∃ v,r=U v∧aD c.M A (letOwnedTupleGo target (.ref I) v) (λag s2=>Q v s2) E s1) E s
  self:∀ i s Q E,St i s.heap→Q (.ref I) s→aD c.M A (pyIter (.ref I)) Q E s
  done:∀ s Q E,St items.length s.heap→(∀ h' cj,(∀ b o,b∉wr→s.heap.get? b=U o→h'.get? b=U o)→Q ae (bp s h' cj))→aD c.M A (pyNext (.ref I)) Q E s
theorem Pw(c:s.heap.get? I=U o)(a4:o.cls=.type n)(b:Dl.contains n=ah)(h:R () s):aD M A (letOwnedTupleGo target (.ref I) v) R E s:=by
  unfold letOwnedTupleGo;have go:aD M A (do
      let (.ref r,.ref a):=(kt I,v) | return
      let o ← load r
      match o.cls,o.data with
      | .type n,.fields vs=>
        if ["enumerate","zip","dict_itemiterator","dict_reverseitemiterator","odict_iterator","itertools.zip_longest","itertools.pairwise"].contains n&&vs[0]?==U (rawInt a) then
          rule "for.unpacks-the-owned-tuple"
          updateField r 0 .none
      | _,_=>pure ()) R E s:=by
    cases v <;>first | exact bg h | skip
    refine ax (wpAny_load c ?_);refine ac a4 ?_;cases o.data <;>first | exact bg h | skip
    dsimp only;exact ac (show(["enumerate","zip","dict_itemiterator","dict_reverseitemiterator","odict_iterator","itertools.zip_longest","itertools.pairwise"]:List String).contains n=ah from b) (bg h)
  cases target <;>first | exact go | exact bg h
theorem Src.ofWalks{c:aU}{A:c6}{ao:Bool}{I:aq}{ed wr:List aq}{items:List V}{n:Nat}{P:Nat→ay→Prop}{St:Nat→bz→Prop}{mY:bz}{ga:List aq}(W:Walks c.prog c.w A I ed wr n P St)(d:n=items.length)(l:∀ i v x,P i v→items[i]?=U x→aK c mY ga v x)
    (a4:∀ i h,St i h→∃ o m,h.get? I=U o∧o.cls=.type m∧Dl.contains m=ah) (q:∀ i h,St i h→∀ b∈wr,∃ o,h.get? b=U o):Src c A ao I ed wr items St mY ga where
  sub:=W.sub
  frame:=W.frame
  bL:=q
  item:=λtarget ag i s Q E x e st h=>by
    obtain au:i<n:=d▸(fM.mp e).1;refine W.item i s _ _ au st λv h' cj p a k=>(aM v rfl ?_)
    exact dn (a4 _ _ a) λo m f g j=>Pw (s:=(bp s h' cj)) f g j (h v h' cj a k λZ' z ag=>(l i v x p e).mono z (.refl _))
  self:=W.self
  done:=λs Q E st h=>W.done s Q E (d▸st) h
section
variable{c:aU}{J:bo}{S bb:aA}{W a0:bP}{s a5 s':aP}{Q Q1 X:bU}{ai:cp}{env:Env}{an:dy}
noncomputable def i8(c:aU)(J:bo)(S:aA)(W:bP)(s:aP)(ao:Bool)(Q:List V→aA→Prop)(it:ay)(s':aP):Prop:=∀ a:Prop,(∀ I items S' W' ed wr St,it=.ref I→Q items S'→av c J S' W' s'→aV J S W s S' W' s'→Src c J.A ao I ed wr items St (ar J S' W' s'.heap) W'.ga→(∀ b∈wr,b∈W'.aw∧s.heap.get? b=ae)→(∀ b∈ed,b∈W'.aw∨∃ o,(ar J S' W' s'.heap).get? b=U o)→St 0 s'.heap→a)→a
noncomputable def i7(c:aU)(J:bo)(S:aA)(iter:aH)(env:Env)(ao:Bool)(Q:List V→aA→Prop)(X:bU):Prop:=∀ W s,av c J S W s→aD c.M J.A (eval iter env) (λx s1=>aD c.M J.A (pyIter x) (i8 c J S W s ao Q) (dG c J S W s X) s1) (dG c J S W s X) s
theorem jm(st:aV J bb a0 a5 S W s)(h:s.heap.get? b=ae):a5.heap.get? b=ae:=st.b4 b h
theorem k2{h:bz}:h.get? h.objs.size=ae:=jH (eg _)
theorem OM(G:J.Ok)(w:av c J S W s)(st:aV J bb a0 a5 S W s){ao:Bool}(l:(ar J S W s.heap).IsList a vs.toArray)(n:ba c (ar J S W s.heap) W.ga vs xs)(d:cZ xs S):
    aD c.M J.A (pyIter (.ref a)) (i8 c J bb a0 a5 ao cZ) bj s:=by
  obtain m:=fR (Z':=s.heap) ct l;refine G7 m (aC (w.kY {cls:=.type "list_iterator",data:=.fields #[.ref a,.int 0 0]} s.toks rfl) λhs1 t1=>aI l λj f t=>?_);obtain u:=t1.ar a j f;obtain ne:a≠s.heap.objs.size:=λq=>by have:=eX (ct _ _ f);obtain this:=q.symm▸this;exact absurd this (gA _)
  refine(λ_ aj=>aj s.heap.objs.size xs S _ _ _ _ rfl d hs1 (st.trans t1) (Src.ofWalks (Walks.list G.handled s.heap.objs.size a ne vs.toArray) (by simp [n.length]) (λi v x p y=>?_) (λi h q=>?_) (λi h q b ak=>?_)) (λb ak=>?_) (λb ak=>?_) ⟨cJ _ (ez _ rfl) rfl rfl,aM j (dX _ (ct _ _ f)) t⟩)
  · refine aI ((n.step t1).get y) λC g r=>?_;obtain z:vs[i]?=U v:=by simpa using p
    obtain g:=z▸g;obtain rfl:=aX g;exact r
  · exact aC q λe _=>c0 e λo k B _=>(dL o ("list_iterator") k B (by decide))
  · obtain d:=dx.mp ak;clear ak;subst d;exact aC q λe _=>aI e λo k _=>⟨o,k⟩
  · obtain d:=dx.mp ak;clear ak;subst d;exact⟨.head _,jm st k2⟩
  · simp at ak;clear t1 f ne hs1 m aj;rcases ak with rfl | rfl
    · exact .inl (.head _)
    · exact .inr ⟨j,u⟩
theorem ON(G:J.Ok)(w:av c J S W s)(st:aV J bb a0 a5 S W s){ao:Bool}(k:(ar J S W s.heap).IsTuple a vs.toArray)(n:ba c (ar J S W s.heap) W.ga vs xs)(d:cZ xs S):
    aD c.M J.A (pyIter (.ref a)) (i8 c J bb a0 a5 ao cZ) bj s:=by
  obtain l:=f3 (Z':=s.heap) ct k;refine G8 l (aC (w.kY {cls:=.type "tuple_iterator",data:=.fields #[.ref a,.int 0 0]} s.toks rfl) λhs1 t1=>aI k λg f t=>?_);obtain u:=t1.ar a g f;obtain ne:a≠s.heap.objs.size:=λq=>by have:=eX (ct _ _ f);rw [← q] at this;exact absurd this (gA _)
  refine(λ_ aj=>aj s.heap.objs.size xs S _ _ _ _ rfl d hs1 (st.trans t1) (Src.ofWalks (Walks.tuple G.handled s.heap.objs.size a ne vs.toArray) (by simp [n.length]) (λi v x p y=>?_) (λi h q=>?_) (λi h q b ak=>?_)) (λb ak=>?_) (λb ak=>?_) ⟨cJ _ (ez _ rfl) rfl rfl,aM g (dX _ (ct _ _ f)) t⟩)
  · refine aI ((n.step t1).get y) λC m r=>?_;obtain z:vs[i]?=U v:=by simpa using p
    rw [z] at m;obtain rfl:=aX m;exact r
  · exact aC q λe _=>c0 e λo j B _=>(dL o ("tuple_iterator") j B (by decide))
  · obtain d:=dx.mp ak;clear ak;subst d;exact aC q λe _=>aI e λo j _=>⟨o,j⟩
  · obtain d:=dx.mp ak;clear ak;subst d;exact⟨.head _,jm st k2⟩
  · simp at ak;clear t1 f ne hs1 l aj;rcases ak with rfl | rfl
    · exact .inl (.head _)
    · exact .inr ⟨g,u⟩
theorem Iw(h:h8 x=U xs):x=.list xs∨x=.ao xs:=by cases x <;>first | exact .inl (congrArg V.list (aX h)) | exact .inr (congrArg V.ao (aX h)) | exact nn h
theorem L4(G:J.Ok)(b:Ev c J S (eval iter env) Q1 X)(h:∀ x d,Q1 x d→bF (h8 x) λxs=>cZ xs d):i7 c J S iter env ao cZ X:=λW s m=>
  b.next m .refl λv x d n s1 j hs1 bv ag f=>by
    refine(cy (h x d j)) _ λxs e i=>?_;clear j;rcases Iw e with rfl | rfl
    · refine f.gs _ λa us l b g=>?_;clear f e;obtain rfl:=l;exact OM G hs1 bv b g i
    · refine f.gv _ λa us k b g=>?_;clear f e;obtain rfl:=k;exact ON G hs1 bv b g i
theorem Co(G:J.Ok)(l:av c J S W s)(st:aV J bb a0 a5 S W s){ao:Bool}{r:aq}{a b k:Int}{t u v:Tok}{cZ:List V→aA→Prop}{bj:ay→aP→Prop}(j:IsRange s.heap r a b k t u v)(hz:F5 a b k=af)(d:cZ ((dw a b k).map .int) S):
    aD c.M J.A (pyIter (.ref r)) (i8 c J bb a0 a5 ao cZ) bj s:=by
  refine wpAny_pyIter_range j hz (aC (l.kY {cls:=.type "range_iterator",data:=.fields #[rawInt a,rawInt (jF a b k),rawInt k]} s.toks rfl) λhs1 t1=>?_);obtain g:0≤jF a b k:=by
    unfold jF;split
    · split
      · have:0≤(b-a-1)/k:=Gd (by lia) (Gf ‹_›);lia
      · exact fK _
    · split
      · have:0≤(a-b-1)/(-k):=Gd (by lia) (by lia);lia
      · exact fK _
  refine(λ_ aj=>aj s.heap.objs.size _ S _ _ _ _ rfl d hs1 (st.trans t1) (Src.ofWalks (Walks.range G.handled s.heap.objs.size a k (jF a b k).toNat) (by simp [dw]) (λi w x p e=>?_) (λi h q=>?_) (λi h q b ak=>?_)) (λb ak=>?_) (λb ak=>?_) ?_)
  · refine aG p λt f=>?_;obtain rfl:=f;unfold dw at e;rw [V3,qa] at e;by_cases au:i<(jF a b k).toNat
    · rw [List.getElem?_range au] at e;obtain rfl:=aX e;exact .int _ _
    · rw [List.getElem?_eq_none (by simpa using au)] at e;exact nn e
  · exact(dL _ ("range_iterator") q rfl (by decide))
  · obtain d:=dx.mp ak;clear ak;subst d;exact⟨_,q⟩
  · obtain d:=dx.mp ak;clear ak;subst d;exact⟨.head _,jm st k2⟩
  · obtain d:=dx.mp ak;clear ak;subst d;exact .inl (.head _)
  · show(s.heap.push _).get? s.heap.objs.size=_;refine ac (ez _ rfl) ?_;simp [Gh g]
theorem fits_of(b:0≤a)(d:a≤2^22):XS a=af:=F2.mpr ⟨decide_eq_true (p8 (by decide) b),decide_eq_true (VC d (by decide))⟩
theorem size_le(h:0≤a)(i:b≤2^20)(e:0<k):0≤jF a b k∧jF a b k≤2^22:=by
  unfold jF;refine ac (if_pos e) ?_;split
  · obtain d:0≤b-a-1:=by lia
    obtain f:=Gd d (Gf e);obtain g:=Int.ediv_le_self k d;generalize (b-a-1)/k=q at f g;lia
  · decide
theorem Fg(e:0≤a)(g:a≤2^20)(h2:0≤b)(f:b≤2^20)(d:0<k)(h:k≤2^20):F5 a b k=af:=by refine aC (size_le e f d) λs0 s1=>?_;unfold F5;refine ac (if_pos d) (ac (fits_of e (p8 g (by decide))) (ac (fits_of h2 (p8 f (by decide))) (ac (fits_of (Gf d) (p8 h (by decide))) (ac (fits_of s0 s1) (ac (fits_of (a:=b+(k-1)) (by lia) (by lia)) ?_)))));rewrite [F4];rfl
theorem L3(aW:c.Ok)(g:∀ o a p,func≠.Attribute o a p)(he:es.all noStar=af)(m:Callee c.K (ec n))(k:Ev c J S (eval func env) Q1 X)
    (ak:∀ f b,Q1 f b→f=.cC n∧gi c J b (spliced (backTo pos (starEach es env))) b2 X)
    (l:∀ xs aJ vs aY s2,b2 xs aJ→av c J aJ aY s2→ba c (ar J aJ aY s2.heap) aY.ga vs xs→∀ bb a0 a5,aV J bb a0 a5 aJ aY s2→∀ bj,aD c.M J.A (call (ec n) vs) (λx w=>aD c.M J.A (pyIter x) (i8 c J bb a0 a5 ao cZ) bj w) bj s2):
    i7 c J S (.Call func es [] pos) env ao cZ X:=λW s q=>by
  refine ac (rN g) (ax (k.next q .refl λv f b y s1 r hs1 bv ag e=>?_));refine aC (ak f b r) λi j=>?_;obtain e:=i▸e;exact ac e.oR.1 (lS m he (j.next hs1 bv λvs xs aJ aY s2 t d h ag u=>⟨aW.X.keeps d.keep,l xs aJ vs aY s2 t d u _ _ _ h _⟩))
theorem TV(G:J.Ok)(o:av c J S W s)(st:aV J bb a0 a5 S W s)(r:ba c (ar J S W s.heap) W.ga vs xs)(h:gN 1 xs λitems=>cZ items S):
    aD c.M J.A (call (ec 5) vs) (λx p=>aD c.M J.A (pyIter x) (i8 c J bb a0 a5 ao cZ) bj p) bj s:=by
  refine aI (iP h) λx e h=>?_;rw [e] at r;refine aI r.one λv j i=>?_;obtain rfl:=j;refine(e1 i h) _ λn t f g=>?_;clear i r;obtain rfl:=f;exact cR g λk l m=>call_range_1 (cR (o.push {cls:=.type "range",data:=.fields #[.int 0 s.toks,.int n t,.int 1 (s.toks+1)]} (s.toks+1+1)) λa b d=>Co G a (st.trans b) (VF ..) (Fg (fK _) (fK _) k l (fK _) (fK _)) m)
noncomputable def Hx(c:aU)(Z:bz)(ga:List aq)(vs:List ay)(x:V)(y:V)(z:V):Prop:=∀ a:Prop,(∀ (v u w),vs=[v,u,w]→aK c Z ga v x→aK c Z ga u y→aK c Z ga w z→a)→a
theorem ba.three(h:ba c Z ga vs [x,y,z]):Hx c Z ga vs x y z:=by refine h.cons_inv _ λv us e a b=>?_;refine b.two _ λu w d f g=>?_;exact(λ_ aj=>aj v u w (d▸e) a f g)
theorem TW(G:J.Ok)(H:av c J S W s)(st:aV J bb a0 a5 S W s)(r:ba c (ar J S W s.heap) W.ga vs xs)(h:gN 2 xs λitems=>cZ items S):
    aD c.M J.A (call (ec 5) vs) (λx I=>aD c.M J.A (pyIter x) (i8 c J bb a0 a5 ao cZ) bj I) bj s:=by
  refine(QE h) _ λx y z e h=>?_;rw [e] at r;refine r.three _ λv0 v1 v2 g o p q=>?_;obtain rfl:=g;refine(e1 o h) _ λm t i bX=>?_;obtain rfl:=i;refine(e1 p bX) _ λn u j cw=>?_;obtain rfl:=j;refine(e1 q cw) _ λk v l f=>?_;clear q p o r;obtain rfl:=l;refine kJ f λw B h2 C D E F=>?_;clear f;refine call_range_3 (by lia) ?_ (.inl (PyProof.noPylong_small (by lia)));exact cR (H.push {cls:=.type "range",data:=.fields #[.int m t,.int n u,.int k v]} s.toks) λa b d=>Co G a (st.trans b) (VF ..) (Fg w B h2 C D E) F
theorem TX(G:J.Ok)(H:av c J S W s)(st:aV J bb a0 a5 S W s){ao:Bool}(r:ba c (ar J S W s.heap) W.ga ws ys)(h:gN 5 ys λitems=>cZ items S):
    aD c.M J.A (call (ec 10) ws) (λx L=>aD c.M J.A (pyIter x) (i8 c J bb a0 a5 ao cZ) bj L) bj s:=by
  refine aI (iP h) λx e h=>?_;rw [e] at r;refine aI r.one λv D C=>?_;obtain rfl:=D;refine(nF C h) _ λa vs xs z t n B=>?_;obtain rfl:=z;refine aC B λ_ d=>?_;obtain u:=fR (Z':=s.heap) ct t;refine call_reversed_list u (wpAny_pyIter_revIter (i:=(vs.toArray.size:Int)-1) (l:=a) (cJ _ (ez _ rfl) rfl rfl) ?_);refine aC (H.kY (revObj a ((vs.toArray.size:Int)-1)) s.toks rfl) λhs1 t1=>aI t λk g E=>?_;obtain F:=t1.ar a k g;obtain ne:a≠s.heap.objs.size:=λq=>by have:=eX (ct _ _ g);rw [← q] at this;exact absurd this (gA _)
  refine(λ_ aj=>aj s.heap.objs.size xs.reverse S _ _ _ _ rfl d hs1 (st.trans t1) (Src.ofWalks (Walks.listRev G.handled s.heap.objs.size a ne vs.toArray) (by simp [n.length]) (λi v x p j=>?_) (λi h q=>?_) (λi h q b ak=>?_)) (λb ak=>?_) (λb ak=>?_) (bk (di _) (cJ _ (ez _ rfl) rfl (by simp [revObj])) (aM k (dX _ (ct _ _ g)) E)))
  · obtain au:i<xs.length:=by
      have:=(fM.mp j).1
      simpa using this
    rw [List.getElem?_reverse au] at j;refine aI ((n.step t1).get j) λN w r=>?_;obtain y:vs[vs.length-1-i]?=U v:=by simpa using p
    rw [n.length] at y;rw [y] at w;obtain rfl:=aX w;exact r
  · exact cR q λ_ f _=>c0 f λo m I _=>(dL o ("list_reverseiterator") m I (by decide))
  · obtain d:=dx.mp ak;clear ak;subst d;exact cR q λ_ f _=>aI f λo m _=>⟨o,m⟩
  · obtain d:=dx.mp ak;clear ak;subst d;exact⟨.head _,jm st k2⟩
  · simp at ak;clear r t1 g ne hs1 u C aj;rcases ak with rfl | rfl
    · exact .inl (.head _)
    · exact .inr ⟨k,F⟩
theorem LS{xs:List V}{k:Int}{i:Nat}(h:(oY k xs)[i]?=U x):∃ y,xs[i]?=U y∧x=.ao [.int (k+i),y]:=by
  induction xs generalizing k i with
  | nil=>exact nn h
  | cons y r d=>cases i with
    | zero=>exact(aM y rfl (by refine bG (aX (show U _=U x from h)) ?_;refine ac Int.natCast_zero ?_;rw [Int.add_zero]))
    | succ i=>
      exact aI (d (k:=k+1) (i:=i) h) λz a b=>(aM z a (by refine ac b ?_;rw [Int.natCast_succ,Int.add_assoc,Gb 1]))
theorem LU:∀ {xs:List V} {k:Int},(oY k xs).length=xs.length:=by
  intro xs
  induction xs with
  | nil=>
    intro _;exact rfl
  | cons _ r a=>
    intro k;exact congrArg (·+1) a
theorem Src.Da{St:Nat→bz→Prop}(W:WalksT c.prog c.w A I ed wr n r St D)(j:n=items.length)
    (v:∀ i vals x,r i vals→items[i]?=U x→∃ ys,x=.ao ys∧ba c mY ga vals.toList ys) (y:∀ i h,St i h→∀ b∈wr,∃ o,h.get? b=U o):Src c A af I ed wr items St mY ga where
  sub:=W.sub
  frame:=W.frame
  bL:=y
  item:=λtarget z i s Q E x l st h=>by
    obtain au:i<n:=j▸(fM.mp l).1;obtain⟨elts,k,pos,rfl⟩:∃ elts k pos,target=.Tuple elts k pos:=by cases target <;>first | exact(y0 _ _ _ rfl) | exact cb z
    refine W.item i s _ _ au st λT vals h' cj p bp f g bX=>(aM (.ref T) rfl ?_)
    refine W.go elts k pos i T _ _ _ g λd m cw=>aI (v i vals x p l) λys q B=>?_;obtain rfl:=q;have a:=W.apart i T h' g
    exact aI f λo t u=>h (.ref T) d cj m (λb o ak e=>cw b o ak (bX b o ak e)) λZ' ey C=>.ao (aM o (C T o (cw T o a t) (jH bp) a) (by simpa using u)) (B.mono ey (.refl _))
  self:=W.self
  done:=λs Q E st h=>W.done s Q E (j▸st) h
noncomputable abbrev TU(c:aU)(J:bo)(bb:aA)(a0:bP)(s:aP)(a5:aP)(ws:List ay)(cZ:List V→aA→Prop)(bj:ay→aP→Prop):Prop:=aD c.M J.A (call (ec 8) ws) (λx a=>aD c.M J.A (pyIter x) (i8 c J bb a0 a5 af cZ) bj a) bj s
theorem TT(G:J.Ok)(P:av c J S W s)(st:aV J bb a0 a5 S W s){ys:List V}{ws:List ay}{cZ:List V→aA→Prop}{bj:ay→aP→Prop}(r:ba c (ar J S W s.heap) W.ga ws ys)(h:gN 3 ys λitems=>cZ items S):TU c J bb a0 s a5 ws cZ bj:=by
  refine aI (iP h) λx e h=>?_;rw [e] at r;refine aI r.one λv H F=>?_;obtain rfl:=H;refine(nF F h) _ λa vs xs D l E g=>?_;obtain rfl:=D;refine aC g λ_ O=>?_;clear g;obtain B:=fR (Z':=s.heap) ct l;refine call_enumerate_list B λh' he d hsz A=>wpAny_pyIter_enum (s:=(dh s h')) he ?_;obtain u:(∃ o,h'.get? s.heap.objs.size=U o):=by refine aI d λo e _=>?_;clear d;exact⟨o,e⟩
  refine cR (P.r0 (s':=(dh s h')) (ns:=[s.heap.objs.size+1,s.heap.objs.size]) rfl rfl rfl A (λb ak=>by
    simp only [b9,c4,or_false] at ak;rcases ak with rfl | rfl
    · exact⟨jH (i4 _),_,he⟩
    · exact⟨k2,u⟩) (by simp)) λhs1 t1 _=>?_
  refine aI l λm f M=>?_;clear l;obtain N:=t1.ar a m f;obtain lt:=eX (ct _ _ f);refine(λ_ aj=>aj _ _ S _ _ _ _ rfl O hs1 (st.trans t1) (Src.Da (WalksT.enumerate (prog:=c.prog) (w:=c.w) G.handled (s.heap.objs.size+1) s.heap.objs.size a (Nat.succ_ne_self _) (lj (xQ lt)) (lj lt) vs.toArray) (by simp [LU,E.length]) (λi vals x p R=>?_) (λi h q b ak=>?_)) (λb ak=>?_) (λb ak=>?_) (bk ⟨_,by simpa using he⟩ d (aM m (A _ _ (ct _ _ f)) M)))
  · refine dP p λt y Y L=>?_;clear p;obtain rfl:=L;refine aI (LS R) λz n I=>?_;obtain rfl:=I;refine aI ((E.step t1).get n) λam C r=>?_;obtain T:vs[i]?=U y:=by simpa using Y
    rw [T] at C;obtain rfl:=aX C;exact(aM _ rfl (.cons (by simpa using aK.int (i:Int) t) (.cons r .nil)))
  · simp only [b9,c4,or_false] at ak;refine cR q λj k _=>?_;clear q;refine aG j λold n=>?_;clear j;refine aI k λo Z _=>?_;clear k;rcases ak with rfl | rfl
    · exact⟨_,n⟩
    · exact⟨o,Z⟩
  · simp only [b9,c4,or_false] at ak;rcases ak with rfl | rfl
    · exact⟨by exact .head _,jm st (jH (i4 _))⟩
    · exact⟨by exact .tail _ (.head _),jm st k2⟩
  · simp only [b9,c4,or_false] at ak;clear r f d lt B F;rcases ak with rfl | rfl | rfl
    · exact .inl (.head _)
    · exact .inl (.tail _ (.head _))
    · exact .inr ⟨m,N⟩
end
noncomputable def kF(J:bo)(k:Nat)(x:Str):Prop:=J.nm[k]?=U x∧(J.a8.kindOf x=U .local∨(J.a8.kindOf x=U .cell∧(J.a8.cells.lookup x).isSome=af))
class inductive kH(J:bo):List Nat→List aH→Prop where|nil:kH J [] []|cons {k:Nat} {x:Str} {pos:Pos} {ks:List Nat} {es:List aH}:kF J k x→kH J ks es→kH J (k :: ks) (.Name x pos :: es)
inductive lH(J:bo):List Nat→Bool→aH→Prop where|one {k:Nat} {x:Str} {pos:Pos}:kF J k x→lH J [k] ah (.Name x pos)|ao {ks:List Nat} {es:List aH} {c9:Nat} {pos:Pos}:kH J ks es→lH J ks af (.Tuple es c9 pos)
theorem lH.iL{ao:Bool}(h:lH J ks ao t):(if ao=af then nj t else nh t)=af:=by cases h <;>rfl
section
variable{c:aU}{J:bo}{S bb:aA}{W a0:bP}{s a5 s':aP}{Q Q1 X:bU}{ai:cp}{env:Env}{an:dy}
theorem va{E:ay→aP→Prop}(G:J.Ok)(au:J.bZ=ah){k:Nat}{x:Str}{pos:Pos}(h:kF J k x)(e:av c J S W s)(st:aV J bb a0 a5 S W s){v:ay}{Y:cA}(r:fX c (ar J S W s.heap) W.ga W.la v Y){R:Unit→aP→Prop}
    (d:∀ W' s',av c J (S.dW (S.bB.set k (U Y))) W' s'→aV J bb a0 a5 (S.dW (S.bB.set k (U Y))) W' s'→aV J S W s (S.dW (S.bB.set k (U Y))) W' s'→R () s'):aD c.M J.A (assign (.Name x pos) J.env v) R E s:=
  assign_Name (sU G e au h.1 h.2 r λW' s' a b=>d W' s' a (st.trans b) b)
theorem Iy(h:kH J ks es):(assignEach es env).length=ks.length∧(assignEach es env).findIdx? (·.1)=ae:=by
  induction h with
  | nil=>exact⟨rfl,rfl⟩
  | @cons k x pos ks es a b d=>
    obtain e:assignEach (.Name x pos :: es) env=(ah,assign (.Name x pos) env) :: assignEach es env:=rfl;refine ac e ⟨by simp [d.1],?_⟩;refine ac (VP) ?_;simp [d.2]
theorem IB{E:ay→aP→Prop}(G:J.Ok)(au:J.bZ=ah){ks:List Nat}{es:List aH}(h:kH J ks es):∀ {S:aA} {W:bP} {s:aP} {vs:List ay} {xs:List V} {R:Unit→aP→Prop},av c J S W s→aV J bb a0 a5 S W s→ba c (ar J S W s.heap) W.ga vs xs→xs.length=ks.length→(∀ W' s',av c J (fu ks xs S) W' s'→aV J bb a0 a5 (fu ks xs S) W' s'→aV J S W s (fu ks xs S) W' s'→R () s')→aD c.M J.A (assignInOrder ((assignEach es J.env).map (·.2)) vs) R E s:=by
  induction h with
  | nil=>
    intro S W s vs xs R f st r d e;have:xs=[]:=mF d
    clear d;subst this;exact ac r.nil_inv (bg (e W s f st .refl))
  | @cons k x pos ks es a b l=>
    intro S W s vs xs R f st r d e;cases xs with
    | nil=>exact nomatch d
    | cons y xs=>
      refine r.cons_inv _ λv vs g p q=>?_;clear r;obtain rfl:=g;show aD _ _ (do holding vs (assign (.Name x pos) J.env v);assignInOrder ((assignEach es J.env).map (·.2)) vs) R E s;refine ax (e6 (va G au a f st (Y:=.val y) p λW' s' j h2 i=>?_));exact l j h2 (q.step i) (by simpa using d) λaY s2 m n o=>e aY s2 m n (i.trans o)
theorem zG(G:J.Ok)(au:J.bZ=ah)(h:lH J ks ao t)(m:av c J S W s)(st:aV J bb a0 a5 S W s)(r:aK c (ar J S W s.heap) W.ga v x)(ak:vi ks ao x S d0)
    (l:∀ S' W' s',d0 S'→av c J S' W' s'→aV J bb a0 a5 S' W' s'→aV J S W s S' W' s'→R () s'):aD c.M J.A (assign t J.env v) R E s:=by
  cases h with
  | one a=>exact va G au a m st (Y:=.val x) r λW' s' f h2 g=>l _ W' s' ak f h2 g
  | ao a=>
      refine(pw r ak) _ λd vs xs i hd ej j=>?_;clear r;obtain rfl:=i;refine aC j λk ak=>aC (Iy (env:=J.env) a) λcX cg=>WI G.handled (o8 (f3 ct hd)) (by refine ac cX ?_;refine bG k ?_;refine bG ej.length ?_;simp) cg λh' he=>?_;exact aC (m.grow (s':=(dh s h')) rfl rfl rfl λb o e=>he b o (lj (eX e)) e) λs1 t1=>IB G au a s1 (st.trans t1) (by simpa using ej.step t1) k λW' s' f h2 g=>l _ W' s' ak f h2 (t1.trans g)
theorem dG.no(h:dG c J S W s (λag ag=>False) e s'):False:=by refine h _ λ_ _ _ h _ _ _=>?_;exact h
theorem BQ(f:av c J S W s){S':aA}{W':bP}{s':aP}(st:aV J S W s S' W' s'){b:aq}(h:b∈W.aw∨∃ o,(ar J S W s.heap).get? b=U o):(b∈W'.aw∨∃ o,(ar J S' W' s'.heap).get? b=U o)∧∀ o,s.heap.get? b=U o→s'.heap.get? b=U o:=by
  refine aS h (λh=>?_) λd=>aG d λo h=>?_
  · exact⟨.inl (st.aw b h).1,(st.aw b h).2⟩
  · have h':=st.ar b o h;refine⟨.inr ⟨o,h'⟩,λg e=>?_⟩;obtain a:=ct _ _ h;rw [a] at e;obtain rfl:=aX e;exact ct _ _ h'
structure gT(J bW:bo)(S:aA)(W:bP)(s:aP)(S':aA)(W':bP)(s':aP):Prop where
  ar:∀ b o,(ar J S W s.heap).get? b=U o→(ar bW S' W' s'.heap).get? b=U o
  la:Pre W.la W'.la
  ga:Pre W.ga W'.ga
  out:∀ b∈J.dN,∀ o,s.heap.get? b=U o→∃ da,s'.heap.get? b=U {o with slots:=da}
  aw:∀ b∈W.aw,b∈W'.aw∧∀ o,s.heap.get? b=U o→s'.heap.get? b=U o
  b4:∀ b,s'.heap.get? b=ae→s.heap.get? b=ae
theorem aV.FF(h:aV J S W s S' W' s'):gT J J S W s S' W' s':=⟨h.ar,h.la,h.ga,h.out,h.aw,h.b4⟩
theorem gT.toStep(h:gT J J S W s S' W' s'):aV J S W s S' W' s':=⟨h.ar,h.la,h.ga,h.out,h.aw,h.b4⟩
theorem gT.trans{J bW f:bo}{S S' g:aA}{W W' h:bP}{s s' i:aP}(a:gT J bW S W s S' W' s')(b:gT bW f S' W' s' g h i)(e:bW.dN=J.dN):gT J f S W s g h i:=⟨λx o e=>b.ar x o (a.ar x o e),a.la.trans b.la,a.ga.trans b.ga,λx d o j=>by refine aG (a.out x d o j) λ_ k=>?_;refine aG (b.out x (e▸d) _ k) λda l=>?_;exact⟨da,l⟩,λx d=>⟨(b.aw x (a.aw x d).1).1,λo e=>(b.aw x (a.aw x d).1).2 o ((a.aw x d).2 o e)⟩,λx e=>a.b4 x (b.b4 x e)⟩
structure h6(c:aU)(J bW:bo)(S:aA)(W:bP)(s:aP)(hJ:bz)(hO:List aq)(ed wr:List aq)(St:Nat→bz→Prop)(i:Nat)(S':aA)(W':bP)(u:aP):Prop where
  sat:av c bW S' W' u
  st:gT J bW S W s S' W' u
  mz:∀ b o,hJ.get? b=U o→(ar bW S' W' u.heap).get? b=U o
  ga:Pre hO W'.ga
  iI:∀ b∈wr,b∈W'.aw
  r3:∀ b∈ed,b∈W'.aw∨∃ o,(ar bW S' W' u.heap).get? b=U o
  gJ:St i u.heap
section
variable{bW:bo}{hJ:bz}{hO:List aq}{ed wr:List aq}{St:Nat→bz→Prop}{i:Nat}{S':aA}{W':bP}{u:aP}{A:c6}{ao:Bool}{I:aq}{items:List V}
theorem gT.turn(f:av c J S W s)(h:gT J bW S W s S' W' u){T:List aq}(bp:∀ b∈T,b∈b6 bW S' W'∧s.heap.get? b=ae)(k:∀ b o,b∉T→u.heap.get? b=U o→u'.heap.get? b=U o):gT J bW S W s S' W' u' where
  ar:=λb o e=>by exact aC (ik (h.ar b o e)) λa d=>fg (k b o (λq=>d (bp b q).1) a) d
  la:=h.la
  ga:=h.ga
  out:=λb m o e=>by exact aG (h.out b m o e) λda a=>⟨da,k b _ (λq=>nn ((bp b q).2.symm.trans e)) a⟩
  aw:=λb m=>⟨(h.aw b m).1,λo e=>k b o (λq=>nn ((bp b q).2.symm.trans e)) ((h.aw b m).2 o e)⟩
  b4:=λb e=>by
    by_cases q:b∈T
    · exact(bp b q).2
    · refine h.b4 b ?_;cases dU:u.heap.get? b with|none=>rfl|some o=>exact nn (e.symm.trans (k b o q dU))
theorem gT.UO(d:av c J S W s)(h:gT J bW S W s S' W' u){wr:List aq}(bp:∀ b∈wr,b∈b6 bW S' W'∧s.heap.get? b=ae)(k:∀ b o,b∉wr→u.heap.get? b=U o→u'.heap.get? b=U o):gT J bW S W s S' {W' with aw:=W'.aw.filter λa=>!wr.contains a} u':=by
  have t:=h.turn d bp k;have j:∀ {b},b∈(W'.aw.filter λa=>!wr.contains a)↔b∈W'.aw∧b∉wr:=by intro b;simp [mJ]
  refine⟨λb o e=>?_,t.la,t.ga,t.out,λb m=>⟨j.mpr ⟨(t.aw b m).1,λq=>?_⟩,(t.aw b m).2⟩,t.b4⟩
  · exact aC (ik (t.ar b o e)) λf g=>fg f λm=>g (((lf _).append Gm).subset m)
  · exact aG (d.there b (mg (ht m))) λo e=>nn ((bp b q).2.symm.trans e)
theorem h6.next(T:h6 c J bW S W s hJ hO ed wr St i S' W' u)(src:Src c A ao I ed wr items St hJ hO)(a:av c bW d f g)(t:aV bW S' W' u d f g)(h:bW.dN=J.dN):h6 c J bW S W s hJ hO ed wr St i d f g:=⟨a,T.st.trans t.FF h,λb o e=>t.ar b o (T.mz b o e),T.ga.trans t.ga,λb ak=>(t.aw b (T.iI b ak)).1,λb ak=>(BQ T.sat t (T.r3 b ak)).1,src.frame _ _ _ T.gJ λb ak=>(BQ T.sat t (T.r3 b ak)).2⟩
theorem h6.item(T:h6 c J bW S W s hJ hO ed wr St i S' W' u)(l:bW.Ok)(q:av c J S W s)(z:∀ b∈wr,s.heap.get? b=ae)(src:Src c bW.A ao I ed wr items St hJ hO)(t:(if ao=af then nj target else nh target)=af)(w:items[i]?=U x){R:ay→aP→Prop}
    (h:∀ v g7,h6 c J bW S W s hJ hO ed wr St (i+1) S' W' g7→aK c (ar bW S' W' g7.heap) W'.ga v x→(∀ b o,b∉wr→u.heap.get? b=U o→g7.heap.get? b=U o)→(∀ b o,(ar bW S' W' u.heap).get? b=U o→(ar bW S' W' g7.heap).get? b=U o)→R v g7):
    aD c.M bW.A (pyNext (.ref I)) (λr s1=>∃ v,r=U v∧aD c.M bW.A (letOwnedTupleGo target (.ref I) v) (λag s2=>R v s2) E s1) E u:=
  src.item target t i u R E x w T.gJ λv h' cj a f g=>by refine cR (T.sat.U8 l T.iI cj f (src.bL _ _ a)) λj _ d=>?_;refine h v _ ⟨j,T.st.turn q (λb ak=>⟨in4 (ch _ (ch _ (T.iI b ak))),z b ak⟩) f,λb o e=>d b o (T.mz b o e),T.ga,T.iI,λb ak=>(T.r3 b ak).imp id λy=>by refine aG y λo e=>?_;exact⟨o,d b o e⟩,a⟩ ?_ f d;exact(g (ar bW S' W' h') (λb o e=>d b o (T.mz b o e)) λb o n p B=>fg n λm=>by refine aG (T.sat.there b m) λo' k=>?_;rw [p] at k;exact nn k).mono (λag ag e=>e) T.ga
end
theorem Nb(G:J.Ok)(au:J.bZ=ah)(H:lH J bO ao target)(hf:∀ x,foldedSetIterable iter J.env x=pure x)
    (Y:i7 c J S iter J.env ao cZ X) (ak:∀ S Q,m S Q→dZ c J S (execs body J.env) Q (λag ag=>False)) (h:∀ items f,cZ items f→forL bO ao m items f cE):dZ c J S (exec (.For target iter body [] pos) J.env) cE X:=λW s t=>by
  refine wpAny_For (cI (Y W s t) (λv s1 p=>cI p (λit s2 h2=>?_) λag ag e=>e) λag ag e=>e) hf;refine h2 _ λI items f g ed wr St M q hs1 bv src hw E P=>?_;refine ac M ?_;have o:∀ b∈wr,s.heap.get? b=ae:=λb ak=>(hw b ak).2
  refine codeAny_forLoop_any (λn u=>∃ i S' W',n=items.length+1-i∧i≤items.length∧h6 c J J S W s (ar J f g s2.heap) g.ga ed wr St i S' W' u∧forL bO ao m (items.drop i) S' cE) (λn u V=>?_) (items.length+1)
    (ji 0 f g rfl (di _) ⟨hs1,bv.FF,λag ag e=>e,.refl _,λb ak=>(hw b ak).1,E,P⟩ (h items f q))
  refine ov V λi S' W' N F T a=>?_;by_cases d:i<items.length
  · obtain a:=(tw d)▸a;refine cI (T.item G t o src H.iL (fm d) (R:=λv u'=>h6 c J J S W s (ar J f g s2.heap) g.ga ed wr St (i+1) S' W' u'∧aK c (ar J S' W' u'.heap) W'.ga v items[i]) λv g7 l r ag ag=>⟨l,r⟩) (λr jD ⟨v,O,p⟩=>?_) λag ag e=>e;refine ac O (cI p (λag g7 w=>?_) λag ag e=>e);refine aC w λl as=>zG G au H l.sat .refl as (show vi bO ao items[i] S' λS=>m S (ei cE λS=>forL bO ao m (items.drop (i+1)) S cE) from a) λbs L a2 am z ag t3=>cI (ak _ _ am L a2 z) (λca cd w=>?_) λag ag e=>e.no.elim;refine w _ λbm B D j k a1 ap=>?_;have C:=l.next src k (t3.trans a1) rfl
    revert j;refine ho.lT ap (λj=>?_) λag ag r j=>?_
    · exact(aM (items.length+1-(i+1)) (pS N d) ⟨i+1,B,D,rfl,d,C,j⟩)
    · exact(λ_ aj=>aj _ B D j k C.st.toStep (.ret r))
  · have he:i=items.length:=n0 F (gB.mp d);obtain a:=he▸a;obtain a:=VO▸a;obtain T:=he▸T;exact src.done u _ _ T.gJ λh' cj Z=>aC (T.sat.xv G T.iI cj Z) λy A=>ob (λ_ aj=>aj .next S' _ a y (A S W s T.st.toStep t o) .next)
end
section
variable{c:aU}{J:bo}{S bb:aA}{W a0:bP}{s a5 s':aP}{Q Q1 X:bU}{ai:cp}{env:Env}{an:dy}
theorem Nc(G:J.Ok)
    (bp:∀ S m,i S m→eI c J S (isTrue test J.env (eval test J.env)) m (λag ag=>False)) (ak:∀ S Q,a S Q→dZ c J S (execs body J.env) Q (λag ag=>False)) (h:g9 i a n S cE):dZ c J S (exec (.While test body [] pos) J.env) cE X:=λW s z=>by
  refine wpAny_While (codeAny_whileLoop (λn u=>∃ S' W',av c J S' W' u∧aV J S W s S' W' u∧g9 i a n S' cE) ?_ n (dL S W z .refl h));rintro n u ⟨S',W',v,f,q⟩;cases n with
  | zero=>exact q.elim
  | succ n=>
    have t:i S' λb S=>if b then a S (ei cE λS=>g9 i a n S cE) else cE .next S:=q;refine cI (bp _ _ t W' u v) (λb g7 h2=>?_) λag ag e=>e.no.elim;refine h2 _ λaJ aY w j g=>?_;clear h2;cases b with
    | true=>
      have x:a aJ (ei cE λS=>g9 i a n S cE):=w;refine cI (ak _ _ x aY g7 j) (λC D y=>?_) λag ag e=>e.no.elim;refine y _ λB o p d k l A=>?_;revert d;refine ho.lT A (λd=>?_) λag ag r d=>?_
      · exact(aM n (qg _) ⟨o,p,k,f.trans (g.trans l),d⟩)
      · exact(λ_ aj=>aj _ o p d k (f.trans (g.trans l)) (.ret r))
    | false=>exact ob (λ_ aj=>aj .next aJ aY w j (f.trans g) .next)
noncomputable def eY(J:bo)(env:Env)(cn:List Str):bo:={J with env:=env,cn:=cn,bZ:=af}
theorem vt(au:J.bZ=ah):(b6 (eY J env cn) S W).Perm (env.locals :: b6 J S W):=by
  have a:J.dR=[]:=by unfold bo.dR;refine ac au ?_;rfl
  exact ac fF (ac fF (ac a ((lh.append_left (J.a8.locals :: J.dN)).trans lh)))
theorem AV(G:J.Ok)(b:env.scope.kind=.function)(a:env.globals=mainGlobals)(ak:env.builtins=builtinsNs)(d:cn.Nodup):(eY J env cn).Ok where
  frames:=G.frames
  handled:=G.handled
  frame:=G.frame
  kind:=G.kind
  jp:=b
  aO:=a
  blt:=ak
  nodup:=G.nodup
  vr:=d
  units:=G.units
  depth:=G.depth
  a6:=λh=>by exact cb h.symm
theorem av.UJ(au:J.bZ=ah)(d:av c J S W s)(p:s'.gens=s.gens)(hd:s'.drawn=s.drawn)(r:s'.os=s.os)(k:∀ b o,s.heap.get? b=U o→s'.heap.get? b=U o)
    (j:s.heap.get? env.locals=ae) (g:s'.heap.Ns env.locals cm) (n:c.ak.get? env.locals=ae):
    av c (eY J env cn) (S.dc ([])) {W with cm:=cm} s'∧(∀ b o,(ar J S W s.heap).get? b=U o→(ar (eY J env cn) (S.dc ([])) {W with cm:=cm} s'.heap).get? b=U o):=by
  have mm:∀ a,a∈b6 (eY J env cn) (S.dc ([])) {W with cm:=cm}→a∈b6 J S W∨a=env.locals:=λa f=>(b9.mp ((vt au).mem_iff.mp f)).symm;have z:∀ b o,(ar J S W s.heap).get? b=U o→(ar (eY J env cn) (S.dc ([])) {W with cm:=cm} s'.heap).get? b=U o:=vR k λa f=>(mm a f).imp id λe=>(by refine ac e ?_;exact j)
  have l:∀ b∈J.cl++J.dR,∀ o,s.heap.get? b=U o→s'.heap.get? b=U o:=λb m=>k b;refine⟨⟨p.trans d.gens,hd.trans d.drawn,r.trans d.os,λb o e=>k b o (d.keep b o e),d.above,fH (k _) d.ns,λag=>g,d.nN z l (.refl _) (.refl _),λi x X a b=>nn b,d.sX l,d.ee,d.dT,λi a o h h2=>(d.locs i a o h h2).mono z (.refl _) (k a),λi a o h h2=>(d.eZ i a o h h2).mono z (.refl _) (k a),(vt au).nodup_iff.mpr (e5.mpr ⟨λm=>?_,d.nodup⟩),λa f=>?_,λa f=>?_,d.frames.of_keeps λb o e ag=>(aM o (k b o e) rfl)⟩,z⟩
  · exact aG (d.there _ m) λo e=>nn (j.symm.trans e)
  · exact(mm a f).elim (d.new a) λq=>q▸n
  · refine aS (mm a f) (λq=>?_) λq=>?_
    · exact aG (d.there a q) λo e=>⟨o,k a o e⟩
    · exact jg g λo _ _ e _=>⟨o,q▸e⟩
theorem av.QA(au:J.bZ=ah)(d:av c (eY J env cn) S W s):
    av c J (S.dc ([])) {W with aw:=env.locals :: W.aw} s∧(∀ b o,(ar (eY J env cn) S W s.heap).get? b=U o→(ar J (S.dc ([])) {W with aw:=env.locals :: W.aw} s.heap).get? b=U o):=by
  have p:(b6 J (S.dc ([])) {W with aw:=env.locals :: W.aw}).Perm (b6 (eY J env cn) S W):=lh.trans (vt (S:=S) (W:=W) (env:=env) (cn:=cn) au).symm;have z:∀ b o,(ar (eY J env cn) S W s.heap).get? b=U o→(ar J (S.dc ([])) {W with aw:=env.locals :: W.aw} s.heap).get? b=U o:=vR (λag ag e=>e) λa f=>.inl (p.mem_iff.mp f);exact⟨⟨d.gens,d.drawn,d.os,d.keep,d.above,d.ns,λe=>(by rw [au] at e;exact cb e),d.nN z (λb m o e=>e) (.refl _) (.refl _),λi x X a b=>nn b,d.cells,d.ee,d.dT,λi a o g h2=>(d.locs i a o g h2).mono z (.refl _) λag e=>e,λi a o g h2=>(d.eZ i a o g h2).mono z (.refl _) λag e=>e,p.nodup_iff.mpr d.nodup,λa f=>d.new a (p.mem_iff.mp f),λa f=>d.there a (p.mem_iff.mp f),d.frames⟩,z⟩
end
section
variable{prog:jL}{w:ku}{A:c6}{R:Result→aP→Prop}{s:aP}
theorem J8(I:Nat→aP→Prop)
    (turn:∀ n s,I n s→aD (model prog w) A (pyNext it) (λr a=>match r with
      | none=>R (.ok .next) a
      | some v=>aD (model prog w) A (letOwnedTupleGo target it v) (λag d=>aD (model prog w) A (assign target env v) (λag f=>
          aD (model prog w) A (forIn ifs af λc r=>if r=af then do let ok ← isTrue c env (eval c env);pure (lb ok) else pure (lb r)) (λok b=>
            if ok=af then aD (model prog w) A (eval elt env) (λx g=>aD (model prog w) A (call (.builtin "list.append") [acc,x]) (λag i=>∃ m,m<n∧I m i) (λag ag=>False) g) (λag ag=>False) b
            else ∃ m,m<n∧I m b) (λag ag=>False) f) (λag ag=>False) d) (λag ag=>False) a) (λag ag=>False) s)
    (n:Nat) (h:I n s):codeAny (model prog w) A (.compLoop (.ListComp elt [⟨target,iter,ifs,0⟩] scope pos) 0 it acc env) R s:=by
  refine GQ rfl I (λn s p=>?_) n h;show aD _ A ((compTurn (.ListComp elt [⟨target,iter,ifs,0⟩] scope pos) 0 it acc env).onRaise (λx=>do noteFrame x env;theTreesLotGoes x)) _ _ s;refine G6 ?_;rw [compTurn_list];refine ax (fO (ax (cI (turn n s p) (λr a h₁=>?_) λag ag h'=>h'.elim)));cases r with
  | none=>exact bg h₁
  | some v=>
    refine ax (cI h₁ (λag d j=>?_) λag ag h'=>h'.elim);refine ax (cI j (λag f k=>ax (cI k (λok b e=>?_) λag ag h'=>h'.elim)) λag ag h'=>h'.elim);cases ok with
    | false=>exact bg ⟨rfl,e⟩
    | true=>
      exact ax (ax (cI e (λx g l=>ax (cI l (λag i o=>bg (bg ⟨rfl,o⟩)) λag ag h'=>h'.elim)) λag ag h'=>h'.elim))
end
section
variable{c:aU}{J:bo}{S bb:aA}{W a0:bP}{s a5 s':aP}{Q Q1 X:bU}{ai:cp}{env:Env}{an:dy}
theorem av.T9(G:J.Ok)(au:J.bZ=af)(d:av c J S W s)(l:J.cn[k]?=U x)(hlen:S.aT.length=k)(j:h'.Ns J.env.locals (λz=>if z=x then U v else W.cm z))(B:kn J.env.locals s.heap h')
    (A:aK c (ar J S W s.heap) W.ga v y) (t):
    av c J (S.dc (S.aT++[U y])) {W with cm:=λz=>if z=x then U v else W.cm z} (bp s h' t)∧aV J S W s (S.dc (S.aT++[U y])) {W with cm:=λz=>if z=x then U v else W.cm z} (bp s h' t):=by
  have g:∀ b o,b≠J.env.locals→s.heap.get? b=U o→h'.get? b=U o:=λb o q e=>(B.2 b q).trans e;have h:=rr au;have cX:∀ {b},b∈J.a8.locals :: J.dN→b≠J.env.locals:=λm q=>d.cX (q▸m) (iJ (d9 _ h));have cg:∀ {x cl},(x,cl)∈J.a8.cells→cl≠J.env.locals:=λm q=>d.cg (q▸l8 m) (d9 _ h);have d6:∀ {b},b∈dv S W→b≠J.env.locals:=λm q=>d.d6 h (q▸m);refine aI (ns_obj j) λo' n D=>?_;refine turned (a:=J.env.locals) (λm=>d6 (ht m) rfl) (d.write (t:=t) (S':=S.dc (S.aT++[U y])) (m':=W.m) (hM:=λz=>if z=x then U v else W.cm z) rfl (by refine ac fF ?_;exact ch _ (iJ (d9 _ h))) g ⟨o',n⟩ d.ee d.dT (rV (λb m o e p=>(aM o (g b o (cX (o2 G▸m)) e) p)) d.frames)
    (λm=>cX (.tail _ m) rfl) (fH (λo=>g _ o (cX (.head _))) d.ns) (λag=>j) (λx m=>absurd rfl (cg m)) λz=>
    (c5 (λi w X a b=>?_) (λi w X a b=>?_) (λi a o f h2=>(d.locs i a o f h2).keep z g λhd=>d6 (r4 f h2 hd)) λi a o f h2=>(d.eZ i a o f h2).keep z g λhd=>d6 (o7 f h2 hd)))
  · exact aI (d.bB i w X a b) λu f h2=>(aM u (f.of λcl m o=>g cl o (cg m)) (h2.mono z (.refl _) (.refl _)))
  · refine aS (kh b) (λb=>?_) λC=>aC C λq r=>?_
    · exact aI (d.kP i w X a b) λu f h2=>(aM u ((if_neg (wC G.vr l a λe=>j8 b (e.symm.trans hlen.symm))).trans f) (h2.mono z (.refl _)))
    · exact(aM v (if_pos (aX (a.symm.trans ((q.trans hlen)▸l)))) (aX r▸A.mono z (.refl _)))
theorem av.rH(d:av c J S W s):av c J (S.dc ([])) W s:=⟨d.gens,d.drawn,d.os,d.keep,d.above,d.ns,d.jo,d.bB,λi x X a b=>by simp at b,d.cells,d.ee,d.dT,d.locs,d.eZ,d.nodup,d.new,d.there,d.frames⟩
theorem aV.rH(h:aV J bb a0 a5 S W s):aV J bb a0 a5 (S.dc ([])) W s:=⟨h.ar,h.la,h.ga,h.out,h.aw,h.b4⟩
class inductive hn(J:bo):Nat→List aH→Prop where|nil {k:Nat}:k=J.cn.length→hn J k []|cons {k:Nat} {x:Str} {pos:Pos} {es:List aH}:J.cn[k]?=U x→J.env.kindOf x=U .local→hn J (k+1) es→hn J k (.Name x pos :: es)
inductive hG(J:bo):Option Nat→aH→Prop where|one {x:Str} {pos:Pos}:J.cn[0]?=U x→J.env.kindOf x=U .local→hG J ae (.Name x pos)|ao {n:Nat} {es:List aH} {c9:Nat} {pos:Pos}:es.length=n→hn J 0 es→hG J (U n) (.Tuple es c9 pos)
theorem hG.iL(h:hG J bO t):(if bO.isSome=af then nj t else nh t)=af:=by cases h <;>rfl
theorem zF{E:ay→aP→Prop}(G:J.Ok)(au:J.bZ=af){k:Nat}{x:Str}{pos:Pos}(e:J.cn[k]?=U x)(g:J.env.kindOf x=U .local)(d:av c J S W s)(hlen:S.aT.length=k){v:ay}{y:V}(r:aK c (ar J S W s.heap) W.ga v y){R:Unit→aP→Prop}
    (f:∀ W' s',av c J (S.dc (S.aT++[U y])) W' s'→aV J S W s (S.dc (S.aT++[U y])) W' s'→R () s'):aD c.M J.A (assign (.Name x pos) J.env v) R E s:=by
  refine assign_Name (qr g (d.jo au) (λh' h i=>?_) (by refine ac G.jp ?_;rfl));exact aC (d.T9 G au e hlen h i r (s.toks+1)) λa b=>f _ _ a b
theorem J6(h:hn J k es):(assignEach es env).length=es.length∧(assignEach es env).findIdx? (·.1)=ae:=by
  induction h with
  | nil _=>exact⟨rfl,rfl⟩
  | @cons k x pos es a b _ d=>
    obtain e:assignEach (.Name x pos :: es) env=(ah,assign (.Name x pos) env) :: assignEach es env:=rfl;refine ac e ⟨by simp [d.1],?_⟩;refine ac (VP) ?_;simp [d.2]
theorem IA(G:J.Ok)(au:J.bZ=af)(h:hn J k es):∀ {S:aA} {W:bP} {s:aP} {vs:List ay} {xs:List V} {R:Unit→aP→Prop},av c J S W s→S.aT.length=k→ba c (ar J S W s.heap) W.ga vs xs→xs.length=es.length→(∀ W' s',av c J (S.dc (S.aT++xs.map U)) W' s'→aV J S W s (S.dc (S.aT++xs.map U)) W' s'→R () s')→aD c.M J.A (assignInOrder ((assignEach es J.env).map (·.2)) vs) R E s:=by
  induction h with
  | nil _=>
    intro S W s vs xs R f a4 r d e;have:xs=[]:=mF d
    subst this;refine ac r.nil_inv (bg ?_);have:=e W s
    simp only [List.map_nil,fL] at this;exact this f .refl
  | @cons k x pos es a b _ j=>
    intro S W s vs xs R f a4 r d e;cases xs with
    | nil=>exact nomatch d
    | cons y xs=>
      refine r.cons_inv _ λv vs g n o=>?_;clear r;obtain rfl:=g;show aD _ _ (do holding vs (assign (.Name x pos) J.env v);assignInOrder ((assignEach es J.env).map (·.2)) vs) R E s;refine ax (e6 (zF G au a b f a4 n λW' s' i h2=>?_));refine j i (by simp [a4]) (o.step h2) (by simpa using d) λaY s2 l m=>e aY s2 (by simpa using l) (h2.trans (by simpa using m))
theorem Iz(G:J.Ok)(au:J.bZ=af)(h:hG J bO t)(l:av c J S W s)(r:aK c (ar J S W s.heap) W.ga v x)(ak:Internal.bindC bO x S d0)
    (k:∀ S' W' s',d0 S'→av c J S' W' s'→aV J S W s S' W' s'→R () s'):aD c.M J.A (assign t J.env v) R E s:=by
  cases h with
  | one a b=>
    refine zF G au a b l.rH rfl r λW' s' f h2=>k _ W' s' ak f ⟨h2.ar,h2.la,h2.ga,h2.out,h2.aw,h2.b4⟩
  | ao a b=>
      refine(pw r ak) _ λd vs xs g hd ej i=>?_;clear r;obtain rfl:=g;refine aC i λj ak=>aC (J6 (env:=J.env) b) λcX cg=>WI G.handled (o8 (f3 ct hd)) (by refine ac cX ?_;refine ac a ?_;refine bG j ?_;refine bG ej.length ?_;simp) cg λh' he=>?_;exact aC (l.grow (s':=(dh s h')) rfl rfl rfl λb o e=>he b o (lj (eX e)) e) λs1 t1=>IA G au b s1.rH rfl (vs:=vs) (ej.step t1.rH) (by refine ac j ?_;exact ac a rfl) λW' s' f h2=>k _ W' s' ak f (t1.trans ⟨h2.ar,h2.la,h2.ga,h2.out,h2.aw,h2.b4⟩)
end
noncomputable def mv(ifs:List aH)(env:Env):Sem Bool:=forIn ifs af λc r=>if r=af then do let ok ← isTrue c env (eval c env);pure (lb ok) else pure (lb r)
section
variable{c:aU}{J bW:bo}{S bb S':aA}{W a0 W':bP}{s a5 s' u:aP}{Q Q1 X:bU}{ai:cp}{env:Env}{an:dy}
theorem NZ{wr:List aq}(hw:∀ b∈wr,b∈W.aw)(k:∀ b o,b∉wr→h.get? b=U o→h'.get? b=U o):∀ b o,(ar J S W h).get? b=U o→(ar J S {W with aw:=W.aw.filter λa=>!wr.contains a} h').get? b=U o:=λb o e=>by
  refine aC (ik e) λg f=>fg (k b o (λq=>f (in4 (ch _ (ch _ (hw b q))))) g) λm=>f ?_;rw [fF] at m ⊢;simp only [dj,b9,mJ] at m ⊢;refine aS m (λq=>?_) λd=>aS d (λq=>?_) λd=>aS d (λq=>?_) λd=>aS d (λq=>?_) λd=>aS d (λq=>?_) λq=>?_
  · exact .inl q
  · exact .inr (.inl q)
  · exact .inr (.inr (.inl q))
  · exact .inr (.inr (.inr (.inl q)))
  · exact .inr (.inr (.inr (.inr (.inl q))))
  · exact .inr (.inr (.inr (.inr (.inr q.1))))
noncomputable def jb(c:aU)(J:bo)(D:aq)(acc:List V)(S:aA)(W:bP)(u:aP):Prop:=D∈W.aw∧∃ vs k,u.heap.get? D=U (listOf vs.toArray k)∧ba c (ar J S W u.heap) W.ga vs acc
theorem jb.step(h:jb c J D acc S W s)(t:aV J S W s S' W' u):jb c J D acc S' W' u:=by refine aC h λhd xr=>dP xr λvs k e r=>?_;exact⟨(t.aw D hd).1,vs,k,(t.aw D hd).2 _ e,r.step t⟩
theorem jb.add(G:J.Ok)(h:jb c J D acc S W s)(l:av c J S W s)(hz:acc.length≤2^20)(p:aK c (ar J S W s.heap) W.ga y t)(k:∀ u,av c J S W u→jb c J D (acc++[t]) S W u→(∀ b o,b∉[D]→s.heap.get? b=U o→u.heap.get? b=U o)→(∀ b o,(ar J S W s.heap).get? b=U o→(ar J S W u.heap).get? b=U o)→R .none u):aD c.M J.A (call (.builtin "list.append") [.ref D,y]) R E s:=by
  refine aC h λhd xr=>dP xr λvs aj e r=>?_;obtain n:D∈b6 J S W:=in4 (ch _ (ch _ hd));refine sg (J:=J) e (by rw [r.length];exact hz) (aG (si (λxs=>xs.push y) vs.toArray aj) λi f=>?_);obtain d:(s.heap.update D (hk λxs=>xs.push y)).get? D=U (listOf (vs++[y]).toArray i):=by rw [lc _ e (by rw [f];rfl),f,Gv]
  have g:∀ b o,b∉[D]→s.heap.get? b=U o→(s.heap.update D (hk λxs=>xs.push y)).get? b=U o:=λb o ak e=>(i1 _ _ _ _ (λq=>ak (by rw [q];exact .head _))).trans e;obtain j:=jr (J:=J) (S:=S) (W:=W) (S':=S) (W':=W) (T:=[D]) (λb o e m=>g b o m e) (λb m=>by rw [dx.mp m];exact n) λa h=>.inl h;exact k _ (l.pX G.frame (a:=D) (h':=s.heap.update D (hk λxs=>xs.push y)) s.toks hd (λb o ak e=>(i1 _ _ _ _ ak).trans e) ⟨_,d⟩).1 ⟨hd,_,i,d,(r.snoc p).mono j (.refl _)⟩ g j
noncomputable def Hc(F:V→aA→(Option V→aA→Prop)→Prop)(items:List V)(kB:List V→aA→Prop)(d:Nat→aA→bP→aP→Prop)(b:List V→aA→bP→aP→Prop)(n:Nat)(u:aP):Prop:=∀ a:Prop,(∀ i acc S' W',n=items.length+1-i→i≤items.length→acc.length≤i→d i S' W' u→b acc S' W' u→dB F (items.drop i) S' acc kB→a)→a
noncomputable def Hd(c:aU)(bW:bo)(S':aA)(W':bP)(x:V)(acc:List V)(D:aq)(b:aP→Prop)(v:ay)(u:aP):Prop:=∀ a:Prop,(b u→aK c (ar bW S' W' u.heap) W'.ga v x→jb c bW D acc S' W' u→a)→a
theorem Kf{St:Nat→bz→Prop}(z:bW.Ok)(am:bW.bZ=af)(Z:bW.dN=J.dN)(ap:av c J S W s)
    {gO:aA→(Bool→aA→Prop)→Prop} {ge:aA→bU→Prop} (j1:hG bW bO target) (a4:∀ S Q,gO S Q→eI c bW S (mv ifs bW.env) Q (λag ag=>False)) (he:∀ S Q,ge S Q→Ev c bW S (eval elt bW.env) Q (λag ag=>False))
    (src:Src c bW.A bO.isSome I ed wr items St hJ hO) (f1:∀ b∈wr,s.heap.get? b=ae) (ex:s.heap.get? D=ae) (a2:D∉wr) (a1:D∉ed) (hz:items.length≤2^20) (cl:h6 c J bW S W s hJ hO ed wr St 0 B P jD) (eq:jb c bW D [] B P jD) (cs:∀ x S k,F x S k→Internal.bindC bO x S λS=>gO S (λb S=>if b then ge S (λy S=>k (U y) S) else k ae S)) (d:dB F items B [] kB)
    (fin:∀ S' W' u acc h' cj,h6 c J bW S W s hJ hO ed wr St items.length S' W' u→jb c bW D acc S' W' u→kB acc S'→(∀ b o,b∉wr→u.heap.get? b=U o→h'.get? b=U o)→R (.ok .next) (bp u h' cj)):
    codeAny c.M bW.A (.compLoop (.ListComp elt [⟨target,iter,ifs,0⟩] scope pos) 0 (.ref I) (.ref D) bW.env) R jD:=by
  refine J8 (Hc F items kB (h6 c J bW S W s hJ hO ed wr St) (jb c bW D)) (λn u d1=>?_) (items.length+1) (λ_ aj=>aj 0 [] B P rfl (di _) (di _) cl eq d);refine d1 _ λi acc S' W' Y w f T bs d=>?_;by_cases a:i<items.length
  · obtain d:=(tw a)▸d;refine cI (T.item z ap f1 src j1.iL (fm a) (R:=Hd c bW S' W' items[i] acc D (h6 c J bW S W s hJ hO ed wr St (i+1) S' W')) λv g7 j r C f4=>(λ_ aj=>aj j r ?_)) (λr jD g=>?_) λag ag e=>e
    · exact aC bs λhd xr=>dP xr λvs k e G=>⟨hd,vs,k,C _ _ a2 e,G.mono f4 (.refl _)⟩
    refine aI g λv co ds=>ac co (cI ds (λag g7 g=>?_) λag ag e=>e);refine g _ λj G E=>?_;refine Iz z am j1 j.sat G (cs _ _ _ d) λcd cm fs d2 H t3=>cI (a4 cd _ d2 cm fs H) (λb f0 g=>?_) λag ag e=>e.no;refine g _ λO V bm l fd=>?_;have N:=t3.trans fd
    cases b with
    | false=>exact(aM _ (pS Y a) (λ_ aj=>aj (i+1) acc O V rfl a (qe f) (j.next src l N Z) (E.step N) bm))
    | true=>
      refine cI (he O _ bm V f0 l) (λy f8 g=>?_) λag ag e=>e.no;refine g _ λf2 ce cn em p fr es=>?_;have t:=N.trans fr
      have h:=j.next src p t Z;refine(E.step t).add z p (dt f (dt w hz)) es λgl L ev as ca=>(aM _ (pS Y a) (λ_ aj=>aj (i+1) (acc++[f2]) ce cn rfl a (by refine ac gP ?_;exact ll f) ?_ ev em))
      exact⟨L,h.st.turn ap (λb m=>by refine ac (dx.mp m) ?_;exact⟨in4 (ch _ (ch _ (E.step t).1)),ex⟩) as,λb o e=>ca b o (h.mz b o e),h.ga,h.iI,λb ak=>(h.r3 b ak).imp id λep=>by refine aG ep λo e=>?_;exact⟨o,ca b o e⟩,src.frame _ _ _ h.gJ λb ak o e=>as b o (λq=>a1 (dx.mp q▸ak)) e⟩
  · have he:i=items.length:=n0 w (gB.mp a);obtain d:=he▸d;obtain d:=VO▸d;obtain T:=he▸T;exact src.done u _ _ T.gJ λh' cj C=>fin S' W' u acc h' cj T bs d C
theorem A0(aW:c.Ok)(G:J.Ok)(au:J.bZ=ah)(a1:av c J S W s){elt target iter:aH}
    (hf:∀ x,foldedSetIterable iter J.env x=pure x) (P:closureFor scope J.env=pure cl) (f:scope.kind=.function) (E:∀ x∈scope.names,x.2=.local→scope.names.lookup x.1=U .local) (O:∀ x∈scope.names,x.2≠.cell) (d1:cn.Nodup)
    (d2:∀ C,hG (eY J (compEnvC scope cl C J.env) cn) bO target) (f4:i7 c J S iter J.env bO.isSome cZ X) {gO:aA→(Bool→aA→Prop)→Prop} {ge:aA→bU→Prop}
    (a4:∀ C S Q,gO S Q→eI c (eY J (compEnvC scope cl C J.env) cn) S (mv ifs (compEnvC scope cl C J.env)) Q (λag ag=>False))
    (he:∀ C S Q,ge S Q→Ev c (eY J (compEnvC scope cl C J.env) cn) S (eval elt (compEnvC scope cl C J.env)) Q (λag ag=>False))
    (h:∀ items l,cZ items l→items.length≤2^20∧dB (λx S k=>Internal.bindC bO x S λS=>gO S (λb S=>if b then ge S (λy S=>k (U y) S) else k ae S)) items (l.dc ([])) [] kB) (cs:∀ e s',dG c J S W s X e s'→bj e s')
    (as:∀ C D W' u ys S',kB ys S'→av c J (S'.dc ([])) W' u→aV J S W s (S'.dc ([])) W' u→D∈W'.aw→C∈W'.aw→C≠D→s.heap.get? D=ae→s.heap.get? C=ae→(∃ vs n,u.heap.get? D=U (listOf vs.toArray n)∧ba c (ar J (S'.dc ([])) W' u.heap) W'.ga vs ys)→(∃ m,u.heap.Ns C m)→compPost c.M J.A bj am R (.ref D) C (.ok .next) u):
    aD c.M J.A (comprehension (.ListComp elt [⟨target,iter,ifs,0⟩] scope pos) scope J.env g3 (newList []) ah (eval iter J.env) am) R bj s:=by
  refine WU rfl hf P f E (cI (f4 W s a1) (λv s1 fs=>cI fs (λit s2 h2=>?_) λe s' x=>cs e s' x) λe s' x=>cs e s' x);refine h2 _ λI items l w ed wr St a2 q hs1 bv src hw Z fr=>?_;obtain rfl:=a2;refine aC (h items l q) λhz f2=>qp (W0 O (by intro y f8;simp at f8) (λz g j=>?_) f);dsimp only at g j ⊢;refine aC (hs1.kY {cls:=.type "list",data:=.seq ([]:List ay).toArray} s2.toks rfl) λi t3=>?_;generalize cd:s2.heap.objs.size=D at i t3 ⊢;have d:s2.heap.get? D=ae:=by refine bG cd ?_;exact k2
  generalize B:s2.heap.push {cls:=.type "list",data:=.seq ([]:List ay).toArray}=r at i t3 g j ⊢;have Y:r.get? D=U (listOf #[] 0):=by refine bG B ?_;exact bG cd (ez _ rfl)
  generalize f0:r.objs.size=C at g j ⊢;have a:r.get? C=ae:=by refine bG f0 ?_;exact k2
  have p:∀ b o,r.get? b=U o→z.get? b=U o:=λb o e=>j.extBut b o (λq=>by obtain e:=q▸e;obtain e:=a▸e;exact nn e) (dX _ e);have ds:c.ak.get? C=ae:=by cases e:c.ak.get? C with|none=>rfl|some o=>obtain a:=(i.keep C o e)▸a;exact nn a.symm
  refine aC (i.UJ (s':=(bp s2 z (s2.toks+([]:List (Str×ay)).length))) au (env:=compEnvC scope cl C J.env) (cn:=cn) (cm:=λx=>([]:List (Str×ay)).reverse.lookup x) rfl rfl rfl p a g ds) λaa bs=>?_;have ca:(eY J (compEnvC scope cl C J.env) cn).Ok:=AV G f (by show J.env.globals=_;exact G.aO) (by show J.env.builtins=_;exact G.blt) d1
  have ex:(eY J (compEnvC scope cl C J.env) cn).dN=J.dN:=rfl;have x0:gT J (eY J (compEnvC scope cl C J.env) cn) S W s (l.dc ([])) {w with cm:=λx=>([]:List (Str×ay)).reverse.lookup x,aw:=D :: w.aw} (bp s2 z (s2.toks+([]:List (Str×ay)).length)):=by have t:=bv.trans t3;refine⟨λb o e=>bs b o (t.ar b o e),t.la,t.ga,λb m o e=>?_,λb m=>⟨(t.aw b m).1,λo e=>p b o ((t.aw b m).2 o e)⟩,λb e=>t.b4 b (vU p b e)⟩;exact aG (t.out b m o e) λda ev=>⟨da,p b _ ev⟩
  have ap:∀ b∈wr,s.heap.get? b=ae:=λb ak=>(hw b ak).2;have eq:s.heap.get? D=ae:=bv.b4 D d;have dc:s.heap.get? C=ae:=by refine bv.b4 C ?_;cases e:s2.heap.get? C with|none=>rfl|some o=>obtain a:=(show r.get? C=U o by refine bG B ?_;exact dX _ e)▸a;exact nn a.symm
  have L:D∉wr:=λm=>by refine aG (hs1.there D (in4 (by simp [(hw D m).1]))) λo e=>?_;obtain e:=d▸e;exact nn e
  have ep:D∉ed:=λm=>by
    refine aS (Z D m) (λq=>?_) λg1=>aG g1 λo e=>?_
    · refine aG (hs1.there D (in4 (ch _ (ch _ ‹_›)))) λo e=>?_;obtain e:=d▸e;exact nn e
    · obtain d:=(ct _ _ e)▸d;exact nn d.symm
  have em:C≠D:=λe=>by obtain a:=e▸a;obtain a:=Y▸a;exact nn a.symm
  have H:St 0 z:=src.frame _ _ _ fr λb ak o e=>p b o (by refine bG B ?_;exact dX _ e);have fd:∀ b∈ed,b∈D :: w.aw∨∃ o,(ar (eY J (compEnvC scope cl C J.env) cn) (l.dc ([])) {w with cm:=λx=>([]:List (Str×ay)).reverse.lookup x,aw:=D :: w.aw} z).get? b=U o:=λb ak=>(Z b ak).imp (λq=>.tail _ q) λgl=>by refine aG gl λo e=>?_;exact⟨o,bs b o (t3.ar b o e)⟩
  have loop:=Kf (c:=c) (kB:=kB) (F:=λx S k=>Internal.bindC bO x S λS=>gO S (λb S=>if b then ge S (λy S=>k (U y) S) else k ae S)) (J:=J) (iter:=iter) (scope:=scope) (pos:=pos) (R:=compPost c.M J.A bj am R (.ref D) C) ca rfl ex a1 (d2 C) (a4 C) (he C) src ap eq L ep hz ⟨aa,x0,λb o e=>bs b o (t3.ar b o e),t3.ga,λb ak=>.tail _ (hw b ak).1,fd,H⟩ ⟨.head _,[],0,p _ _ Y,.nil⟩ (λag ag ag h=>h) f2
    λS' W' u acc h' cj T g0 f1 V=>?_
  · exact WJ loop (src.self 0 _ _ _ H loop)
  · refine aC g0 λce xr=>dP xr λvs aj co go=>?_;have iI:=T.iI
    refine aC (T.sat.xv ca iI cj V) λN _=>?_;have bI:=T.st.UO a1 (wr:=wr) (u':=(bp u h' cj)) (λb ak=>⟨in4 (ch _ (ch _ (iI b ak))),ap b ak⟩) V
    refine aC (N.QA au) λbm es=>?_;have g2:=NZ (J:=eY J (compEnvC scope cl C J.env) cn) (S:=S') iI V
    exact as C D _ _ acc S' f1 bm ⟨λb o e=>es b o (bI.ar b o e),bI.la,bI.ga,bI.out,λb m=>⟨.tail _ (bI.aw b m).1,(bI.aw b m).2⟩,bI.b4⟩ (.tail _ (mJ.mpr ⟨ce,by simpa using L⟩)) (.head _) em eq dc (h7 vs aj (V _ _ L co) (go.mono (λb o e=>es b o (g2 b o e)) (.refl _))) ⟨_,N.jo rfl⟩
end
section
set_option backward.match.sparseCases false
section
variable{c:aU}{J bW:bo}{S bb S':aA}{W a0 W':bP}{s a5 s' u:aP}{Q Q1 X:bU}{ai:cp}{env:Env}{an:dy}
noncomputable def sb(c:aU)(J:bo)(S:aA)(W:bP)(s:aP)(u:aP)(D:aq)(C:aq)(d0:cA→aA→Prop):Prop:=∀ a:Prop,(∀ (Y aJ aY),d0 Y aJ→av c J aJ aY u→aV J S W s aJ aY u→fX c (ar J aJ aY u.heap) aY.ga aY.la (.ref D) Y→C∈aY.aw→a)→a
theorem land(A:av c J S W s)(d:av c J S' W' u)(st:aV J S W s S' W' u)(i:nx mode ys S' d0)(k:D∈W'.aw)(x:C∈W'.aw)(p:C≠D)(B:s.heap.get? D=ae)
    (y:∃ vs n,u.heap.get? D=U (listOf vs.toArray n)∧ba c (ar J S' W' u.heap) W'.ga vs ys):sb c J S W s u D C d0:=by
  refine dP y λvs n e r=>?_;have l:D∉W.aw:=λm=>by refine aG (A.there D (in4 (ch _ (ch _ ‹_›)))) λo h=>?_;obtain h:=B▸h;exact nn h
  have j:C∈W'.aw.filter λa=>a != D:=nu.mpr ⟨x,p⟩;unfold nx at i;split at i
  · refine cR (d.wm k e) λa b f=>?_;obtain t:=b _ _ _ st l;refine(λ_ aj=>aj _ _ _ i a t ?_ j);refine .list (cJ _ f rfl ⟨_,rfl⟩) (r.mono (λE o' h=>?_) (.refl _));refine aC (ik h) λv w=>fg v λm=>w ?_;rw [fF] at m ⊢;simp only [dj,nu] at m ⊢;refine aS m (λq=>?_) λg=>aS g (λq=>?_) λg=>aS g (λq=>?_) λg=>aS g (λq=>?_) λg=>aS g (λq=>?_) λq=>?_
    · exact .inl q
    · exact .inr (.inl q)
    · exact .inr (.inr (.inl q))
    · exact .inr (.inr (.inr (.inl q)))
    · exact .inr (.inr (.inr (.inr (.inl q))))
    · exact .inr (.inr (.inr (.inr (.inr q.1))))
  · exact aC (d.CE (dA:=.list ys) k (by simp) λz=>(h7 vs n e (r.mono z (.refl _)))) λa b=>(λ_ aj=>aj _ _ _ i a (b _ _ _ st l) (aM D rfl (by refine bG d.ee ?_;simp)) j)
  · exact aC (d.CD (dA:=.list ys) k (by simp) λz=>(h7 vs n e (r.mono z (Pre.snoc _ _)))) λa b=>(λ_ aj=>aj _ _ _ i a (b _ _ _ st l) (.aB (by refine bG d.dT ?_;simp)) j)
theorem NY{wr:List aq}(hw:∀ b∈wr,b∈W.aw)(k:∀ b o,b∉wr→s.heap.get? b=U o→h'.get? b=U o):∀ b o,(ar J S W s.heap).get? b=U o→(ar J S {W with aw:=W.aw.filter λa=>!wr.contains a} h').get? b=U o:=λb o e=>by
  obtain h:∀ {b},b∈(W.aw.filter λa=>!wr.contains a)↔b∈W.aw∧b∉wr:=by intro b;simp [mJ]
  refine aC (ik e) λg f=>fg (k b o (λq=>f (in4 (by simp [hw b q]))) g) λm=>f ?_;rw [fF] at m ⊢;simp only [dj,b9,h] at m ⊢;refine aS m (λq=>?_) λd=>aS d (λq=>?_) λd=>aS d (λq=>?_) λd=>aS d (λq=>?_) λd=>aS d (λq=>?_) λq=>?_
  · exact .inl q
  · exact .inr (.inl q)
  · exact .inr (.inr (.inl q))
  · exact .inr (.inr (.inr (.inl q)))
  · exact .inr (.inr (.inr (.inr (.inl q))))
  · exact .inr (.inr (.inr (.inr (.inr q.1))))
theorem emptied(G:J.Ok)(h:av c J S W s)(f:av c J S' W' u)(st:aV J S W s S' W' u){C:aq}(g:C∈W'.aw)(dc:s.heap.get? C=ae)(i:kn C u.heap h'):
    av c J S' {W' with aw:=W'.aw.filter λa=>![C].contains a} (dh u h')∧aV J S W s S' {W' with aw:=W'.aw.filter λa=>![C].contains a} (dh u h')∧(∀ b o,(ar J S' W' u.heap).get? b=U o→(ar J S' {W' with aw:=W'.aw.filter λa=>![C].contains a} h').get? b=U o):=by
  have hw:∀ b∈[C],b∈W'.aw:=λb ak=>dx.mp ak▸g;have d:∀ b o,b∉[C]→u.heap.get? b=U o→h'.get? b=U o:=λb o ak e=>(i.2 b (λq=>ak (by simp [q]))).trans e;exact aC (f.xv G hw u.toks d) λa b=>(bk a (b _ _ _ st h λb ak=>dx.mp ak▸dc) (NY hw d))
structure qu(c:aU)(J:bo)(target iter elt:aH)(ifs:List aH)(scope:bJ)(cl:List (Str×aq))(cn:List Str)(bO:Option Nat)(gO:aA→(Bool→aA→Prop)→Prop)(ge:aA→bU→Prop):Prop where
  hf:∀ x,foldedSetIterable iter J.env x=pure x
  AR:closureFor scope J.env=pure cl
  kind:scope.kind=.function
  names:∀ x∈scope.names,x.2=.local→scope.names.lookup x.1=U .local
  cell:∀ x∈scope.names,x.2≠.cell
  AT:cn.Nodup
  j1:∀ C,hG (eY J (compEnvC scope cl C J.env) cn) bO target
  a4:∀ C S Q,gO S Q→eI c (eY J (compEnvC scope cl C J.env) cn) S (mv ifs (compEnvC scope cl C J.env)) Q (λag ag=>False)
  he:∀ C S Q,ge S Q→Ev c (eY J (compEnvC scope cl C J.env) cn) S (eval elt (compEnvC scope cl C J.env)) Q (λag ag=>False)
noncomputable abbrev vu(bO:Option Nat)(gO:aA→(Bool→aA→Prop)→Prop)(ge:aA→bU→Prop):V→aA→(Option V→aA→Prop)→Prop:=λx S k=>Internal.bindC bO x S λS=>gO S (λb S=>if b then ge S (λy S=>k (U y) S) else k ae S)
theorem AX(h:∃ m,s.heap.Ns C m∧∀ h',kn C s.heap h'→R acc (dh s h')):compPost M A E ae R acc C (.ok .next) s:=h
theorem J9(h:aD M A (f acc) (λag a=>∃ m,a.heap.Ns C m∧∀ h',kn C a.heap h'→R .none (dh a h')) E s):compPost M A E (U f) R acc C (.ok .next) s:=h
theorem Bz(aW:c.Ok)(G:J.Ok)(au:J.bZ=ah)
    (A:qu c J target iter elt ifs scope cl cn bO gO ge) (q:i7 c J S iter J.env bO.isSome cZ X)
    (h:∀ items f,cZ items f→items.length≤2^20∧dB (vu bO gO ge) items (f.dc ([])) [] λys S=>nx mode ys (S.dc ([])) d0):om c J S (eval (.ListComp elt [⟨target,iter,ifs,0⟩] scope pos) J.env) d0 X:=λW s a=>by
  rw [eval_ListComp];refine A0 aW G au a A.hf A.AR A.kind A.names A.cell A.AT A.j1 q A.a4 A.he h (λag ag e=>e) λC D W' u ys S' v k st p o i y dc r j=>AX (aG j λm t=>(land a k st v p o i y r) _ λY aJ aY w b l x g=>?_);refine(aM m t λh' z=>?_);exact cR (emptied G a b l g dc z) λd n B=>(ji Y aJ _ w d n (x.mono B (.refl _) (.refl _)))
theorem Mn(aW:c.Ok)(G:J.Ok)(au:J.bZ=ah)
    (A:qu c J target iter elt ifs scope cl cn bO gO ge) (b:i7 c J S iter J.env bO.isSome cZ X)
    (h:∀ items a,cZ items a→items.length≤2^20∧dB (vu bO gO ge) items (a.dc ([])) [] λys S=>Q (.list ys) (S.dc ([]))):Ev c J S (eval (.ListComp elt [⟨target,iter,ifs,0⟩] scope pos) J.env) Q X:=λW s d=>by
  refine cI (Bz (mode:=0) (d0:=λY S=>match Y with | .val x=>Q x S | _=>False) aW G au A b h W s d) (λv s' p=>?_) λag ag e=>e;refine ov p λY S' W' q sat st r=>?_;cases Y with|val x=>exact(λ_ aj=>aj x S' W' q sat st r)|_=>exact q.elim
theorem Na(aW:c.Ok)(G:J.Ok)(au:J.bZ=ah)
    (A:qu c J target iter elt ifs scope cl cn bO gO ge) (E:kF J k x) (r:swapsWith (.ListComp elt [⟨target,iter,ifs,0⟩] scope pos) (U (.Name x a)) b.line J.env=pure af) (B:i7 c J S iter J.env bO.isSome cZ X)
    (h:∀ items n,cZ items n→items.length≤2^20∧dB (vu bO gO ge) items (n.dc ([])) [] λys S=>nx mode ys (S.dc ([])) λY S=>cE .next (S.dW (S.bB.set k (U Y)))):
    dZ c J S (exec (.Assign [.Name x a] (.ListComp elt [⟨target,iter,ifs,0⟩] scope pos) b) J.env) cE X:=λW s g=>by
  refine ac (exec_Assign_Name_used x a _ b r) (ax (fO (ax ?_)));show aD _ _ (do let _ ← comprehension (.ListComp elt [⟨target,iter,ifs,0⟩] scope pos) scope J.env (firstIterPos [⟨target,iter,ifs,0⟩] pos) (newList []) ah (eval iter J.env) (U (assign (.Name x a) J.env))) _ _ s;refine ax (A0 aW G au g A.hf A.AR A.kind A.names A.cell A.AT A.j1 B A.a4 A.he h (λag ag e=>e) λC D W' u ys S' I q st z y o N dc F p=>J9 ?_);refine aG p λm H=>(land g q st I z y o N F) _ λY aJ aY L i t M d=>?_;refine va G au E i t M λP R j v f=>(aM m (fH (f.aw C d).2 H) λh' O=>?_)
  exact cR (emptied G g j v (f.aw C d).1 dc O) λl w T=>bg (bg (λ_ aj=>aj .next _ _ L l w .next))
theorem rP(G:J.Ok)(au:J.bZ=ah)(g:kF J k x)(i:swapsWith value (U (.Name x f)) pos.line J.env=pure ah)(j:om c J S (eval value J.env) d0 X)
    (h:∀ Y d,d0 Y d→cE .next (d.dW (d.bB.set k (U Y)))):dZ c J S (exec (.Assign [.Name x f] value pos) J.env) cE X:=λW s l=>
  WP (cI (j W s l) (λv s1 p=>by refine ov p λY d m q sat st r=>?_;exact sU G sat au g.1 g.2 r λW' s' a b=>(λ_ aj=>aj .next _ W' (h Y d q) a (st.trans b) .next)) λag ag e=>e) i
end
end
section
open Builtin PyProof PyProof.V PySem.Spec
theorem RQ{α:Type}(xs:Array α):((kp xs.size).reverse).filterMap (xs[·]?)=xs.toList.reverse:=by refine ac List.filterMap_reverse ?_;rw [krv_all]
theorem TH(b):Bytes.sliced b ((b.size:Int)-1) (-1) (-1)=b.toList.reverse.toArray:=by unfold Bytes.sliced;rw [krv_sliceRange,krv_range,RQ]
theorem PQ(b)(t u)(a):
    Meets («bytes.__getitem__» ⟨[.bytes b t,.ref a],[]⟩) (λag R s=>s.heap.IsSliceOf a .none .none (.int (-1) u)∧b.size≤sizeLine∧∀ l k,R (.ok (.ret (.bytes b.toList.reverse.toArray l))) (e8 s k)):=by
  refine .of_wp λprog w A R s f=>cR f λd hsz h=>?_;clear f;refine c0 d λo c a4 hd=>?_;clear d;obtain bp:s.TypeIs (.ref a) "slice":=(aM o c a4)
  show aD _ _ (Bytes.payload (.bytes b t) >>= λr=>_) _ _ s;refine ax (fx (a:=b) rfl ?_);show aD _ _ (Bytes.subscript? (.ref a) >>= λr=>_) _ _ s;refine ax ?_;unfold Bytes.subscript?;refine ax (wpAny_specialOf bp slice_no_index (bg ?_));refine ax (Ha bp ?_);show aD _ _ (Bytes.sliceParts (.ref a) >>= λr=>_) _ _ s;refine ax ?_;unfold Bytes.sliceParts;refine ax (fN (x:=.int (-1) u) c hd rfl ?_)
  kby_int
  refine lu (KBy.ite_no (show ¬ ((rawInt (-1)==rawInt 0)=af) by decide) ?_);refine ax (fN (x:=.none) c hd rfl ?_)
  kby_none
  refine ax (fN (x:=.none) c hd rfl ?_)
  kby_none
  refine bg ?_;obtain go:aD (model prog w) A.in1 (sliceIndices (rawPart ae) (rawPart ae) (rawPart (U (-1))) b.size) (λr s'=>r=sliceBounds ae ae (U (-1)) b.size∧s'=s) (λag ag=>False) s:=fx (sliceIndices_raw ae ae (U (-1)) b.size (by decide)) ⟨rfl,rfl⟩;refine ax (cI go (λr s' g=>?_) λag ag e=>e.elim);refine aC g λi j=>?_;clear g;clear go c bp;subst i j;rw [krv_bounds];refine lu (KBy.ite_no (by simp) ?_);exact ac (show Bytes.sliced b ((b.size:Int)-1,(-1:Int),(-1:Int)).1 ((b.size:Int)-1,(-1:Int),(-1:Int)).2.1 ((b.size:Int)-1,(-1:Int),(-1:Int)).2.2=b.toList.reverse.toArray from TH b) (ax (wpAny_mkBytes (bg (aM _ rfl (h _ _))) (by simpa using hsz)))
end
section
variable{c:aU}{J:bo}{S bb:aA}{W a0:bP}{s a5 s':aP}{Q Q1 X:bU}{ai:cp}{env:Env}{an:dy}
theorem MF(l:Ev c J S (eval value env) Q1 X)(h:∀ x g,Q1 x g→onBytes x λb=>b.size≤2^20∧Q (.bytes b.toList.reverse.toArray) g):
    Ev c J S (eval (.Subscript value (.Slice ae ae (U (.UnaryOp .USub (.Constant (.int 1) k o) q)) p) pos) env) Q X:=λW s n=>by
  rw [GM];refine ax (l.next n .refl λa x g y s1 r hs1 bv ag j=>ax (e6 (wpAny_Slice ?_)));refine(wP j (h x g r)) _ λb t i d=>?_;obtain rfl:=i;refine aC d λhz m=>?_;clear d;refine bg (bg ?_);obtain e:aD c.M J.A (eval (.UnaryOp .USub (.Constant (.int 1) k o) q) env) (λv s2=>∃ u,v=.int (-1) u∧∃ t,s2=(e8 s1 t)) (λag ag=>False) s1:=UnaryOp_ (G0 (Wt (aM _ rfl ⟨_,rfl⟩)));refine cI e (λv s2 h2=>?_) λag ag e=>e.elim;clear j;refine aI h2 λu f xr=>?_;clear h2;obtain rfl:=f;refine aG xr λcj f=>?_;clear xr;obtain rfl:=f;refine ax (fO ?_);refine cR ((hs1.tok cj).push {cls:=.type "slice",data:=.fields #[.none,.none,.int (-1) u]} cj) λw t3 _=>?_;refine lr (i5 _ _ _) tn.lookup (getItem_meets (i5 _ _ _) (by decide) tn Vy (Vx _ _) (PQ b t u _)
    (bk (F9 _ _ _ _) (hV hz) λz k=>?_)) rfl
  exact bQ.of (bv.trans (aV.tok.trans t3)) (bQ.here w m (.bytes _ _) k)
theorem wS{E:ay→aP→Prop}(G:J.Ok)(b:av c J S W s){k i:Nat}(g:J.nm[k]?=U x)(e:kI J x)(j:S.bB[k]?=U (U (.cv i))):
    ∃ d,W.la[i]?=U d∧∀ R:ay→aP→Prop,R (.ref d) s→aD c.M J.A (eval (.Name x pos) J.env) R E s:=by
  refine aI (b.bB k x _ g j) λv a xr=>aI xr λd f hd=>?_;clear xr;obtain rfl:=f;exact(aM d hd λR h=>mP (vb G b a e.2 h) e.1)
noncomputable abbrev QQ(S:aA)(k:Nat)(p:Nat×List V):Prop:=S.bB[k]?=U (U (.cv p.1))∧S.aR[p.1]?=U (.list p.2)
theorem Dk(h:ownAt S k=U p):QQ S k p:=by
  refine(df h) _ λy e h=>?_;obtain e:=s6 e;cases y with
  | cv i=>
    refine(eV h) _ λys b h=>?_;refine(df b) _ λo a d=>?_;obtain a:=(uV d)▸a;exact bG h ⟨e,a⟩
  | _=>exact nn h
theorem MI(aW:c.Ok)(G:J.Ok){func:aH}{x:Str}(e:∀ o a p,func≠.Attribute o a p)(hf:Ev c J S (eval func J.env) (λv S'=>v=.cC 12∧S'=S) X)(t:J.nm[k]?=U x)(w:kI J x)(b:ownAt S k=U q)
    (hz:q.2.length≤2^20) (g:Q (.int q.2.length) S):Ev c J S (eval (.Call func [.Name x p] [] pos) J.env) Q X:=λW s h=>by
  refine ac (rN e) (ax (hf.next h .refl λv f m z s1 i hs1 bv ag y=>?_));clear ag h hf;refine aC i λj l=>?_;clear i;obtain rfl:=j;obtain rfl:=l;refine ac y.oR.1 (lS (K:=c.K) (.inl ⟨_,rfl⟩) rfl (xX ?_ rfl));refine aC (Dk b) λu b=>aI (wS (E:=dG c J m W s X) (pos:=p) G hs1 t w u) λd hd ej=>ej _ (G3 ⟨aW.X.keeps hs1.keep,?_⟩);refine dP (hs1.locs _ d _ hd b) λvs n r h2=>?_;rw [← h2.length] at hz g;refine F6 (cJ _ r rfl ⟨n,rfl⟩) (by refine ac gQ ?_;lia) ?_;exact ac gQ (o0 hs1 bv g (.int _ _) _)
theorem N2{id:String}(T:h5 c ai an)(hd:b.heap.get? d=U (listOf us k))(aw:eG an 4 n=U id)(h:R (.builtin id,[.ref d]) b):
    aD c.M A (getMethod (.ref d) (c.ls n) j) R E b:=by
  refine mW (T.pm n 4 id aw) λ_ cg d6 n4 _=>?_;have bp:b.TypeIs (.ref d) "list":=(aM _ hd rfl)
  have f:∀ a,kt d=.ref a→∃ o,b.heap.get? a=U o∧o.dict=ae:=λa g=>by refine bG (n9 g) ?_;exact(aM _ hd rfl)
  refine aS (B8 aw) (λe=>?_) λi=>aS i (λe=>?_) λe=>?_
  · refine ac (cg e) ?_;obtain h:=e▸h;exact lp bp qk GK WA f h
  · refine ac (d6 e) ?_;obtain h:=e▸h;exact lp bp qk xT WC f h
  · refine ac (n4 e) ?_;obtain h:=e▸h;exact lp bp qk GJ WB f h
theorem MJ(aW:c.Ok)(T:h5 c ai an)(G:J.Ok){k n:Nat}{x name:Str}(t:J.nm[k]?=U x)(z:kI J x)(i:ownAt S k=U q)(w:name=c.ls n)
    (v:(eG an 4 n).isSome=af) (he:es.all noStar=af) (u:es.length<30) (a:(apos.endLine==pos.line)=af)
    (r:gi c J S (spliced (backTo pos (starEach es J.env))) b2 X) (h:∀ xs g,b2 xs g→hU g.aR q.1 λys=>pz an q.1 n ys xs g Q):
    Ev c J S (eval (.Call (.Attribute (.Name x p) name apos) es [] pos) J.env) Q X:=λW s l=>by
  subst w;refine aG (kr.mp v) λid aw=>aC (Dk i) λy i=>?_;rewrite [GL];refine ac (q9 λag ag ag e=>tm e) (aI (wS (E:=dG c J S W s X) (pos:=p) G l t z y) λd hd ej=>ax (ej _ (ax (fO ?_))));obtain j:methodCallPos af (.Name x p) J.env apos pos=pure pos:=by unfold methodCallPos;simp [a]
  unfold methodCall;refine ac (vM (pos:=pos) (env:=J.env) he u) (dP (l.locs _ d _ hd i) λus nn e _=>ax (e6 (N2 T e aw ?_)));refine ax (fx j ?_);refine lS (K:=c.K) (.inl ⟨_,rfl⟩) he (r.next l .refl λvs xs aJ aY s2 A b f C B=>⟨aW.X.keeps b.keep,?_⟩);exact aI (nE (h xs aJ A)) λD m o=>cI (QO an G b (f.la.get hd) m B aw T.pn o) (λag ag p=>p.of f) λag ag p=>p
end
section
set_option backward.match.sparseCases false
theorem IX{env:Env}(h:env.scope.kind=.function):env.blockKind=.function:=by unfold Env.blockKind;refine ac h ?_;rfl
theorem Ce(h:env.scope.kind=.function):interactive env=ah:=by unfold interactive;refine ac h ?_;rfl
noncomputable def sq:aH→Bool|.ListComp ..=>ah|.SetComp ..=>ah|.DictComp ..=>ah|_=>af
theorem pM(h:sq e=af):swapsWith e t n env=pure ah:=by cases e <;>first | rfl | exact cb h
theorem pN{e t:aH}{n:Nat}{env:Env}(h:nh t=ah):swapsWith e (U t) n env=pure ah:=by cases e <;>first | rfl | (cases t <;>first | rfl | exact cb h.symm)
theorem Uq(h:nh t=ah):swapsWithSole [t] e n env=pure ah:=pN h
class inductive gU(J:bo):List Nat→List Str→Prop where|nil:gU J [] []|cons {k:Nat} {x:Str} {ks:List Nat} {ns:List Str}:kF J k x→gU J ks ns→gU J (k :: ks) (x :: ns)
theorem gU.append(h:gU J a b)(h':gU J c d):gU J (a++c) (b++d):=by induction h with|nil=>exact h'|cons x _ e=>exact .cons x e
theorem gU.reverse(h:gU J a b):gU J a.reverse b.reverse:=by induction h with|nil=>exact .nil|cons x _ c=>refine ac tB ?_;exact ac tB (c.append (.cons x .nil))
theorem gU.length(h:gU J a b):a.length=b.length:=by induction h with|nil=>rfl|cons _ _ c=>simp [c]
theorem ba.reverse(h:ba c Z ga vs xs):ba c Z ga vs.reverse xs.reverse:=by
  induction xs generalizing vs with
  | nil=>refine ac h.nil_inv ?_;exact .nil
  | cons x xs e=>
    refine h.cons_inv _ λv us d a b=>?_;clear h;obtain rfl:=d;exact ac tB (ac tB ((e b).append (.cons a .nil)))
theorem Fu(h:nj value=ah):swappedStores [.Tuple es c9 a] value env=pure ae:=by cases value <;>first | rfl | exact cb h.symm
section
variable{c:aU}{J:bo}{S bb:aA}{W a0:bP}{s a5 s':aP}{Q Q1 X:bU}{ai:cp}{env:Env}{an:dy}{cE:fc}
theorem dZ.next(H:dZ c J S t b X)(l:av c J S W s)(st:aV J bb a0 a5 S W s)
    (h:∀ f d S' W' s',b d S'→av c J S' W' s'→aV J bb a0 a5 S' W' s'→aV J S W s S' W' s'→ho c (ar J S' W' s'.heap) W'.ga f d→k f s'):aD c.M J.A t k (dG c J bb a0 a5 X) s:=
  cI (H W s l) (λv s' a=>a _ λx S' W' i h2 g j=>h v x S' W' s' i h2 (st.trans g) g j) λag ag e=>e.of st
theorem Nf(h:cE .next S):dZ c J S (execs [] env) cE X:=λW s a=>ob (λ_ aj=>aj .next S W h a .refl .next)
theorem Nd{st:cH}(j:dZ c J S (exec st env) d X)(h2:∀ a,d .next a→dZ c J a (execs r env) cE X)(k:∀ x a,d (.ret x) a→cE (.ret x) a):dZ c J S (execs (st :: r) env) cE X:=λW s l=>by
  rw [execs_cons];refine ax (j.next l .refl λf e a i s1 b hs1 bv ag n=>?_);revert b;refine ho.lT n (λb=>?_) λag ag r b=>?_
  · exact(h2 a b).next hs1 bv λf e aJ aY s2 m g h ag o=>(λ_ aj=>aj e aJ aY m g h o)
  · exact bg (λ_ aj=>aj _ a i (k _ a b) hs1 bv (.ret r))
theorem MO(G:J.Ok)(d:sq e=af)(h:Ev c J S (eval e J.env) (λag S=>cE .next S) X):dZ c J S (exec (.Expr e pos) J.env) cE X:=λW s f=>wpAny_Expr_any (h.next f .refl λv x a b s1 g hs1 bv ag i=>(λ_ aj=>aj .next a b g hs1 bv .next)) (Ce G.jp) (pM d)
theorem MR(h:Ev c J S (eval e env) (λx S=>cE (.ret x) S) X):dZ c J S (exec (.Return (U e) pos) env) cE X:=λW s d=>WR (h.next d .refl λv x a b s1 f hs1 bv ag g=>(λ_ aj=>aj (.ret x) a b f hs1 bv (.ret g)))
theorem MS(h:cE (.ret .none) S):dZ c J S (exec (.Return ae pos) env) cE X:=λW s a=>wpAny_Return_none (λ_ aj=>aj (.ret .none) S W h a .refl (.ret .none))
theorem MP(o:eI c J S (isTrue t env (eval t env)) k X)(m:∀ d,k af d→dZ c J d (execs a env) cE X)(h2:∀ d,k ah d→dZ c J d (execs b env) cE X):
    dZ c J S (exec (.If t a b pos) env) cE X:=λW s n=>
  wpAny_If (o.next n .refl λb d p s1 l hs1 bv ag=>by
    cases b with
    | true=>exact(m d l).next hs1 bv λf h aJ aY s2 i e g ag j=>(λ_ aj=>aj h aJ aY i e g j)
    | false=>exact(h2 d l).next hs1 bv λf h aJ aY s2 i e g ag j=>(λ_ aj=>aj h aJ aY i e g j))
theorem MN(G:J.Ok)(au:J.bZ=ah)(g:kH J ks es)(hw:swappedStores [.Tuple es c9 l] value J.env=pure ae)(e:Ev c J S (eval value J.env) Q1 X)
    (h:∀ x a,Q1 x a→gb x λxs=>xs.length=ks.length∧cE .next (fu ks xs a)):dZ c J S (exec (.Assign [.Tuple es c9 l] value pos) J.env) cE X:=λW s f=>
  Assign_Tuple (e.next f .refl λv x a m s1 i hs1 bv ag k=>by exact zG (d0:=λS=>cE .next S) G au (.ao g) hs1 bv k (h x a i) λaJ aY s2 j b d ag=>(λ_ aj=>aj .next aJ aY j b d .next)) (Uq rfl) hw
theorem IT(G:J.Ok)(au:J.bZ=ah):∀ {ks:List Nat} {ns:List Str} {S:aA} {W:bP} {s:aP} {vs:List ay} {xs:List V} {R:Unit→aP→Prop},gU J ks ns→av c J S W s→aV J bb a0 a5 S W s→ba c (ar J S W s.heap) W.ga vs xs→xs.length=ks.length→(∀ W' s',av c J (fu ks xs S) W' s'→aV J bb a0 a5 (fu ks xs S) W' s'→R () s')→aD c.M J.A (assignInOrder (ns.map λn=>bindName J.env n) vs) R E s:=by
  intro ks ns S W s vs xs R hf
  induction hf generalizing S W s vs xs with
  | nil=>
    intro e st r b d;have:xs=[]:=mF b
    clear b;subst this;exact ac r.nil_inv (bg (d W s e st))
  | @cons k x ks ns a _ h=>
    intro e st r b d;cases xs with
    | nil=>exact nomatch b
    | cons y xs=>
      refine r.cons_inv _ λv vs f i j=>?_;clear r;obtain rfl:=f;show aD _ _ (do holding vs (bindName J.env x v);assignInOrder (ns.map λn=>bindName J.env n) vs) _ _ _;refine ax (e6 (bindName_ (sU G e au a.1 a.2 (X:=.val y) i λW' s' g h2=>?_)));exact h g (st.trans h2) (j.step h2) (by simpa using b) d
theorem MM(G:J.Ok)(au:J.bZ=ah)(hf:gU J ks ns)(hw:swappedStores [.Tuple es c9 B] (.Tuple vs A n) J.env=pure (U ns))
    (t:gi c J S (spliced (backTo n (starEach vs J.env))) b2 X) (h:∀ xs d,b2 xs d→xs.length≤2^20∧xs.length=ks.length∧cE .next (fu ks.reverse xs.reverse d)):dZ c J S (exec (.Assign [.Tuple es c9 B] (.Tuple vs A n) pos) J.env) cE X:=λW s y=>by
  refine Assign_Tuple_swapped (names:=ns) ?_ rfl hw;refine(BA (Q:=λx d=>∃ xs,x=.ao xs∧b2 xs d) t λxs d q=>⟨(h xs d q).1,xs,rfl,q⟩).next y .refl λv x d C s1 k hs1 bv ag l=>aI k λxs p q=>?_;clear k;obtain rfl:=p;refine cR (h xs d q) λ_ i w=>l.gv _ λa us g z m=>?_;clear l;obtain rfl:=g;obtain u:ns.length=us.toArray.size:=by refine bG hf.length ?_;exact bG i (ac gQ (ac m.length rfl))
  refine ac u ?_;refine unpackItems_tuple G.handled (o8 (f3 ct z)) λh' he=>?_;refine aC (hs1.grow (s':=(dh s1 h')) rfl rfl rfl λb o e=>he b o (λq=>by have:=eX e;obtain this:=q▸this;exact absurd this (gA _)) e) λj f=>?_;exact ac List.toList_toArray (IT G au (xs:=xs.reverse) hf.reverse j (bv.trans f) (m.step f).reverse (by simp [i]) λW' s' r h2=>(λ_ aj=>aj .next _ W' w r h2 .next))
end
end
section
set_option genCtorIdx false
set_option genSizeOf false
set_option genInjectivity false
open Sem (wp)
structure kx where
  nm:Str
  q:Str
  N:aq
  bs:List ay
  bm:List ay
  l7:Bool
  sn:List Str
  sub:List ay
  lL:Bool
  col:Option Bool
  fY:Option aq
  mc:Option ay
  bX:Option ay
  cw:Option ay
  eu:Option ay
  md:Option ay
noncomputable abbrev kx.obj(k:kx)(C:aq):Obj:=excClassObj k.nm k.q C k.N k.bs k.bm k.l7 k.sn k.sub k.lL k.col k.fY k.mc k.bX k.cw k.eu k.md "Exception.__new__"
structure iz(bm:List ay):Prop where
  exc:bm.contains (.type "Exception")=af
  base:bm.contains (.type "BaseException")=af
  bS:bm.contains (.type "AttributeError")=ah
  name:bm.contains (.type "NameError")=ah
noncomputable def ff(C t:aq)(d:Option aq):Obj:={cls:=.ref C,dict:=d,data:=.fields #[.ref t,.none,.none,.none,.bool ah,.none]}
noncomputable def kj(l:List ay):Obj:={cls:=.type "tuple",data:=.seq l.toArray}
section
variable{prog:jL}{w:ku}{M:nY}{A:c6}{E:ay→aP→Prop}{s:aP}{k:kx}{C:aq}
theorem Cj(a:s.heap.get? C=U (k.obj C))(b:Q af s):aD M A (isType (.ref C)) Q E s:=ax (kv a (bg b))
theorem ni(a:s.heap.get? C=U (k.obj C))(ak:k.bm.contains (.type X)=b)(c:Q b s):aD M A (isSubtype (.ref C) (.type X)) Q E s:=WW a (by refine ac Gk ?_;refine ac ak ?_;exact c)
theorem k5(h:s.heap.get? a=U o)(b:Q o.cls s):aD M A (typeOf (.ref a)) Q E s:=ax (kv h (bg b))
theorem OI(a:s.heap.get? C=U (k.obj C))(b:Q af s):aD M A (isSubtype (.ref C) (.ref C)) Q E s:=WW a (by refine ac Gk ?_;rewrite [beq_self_eq_true,Bool.true_or];exact b)
theorem CP(a:s.heap.get? C=U (k.obj C))(b:Q (U "Exception.__new__") s):aD M A (Bind.madeBy (.ref C)) Q E s:=wpAny_madeBy_exc a b
theorem P9(a:s.heap.get? C=U (k.obj C))(b:Q (.ref C :: k.bm) s):aD M A (mroOf (.ref C)) Q E s:=wpAny_mroOf_exc a b
theorem IM(a:s.heap.get? C=U (k.obj C))(b:Q (.ref C) s):aD M A (Bind.staticBase (.ref C)) Q E s:=wpAny_staticBase_exc a b
theorem Oh(a:s.heap.get? C=U (k.obj C))(b:Q () s):aD M A (Bind.madeHere "BaseException.__new__" (.ref C)) Q E s:=wpAny_madeHere_exc qj.canon a b
theorem Ql(a:s.heap.get? C=U (k.obj C))(hz:vs.size≤16)(b:Q (.ref s.heap.objs.size) (dh s (s.heap.push {cls:=.ref C,data:=.fields vs}))):aD M A (newObj (.ref C) (.fields vs)) Q E s:=fb (decide_eq_false (gB.mpr (dt hz (by refine ac qm ?_;decide)))) (ax (wpAny_alloc (ax (ax (kv (dX _ a) (bg (fb rfl (bg b))))))))
theorem M7(T:iz k.bm)(a:s.heap.get? C=U (k.obj C))
    (c:R (.ok (.ret (.ref (s.heap.push (kj rest)).objs.size))) (dh s ((s.heap.push (kj rest)).push (ff C s.heap.objs.size ae)))) (b:rest.length≤sizeLine):
    codeAny (model prog w) A (.builtin "Exception.__new__" ⟨.ref C :: rest,[]⟩) R s:=by
  obtain F:=qj;refine codeAny_builtinAt F.entry (WD (WD (PySem.wpAt_stack λp below=>WE (qn (decide_eq_true F.ends) (bg (WE ?_))))));refine ac F.owner ?_;exact ax <| Cj a <| wpAny_ite_false rfl <| wpAny_bind <| ni a T.exc <| wpAny_ite_false rfl <| wpAny_bind <| Oh a <| wpAny_bind <| wpAny_bind <| ni a T.bS <| wpAny_ite_false rfl <| wpAny_bind <| ni a T.name <| wpAny_ite_false rfl <| wpAny_pure <|
    ax <| wpAny_newTuple (ax <| Ql (s:=dh s (s.heap.push (kj rest))) (dX _ a) (al rfl) <| wpAny_pure c) b
theorem Qm{h:bz}:((h.push (kj rest)).push (ff C h.objs.size ae)).get? (h.push (kj rest)).objs.size=U (ff C h.objs.size ae):=ez _ rfl
theorem M4(T:iz k.bm)(a:s.heap.get? C=U (k.obj C))(b:Q () s):aD M A (checkBuiltinCall "Exception.__new__" ⟨.ref C :: rest,[]⟩) Q E s:=by obtain F:=qj;unfold checkBuiltinCall;exact ac F.newKind (ac F.newSplit (ac F.newRow (qn (beq_self_eq_true "__new__") <| wpAny_bind <| Cj a <| wpAny_ite_false rfl <| wpAny_bind <| ni a T.exc <| wpAny_ite_false rfl <| wpAny_bind <| IM a <| wpAny_bind <| CP a <| wpAny_ite_false (by rw [bne_self_eq_false];rfl) <| wpAny_pure b)))
theorem M9(T:iz k.bm){rest:List ay}{dD:aq}{j:Obj}{Q:Fin→aP→Prop}
    (a:s.heap.get? C=U (k.obj C)) (au:mL (model prog w) s.heap (typeLookup (.ref C) "__init__") (U (.ref dD))) (f:s.heap.get? dD=U j) (g:j.cls=.type "function")
    (n:∀ h' e,Ga s.heap h' e (.ref C) rest→aD (model prog w) A (call (.ref dD) (.ref e :: rest)) (λr s'=>r=.none∧Q (.done (.ret (.ref e))) s') E (dh s h')) (d:rest.length≤sizeLine):
    aD (model prog w) A (eQ.«type.__call__» ⟨.ref C :: rest,[]⟩) Q E s:=by
  unfold eQ.«type.__call__»;refine fb (by rfl) <| wpAny_bind <| P9 a <| wpAny_ite_false rfl <| wpAny_bind <| CP a <| wpAny_bind <| wpAny_pure <| wpAny_bind <| wpAny_holding <| wpAny_call <| codeAny_call_builtin_code (Vo _ qj.quiet) <| M4 T a <| M7 T a ?_ d;obtain aj:∀ b o,s.heap.get? b=U o→((s.heap.push (kj rest)).push (ff C s.heap.objs.size ae)).get? b=U o:=λb o e=>dX _ (dX _ e);obtain c:=Qm (C:=C) (h:=s.heap) (rest:=rest);generalize hz:(s.heap.push (kj rest)).objs.size=e at c ⊢;generalize hh:(s.heap.push (kj rest)).push (ff C s.heap.objs.size ae)=h' at c aj ⊢;refine ax <| wpAny_bind <| k5 c <| OI (aj _ _ a) <| wpAny_ite_false (by rfl) <| wpAny_bind <| wpAny_holding <| wpAny_bind <| wpAny_bind <| k5 c <| (au.keeps aj).at <| wpAny_holding <| wpAny_bind <| wpAny_bind <| wpAny_typeOf (T:="function") (aM _ (aj _ _ f) g) <| wpAny_ite_true (by decide) <| wpAny_pure <|
    ax <| wpAny_mono (n _ e ⟨aj,?_,s.heap.objs.size,c,?_,?_⟩) (λr s' i=>?_) λag ag x=>x
  · exact bG hz (jH (by rw [nX];exact i4 _))
  · exact jH (eg _)
  · exact bG hh (dX _ (ez _ rfl))
  · refine aC i λl m=>?_;clear i;obtain rfl:=l;exact bg (fb (by rfl) (bg m))
theorem M2(T:iz k.bm)
    (a:s.heap.get? C=U (k.obj C)) (au:mL (model prog w) s.heap (typeLookup (.ref C) "__init__") (U (.ref dD))) (c:s.heap.get? dD=U g) (d:g.cls=.type "function")
    (f:∀ h' e,Ga s.heap h' e (.ref C) rest→aD (model prog w) (A.under (.builtin "type.__call__" ⟨.ref C :: rest,[]⟩)) (call (.ref dD) (.ref e :: rest)) (λr s'=>r=.none∧Q (.ref e) s') E (dh s h')) (b:rest.length≤sizeLine):
    aD (model prog w) A (call (.ref C) rest) Q E s:=by
  refine mQ (GR ?_);show aD _ _ (callAny (.ref C) _) _ _ _;refine ax <| wpAny_loadPart a <| wpAny_bind <| wpAny_bind <| k5 a <| wpAny_of_eq tc_lookup <| wpAny_bind <| wpAny_of_eq (tc_bind _) <| wpAny_bind <| wpAny_pure <| wpAny_ite_true (by decide) <| wpAny_pure ⟨rfl,?_⟩;exact codeAny_call_builtin_at (Vo _ (by decide +kernel)) entry_typeCall (wpAny_check_type_call_sub a (M9 T a au c d f b))
end
section
variable{M:nY}{A:c6}{E:ay→aP→Prop}{env:Env}{k:kx}{C:aq}
theorem Ck(h:s.heap.get? a=U o)(hd:o.data=.fields vs)(b:Q ah s):aD M A (isType (.ref a)) Q E s:=ax (kv h (by refine ac hd ?_;exact bg b))
theorem MZ(T:iz k.bm)(c:s.heap.get? C=U (k.obj C))(he:s.heap.get? e=U b)(a:b.cls=.ref C)(hd:b.data=.fields vs)(d:Q (.ref e) s):aD M A (excFromValue (.ref e) m) Q E s:=ax <| wpAny_bind <| Ck he hd <| wpAny_ite_false (by rfl) <| wpAny_pure <| wpAny_ite_false (by rfl) <| wpAny_bind <| wpAny_bind <| k5 he <| by exact ac a (ni c T.base <| wpAny_ite_true (by rfl) <| wpAny_pure d)
theorem R0(T:iz k.bm)(hh:A.handled=ae)
    (h:aD M A x (λv a=>∃ e b vs,v=.ref e∧a.heap.get? C=U (k.obj C)∧a.heap.get? e=U b∧b.cls=.ref C∧b.data=.fields vs∧vs[1]?=U .none∧E (.ref e) a) E s):
    aD M A (raiseStmt env (U x) ae) Q E s:=by
  refine ax (cI h (λv a h₁=>?_) λag ag x=>x);refine qI h₁ λe b vs f d he c hd g i=>?_;clear h₁;obtain rfl:=f;refine ax <| wpAny_pure <| wpAny_bind <| wpAny_holding <| MZ T d he c hd <| wpAny_bind <| Ck he hd <| wpAny_ite_false (by rfl) <| wpAny_bind <| wpAny_bind <| k5 he ?_;exact ac c (ax <| k5 d <| wpAny_ite_true (by rfl) <| wpAny_pure <| wpAny_bind <| wpAny_bind <| wpAny_field he hd g <| wpAny_ite_false (by rfl) <| wpAny_pure <| wpAny_raiseNew_none hh i)
end
end
section
open Builtin Builtin.ObjectAttr
section
variable{prog:jL}{w:ku}{M:nY}{A:c6}{E:ay→aP→Prop}{s:aP}{k:kx}{C:aq}
noncomputable def initSig:XX:=⟨.positional,"*","Exception",.self,[⟨"args",.varPos,ah⟩]⟩
theorem T5(a:s.heap.get? C=U (k.obj C))(he:s.heap.get? e=U (ff C t0 d))(b:∀ n,Q n s):aD M A (Bind.printed "*" af initSig (U (.ref e))) Q E s:=by refine fb (by rfl) <| wpAny_bind <| (?_:aD M A (typeOf (.ref e)) _ _ _);exact k5 he <| wpAny_bind <| wpAny_bind <| wpAny_bind <| wpAny_loadPart a <| wpAny_pure <| wpAny_pure <| wpAny_pure <| b _
theorem T4(b:s.heap.get? C=U (k.obj C))(he:s.heap.get? e=U (ff C t0 d))(c:Q () s):
    aD M A (Vh "Exception.__init__" initSig ⟨.ref e :: [v],[]⟩) Q E s:=by
  unfold Vh;refine ax <| T5 b he λn=>ax (fx (a:="Exception") (by rfl) <| wpAny_onRaise <| wpAny_of_eq (check_star_args _ _ _ _ _ _) c)
theorem M3(T:iz k.bm)(a:s.heap.get? C=U (k.obj C))(he:s.heap.get? e=U (ff C t0 d))(b:Q () s):aD M A (checkBuiltinCall "Exception.__init__" ⟨.ref e :: [v],[]⟩) Q E s:=by obtain F:=qj;unfold checkBuiltinCall;exact ac F.initKind (ac F.initSplit (ac F.initRow (ax <| wpAny_bind <| k5 he <| ni a T.exc <| wpAny_ite_false (by rfl) <| T4 a he b)))
theorem M1(T:iz k.bm)
    (f:s.heap.get? C=U (k.obj C)) (he:s.heap.get? e=U (ff C t0 ae))
    (g:∀ h' t1,(∀ b o,b≠e→s.heap.get? b=U o→h'.get? b=U o)→h'.get? e=U (ff C t1 ae)→Q .none (dh s h')):
    aD (model prog w) A (call (.builtin "Exception.__init__") [.ref e,v]) Q E s:=by
  obtain F:=qj;refine mQ (GP F.init.plain F.initEntry (M3 T f he ?_));obtain a:(s.heap.push (kj [v])).get? e=U (ff C t0 ae):=dX _ he;unfold eQ.«BaseException.__init__»;refine fb (by rfl) <| wpAny_bind <| wpAny_newTuple (ax <| wpAny_bind <| wpAny_field a rfl (x:=.ref t0) rfl <| wpAny_bind <| wpAny_setField_rec a (al rfl) (λh' c h=>tV <| wpAny_pure <| g h' _ (λb o n d=>h.extBut b o n (dX _ d)) c)) (al rfl)
end
section
variable{c:aU}{A:c6}{E:ay→aP→Prop}{s:aP}
noncomputable def oX(h:bz)(e:aq):bz:=(h.push n6).update e λo=>{o with dict:=U h.objs.size}
theorem m7{h:bz}{e b:aq}{o:Obj}(he:h.get? b=U o):h.objs.size≠b:=n2 (eX he)
theorem vz{h:bz}{e:aq}{o:Obj}(he:h.get? e=U o):(oX h e).get? h.objs.size=U (dictOf [] 0):=(p6 _ _ (m7 (e:=e) he).symm).trans (ez _ rfl)
theorem Ks(he:h.get? e=U (ff C t0 ae)):(oX h e).get? e=U (ff C t0 (U h.objs.size)):=lc _ (dX _ he) rfl
theorem Kt(ak:b≠e)(a:h.get? b=U o):(oX h e).get? b=U o:=(p6 _ _ (jK ak)).trans (dX _ a)
theorem M8{C e t0:aq}{name:Str}{v:ay}{Q:Unit→aP→Prop}(X:c.K.In s.heap)(he:s.heap.get? e=U (ff C t0 ae))
    (i:findIn c.K (.ref C) "__setattr__"= U (U (.builtin "object.__setattr__"))) (bt:nG c.K C=af) (j:takerIn c.K C name=U ae) (hh:hasDictIn c.K C=af)
    (h:∀ h' d cj,(∀ b o,b≠e→s.heap.get? b=U o→h'.get? b=U o)→h'.get? e=U (ff C t0 (U s.heap.objs.size))→(∃ n,h'.get? s.heap.objs.size=U (dictOf [⟨n5 c.w.params name,.str name d,v⟩] n))→Q () (bp s h' cj)):
    aD c.M A (setAttr (.ref e) name v) Q E s:=by
  refine aI (ql hh) λcd a4 g=>?_;obtain I:InstAt s.heap e (ff C t0 ae) C ae:=⟨he,rfl,rfl,trivial⟩
  refine set_plain X I i (Dj (s:=e8 s (s.toks+1)) X I bt j λb=>?_);refine ax (bg (ax (ax (kv he (ax ((GV (h:=s.heap) X a4) _ _ _ _ (λag ag e=>e) (fb (by refine ac g ?_;rfl) ?_)))))));refine ax (wpAny_alloc (ax (wpAny_update (dX _ he) (fx (a:=U s.heap.objs.size) rfl (ax (bg (ax ?_)))))));refine C8 (s:=bp s (oX s.heap e) (s.toks+1)) (vz he) rfl (by decide) λd t=>ax (WZ (s:=bp s ((oX s.heap e).update s.heap.objs.size (tJ name (n5 c.w.params name) (.str name d) v)) t) (pC (vz he)) (DC (by decide)) (bg ?_));exact h _ d t (λb o ak f=>(p6 _ _ (m7 (e:=e) f)).trans (Kt ak f)) ((p6 _ _ (m7 (e:=e) he)).trans (Ks he)) ⟨_,pC (vz he)⟩
end
end
section
set_option genSizeOf false
set_option genInjectivity false
noncomputable def rO(P:Nat→Pos):List cH:=
  [.Expr (.Call (.Attribute (.Name "Exception" (P 0)) "__init__" (P 1)) [.Name "self" (P 2),.Name "what" (P 3)] [] (P 4)) (P 5),
   .Assign [.Attribute (.Name "self" (P 6)) "what" (P 7)] (.Name "what" (P 8)) (P 9),
   .Assign [.Attribute (.Name "self" (P 10)) "at" (P 11)] (.Name "at" (P 12)) (P 13)]
structure jM(c:aU)(C dD:aq):Prop where
  cls:∃ k:kx,c.K.lookup C=U (k.obj C)∧iz k.bm
  init:findIn c.K (.ref C) "__init__"= U (U (.ref dD))
  set:findIn c.K (.ref C) "__setattr__"= U (U (.builtin "object.__setattr__"))
  over:nG c.K C=af
  dict:hasDictIn c.K C=af
  my:takerIn c.K C "what"= U ae
  pP:takerIn c.K C "at"= U ae
  keep:keepIn c.K (.ref C)=af
structure on(c:aU)(dD:aq)(fd:gx):Prop where
  obj:∃ od iS,c.K.lookup dD=U ⟨.type "function",od,.func fd,iS⟩
  code:codeIn c.K fd.code fd.qualname=af
  aO:fd.globals=mainGlobals
  blt:fd.builtins=builtinsNs
  m6:fd.closure=[]
  kind:fd.scope.kind=.function
  co:fd.scope.isCoroutine=ah
  gen:fd.scope.isGenerator=ah
  body:∃ P,fd.body=.stmts (rO P)∧((P 1).endLine==(P 4).line)=af
  cX:fd.scope.names.lookup ("self":Str)=U .local
  cg:fd.scope.names.lookup ("what":Str)=U .local
  d6:fd.scope.names.lookup ("at":Str)=U .local
  n4:fd.scope.names.lookup ("Exception":Str)=U .globalImplicit
  v9:findCls c.K (.type "Exception") (.type "type") "__init__"= U (.val (.builtin "Exception.__init__"))
  exc:hH c "Exception" (.type "Exception")
section
variable{c:aU}{J:bo}{S:aA}{W:bP}{s:aP}{A:c6}
theorem IS{kindOf:Str→Option i3}(a:kindOf "self"= U .local)(h2:kindOf "what"= U .local)(b:kindOf "at"= U .local):
    bindL kindOf [("self",v1),("what",v2),("at",v3)] (λag=>ae) "self"= U v1∧bindL kindOf [("self",v1),("what",v2),("at",v3)] (λag=>ae) "what"= U v2∧bindL kindOf [("self",v1),("what",v2),("at",v3)] (λag=>ae) "at"= U v3:=by
  obtain bT:(([("self",v1),("what",v2),("at",v3)]:List (Str×ay)).map (·.1)).Nodup:=by show(["self","what","at"]:List Str).Nodup;decide +kernel
  exact(bk (oS _ a _ _ bT (.head _)) (oS _ h2 _ _ bT (.tail _ (.head _))) (oS _ b _ _ bT (.tail _ (.tail _ (.head _)))))
structure lA(c:aU)(env:Env)(m:Str→Option ay)(e:aq)(v1 v2:ay):Prop where
  kind:env.scope.kind=.function
  cX:env.kindOf "self"= U .local
  cg:env.kindOf "what"= U .local
  d6:env.kindOf "at"= U .local
  n4:env.scope.names.lookup ("Exception":Str)=U .globalImplicit
  ih:m "self"= U (.ref e)
  g4:m "what"= U v1
  wt:m "at"= U v2
  aO:env.globals=mainGlobals
  blt:env.builtins=builtinsNs
  above:c.ak.objs.size≤env.locals
structure kA(c:aU)(env:Env)(m:Str→Option ay)(h:bz):Prop where
  ns:h.Ns env.locals m
  nq:∀ b o,c.ak.get? b=U o→h.get? b=U o
theorem kA.step(I:kA c env m h)(k:∀ b o,b≠e→h.get? b=U o→h'.get? b=U o)(a:e≠env.locals)(ak:c.ak.get? e=ae):kA c env m h':=⟨fH (λo d=>k _ o a.symm d) I.ns,λb o cW=>k b o (λq=>by obtain cW:=q▸cW;obtain cW:=ak▸cW;exact nn cW) (I.nq b o cW)⟩
section
variable{env:Env}{m:Str→Option ay}{e t0 C:aq}{v1 v2:ay}{E:ay→aP→Prop}
theorem lA.ej(I:lA c env m e v1 v2)(n:kA c env m s.heap)(k:env.kindOf x=U .local)(b:m x=U v)(d:(x==("__debug__":Str))=ah)(h:R v s):aD c.M A (eval (.Name x pos) env) R E s:=mP (qo I.kind k n.ns b h) d
theorem lA.R5(aW:c.Ok)(I:lA c env m e v1 v2)(x:hH c "Exception" (.type "Exception"))(n:kA c env m s.heap)(h:R (.type "Exception") s):aD c.M A (eval (.Name "Exception" pos) env) R E s:=by
  have a:=aW.T.keeps n.nq;refine Gy I.kind I.n4 ?_ (by decide +kernel);refine aS x (λd=>?_) λi=>aC i λd f=>?_
  · exact GU (by refine ac I.aO ?_;exact a.g) d h
  · exact GS (by refine ac I.aO ?_;exact a.g) d (by refine ac I.blt ?_;exact a.b) f h
theorem OA(aW:c.Ok)(I:lA c env m e v1 v2)(n:kA c env m s.heap)(d:on c dD fd){k:kx}(g:c.K.lookup C=U (k.obj C))(T:iz k.bm)(he:s.heap.get? e=U (ff C t0 ae))(h:(j.endLine==f.line)=af)
    (i:∀ h' t1,(∀ b o,b≠e→s.heap.get? b=U o→h'.get? b=U o)→h'.get? e=U (ff C t1 ae)→R .none (bp s h' (s.toks+1))):
    aD c.M A (eval (.Call (.Attribute (.Name "Exception" q) "__init__" j) [.Name "self" l,.Name "what" p] [] f) env) R E s:=by
  obtain X:=aW.X.keeps n.nq;rewrite [GL];refine ac (q9 λag ag ag e=>tm e) (ax (I.R5 aW d.exc n (ax (fO ?_))));unfold methodCall;refine ac (vM (es:=[.Name "self" l,.Name "what" p]) rfl (al rfl)) ?_;exact ax <| wpAny_holding <| method_type (F:=(⟨n.ns,n.nq,I.above⟩:Fr c.ak env.locals s.heap m)) aW.X (by kernel_rfl) (by decide +kernel) d.v9 rfl <| wpAny_bind <| wpAny_of_eq (a:=f) (by unfold methodCallPos;refine ac h ?_;rfl) <|
    lS (K:=c.K) (.inl ⟨_,rfl⟩) rfl (xX (I.ej (s:=bp s s.heap (s.toks+1)) n I.cX I.ih (by decide +kernel) (xX (I.ej n I.cg I.g4 (by decide +kernel) (G3 ⟨X,M1 T (X _ _ g) he i⟩)) rfl)) rfl)
theorem Cd(I:lA c env m e v1 v2)(n:kA c env m s.heap)(a:env.kindOf nm=U .local)(b:m nm=U v)(hd:(nm==("__debug__":Str))=ah)(h:aD c.M A (setAttr (.ref e) nm v) (λag=>Q .next) E s):aD c.M A (exec (.Assign [.Attribute (.Name "self" d) nm f] (.Name nm g) i) env) Q E s:=WL (I.ej n a b hd (I.ej n I.cX I.ih (by decide +kernel) h)) (pN rfl)
end
theorem FU:getL "at" [⟨a,.str "what" t1,v1⟩]=U ae∧putL "at" h2 (.str "at" t2) v2 [⟨a,.str "what" t1,v1⟩]=[⟨a,.str "what" t1,v1⟩,⟨h2,.str "at" t2,v2⟩]:=by
  obtain nn:(({hash:=a,key:=.str "what" t1,val:=v1}:km).key.isStr "at")=ah:=(by decide +kernel:(("what":Str)==("at":Str))=ah)
  unfold getL putL;refine ac (tA) ?_;exact ac nn ⟨rfl,rfl⟩
theorem Oz(aW:c.Ok)(I:lA c env m e v1 v2)(n:kA c env m s.heap)(a:jM c C dD)(z:on c dD fd)(he:s.heap.get? e=U (ff C t0 ae))(l:e≠env.locals)(j:c.ak.get? e=ae)(G:((P 1).endLine==(P 4).line)=af)
    (h:∀ h' cj d n B h2 x y t1,(∀ b o,b≠e→s.heap.get? b=U o→h'.get? b=U o)→s.heap.get? d=ae→h'.get? e=U (ff C t1 (U d))→h'.get? d=U (dictOf [⟨B,.str "what" x,v1⟩,⟨h2,.str "at" y,v2⟩] n)→Q .next (bp s h' cj)):aD c.M A (execs (rO P) env) Q E s:=by
  refine aI a.cls λL F T=>tU (wpAny_Expr_any (OA aW I n z F T he G λh2 t2 cw f=>?_) (Ce I.kind) rfl);have cg:=n.step cw l j
  refine tU (Cd (s:=bp s h2 (s.toks+1)) I cg I.cg I.g4 (by decide +kernel) ?_);refine M8 (aW.X.keeps cg.nq) f a.set a.over a.my a.dict λD u p eu i ⟨H,g⟩=>?_;obtain d6:=cg.step eu l j;refine tU (Cd (s:=bp s D p) I d6 I.d6 I.wt (by decide +kernel) ?_);refine Fb a.set a.over a.pP a.dict _ _ _ _ e _ _ _ _ _ (aW.X.keeps d6.nq) i rfl rfl rfl g (by refine ac ((FU (h2:=0) (t2:=u) (v2:=v1)).1) ?_;rfl) (al rfl) λk r=>ob ?_;have ne:∀ b o,s.heap.get? b=U o→h2.objs.size≠b:=λb o cW q=>by
    by_cases ak:b=e
    · exact m7 (e:=e) f (q.trans ak)
    · exact m7 (e:=e) (cw b o ak cW) q
  obtain fin:=pC (name:="at") (hh:=n5 c.w.params "at") (t:=k) (v:=v2) g;rw [FU.2] at fin;refine h _ r h2.objs.size _ _ _ u k t2 (λb o ak cW=>(p6 _ _ (ne b o cW)).trans (eu b o ak (cw b o ak cW))) ?_ ((p6 _ _ (m7 (e:=e) f)).trans i) fin;cases q:s.heap.get? h2.objs.size with|none=>rfl|some o=>exact absurd rfl (ne _ o q)
theorem M5(aW:c.Ok){sm:aP}(t:∀ b o,c.ak.get? b=U o→sm.heap.get? b=U o)(z:jM c C dD)(a:on c dD fd)(F:A.depth+1<recursionLimit)
    (he:sm.heap.get? e=U (ff C t0 ae)) (w:c.ak.objs.size≤sm.heap.objs.size) (y:c.ak.get? e=ae) (l:mB sm fd ⟨.ref e :: vs,[]⟩ [("self",.ref e),("what",v1),("at",v2)])
    (h:∀ h' cj d n E h2 i j t1,(∀ b o,b≠e→sm.heap.get? b=U o→h'.get? b=U o)→sm.heap.get? d=ae→h'.get? e=U (ff C t1 (U d))→h'.get? d=U (dictOf [⟨E,.str "what" i,v1⟩,⟨h2,.str "at" j,v2⟩] n)→R (.ok (.ret .none)) (bp sm h' cj)):codeAny c.M A (.call (.ref dD) ⟨.ref e :: vs,[]⟩) R sm:=by
  refine gE a.obj λod iS G=>aI a.body λP m r=>?_;obtain v:c.K.In sm.heap:=aW.X.keeps t;refine AU (GB F) (v _ _ G) rfl (aW.T.nolimit.keeps t) (codeRec_of v a.code) m l a.m6 (λp bt=>.inl ?_) (λu I=>?_) a.co a.gen a.kind
  · simp only [b9,c4,or_false] at bt;rcases bt with rfl | rfl | rfl
    · exact a.cX
    · exact a.cg
    · exact a.d6
  obtain b:=IS (kindOf:=(callEnvC fd sm.heap.objs.size dD).kindOf) (v1:=.ref e) (v2:=v1) (v3:=v2) a.cX a.cg a.d6;have bc:=I.toInCall
  exact Oz (env:=callEnvC fd sm.heap.objs.size dD) aW ⟨a.kind,a.cX,a.cg,a.d6,a.n4,b.1,b.2.1,b.2.2,a.aO,a.blt,dt w bc.fresh⟩ ⟨bc.ns,λb o e=>bc.keep b o (t b o e)⟩ z a (bc.keep _ _ he) (lj (hj (eX he) bc.fresh)) y r λh' cj d n B D i j t1 k f g x=>by refine gE bc.same λ_ _ e=>?_;rw [show bp u h' cj=bp sm h' cj from by rw [e]];refine h h' cj d n B D i j t1 (λb o ak cW=>k b o ak (bc.keep b o cW)) ?_ g x;cases q:sm.heap.get? d with|none=>rfl|some o=>exact(bc.keep d o q).symm.trans f
end
end
noncomputable def yb(c:aU)(fd:gx)(e:aq)(vs:List ay)(s':aP)(Z:bz)(ga:List aq)(x1 bI:V):Prop:=∀ a:Prop,(∀ v1 v2,mB s' fd ⟨.ref e :: vs,[]⟩ [("self",.ref e),("what",v1),("at",v2)]→aK c Z ga v1 x1→aK c Z ga v2 bI→a)→a
noncomputable def ExcAt(c:aU)(C:aq)(xs:List V)(x:V):Prop:=∀ a:Prop,(∀ dD fd x1 bI d b,jM c C dD→on c dD fd→x=.a3 C [x1,bI]→c.lay C=[d,b]→c.ls d="what"→c.ls b="at"→(∀ e vs s' Z ga,c.K.In s'.heap→ba c Z ga vs xs→yb c fd e vs s' Z ga x1 bI)→a)→a
section
variable{c:aU}{J:bo}{S bb:aA}{W a0:bP}{s a5:aP}{Q Q1 X:bU}{ai:cp}{env:Env}{an:dy}{cE:fc}
theorem R1(g:jM c C dD)(hh:A.handled=ae)
    (h:aD c.M A x (λv d=>∃ e f vs,v=.ref e∧c.K.In d.heap∧d.heap.get? e=U f∧f.cls=.ref C∧f.data=.fields vs∧vs[1]?=U .none∧E (.ref e) d) E s):aD c.M A (raiseStmt env (U x) ae) R E s:=by
  exact aI g.cls λj i T=>R0 T hh (cI h (λv d q=>by refine kK q λe f vs a b r=>?_;exact(lK e f vs a (b _ _ i) r)) λag ag e=>e)
theorem JQ(b:jM c C dD)(f:c.K.In s.heap)(i:s.heap.get? dD=U m)(j:m.cls=.type "function")
    (l:∀ h' e,Ga s.heap h' e (.ref C) rest→aD c.M (A.under (.builtin "type.__call__" ⟨.ref C :: rest,[]⟩)) (call (.ref dD) (.ref e :: rest)) (λr s'=>r=.none∧R (.ref e) s') E (dh s h')) (a:rest.length≤sizeLine):
    aD c.M A (call (.ref C) rest) R E s:=by
  refine aI b.cls λn k T=>?_;obtain⟨h,g,d,t,os⟩:=s;exact M2 T (f _ _ k) (xV f b.init) i j l a
theorem M6(aW:c.Ok)(G:J.Ok)(h:av c J S W s)(T:ba c (ar J S W s.heap) W.ga vs xs)(hlen:xs.length≤10)(hd:J.A.depth+2<recursionLimit)(V:ExcAt c C xs x)
    (t:∀ e y eE u W',u.heap.get? e=U y→y.cls=.ref C→y.data=.fields eE→eE[1]?=U .none→av c J S W' u→aV J S W s S W' u→jO c J S W' s.heap u.heap (.ref e) x→R (.ref e) u):aD c.M J.A (call (.ref C) vs) R E s:=by
  refine V _ λdD fd x1 bI cm cl z B ex w am Z l=>?_;obtain t:=ex▸t;obtain D:=aW.X.keeps h.keep;refine gE B.obj λod iS as=>JQ z D (D _ _ as) rfl (λr g d=>?_) (by refine ac T.length ?_;refine ac qm ?_;exact leB ‹_› rfl);refine c0 d.there λt3 m ca a1=>?_;have p:∀ b o,c.ak.get? b=U o→r.get? b=U o:=λb o e=>d.keeps b o (h.keep b o e)
  obtain H:c.ak.get? g=ae:=vW h d.new;refine(l g vs (dh s r) _ _ (aW.X.keeps p) T) _ ?_;intro gd g8 ak O P;refine mQ (M5 (sm:=(dh s r)) aW p z B (by rw [FI];assumption) m (by refine jg h.ns λo _ _ Y _=>?_;exact dt h.above (iu (eX (d.keeps _ _ Y)))) H ak λF cj k n bm bs cd ce cn a2 f i v=>⟨rfl,?_⟩);obtain aj:∀ b o,s.heap.get? b=U o→F.get? b=U o:=λb o cW=>a2 b o (λq=>by obtain cW:=q▸cW;obtain cW:=d.new▸cW;exact nn cW) (d.keeps b o cW);refine cR (h.r0 (s':=(bp s F cj)) (ns:=[g]) rfl rfl rfl aj (λa ap=>by refine ac (dx.mp ap) ?_;exact⟨d.new,_,i⟩) (by simp)) λL j nw=>?_;have I:s.heap.get? k=ae:=by cases q:s.heap.get? k with|none=>rfl|some o=>exact nn (f.symm.trans (d.keeps _ _ q))
  obtain N:k∉[g]:=λq=>by obtain f:=(dx.mp q)▸f;exact nn (f.symm.trans m)
  refine t g _ _ _ _ i rfl rfl rfl L j (λ_ aj=>aj g k C _ _ _ n [x1,bI] rfl rfl (.head _) d.new i rfl rfl rfl (nw _ _ v I N) ?_ (.inl rfl));exact ac w (bG am (bG Z (.cons (O.step j) (.cons (P.step j) .nil))))
theorem MQ(aW:c.Ok)(G:J.Ok)(l:∀ o a p,func≠.Attribute o a p)(he:es.all noStar=af)(hf:Ev c J S (eval func env) (λv S'=>v=.a6 C∧S'=S) X)
    (D:gi c J S (spliced (backTo b (starEach es env))) b2 X) (hd:J.A.depth+2<recursionLimit) (k:∃ dD,jM c C dD) (h:∀ xs i,b2 xs i→xs.length≤10∧∃ x,ExcAt c C xs x∧X x i):
    dZ c J S (exec (.Raise (U (.Call func es [] b)) ae pos) env) cE X:=λW s E=>by
  rw [arm_exec_Raise];refine ax (fO ?_);show aD _ _ (raiseStmt env (U (do let v ← eval (.Call func es [] b) env;standAt pos;pure v)) ae) _ _ s;refine aG k λL d=>R1 d G.handled (ax ?_);refine ac (rN l) (ax (hf.next E .refl λv f i M s1 m hs1 bv ag j=>?_));obtain j:=m.1▸j;rw [m.2] at hs1 bv;refine ac j.o1.1 (lS (K:=c.K) (.inr (.inr d.keep)) he (D.next hs1 bv λvs xs aJ aY s2 H g n ag I=>⟨aW.X.keeps g.keep,?_⟩));refine aC (h xs aJ H) λhlen xr=>aI xr λx q B=>?_;rw [mK];exact M6 aW G g I hlen hd q λe F eE u W' r t w y sat st z=>ax (fO (bg (uR e F eE rfl (aW.X.keeps sat.keep) r t w y ((show dG c J aJ aY s2 X (.ref e) u from(λ_ aj=>aj x aJ W' B sat st z)).of n))))
end
section
variable{M:nY}{A:c6}{E:ay→aP→Prop}{s:aP}{env:Env}
theorem name_goes(g:env.kindOf n=U .local)(i:s.heap.Ns env.locals m)(bt:(env.scope.kind==.class || (env.scope.kind==.module&&env.locals != env.globals))=ah)
    (h:∀ h' u t,h'.Ns env.locals (λx=>if x=n then u else m x)→kn env.locals s.heap h'→Q () (bp s h' t)):aD M A (do bindName env n .none;unbindBehindTheSuite env n pos) Q E s:=by
  refine ax (wpAny_bindName (qr g i (λh₁ a c=>?_) bt));unfold unbindBehindTheSuite;refine qq (wpAny_unbindName_local (s:=(bp s h₁ (s.toks+1))) g a (v:=.none) (by exact if_pos rfl) bt λf u b d=>?_);obtain e:(λx=>if x=n then u else if x=n then U hl else m x)=λx=>if x=n then u else m x:=by funext x;by_cases q:x=n <;>simp [q]
  exact h f u _ (e▸b) (c.trans d)
theorem M0{K:de}(X:K.In s.heap)(he:s.heap.get? e=U j)(a4:j.cls=.ref C)
    (h:instIn K (.ref D) (.type "tuple")=U ah) (h2:∃ oc od cd da,K.lookup D=U ⟨oc,od,.cls cd,da⟩) (i:subIn K (.ref D) (.type "BaseException")=U af) (c:subIn K (.ref C) (.ref D)=U b) (d:Q b s):aD M A (excMatches (.ref e) (.ref D)) Q E s:=by
  obtain f:=looks_instIn (M:=M) X h;refine HK h2 λoc od cd da h2=>?_;obtain g:=GW (M:=M) X i;obtain a:=GW (M:=M) X c;obtain T:mL M s.heap (typeOf (.ref e)) (.ref C):=by exact bG a4 ((Looks.ld he).andThen .now)
  unfold excMatches;refine ax (f.here ?_);have LE:mL M s.heap (isExcClass (.ref D)) af:=by unfold isExcClass isType;exact((Looks.ld (X _ _ h2)).andThen .now).andThen g
  refine ax (bg (ax ?_));simp only [mG,p9];refine ax (ax (LE.here ?_));refine bg (bg (ax (T.here (ax (ax (ax (a.here ?_)))))));clear a c;cases b
  · exact bg (bg (bg d))
  · exact bg (bg (bg d))
end
section
variable{c:aU}{J:bo}{S bb:aA}{W a0:bP}{s a5:aP}{Q Q1 X:bU}{ai:cp}{env:Env}{an:dy}{cE:fc}
theorem MW(h:dZ c J S (execs body env) cE (λag ag=>False)):dZ c J S (exec (.Try body (h₀ :: k) [] [] pos) env) cE X:=λW s g=>WS (cI (h W s g) (λf s1 p=>by refine p _ ?_;intro j b d a hs1 bv i;revert a;exact ho.lT i (λa=>ob (λ_ aj=>aj .next b d a hs1 bv .next)) λag ag r a=>(λ_ aj=>aj _ b d a hs1 bv (.ret r))) λe s1 p=>(dG.no p).elim)
noncomputable def ug(c:aU)(J:bo)(n:Str):qA→List cH→Prop|.bH k,b=>∃ x d e f,b=[.Assign [.Name x d] (.Name n e) f]∧J.nm[k]?=U x∧J.a8.kindOf x=U .local|.mr m,b=>∃ a d e f,b=[.Return (U (.Attribute (.Name n d) a e)) f]∧a=c.ls m
structure qt(c:aU)(D:aq):Prop where
  ao:instIn c.K (.ref D) (.type "tuple")=U ah
  cls:∃ oc od cd da,c.K.lookup D=U ⟨oc,od,.cls cd,da⟩
  base:subIn c.K (.ref D) (.type "BaseException")=U af
theorem N0:∀ b o,(ar J S W h).get? b=U o→(ar J S {W with aw:=W.aw.filter λa=>a != d} h).get? b=U o:=λb o e=>by exact aC (ik e) λf g=>fg f λm=>g (((lf _).append BO).subset m)
theorem Tr{α:Type}(l:List α)(j k)(a b d):((l.set j a).set k b).set j d=(l.set k b).set j d:=by
  by_cases q:j=k
  · subst q;simp
  · refine ac (Wd _ _ (jK q)) ?_;rewrite [We];exact ac (Wd _ _ (jK q)) rfl
theorem N8(m:e≠byPass)
    (p:∀ {a:ay→aP→Prop} {g:ay→aP→Prop},a cls s→aD (model prog w) (A.mark (U e)) (eval t env) a g s) (o:∀ {a:Bool→aP→Prop} {g:ay→aP→Prop},a af s→aD (model prog w) (A.mark (U e)) (excMatches e cls) a g s)
    (h:aD (model prog w) (A.mark (U e)) (setFlight e ae) (λag b=>aD (model prog w) (A.mark (U e)) (storeName env n e) (λag d=>aD (model prog w) (A.mark (U e)) (execs (lR :: body) env) (λf k=>aD (model prog w) A (do bindName env n .none;unbindBehindTheSuite env n i) (λag l=>R f l) E k) (λag ag=>False) d) (λag ag=>False) b) (λag ag=>False) s):
    aD (model prog w) A (handleBy e env [.ExceptHandler (U t) (U n) (lR :: body) i]) R E s:=
  wpAny_handleBy_cons (codeAny_handlers_test (p (o (codeAny_handlers_suite_as (cI h (λag b h₁=>cI h₁ (λag d j=>cI j (λag ag x=>x) λag ag x=>x.elim) λag ag x=>x.elim) λag ag x=>x.elim))))) m
theorem NJ(G:J.Ok)(ap:av c J S W s)(y:av c J f aY s2)(H:aV J S W s f aY s2)(F:jO c J f aY s.heap s2.heap e x)(p:e=.ref a)
    (bp:∃ k vs,s2.heap.get? a=U k∧k.data=.fields vs∧vs[1]?=U (.ref T)) (h:∀ i j,av c J f i j→aV J S W s f i j→aK c (ar J f i j.heap) i.ga (.ref a) x→R () j):aD c.M A (setFlight e ae) R E s2:=by
  refine F _ λl cP C k vs ds bm fs O P am Y he u v hd w as hZ=>?_;obtain r:l=a:=n9 (O.symm.trans p);subst r P;refine ac p (dn bp λa2 cL g1 d1 t1=>?_);clear bp;obtain g2:=he.symm.trans g1;rw [← aX g2] at d1;obtain d2:=hd.symm.trans d1;injection d2 with d2
  rw [← d2] at t1;clear d1 g1 g2 d2;have D:∀ b,s.heap.get? b=ae→b∉W.aw:=λb e m=>by refine aG (ap.there b (in4 (ch _ (ch _ m)))) λo n=>?_;rw [e] at n;exact nn n
  refine aS hZ (λq=>?_) λa1=>qI a1 λg bs b1 t2 cg g4 f2 g2 d2 t3=>?_
  · rw [q] at t1;exact nomatch (aX t1)
  rw [t2] at t1;obtain V:g=T:=n9 (aX t1);clear t1;subst V;have hsz:3<b1.size:=(xy.mp t3).1
  refine wpAny_setFlight_none he hd t2 g2 d2 hsz ?_;obtain t:=lc (tI (·.setIfInBounds 3 hl)) g2 (GF (xS d2 (·.setIfInBounds 3 hl)));refine aC (y.pX G.frame (a:=g) (h':=s2.heap.update g (tI (·.setIfInBounds 3 hl))) s2.toks g4 (λb o ak e=>(i1 _ _ _ _ ak).trans e) ⟨_,t⟩) λz I=>?_;obtain N:∀ b o,(ar J f aY s2.heap).get? b=U o→(ar J f aY (s2.heap.update g (tI (·.setIfInBounds 3 hl)))).get? b=U o:=jr (T:=[g]) (λb o e m=>(i1 _ _ _ _ (λq=>m (by refine ac q ?_;exact .head _))).trans e) (λb m=>by refine ac (dx.mp m) ?_;exact in4 (ch _ (ch _ g4))) λa h=>.inl h;refine cR (z.wm am ((i1 _ _ _ _ (jK cg)).trans he)) λB pc Z=>?_;obtain L:=λb o e=>N0 (d:=l) b o (N b o e);exact h _ _ B (pc _ _ _ (I _ _ _ H (D _ f2)) (D _ Y)) (.a3 Z u (by unfold notCls;exact ac hd rfl) v (L _ _ w) (as.mono L (.refl _)))
theorem BX(G:J.Ok)(k:J.nm[j]?=U n)(a:J.a8.kindOf n=U .local)(bt:(J.a8.scope.kind==.class || (J.a8.scope.kind==.module&&J.a8.locals != J.a8.globals))=ah)(f:av c J S W s)
    (i:∀ d b,av c J (S.dW (S.bB.set j ae)) d b→aV J S W s (S.dW (S.bB.set j ae)) d b→R () b):aD c.M A (do bindName J.a8 n .none;unbindBehindTheSuite J.a8 n l) R E s:=
  name_goes a f.ns bt λo u m g h=>by exact aC (f.Fo G.nodup k a (X:=ae) g h (λY e=>nn e) m) λb0 cB=>i _ _ b0 cB
theorem Ug(aW:c.Ok)(T:h5 c ai an)(G:J.Ok)(au:J.bZ=ah){a C:aq}{R:Flow→aP→Prop}(V:(n==("__debug__":Str))=ah)(D:J.nm[j]?=U n)(b:J.a8.kindOf n=U .local)(P:ug c J n ak q)
    (am:av c J S W s) (r:aK c (ar J S W s.heap) W.ga (.ref a) (.a3 C fs)) (t:r2 ai ak j (.a3 C fs) S cE) (o:∀ f O S' W' s',cE O S'→av c J S' W' s'→aV J S W s S' W' s'→ho c (ar J S' W' s'.heap) W'.ga f O→R f s'):
    aD c.M A (storeName J.a8 n (.ref a)) (λag I=>aD c.M A (execs q J.a8) (λf L=>aD c.M J.A (do bindName J.a8 n .none;unbindBehindTheSuite J.a8 n ca) (λag N=>R f N) E L) F I) F s:=by
  have bt:(J.a8.scope.kind==.class || (J.a8.scope.kind==.module&&J.a8.locals != J.a8.globals))=ah:=by refine ac G.kind ?_;rfl
  refine qr b am.ns (λd2 sl a2=>?_) bt;refine aC (am.store G.nodup D b (X:=.val (.a3 C fs)) sl a2 r (s.toks+1)) λd l=>?_;obtain as:=r.step l;have w:∀ {A:c6} {R:ay→aP→Prop} {E:ay→aP→Prop} {p:Pos},R (.ref a) _→aD c.M A (eval (.Name n p) J.a8) R E _:=λo=>mP (qo G.kind b d.ns (if_pos rfl) o) V
  cases ak with
  | bH k=>
    refine uO P λx cm cn co B Z Y=>ac B (tU (WP (w ?_) (pM rfl)));refine bG (G.a6 au) (sU G d au Z (.inl Y) (X:=.val (.a3 C fs)) as λd1 em ap H=>ob (ac (G.a6 au) (BX G D b bt ap λz cs i h=>o _ .next _ z _ ?_ i (l.trans (H.trans h)) .next)));show cE .next (S.dW (((S.bB.set j (U (.val (.a3 C fs)))).set k (U (.val (.a3 C fs)))).set j ae));rw [Tr];exact t
  | mr m=>
    refine uN P λat_ cm cn co B bm=>ac B (ac bm ((cy (show bF (fieldOf (ai.lay C) fs m) _ from t)) _ λy hf cd=>?_));obtain hf:=T.lay▸hf;obtain v:=BJ hf;refine tU (WR ?_);rewrite [WH];refine ac (q9 λag ag ag e=>tm e) (ax (w (ax (fO (ax (e6 ?_))))));refine as.r6 _ λep _ _ _ _ bs bX cw eu ce md cl=>?_;refine ac (n9 bs) (aI (BK aW.inj cl (T.jz C) (T.jz C m v) hf) λu g a1=>T.bS C m v _ _ _ _ _ _ _ _ _ u af (aW.X.keeps d.keep) (ct _ _ bX) cw eu ce (ct _ _ md) g (B1 a1) λds=>ax (WX (bg ?_)));refine BX G D b bt (d.tok ds) λz cs i h=>o _ (.ret y) _ z _ ?_ i (l.trans (aV.tok.trans h)) (.ret (a1.step (aV.tok.trans h)));show cE (.ret y) (S.dW ((S.bB.set j (U (.val (.a3 C fs)))).set j ae));rw [We];exact cd
theorem MX(aW:c.Ok)(T:h5 c ai an)(G:J.Ok)(au:J.bZ=ah){body d:List cH}{w n:Str}(cl:dZ c J S (execs body J.env) cE ca)
    (Y:(w==("__debug__":Str))=ah) (Z:(n==("__debug__":Str))=ah) (cn:J.env.kindOf w=U .globalImplicit) (I:hH c w a2) (d2:aK c c.ak [] a2 (.a6 D)) (z:qt c D) (cm:J.nm[j]?=U n) (am:J.a8.kindOf n=U .local) (u:ug c J n ak d)
    (h:∀ x l,ca x l→∃ C fs,x=.a3 C fs∧subIn c.K (.ref C) (.ref D)=U af∧r2 ai ak j (.a3 C fs) l cE):dZ c J S (exec (.Try body [.ExceptHandler (U (.Name w gl)) (U n) d co] [] [] pos) J.env) cE X:=λW s L=>by
  obtain P:=G.a6 au;refine WS (cI (cl W s L) (λf s1 O=>O _ λR l E o hs1 bv cs=>?_) λe s1 N=>N _ λx l E o hs1 bv A=>?_)
  · revert o;exact ho.lT cs (λo=>ob (λ_ aj=>aj .next l E o hs1 bv .next)) λag ag r o=>(λ_ aj=>aj _ l E o hs1 bv (.ret r))
  refine dn (h x l o) λC fs ex M y=>?_;obtain A:=ex▸A;obtain⟨lR,i,cd⟩:∃ lR i,d=lR :: i:=by clear h y;cases ak with|bH k=>refine uN u λ_ _ _ _ e _=>?_;exact(jT _ _ e)|mr m=>refine uN u λ_ _ _ _ e _=>?_;exact(jT _ _ e)
  rw [cd] at u ⊢;refine ac P (C7 G L hs1 bv A λaY s2 a fd t as H es cz bp=>N8 (cls:=.ref D) (by refine ac H ?_;exact λq=>nomatch q) (λ{bs bm} v=>?_) (λ{bs bm} v=>?_) ?_)
  · have B:=aW.T.keeps t.keep;obtain ce:a2=.ref D:=d2.o1.1;obtain I:=ce▸I;refine bG P (Gy G.jp cn ?_ Y);refine aS I (λe=>?_) λep=>aC ep λF p=>?_
    · exact GU (by refine ac G.aO ?_;exact B.g) e v
    · exact GS (by refine ac G.aO ?_;exact B.g) F (by refine ac G.blt ?_;exact B.b) p v
  · refine cz _ λf0 cP ev f8 vs ds f4 eq F p f2 f1 he V _ _ _ _ _=>?_;refine ac F ?_;injection p with p _
    exact M0 (aW.X.keeps t.keep) he V z.ao z.cls z.base (p▸M) v
  · exact NJ G L t as cz H bp λfr ga ap a1 d1=>ac H (Ug aW T G au Z cm am u ap d1 y λf R S' W' s' q sat st em=>(λ_ aj=>aj R S' W' q sat (a1.trans st) em))
end
theorem xw{ns:List Str}{ws:List ay}(bT:ns.Nodup):((ns.zip ws).map (·.1)).Nodup:=by
  rw [show(ns.zip ws).map (·.1)=ns.take ws.length from ?_]
  · exact bT.sublist (Gx _ _)
  · induction ns generalizing ws with
    | nil=>simp
    | cons n ns a=>cases ws with
      | nil=>simp
      | cons w ws=>simp [a (e5.mp bT).2]
theorem PI{α:Type}{l:List (Str×α)}{x:Str}(h:x∉l.map (·.1)):l.lookup x=ae:=by
  induction l with
  | nil=>rfl
  | cons p l a=>
    simp only [fa,b9,not_or] at h;exact ac mI (ac (beq_eq_false_iff_ne.mpr h.1) (a h.2))
theorem IU:∀ (ns:List Str) (ds:List ay) p ws,(p++ns).Nodup→ns.length=ds.length→p.length≤ws.length→ws.length≤p.length+ns.length→(ns.zip ds).foldl (λr x=>if(r.lookup x.1).isNone=af then r++[(x.1,x.2)] else r) ((p++ns).zip ws)=(p++ns).zip (ws++ds.drop (ws.length-p.length)):=by
  intro ns
  induction ns with
  | nil=>
    intro ds p ws _ h _ _;refine ac (mF h.symm) (ac List.drop_nil ?_);rewrite [fL,fL];rfl
  | cons n ns k=>
    intro ds p ws bT h t h2;cases ds with
    | nil=>exact qh h
    | cons d ds=>
      obtain e:p++n :: ns=(p++[n])++ns:=by simp
      refine ac Wj (ac VR ?_);obtain f:ns.length=ds.length:=by simpa using h
      simp only [gg] at h2;by_cases q:p.length<ws.length
      · obtain c:(n,ws[p.length])∈(p++n :: ns).zip ws:=qc (i:=p.length) (by rw [Gr];exact⟨by simp,by simp [q]⟩);refine ac (pj (xw bT) c) ?_;simp only [Option.isNone_some,F3,if_false];refine ac e (ac (k ds (p++[n]) ws (e▸bT) f (by simp;assumption) (by simp;lia)) ?_);have:ws.length-p.length=(ws.length-(p++[n]).length)+1:=by simp;lia
        exact ac this (ac List.drop_succ_cons rfl)
      · obtain bt:ws.length=p.length:=by lia
        obtain hz:(p++n :: ns).zip ws=p.zip ws:=by
          obtain hz:(p++n :: ns).zip (ws++[])=p.zip ws++(n :: ns).zip []:=Wi (n0 ‹_› (gB.mp ‹_›))
          simpa using hz
        obtain s:n∉((p++n :: ns).zip ws).map (·.1):=by
          refine ac hz λm=>?_;obtain g:n∈p:=by refine aI (fw.mp m) λo c l=>?_;obtain⟨a,b⟩:=o;clear m hz bT e h;obtain rfl:=l;exact(List.of_mem_zip c).1
          exact(dH.mp bT).2.2 n g n (.head _) rfl
        refine ac (PI s) ?_;simp only [Option.isNone_none,if_true];obtain j:(p++n :: ns).zip ws++[(n,d)]=((p++[n])++ns).zip (ws++[d]):=by refine ac hz (bG e (ac (Wi (n0 ‹_› (gB.mp ‹_›))) ?_));simp
        refine ac j (ac (k ds (p++[n]) (ws++[d]) (e▸bT) f (by simp;assumption) (by simp;lia)) (bG e ?_));simp [bt]
theorem Dx:∀ (ns:List Str) ws (q:List (Str×ay)),ns.length=ws.length→(∀ x∈ns.zip ws,q.lookup x.1=U x.2)→ns.filterMap (λn=>(q.lookup n).map λv=>(n,v))=ns.zip ws|[],ws,_,_,_=>by rfl|n :: ns,[],_,h,_=>by simp at h|n :: ns,w :: ws,q,h,a=>by have b:=a (n,w) (.head _);rw [tx,show q.lookup n=U w from b];simp only [Option.map_some,Wj];rw [Dx ns ws q (by simpa using h) λx c=>a x (.tail _ c)]
theorem NM{α β:Type}{f:α→β→Sem (ForInStep β)}(g:β→α→β)(h:∀ x c,f x c=pure (.yield (g c x))):∀ (l:List α) c,forIn l c f=pure (l.foldl g c):=by
  intro l
  induction l with
  | nil=>
    intro c;simp
  | cons x l a=>
    intro c;rewrite [mG,h];refine ac VR (bG (a (g c x)) ?_);rfl
theorem IW{na:List Str}{vs cK:List ay}(a:vs.length≤n)(h2:n≤vs.length+cK.length)(b:cK.length≤n)(e:na.length=n):na.length=(vs++cK.drop (vs.length-(n-cK.length))).length:=by refine ac gP ?_;refine ac qb ?_;refine ac e ?_;refine ac (tG _ b) ?_;refine ac (tG _ h2) ?_;refine ac (tC vs.length cK.length) ?_;rewrite [Wl];exact ac (GA a) rfl
theorem OO{α:Type}{c:Prop}[Decidable c]{a b:α}:(if c then(pure (lb a):Sem (ForInStep α)) else pure (lb b))=pure (lb (if c then a else b)):=by split <;>rfl
theorem Tk{fd:gx}(hd:(fd.defaults=.none∧cK=[])∨∃ T o n,fd.defaults=.ref T∧s.heap.get? T=U o∧o.data=.seq cK.toArray n):
    ∃ r:Option (Array ay),(r.getD #[]).toList=cK∧∀ {M:nY} {A:c6} {E:ay→aP→Prop} {R:Option (Array ay)→aP→Prop},R r s→aD M A (seqItems? fd.defaults) R E s:=by
  refine aS hd (λa=>aC a λe b=>?_) λa=>kK a λT o n e c d=>?_ <;>refine ac e ?_
  · exact(aM ae b.symm λh=>bg h)
  · exact(aM (U cK.toArray) rfl λh=>i6 c d h)
theorem Nq{ns:List Str}{vs:List ay}(bT:ns.Nodup)(h:k≤vs.length):((ns.take k).filter λn=>((ns.zip vs).lookup n).isNone)=[]:=by
  rw [List.filter_eq_nil_iff];intro n e;refine aG (V5.mp e) λj b=>?_;obtain a:j<k:=by have:=(fM.mp b).1;rw [jI] at this;exact hj this (tE _ _)
  rw [Gq a] at b;obtain c:j<vs.length:=hj a h;obtain d:(n,vs[j])∈ns.zip vs:=qc (i:=j) (by rw [Gr];exact⟨b,fm c⟩);exact ac (pj (xw bT) d) tg
theorem fold_all{ns:List Str}{vs cK:List ay}(bT:ns.Nodup)(b:vs.length≤ns.length)(h2:ns.length≤vs.length+cK.length)(a:cK.length≤ns.length):
    ((ns.drop (ns.length-cK.length)).zip cK).foldl (λr x=>if(r.lookup x.1).isNone=af then r++[(x.1,x.2)] else r) (ns.zip vs)=ns.zip (vs++cK.drop (vs.length+cK.length-ns.length)):=by
  obtain hlen:(ns.take (ns.length-cK.length)).length=ns.length-cK.length:=by refine ac jI ?_;exact n1 (GD _ _)
  obtain hf:=IU (ns.drop (ns.length-cK.length)) cK (ns.take (ns.length-cK.length)) vs (by rw [xL];exact bT) (by refine ac qb ?_;exact ac (Nat.sub_sub_self a) rfl) (by refine ac hlen ?_;exact Wq.mpr h2) (by refine ac hlen ?_;refine ac qb ?_;refine ac (GA (GD _ _)) ?_;exact b);rw [xL,hlen,tG _ a] at hf;exact hf
theorem Az{fd:gx}{args:List Arg}(bt:fd.params=⟨[],args,ae,[],[],ae,dC⟩)(bT:(args.map (·.arg)).Nodup)
    (hd:(fd.defaults=.none∧cK=[])∨∃ T o n,fd.defaults=.ref T∧s.heap.get? T=U o∧o.data=.seq cK.toArray n) (f:vs.length≤args.length) (h2:args.length≤vs.length+cK.length) (e:cK.length≤args.length):
    mB s fd ⟨vs,[]⟩ ((args.map (·.arg)).zip (vs++cK.drop (vs.length+cK.length-args.length))):=by
  refine aI (Tk hd) λr h i=>?_;obtain b:(args.map (·.arg)).length=args.length:=fn _;obtain gY:cK.drop (cK.length-args.length)=cK:=by refine ac (Nat.sub_eq_zero_of_le e) ?_;rfl
  obtain g:=Nq (vs:=vs) (k:=args.length-cK.length) bT (Wq.mpr h2);obtain d:=fold_all bT (b▸f) (b▸h2) (b▸e);obtain d:=b▸d;obtain⟨f1,f2,q,t,u,w,y,z,B,m,p⟩:=fd;dsimp only at bt i;refine ac bt λM A E Q j=>?_;unfold bindArgs;refine ax <| wpAny_pure <| wpAny_bind <| i <| wpAny_ite_false ?_ <| wpAny_ite_false ?_ <| wpAny_bind <| wpAny_of_eq (a:=(args.map (·.arg)).zip (vs++cK.drop (vs.length+cK.length-args.length))) ?_ <| wpAny_bind <| wpAny_pure <| wpAny_ite_false (by rfl) <| wpAny_pure ?_
  · show decide ((decide (vs.length>(args.map (·.arg)).length)&&af)=af)=ah;refine ac b (ac (decide_eq_false (gB.mpr f)) ?_);rfl
  · show decide ((!(((args.map (·.arg)).take ((args.map (·.arg)).length-((r.getD #[]).toList.drop ((r.getD #[]).toList.length-(args.map (·.arg)).length)).length)).filter λn=>(((args.map (·.arg)).zip vs).lookup n).isNone).isEmpty)=af)=ah;refine ac h (ac b (ac gY (ac g ?_)));rfl
  · refine(NM (λr x=>if(r.lookup x.1).isNone=af then r++[(x.1,x.2)] else r) (λx c=>OO) _ _).trans (congrArg pure ?_);show List.foldl _ ((args.map (·.arg)).zip vs) (((args.map (·.arg)).drop ((args.map (·.arg)).length-((r.getD #[]).toList.drop ((r.getD #[]).toList.length-(args.map (·.arg)).length)).length)).zip ((r.getD #[]).toList.drop ((r.getD #[]).toList.length-(args.map (·.arg)).length)))=_;exact ac h (ac b (ac gY d))
  · show Q (((args.map Arg.arg)++[]).filterMap λn=>(((args.map Arg.arg).zip (vs++cK.drop (vs.length+cK.length-args.length))).lookup n).map λv=>(n,v)) s;rw [fL,Dx _ _ _ ?_ λx l=>pj (xw bT) l]
    · exact j
    · exact bG (tG _ e) (IW f h2 e b)
section
variable{c:aU}{J:bo}{S bb:aA}{W a0:bP}{s a5:aP}{Q Q1 X:bU}{ai:cp}{env:Env}{an:dy}{cE:fc}
theorem MU(aW:c.Ok)(G:J.Ok){eR:V→bU}{lE:V→V→bU}(q:Ev c J S (eval value env) Q1 X)(ak:∀ y a,Q1 y a→Ev c J a (eval o env) (eR y) X)(a4:∀ y x aJ,eR y x aJ→Ev c J aJ (eval i env) (lE y x) X)
    (h:∀ y x z b,lE y x z b→nL x z y b λS=>cE .next S):dZ c J S (exec (.Assign [.Subscript o i p] value pos) env) cE X:=λW s r=>
  WQ (q.next r .refl λv y a H s1 t hs1 bv ag D=>(ak y a t).next hs1 bv λu x aJ aY s2 A d j t2 E=>(a4 y x aJ A).next d j λw z b I L B f k t3 F=>cI (Tn aW G f (E.step t3) F (D.step (t2.trans t3)) (h y x z b B)) (λag M p=>by refine p _ ?_;intro m n C g l;exact(λ_ aj=>aj .next m n C g (k.trans l) .next)) λag ag e=>e) (pN rfl)
noncomputable abbrev QS(S:aA)(k:Nat)(p:Nat×List (Nat×V)):Prop:=S.bB[k]?=U (U (.cv p.1))∧S.aR[p.1]?=U (.cY p.2)
theorem QR(h:sx S k=U p):QS S k p:=by
  refine(df h) _ λy e h=>?_;obtain e:=s6 e;cases y with
  | cv i=>
    refine(eV h) _ λys b h=>?_;refine(df b) _ λo a d=>?_;obtain a:=(zc d)▸a;exact bG h ⟨e,a⟩
  | _=>exact nn h
noncomputable abbrev Qi(S:aA)(k:Nat)(p:aq×Nat×aq×List V):Prop:=S.bB[k]?=U (U (.new p.1 p.2.1))∧S.aR[p.2.1]?=U (.d4 p.2.2.1 p.1 p.2.2.2)
theorem Qh(h:nA S k=U p):Qi S k p:=by
  refine(df h) _ λy e h=>?_;obtain e:=s6 e;cases y with
  | new a i=>
    refine(df h) _ λo d h=>?_;cases o with
    | d4 C b fs=>
      by_cases q:b=a
      · exact bG (aX ((if_pos q).symm.trans h)) ⟨e,q▸d⟩
      · exact nomatch ((if_neg q).symm.trans h)
    | _=>exact nn h
  | _=>exact nn h
theorem MV(aW:c.Ok)(G:J.Ok)(t:J.nm[k]?=U x)(C:kI J x)(w:n<c.nl)(g:a=c.ls n)(r:Ev c J S (eval value J.env) Q1 X)
    (h:∀ y b,Q1 y b→bF (sx b k) λp=>p.2.length≤2^10∧cE .next (b.dV (b.aR.set p.1 (.cY (putN p.2 n y))))):
    dZ c J S (exec (.Assign [.Subscript (.Name x D) (.Constant (.str a) c9 M) N] value pos) J.env) cE X:=λW s A=>by
  subst g;refine WQ (r.next A .refl λv y b L s1 F hs1 bv ag I=>?_) (pN rfl);refine(cy (h y b F)) _ λq e f=>?_;refine aC f λhz z=>aC (QR e) λB u=>aI (wS (E:=dG c J S W s X) (pos:=D) G hs1 t C B) λd hd ej=>ej _ (G1 ?_);obtain i:=hs1.tok (s1.toks+1);refine cI (Tq aW G i hd u (.lit n _ rfl w) (I.step aV.tok) (leB ‹_› rfl) z) (λag O p=>?_) λag ag e=>e;refine p _ λm o H j l=>?_;exact(λ_ aj=>aj .next m o H j (bv.trans (aV.tok.trans l)) .next)
theorem putL_new:∀ {ds:List km},getL name ds=U ae→putL name hh k v ds=ds++[⟨hh,k,v⟩]:=by
  intro ds
  induction ds with
  | nil=>
    intro _;exact rfl
  | cons e r d=>
    intro h;unfold getL at h;obtain h:=(tA)▸h;unfold putL;cases q:e.key.isStr name with
    | true=>obtain h:=q▸h;simp at h
    | false=>
      obtain h:=q▸h;simp only [F3,if_false,List.cons_append];rw [d];unfold getL;dsimp only at h;split at h
      · cases h
      · rename_i b;refine ac b ?_;dsimp only;split at h
        · exact nn h
        · rename_i a;obtain a:=lg▸a;rw [nV,not_or] at a;exact ac (if_neg a.2) rfl
noncomputable abbrev yI(c:aU)(Z:bz)(ga:List aq)(ds:List km)(ns:List Nat)(fs:List V):Prop:=(ds=[]∧fs=[])∨∃ k hh t v x a d b,ds=⟨hh,.str (c.ls k) t,v⟩ :: a∧ns=k :: d∧fs=x :: b∧aK c Z ga v x∧eb c Z ga a d b
theorem eb.inv(h:eb c Z ga ds ns fs):yI c Z ga ds ns fs:=by exact eb.casesOn (motive_4:=λds ns fs ag=>yI c Z ga ds ns fs) h (.inl ⟨rfl,rfl⟩) (λa b=>.inr (HZ _ _ _ _ _ _ _ _ rfl rfl rfl a b))
theorem Sa(r:aK c Z ga v y):∀ {ns:List Nat} {ds:List km} {fs:List V},eb c Z ga ds ns fs→ns[fs.length]?=U n→eb c Z ga (ds++[⟨h,.str (c.ls n) t,v⟩]) ns (fs++[y]):=by
  intro ns
  induction ns with
  | nil=>
    intro _ _ _ e;exact nn e
  | cons m ns p=>
    intro _ _ q e;refine aS q.inv (λd=>?_) λd=>?_
    · refine aC d λi j=>?_;clear d;obtain rfl:=i;obtain rfl:=j;exact ac (show m=n from aX e) (.cons r .nil)
    · refine HP d λk hh t v x u z w l f g a b=>?_;clear d;obtain rfl:=l;obtain rfl:=g;injection f with f o
      clear q;subst f o;exact .cons a (p b e)
theorem eb.len(q:eb c Z ga ds ns fs):ds.length=fs.length:=eb.ind (P:=λds ag fs=>ds.length=fs.length) (λag=>rfl) (λag ag ag ag ag ag ag ag ag a=>congrArg (·+1) a) q
theorem MT(aW:c.Ok)(T:h5 c ai an)(G:J.Ok)(cl:J.nm[k]?=U x)(a1:kI J x)(cm:a=c.ls n)(ce:Ev c J S (eval value J.env) Q1 X)
    (h:∀ y g,Q1 y g→bF (nA g k) λp=>(c.lay p.2.2.1)[p.2.2.2.length]?=U n∧cE .next (g.dV (g.aR.set p.2.1 (.d4 p.2.2.1 p.1 (p.2.2.2++[y]))))):
    dZ c J S (exec (.Assign [.Attribute (.Name x ep) a eq] value pos) J.env) cE X:=λW s cn=>by
  subst cm;refine WL (ce.next cn .refl λv y g O s1 co hs1 bv ag cs=>?_) (pN rfl);refine(cy (h y g co)) _ λL ca M=>?_;obtain⟨o,i,C,fs⟩:=L;refine aC M λf Y=>aC (Qh ca) λas r=>?_;dsimp only at as r f Y;refine aI (hs1.bB k x _ cl as) λu bs am=>?_;have ap:u=.ref o:=am
  clear am;subst ap;refine mP (vb G hs1 bs a1.2 ?_) a1.1;have au:i<g.aR.length:=(fM.mp r).1
  obtain⟨d,hd⟩:∃ d,O.la[i]?=U d:=by obtain au:=(hs1.ee).symm▸au;exact⟨_,fm au⟩
  refine dn (hs1.locs i d _ hd r) λds nn l N xr=>qH xr λox V D H E=>?_;have I:n∈c.lay C:=qc f
  have R:=T.jz C n I;have a2:n∉(c.lay C).take fs.length:=λm=>by
    refine aG (V5.mp m) λj q=>?_;have F:j<fs.length:=by have:=(fM.mp q).1;obtain this:=jI▸this;exact hj this (tE _ _)
    obtain q:=(Gq F)▸q;refine aG (fM.mp q) λl1 l=>?_;refine aG (fM.mp f) λbY cd=>?_;have:=(VU (h₀:=l1) (h₁:=bY) (T.sc C)).mp (l.trans cd.symm)
    exact absurd this (lj F)
  have P:=BL aW.inj N (T.jz C) R a2;have hlen:ds.length=fs.length:=N.len;have d2:fs.length<(c.lay C).length:=(fM.mp f).1;refine T.set C n I J.A _ s1 _ o ox d ds nn v (aW.X.keeps hs1.keep) (ct _ _ V) D H E l (by refine ac P ?_;rfl) (by have:=T.sd C;lia) λd1 t=>?_;have B:=pC (name:=c.ls n) (hh:=n5 c.w.params (c.ls n)) (t:=d1) (v:=v) l;obtain B:=(putL_new P)▸B;refine aC (hs1.xu G.frame (o':=.d4 C o (fs++[y])) t hd r (by simp) (by simp) (λb em ak e=>(i1 _ _ _ _ ak).trans e) (λz=>(dL _ _ B (Sa (cs.mono z (.refl _)) (N.mono z (.refl _)) f) ⟨ox,z _ _ V,D,H,E⟩)) ⟨_,B⟩) λZ bm=>?_;exact(λ_ aj=>aj .next _ O Y Z (bv.trans bm) .next)
end
section
variable{prog:jL}{w:ku}{A:c6}{E:ay→aP→Prop}{s:aP}
theorem xo(a:s.heap.IsTupleIter it l i)(f:s.heap.IsTuple l items)(g:items[i]?=U x)
    (e:∀ h',h'.IsTupleIter it l (i+1)→kn it s.heap h'→Q x (dh s h')):aD (model prog w) A (mD (.ref it)) Q E s:=by
  refine c0 (id a) λo b a4 hd=>?_;refine c0 f λh d _ xr=>aG xr λnl c=>?_;unfold mD;refine ax (tT (name:=ek "__next__") a.typeIs xC
    (oa xC a.typeIs Vv ?_ (Vt _)))
  show aD _ _ (field (.ref it) 0 >>= _) _ _ s;refine ax (fN b hd (x:=.ref l) rfl ?_);show aD _ _ (if(kt l==hl)=af then _ else _) _ _ s;refine ac (if_neg (show ¬ ((kt l==hl)=af) from tg)) ?_;show aD _ _ (field (.ref it) 1 >>= _) _ _ s;refine ax (fN b hd (x:=.int i 0) rfl ?_);show aD _ _ (seqItems? (.ref l) >>= _) _ _ s;refine ax (i6 d c ?_);simp only [tq,g];refine ax (G9 b hd (al rfl) (bg (aM x rfl (bg (e _ ?_ (VA ..))))));exact(cJ _ (lc _ b (GF (xS hd _))) ((Ws ..).trans a4) (by rw [xS hd];simp [rawInt]))
theorem FG(hh:A.handled=ae)(b:s.heap.IsTupleIter it l i)(h:s.heap.IsTuple l items)(j:items[i]?=ae)
    (g:∀ h' e,Heap.ExtBut it s.heap h'→(∃ o,h'.get? e=U o∧o.cls=.type "StopIteration")→E (.ref e) (dh s h')):aD (model prog w) A (mD (.ref it)) Q E s:=by
  refine c0 (id b) λo c a4 hd=>?_;refine c0 h λk f _ xr=>aG xr λnl d=>?_;unfold mD;refine ax (tT (name:=ek "__next__") b.typeIs xC
    (oa xC b.typeIs Vv ?_ (Vt _)))
  show aD _ _ (field (.ref it) 0 >>= _) _ _ s;refine ax (fN c hd (x:=.ref l) rfl ?_);show aD _ _ (if(kt l==hl)=af then _ else _) _ _ s;refine ac (if_neg (show ¬ ((kt l==hl)=af) from tg)) ?_;show aD _ _ (field (.ref it) 1 >>= _) _ _ s;refine ax (fN c hd (x:=.int i 0) rfl ?_);show aD _ _ (seqItems? (.ref l) >>= _) _ _ s;refine ax (i6 f d ?_);simp only [tq,j];refine ax (oe (ax (G9 c hd (al rfl) ?_)));show aD _ _ (newExc (.type "StopIteration") [] >>= _) _ _ _;refine ax ?_;simp only [newExc,newTuple];refine ax (qp ?_ (by size_fits));refine ax (m:=firstArgMember _ _) (fx (a:=hl) (by first | rfl | (simp only [firstArgMember];rfl)) ?_);refine qp ?_ (by size_fits);simp only [raiseNew];refine ax (wpAny_handled ?_)
  first | refine ac (show A.in1.handled=ae from hh) ?_ | rw [hh]
  refine ax (bg (wpAny_throw ?_));exact g _ _ (((VA ..).extBut.push _).push _) (aM _ (ez _ rfl) rfl)
theorem r8{h h':bz}(x:h.IsTupleIter a t i)(k:∀ o,h.get? a=U o→h'.get? a=U o):h'.IsTupleIter a t i:=by refine aI x λo b r=>?_;exact(aM o (k o b) r)
theorem nk{h h':bz}(x:h.IsTuple a xs)(k:∀ o,h.get? a=U o→h'.get? a=U o):h'.IsTuple a xs:=by refine aI x λo b r=>?_;exact(aM o (k o b) r)
theorem Vc{x y a b:ay}{Q:ay→aP→Prop}(D:tR z TI i c8 F l1 bY)
    (hz:h1 s.heap z TI i .none) (Y:gz s.heap TI (.ref c8) (.ref F)) (Z:gz s.heap i a b)
    (as:s.heap.IsTupleIter c8 l1 bX) (h2:s.heap.IsTupleIter F bY cw) (am:s.heap.IsTuple l1 xs) (ap:s.heap.IsTuple bY ys) (a2:xs[bX]?=U x) (bm:ys[cw]?=U y)
    (a1:∀ h',h1 h' z TI i (rawInt s.heap.objs.size)→gz h' i x y→h'.IsTupleIter c8 l1 (bX+1)→h'.IsTupleIter F bY (cw+1)→gz h' s.heap.objs.size x y→h'.objs.size=s.heap.objs.size+1→(∀ c o,c≠z→c≠i→c≠c8→c≠F→s.heap.get? c=U o→h'.get? c=U o)→Q (.ref s.heap.objs.size) (dh s h')):
    aD (model prog w) A (eQ.«zip.__next__» ⟨[.ref z],[]⟩) (λfin s'=>∃ v,fin=.done (.ret v)∧Q v s') E s:=by
  show aD _ _ (field (.ref z) 2 >>= _) _ _ _;refine ax (fN hz rfl (x:=.bool ah) rfl ?_);show aD _ _ (field (.ref z) 3 >>= _) _ _ _;refine ax (fN hz rfl (x:=.ref TI) rfl ?_);refine ax (i6 Y rfl ?_);show aD _ _ (xA (.ref z) >>= _) _ _ _;refine ax ?_;unfold xA;refine ax (fN hz rfl (x:=.none) rfl (bg ?_));simp only [if_true];refine ax (oe ?_);refine ax (fN hz rfl (x:=.ref i) rfl ?_);refine ax (og hz (by exact al rfl) λh₁ t f=>?_)
  replace t:h1 h₁ z TI i .ellipsis:=t
  refine ax ?_;simp only [Wg,Wh,mG,p9];refine ax (ax (qq ?_));show aD _ _ (mD (.ref c8) >>= _) _ _ _;refine ax (xo (as.extBut f.extBut D.i1z) (am.extBut f.extBut D.l1z) a2 λT L g=>bg ?_);obtain B:gz T i a b:=g.extBut _ _ D.TOi1 (f.extBut _ _ D.TOz Z);refine ax (i6 B rfl ?_);refine ax (Hb B λV n h=>?_)
  replace n:gz V i x b:=n
  refine ax (tV (bg ?_));refine ax (ax (qq ?_));show aD _ _ (mD (.ref F) >>= _) _ _ _;refine ax (xo (((h2.extBut f.extBut D.i2z).extBut g.extBut D.i12.symm).extBut h.extBut D.TOi2.symm)
    (((ap.extBut f.extBut D.l2z).extBut g.extBut D.l2i1).extBut h.extBut D.l2TO) bm λW N k=>bg ?_)
  obtain C:gz W i x b:=k.extBut _ _ D.TOi2 n;refine ax (i6 C rfl ?_);refine ax (Hb C λd j l=>?_)
  replace j:gz d i x y:=j
  refine ax (tV (bg (bg ?_)));refine ax (i6 j rfl ?_);refine ax (G5 ?_);obtain hsz:d.objs.size=s.heap.objs.size:=by refine ac l.1 ?_;exact ac k.1 (ac h.1 (ac g.1 (ac f.1 rfl)))
  have H:h1 d z TI i .ellipsis:=l.extBut _ _ D.TOz.symm (k.extBut _ _ D.i2z.symm (h.extBut _ _ D.TOz.symm (g.extBut _ _ D.i1z.symm t)));obtain P:∀ c o,c≠z→c≠i→c≠c8→c≠F→s.heap.get? c=U o→d.get? c=U o:=λc o dQ fe hL iD e=>l.extBut _ _ fe (k.extBut _ _ iD (h.extBut _ _ fe (g.extBut _ _ hL (f.extBut _ _ dQ e))));obtain M:d.IsTupleIter c8 l1 (bX+1):=((L.extBut h.extBut D.TOi1.symm).extBut k.extBut D.i12).extBut l.extBut D.TOi1.symm;obtain O:d.IsTupleIter F bY (cw+1):=N.extBut l.extBut D.TOi2.symm;obtain I:z<d.objs.size:=eX H;show aD _ _ (Vn (.ref z) (.ref d.objs.size) >>= _) _ _ _;refine ax ?_;unfold Vn;obtain R:h1 (d.push {cls:=.type "tuple",data:=.seq #[x,y]}) z TI i .ellipsis:=dX _ H;refine ax (og R (by exact al rfl) λX u q=>?_)
  replace u:h1 X z TI i (rawInt d.objs.size):=u
  refine og u (by exact al rfl) λp m r=>?_
  replace m:h1 p z TI i (rawInt d.objs.size):=m
  have up:∀ c o,c≠z→d.get? c=U o→p.get? c=U o:=λc o dQ e=>r.extBut _ _ dQ (q.extBut _ _ dQ (dX _ e));obtain G:gz p d.objs.size x y:=r.extBut _ _ (n2 I) (q.extBut _ _ (n2 I) (ez _ rfl));obtain S:p.objs.size=d.objs.size+1:=by refine ac r.1 ?_;refine ac q.1 ?_;rw [nX]
  rw [hsz] at m G S;refine bg (aM _ rfl ?_);show Q (.ref d.objs.size) _;exact ac hsz (a1 p m (up _ _ D.TOz j) (r8 M λo e=>up _ o D.i1z e) (r8 O λo e=>up _ o D.i2z e) G S λc o dQ fe hL iD e=>up c o dQ (P c o dQ fe hL iD e))
theorem Vb(hh:A.handled=ae)(D:tR z TI k c8 y l1 bY)
    (hz:h1 s.heap z TI k .none) (N:gz s.heap TI (.ref c8) (.ref y)) (O:gz s.heap k a b)
    (L:s.heap.IsTupleIter c8 l1 bX) (h2:s.heap.IsTupleIter y bY cw) (B:s.heap.IsTuple l1 xs) (R:s.heap.IsTuple bY ys) (C:xs[bX]?=ae∨ys[cw]?=ae)
    (M:∀ h' e,(∀ c o,c≠z→c≠k→c≠c8→c≠y→s.heap.get? c=U o→h'.get? c=U o)→(∃ o,h'.get? e=U o∧o.cls=.type "StopIteration")→E (.ref e) (dh s h')):
    aD (model prog w) A (eQ.«zip.__next__» ⟨[.ref z],[]⟩) Q E s:=by
  show aD _ _ (field (.ref z) 2 >>= _) _ _ _;refine ax (fN hz rfl (x:=.bool ah) rfl ?_);show aD _ _ (field (.ref z) 3 >>= _) _ _ _;refine ax (fN hz rfl (x:=.ref TI) rfl ?_);refine ax (i6 N rfl ?_);show aD _ _ (xA (.ref z) >>= _) _ _ _;refine ax ?_;unfold xA;refine ax (fN hz rfl (x:=.none) rfl (bg ?_));simp only [if_true];refine ax (oe ?_);refine ax (fN hz rfl (x:=.ref k) rfl ?_);refine ax (og hz (al rfl) λh₁ i d=>?_)
  replace i:h1 h₁ z TI k .ellipsis:=i
  refine ax ?_;simp only [Wg,Wh,mG,p9];refine ax (ax (qq ?_));show aD _ _ (mD (.ref c8) >>= _) _ _ _;cases F:xs[bX]? with
  | none=>
    refine ax (FG hh (L.extBut d.extBut D.i1z) (B.extBut d.extBut D.l1z) F λn e f he=>?_);refine aI he λI j m=>?_;obtain r:h1 n z TI k .ellipsis:=f _ _ D.i1z.symm i;have u:e≠z:=λx=>by subst x;rw [r] at j;obtain rfl:=aX j;simp at m
    refine og r (al rfl) λv ag g=>M v e (λc o dQ ag hL ag x=>g.extBut _ _ dQ (f _ _ hL (d.extBut _ _ dQ x))) (aM I (g.extBut _ _ u j) m)
  | some x=>
    obtain T:ys[cw]?=ae:=by refine aS C (λh=>?_) λh=>?_;rw [F] at h;exact nn h.symm;exact h
    refine ax (xo (L.extBut d.extBut D.i1z) (B.extBut d.extBut D.l1z) F λn S f=>bg ?_);obtain l:gz n k a b:=f.extBut _ _ D.TOi1 (d.extBut _ _ D.TOz O);refine ax (i6 l rfl ?_);refine ax (Hb l λv P g=>?_);refine ax (tV (bg ?_));refine ax (ax (qq ?_));show aD _ _ (mD (.ref y) >>= _) _ _ _;refine ax (FG hh (((h2.extBut d.extBut D.i2z).extBut f.extBut D.i12.symm).extBut g.extBut D.TOi2.symm)
      (((R.extBut d.extBut D.l2z).extBut f.extBut D.l2i1).extBut g.extBut D.l2TO) T λG e p he=>?_)
    refine aI he λI j m=>?_;obtain t:h1 G z TI k .ellipsis:=p _ _ D.i2z.symm (g.extBut _ _ D.TOz.symm (f.extBut _ _ D.i1z.symm i));have u:e≠z:=λx=>by subst x;rw [t] at j;obtain rfl:=aX j;simp at m
    refine og t (al rfl) λH ag q=>M H e (λc o dQ fe hL iD x=>q.extBut _ _ dQ (p _ _ iD (g.extBut _ _ fe (f.extBut _ _ hL (d.extBut _ _ dQ x))))) (aM I (q.extBut _ _ u j) m)
noncomputable abbrev pZ(h:bz)(l1:aq):bz:=h.push {cls:=.type "tuple_iterator",data:=.fields #[.ref l1,.int 0 0]}
noncomputable abbrev p0(h:bz)(l1 bY:aq):bz:=(pZ h l1).push {cls:=.type "tuple_iterator",data:=.fields #[.ref bY,.int 0 0]}
noncomputable abbrev p1(h:bz)(l1 bY:aq):bz:=(p0 h l1 bY).push {cls:=.type "tuple",data:=.seq #[.ref h.objs.size,.ref (pZ h l1).objs.size]}
noncomputable abbrev p2(h:bz)(l1 bY:aq):bz:=(p1 h l1 bY).push {cls:=.type "tuple",data:=.seq #[.none,.none]}
noncomputable abbrev jE(h:bz)(l1 bY:aq):bz:=(p2 h l1 bY).push {cls:=.type "zip",data:=.fields #[.none,.bool ah,.bool ah,.ref (p0 h l1 bY).objs.size,.ref (p1 h l1 bY).objs.size]}
theorem PR(l1 bY)(xs ys):
    Meets (eQ.«zip.__new__» ⟨[.type "zip",.ref l1,.ref bY],[]⟩) (λag R s=>s.heap.IsTuple l1 xs∧s.heap.IsTuple bY ys∧R (.ok (.ret (.ref (p2 s.heap l1 bY).objs.size))) (dh s (jE s.heap l1 bY))):=
  .of_wp λprog w A R s h=>by
    obtain⟨bt,g,d,cj,os⟩:=s;refine cR h λc e h=>?_;have f:=sub_zip
    have a:Vz (WF ⟨bt,g,d,cj,os⟩) l1 xs:=c;have b:Vz (WF ⟨bt.push {cls:=.type "tuple_iterator",data:=.fields #[.ref l1,.int 0 0]},g,d,cj,os⟩) bY ys:=Heap.IsTuple.push e _
    wp_walk using G8 a,G8 b
    exact(aM _ rfl h)
theorem JR(f:s.heap.IsTuple l1 xs)(g:s.heap.IsTuple bY ys)
    (h:∀ h',h1 h' (s.heap.objs.size+4) (s.heap.objs.size+2) (s.heap.objs.size+3) .none→gz h' (s.heap.objs.size+2) (.ref s.heap.objs.size) (.ref (s.heap.objs.size+1))→
      gz h' (s.heap.objs.size+3) .none .none→h'.IsTupleIter s.heap.objs.size l1 0→h'.IsTupleIter (s.heap.objs.size+1) bY 0→
      (∀ c o,s.heap.get? c=U o→h'.get? c=U o)→Q (.ref (s.heap.objs.size+4)) (dh s h')):
    aD (model prog w) A (call (.type "zip") [.ref l1,.ref bY]) Q E s:=by
  refine callType_new F.called_zip (by decide) (F.typeCall_zip_2 _ _) (F.newCall_zip_2 _ _) (λobj=>F.args_object_init_3 obj _ _) F.entry_zip_new
    (PR l1 bY xs ys) (bk f g ?_)
  obtain ey:(pZ s.heap l1).objs.size=s.heap.objs.size+1:=nX ..;obtain b:(p0 s.heap l1 bY).objs.size=s.heap.objs.size+2:=by rewrite [nX];exact ac ey rfl
  obtain d:(p1 s.heap l1 bY).objs.size=s.heap.objs.size+3:=by rewrite [nX];exact ac b rfl
  obtain m:(p2 s.heap l1 bY).objs.size=s.heap.objs.size+4:=by rewrite [nX];exact ac d rfl
  obtain l:∀ {c o},(p2 s.heap l1 bY).get? c=U o→(jE s.heap l1 bY).get? c=U o:=λe=>dX _ e;have k:∀ {c o},(p1 s.heap l1 bY).get? c=U o→(jE s.heap l1 bY).get? c=U o:=λe=>l (dX _ e)
  have j:∀ {c o},(p0 s.heap l1 bY).get? c=U o→(jE s.heap l1 bY).get? c=U o:=λe=>k (dX _ e);have i:∀ {c o},(pZ s.heap l1).get? c=U o→(jE s.heap l1 bY).get? c=U o:=λe=>j (dX _ e);obtain a:(jE s.heap l1 bY).get? (p2 s.heap l1 bY).objs.size=U _:=ez _ rfl;obtain cF:(jE s.heap l1 bY).get? (p1 s.heap l1 bY).objs.size=U _:=l (ez _ rfl);obtain g3:(jE s.heap l1 bY).get? (p0 s.heap l1 bY).objs.size=U _:=k (ez _ rfl);obtain g2:(jE s.heap l1 bY).get? (pZ s.heap l1).objs.size=U _:=j (ez _ rfl);obtain g1:(jE s.heap l1 bY).get? s.heap.objs.size=U _:=i (ez _ rfl);show _∧_;obtain a:=b▸a;obtain a:=d▸a;obtain a:=m▸a;obtain g3:=ey▸g3;obtain g3:=b▸g3;obtain cF:=d▸cF;obtain g2:=ey▸g2;exact ac m ⟨aM _ a rfl,h _ a g3 cF (cJ _ g1 rfl rfl) (cJ _ g2 rfl rfl) λc o x=>i (dX _ x)⟩
theorem U0(hh:A.handled=ae)(z TI p c8 r l1 bY:aq)(D:tR z TI p c8 r l1 bY)(xs ys:Array ay):
    WalksT prog w A z [z,TI,p,c8,r,l1,bY] [z,p,c8,r] (min xs.size ys.size)
      (λi vals=>∃ x y,xs[i]?=U x∧ys[i]?=U y∧vals=#[x,y])
      (λi h=>h1 h z TI p .none∧gz h TI (.ref c8) (.ref r)∧(∃ a b,gz h p a b)∧h.IsTupleIter c8 l1 i∧h.IsTupleIter r bY i∧h.IsTuple l1 xs∧h.IsTuple bY ys)
      (λi T h=>h1 h z TI p (rawInt T)∧gz h TI (.ref c8) (.ref r)∧(∃ a b,gz h p a b)∧h.IsTupleIter c8 l1 (i+1)∧h.IsTupleIter r bY (i+1)∧h.IsTuple l1 xs∧h.IsTuple bY ys∧T≠z∧T≠p∧T≠c8∧T≠r) where
  sub:=λc a4=>by simp at a4 ⊢;clear D;rcases a4 with rfl | rfl | rfl | rfl <;>simp
  frame:=λi h h' gJ f=>by refine kJ gJ λhz g d q h2 l m=>?_;clear gJ;refine gE d λa b j=>?_;clear d;exact(qJ (f z (.head _) _ hz) (f TI (.tail _ (.head _)) _ g) (jT a b (f p (.tail _ (.tail _ (.head _))) _ j)) (r8 q λo e=>f c8 (.tail _ (.tail _ (.tail _ (.head _)))) o e) (r8 h2 λo e=>f r (.tail _ (.tail _ (.tail _ (.tail _ (.head _))))) o e) (nk l λo e=>f l1 (.tail _ (.tail _ (.tail _ (.tail _ (.tail _ (.head _)))))) o e) (nk m λo e=>f bY (.tail _ (.tail _ (.tail _ (.tail _ (.tail _ (.tail _ (.head _))))))) o e))
  item:=λi s Q E au gJ t=>by
    refine kJ gJ λhz g d q h2 l m=>?_;clear gJ;refine gE d λa b j=>?_;clear d;have v:i<xs.size:=hj au (tE ..)
    have B:i<ys.size:=hj au (Nat.min_le_right ..);have bp:s.TypeIs (.ref z) "zip":=(aM _ hz rfl)
    unfold pyNext;refine ax (xW (tT (name:=ek "__next__") bp xD (oa xD bp Vw
      (Vc D hz g j q h2 l m (tb v) (tb B) λh' G H I L M P f=>bg ?_) (Vu _))))
    have lt:∀ {c o},s.heap.get? c=U o→s.heap.objs.size≠c:=λe=>n2 (eX e);exact t s.heap.objs.size #[xs[i],ys[i]] h' s.toks (dL _ _ (tb v) (tb B) rfl) (eg _) (cJ _ M rfl ⟨_,rfl⟩)
      (HR G (f _ _ D.TIz D.TITO D.TIi1 D.TIi2 g) (jT _ _ H) I L (nk l λo e=>f _ o D.l1z D.l1TO D.l1i1 D.l1i2 e) (nk m λo e=>f _ o D.l2z D.l2TO D.l2i1 D.l2i2 e) (lt hz) (lt j) (by refine aI q λ_ e _=>?_;clear q;exact lt e) (by refine aI h2 λ_ e _=>?_;clear h2;exact lt e))
      λc o a4 e=>f c o (λx=>a4 (by simp [x])) (λx=>a4 (by simp [x])) (λx=>a4 (by simp [x])) (λx=>a4 (by simp [x])) e
  go:=λelts k pos i T s Q E u t=>by refine yU u λhz g d q h2 l m _=>?_;clear u;refine gE d λa b j=>?_;clear d;refine wpAny_letOwnedTupleGo_zip hz λh' F n=>t h' (qJ F (n.extBut _ _ D.TIz g) (jT a b (n.extBut _ _ D.TOz j)) (q.extBut n.extBut D.i1z) (h2.extBut n.extBut D.i2z) (l.extBut n.extBut D.l1z) (m.extBut n.extBut D.l2z)) λc o a4 e=>n.extBut _ _ (λx=>a4 (by simp [x])) e
  apart:=λi T h u bp=>by
    refine HG u λ_ _ _ _ _ _ _ t1 t2 t3 O=>?_;clear u;simp at bp;clear D;rcases bp with rfl | rfl | rfl | rfl
    · exact t1 rfl
    · exact t2 rfl
    · exact t3 rfl
    · exact O rfl
  done:=λs Q E gJ t=>by
    refine kJ gJ λhz g d q h2 l m=>?_;clear gJ;refine gE d λa b j=>?_;clear d;have C:xs[min xs.size ys.size]?=ae∨ys[min xs.size ys.size]?=ae:=by
      refine aS (Nat.le_total xs.size ys.size) (λh=>?_) λh=>?_
      · exact .inl (by refine ac (n1 h) ?_;exact Ve (eg _))
      · exact .inr (by refine ac (Nat.min_eq_right h) ?_;exact Ve (eg _))
    have bp:s.TypeIs (.ref z) "zip":=(aM _ hz rfl)
    unfold pyNext;refine ax (xW (tT (name:=ek "__next__") bp xD
      (oa xD bp Vw (Vb hh D hz g j q h2 l m C λh' e f he=>?_) (Vu _))))
    refine aI he λo N a4=>?_;clear he;refine ax (WV (T:="StopIteration") (b:=af) (aM o N a4) isSubtype_stop ?_);exact bg (t h' s.toks λc o a4 e=>f c o (λx=>a4 (by simp [x])) (λx=>a4 (by simp [x])) (λx=>a4 (by simp [x])) (λx=>a4 (by simp [x])) e)
  self:=λi s Q E gJ t=>W3 gJ.1 t
end
section
variable{c:aU}{J:bo}{S bb:aA}{W a0:bP}{s a5:aP}
theorem Ig{n a b:Nat}(d:a<n)(ak:b<n):tR (n+4) (n+2) (n+3) n (n+1) a b:=by
  obtain h:∀ x y:Nat,(x<y∨y<x)→x≠y:=by lia
  constructor <;>exact h _ _ (by lia)
theorem Va{xs ys:List V}{i:Nat}(h:(ta xs ys)[i]?=U x):∃ a b,xs[i]?=U a∧ys[i]?=U b∧x=.ao [a,b]:=by
  induction xs generalizing ys i with
  | nil=>exact nn h
  | cons a xs d=>cases ys with
    | nil=>exact nn h
    | cons b ys=>cases i with
      | zero=>exact(dL a b rfl rfl ((aX (show U _=U x from h)).symm))
      | succ i=>exact d (i:=i) h
theorem FX:∀ {xs ys:List V},(ta xs ys).length=min xs.length ys.length|[],_=>by rfl|_ :: _,[]=>by rfl|_ :: xs,_ :: ys=>(congrArg (·+1) (FX (xs:=xs) (ys:=ys))).trans (Nat.succ_min_succ _ _).symm
noncomputable abbrev T1(c:aU)(J:bo)(bb:aA)(a0:bP)(s:aP)(a5:aP)(ws:List ay)(cZ:List V→aA→Prop)(bj:ay→aP→Prop):Prop:=aD c.M J.A (call (ec 9) ws) (λx a=>aD c.M J.A (pyIter x) (i8 c J bb a0 a5 af cZ) bj a) bj s
theorem TZ(G:J.Ok)(cd:av c J S W s)(st:aV J bb a0 a5 S W s){zs:List V}{ws:List ay}(r:ba c (ar J S W s.heap) W.ga ws zs)(h:gN 4 zs λitems=>cZ items S):T1 c J bb a0 s a5 ws cZ bj:=by
  refine(nC h) _ λx y e h=>?_;rw [e] at r;refine r.two _ λv u O a2 a1=>?_;obtain rfl:=O;refine(pw a2 h) _ λa vs xs P I ap bX=>?_;obtain rfl:=P;refine(pw a1 bX) _ λb us ys Q ak as j=>?_;obtain rfl:=Q;refine cR j λ_ _ ca=>?_;clear j;have f:=f3 (Z':=s.heap) ct I
  have g:=f3 (Z':=s.heap) ct ak;refine JR f g λh' hz n t m h2 L=>W3 (s:=(dh s h')) hz ?_;obtain g1:∃ o,h'.get? s.heap.objs.size=U o:=by refine aI m λo e _=>?_;clear m;exact⟨o,e⟩
  obtain g2:∃ o,h'.get? (s.heap.objs.size+1)=U o:=by refine aI h2 λo e _=>?_;clear h2;exact⟨o,e⟩
  have no:∀ k,s.heap.get? (s.heap.objs.size+k)=ae:=λk=>jH (eA _ _);refine cR (cd.r0 (s':=(dh s h')) (ns:=[s.heap.objs.size+4,s.heap.objs.size+3,s.heap.objs.size,s.heap.objs.size+1]) rfl rfl rfl L (λx d=>by
    simp only [b9,c4,or_false] at d;rcases d with rfl | rfl | rfl | rfl
    · exact⟨no 4,_,hz⟩
    · exact⟨no 3,_,t⟩
    · exact⟨no 0,g1⟩
    · exact⟨no 1,g2⟩) (by simp)) λhs1 t1 nw=>?_
  refine aI I λX H d2=>?_;clear I;refine aI ak λY f1 f2=>?_;clear ak;obtain bm:=t1.ar a X H;obtain bs:=t1.ar b Y f1;obtain B:=eX (ct _ _ H);obtain C:=eX (ct _ _ f1);obtain T:=nw _ _ n (no 2) (by simp);obtain R:tR (s.heap.objs.size+4) (s.heap.objs.size+2) (s.heap.objs.size+3) s.heap.objs.size (s.heap.objs.size+1) a b:=Ig B C;refine(λ_ aj=>aj _ _ S _ _ _ _ rfl ca hs1 (st.trans t1) (Src.Da (U0 (prog:=c.prog) (w:=c.w) G.handled _ _ _ _ _ _ _ R vs.toArray us.toArray) (by simp [FX,ap.length,as.length]) (λi vals x p d=>?_) (λi h q x d=>?_)) (λx d=>?_) (λx d=>?_) (qJ hz n (jT _ _ t) m h2 (nk f λo e=>L _ o e) (nk g λo e=>L _ o e)))
  · refine dn p λx1 y1 ce cl l=>?_;clear p;obtain rfl:=l;refine dn (Va d) λds d1 M N l=>?_;obtain rfl:=l;refine aI ((ap.step t1).get M) λv1 z co=>aI ((as.step t1).get N) λv2 A cs=>?_;obtain Z:vs[i]?=U x1:=by simpa using ce
    obtain am:us[i]?=U y1:=by simpa using cl
    rw [Z] at z;obtain rfl:=aX z;rw [am] at A;obtain rfl:=aX A;exact(aM _ rfl (.cons co (.cons cs .nil)))
  · refine mX q λM _ D E F _=>?_;clear q;refine gE D λ_ _ N=>?_;clear D;refine aI E λem cm _=>?_;clear E;refine aI F λep cn _=>?_;clear F;simp only [b9,c4,or_false] at d;rcases d with rfl | rfl | rfl | rfl
    · exact⟨_,M⟩
    · exact⟨_,N⟩
    · exact⟨_,cm⟩
    · exact⟨_,cn⟩
  · simp only [b9,c4,or_false] at d;rcases d with rfl | rfl | rfl | rfl
    · exact⟨by exact .head _,jm st (no 4)⟩
    · exact⟨by exact .tail _ (.head _),jm st (no 3)⟩
    · exact⟨by exact .tail _ (.tail _ (.head _)),jm st (no 0)⟩
    · exact⟨by exact .tail _ (.tail _ (.tail _ (.head _))),jm st (no 1)⟩
  · simp only [b9,c4,or_false] at d;clear g f h2 m R C B f1 H a1 a2 r;rcases d with rfl | rfl | rfl | rfl | rfl | rfl | rfl
    · exact .inl (by exact .head _)
    · exact .inr ⟨_,T⟩
    · exact .inl (by exact .tail _ (.head _))
    · exact .inl (by exact .tail _ (.tail _ (.head _)))
    · exact .inl (by exact .tail _ (.tail _ (.tail _ (.head _))))
    · exact .inr ⟨X,bm⟩
    · exact .inr ⟨Y,bs⟩
end
section
set_option genCtorIdx false
set_option backward.match.sparseCases false
set_option genSizeOf false
set_option genInjectivity false
structure dJ where
  aa:bJ
  nm:List Str
  bZ:Bool
  rG:bJ
  cn:List Str
structure en where
  ls:Nat→Str
  nl:Nat
  gH:Nat→Str
  r7:Nat→Bool
noncomputable def dJ.gn(t:dJ):bJ:=if t.bZ then t.rG else t.aa
noncomputable def kQ:Str:="__debug__"
theorem eD{E α:Type}{s:E}{n:Nat}{a:E→Nat}{f:a s=n→Option α}{P:Prop}{x:α}(h:(if h:a s=n then f h else ae)=U x)(k:∀ q,f q=U x→P):P:=by
  by_cases q:a s=n
  · rw [dif_pos q] at h;exact k q h
  · rw [dif_neg q] at h;exact nn h
noncomputable def zy(e:aH)(h:e.ctorIdx=23):{p:Str×Pos // e=.Name p.1 p.2}:=Expr.Name.elim (motive_1:=λe=>{p:Str×Pos // e=.Name p.1 p.2}) e h λa b=>⟨(a,b),rfl⟩
noncomputable def asName(e:aH):Option Str:=if h:e.ctorIdx=23 then U (zy e h).1.1 else ae
noncomputable def zn(e:aH)(h:e.ctorIdx=19):{p:i0×Nat×Pos // e=.Constant p.1 p.2.1 p.2.2}:=XU (motive_1:=λe=>{p:i0×Nat×Pos // e=.Constant p.1 p.2.1 p.2.2}) e h λa b c=>⟨(a,b,c),rfl⟩
noncomputable def zm(e:aH):Option i0:=if h:e.ctorIdx=19 then U (zn e h).1.1 else ae
noncomputable def u9(e:aH)(h:e.ctorIdx=3):{p:tN×aH×Pos // e=.UnaryOp p.1 p.2.1 p.2.2}:=Expr.UnaryOp.elim (motive_1:=λe=>{p:tN×aH×Pos // e=.UnaryOp p.1 p.2.1 p.2.2}) e h λa b c=>⟨(a,b,c),rfl⟩
noncomputable def q6(e:aH):Option (tN×aH):=if h:e.ctorIdx=3 then U ((u9 e h).1.1,(u9 e h).1.2.1) else ae
noncomputable def qU(e:aH)(h:e.ctorIdx=2):{p:aH×n3×aH×Pos // e=.BinOp p.1 p.2.1 p.2.2.1 p.2.2.2}:=Expr.BinOp.elim (motive_1:=λe=>{p:aH×n3×aH×Pos // e=.BinOp p.1 p.2.1 p.2.2.1 p.2.2.2}) e h λa b c d=>⟨(a,b,c,d),rfl⟩
noncomputable def zg(e:aH):Option (n3×aH×aH):=if h:e.ctorIdx=2 then U ((qU e h).1.2.1,(qU e h).1.1,(qU e h).1.2.2.1) else ae
noncomputable def qW(e:aH)(h:e.ctorIdx=15):{p:aH×(List p5)×(List aH)×Pos // e=.Compare p.1 p.2.1 p.2.2.1 p.2.2.2}:=Expr.Compare.elim (motive_1:=λe=>{p:aH×(List p5)×(List aH)×Pos // e=.Compare p.1 p.2.1 p.2.2.1 p.2.2.2}) e h λa b c d=>⟨(a,b,c,d),rfl⟩
noncomputable def zj(e:aH):Option (aH×List p5×List aH):=if h:e.ctorIdx=15 then U ((qW e h).1.1,(qW e h).1.2.1,(qW e h).1.2.2.1) else ae
noncomputable def uY(e:aH)(h:e.ctorIdx=0):{p:k9×(List aH)×Pos // e=.BoolOp p.1 p.2.1 p.2.2}:=Expr.BoolOp.elim (motive_1:=λe=>{p:k9×(List aH)×Pos // e=.BoolOp p.1 p.2.1 p.2.2}) e h λa b c=>⟨(a,b,c),rfl⟩
noncomputable def zh(e:aH):Option (k9×List aH):=if h:e.ctorIdx=0 then U ((uY e h).1.1,(uY e h).1.2.1) else ae
noncomputable def qZ(e:aH)(h:e.ctorIdx=5):{p:aH×aH×aH×Pos // e=.IfExp p.1 p.2.1 p.2.2.1 p.2.2.2}:=Expr.IfExp.elim (motive_1:=λe=>{p:aH×aH×aH×Pos // e=.IfExp p.1 p.2.1 p.2.2.1 p.2.2.2}) e h λa b c d=>⟨(a,b,c,d),rfl⟩
noncomputable def zt(e:aH):Option (aH×aH×aH):=if h:e.ctorIdx=5 then U ((qZ e h).1.1,(qZ e h).1.2.1,(qZ e h).1.2.2.1) else ae
noncomputable def zD(e:aH)(h:e.ctorIdx=25):{p:(List aH)×Nat×Pos // e=.Tuple p.1 p.2.1 p.2.2}:=Expr.Tuple.elim (motive_1:=λe=>{p:(List aH)×Nat×Pos // e=.Tuple p.1 p.2.1 p.2.2}) e h λa b c=>⟨(a,b,c),rfl⟩
noncomputable def kM(e:aH):Option (List aH):=if h:e.ctorIdx=25 then U (zD e h).1.1 else ae
noncomputable def zx(e:aH)(h:e.ctorIdx=24):{p:(List aH)×Pos // e=.List p.1 p.2}:=Expr.List.elim (motive_1:=λe=>{p:(List aH)×Pos // e=.List p.1 p.2}) e h λa b=>⟨(a,b),rfl⟩
noncomputable def q2(e:aH):Option (List aH):=if h:e.ctorIdx=24 then U (zx e h).1.1 else ae
noncomputable def u0(e:aH)(h:e.ctorIdx=6):{p:(List (Option aH))×(List aH)×Pos // e=.Dict p.1 p.2.1 p.2.2}:=Expr.Dict.elim (motive_1:=λe=>{p:(List (Option aH))×(List aH)×Pos // e=.Dict p.1 p.2.1 p.2.2}) e h λa b c=>⟨(a,b,c),rfl⟩
noncomputable def m1(e:aH):Option (List (Option aH)×List aH):=if h:e.ctorIdx=6 then U ((u0 e h).1.1,(u0 e h).1.2.1) else ae
noncomputable def oD(e:aH)(h:e.ctorIdx=16):{p:aH×(List aH)×(List tu)×Pos // e=.Call p.1 p.2.1 p.2.2.1 p.2.2.2}:=Expr.Call.elim (motive_1:=λe=>{p:aH×(List aH)×(List tu)×Pos // e=.Call p.1 p.2.1 p.2.2.1 p.2.2.2}) e h λa b c d=>⟨(a,b,c,d),rfl⟩
noncomputable def kL(e:aH):Option (aH×List aH×List tu×Pos):=if h:e.ctorIdx=16 then U ((oD e h).1.1,(oD e h).1.2.1,(oD e h).1.2.2.1,(oD e h).1.2.2.2) else ae
noncomputable def qT(e:aH)(h:e.ctorIdx=20):{p:aH×Str×Pos // e=.Attribute p.1 p.2.1 p.2.2}:=XT (motive_1:=λe=>{p:aH×Str×Pos // e=.Attribute p.1 p.2.1 p.2.2}) e h λa b c=>⟨(a,b,c),rfl⟩
noncomputable def lN(e:aH):Option (aH×Str×Pos):=if h:e.ctorIdx=20 then U ((qT e h).1.1,(qT e h).1.2.1,(qT e h).1.2.2) else ae
noncomputable def u7(e:aH)(h:e.ctorIdx=21):{p:aH×aH×Pos // e=.Subscript p.1 p.2.1 p.2.2}:=XW (motive_1:=λe=>{p:aH×aH×Pos // e=.Subscript p.1 p.2.1 p.2.2}) e h λa b c=>⟨(a,b,c),rfl⟩
noncomputable def m3(e:aH):Option (aH×aH):=if h:e.ctorIdx=21 then U ((u7 e h).1.1,(u7 e h).1.2.1) else ae
noncomputable def q4(e:aH)(h:e.ctorIdx=26):{p:(Option aH)×(Option aH)×(Option aH)×Pos // e=.Slice p.1 p.2.1 p.2.2.1 p.2.2.2}:=Expr.Slice.elim (motive_1:=λe=>{p:(Option aH)×(Option aH)×(Option aH)×Pos // e=.Slice p.1 p.2.1 p.2.2.1 p.2.2.2}) e h λa b c d=>⟨(a,b,c,d),rfl⟩
noncomputable def u6(e:aH):Option (Option aH×Option aH×Option aH):=if h:e.ctorIdx=26 then U ((q4 e h).1.1,(q4 e h).1.2.1,(q4 e h).1.2.2.1) else ae
noncomputable def qX(e:aH)(h:e.ctorIdx=8):{p:aH×(List tl)×bJ×Pos // e=.ListComp p.1 p.2.1 p.2.2.1 p.2.2.2}:=XV (motive_1:=λe=>{p:aH×(List tl)×bJ×Pos // e=.ListComp p.1 p.2.1 p.2.2.1 p.2.2.2}) e h λa b c d=>⟨(a,b,c,d),rfl⟩
noncomputable def uZ(e:aH):Option (aH×List tl×bJ):=if h:e.ctorIdx=8 then U ((qX e h).1.1,(qX e h).1.2.1,(qX e h).1.2.2.1) else ae
theorem fp{e:aH}{x:Str}(h:asName e=U x):∃ p,e=.Name x p:=eD h λq h=>by obtain rfl:=aX h;exact⟨_,(zy e q).2⟩
theorem Io{e:aH}{x:i0}(h:zm e=U x):∃ k p,e=.Constant x k p:=eD h λq h=>by obtain rfl:=aX h;exact(jT _ _ ((zn e q).2))
theorem q7{e:aH}{q:tN×aH}(h:q6 e=U q):∃ p,e=.UnaryOp q.1 q.2 p:=eD h λq h=>by obtain rfl:=aX h;exact⟨_,(u9 e q).2⟩
theorem Il{e:aH}{q:n3×aH×aH}(h:zg e=U q):∃ p,e=.BinOp q.2.1 q.1 q.2.2 p:=eD h λq h=>by obtain rfl:=aX h;exact⟨_,(qU e q).2⟩
theorem zk{e:aH}{q:aH×List p5×List aH}(h:zj e=U q):∃ p,e=.Compare q.1 q.2.1 q.2.2 p:=eD h λq h=>by obtain rfl:=aX h;exact⟨_,(qW e q).2⟩
theorem zi{e:aH}{q:k9×List aH}(h:zh e=U q):∃ p,e=.BoolOp q.1 q.2 p:=eD h λq h=>by obtain rfl:=aX h;exact⟨_,(uY e q).2⟩
theorem zv{e:aH}{q:aH×aH×aH}(h:zt e=U q):∃ p,e=.IfExp q.1 q.2.1 q.2.2 p:=eD h λq h=>by obtain rfl:=aX h;exact⟨_,(qZ e q).2⟩
theorem lO{e:aH}{q:List aH}(h:kM e=U q):∃ k p,e=.Tuple q k p:=eD h λq h=>by obtain rfl:=aX h;exact(jT _ _ ((zD e q).2))
theorem u1{e:aH}{q:List aH}(h:q2 e=U q):∃ p,e=.List q p:=eD h λq h=>by obtain rfl:=aX h;exact⟨_,(zx e q).2⟩
theorem oE{e:aH}{q:List (Option aH)×List aH}(h:m1 e=U q):∃ p,e=.Dict q.1 q.2 p:=eD h λq h=>by obtain rfl:=aX h;exact⟨_,(u0 e q).2⟩
theorem mZ{e:aH}{q:aH×List aH×List tu×Pos}(h:kL e=U q):e=.Call q.1 q.2.1 q.2.2.1 q.2.2.2:=eD h λq h=>by obtain rfl:=aX h;exact(oD e q).2
theorem oA{e:aH}{q:aH×Str×Pos}(h:lN e=U q):e=.Attribute q.1 q.2.1 q.2.2:=eD h λq h=>by obtain rfl:=aX h;exact(qT e q).2
theorem oK{e:aH}{q:aH×aH}(h:m3 e=U q):∃ p,e=.Subscript q.1 q.2 p:=eD h λq h=>by obtain rfl:=aX h;exact⟨_,(u7 e q).2⟩
theorem zB{e:aH}{q:Option aH×Option aH×Option aH}(h:u6 e=U q):∃ p,e=.Slice q.1 q.2.1 q.2.2 p:=eD h λq h=>by obtain rfl:=aX h;exact⟨_,(q4 e q).2⟩
theorem zl{e:aH}{q:aH×List tl×bJ}(h:uZ e=U q):∃ p,e=.ListComp q.1 q.2.1 q.2.2 p:=eD h λq h=>by obtain rfl:=aX h;exact⟨_,(qX e q).2⟩
noncomputable def cInt:i0→Option Int|.int i=>U i|_=>ae
noncomputable def cStr:i0→Option Str|.str i=>U i|_=>ae
noncomputable def cBool:i0→Option Bool|.bool i=>U i|_=>ae
noncomputable def AG:i0→Option (List UInt8)|.bytes i=>U i|_=>ae
noncomputable def AH:i0→Option Unit|.none=>U ()|_=>ae
theorem vl(h:cInt k=U i):k=.int i:=by cases k <;>first | exact congrArg Const.int (aX h) | exact nn h
theorem vm(h:cStr k=U i):k=.str i:=by cases k <;>first | exact congrArg Const.str (aX h) | exact nn h
theorem Jb(h:cBool k=U i):k=.bool i:=by cases k <;>first | exact congrArg Const.bool (aX h) | exact nn h
theorem Jc(h:AG k=U i):k=.bytes i:=by cases k <;>first | exact congrArg Const.bytes (aX h) | exact nn h
theorem Jd(h:AH k=U i):k=.none:=by cases k <;>first | rfl | exact nn h
noncomputable def jj{α:Type}(f:i0→Option α)(e:aH):Option α:=(zm e).bind f
noncomputable def Im(α:Type)(f:i0→Option α)(e:aH)(a:α):Prop:=∀ b:Prop,(∀ (k c9 p),e=.Constant k c9 p→f k=U a→b)→b
theorem jX{α:Type}{f:i0→Option α}{e:aH}{a:α}(h:jj f e=U a):Im α f e a:=by refine(df h) _ λk b c=>?_;exact gE (Io b) λc9 p d=>(λ_ aj=>aj k c9 p d c)
noncomputable def hB{α:Type}:List α→Option α|[x]=>U x|_=>ae
theorem hC{α:Type}{l:List α}{x:α}(h:hB l=U x):l=[x]:=by
  cases l with
  | nil=>exact nn h
  | cons y r=>cases r with
    | nil=>exact congrArg (λz=>[z]) (aX h)
    | cons _ _=>exact nn h
noncomputable def Ia(α:Type)(o:Option α)(P:α→Bool):Prop:=∀ b:Prop,(∀ (a),o=U a→P a=af→b)→b
theorem bD{α:Type}{o:Option α}{P:α→Bool}(h:o.any P=af):Ia α o P:=by cases o with|none=>exact cb h|some a=>exact(λ_ aj=>aj a rfl h)
noncomputable def lW(t:dJ)(k:Nat)(x:Str):Bool:=t.nm[k]?==U x&&((x==kQ)==ah&&(!t.bZ || (t.rG.names.lookup x==U .cell&&t.aa.names.lookup x==U .cell)))
noncomputable def jZ(t:dJ)(k:Nat)(x:Str):Bool:=t.nm[k]?==U x&&(t.aa.names.lookup x==U .local || t.aa.names.lookup x==U .cell)
noncomputable def kN(g:en)(n:Nat)(x:Str):Bool:=decide (n<g.nl)&&x==g.ls n
noncomputable def lU(t:dJ)(x:Str):Bool:=(x==kQ)==ah&&t.gn.names.lookup x==U .globalImplicit
noncomputable def notAttr(e:aH):Bool:=(lN e).isNone
noncomputable def wH(e:aH):Bool:=(((kL e).map (·.1)).bind asName).all λid=>id != ("super":Str)
noncomputable def wG:aH→Bool|.Set ..=>ah|_=>af
noncomputable def O9(o:Option aH):Option Str:=o.bind (jj cStr)
noncomputable def oT(g:en):List Nat→List (Option aH)→Bool
  | [],ks=>ks.isEmpty
  | n :: ns,ks=>(match ks with
    | []=>ah
    | k :: ks=>(O9 k).any (kN g n)&&oT g ns ks)
noncomputable def pE(scope aa:bJ):bJ:={scope with names:=scope.names.map λ(n,k)=>if(k==.free&&aa.kind==.function&&aa.names.lookup n==U .cell) then(n,.cell) else(n,k)}
noncomputable def mh:List Str→Bool|[]=>af|x :: r=>!(r.contains x)&&mh r
noncomputable def Ti(scope aa:bJ):Bool:=scope.kind==.function&&(mh (scope.names.map (·.1))&&scope.names.all λp=>p.2 != .cell&&(p.2 != .free || aa.names.lookup p.1==U .cell))
noncomputable def xk:List aH→Option (List Str)|[]=>U []|e :: r=>(asName e).bind λx=>(xk r).map (x :: ·)
noncomputable def rD(n:Option Nat)(e:aH):Option (List Str):=match n with|none=>(asName e).map λx=>[x]|some n=>(kM e).bind λes=>if es.length==n then xk es else ae
noncomputable def oV(t:dJ)(scope:bJ)(cn:List Str):dJ:=⟨t.aa,t.nm,af,pE scope t.aa,cn⟩
noncomputable def rE(t:dJ)(bO:Option Nat)(target iter:aH)(scope:bJ):Bool:=!t.bZ&&(wG iter&&(Ti scope t.aa&&(rD bO target).any λcn=>mh cn&&cn.all λx=>scope.names.lookup x==U .local))
noncomputable def pK:Nat→Option Str|1=>U "range" | 2=>U "range" | 3=>U "enumerate" | 4=>U "zip" | 5=>U "reversed"|_=>ae
noncomputable def sT:Nat→Nat|1=>5 | 2=>5 | 3=>8 | 4=>9 | _=>10
noncomputable def sS(t:dJ)(kind:Nat)(iter:aH):Option (List aH):=match kind with|0=>if noStar iter then U [iter] else ae|k+1=>(kL iter).bind λq=>if q.2.2.1.isEmpty&&(asName q.1).any (λf=>pK (k+1)==U f&&lU t f)&&q.2.1.all noStar then U q.2.1 else ae
noncomputable def ic:bh→Nat|.bi ..=>1|.not _=>2|.eC ..=>3|.bn ..=>4|_=>0
noncomputable def iH:aH→Nat|.Compare ..=>1|.UnaryOp op _ _=>if op==.Not then 2 else 0|.BoolOp ..=>3|.IfExp ..=>4|_=>0
noncomputable def vO:List bh→List aH→Bool|i :: is,e :: es=>ic i==iH e&&vO is es|_,_=>af
mutual
noncomputable def dq(g:en)(t:dJ)(j:bh)(e:aH):Bool:=match j with
  | .var k=>(asName e).any λx=>lW t k x
  | .cvar k=>(asName e).any λx=>t.bZ&&(t.cn[k]?==U x&&((x==kQ)==ah&&t.rG.names.lookup x==U .local))
  | .aO n=>(asName e).any λx=>g.gH n==x&&lU t x
  | .d5=>(jj AH e).isSome
  | .f6 b=>jj cBool e==U b
  | .b5 i=>jj cInt e==U i
  | .bC n=>(jj cStr e).any (kN g n)
  | .gK b=>jj AG e==U b
  | .neg a=>(q6 e).any λq=>q.1==.USub&&dq g t a q.2
  | .not a=>(q6 e).any λq=>q.1==.Not&&(ic a==iH q.2&&dq g t a q.2)
  | .a7 op a b=>(zg e).any λq=>q.1==op&&(dq g t a q.2.1&&dq g t b q.2.2)
  | .bi op a b=>(zj e).any λq=>q.2.1==[op]&&(hB q.2.2).any λr=>behindInMarks op r==ah&&(dq g t a q.1&&dq g t b r)
  | .eC op es=>(zh e).any λq=>q.1==op&&(vO es q.2&&e7 g t es q.2)
  | .bn c a b=>(zt e).any λq=>ic c==iH q.1&&(ic a==iH q.2.1&&(ic b==iH q.2.2&&(dq g t c q.1&&(dq g t a q.2.1&&dq g t b q.2.2))))
  | .ao es=>(kM e).any λvs=>vs.all noStar&&e7 g t es vs
  | .lst es=>(q2 e).any λvs=>vs.all noStar&&e7 g t es vs
  | .eT ks es=>(m1 e).any λq=>oT g ks q.1&&(dup ks==ah&&(decide (ks.length≤15)&&(q.1.length==q.2.length&&e7 g t es q.2)))
  | .rX=>(m1 e).any λq=>q.1.isEmpty&&q.2.isEmpty
  | .rY i a=>(m1 e).any λq=>(hB q.1).any λk=>(k.bind (jj cInt))==U i&&(hB q.2).any λv=>dq g t a v
  | .r1=>(m1 e).any λq=>q.1.isEmpty&&q.2.isEmpty
  | .l6 es=>(q2 e).any λvs=>vs.all noStar&&e7 g t es vs
  | .call f as=>(kL e).any λq=>q.2.2.1.isEmpty&&(notAttr q.1&&(q.2.1.all noStar&&(dq g t f q.1&&e7 g t as q.2.1)))
  | .bE o n as=>(kL e).any λq=>q.2.2.1.isEmpty&&(lN q.1).any λa=>kN g n a.2.1&&(wH a.1&&(q.2.1.all noStar&&(decide (q.2.1.length<30)&&(a.2.2.endLine==q.2.2.2.line&&(dq g t o a.1&&e7 g t as q.2.1)))))
  | .k7 k n as=>(kL e).any λq=>q.2.2.1.isEmpty&&(lN q.1).any λa=>(asName a.1).any λx=>!t.bZ&&(lW t k x&&(kN g n a.2.1&&(q.2.1.all noStar&&(decide (q.2.1.length<30)&&(a.2.2.endLine==q.2.2.2.line&&e7 g t as q.2.1)))))
  | .pV k=>(kL e).any λq=>q.2.2.1.isEmpty&&((asName q.1).any λf=>lU t f&&f==("len":Str))&&((hB q.2.1).bind asName).any λx=>lW t k x
  | .bS o n=>(lN e).any λq=>kN g n q.2.1&&(wH q.1&&dq g t o q.1)
  | .bq o i=>(m3 e).any λq=>nB q.2&&(dq g t o q.1&&dq g t i q.2)
  | .hW o lo au=>(m3 e).any λq=>(u6 q.2).any λr=>r.2.2.isNone&&(dq g t o q.1&&(oW g t lo r.1&&oW g t au r.2.1))
  | .rev o=>(m3 e).any λq=>(u6 q.2).any λr=>r.1.isNone&&(r.2.1.isNone&&((r.2.2.bind q6).any λu=>u.1==.USub&&jj cInt u.2==U 1)&&dq g t o q.1)
  | .comp elt bO kind dd cond=>(uZ e).any λq=>(hB q.2.1).any λc=>c.is_async==0&&(rE t bO c.target c.iter q.2.2&&((!(kind==3 || kind==4) || bO.isSome)&&(sS t kind c.iter).any λargs=>(rD bO c.target).any λcn=>
      e7 g t dd args&&(dq g (oV t q.2.2 cn) elt q.1&&(if c.ifs.isEmpty then cond.isNone else(hB c.ifs).any λh=>cond.any (λi=>ic i==iH h)&&oW g (oV t q.2.2 cn) cond (U h)))))
  | .rU a=>dq g t a e
  | .flat dd=>(uZ e).any λq=>(asName q.1).any λy=>(hB (q.2.1.take 1)).any λc=>(asName c.target).any λz=>(hB (q.2.1.drop 1)).any λd=>
      c.is_async==0&&(d.is_async==0&&(c.ifs.isEmpty&&(d.ifs.isEmpty&&(asName d.target==U y&&(asName d.iter==U z&&((y==kQ)==ah&&((z==kQ)==ah&&(rE t (U 2) (.Tuple [c.target,d.target] 0 c.iter.pos) c.iter q.2.2&&dq g t dd c.iter))))))))
noncomputable def e7(g:en)(t:dJ)(is:List bh)(es:List aH):Bool:=match is with|[]=>es.isEmpty|i :: is=>(es.head?).any (λe=>dq g t i e)&&e7 g t is es.tail
noncomputable def oW(g:en)(t:dJ)(i:Option bh)(e:Option aH):Bool:=match i with|none=>e.isNone|some i=>e.any λe=>dq g t i e
end
structure eo(J:bo)(t:dJ):Prop where
  ok:J.Ok
  nm:J.nm=t.nm
  cn:t.bZ=af→J.cn=t.cn
  bZ:J.bZ=t.bZ
  l4:J.a8.scope=t.aa
  gn:J.env.scope=t.gn
  ru:∀ x,t.aa.names.lookup x=U .cell→(J.a8.cells.lookup x).isSome=af
  AL:t.bZ=af→∀ x,t.rG.names.lookup x=U .cell→J.env.cells.lookup x=J.a8.cells.lookup x
structure cN(c:aU)(ai:cp)(an:dy)(g:en)(A:c6):Prop where
  aW:c.Ok
  T:h5 c ai an
  ls:g.ls=c.ls
  nl:g.nl=c.nl
  gH:g.gH=ai.gH
  src:∀ k f,pK k=U f→hH c f (ec (sT k))
  len:hH c ("len":Str) (ec 12)
  calls:∀ J:bo,J.Ok→J.A=A→mR c ai J
  depth:A.depth+2<recursionLimit
  m9:∀ n,g.r7 n=af→∃ C,ai.ju n=U (.a6 C)∧(∃ dD,jM c C dD)∧qt c C
  kV:∀ C D,ai.hu C D=af→ai.fC C=af∧ai.fC D=af
  exc:∀ C xs x,ai.exc C xs=U x→xs.length≤10∧ExcAt c C xs x
section
variable{c:aU}{J:bo}{ai:cp}{an:dy}{g:en}{t:dJ}{A:c6}
theorem lV(N:cN c ai an g A)(h:kN g n x=af):n<c.nl∧x=c.ls n:=by exact cq h λa b=>⟨N.nl▸of_decide_eq_true a,N.ls▸eqB b⟩
theorem rB(M:eo J t)(h:lW t k x=af):J.nm[k]?=U x∧kI J x:=by
  refine eS h λf h2 e=>⟨M.nm▸eqB f,eqB h2,λau=>?_⟩;have a:t.bZ=af:=M.bZ▸au
  obtain e:=a▸e;refine cq e λb d=>?_;obtain b:=eqB b;obtain d:=eqB d
  · refine(bk ?_ (M.AL a x b) ?_)
    · show J.env.scope.names.lookup x=_;refine ac M.gn ?_;unfold dJ.gn;exact ac a b
    · show J.a8.scope.names.lookup x=_;exact ac M.l4 d
theorem rz(M:eo J t)(h:jZ t k x=af):kF J k x:=by
  refine cq h λa h2=>⟨M.nm▸eqB a,((nV _ _).mp h2).imp (λq=>?_) λq=>⟨?_,M.ru x (eqB q)⟩⟩
  · show J.a8.scope.names.lookup x=_;exact ac M.l4 (eqB q)
  · show J.a8.scope.names.lookup x=_;exact ac M.l4 (eqB q)
theorem rx(M:eo J t)(h:lU t x=af):(x==("__debug__":Str))=ah∧J.env.kindOf x=U .globalImplicit:=by refine cq h λa h2=>⟨eqB a,?_⟩;show J.env.scope.names.lookup x=_;exact ac M.gn (eqB h2)
theorem wE:∀ {l:List Str},mh l=af→l.Nodup:=by
  intro l
  induction l with
  | nil=>
    intro _;exact .nil
  | cons x r b=>
    intro h;refine cq h λa h2=>e5.mpr ⟨λm=>?_,b h2⟩;obtain a:=(tv.mpr m)▸a;exact cb a
theorem C5(h:wG iter=af):∀ x,foldedSetIterable iter env x=pure x:=λx=>by cases iter <;>first | rfl | exact cb h
theorem zK(h:wH o=af):attributeBase o bS env (eval o env)=eval o env:=q9 λid p a e=>by subst e;exact h
theorem ry:∀ {ks:List Nat} {keys:List (Option aH)},oT g ks keys=af→keys.all (·.isSome)=af∧ks.length=keys.length|[],keys,h=>by rw [eH.mp h];exact⟨rfl,rfl⟩|_ :: _,[],h=>cb h|n :: ns,k :: ks,h=>by refine cq h λf h2=>(bD f) _ λx e _=>?_;refine(df e) _ λy d _=>?_;refine aC (ry h2) λa b=>?_;rw [d];exact⟨a,congrArg (·+1) b⟩
end
end
theorem J1:∀ (names:List (Str×i3)) cs,(∀ p∈names,p.2=.free→(env.cells.lookup p.1).isSome=af)→(names.map (·.1)).Nodup→∃ cl,(forIn names cs λx cs=>(match x with | (name,kind)=>if(kind==xM)=af then do let a ← cellOf env name;pure (lb ((name,a) :: cs)) else pure (lb cs):Sem (ForInStep (List (Str×aq)))))=pure cl∧(∀ x,(x,xM)∈names→cl.lookup x=env.cells.lookup x)∧∀ x,x∉names.map (·.1)→cl.lookup x=cs.lookup x:=by
  intro names
  induction names with
  | nil=>
    intro cs _ _;exact(cJ cs (by rfl) (λx h=>(by cases h)) λx ag=>rfl)
  | cons x0 r f=>
    obtain⟨n,k⟩:=x0;intro cs h bT;rw [fa,e5] at bT;by_cases q:k=.free
    · subst q;refine aG (kr.mp (h _ (.head _) rfl)) λa d=>c0 (f ((n,a) :: cs) (λp m=>h p (.tail _ m)) bT.2) λcl c h2 b=>(cJ cl ?_ (λx m=>?_) λx m=>?_)
      · rw [mG];obtain e:cellOf env n=pure a:=by unfold cellOf;exact ac (show env.cells.lookup n=U a from d) rfl
        simp only [e];exact c
      · refine aS (b9.mp m) (λe=>?_) λm=>?_
        · (try clear m);(try clear h);(try clear q);cases e;refine ac (b n bT.1) (ac mI ?_);simpa using d.symm
        · exact h2 x m
      · simp only [fa,b9,not_or] at m;exact ac (b x m.2) (ac mI (ac (beq_eq_false_iff_ne.mpr m.1) rfl))
    · refine c0 (f cs (λp m=>h p (.tail _ m)) bT.2) λcl c h2 b=>(cJ cl ?_ (λx m=>?_) λx m=>?_)
      · rw [mG];obtain e:(k==xM)=ah:=by(try clear m);(try clear bT);(try clear h);cases k <;>first | rfl | exact absurd rfl q
        simp only [e];exact c
      · refine aS (b9.mp m) (λe=>?_) λm=>?_
        · (try clear m);(try clear bT);(try clear h);cases e;exact absurd rfl q
        · exact h2 x m
      · simp only [fa,b9,not_or] at m;exact b x m.2
theorem J2{env:Env}{scope:bJ}(h:∀ p∈scope.names,p.2=.free→(env.cells.lookup p.1).isSome=af)(bT:(scope.names.map (·.1)).Nodup):
    ∃ cl,closureFor scope env=pure cl∧∀ x,(x,xM)∈scope.names→cl.lookup x=env.cells.lookup x:=by
  refine c0 (J1 scope.names [] h bT) λcl a h2 _=>(aM cl ?_ h2);unfold closureFor;show(forIn scope.names [] _ >>= λcs=>pure cs)=_;have:∀ (m:Sem (List (Str×aq))),m=pure cl→(m >>= λcs=>pure cs)=pure cl:=λm e=>by refine ac e ?_;rfl
  exact this _ a
theorem PH{names:List (Str×i3)}{f:Str→i3→i3}:(names.map λp=>(p.1,f p.1 p.2)).lookup x=(names.lookup x).map (f x):=by
  induction names with
  | nil=>rfl
  | cons p r a=>
    refine ac fa (ac mI (ac mI ?_));cases q:x==p.1 with|true=>refine ac (beq_iff_eq.mp q) ?_;rfl|false=>exact a
noncomputable def pD(aa:bJ)(n:Str)(k:i3):i3:=if(k==.free&&aa.kind==.function&&aa.names.lookup n==U .cell) then .cell else k
theorem R8(scope aa):(pE scope aa).names=scope.names.map λp=>(p.1,pD aa p.1 p.2):=by show scope.names.map _=_;refine V2 λp ag=>?_;obtain⟨n,k⟩:=p;show(if _ then _ else _)=(n,pD aa n k);unfold pD;split <;>rfl
theorem EP(scope aa)(x):(pE scope aa).names.lookup x=(scope.names.lookup x).map (pD aa x):=by rewrite [R8];exact ac PH rfl
section
variable{c:aU}{J:bo}{ai:cp}{an:dy}{g:en}{t:dJ}{A:c6}
theorem UF:∀ {es:List aH} {pre ns:List Str},xk es=U ns→cl.cn=pre++ns→(∀ x∈ns,cl.env.kindOf x=U .local)→hn cl pre.length es:=by
  intro es
  induction es with
  | nil=>
    intro pre ns h e _;exact .nil (by refine ac e ?_;refine bG (aX h) ?_;rw [fL])
  | cons ex r f=>
    intro pre ns h e k;refine(df h) _ λx a h=>?_;refine(eV h) _ λi h' d=>?_;refine aG (fp a) λp b=>?_;obtain rfl:=b;(try clear a);(try clear h);(try clear h);(try clear a);subst d;refine .cons (x:=x) (by refine ac e ?_;refine ac (xI (eg _)) ?_;rewrite [GE];rfl) (k x (.head _)) ?_;have:=f (pre:=pre++[x]) h' (by refine ac e ?_;rewrite [eM];rfl) λy m=>k y (.tail _ m)
    rwa [gP] at this
theorem J5(h:rD bO target=U cn)(e:cl.cn=cn)(k:∀ x∈cn,cl.env.kindOf x=U .local):hG cl bO target:=by
  cases bO with
  | none=>
    refine(eV h) _ λx b d=>?_;refine aG (fp b) λp f=>?_;(try clear b);(try clear h);subst d f;exact .one (by refine ac e ?_;rfl) (k _ (.head _))
  | some n=>
    refine(df h) _ λes b a=>?_;refine gE (lO b) λc9 p d=>ac d ?_;by_cases q:(es.length==n)=af
    · dsimp only at a;rw [if_pos q] at a;exact .ao (eqB q) (UF (pre:=[]) a (by refine ac e ?_;rfl) k)
    · dsimp only at a;rw [if_neg q] at a;exact nn a
noncomputable def Kd(J:bo)(t:dJ)(bO:Option Nat)(target:aH)(iter:aH)(scope:bJ):Prop:=∀ a:Prop,(t.bZ=ah→(∀ x,foldedSetIterable iter J.env x=pure x)→scope.kind=.function→((∀ x∈scope.names,x.2=.local→scope.names.lookup x.1=U .local))→(∀ x∈scope.names,x.2≠.cell)→(∃ cl cn,rD bO target=U cn∧cn.Nodup∧closureFor scope J.env=pure cl∧(∀ C,hG (eY J (compEnvC scope cl C J.env) cn) bO target)∧∀ C,eo (eY J (compEnvC scope cl C J.env) cn) (oV t scope cn))→a)→a
theorem AY(M:eo J t)(h:rE t bO target iter scope=af):Kd J t bO target iter scope:=by
  refine hq h λau D E e=>?_;have au:t.bZ=ah:=(th _).mp au
  have v:J.bZ=ah:=M.bZ.trans au;refine eS E λn B a=>?_;have n:=eqB n;have a:∀ p∈scope.names,p.2≠.cell∧(p.2≠.free∨t.aa.names.lookup p.1=U .cell):=λp m=>by exact aC (eK (i2.mp a p m)) λu h2=>⟨bne_iff_ne.mp u,((nV _ _).mp h2).imp bne_iff_ne.mp eqB⟩
  have bT:=wE B;have gn:J.env.scope=t.aa:=by refine ac M.gn ?_;unfold dJ.gn;refine ac au ?_;rfl
  have y:=M.ok.a6 v;refine(bD e) _ λcn i e=>?_;refine cq e λf b=>?_;have b:∀ x∈cn,scope.names.lookup x=U .local:=λx m=>eqB (i2.mp b x m);have o:∀ x∈scope.names,x.2≠.cell:=λx m=>(a x m).1;have l:∀ p∈scope.names,p.2=.free→(J.env.cells.lookup p.1).isSome=af:=λp m q=>by
    refine ac y (M.ru _ (aS ((a p m).2) (λdU=>?_) λdU=>?_))
    · exact absurd q dU
    · exact dU
  refine aI (J2 l bT) λcl u h2=>?_;have j:∀ C,(compEnvC scope cl C J.env).scope=pE scope t.aa:=λC=>by show relabel scope J.env=_;refine bG gn ?_;rfl
  have w:∀ C,∀ x∈cn,(compEnvC scope cl C J.env).kindOf x=U .local:=λC x m=>by show(compEnvC scope cl C J.env).scope.names.lookup x=_;rewrite [j,EP];refine ac (b x m) ?_;rfl
  refine λ_ aj=>aj au (C5 D) n (λx m q=>?_) o (yZ cl cn i (wE f) u (λC=>J5 i rfl (w C)) λC=>⟨AV M.ok ?_ ?_ ?_ (wE f),M.nm,λag=>rfl,rfl,M.l4,?_,M.ru,λag x F=>?_⟩)
  · exact pj bT (by refine bG q ?_;exact m)
  · rw [j];exact n
  · exact M.ok.aO
  · exact M.ok.blt
  · refine ac (show(eY J (compEnvC scope cl C J.env) cn).env.scope=(compEnvC scope cl C J.env).scope from rfl) ?_;rewrite [j];rfl
  · have s:(pE scope t.aa).names.lookup x=U .cell:=F;rw [EP] at s;refine aI (qi.mp s) λk r d=>?_;have z:=lookup_mem r;have G:k=.free:=by
      unfold pD at d;split at d
      · rename_i q;simp only [xz,beq_iff_eq] at q;exact q.1.1
      · exact absurd d (o _ z)
    (try clear d);(try clear r);subst G;show cl.lookup x=J.a8.cells.lookup x;exact ac (h2 x z) (ac y rfl)
end
section
set_option backward.match.sparseCases false
noncomputable def AJ:ay→Bool|.type _=>af|.builtin _=>af|_=>ah
theorem JS{K:de}(h:AJ v=af):Callee K v:=by cases v <;>first | exact .inl ⟨_,rfl⟩ | exact .inr (.inl ⟨_,rfl⟩) | exact cb h
theorem JT:∀ n,n<16→AJ (ec n)=af:=by decide
theorem AK{K:de}(a:n≤15):Callee K (ec n):=JS (JT n (qf a))
section
variable{c:aU}{J:bo}{S:aA}{Q X:bU}{ai:cp}{an:dy}{g:en}{A:c6}{t:dJ}
noncomputable abbrev JP(c:aU)(J:bo)(Q:bU)(X:bU)(v:ay)(b2:List V→aA→Prop):Prop:=Callee c.K v∧∀ xs aJ vs aY s2,b2 xs aJ→av c J aJ aY s2→ba c (ar J aJ aY s2.heap) aY.ga vs xs→aD c.M J.A (call v vs) (bQ c J aJ aY s2 Q) (dG c J aJ aY s2 X) s2
theorem JO(N:cN c ai an g A)(M:eo J t)(l:J.A=A)(hf:qY eE=U f)(b:∀ xs S,b2 xs S→rt ai f xs S Q X)(hs1:av c J k h s1)(r:aK c (ar J k h s1.heap) h.ga v eE):JP c J Q X v b2:=by
  cases eE with
  | a6 a=>
    refine aC r.o1 λj m=>?_;clear r;obtain rfl:=j;obtain b:=(aX hf).symm▸b;exact⟨.inr (.inr m),λxs aJ vs aY s2 q d e=>(N.calls J M.ok l a xs aJ Q X (b xs aJ q)).2 aY s2 vs d e⟩
  | cC n=>
    refine aC r.oR λi o=>?_;clear r;obtain rfl:=i;obtain b:=(aX hf).symm▸b;exact⟨AK o,λxs aJ vs aY s2 q d e=>IN N.aW N.T.base M.ok d e (b xs aJ q)⟩
  | _=>exact nn hf
theorem TY(N:cN c ai an g A)(M:eo J t)(h:sS t (kind+1) iter=U args)(m:kind+1=3∨kind+1=4→ao=af)
    (u:∀ b,b=S→∀ pos,gi c J b (spliced (backTo pos (starEach args J.env))) b2 X) (x:∀ xs b,b2 xs b→gN (kind+1) xs λitems=>cZ items b):i7 c J S iter J.env ao cZ X:=by
  refine(df h) _ λq e h=>?_;by_cases a4:(q.2.2.1.isEmpty&&(asName q.1).any (λf=>pK (kind+1)==U f&&lU t f)&&q.2.1.all noStar)=af
  · dsimp only at h;rw [if_pos a4] at h;refine cq a4 λa4 l=>cq a4 λs d=>(bD d) _ λf o d=>?_;refine cq d λd h2=>aG (fp o) λp r=>ac (mZ e) (ac r (ac (eH.mp s) ?_));have h:=aX h
    rw [h] at l;refine ac h (aC (rx M h2) λhd w=>?_);have ak:sT (kind+1)≤15:=by rcases kind with _ | _ | _ | _ | k <;>exact al rfl
    have hf:Ev c J S (eval (.Name f p) J.env) (λv S'=>v=.cC (sT (kind+1))∧S'=S) X:=vF N.aW M.ok hd w (N.src (kind+1) f (eqB d)) (.cC _ rfl ak) ⟨rfl,rfl⟩;refine L3 N.aW (λag ag ag e=>tm e) l (AK ak) hf (λy b dU=>⟨dU.1,u b dU.2 _⟩) λxs aJ vs aY s2 q a j bb a0 a5 st bj=>?_;obtain i:=x xs aJ q;rcases kind with _ | _ | _ | _ | n
    · exact TV M.ok a st j i
    · exact TW M.ok a st j i
    · exact ac (m (.inl rfl)) (TT M.ok a st j i)
    · exact ac (m (.inr rfl)) (TZ M.ok a st j i)
    · exact TX M.ok a st j i
  · dsimp only at h;rw [if_neg a4] at h;exact nn h
end
end
section
variable{prog:jL}{w:ku}{A:c6}{R:Result→aP→Prop}{s:aP}{env:Env}{elt t0 fA t1 c8:aH}{scope:bJ}{pos:Pos}{it acc:ay}
noncomputable abbrev gp(elt t0 fA t1 c8:aH)(scope:bJ)(pos:Pos):aH:=.ListComp elt [⟨t0,fA,[],0⟩,⟨t1,c8,[],0⟩] scope pos
theorem Kc:compTurn (gp elt t0 fA t1 c8 scope pos) 1 it acc env=(do
    standAt c8.pos
    match ← pyNext it with
    | none=>pure (.done .next)
    | some v=>
      letOwnedTupleGo t1 it v
      assign t1 env v
      let mut ok:=af
      for c in([]:List aH) do
        if ok then ok ← isTrue c env (eval c env)
      if ok then
        (do let _ ← call (.builtin "list.append") [acc,← eval elt env])
      again (.compLoop (gp elt t0 fA t1 c8 scope pos) 1 it acc env)):=by rfl
theorem Kb:compTurn (gp elt t0 fA t1 c8 scope pos) 0 it acc env=(do
    standAt fA.pos
    match ← pyNext it with
    | none=>pure (.done .next)
    | some v=>
      letOwnedTupleGo t0 it v
      assign t0 env v
      let mut ok:=af
      for c in([]:List aH) do
        if ok then ok ← isTrue c env (eval c env)
      if ok then
        let x ← eval c8 env
        standAt c8.pos
        let x ← foldedSetIterable c8 env x
        let _ ← runOwn (.compStart (gp elt t0 fA t1 c8 scope pos) 1 (← holding [x] (pyIter x)) acc env) env
      again (.compLoop (gp elt t0 fA t1 c8 scope pos) 0 it acc env)):=by rfl
theorem NH(b:codeAny (model prog w) A (.compLoop (gp elt t0 fA t1 c8 scope pos) 1 it acc env) R s)
    (h:aD (model prog w) A (pyIter it) (λa s'=>codeAny (model prog w) A (.compLoop (gp elt t0 fA t1 c8 scope pos) 1 a acc env) R s') (λag ag=>False) s):
    codeAny (model prog w) A (.compStart (gp elt t0 fA t1 c8 scope pos) 1 it acc env) R s:=by
  refine GR ?_;show aD _ _ ((compStart (gp elt t0 fA t1 c8 scope pos) 1 it acc env).onRaise (λx=>do noteFrame x env;standAt theWindowsPlace)) _ _ s;refine wpAny_notedAt ?_;unfold compStart;show aD _ _ (ask >>= _) _ _ s;refine ax (WT (lu ?_));split
  · first
      | exact ax (bg (bg (xx rfl b)))
      | exact bg (xx rfl b)
  · first
      | exact ax (oe (ax (fO (ax (cI h (λa s' h'=>bg (xx rfl h')) λag ag x=>x.elim)))))
      | (refine ax (oe ?_);show aD _ _ (standAt c8.pos >>= _) _ _ s;exact ax (fO (ax (cI h (λa s' h'=>bg (xx rfl h')) λag ag x=>x.elim))))
theorem NI(b:s.heap.IsListIter bc l i)(a:codeAny (model prog w) A (.compLoop (gp elt t0 fA t1 c8 scope pos) 1 (.ref bc) acc env) R s):
    codeAny (model prog w) A (.compStart (gp elt t0 fA t1 c8 scope pos) 1 (.ref bc) acc env) R s:=NH a (W2 b a)
structure i9(F:List aq)(s u:aP):Prop where
  gens:u.gens=s.gens
  drawn:u.drawn=s.drawn
  os:u.os=s.os
  keep:∀ b o,b∉F→s.heap.get? b=U o→u.heap.get? b=U o
theorem i9.trans(a:i9 F s u)(b:i9 F u v):i9 F s v:=⟨b.gens.trans a.gens,b.drawn.trans a.drawn,b.os.trans a.os,λx o c e=>b.keep x o c (a.keep x o c e)⟩
theorem i9.refl:i9 F s s:=⟨rfl,rfl,rfl,λag ag ag e=>e⟩
end
section
variable{c:aU}{J:bo}{S:aA}{W:bP}{s:aP}{Q X:bU}{env:Env}{t0 fA t1 c8:aH}{scope:bJ}{pos py kb:Pos}{y:Str}
set_option maxHeartbeats 1000000 in
theorem ND{us vs:List ay}(hh:J.A.handled=ae)(I:env.scope.kind=.function)(O:env.kindOf y=U .local)(hd:(y==("__debug__":Str))=ah)
    (Z:s.heap.IsListIter bc L 0) (H:s.heap.IsList L us.toArray) (Y:∃ k,s.heap.get? D=U (listOf vs.toArray k)) (V:∃ m,s.heap.Ns env.locals m) (g:bc≠D) (f:bc≠env.locals) (w:D≠env.locals) (a1:L∉[bc,D,env.locals]) (hz:vs.length+us.length≤2^20)
    (am:∀ u,i9 [bc,D,env.locals] s u→(∃ k,u.heap.get? D=U (listOf (vs++us).toArray k))→(∃ m,u.heap.Ns env.locals m)→R (.ok .next) u):
    codeAny c.M J.A (.compLoop (gp (.Name y kb) t0 fA (.Name y py) c8 scope pos) 1 (.ref bc) (.ref D) env) R s:=by
  refine GQ rfl (λn u=>∃ i,n=us.length+1-i∧i≤us.length∧i9 [bc,D,env.locals] s u∧u.heap.IsListIter bc L i∧(∃ k,u.heap.get? D=U (listOf (vs++us.take i).toArray k))∧(∃ m,u.heap.Ns env.locals m)) (λn u G=>?_) (us.length+1)
    (yY 0 rfl (di _) .refl Z (by simpa using Y) V)
  refine yW G λi P bm E au B C=>?_;clear G;obtain rfl:=P;refine aG B λk l=>?_;clear B;refine aG C λm h=>?_;clear C;show aD _ J.A ((compTurn (gp (.Name y kb) t0 fA (.Name y py) c8 scope pos) 1 (.ref bc) (.ref D) env).onRaise (λx=>do noteFrame x env;theTreesLotGoes x)) _ _ u;refine G6 ?_;rw [Kc];refine ax (fO (ax ?_));have p:u.heap.IsList L us.toArray:=by refine aI H λo e r=>?_;clear H;exact(aM o (E.keep L o a1 e) r)
  by_cases d:i<us.length
  · refine W5 au p (x:=us[i]) (by simp [d]) λh' t a2=>ax (bg (ax ?_));have bX:∀ b o,b≠bc→u.heap.get? b=U o→h'.get? b=U o:=λb o ak e=>(a2.2 b ak).trans e
    obtain F:h'.Ns env.locals m:=fH (λo e=>bX _ o f.symm e) h;refine assign_Name (qr O F (λh2 cg z=>?_) (by rw [I];rfl));refine ax (bg (ax ?_));refine ax (mP (qo I O cg (v:=us[i]) (if_pos rfl) (ax ?_)) hd);have cw:∀ b o,b≠bc→b≠env.locals→u.heap.get? b=U o→h2.get? b=U o:=λb o ak a4 e=>(z.2 b a4).trans (bX b o ak e)
    obtain j:h2.get? D=U (listOf (vs++us.take i).toArray k):=cw D _ g.symm w l;refine sg (c:=c) (J:=J) (a:=D) (v:=us[i]) (vs:=vs++us.take i) (n:=k) (s:=(bp u h2 (u.toks+1))) j (by simp;lia) (aG (si (λxs=>xs.push us[i]) (vs++us.take i).toArray k) λas N=>bg (bg ⟨rfl,us.length+1-(i+1),pS rfl d,i+1,rfl,d,E.trans ⟨rfl,rfl,rfl,λb o ak e=>?_⟩,?_,⟨as,?_⟩,⟨_,fH (λo e=>(i1 _ _ _ _ w.symm).trans e) cg⟩⟩))
    · simp only [b9,c4,or_false,not_or] at ak;exact(i1 _ _ _ _ ak.2.1).trans (cw b o ak.1 ak.2.2 e)
    · refine aI t λo e r=>?_;clear t;exact(aM o ((i1 _ _ _ _ g).trans ((z.2 bc f).trans e)) r)
    · obtain T:(vs++us.take i).toArray.push us[i]=(vs++us.take (i+1)).toArray:=by rw [Gw,fm d];simp
      rw [lc _ j (by rw [N];rfl),N,T]
  · obtain e:i=us.length:=by exact n0 ‹_› (gB.mp ‹_›)
    subst e;refine W4 hh au p (by simp) λh' ap=>?_;have bX:∀ b o,b≠bc→u.heap.get? b=U o→h'.get? b=U o:=λb o ak e=>ap b o ak e
    exact bg (am _ (E.trans ⟨rfl,rfl,rfl,λb o ak e=>bX b o (λq=>ak (by simp [q])) e⟩) ⟨k,by simpa using bX D _ g.symm l⟩ ⟨m,fH (λo e=>bX _ o f.symm e) h⟩)
set_option maxHeartbeats 1000000 in
theorem NE{R:Result→aP→Prop}{I D L:aq}{z:Str}{px pi:Pos}{vs:List ay}{dF:List (List ay)}(hh:J.A.handled=ae)(as:env.scope.kind=.function)(ex:env.kindOf y=U .local)(hd:(y==("__debug__":Str))=ah)
    (hz:env.kindOf z=U .local) (cl:(z==("__debug__":Str))=ah) (l:vs.length=dF.length) (a1:∀ i (h:i<vs.length) (h2:i<dF.length),∃ a,vs[i]=.ref a∧a∉[I,D,env.locals]∧s.heap.IsList a dF[i].toArray)
    (F:s.heap.IsListIter I L 0) (cd:s.heap.IsList L vs.toArray) (eq:∃ k,s.heap.get? D=U (listOf #[] k)) (ep:∃ m,s.heap.Ns env.locals m) (B:I≠D) (p:I≠env.locals) (V:D≠env.locals) (fd:L∉[I,D,env.locals]) (hsz:dF.flatten.length≤2^20)
    (es:∀ u,i9 [I,D,env.locals] s u→(∃ k,u.heap.get? D=U (listOf dF.flatten.toArray k))→(∃ m,u.heap.Ns env.locals m)→R (.ok .next) u):
    codeAny c.M J.A (.compLoop (gp (.Name y kb) (.Name z px) fA (.Name y py) (.Name z pi) scope pos) 0 (.ref I) (.ref D) env) R s:=by
  refine GQ rfl (λn u=>∃ i,n=vs.length+1-i∧i≤vs.length∧i9 [I,D,env.locals] s u∧u.heap.IsListIter I L i∧(∃ k,u.heap.get? D=U (listOf (dF.take i).flatten.toArray k))∧(∃ m,u.heap.Ns env.locals m)) (λn u F=>?_) (vs.length+1)
    (yY 0 rfl (di _) .refl F (by simpa using eq) ep)
  refine yW F λi d1 fs G au Z am=>?_;clear F;obtain rfl:=d1;refine aG Z λk t=>?_;clear Z;refine aG am λm H=>?_;clear am;show aD _ J.A ((compTurn (gp (.Name y kb) (.Name z px) fA (.Name y py) (.Name z pi) scope pos) 0 (.ref I) (.ref D) env).onRaise (λx=>do noteFrame x env;theTreesLotGoes x)) _ _ u;refine G6 (ac Kb (ax (fO (ax ?_))));have O:u.heap.IsList L vs.toArray:=by refine aI cd λo e r=>?_;clear cd;exact(aM o (G.keep L o fd e) r)
  by_cases d:i<vs.length
  · refine W5 au O (x:=vs[i]) (by simp [d]) λh' P fr=>ax (bg (ax ?_));have bX:∀ b o,b≠I→u.heap.get? b=U o→h'.get? b=U o:=λb o ak e=>(fr.2 b ak).trans e
    obtain a2:h'.Ns env.locals m:=fH (λo e=>bX _ o p.symm e) H;refine assign_Name (qr hz a2 (λh2 cg Y=>?_) (by refine ac as ?_;rfl));refine ax (bg (ax ?_));refine c0 (a1 i d (l▸d)) λa em na ce=>mP (qo as hz cg (v:=vs[i]) (if_pos rfl) (ax (fO (ax (bg (ax (e6 ?_))))))) cl;refine ac em ?_;have cw:∀ b o,b≠I→b≠env.locals→u.heap.get? b=U o→h2.get? b=U o:=λb o ak a4 e=>(Y.2 b a4).trans (bX b o ak e)
    have cs:=na;simp only [b9,c4,or_false,not_or] at na;have f:h2.IsList a dF[i].toArray:=by refine aI ce λo e r=>?_;clear ce;exact(aM o (cw a o na.1 na.2.2 (G.keep a o cs e)) r)
    refine G7 (s:=(bp u h2 (u.toks+1))) f ?_;obtain N:h2.get? D=U (listOf (dF.take i).flatten.toArray k):=cw D _ B.symm V t;have j:h2.IsListIter I L (i+1):=by refine aI P λo e r=>?_;clear P;exact(aM o ((Y.2 I p).trans e) r)
    generalize ca:h2.objs.size=bc;have w:∀ b o,h2.get? b=U o→b≠bc:=λb o e q=>by have:=eX e;rw [q,← ca] at this;exact absurd this (gA _)
    have C:∀ b o,h2.get? b=U o→(h2.push {cls:=.type "list_iterator",data:=.fields #[.ref a,.int 0 0]}).get? b=U o:=λb o e=>dX _ e;obtain co:I≠bc:=by refine aI j λo e _=>?_;clear j;exact w I o e
    obtain cn:D≠bc:=w D _ N;obtain cm:env.locals≠bc:=by refine jg cg λo _ _ e _=>?_;clear cg;exact w _ o e
    obtain ds:a≠bc:=by refine aI f λo e _=>?_;clear f;exact w a o e
    obtain hlen:(dF.take i).flatten.length+dF[i].length≤2^20:=by
      obtain ap:(dF.take i).flatten++dF[i]=(dF.take (i+1)).flatten:=by refine ac Gw ?_;refine ac (fm (l▸d)) ?_;refine ac Gn ?_;show _=_++([dF[i]]:List (List ay)).flatten;exact ac VQ rfl
      obtain E:dF.flatten=(dF.take (i+1)).flatten++(dF.drop (i+1)).flatten:=by refine bG Gn ?_;rw [xL]
      obtain d2:dF.flatten.length=((dF.take i).flatten++dF[i]).length+(dF.drop (i+1)).flatten.length:=by refine ac E ?_;exact ac gP (ac ap rfl)
      rw [gP] at d2;lia
    obtain T:({u with heap:=h2.push {cls:=.type "list_iterator",data:=.fields #[.ref a,.int 0 0]},toks:=u.toks+1}:aP).heap.IsListIter bc a 0:=(cJ _ (by refine bG ca ?_;exact ez _ rfl) rfl rfl)
    refine ax (wpAny_runOwn (NI T (ND (vs:=(dF.take i).flatten) hh as ex hd T
      (by refine aI f λo e r=>?_;clear f;exact(aM o (C a o e) r)) ⟨k,C D _ N⟩ ⟨_,fH (λo e=>C _ o e) cg⟩ cn.symm cm.symm V (by simp only [b9,c4,or_false,not_or];exact(bk ds na.2.1 na.2.2)) hlen λg7 g bs bm=>?_)))
    · refine bg ⟨rfl,vs.length+1-(i+1),pS rfl d,i+1,rfl,d,G.trans ⟨g.gens,g.drawn,g.os,λb o ak e=>?_⟩,?_,?_,bm⟩
      · simp only [b9,c4,or_false,not_or] at ak;obtain E:=cw b o ak.1 ak.2.2 e;exact g.keep b o (by simp only [b9,c4,or_false,not_or];exact(bk (w b o E) ak.2.1 ak.2.2)) (C b o E)
      · refine aI j λo e r=>?_;clear j;exact(aM o (g.keep I o (by simp only [b9,c4,or_false,not_or];exact(bk co B p)) (C I o e)) r)
      · obtain ap:(dF.take i).flatten++dF[i]=(dF.take (i+1)).flatten:=by refine ac Gw ?_;refine ac (fm (l▸d)) ?_;refine ac Gn ?_;show _=_++([dF[i]]:List (List ay)).flatten;exact ac VQ rfl
        exact bG ap bs
  · obtain e:i=vs.length:=by exact n0 ‹_› (gB.mp ‹_›)
    subst e;refine W4 hh au O (by simp) λh' ev=>?_;have bX:∀ b o,b≠I→u.heap.get? b=U o→h'.get? b=U o:=λb o ak e=>ev b o ak e
    rw [l,List.take_length] at t;exact bg (es _ (G.trans ⟨rfl,rfl,rfl,λb o ak e=>bX b o (λq=>ak (by simp [q])) e⟩) ⟨k,bX D _ B.symm t⟩ ⟨m,fH (λo e=>bX _ o p.symm e) H⟩)
noncomputable def NG(c:aU)(Z:bz)(ga:List aq)(vs:List ay)(ys:List V):Prop:=∀ b:Prop,(∀ (dF:List (List ay)),vs.length=dF.length→(∀ i (h:i<vs.length) (h2:i<dF.length),∃ a,vs[i]=.ref a∧Z.IsList a dF[i].toArray)→ba c Z ga dF.flatten ys→b)→b
theorem NF:∀ {vs:List ay} {xs ys:List V},ba c Z ga vs xs→jq xs=U ys→NG c Z ga vs ys:=by
  intro vs xs
  induction xs generalizing vs with
  | nil=>
    intro ys h e;obtain b:=h.nil_inv;clear h;subst b;obtain rfl:=aX e;exact(λ_ aj=>aj [] rfl (λi h=>absurd h (tF _)) .nil)
  | cons x xs n=>
    intro ys h e;refine h.cons_inv _ λv q b f o=>?_;clear h;subst b;cases x with
    | list zs=>
      refine aI (qi.mp (show(jq xs).map (zs++·)=U ys from e)) λy2 j g=>?_;obtain rfl:=g;refine f.gs _ λa us b m p=>?_;clear f;subst b;refine(n o j) _ λdF k h2 l=>?_;refine(λ_ aj=>aj (us :: dF) (by simp [k]) (λi au d=>?_) (p.append l));cases i with|zero=>exact(aM a rfl m)|succ i=>exact h2 i (mM au) (mM d)
    | _=>exact nn e
set_option maxHeartbeats 1000000 in
theorem Mr(aW:c.Ok)(G:J.Ok){iter:aH}{cl:List (Str×aq)}(hf:∀ x,foldedSetIterable iter J.env x=pure x)(H:closureFor scope J.env=pure cl)(j:scope.kind=.function)(w:∀ x∈scope.names,x.2=.local→scope.names.lookup x.1=U .local)(F:∀ x∈scope.names,x.2≠.cell)
    (am:∀ C,(compEnvC scope cl C J.env).kindOf y=U .local) (hd:(y==("__debug__":Str))=ah) (hz:∀ C,(compEnvC scope cl C J.env).kindOf z=U .local) (cd:(z==("__debug__":Str))=ah) (ev:∀ C,(compEnvC scope cl C J.env).scope.kind=.function)
    (Y:Ev c J S (eval iter J.env) Q1 X) (h:∀ x n,Q1 x n→∃ xs ys,x=.list xs∧jq xs=U ys∧ys.length≤2^20∧Q (.list ys) n):
    Ev c J S (eval (gp (.Name y kb) (.Name z px) iter (.Name y py) (.Name z pi) scope pos) J.env) Q X:=λW s fs=>by
  rw [eval_ListComp];refine WU rfl hf H j w (Y.next fs .refl λv x n f4 s1 q hs1 bv f8 r=>?_);refine jf (h x n q) λxs ys d1 ce hlen fr=>?_;obtain rfl:=d1;refine r.gs _ λa vs f0 ex f1=>?_;clear r;subst f0;refine(NF f1 ce) _ λdF cn Z T=>?_;have t:=fR (Z':=s1.heap) ct ex
  refine G7 t (qp (W0 F (by intro y am;simp at am) (λV d f=>?_) j));dsimp only at d f ⊢;generalize ca:s1.heap.objs.size=I at d f ⊢;generalize O:s1.heap.push {cls:=.type "list_iterator",data:=.fields #[.ref a,.int 0 0]}=l at d f ⊢;have g:l.get? I=U {cls:=.type "list_iterator",data:=.fields #[.ref a,.int 0 0]}:=by refine bG O ?_;exact bG ca (ez _ rfl)
  generalize a2:l.objs.size=D at d f ⊢;generalize P:l.push {cls:=.type "list",data:=.seq ([]:List ay).toArray}=E at d f ⊢;have p:E.get? D=U (listOf #[] 0):=by refine bG P ?_;exact bG a2 (ez _ rfl)
  generalize es:E.objs.size=C at d f ⊢;have cg:∀ b o,s1.heap.get? b=U o→l.get? b=U o∧b≠I:=λb o e=>⟨by refine bG O ?_;exact dX _ e,λq=>by have:=eX e;obtain this:=q▸this;obtain this:=ca.symm▸this;exact absurd this (gA _)⟩
  have d6:∀ b o,l.get? b=U o→E.get? b=U o∧b≠D:=λb o e=>⟨by refine bG P ?_;exact dX _ e,λq=>by have:=eX e;obtain this:=q▸this;obtain this:=a2.symm▸this;exact absurd this (gA _)⟩
  have n4:∀ b o,E.get? b=U o→V.get? b=U o∧b≠C:=λb o e=>by
    have ne:b≠C:=λq=>by have:=eX e;obtain this:=q▸this;obtain this:=es.symm▸this;exact absurd this (gA _)
    exact⟨f.extBut b o ne (dX _ e),ne⟩
  have B:∀ b o,s1.heap.get? b=U o→V.get? b=U o∧b∉[I,D,C]:=λb o e=>by exact aC (cg b o e) λd2 em=>aC (d6 b o d2) λb0 cB=>aC (n4 b o b0) λdQ fe=>⟨dQ,by simp only [b9,c4,or_false,not_or];exact(bk em cB fe)⟩
  have co:=NE (c:=c) (J:=J) (env:=compEnvC scope cl C J.env) (fA:=iter) (scope:=scope) (pos:=pos) (py:=py) (kb:=kb) (y:=y) (z:=z) (px:=px) (pi:=pi) (I:=I) (D:=D) (L:=a) (vs:=vs) (dF:=dF)
    (s:=(bp s1 V (s1.toks+([]:List (Str×ay)).length))) (R:=compPost c.M J.A (dG c J S W s X) ae (bQ c J S W s Q) (.ref D) C) G.handled (ev C) (am C) hd (hz C) cd cn
    (λi eq h2=>by refine aI (Z i eq h2) λb e xr=>aI xr λo as r=>?_;exact(cJ b e ((B b o (ct _ _ as)).2) ⟨o,(B b o (ct _ _ as)).1,r⟩))
    (by refine aC (d6 I _ g) λb0 cB=>?_;exact(cJ _ ((n4 I _ b0).1) rfl rfl))
    (let ⟨o,e,r⟩:=t;⟨o,(B a o e).1,r⟩) ⟨0,(n4 D _ p).1⟩ ⟨_,d⟩ (d6 I _ g).2 (n4 I _ (d6 I _ g).1).2 (n4 D _ p).2 (let ⟨o,e,_⟩:=t;(B a o e).2) (by refine ac T.length ?_;exact hlen) λu N bs a1=>AX ?_
  · exact WJ co (W2 (by refine aC (d6 I _ g) λb0 cB=>?_;exact(cJ _ ((n4 I _ b0).1) rfl rfl)) co)
  · refine aG a1 λm fd=>aG bs λk cm=>(aM m fd λh' ds=>?_);have f2:s1.heap.get? D=ae:=by cases e:s1.heap.get? D with|none=>rfl|some o=>exact absurd rfl (d6 D o (cg D o e).1).2
    refine cR (hs1.r0 (s':=(dh u h')) (ns:=[]) N.gens N.drawn N.os (λb o e=>by
      obtain⟨ep,ap⟩:=B b o e;have cs:=ap
      simp only [b9,c4,or_false,not_or] at ap;exact(ds.2 b ap.2.2).trans (N.keep b o cs ep)) (λa Y=>absurd Y c4) .nil) λsat st nw=>?_
    have bm:h'.get? D=U (listOf dF.flatten.toArray k):=(ds.2 D (n4 D _ p).2).trans cm;exact(λ_ aj=>aj (.list ys) n _ fr sat (bv.trans st) (.list (cJ _ (nw D _ bm f2 c4) rfl ⟨_,rfl⟩) (T.step st)))
end
theorem OJ(h:iH e=0):isTrue e env whole=(do let v ← whole;standAt e.pos;holding [v] (truthy v)):=by
  cases e with
  | UnaryOp op a p=>cases op <;>first | rfl | exact nomatch h
  | _=>first | rfl | exact nomatch h
section
variable(c:aU)(ai:cp)(an:dy)(g:en)(A:c6)
noncomputable def ck(a:bh):Prop:=∀ e t J S Q X,dq g t a e=af→eo J t→J.A=A→cG ai an a S Q X→Ev c J S (eval e J.env) Q X
noncomputable def SB(a:bh):Prop:=∀ e t J S b X,dq g t a e=af→ic a=iH e→eo J t→J.A=A→cG ai an a S (gW b) X→eI c J S (isTrue e J.env (eval e J.env)) b X
noncomputable def SL(is:List bh):Prop:=∀ es t J S b2 X pos,e7 g t is es=af→es.all noStar=af→eo J t→J.A=A→eP ai an is S b2 X→gi c J S (spliced (backTo pos (starEach es J.env))) b2 X
noncomputable def ot(is:List bh):Prop:=∀ es t J S op a Q X pos,e7 g t is es=af→eo J t→J.A=A→nS ai an op is S a X→(∀ b S,a b S→Q (.bool b) S)→Ev c J S (boolOp pos op (evalEach es J.env)) Q X
noncomputable def jc(is:List bh):Prop:=∀ es t J S op a X,e7 g t is es=af→vO is es=af→eo J t→J.A=A→nS ai an op is S a X→eI c J S (allTrue op es J.env) a X
noncomputable def or(is:List bh):Prop:=∀ vals ks keys t J S b2 X pos,oT g ks keys=af→e7 g t is vals=af→keys.length=vals.length→eo J t→J.A=A→eP ai an is S b2 X→ly c J S (evalPairs (pairTrees keys vals J.env pos)) ks b2 X
noncomputable def uF(dd:List bh):Prop:=∀ (kind:Nat) (bO:Option Nat) (iter:aH) (args:List aH) t J S b2 cZ X,sS t kind iter=U args→(!(kind==3 || kind==4) || bO.isSome)=af→e7 g t dd args=af→eo J t→J.A=A→eP ai an dd S b2 X→(∀ xs a,b2 xs a→gN kind xs λitems=>cZ items a)→i7 c J S iter J.env bO.isSome cZ X
noncomputable def oq(i:Option bh):Prop:=∀ e t J S a X,oW g t i e=af→eo J t→J.A=A→nU ai an i S a X→lx c J S (evalPart e J.env) a X
noncomputable def ST(i:Option bh):Prop:=∀ e t J S a X,i.any (λi=>ic i==iH e)=af→oW g t i (U e)=af→eo J t→J.A=A→nT ai an i S a X→eI c J S (isTrue e J.env (eval e J.env)) a X
end
section
variable{c:aU}{ai:cp}{an:dy}{g:en}{A:c6}
theorem UD(h:a af S):eI c J S (mv [] env) a X:=λW s b=>by unfold mv;exact ac p9 (bg (λ_ aj=>aj S W h b .refl))
theorem UE(h:eI c J S (isTrue e env (eval e env)) a X):eI c J S (mv [e] env) a X:=λW s i=>by unfold mv;simp only [mG,p9,if_true];exact ax (ax (h.next i .refl λb d f s1 j hs1 bv ag=>bg (bg (λ_ aj=>aj d f j hs1 bv))))
noncomputable abbrev P4(c:aU)(J:bo)(a:aA)(v:ay)(b:bP)(s1:aP)(n:Nat)(b2:List V→aA→Prop)(Q:bU)(X:bU):Prop:=∃ f,Callee c.K f∧(∀ R bj d,R (f,[v]) s1→aD c.M J.A (getMethod v (c.ls n) d) R bj s1)∧∀ xs aJ vs aY s2,b2 xs aJ→av c J aJ aY s2→aV J a b s1 aJ aY s2→ba c (ar J aJ aY s2.heap) aY.ga vs xs→aD c.M J.A (call f (v :: vs)) (bQ c J aJ aY s2 Q) (dG c J aJ aY s2 X) s2
theorem P2(N:cN c ai an g A)(M:eo J t)(D:J.A=A)(hs1:av c J j k s1)(b:aK c (ar J j k s1.heap) k.ga v x)(h:hx ai an j x n)
    (f:∀ xs aJ,b2 xs aJ→dM aJ x=dM j x∧hS ai an x n xs aJ Q X):P4 c J j v k s1 n b2 Q X:=by
  unfold hx at h;unfold hS at f;cases au:jk x with
  | some p=>
    rw [au] at h f;refine aG (kr.mp h) λa s=>hp (N.T.bE p.1 n a s) λE nl F o=>?_;have G:=b
    obtain b:=(q1 au)▸b;clear G;refine b.r6 _ λI cP ox ds nn w y h2 z B C H=>?_;obtain rfl:=w;refine(cJ (.ref a) (.inr (.inr o)) (λR bj u l=>?_) λxs aJ vs aY s2 q i st r=>?_)
    · exact F J.A bj s1 R I ox cP ds nn u (N.aW.X.keeps hs1.keep) (ct _ _ y) h2 z B (ct _ _ C) (BL N.aW.inj H (N.T.jz p.1) E λm=>nl (V7 m)) l
    · refine(cy (f xs aJ q).2) _ λL e d=>?_;obtain e:=s▸e;obtain d:=(aX e).symm▸d;exact(N.calls J M.ok D a _ aJ Q X d).2 aY s2 _ i (.cons (b.step st) r)
  | none=>
    rw [au] at h f;refine aG (kr.mp h) λid aw=>(cJ (.builtin id) (.inl ⟨_,rfl⟩) (λR bj u l=>N3 an hs1 b au aw (N.T.pm n) l) λxs aJ vs aY s2 q i st r=>?_);exact aC (f xs aJ q) λo d=>PW an N.aW N.T.base M.ok i (b.step st) r (by refine ac o ?_;exact aw) N.T.pn.1 d
theorem hn.inv(h:hn J k (.Name x p :: es)):J.env.kindOf x=U .local∧hn J (k+1) es:=
  hn.casesOn (motive:=λk l ag=>∀ x p es,l=.Name x p :: es→J.env.kindOf x=U .local∧hn J (k+1) es) h (λag x p es q=>absurd q.symm (Gj _ _))
    (λag a b x p es q=>⟨(Expr.Name.inj (mE q).1).1▸a,(mE q).2▸b⟩) x p es rfl
theorem hG.inv(h:hG J (U n) (.Tuple es c9 p)):hn J 0 es:=hG.casesOn (motive:=λo e ag=>∀ es c9 p,e=.Tuple es c9 p→hn J 0 es) h (λag ag es c9 p q=>tm q) (λag b es c9 p q=>(Expr.Tuple.inj q).1▸b) es c9 p rfl
theorem NC(N:cN c ai an g A){J:bo}{t:dJ}(M:eo J t){S:aA}{Q Q1 X:bU}{y z:Str}{kb px py pi pos s:Pos}{iter:aH}{scope:bJ}(hd:(y==kQ)=ah)(f:(z==kQ)=ah)(h:rE t (U 2) (.Tuple [.Name z px,.Name y py] 0 s) iter scope=af)
    (p:Ev c J S (eval iter J.env) Q1 X) (r:∀ x a,Q1 x a→hA x λxs=>bF (jq xs) λys=>ys.length≤2^10∧Q (.list ys) a):Ev c J S (eval (gp (.Name y kb) (.Name z px) iter (.Name y py) (.Name z pi) scope pos) J.env) Q X:=by
  refine(AY M h) _ λau i j k e l=>?_;refine uM l λcl cn v u d b o=>?_;obtain two:∀ C,(compEnvC scope cl C J.env).kindOf z=U .local∧(compEnvC scope cl C J.env).kindOf y=U .local:=λC=>⟨(b C).inv.inv.1,(b C).inv.inv.2.inv.1⟩
  refine Mr N.aW M.ok i d j k e (λC=>(two C).2) hd (λC=>(two C).1) f (λC=>(o C).ok.jp) p λx a q=>(cy (r x a q)) _ λxs m q=>?_;refine(cy q) _ λys n q=>?_;exact(jh xs ys (oJ m) n (dt q.1 (by decide)) q.2)
theorem JH(N:cN c ai an g A):ck c ai an g A (.var k):=λe t J S Q X a M j hw=>by refine(bD a) _ λx d h=>?_;clear a;refine aG (fp d) λp b=>?_;obtain rfl:=b;exact aC (rB M h) λf i=>MH N.aW M.ok f i hw
theorem Jk(N:cN c ai an g A):ck c ai an g A (.cvar k):=λe t J S Q X b M r hw=>by refine(bD b) _ λx a h=>?_;refine aG (fp a) λp d=>?_;clear a b;obtain rfl:=d;refine hq h λau j n l=>(cy (show bF (S.aT[k]?.bind id) λx=>Q x S from hw)) _ λy q m=>?_;refine(df q) _ λo f i=>?_;exact Mo M.ok (M.bZ.trans au) (by refine ac (M.cn au) ?_;exact eqB j) (eqB n) (by show J.env.scope.names.lookup _=_;refine ac M.gn ?_;unfold dJ.gn;refine ac au ?_;exact eqB l) (by refine ac f ?_;exact ac (show o=U y from i) rfl) m
theorem Jq(N:cN c ai an g A):ck c ai an g A (.aO n):=λe t J S Q X d M m hw=>by refine(bD d) _ λx b h=>?_;clear d;refine aG (fp b) λp f=>?_;clear b;obtain rfl:=f;refine cq h λa h2=>aC (rx M h2) λhd j=>(cy (show bF (ai.ju n) λx=>Q x S from hw)) _ λy l k=>?_;refine aI (N.T.aO n y l) λv i r=>?_;obtain a:=N.gH▸a;exact vF N.aW M.ok hd j (eqB a▸i) r k
theorem Jz:ck c ai an g A .d5:=λe t J S Q X h M f hw=>by refine aG (kr.mp h) λu a=>(jX a) _ λk c9 p b d=>?_;clear a h;obtain rfl:=b;exact ac (Jd d) (MD hw)
theorem Jv:ck c ai an g A (.f6 b):=λe t J S Q X h M f hw=>by refine(jX (eqB h)) _ λk c9 p a d=>?_;clear h;obtain rfl:=a;exact ac (Jb d) (Mh hw)
theorem Jx:ck c ai an g A (.b5 b):=λe t J S Q X h M f hw=>by refine(jX (eqB h)) _ λk c9 p a d=>?_;clear h;obtain rfl:=a;exact ac (vl d) (My hw)
theorem Jy(N:cN c ai an g A):ck c ai an g A (.bC n):=λe t J S Q X h M l hw=>by refine(bD h) _ λx d j=>?_;refine(jX d) _ λk c9 p f i=>?_;clear d h;obtain rfl:=f;exact aC (lV N j) λa b=>ac (vm i) (Mz a b hw)
theorem Jw:ck c ai an g A (.gK b):=λe t J S Q X h M f hw=>by refine(jX (eqB h)) _ λk c9 p a d=>?_;clear h;obtain rfl:=a;exact ac (Jc d) (Mk hw)
theorem JC(l:ck c ai an g A a):ck c ai an g A (.neg a):=λe t J S Q X d M k hw=>by refine(bD d) _ λq b h=>?_;clear d;refine aG (q7 b) λp f=>?_;clear b;obtain rfl:=f;exact cq h λj h2=>ac (eqB j) (MC (l _ t J S (λx S=>cc x λi=>Q (.int (-i)) S) X h2 M k hw) λx m q=>q)
theorem JD(l:ck c ai an g A a):ck c ai an g A (.not a):=λe t J S Q X f M k hw=>by refine(bD f) _ λq d h=>?_;refine aG (q7 d) λp i=>?_;clear d f;obtain rfl:=i;exact eS h λj ag h2=>ac (eqB j) (ME (l _ t J S (gW λb S=>Q (.bool !b) S) X h2 M k hw) λx m q=>q)
theorem Jf(N:cN c ai an g A)(m:ck c ai an g A a)(n:ck c ai an g A b):ck c ai an g A (.a7 op a b):=λe t J S Q X d M j hw=>by refine(bD d) _ λq i h=>?_;refine aG (Il i) λp k=>?_;clear i;obtain rfl:=k;exact eS h λd l h2=>ac (eqB d) (Mg N.T.base.ls (eR:=λx y S=>c7 ai op x y λz=>Q z S) (m _ t J S (λx S=>cG ai an b S (λy S=>c7 ai op x y λz=>Q z S) X) X l M j hw) (λx f q=>n _ t J f _ X h2 M j q) λx f y aJ ag q=>q)
theorem Ji(N:cN c ai an g A)(o:ck c ai an g A a)(s:ck c ai an g A b):ck c ai an g A (.bi op a b):=λe t J S Q X d M j hw=>by refine(bD d) _ λq i h=>?_;refine aG (zk i) λp k=>?_;clear i;obtain rfl:=k;refine cq h λd h=>(bD h) _ λr l h=>?_;exact eS h λn m h2=>ac (eqB d) (ac (hC l) (Mm N.aW N.T.base.ls M.ok (eR:=λx y S=>kO ai op x y S λz=>Q (.bool z) S) (o _ t J S (λx S=>cG ai an b S (λy S=>kO ai op x y S λz=>Q (.bool z) S) X) X m M j hw) (λx f q=>s _ t J f _ X h2 M j q) (λx f y aJ ag q=>q) (eqB n)))
theorem Jg(j:ot c ai an g A es):ck c ai an g A (.eC op es):=λe t J S Q X a M i hw=>by refine(bD a) _ λq d h=>?_;refine aG (zi d) λp f=>?_;clear d;obtain rfl:=f;exact eS h λa ag h2=>ac (eqB a) (j _ t J S op _ Q X p h2 M i hw λb S q=>q)
theorem Ju(r:SB c ai an g A hK)(n:ck c ai an g A a)(o:ck c ai an g A b):ck c ai an g A (.bn hK a b):=λe t J S Q X j M f hw=>by refine(bD j) _ λq i h=>?_;refine aG (zv i) λp k=>?_;clear i j;obtain rfl:=k;exact jV h λf1 ag ag l h2 m=>Mx (r _ t J S (λc S=>if c=af then cG ai an a S Q X else cG ai an b S Q X) X l (eqB f1) M f hw) (λd q=>n _ t J d Q X h2 M f q) λd q=>o _ t J d Q X m M f q
theorem JG(j:SL c ai an g A es):ck c ai an g A (.ao es):=λe t J S Q X b M i hw=>by refine(bD b) _ λq a h=>?_;refine gE (lO a) λk p d=>?_;clear a b;obtain rfl:=d;exact cq h λf h2=>BA (j _ t J S (λxs S=>j2 (gh xs.length (2^20)) (Q (.ao xs) S)) X _ h2 f M i hw) λxs l q=>rW q
theorem JA(j:SL c ai an g A es):ck c ai an g A (.lst es):=λe t J S Q X b M i hw=>by refine(bD b) _ λq a h=>?_;refine aG (u1 a) λp d=>?_;clear a b;obtain rfl:=d;exact cq h λf h2=>MA (j _ t J S (λxs S=>j2 (gh xs.length (2^20)) (Q (.list xs) S)) X _ h2 f M i hw) λxs k q=>rW q
theorem Jr(j:SL c ai an g A es):ck c ai an g A (.l6 es):=λe t J S Q X b M i hw=>by refine(bD b) _ λq a h=>?_;clear b;refine aG (u1 a) λp d=>?_;clear a;obtain rfl:=d;exact cq h λf h2=>Mu (j _ t J S (λxs S=>j2 (gh xs.length (2^20)) (Q (.aB S.aE.length) {S with aE:=S.aE++[.list xs]})) X _ h2 f M i hw) λxs k q=>rW q
theorem Jl(N:cN c ai an g A)(n:or c ai an g A es)(d:es=[]→True):ck c ai an g A (.eT ks es):=λe t J S Q X h M u hw=>by
  refine(bD h) _ λq f j=>?_;refine aG (oE f) λp o=>?_;clear f h;obtain⟨keys,vals⟩:=q;obtain rfl:=o;refine oy j λb h2 l a m=>aC (ry b) λbX cw=>?_;have a:keys.length=vals.length:=eqB a
  obtain hw:eP ai an es S (λxs S=>dup ks=ah∧ks.length=xs.length∧ks.length≤15∧Q (.dict (iF ks xs)) S) X:=hw;cases keys with
  | nil=>
    obtain r:ks=[]:=mF cw;obtain s:vals=[]:=mF a.symm;clear a cw b bX l h2 j d n;subst r s;cases es with|nil=>exact Mq N.aW hw.2.2.2|cons i is=>exact cb (eK m).1
  | cons k keys=>
    exact Mp N.aW M.ok bX a (λe=>nomatch e) (by refine bG cw ?_;exact of_decide_eq_true l) (eqB h2) cw (n vals _ _ t J S _ X p b m a M u hw) λxs v q ag=>q.2.2.2
theorem Jo:ck c ai an g A .rX:=λe t J S Q X h M i hw=>by refine(bD h) _ λq a d=>?_;refine aG (oE a) λp b=>?_;clear a h;obtain rfl:=b;exact cq d λf h2=>ac (eH.mp f) (ac (eH.mp h2) (Ms hw))
theorem Js:ck c ai an g A .r1:=λe t J S Q X h M i hw=>by refine(bD h) _ λq a d=>?_;clear h;refine aG (oE a) λp b=>?_;clear a;obtain rfl:=b;exact cq d λf h2=>ac (eH.mp f) (ac (eH.mp h2) (Mv hw))
theorem Jp(N:cN c ai an g A)(w:ck c ai an g A a):ck c ai an g A (.rY i a):=λe t J S Q X h M u hw=>by refine(bD h) _ λq d b=>?_;refine aG (oE d) λp f=>?_;clear d h;obtain rfl:=f;refine(bD b) _ λk j b=>?_;refine cq b λs b=>(bD b) _ λv l b=>?_;refine(df (eqB s)) _ λB m n=>?_;refine(jX n) _ λz c9 C o r=>?_;exact ac (hC j) (ac (hC l) (ac m (ac o (ac (vl r) (Mt N.aW M.ok (w v t J S (λx S=>Q (.aB S.aE.length) {S with aE:=S.aE++[.id [(i,x)]]}) X b M u hw) λx y q=>q)))))
theorem C4(h:notAttr e=af):∀ o a p,e≠.Attribute o a p:=λo a p q=>by obtain h:=q▸h;exact cb h
theorem Jh(N:cN c ai an g A)(o:ck c ai an g A f)(p:SL c ai an g A as):ck c ai an g A (.call f as):=λe t J S Q X h M b hw=>by
  refine(bD h) _ λq j k=>?_;refine ac (mZ j) (oy k λl h2 i m n=>ac (eH.mp l) (Ml (Q1:=λeE S=>bF (qY eE) λf=>eP ai an as S (λxs S=>rt ai f xs S Q X) X) (b2:=λeE xs S=>bF (qY eE) λf=>rt ai f xs S Q X) (C4 h2) i N.aW (o _ t J S _ X m M b hw) (λeE d q=>?_) λeE d v s s1 q hs1 r=>?_))
  · refine(cy q) _ λf a q=>?_;exact ac a (p _ t J d _ X _ n i M b q)
  · refine(cy q) _ λf a q=>?_;exact JO N M b a (λxs S q=>by obtain q:=a▸q;exact q) hs1 r
theorem JB(N:cN c ai an g A)(y:ck c ai an g A o)(z:SL c ai an g A as):ck c ai an g A (.bE o n as):=λe t J S Q X h M i hw=>by
  refine(bD h) _ λq k f=>?_;refine ac (mZ k) (cq f λp f=>(bD f) _ λa l f=>?_);exact oz f λh2 r j s u w x=>aC (lV N h2) λ_ m=>ac (eH.mp p) (ac (oA l) (ac m (MB (b2:=λb d xs S=>dM S b=dM d b∧hS ai an b n xs S Q X) (zK r) j (of_decide_eq_true s) u N.aW (y _ t J S (λb d=>hx ai an d b n∧eP ai an as d (λxs S=>dM S b=dM d b∧hS ai an b n xs S Q X) X) X w M i hw) (λb d q=>z _ t J d _ X _ x j M i q.2))))
    λb d v C s1 q hs1 B=>P2 N M i hs1 B q.1 λxs aJ q=>q
theorem JJ(N:cN c ai an g A)(G:SL c ai an g A as):ck c ai an g A (.k7 k n as):=λe t J S Q X h M B hw=>by refine(bD h) _ λq i b=>?_;refine ac (mZ i) (cq b λu b=>(bD b) _ λa j b=>?_);refine(bD b) _ λx l b=>?_;refine oz b λag h2 v d w y z=>aC (rB M h2) λC F=>aC (lV N v) λ_ m=>aG (fp l) λp r=>(cy (show bF (ownAt S k) λp=>(eG an 4 n).isSome=af∧eP ai an as S (λxs S=>hU S.aR p.1 λys=>pz an p.1 n ys xs S Q) X from hw)) _ λo s f=>?_;exact aC f λD E=>ac (eH.mp u) (ac (oA j) (ac r (MJ N.aW N.T M.ok C F s m D d (of_decide_eq_true w) y (G _ t J S _ X _ z d M B E) λxs H q=>q)))
theorem JI(N:cN c ai an g A):ck c ai an g A (.pV k):=λe t J S Q X h M F hw=>by refine(bD h) _ λq i a=>?_;refine ac (mZ i) (cq a λb a=>cq b λb h2=>(bD h2) _ λf j h2=>?_);refine cq h2 λv w=>(bD a) _ λx l y=>?_;refine(df l) _ λH m n=>?_;refine aG (fp j) λp r=>aG (fp n) λG s=>aC (rB M y) λB E=>aC (rx M v) λhd z=>(cy (show bF (ownAt S k) λp=>p.2.length≤2^20∧Q (.int p.2.length) S from hw)) _ λo u d=>?_;refine aC d λhz D=>ac (eH.mp b) (ac r (ac (hC m) (ac s ?_)));obtain C:hH c f (ec 12):=eqB w▸N.len;exact MI N.aW M.ok (λag ag ag=>nofun) (vF N.aW M.ok hd z C (.cC 12 rfl (al rfl)) ⟨rfl,rfl⟩) B E u hz D
theorem Je(N:cN c ai an g A)(l:ck c ai an g A o):ck c ai an g A (.bS o n):=λe t J S Q X h M k hw=>by refine(bD h) _ λq a f=>?_;refine ac (oA a) (eS f λi h2 j=>Mf N.aW N.T (lV N i).2 (zK h2) (l _ t J S (zH ai n Q) X j M k hw) λx m q=>(cy q) _ λp b q=>?_);refine(cy q) _ λy d q=>?_;exact(lK p.1 p.2 y (q1 b) d q)
theorem Jt(N:cN c ai an g A)(n:ck c ai an g A o)(m:ck c ai an g A i):ck c ai an g A (.bq o i):=λe t J S Q X h M d hw=>by refine(bD h) _ λq b j=>?_;refine aG (oK b) λp f=>?_;clear b h;obtain rfl:=f;exact eS j λk h2 l=>Mw N.aW (eR:=λx y S=>cr x y S λz=>Q z S) k (n _ t J S (λx S=>cG ai an i S (λy S=>cr x y S λz=>Q z S) X) X h2 M d hw) (λx a q=>m _ t J a _ X l M d q) λx a y aJ ag q=>q
theorem JF(N:cN c ai an g A){lo au:Option bh}(w:ck c ai an g A o)(v:oq c ai an g A lo)(u:oq c ai an g A au):ck c ai an g A (.hW o lo au):=λe t J S Q X h M b hw=>by
  refine(bD h) _ λq d a=>?_;refine aG (oK d) λp f=>?_;clear d;obtain rfl:=f;refine(bD a) _ λr j a=>?_;exact aG (zB j) λB k=>hq a λm h2 n s=>ac k (ac (lm.mp m) (MG N.T.base.ls (eR:=λx l S=>nU ai an au S (λh S=>gu ai x l h S λz=>Q z S) X) (lE:=λx l h S=>gu ai x l h S λz=>Q z S)))
    (w _ t J S (λx S=>nU ai an lo S (λl S=>nU ai an au S (λh S=>gu ai x l h S λz=>Q z S) X) X) X h2 M b hw) (λx i q=>v _ t J i _ X n M b q) (λx l aJ q=>u _ t J aJ _ X s M b q) λx l h y q=>q
theorem JE(E:ck c ai an g A o):ck c ai an g A (.rev o):=λe t J S Q X h M D hw=>by refine(bD h) _ λq f a=>?_;refine aG (oK f) λp i=>?_;clear f h;obtain rfl:=i;refine(bD a) _ λr j a=>?_;refine aG (zB j) λI k=>eS a λy a z=>cq a λh2 d=>(bD d) _ λu l d=>?_;refine cq d λB C=>(df l) _ λN m n=>?_;refine aG (q7 n) λL s=>(jX (eqB C)) _ λG c9 H v w=>?_;exact ac k (ac (lm.mp y) (ac (lm.mp h2) (ac m (ac s (ac (eqB B) (ac v (ac (vl w) (MF (E _ t J S (λx S=>onBytes x λb=>b.size≤2^20∧Q (.bytes b.toList.reverse.toArray) S) X z M D hw) λx F q=>q))))))))
theorem Jm(N:cN c ai an g A)(O:ck c ai an g A dd):ck c ai an g A (.flat dd):=λe t J S Q X h M I hw=>by
  refine(bD h) _ λq C a=>?_;refine aG (zl C) λp r=>?_;obtain rfl:=r;refine(bD a) _ λy D a=>?_;refine(bD a) _ λl E a=>?_;refine(bD a) _ λz F a=>?_;refine(bD a) _ λd G a=>?_;refine H7 a λf i j k s u v w b n=>?_;clear a h;obtain⟨ib,m,aa⟩:=q;obtain L:m=[l,d]:=by refine bG (xL 1 m) (ac (hC E) (ac (hC G) ?_));rfl
  obtain⟨pP,R,H,B⟩:=l;obtain⟨fV,o,fd,ad⟩:=d;obtain f:B=0:=eqB f;obtain i:ad=0:=eqB i;have j:H=[]:=eH.mp j
  have k:fd=[]:=eH.mp k;refine aG (fp (show asName pP=U z from F)) λT b0=>aG (fp (show asName fV=U y from eqB s)) λV cB=>aG (fp (show asName o=U z from eqB u)) λW eh=>aG (fp (show asName ib=U y from D)) λY c1=>?_;dsimp only at b n;obtain b:=b0▸b;obtain b:=cB▸b;exact ac L (ac f (ac i (ac j (ac k (ac b0 (ac cB (ac eh (ac c1 (NC N M (eqB v) (eqB w) b (O _ t J S (λx S=>hA x λxs=>bF (jq xs) λys=>ys.length≤2^10∧Q (.list ys) S) X n M I hw) λx P q=>q)))))))))
end
section
variable{c:aU}{ai:cp}{an:dy}{g:en}{A:c6}
theorem rF(h:e7 g t [] es=af):es=[]:=eH.mp h
noncomputable def Ki(g:en)(t:dJ)(i:bh)(is:List bh)(es:List aH):Prop:=∀ b:Prop,(∀ (e a),es=e :: a→dq g t i e=af→e7 g t is a=af→b)→b
theorem l0(h:e7 g t (i :: is) es=af):Ki g t i is es:=by refine cq h λb h2=>?_;clear h;cases es with|nil=>exact cb b|cons e a=>exact(λ_ aj=>aj e a rfl b h2)
theorem xc(N:cN c ai an g A)(s:SL c ai an g A dd)(p:∀ i,dd=[i]→ck c ai an g A i):uF c ai an g A dd:=λkind bO iter args t J S b2 cZ X h a a4 M j hw l=>by
  cases kind with
  | zero=>
    by_cases q:noStar iter=af
    · rw [← aX ((if_pos q).symm.trans h)] at a4;cases dd with
      | nil=>exact cb a4
      | cons i is=>
        refine(l0 a4) _ λe v b r h2=>?_;injection b with b n
        subst b n;cases is with
        | nil=>
          refine L4 M.ok (p i rfl _ t J S (λx S=>b2 [x] S) X r M j hw) λx m q=>aI (iP (l _ _ q)) λy d k=>?_;injection d with d _
          subst d;refine(cy k) _ λxs o k=>?_;exact cu o k.2
        | cons _ _=>exact cb (eK h2).1
    · exact nn ((if_neg q).symm.trans h)
  | succ kind=>
    have u:args.all noStar=af:=by
      refine(df h) _ λq e h=>?_;by_cases a4:(q.2.2.1.isEmpty&&(asName q.1).any (λf=>pK (kind+1)==U f&&lU t f)&&q.2.1.all noStar)=af
      · exact bG (aX ((if_pos a4).symm.trans h)) ((eK a4).2)
      · exact nn ((if_neg a4).symm.trans h)
    refine TY N M h (λq=>?_) (λm e pos=>by refine ac e ?_;exact s args t J S b2 X pos a4 u M j hw) l;refine aS q (λq=>?_) λq=>?_ <;>rw [q] at a <;>exact a
theorem CC:SL c ai an g A []:=λes t J S b2 X pos h b M a hw=>by refine ac (rF h) ?_;exact L6 hw
theorem CB(l:ck c ai an g A i)(m:SL c ai an g A is):SL c ai an g A (i :: is):=λes t J S b2 X pos h k M b hw=>by refine(l0 h) _ λe a d j h2=>?_;clear h;obtain rfl:=d;exact cq k λcX cg=>L5 (eR:=λag ag ag=>True) (xg cX) (l e t J S (λx S=>eP ai an is S (λxs S=>b2 (x :: xs) S) X) X j M b hw) λx f q=>m a t J f _ X pos h2 cg M b q
theorem FO:ot c ai an g A []:=λes t J S op a Q X pos h M b hw d=>fl hw
theorem FN(r:ck c ai an g A i)(s:ot c ai an g A is):ot c ai an g A (i :: is):=λes t J S op a Q X pos h M m hw f=>by
  refine(l0 h) _ λe u n p h2=>?_;obtain rfl:=n;have H:=r e t J S (gW λb S=>if(is.isEmpty || hX op b)=af then a b S else nS ai an op is S a X) X p M m hw
  cases is with
  | nil=>
    refine ac (rF h2) (Mj (H.mono (λx S q=>?_) λag ag q=>q));refine(cy q) _ λb d q=>?_;exact ac (oB d) (f b S q)
  | cons j w=>
    clear hw h;refine(l0 h2) _ λv o k _ _=>?_;obtain rfl:=k;refine Mi H λx l q=>(cy q) _ λb d q=>?_;exact cu d ⟨λak=>f b l ((if_pos (show(ah || hX op b)=af from ak)).mp q),λak=>s _ t J l op a Q X pos h2 M m ((if_neg (show ¬ (ah || hX op b)=af from by refine ac ak ?_;exact λq=>cb q)).mp q) f⟩
theorem y7:jc c ai an g A []:=λes t J S op a X h hf M b hw=>fl hw
theorem y6(o:SB c ai an g A i)(k:jc c ai an g A is):jc c ai an g A (i :: is):=λes t J S op d X h hf M j hw=>by
  refine(l0 h) _ λe a l n h2=>?_;obtain rfl:=l;refine cq hf λf1 f2=>?_;have hlen:a.isEmpty=is.isEmpty:=by cases is with|nil=>refine ac (rF h2) ?_;rfl|cons _ _=>refine(l0 h2) _ ?_;intro _ _ m _ _;clear h2 f2 hf h hw k;obtain rfl:=m;rfl
  refine LX (o e t J S (λb S=>if(is.isEmpty || hX op b)=af then d b S else nS ai an op is S d X) X n (eqB f1) M j hw) (λb f q ak=>?_) λb f q ak=>?_
  · obtain ak:=hlen▸ak;exact(if_pos ak).mp q
  · obtain ak:=hlen▸ak;exact k a t J f op d X h2 f2 M j ((if_neg (by refine ac ak ?_;exact λq=>cb q)).mp q)
theorem Dv:or c ai an g A []:=λvals ks keys t J S b2 X pos e h a M f hw=>by obtain b:=rF h;subst b;obtain d:keys=[]:=mF a;clear a h;subst d;exact ac (mF (ry e).2) (Ma hw)
theorem Du(N:cN c ai an g A)(z:ck c ai an g A i)(B:or c ai an g A is):or c ai an g A (i :: is):=λvals ks keys t J S b2 X pos d h f M b hw=>by
  refine(l0 h) _ λe a j u h2=>?_;obtain rfl:=j;cases keys with
  | nil=>exact nomatch f
  | cons k keys=>
    cases ks with
    | nil=>exact cb d
    | cons n ns=>
      refine cq d λbX cw=>(bD bX) _ λx m bX=>?_;refine(df m) _ λD o p=>?_;refine(jX p) _ λC c9 E r s=>?_;exact aC (lV N bX) λv w=>ac o (ac r (ac (vm s) (L9 v w (z e t J S (λx S=>eP ai an is S (λxs S=>b2 (x :: xs) S) X) X u M b hw) λy l q=>B a ns keys t J l _ X pos cw h2 (xR f) M b q)))
theorem Qw:oq c ai an g A ae:=λe t J S a X h M b hw=>by exact ac (lm.mp h) (L7 hw)
theorem Qx(j:ck c ai an g A i):oq c ai an g A (U i):=λe t J S b X h M f hw=>by refine(bD h) _ λd a h=>?_;obtain rfl:=a;exact L8 (j d t J S (λx S=>b (U x) S) X h M f hw)
theorem Fx:ST c ai an g A ae:=λe t J S a X hf h M b hw=>cb hf
theorem Fy(d:SB c ai an g A i):ST c ai an g A (U i):=λe t J S a X hf h M b hw=>d e t J S a X h (eqB hf) M b hw
theorem Ke{a:tl}(h:a.is_async=0):a=⟨a.target,a.iter,a.ifs,0⟩:=by cases a;cases h;rfl
noncomputable def Kg(c:aU)(ai:cp)(an:dy)(elt:bh)(bO:Option Nat)(cond:Option bh)(e:aH)(J:bo)(S:aA)(cZ:List V→aA→Prop)(X:bU):Prop:=∀ a:Prop,(∀ (ib target iter ifs scope pos cl cn),e=.ListComp ib [⟨target,iter,ifs,0⟩] scope pos→qu c J target iter ib ifs scope cl cn bO (λS b=>nT ai an cond S b λag ag=>False) (λS Q=>cG ai an elt S Q λag ag=>False)→i7 c J S iter J.env bO.isSome cZ X→J.bZ=ah→a)→a
theorem AZ(N:cN c ai an g A){elt:bh}{bO:Option Nat}{kind:Nat}{dd:List bh}{cond:Option bh}(W:ck c ai an g A elt)(m:uF c ai an g A dd)(T:ST c ai an g A cond){e:aH}{t:dJ}{J:bo}{S:aA}{cZ:List V→aA→Prop}{X:bU}
    (h:dq g t (.comp elt bO kind dd cond) e=af) (M:eo J t) (j:J.A=A) (hw:eP ai an dd S (λxs S=>gN kind xs λitems=>cZ items S) X):Kg c ai an elt bO cond e J S cZ X:=by
  refine(bD h) _ λq I b=>?_;refine aG (zl I) λp L=>(bD b) _ λf O b=>?_;refine hq b λD E F b=>(bD b) _ λargs P b=>?_;refine(bD b) _ λY i b=>?_;refine eS b λG o a=>(AY M E) _ λau x y B u n=>?_;refine uM n λcl cn v s k w r=>?_;obtain i:=v▸i;rw [← aX i] at o a;refine(λ_ aj=>aj q.1 f.target f.iter f.ifs q.2.2 p cl cn (L.trans (congrArg (λl=>Vs q.1 l q.2.2 p) ((hC O).trans (congrArg (λz=>[z]) (Ke (eqB D)))))) ⟨x,k,y,B,u,s,w,λC S Q d=>?_,λC S Q d=>W q.1 (oV t q.2.2 cn) _ S Q _ o (r C) j d⟩ (m kind bO f.iter args t J S _ cZ X P F G M j hw λxs Z q=>q) (M.bZ.trans au));by_cases hf:f.ifs.isEmpty=af
  · obtain a:=(if_pos hf)▸a;obtain d:=(lm.mp a)▸d;exact ac (eH.mp hf) (UD d)
  · obtain a:=(if_neg hf)▸a;refine(bD a) _ λH R a=>?_;exact cq a λf1 f2=>ac (hC R) (UE (T H (oV t q.2.2 cn) _ S Q _ f1 f2 (r C) j d))
theorem Jj(N:cN c ai an g A){elt:bh}{bO:Option Nat}{kind:Nat}{dd:List bh}{cond:Option bh}(k:ck c ai an g A elt)(a:uF c ai an g A dd)(j:ST c ai an g A cond):ck c ai an g A (.comp elt bO kind dd cond):=λe t J S Q X h M f hw=>by refine(AZ N k a j h M f hw) _ λib target iter ifs scope pos cl cn d b i au=>?_;exact ac d (Mn N.aW M.ok au b i λitems l q=>q)
theorem IL(a:ic i=0)(d:ck c ai an g A i):SB c ai an g A i:=λe t J S f X h hf M b hw=>L2 (d e t J S _ X h M b hw) (λx j q=>q) (OJ (hf.symm.trans a))
theorem IK(n:SB c ai an g A a):SB c ai an g A (.not a):=λe t J S k X i hf M m hw=>by refine(bD i) _ λq d h=>?_;refine aG (q7 d) λp j=>?_;clear d i hf;obtain rfl:=j;exact eS h λl f h2=>ac (eqB l) (L1 (n _ t J S (λb S=>k (!b) S) X h2 (eqB f) M m hw) λb o q=>q)
theorem II(N:cN c ai an g A)(s:ck c ai an g A a)(u:ck c ai an g A b):SB c ai an g A (.bi op a b):=λe t J S f X d hf M k hw=>by refine(bD d) _ λq j h=>?_;refine aG (zk j) λp l=>?_;clear j hf;obtain rfl:=l;refine cq h λd h=>(bD h) _ λr m h=>?_;exact eS h λo n h2=>ac (eqB d) (ac (hC m) (LZ N.aW N.T.base.ls M.ok (eR:=λx y S=>kO ai op x y S λz=>f z S) (s _ t J S (λx S=>cG ai an b S (λy S=>kO ai op x y S λz=>f z S) X) X n M k hw) (λx i q=>u _ t J i _ X h2 M k q) (λx i y aJ ag q=>q) (eqB o)))
theorem IH(k:jc c ai an g A es):SB c ai an g A (.eC op es):=λe t J S f X a hf M j hw=>by refine(bD a) _ λq b h=>?_;refine aG (zi b) λp d=>?_;clear b hf;obtain rfl:=d;exact eS h λa i h2=>ac (eqB a) (LY (k _ t J S op f X h2 i M j hw))
theorem IJ(u:SB c ai an g A hK)(r:SB c ai an g A a)(s:SB c ai an g A b):SB c ai an g A (.bn hK a b):=λe t J S d X k hf M i hw=>by refine(bD k) _ λq j h=>?_;refine aG (zv j) λp l=>?_;clear j k hf;obtain rfl:=l;exact jV h λf1 f2 m n h2 o=>L0 (u _ t J S (λc S=>if c=af then cG ai an a S (gW d) X else cG ai an b S (gW d) X) X n (eqB f1) M i hw) (λf q=>r _ t J f d X h2 (eqB f2) M i q) λf q=>s _ t J f d X o (eqB m) M i q
noncomputable abbrev uE(c:aU)(ai:cp)(an:dy)(g:en)(A:c6)(i:bh):Prop:=ck c ai an g A i∧SB c ai an g A i
theorem cW(b:ic i=0)(a:ck c ai an g A i):uE c ai an g A i:=⟨a,IL b a⟩
structure yL(c:aU)(ai:cp)(an:dy)(g:en)(A:c6)(is:List bh):Prop where
  l:SL c ai an g A is
  v:ot c ai an g A is
  a:jc c ai an g A is
  p:or c ai an g A is
  hd:∀ i,is=[i]→ck c ai an g A i
theorem Jn(o:ck c ai an g A a):ck c ai an g A (.rU a):=λe t J S Q X h M l hw W s m=>(o e t J S (BS Q) X h M l hw).next m .refl λv x r u s1 q hs1 bv ag b=>by refine(cy q) _ λb4 j q=>?_;rw [oG j] at b;refine aI (nE q) λxs f q=>aI b.BY λd i hd=>?_;clear b;obtain rfl:=i;exact dP (hs1.eZ _ d _ hd f) λvs n k p=>cR (hs1.NU hd f (λq=>nomatch q) k) λs2 t2 f2=>fin s2 (bv.trans t2) q (.list (cJ _ f2 rfl ⟨_,rfl⟩) (p.step t2))
theorem Fh(N:cN c ai an g A)(r:bh):uE c ai an g A r:=
  bh.rec (motive_1:=λr=>uE c ai an g A r) (motive_2:=λis=>yL c ai an g A is) (motive_3:=λo=>oq c ai an g A o∧ST c ai an g A o)
    (λk=>cW rfl (JH N)) (λk=>cW rfl (Jk N)) (λk=>cW rfl (Jq N)) (cW rfl Jz) (λb=>cW rfl Jv) (λb=>cW rfl Jx) (λb=>cW rfl (Jy N)) (λb=>cW rfl Jw)
    (λa h=>cW rfl (JC h.1)) (λa h=>⟨JD h.1,IK h.2⟩) (λop a b d ak=>cW rfl (Jf N d.1 ak.1)) (λop a b d ak=>⟨Ji N d.1 ak.1,II N d.1 ak.1⟩) (λop es h=>⟨Jg h.v,IH h.a⟩)
    (λc a b a4 d ak=>⟨Ju a4.2 d.1 ak.1,IJ a4.2 d.2 ak.2⟩) (λes h=>cW rfl (JG h.l)) (λes h=>cW rfl (JA h.l)) (λks es h=>cW rfl (Jl N h.p λag=>trivial)) (cW rfl Jo) (λi a h=>cW rfl (Jp N h.1)) (cW rfl Js) (λes h=>cW rfl (Jr h.l))
    (λf as hf d=>cW rfl (Jh N hf.1 d.l)) (λo n as q d=>cW rfl (JB N q.1 d.l)) (λk n as d=>cW rfl (JJ N d.l)) (λk=>cW rfl (JI N)) (λo n h=>cW rfl (Je N h.1)) (λo i q au=>cW rfl (Jt N q.1 au.1))
    (λo lo au q s hh=>cW rfl (JF N q.1 s.1 hh.1)) (λo h=>cW rfl (JE h.1)) (λelt bO kind dd cond he m a4=>cW rfl (Jj N he.1 (xc N m.l m.hd) a4.2)) (λdd h=>cW rfl (Jm N h.1)) (λa h=>cW rfl (Jn h.1))
    ⟨CC,FO,y7,Dv,λi e=>nomatch e⟩ (λi is h m=>⟨CB h.1 m.l,FN h.1 m.v,y6 h.2 m.a,Du N h.1 m.p,λj e=>(mE e).1▸h.1⟩)
    ⟨Qw,Fx⟩ (λi h=>⟨Qx h.1,Fy h.2⟩) r
theorem g6(N:cN c ai an g A)(a):ck c ai an g A a:=(Fh N a).1
theorem sR(N:cN c ai an g A)(a):SB c ai an g A a:=(Fh N a).2
theorem k3(N:cN c ai an g A):∀ is:List bh,yL c ai an g A is:=by
  intro is
  induction is with
  | nil=>
    exact⟨CC,FO,y7,Dv,λi e=>nomatch e⟩
  | cons i is b=>
    exact⟨CB (g6 N i) (b).l,FN (g6 N i) (b).v,y6 (sR N i) (b).a,Du N (g6 N i) (b).p,λj e=>(mE e).1▸g6 N i⟩
theorem TK(N:cN c ai an g A):∀ o:Option bh,ST c ai an g A o|none=>Fx|some i=>Fy (sR N i)
end
section
noncomputable def rA(t:dJ):List Nat→List aH→Bool
  | [],es=>es.isEmpty
  | k :: ks,es=>(match es with
    | []=>ah
    | e :: es=>(asName e).any (jZ t k)&&rA t ks es)
noncomputable def AO(t:dJ)(ks:List Nat)(ao:Bool)(e:aH):Bool:=match ao with|false=>(hB ks).any λk=>(asName e).any (jZ t k)|true=>(kM e).any (rA t ks)
noncomputable def vo(t:dJ):List Nat→List Str→Bool
  | [],xs=>xs.isEmpty
  | k :: ks,xs=>(match xs with
    | []=>ah
    | x :: xs=>jZ t k x&&vo t ks xs)
noncomputable def iW(aa:bJ)(b1:List aH):List Str:=b1.filterMap λ|.Name id pos=>if aa.names.lookup id==U .local&&pos.line==(b1.head?.map (·.pos.line)).getD 0 then U id else ae|_=>ae
noncomputable def Fs(aa:bJ)(b1 vs:List aH):Bool:=(b1.length==2 || b1.length==3)&&(vs.length==b1.length&&(vs.all noStar&&((iW aa b1).length==b1.length&&((iW aa b1).eraseDups.length==(iW aa b1).length&&(!vs.all (foldedForSure 8)&&!vs.all (constantsAlone 8))))))
noncomputable def Fq(aa:bJ)(b1:List aH):Bool:=(iW aa b1).length != b1.length
noncomputable def qS(e:cH)(h:e.ctorIdx=5):{p:(List aH)×aH×Pos // e=.Assign p.1 p.2.1 p.2.2}:=Stmt.Assign.elim (motive_2:=λe=>{p:(List aH)×aH×Pos // e=.Assign p.1 p.2.1 p.2.2}) e h λa b c=>⟨(a,b,c),rfl⟩
noncomputable def zf(e:cH):Option (List aH×aH×Pos):=if h:e.ctorIdx=5 then U ((qS e h).1.1,(qS e h).1.2.1,(qS e h).1.2.2) else ae
noncomputable def zq(e:cH)(h:e.ctorIdx=24):{p:aH×Pos // e=.Expr p.1 p.2}:=Stmt.Expr.elim (motive_2:=λe=>{p:aH×Pos // e=.Expr p.1 p.2}) e h λa b=>⟨(a,b),rfl⟩
noncomputable def zp(e:cH):Option aH:=if h:e.ctorIdx=24 then U (zq e h).1.1 else ae
noncomputable def zA(e:cH)(h:e.ctorIdx=3):{p:(Option aH)×Pos // e=.Return p.1 p.2}:=Stmt.Return.elim (motive_2:=λe=>{p:(Option aH)×Pos // e=.Return p.1 p.2}) e h λa b=>⟨(a,b),rfl⟩
noncomputable def q3(e:cH):Option (Option aH):=if h:e.ctorIdx=3 then U (zA e h).1.1 else ae
noncomputable def q0(e:cH)(h:e.ctorIdx=12):{p:aH×(List cH)×(List cH)×Pos // e=.If p.1 p.2.1 p.2.2.1 p.2.2.2}:=Stmt.If.elim (motive_2:=λe=>{p:aH×(List cH)×(List cH)×Pos // e=.If p.1 p.2.1 p.2.2.1 p.2.2.2}) e h λa b c d=>⟨(a,b,c,d),rfl⟩
noncomputable def zu(e:cH):Option (aH×List cH×List cH):=if h:e.ctorIdx=12 then U ((q0 e h).1.1,(q0 e h).1.2.1,(q0 e h).1.2.2.1) else ae
noncomputable def q8(e:cH)(h:e.ctorIdx=11):{p:aH×(List cH)×(List cH)×Pos // e=.While p.1 p.2.1 p.2.2.1 p.2.2.2}:=Stmt.While.elim (motive_2:=λe=>{p:aH×(List cH)×(List cH)×Pos // e=.While p.1 p.2.1 p.2.2.1 p.2.2.2}) e h λa b c d=>⟨(a,b,c,d),rfl⟩
noncomputable def zE(e:cH):Option (aH×List cH×List cH):=if h:e.ctorIdx=11 then U ((q8 e h).1.1,(q8 e h).1.2.1,(q8 e h).1.2.2.1) else ae
noncomputable def oF(e:cH)(h:e.ctorIdx=9):{p:aH×aH×(List cH)×(List cH)×Pos // e=.For p.1 p.2.1 p.2.2.1 p.2.2.2.1 p.2.2.2.2}:=Stmt.For.elim (motive_2:=λe=>{p:aH×aH×(List cH)×(List cH)×Pos // e=.For p.1 p.2.1 p.2.2.1 p.2.2.2.1 p.2.2.2.2}) e h λa b c d e=>⟨(a,b,c,d,e),rfl⟩
noncomputable def zr(e:cH):Option (aH×aH×List cH×List cH):=if h:e.ctorIdx=9 then U ((oF e h).1.1,(oF e h).1.2.1,(oF e h).1.2.2.1,(oF e h).1.2.2.2.1) else ae
noncomputable def u4(e:cH)(h:e.ctorIdx=16):{p:(Option aH)×(Option aH)×Pos // e=.Raise p.1 p.2.1 p.2.2}:=Stmt.Raise.elim (motive_2:=λe=>{p:(Option aH)×(Option aH)×Pos // e=.Raise p.1 p.2.1 p.2.2}) e h λa b c=>⟨(a,b,c),rfl⟩
noncomputable def zz(e:cH):Option (Option aH×Option aH):=if h:e.ctorIdx=16 then U ((u4 e h).1.1,(u4 e h).1.2.1) else ae
noncomputable def oL(e:cH)(h:e.ctorIdx=17):{p:(List cH)×(List nW)×(List cH)×(List cH)×Pos // e=.Try p.1 p.2.1 p.2.2.1 p.2.2.2.1 p.2.2.2.2}:=Stmt.Try.elim (motive_2:=λe=>{p:(List cH)×(List nW)×(List cH)×(List cH)×Pos // e=.Try p.1 p.2.1 p.2.2.1 p.2.2.2.1 p.2.2.2.2}) e h λa b c d e=>⟨(a,b,c,d,e),rfl⟩
noncomputable def u8(e:cH):Option (List cH×List nW×List cH×List cH):=if h:e.ctorIdx=17 then U ((oL e h).1.1,(oL e h).1.2.1,(oL e h).1.2.2.1,(oL e h).1.2.2.2.1) else ae
theorem Ik(h:zf s=U q):s=.Assign q.1 q.2.1 q.2.2:=eD h λq h=>by obtain rfl:=aX h;exact(qS s q).2
theorem Iq(h:zp s=U q):∃ p,s=.Expr q p:=eD h λq h=>by obtain rfl:=aX h;exact⟨_,(zq s q).2⟩
theorem u5(h:q3 s=U q):∃ p,s=.Return q p:=eD h λq h=>by obtain rfl:=aX h;exact⟨_,(zA s q).2⟩
theorem It(h:zu s=U q):∃ p,s=.If q.1 q.2.1 q.2.2 p:=eD h λq h=>by obtain rfl:=aX h;exact⟨_,(q0 s q).2⟩
theorem Ix(h:zE s=U q):∃ p,s=.While q.1 q.2.1 q.2.2 p:=eD h λq h=>by obtain rfl:=aX h;exact⟨_,(q8 s q).2⟩
theorem Ir(h:zr s=U q):∃ p,s=.For q.1 q.2.1 q.2.2.1 q.2.2.2 p:=eD h λq h=>by obtain rfl:=aX h;exact⟨_,(oF s q).2⟩
theorem Iv(h:zz s=U q):∃ p,s=.Raise q.1 q.2 p:=eD h λq h=>by obtain rfl:=aX h;exact⟨_,(u4 s q).2⟩
theorem zC(h:u8 s=U q):∃ p,s=.Try q.1 q.2.1 q.2.2.1 q.2.2.2 p:=eD h λq h=>by obtain rfl:=aX h;exact⟨_,(oL s q).2⟩
noncomputable def o5:nW→Option aH|.ExceptHandler t _ _ _=>t
noncomputable def B3:nW→Option Str|.ExceptHandler _ n _ _=>n
noncomputable def B2:nW→List cH|.ExceptHandler _ _ b _=>b
theorem Oa(h:nW):∃ p,h=.ExceptHandler (o5 h) (B3 h) (B2 h) p:=by cases h;exact⟨_,rfl⟩
noncomputable def iB(s:cH):Option (aH×aH):=(zf s).bind λq=>(hB q.1).map λt=>(t,q.2.1)
theorem jl(h:iB s=U q):∃ p,s=.Assign [q.1] q.2 p:=by refine(df h) _ λr a h=>?_;refine(eV h) _ λt b h=>?_;exact bG h ⟨r.2.2,(Ik a).trans (congrArg (λl=>Stmt.Assign l r.2.1 r.2.2) (hC b))⟩
noncomputable def AM(g:en)(t:dJ)(n:Str)(h:qA)(b:List cH):Bool:=match h with|.bH k=>((hB b).bind iB).any λq=>asName q.2==U n&&(asName q.1).any λx=>t.nm[k]?==U x&&t.aa.names.lookup x==U .local|.mr m=>(((hB b).bind q3).bind id).any λv=>(lN v).any λa=>asName a.1==U n&&a.2.1==g.ls m
mutual
noncomputable def A2(g:en)(t:dJ)(st:be)(s:cH):Bool:=match st with
  | .bH k e=>(iB s).any λq=>(asName q.1).any (jZ t k)&&(sq q.2&&dq g t e q.2)
  | .lP k _ elt bO kind dd cond=>(iB s).any λq=>(asName q.1).any (jZ t k)&&dq g t (.comp elt bO kind dd cond) q.2
  | .hr ks e=>(iB s).any λq=>(kM q.1).any λes=>rA t ks es&&((!nj q.2 || Fq t.aa es)&&dq g t e q.2)
  | .lQ ks es=>(iB s).any λq=>(kM q.1).any λb1=>(kM q.2).any λvs=>Fs t.aa b1 vs&&(vo t ks (iW t.aa b1)&&e7 g t es vs)
  | .nH k es=>(iB s).any λq=>(asName q.1).any (jZ t k)&&(q2 q.2).any λvs=>vs.all noStar&&e7 g t es vs
  | .pA k ks es=>(iB s).any λq=>(asName q.1).any (jZ t k)&&(m1 q.2).any λd=>oT g ks d.1&&(dup ks==ah&&(decide (ks.length≤15)&&(d.1.length==d.2.length&&(!d.1.isEmpty&&e7 g t es d.2))))
  | .fI k n e=>(iB s).any λq=>(lN q.1).any λa=>(asName a.1).any (lW t k)&&(kN g n a.2.1&&dq g t e q.2)
  | .kg o i e=>(iB s).any λq=>(m3 q.1).any λu=>dq g t e q.2&&(dq g t o u.1&&dq g t i u.2)
  | .nM k n e=>(iB s).any λq=>(m3 q.1).any λu=>(asName u.1).any (lW t k)&&((jj cStr u.2).any (kN g n)&&dq g t e q.2)
  | .ex e=>(zp s).any λv=>sq v&&dq g t e v
  | .ret e=>((q3 s).bind id).any λv=>dq g t e v
  | .ke=>(q3 s).any λv=>v.isNone
  | .bn c a b=>(zu s).any λq=>ic c==iH q.1&&(dq g t c q.1&&(ia g t a q.2.1&&ia g t b q.2.2))
  | .kl c b=>(zE s).any λq=>q.2.2.isEmpty&&(ic c==iH q.1&&(dq g t c q.1&&ia g t b q.2.1))
  | .gF bO ao kind dd b=>(zr s).any λq=>q.2.2.2.isEmpty&&(AO t bO ao q.1&&(wG q.2.1&&((!(kind==3 || kind==4) || ao)&&(ia g t b q.2.2.1&&(sS t kind q.2.1).any λargs=>e7 g t dd args))))
  | .e2 n as=>(zz s).any λq=>q.2.isNone&&(q.1.bind kL).any λu=>u.2.2.1.isEmpty&&(notAttr u.1&&(u.2.1.all noStar&&(g.r7 n&&(dq g t (.aO n) u.1&&e7 g t as u.2.1))))
  | .mx b=>(u8 s).any λq=>q.2.2.1.isEmpty&&(q.2.2.2.isEmpty&&(!q.2.1.isEmpty&&ia g t b q.1))
  | .nQ b n j h=>(u8 s).any λq=>q.2.2.1.isEmpty&&(q.2.2.2.isEmpty&&(hB q.2.1).any λhd=>((o5 hd).bind asName).any λf=>(B3 hd).any λx=>
      (x==kQ)==ah&&(lU t f&&(g.r7 n&&(g.gH n==f&&(t.nm[j]?==U x&&(t.aa.names.lookup x==U .local&&(AM g t x h (B2 hd)&&ia g t b q.1)))))))
noncomputable def ia(g:en)(t:dJ)(is:List be)(a:List cH):Bool:=match is with|[]=>a.isEmpty|i :: is=>(a.head?).any (λs=>A2 g t i s)&&ia g t is a.tail
end
section
variable{c:aU}{ai:cp}{an:dy}{g:en}{A:c6}{J:bo}{t:dJ}
theorem vp(M:eo J t):∀ {ks:List Nat} {es:List aH},rA t ks es=af→kH J ks es|[],es,h=>by rw [eH.mp h];exact .nil|k :: ks,[],h=>cb h|k :: ks,e :: es,h=>by refine cq h λa h2=>(bD a) _ λx d a=>?_;refine aG (fp d) λp b=>?_;obtain rfl:=b;exact .cons (rz M a) (vp M h2)
theorem JZ(M:eo J t)(h:AO t ks ao e=af):lH J ks ao e:=by
  cases ao with
  | true=>
    refine(bD h) _ λes b a=>?_;refine gE (lO b) λk p i=>?_;clear b h;obtain rfl:=i;exact .ao (vp M a)
  | false=>
    refine(bD h) _ λk b a=>?_;refine(bD a) _ λx d a=>?_;refine aG (fp d) λp f=>?_;clear d h;obtain rfl:=f;exact ac (hC b) (.one (rz M a))
theorem AN(M:eo J t):∀ {ks:List Nat} {ns:List Str},vo t ks ns=af→gU J ks ns|[],es,h=>by rw [eH.mp h];exact .nil|k :: ks,[],h=>cb h|k :: ks,e :: es,h=>by exact cq h λa h2=>.cons (rz M a) (AN M h2)
noncomputable def Fn:aH→Bool|.Starred ..=>af|_=>ah
noncomputable def xi(dQ fe:Bool)(ns:List Str)(n:Nat)(iD vk:Bool):Sem (Option (List Str)):=do
  if dQ then return ae
  if fe then return ae
  if ns.length != n || ns.eraseDups.length != ns.length then return ae
  if iD then return ae
  if vk then unsupported "assign.tuple-of-constant-expressions:order-of-the-stores"
  return U ns
theorem Ft:swappedStores [.Tuple b1 c9 b] (.Tuple vs a d) env=xi (!(b1.length==2 || b1.length==3) || vs.length != b1.length || env.blockKind != .function) (vs.any Fn) (iW env.scope b1) b1.length (vs.all (foldedForSure 8)) (vs.all (constantsAlone 8)):=by rfl
theorem Qn:∀ {vs:List aH},vs.all noStar=af→vs.any Fn=ah:=by
  intro vs
  induction vs with
  | nil=>
    intro _;exact rfl
  | cons e vs b=>
    intro h;refine cq h λa h2=>ac lg (ac (b h2) ?_);clear h;cases e <;>first | rfl | exact cb a
structure yQ(aa:bJ)(b1 vs:List aH):Prop where
  cg:(b1.length==2 || b1.length==3)=af
  UZ:vs.length=b1.length
  st:vs.all noStar=af
  nn:(iW aa b1).length=b1.length
  bT:(iW aa b1).eraseDups.length=(iW aa b1).length
  f1:vs.all (foldedForSure 8)=ah
  f2:vs.all (constantsAlone 8)=ah
theorem Um(h:Fs aa b1 vs=af):yQ aa b1 vs:=by exact oz h λa h2 b d e f i=>⟨a,eqB h2,b,eqB d,eqB e,(th _).mp f,(th _).mp i⟩
theorem Up(b:env.scope.kind=.function)(h:yQ env.scope b1 vs):swappedStores [.Tuple b1 c9 e] (.Tuple vs d f) env=pure (U (iW env.scope b1)):=by obtain a:env.blockKind=.function:=IX b;refine ac Ft (ac (Qn h.st) (ac h.f1 (ac h.f2 (ac a (ac h.cg (ac h.UZ ?_))))));unfold xi;simp [h.nn,h.bT]
theorem Uo(h:Fq env.scope b1=af):swappedStores [.Tuple b1 c9 d] value env=pure ae:=by
  cases a:kM value with
  | none=>exact Fu (by cases value <;>first | rfl | exact nn a.symm)
  | some vs=>
    refine gE (lO a) λk p b=>?_;clear a;obtain rfl:=b;refine ac Ft ?_;unfold xi;refine ac (show((iW env.scope b1).length != b1.length)=af from h) ?_;simp
end
end
section
variable(c:aU)(ai:cp)(an:dy)(g:en)(A:c6)
noncomputable def fy(st:be):Prop:=∀ s t J S Q X,A2 g t st s=af→t.bZ=ah→eo J t→J.A=A→wpS ai an st S Q X→dZ c J S (exec s J.env) Q X
noncomputable def iy(is:List be):Prop:=∀ a t J S Q X,ia g t is a=af→t.bZ=ah→eo J t→J.A=A→aZ ai an is S Q X→dZ c J S (execs a J.env) Q X
end
section
variable{c:aU}{ai:cp}{an:dy}{g:en}{A:c6}
theorem JY(N:cN c ai an g A)(M:eo J t)(q:AM g t n h b=af):ug c J n h b:=by
  cases h with
  | bH k=>
    refine(bD q) _ λr d q=>?_;refine(df d) _ λs e f=>?_;refine aG (jl f) λp i=>cq q λw q=>(bD q) _ λx j q=>?_;exact cq q λh2 B=>aG (fp (eqB w)) λy l=>aG (fp j) λC u=>(uS x C y p (by refine ac (hC e) ?_;refine ac i ?_;refine ac l ?_;exact ac u rfl) (M.nm▸eqB h2) (by show J.a8.scope.names.lookup _=_;refine ac M.l4 ?_;exact eqB B))
  | mr m=>
    refine(bD q) _ λv d q=>?_;refine(df d) _ λo e f=>?_;refine(df e) _ λs i j=>?_;refine aG (u5 j) λp l=>(bD q) _ λa u q=>?_;exact cq q λw h2=>aG (fp (eqB w)) λy z=>(HV a.2.1 y a.2.2 p (by refine ac (hC i) ?_;refine ac l ?_;refine ac (show o=U v from f) ?_;refine ac (oA u) ?_;exact ac z rfl) (N.ls▸eqB h2))
noncomputable def Qf(J:bo)(k:Nat)(e:aH):Prop:=∀ a:Prop,(∀ (x p),e=.Name x p→kF J k x→a)→a
theorem so(M:eo J t)(h:(asName e).any (jZ t k)=af):Qf J k e:=by refine(bD h) _ λx a h=>?_;exact aG (fp a) λp b=>(λ_ aj=>aj x p b (rz M h))
theorem C0(M:eo J t)(h:(asName e).any (lW t k)=af):∃ x p,e=.Name x p∧J.nm[k]?=U x∧kI J x:=by refine(bD h) _ λx a h=>?_;exact aG (fp a) λp b=>(h7 x p b (rB M h))
theorem S0(N:cN c ai an g A):fy c ai an g A (.bH k e):=λs t J S Q X h au M l hw=>by refine(bD h) _ λq a f=>?_;refine aG (jl a) λp b=>?_;(try clear a);(try clear h);obtain rfl:=b;refine eS f λi h2 j=>(so M i) _ λx o d m=>?_;exact ac d (rP M.ok (M.bZ.trans au) m (pM h2) (Md (d0:=λY S=>Q .next (S.dW (S.bB.set k (U Y)))) (g6 N e _ t J S (λx S=>Q .next (S.dW (S.bB.set k (U (.val x))))) X j M l hw)) λY n q=>q)
theorem S1(N:cN c ai an g A){cond:Option bh}:fy c ai an g A (.lP k mode elt bO kind dd cond):=λs t J S Q X h au M z hw=>by
  refine(bD h) _ ?_;intro q e v;refine aG (jl e) λp o=>?_;obtain rfl:=o;refine cq v λw h2=>?_;refine(so M w) _ ?_;intro x B r m;refine(AZ N (g6 N elt) (xc N (k3 N dd).l (k3 N dd).hd) (TK N cond) h2 M z
    (cZ:=λitems S=>items.length≤2^20∧dB (λx S k=>bindC bO x S λS=>nT ai an cond S (λb S=>if b then cG ai an elt S (λy S=>k (U y) S) (λag ag=>False) else k ae S) (λag ag=>False)) items (S.dc ([])) [] λys S=>nx mode ys (S.dc ([])) λY S=>Q .next (S.dW (S.bB.set k (U Y)))) hw) _ ?_;intro ib target iter ifs scope d cl cn u f j a
  refine ac r (ac u ?_);(try clear e);(try clear h);(try clear h);(try clear e);cases ak:(J.env.blockKind==.function&&J.env.kindOf x==U .local&&B.line==(Vs ib [⟨target,iter,ifs,0⟩] scope d).pos.line&&!(scope.names.any λ(n,k)=>n==x&&(k==.local || k==.cell))) with|true=>exact Na N.aW M.ok a f m (congrArg pure ak) j λitems i q=>q|false=>exact rP M.ok a m (congrArg pure ak) (Bz N.aW M.ok a f j λitems i q=>q) λY i q=>q
theorem S3(N:cN c ai an g A):fy c ai an g A (.hr ks e):=λs t J S Q X h au M l hw=>by
  refine(bD h) _ λq d a=>?_;(try clear h);refine aG (jl d) λp b=>?_;obtain rfl:=b;refine(bD a) _ λes f a=>?_;refine gE (lO f) λc9 n i=>eS a λj h2 k=>ac i (MN M.ok (M.bZ.trans au) (vp M j) ?_ (g6 N e _ t J S (λx S=>gb x λxs=>xs.length=ks.length∧Q .next (fu ks xs S)) X k M l hw) λx m q=>q);refine aS ((nV _ _).mp h2) (λh2=>?_) λh2=>?_
  · exact Fu ((th _).mp h2)
  · refine Uo (ac M.gn ?_);unfold dJ.gn;exact ac au h2
theorem S2(N:cN c ai an g A):fy c ai an g A (.lQ ks es):=λs t J S Q X h au M u hw=>by
  refine(bD h) _ λq d a=>?_;refine aG (jl d) λp i=>?_;(try clear d);(try clear h);obtain rfl:=i;refine(bD a) _ λb1 j a=>?_;refine(bD a) _ λvs k a=>?_;refine gE (lO j) λc9 x m=>gE (lO k) λw y n=>eS a λo h2 r=>ac m (ac n ?_);obtain b:J.env.scope=t.aa:=by refine ac M.gn ?_;unfold dJ.gn;refine ac au ?_;rfl
  have jc:=Um o;obtain f:=AN M h2;refine MM M.ok (M.bZ.trans au) f (b▸Up M.ok.jp (b.symm▸jc)) ((k3 N es).l _ t J S (λxs S=>xs.length=ks.length∧Q .next (fu ks.reverse xs.reverse S)) X _ r jc.st M u hw) λxs v q=>(bk ?_ q.1 q.2)
  refine ac q.1 (ac f.length (ac jc.nn ?_));refine aS ((nV _ _).mp jc.cg) (λe=>?_) λe=>?_ <;>refine ac (eqB e) ?_ <;>decide
theorem S8(N:cN c ai an g A):fy c ai an g A (.nH k es):=λs t J S Q X h au M o hw=>by refine(bD h) _ λq e a=>?_;(try clear h);refine aG (jl e) λp b=>?_;obtain rfl:=b;refine cq a λm a=>(so M m) _ λx u f r=>?_;refine(bD a) _ λvs i a=>?_;exact cq a λh2 n=>aG (u1 i) λv j=>ac f (ac j (rP M.ok (M.bZ.trans au) r (pM rfl) (Mc (d0:=λY S=>Q .next (S.dW (S.bB.set k (U Y)))) ((k3 N es).l _ t J S (λxs S=>j2 (gh xs.length (2^20)) (Q .next {S with bB:=S.bB.set k (U (.cv S.aR.length)),aR:=S.aR++[.list xs]})) X _ n h2 M o hw) λxs d q=>rW q) λY d q=>q))
theorem S7(N:cN c ai an g A):fy c ai an g A (.pA k ks es):=λs t J S Q X h au M y hw=>by
  refine(bD h) _ ?_;intro q l a;(try clear h);refine aG (jl l) λp i=>?_;obtain rfl:=i;refine cq a λr a=>?_;refine(so M r) _ ?_;intro x B m z;refine(bD a) _ ?_;intro d n a;refine aG (oE n) λC o=>?_;refine jV a λh2 u v f b w=>?_;refine aC (ry h2) λbX cw=>?_;refine ac m ?_;refine ac o ?_;exact rP M.ok (M.bZ.trans au) z (pM rfl) (Mb (d0:=λY S=>Q .next (S.dW (S.bB.set k (U Y)))) N.aW M.ok bX (eqB f) (λe=>by obtain b:=e▸b;exact cb b) (by refine bG cw ?_;exact of_decide_eq_true v) (eqB u) cw
    ((k3 N es).p _ _ _ t J S (λxs S=>dup ks=ah∧ks.length=xs.length∧ks.length≤15∧Q .next {S with bB:=S.bB.set k (U (.cv S.aR.length)),aR:=S.aR++[.cY (iF ks xs)]}) X _ h2 w (eqB f) M y hw) λxs j q ag=>q.2.2.2) λY j q=>q
theorem Tc(N:cN c ai an g A):fy c ai an g A (.fI k n e):=λs t J S Q X h au M o hw=>by refine(bD h) _ λq d b=>?_;refine aG (jl d) λp f=>?_;(try clear d);(try clear h);obtain rfl:=f;refine(bD b) _ λa i b=>?_;refine eS b λl h2 m=>dn (C0 M l) λx w j r u=>ac (oA i) (ac j (MT N.aW N.T M.ok r u (lV N h2).2 (g6 N e _ t J S (λx S=>bF (nA S k) λp=>(ai.lay p.2.2.1)[p.2.2.2.length]?=U n∧Q .next (S.dV (S.aR.set p.2.1 (.d4 p.2.2.1 p.1 (p.2.2.2++[x]))))) X m M o hw) λy v q=>?_));obtain q:=N.T.lay▸q;exact q
theorem Td(N:cN c ai an g A):fy c ai an g A (.kg o i e):=λs t J S Q X h au M b hw=>by
  refine(bD h) _ λq d a=>?_;(try clear h);refine aG (jl d) λp f=>?_;(try clear d);obtain rfl:=f;refine(bD a) _ λu k a=>?_;exact aG (oK k) λv l=>eS a λm h2 n=>ac l (MU N.aW M.ok (eR:=λy x S=>cG ai an i S (λz S=>nL x z y S λS=>Q .next S) X) (lE:=λy x z S=>nL x z y S λS=>Q .next S))
    (g6 N e _ t J S (λy S=>cG ai an o S (λo S=>cG ai an i S (λi S=>nL o i y S λS=>Q .next S) X) X) X m M b hw) (λy j q=>g6 N o _ t J j _ X h2 M b q) (λy x aJ q=>g6 N i _ t J aJ _ X n M b q) λy x z r q=>q
theorem Te(N:cN c ai an g A):fy c ai an g A (.nM k n e):=λs t J S Q X h au M B hw=>by refine(bD h) _ λq d b=>?_;refine aG (jl d) λp i=>?_;(try clear d);(try clear h);obtain rfl:=i;refine(bD b) _ λu j b=>?_;refine aG (oK j) λI l=>eS b λw h2 z=>dn (C0 M w) λx L m C E=>(bD h2) _ λa o h2=>?_;refine(jX o) _ λG c9 H r v=>?_;exact aC (lV N h2) λD f=>ac l (ac m (ac r (ac (vm v) (MV N.aW M.ok C E D f (g6 N e _ t J S (λx S=>bF (sx S k) λp=>p.2.length≤2^10∧Q .next (S.dV (S.aR.set p.1 (.cY (putN p.2 n x))))) X z M B hw) λy F q=>q))))
theorem S4(N:cN c ai an g A):fy c ai an g A (.ex e):=λs t J S Q X h au M i hw=>by refine(bD h) _ λq a d=>?_;refine aG (Iq a) λp b=>?_;(try clear a);(try clear h);obtain rfl:=b;exact cq d λf h2=>MO M.ok f (g6 N e _ t J S (λag S=>Q .next S) X h2 M i hw)
theorem Ta(N:cN c ai an g A):fy c ai an g A (.ret e):=λs t J S Q X h au M j hw=>by refine(bD h) _ λq a i=>?_;refine(df a) _ λo d f=>?_;(try clear a);(try clear h);refine aG (u5 d) λp b=>?_;obtain rfl:=b;exact ac (show o=U q from f) (MR (g6 N e _ t J S (ET Q) X i M j hw))
theorem Tb:fy c ai an g A .ke:=λs t J S Q X h au M e hw=>by refine(bD h) _ λo a d=>?_;refine aG (u5 a) λp b=>?_;(try clear a);(try clear h);obtain rfl:=b;exact ac (lm.mp d) (MS hw)
theorem S6(N:cN c ai an g A)(n:iy c ai an g A a)(o:iy c ai an g A b):fy c ai an g A (.bn hK a b):=λs t J S Q X h au M e hw=>by refine(bD h) _ λq f j=>?_;refine aG (It f) λp i=>?_;(try clear f);(try clear h);obtain rfl:=i;exact hq j λk h2 l m=>MP (sR N hK _ t J S (λc S=>if c=af then aZ ai an a S Q X else aZ ai an b S Q X) X h2 (eqB k) M e hw) (λd q=>n _ t J d Q X l au M e q) λd q=>o _ t J d Q X m au M e q
theorem Th(N:cN c ai an g A)(o:iy c ai an g A b):fy c ai an g A (.kl hK b):=λs t J S Q X h au M d hw=>by refine(bD h) _ λq a i=>?_;refine aG (Ix a) λp e=>?_;(try clear a);(try clear h);obtain rfl:=e;exact hq i λj h2 k l=>aG (show ∃ n,g9 (λS Q=>cG ai an hK S (gW Q) (λag ag=>False)) (λS Q=>aZ ai an b S Q (λag ag=>False)) n S Q from hw) λn m=>ac (eH.mp j) (Nc M.ok (λS f q=>sR N hK _ t J S f _ k (eqB h2) M d q) (λS Q q=>o _ t J S Q _ l au M d q) m)
theorem S5(N:cN c ai an g A)(w:iy c ai an g A b):fy c ai an g A (.gF bO ao kind dd b):=λs t J S Q X h au M i hw=>by
  refine(bD h) _ λq d a=>?_;refine aG (Ir d) λp k=>?_;obtain rfl:=k;refine jV a λo h2 r f u a=>(bD a) _ λargs n v=>?_;refine ac (eH.mp o) ?_;obtain e:(if ao=af then U 0 else ae:Option Nat).isSome=ao:=by(try clear a);(try clear f);(try clear h2);(try clear d);(try clear h);(try clear hw);(try clear h);(try clear d);(try clear a);cases ao <;>rfl
  obtain j:=xc N (k3 N dd).l (k3 N dd).hd kind (if ao=af then U 0 else ae) _ args t J S _ (λitems S=>forL bO ao (λS Q=>aZ ai an b S Q (λag ag=>False)) items S Q) X n (by refine ac e ?_;exact f) v M i hw λxs m q=>q;rw [e] at j;exact Nb M.ok (M.bZ.trans au) (JZ M h2) (C5 r) j (λS Q q=>w _ t J S Q _ u au M i q) λitems m q=>q
theorem BZ(h:o4 ai n=U C):ai.ju n=U (.a6 C):=by refine(df h) _ λv b h=>?_;cases v <;>first | exact b.trans (congrArg (λa=>U (V.a6 a)) (aX h)) | exact nn h
theorem S9(N:cN c ai an g A):fy c ai an g A (.e2 n as):=λs t J S Q X h au M i hw=>by
  refine(bD h) _ λq d a=>?_;refine aG (Iv d) λp k=>?_;obtain rfl:=k;refine cq a λr a=>(bD a) _ λu f a=>?_;refine(df f) _ λG m o=>?_;refine jV a λh2 w j y z B=>(cy (show bF (o4 ai n) λC=>eP ai an as S (λxs S=>bF (ai.exc C xs) λx=>X x S) X from hw)) _ λC b hw=>?_;have b:=BZ b
  refine ac (lm.mp r) (ac m (ac (mZ o) (ac (eH.mp h2) (MQ N.aW M.ok (C4 w) j (g6 N (.aO n) _ t J S (λv S'=>v=.a6 C∧S'=S) X z M i (cu b ⟨rfl,rfl⟩)) ((k3 N as).l _ t J S _ X _ B j M i hw) (by refine ac i ?_;exact N.depth) (by refine c0 (N.m9 n y) λE e q _=>?_;rw [b] at e;(try clear h);cases e;exact q) λxs F q=>?_))));refine(cy q) _ λx e D=>?_;exact aC (N.exc C xs x e) λd f=>⟨d,x,f,D⟩
theorem Tf(N:cN c ai an g A)(n:iy c ai an g A b):fy c ai an g A (.mx b):=λs t J S Q X h au M l hw=>by
  refine(bD h) _ λq f i=>?_;refine aG (zC f) λp e=>?_;obtain rfl:=e;refine hq i λj h2 d k=>ac (eH.mp j) (ac (eH.mp h2) ?_);obtain H:=n _ t J S Q (λag ag=>False) k au M l hw;cases m:q.2.1 with
  | nil=>obtain d:=m▸d;exact cb d
  | cons a as=>exact MW H
theorem Tg(N:cN c ai an g A)(Y:iy c ai an g A b):fy c ai an g A (.nQ b n j ak):=λs t J S Q X h au M W hw=>by
  refine(bD h) _ λq k a=>?_;refine aG (zC k) λp u=>?_;obtain rfl:=u;refine eS a λw y a=>(bD a) _ λhd z a=>?_;refine(bD a) _ λbm B a=>?_;refine(bD a) _ λx E a=>?_;refine(df B) _ λte F G=>?_;refine aG (fp G) λbs H=>aG (Oa hd) λbt d=>qN a λI h2 L i O P R V=>c0 (N.m9 n L) λD f _ v=>aI (N.T.aO n (.a6 D) f) λca o as=>aC (rx M h2) λZ am=>?_;obtain d:=E▸d;obtain d:=F▸d;obtain d:=H▸d;refine ac (eH.mp w) (ac (eH.mp y) (ac (hC z) (ac d ?_)));obtain i:=N.gH▸i;refine MX N.aW N.T M.ok (M.bZ.trans au) (Y _ t J S Q (λx S=>bF (o4 ai n) λD=>iQ x λC fs=>ai.hu C D=af∧r2 ai ak j (.a3 C fs) S Q) V au M W hw) Z (eqB I) am (eqB i▸o) as v (M.nm▸eqB O) (by show J.a8.scope.names.lookup _=_;refine ac M.l4 ?_;exact eqB P) (JY N M R) λx a2 q=>?_;refine(cy q) _ λa1 m q=>?_;refine(cy q) _ λp l e=>?_;refine aC e λr ap=>?_;clear e;have:=BZ m
  obtain this:=f▸this;(try clear m);(try clear q);(try clear k);(try clear h);cases this;exact aC (N.kV _ _ r) λdQ fe=>(dL p.1 p.2 (q1 l) (by refine ac (N.T.sub _ _ dQ fe) ?_;exact ac r rfl) ap)
theorem T3:iy c ai an g A []:=λb t J S Q X h au M a hw=>by refine ac (eH.mp h) ?_;exact Nf hw
theorem T2(f:fy c ai an g A i)(j:iy c ai an g A is):iy c ai an g A (i :: is):=λa t J S Q X h au M e hw=>by refine cq h λd h2=>?_;(try clear h);cases a with|nil=>exact cb d|cons s a=>exact Nd (f s t J S (ei Q λS=>aZ ai an is S Q X) X d au M e hw) (λb q=>j a t J b Q X h2 au M e q) λx b q=>q
theorem xf(N:cN c ai an g A)(is:List be):iy c ai an g A is:=
  be.rec_1 (motive_1:=λi=>fy c ai an g A i) (motive_2:=λis=>iy c ai an g A is) (λk e=>S0 N) (λk mode elt bO kind dd cond=>S1 N) (λks e=>S3 N) (λks es=>S2 N) (λk es=>S8 N) (λk ks es=>S7 N) (λk n e=>Tc N) (λo i e=>Td N) (λk n e=>Te N)
    (λe=>S4 N) (λe=>Ta N) Tb (λc a b f ak=>S6 N f ak) (λc b ak=>Th N ak) (λbO ao kind dd b ak=>S5 N ak) (λn as=>S9 N) (λb ak=>Tf N ak) (λb n j h ak=>Tg N ak) T3 (λi is au d=>T2 au d) is
end
section
set_option genCtorIdx false
set_option genSizeOf false
set_option genInjectivity false
structure Def where
  f:aq
  br:kE
  dC:List V
  body:List be
  cls:Bool
noncomputable def fill(np:Nat)(dC xs:List V):List V:=xs++dC.drop (xs.length+dC.length-np)
section
variable(ai:cp)(an:dy)(tab:aq→Option Def)
noncomputable def jY(rec:aq→List V→List aQ→el→el→Prop)(a:aq)(xs:List V)(G:List aQ)(Q X:el):Prop:=(match tab a with
    | none=>False
    | some d=>if d.cls then
        xs.length+1≤d.br.np∧d.br.np≤xs.length+1+d.dC.length∧∀ x,aZ {ai with call:=rec} an d.body ⟨gV d.br (.new x 0 :: (fill (d.br.np-1) d.dC xs).map .val),[.d4 a x []],G,[]⟩
          (λb aJ=>(match b with | .next=>True | .ret _=>False)∧∃ fs,aJ.aR[0]?=U (.d4 a x fs)∧Q (.a3 a fs) aJ.aE) (λx S=>X x S.aE)
      else
        xs.length≤d.br.np∧d.br.np≤xs.length+d.dC.length∧aZ {ai with call:=rec} an d.body ⟨gV d.br ((fill d.br.np d.dC xs).map .val),[],G,[]⟩ (λb S=>Q (match b with | .ret x=>x | .next=>.none) S.aE) (λx S=>X x S.aE))
noncomputable def h9:Nat→aq→List V→List aQ→el→el→Prop|0,_,_,_,_,_=>False|n+1,a,xs,G,Q,X=>jY ai an tab (h9 n) a xs G Q X
end
structure lF(c:aU)(ai:cp)(an:dy)(g:en):Prop where
  aW:c.Ok
  T:h5 c ai an
  ls:g.ls=c.ls
  nl:g.nl=c.nl
  gH:g.gH=ai.gH
  src:∀ k f,pK k=U f→hH c f (ec (sT k))
  len:hH c ("len":Str) (ec 12)
  m9:∀ n,g.r7 n=af→∃ C,ai.ju n=U (.a6 C)∧(∃ dD,jM c C dD)∧qt c C
  kV:∀ C D,ai.hu C D=af→ai.fC C=af∧ai.fC D=af
  exc:∀ C xs x,ai.exc C xs=U x→xs.length≤10∧ExcAt c C xs x
noncomputable abbrev dJ.def(br:kE):dJ:=⟨br.aa,br.nm,ah,br.aa,[]⟩
structure ky(c:aU)(g:en)(a:aq)(d:Def):Prop where
  keep:keepIn c.K (.ref a)=af
  br:d.br.Ok
  a6:∃ fd body args ds cK,FnAt c d.f fd d.br body∧ia g (.def d.br) d.body body=af∧fd.params=⟨[],args,ae,[],[],ae,ds⟩∧args.map (·.arg)=d.br.nm.take d.br.np∧((fd.defaults=.none∧cK=[])∨∃ T o n,fd.defaults=.ref T∧c.K.lookup T=U o∧o.data=.seq cK.toArray n)∧ba c c.ak [] cK d.dC∧d.dC.length+(if d.cls then 1 else 0)≤d.br.np
  cls:if d.cls then makesIn c.K a=af∧findIn c.K (.ref a) "__init__"= U (U (.ref d.f))∧typeIn c.K (.ref d.f)=U (.type "function") else a=d.f
section
variable{c:aU}{ai:cp}{an:dy}{g:en}{tab:aq→Option Def}
theorem h5.call(T:h5 c ai an)(f):h5 c {ai with call:=f} an where
  base:=⟨T.base.ls,T.base.wj,T.base.kV,T.base.Cm,T.base.Cn⟩
  lay:=T.lay
  jz:=T.jz
  sc:=T.sc
  sd:=T.sd
  aO:=T.aO
  bE:=T.bE
  bS:=T.bS
  set:=T.set
  pm:=T.pm
  sub:=T.sub
  pn:=T.pn
theorem lF.snd(X:lF c ai an g){f}(h:∀ J:bo,J.Ok→J.A=A→mR c {ai with call:=f} J)(hd:A.depth+2<recursionLimit):cN c {ai with call:=f} an g A where
  aW:=X.aW
  T:=X.T.call f
  ls:=X.ls
  nl:=X.nl
  gH:=X.gH
  src:=X.src
  len:=X.len
  calls:=h
  depth:=hd
  m9:=X.m9
  kV:=X.kV
  exc:=X.exc
theorem CQ(G:J.Ok)(F:FnAt c f fd br body)(K:br.Ok)(a:A.frames=U (J.a8 :: J.outer))(hh:A.handled=ae)(hd:A.depth+1<recursionLimit)(b:A.units+3+100<cLine):
    eo (sub J A (callEnvC fd L f) br.nm) (.def br) where
  ok:=Fp G F K a hh hd b
  nm:=rfl
  cn:=λh=>cb h
  bZ:=rfl
  l4:=F.scope
  gn:=F.scope
  ru:=λx d=>rv (by refine ac F.scope ?_;exact d)
  AL:=λh=>cb h
theorem BM(a:xs.length≤np)(h2:np≤xs.length+dC.length):(fill np dC xs).length=np:=by unfold fill;refine ac gP (ac qb (ac (tG _ h2) (ac (tC (xs.length) (dC.length)) ?_)));rewrite [Wl];exact ac (GA a) rfl
theorem Oo{a b n L:Nat}(h:b+2*(n+1)+4<L)(e:a≤b+2):a+2*n+4<L:=by lia
theorem Op{a b n L:Nat}(h:b+4*(n+1)+200<L)(e:a≤b+4):a+4*n+200<L:=by lia
theorem KF(h:1≤n):a+b-(n-1)=a+1+b-n:=by cases n with|zero=>exact absurd h (Wn 0)|succ m=>exact(Nat.add_sub_add_right (a+b) 1 m).symm.trans (congrArg (·-(m+1)) (nZ a b 1))
theorem KO(a:xs.length+1≤np)(h2:np≤xs.length+1+dC.length):(fill (np-1) dC xs).length+1=np:=by cases np with|zero=>exact absurd a (Wn _)|succ m=>show(fill m dC xs).length+1=_;exact ac (BM (Wm a) (Wm (by rw [nZ] at h2;exact h2))) rfl
structure oi(c:aU)(g:en)(Z:bz)(ga:List aq)(ak:bz)(d:Def)(fd:gx)(body:List cH)(args:List Arg)(cK:List ay):Prop where
  a6:FnAt c d.f fd d.br body
  A1:ia g (.def d.br) d.body body=af
  bt:∃ ds,fd.params=⟨[],args,ae,[],[],ae,ds⟩
  Ih:args.map (·.arg)=d.br.nm.take d.br.np
  len:args.length=d.br.np
  bT:(args.map (·.arg)).Nodup
  sD:ba c Z ga cK d.dC
  dl:d.dC.length+(if d.cls then 1 else 0)≤d.br.np
  Kq:∀ s':aP,c.K.In s'.heap→(fd.defaults=.none∧cK=[])∨∃ T o n,fd.defaults=.ref T∧s'.heap.get? T=U o∧o.data=.seq cK.toArray n
noncomputable def Hf(c:aU)(g:en)(d:Def)(Z:bz)(ga:List aq):Prop:=∀ a:Prop,(∀ (fd body args cK),oi c g Z ga c.ak d fd body args cK→a)→a
theorem ky.now(h:ky c g a d)(k:∀ b o,c.ak.get? b=U o→Z.get? b=U o):Hf c g d Z ga:=by refine HN h.a6 λfd body args ds cK F a4 bt e j l i=>?_;exact λ_ aj=>aj fd body args cK ⟨F,a4,⟨ds,bt⟩,e,by refine bG (fn (f:=(·.arg))) ?_;refine ac e ?_;refine ac jI ?_;exact n1 h.br.np,by refine ac e ?_;exact h.br.nodup.sublist (Gx _ _),l.mono k ⟨_,rfl⟩,i,λs' m=>j.imp id λs=>by refine kK s λT o n p q r=>?_;exact(lK T o n p (m _ _ q) r)⟩
theorem oi.bind(N:oi c g Z ga c.ak d fd body args cK)(a:c.K.In s'.heap)(b:vs.length≤d.br.np)(h2:d.br.np≤vs.length+d.dC.length):
    mB s' fd ⟨vs,[]⟩ ((d.br.nm.take d.br.np).zip (vs++cK.drop (vs.length+d.dC.length-d.br.np))):=by
  refine aG N.bt λds bt=>?_;obtain h:=Az (vs:=vs) bt N.bT (N.Kq s' a) (by refine ac N.len ?_;exact b) (by refine ac N.len ?_;refine ac N.sD.length ?_;exact h2) (by refine ac N.len ?_;refine ac N.sD.length ?_;exact dt (eA _ _) N.dl);obtain h:=N.Ih▸h;obtain h:=N.len▸h;obtain h:=N.sD.length▸h;exact h
theorem oi.fill(N:oi c g Z ga c.ak d fd body args cK)(r:ba c Z ga vs xs):ba c Z ga (vs++cK.drop (vs.length+d.dC.length-np)) (fill np d.dC xs):=by unfold Internal.fill;exact ac r.length (r.append (N.sD.drop _))
section
variable{J:bo}{S:aA}{n:Nat}{a:aq}{d:Def}{xs:List V}{Q jS:bU}{f:aq→List V→List aQ→el→el→Prop}
theorem JL(X:lF c ai an g)(b:ky c g a d)(G:J.Ok)(hd:J.A.depth+4<recursionLimit)(y:J.A.units+104<cLine)(E:∀ bW:bo,bW.Ok→bW.A.depth≤J.A.depth+2→bW.A.units≤J.A.units+4→mR c {ai with call:=f} bW)(p:d.cls=ah)
    (w:xs.length≤d.br.np) (h2:d.br.np≤xs.length+d.dC.length) (D:aZ {ai with call:=f} an d.body ⟨gV d.br ((fill d.br.np d.dC xs).map .val),[],S.aE,[]⟩ (λj m=>Q (match j with | .ret x=>x | .next=>.none) (S.b8 m.aE)) (λx m=>jS x (S.b8 m.aE))) (r:av c J S W s) (t:ba c (ar J S W s.heap) W.ga vs xs):aD c.M J.A (call (.ref a) vs) (bQ c J S W s Q) (dG c J S W s jS) s:=by
  refine(b.now (g:=g) (vV r) (ga:=W.ga)) _ ?_;intro fd body args cK N;obtain l:=b.cls;rw [if_neg (by refine ac p ?_;exact λq=>cb q)] at l;refine ac l ?_;obtain C:c.K.In s.heap:=X.aW.X.keeps r.keep;obtain u:=N.fill (np:=d.br.np) t;refine mQ (AI (A:=J.A) (sm:=s) (aR:=[]) (la:=[]) X.aW G r N.a6 b.br G.frames G.handled (ew hd rfl) (ew (k:=103) y rfl) (λag ag e=>e) (bk rfl rfl rfl) rfl .nil (λag h=>absurd h c4)
    (N.bind C (by refine ac t.length ?_;exact w) (by refine ac t.length ?_;exact h2)) (by rewrite [fn];exact ac (BM w h2) rfl) (λZ bX cw=>⟨(u.mono bX (.refl _)).toS,λag ag i a o e ag=>by simp at e⟩)
    (λL=>xf (X.snd (λbW z e=>E bW z (by refine ac e ?_;exact i4 _) (by refine ac e ?_;exact i4 _)) (ew (k:=3) hd rfl)) d.body body (.def d.br) _ _ _ _ N.A1 rfl
      (CQ G N.a6 b.br G.frames G.handled (ew hd rfl) (ew (k:=103) y rfl)) rfl D) (λv j aJ W' s' B F q sat st u ag ag ag=>(λ_ aj=>aj _ _ W' q sat st u)) λe x aJ W' s' q sat st j=>(λ_ aj=>aj x _ W' q sat st j))
theorem JK(X:lF c ai an g)(h:ky c g a d)(G:J.Ok)(hd:J.A.depth+4<recursionLimit)(t:J.A.units+104<cLine)(C:∀ bW:bo,bW.Ok→bW.A.depth≤J.A.depth+2→bW.A.units≤J.A.units+4→mR c {ai with call:=f} bW)(m:d.cls=af)
    (l:xs.length+1≤d.br.np) (h2:d.br.np≤xs.length+1+d.dC.length) (B:∀ x,aZ {ai with call:=f} an d.body ⟨gV d.br (.new x 0 :: (fill (d.br.np-1) d.dC xs).map .val),[.d4 a x []],S.aE,[]⟩
          (λj aJ=>(match j with | .next=>True | .ret _=>False)∧∃ fs,aJ.aR[0]?=U (.d4 a x fs)∧Q (.a3 a fs) (S.b8 aJ.aE)) (λx y=>jS x (S.b8 y.aE))) (r:av c J S W s) (o:ba c (ar J S W s.heap) W.ga vs xs):aD c.M J.A (call (.ref a) vs) (bQ c J S W s Q) (dG c J S W s jS) s:=by
  refine(h.now (g:=g) (vV r) (ga:=W.ga)) _ ?_;intro fd body args cK N;obtain i:=h.cls;rw [if_pos m] at i;refine cR i λdQ fe hL=>?_;obtain p:=N.fill (np:=d.br.np-1) o;obtain z:=KF (a:=vs.length) (b:=d.dC.length) (dt (jJ 1 _) l);refine call_cls X.aW G r dQ fe hL N.a6 h.br (ew hd rfl) (ew (k:=104) t rfl) (λx s' w=>by have:=N.bind (vs:=x :: vs) w (by refine ac gg ?_;refine ac o.length ?_;exact l) (by refine ac gg ?_;refine ac o.length ?_;exact h2);rw [gg,← z] at this;exact this) (KO l h2) p
    (λx L=>xf (X.snd (λbW u e=>C bW u (by refine ac e ?_;exact eg _) (by refine ac e ?_;exact eg _)) (ew (k:=4) hd rfl)) d.body body (.def d.br) _ _ _ _ N.A1 rfl
      (CQ G N.a6 h.br (by rw [FJ];exact G.frames) (by rw [FK];exact G.handled) (ew (k:=2) hd rfl) (ew (k:=104) t rfl)) rfl (B x))
    (uD:=λx g=>Q x (S.b8 g)) (λv x g W' s' q sat st p=>(λ_ aj=>aj _ _ W' q sat st p)) λe x aJ W' s' q sat st j=>(λ_ aj=>aj x _ W' q sat st j)
end
theorem JM(X:lF c ai an g)(D:∀ a d,tab a=U d→ky c g a d):∀ n J,J.Ok→J.A.depth+2*n+4<recursionLimit→J.A.units+4*n+200<cLine→mR c {ai with call:=h9 ai an tab n} J
 :=by
  intro n
  induction n with
  | zero=>exact λag ag ag ag ag ag ag ag ag h=>h.elim
  | succ n r=>
    intro J G hd p a xs S Q jS h;obtain q:∀ bW:bo,bW.Ok→bW.A.depth≤J.A.depth+2→bW.A.units≤J.A.units+4→mR c {ai with call:=h9 ai an tab n} bW:=λbW u v w=>r bW u (Oo hd v) (Op p w);obtain h:h9 ai an tab (n+1) a xs S.aE (λx g=>Q x (S.b8 g)) (λx g=>jS x (S.b8 g)):=h;obtain h:jY ai an tab (h9 ai an tab n) a xs S.aE (λx g=>Q x (S.b8 g)) (λx g=>jS x (S.b8 g)):=h
    delta jY at h
    cases l:tab a with
    | none=>obtain h:=l▸h;exact h.elim
    | some d=>
      obtain h:=l▸h;obtain i:=D a d l;refine⟨i.keep,λW s vs o t=>?_⟩;obtain b:J.A.depth+4<recursionLimit:=eB (tD (eA _ _) 4) hd;obtain f:J.A.units+104<cLine:=eB (xN (eA _ _) (al rfl)) p;refine aS (ig h) (λm=>hp m λe j h2 k=>?_) λm=>hp m λe j h2 k=>?_
      · exact JK X i G b f q e j h2 k o t
      · exact JL X i G b f q (Vj.mpr e) j h2 k o t
end
end
section
noncomputable def FM(v:ay)(h:v.ctorIdx=8):{p:String // v=.type p}:=Value.type.elim (motive:=λv=>{p:String // v=.type p}) v h λa=>⟨a,rfl⟩
noncomputable def s5(v:ay):Option String:=if h:v.ctorIdx=8 then U (FM v h).1 else ae
theorem xq(h:s5 v=U t):v=.type t:=eD h λq h=>by obtain rfl:=aX h;exact(FM v q).2
noncomputable def FL(v:ay)(h:v.ctorIdx=10):{p:aq // v=.ref p}:=WG (motive:=λv=>{p:aq // v=.ref p}) v h λa=>⟨a,rfl⟩
noncomputable def xp(v:ay):Option aq:=if h:v.ctorIdx=10 then U (FL v h).1 else ae
theorem UV(h:xp v=U t):v=.ref t:=eD h λq h=>by obtain rfl:=aX h;exact(FL v q).2
noncomputable def Ba(v:Data)(h:v.ctorIdx=7):{p:gx // v=.func p}:=Data.func.elim (motive:=λv=>{p:gx // v=.func p}) v h λa=>⟨a,rfl⟩
noncomputable def A9(v:Data):Option gx:=if h:v.ctorIdx=7 then U (Ba v h).1 else ae
theorem Bb(h:A9 v=U t):v=.func t:=eD h λq h=>by obtain rfl:=aX h;exact(Ba v q).2
noncomputable def Bd(v:Data)(h:v.ctorIdx=2):{p:Array ay×Nat // v=.seq p.1 p.2}:=Data.seq.elim (motive:=λv=>{p:Array ay×Nat // v=.seq p.1 p.2}) v h λa b=>⟨(a,b),rfl⟩
noncomputable def Bc(v:Data):Option (Array ay×Nat):=if h:v.ctorIdx=2 then U (Bd v h).1 else ae
theorem Kl(h:Bc v=U t):v=.seq t.1 t.2:=eD h λq h=>by obtain rfl:=aX h;exact(Bd v q).2
theorem Av{α:Type}{b:Bool}{x y:α}(h:(bif b then U x else ae)=U y):b=af∧x=y:=by cases b with|false=>exact nn h|true=>exact⟨rfl,aX h⟩
noncomputable def xd(K:de)(a:aq)(t:String):Option (List ay):=(K.lookup a).bind λo=>(s5 o.cls).bind λc=>(Bc o.data).bind λp=>bif c==t then U p.1.toList else ae
noncomputable def Tj(K:de)(a:aq)(t:String)(vs:List ay):Prop:=∀ b:Prop,(∀ (o n),K.lookup a=U o→o.cls=.type t→o.data=.seq vs.toArray n→b)→b
theorem Fa{K:de}(h:xd K a t=U vs):Tj K a t vs:=by refine(df h) _ λo b h=>?_;refine(df h) _ λc d h=>?_;refine(df h) _ λp e h=>?_;exact aC (Av h) λf h2=>(λ_ aj=>aj o p.2 b (eqB f▸xq d) (h2▸Kl e))
section
variable(K:de)(ls:Nat→Str)(nl:Nat)
mutual
noncomputable def sF(v:ay):V→Bool
  | .none=>v==.none
  | .bool b=>v==.bool b
  | .int i=>(match v with | .int j _=>j==i | _=>ah)
  | .lit n=>decide (n<nl)&&(match v with | .str s _=>s==ls n | _=>ah)
  | .ao xs=>((xp v).any λa=>(xd K a "tuple").any λvs=>pF vs xs)
  | .a6 a=>v==.ref a&&keepIn K (.ref a)
  | .cC n=>v==ec n&&decide (n≤15)
  | _=>ah
noncomputable def pF(vs:List ay):List V→Bool|[]=>vs.isEmpty|x :: xs=>(match vs with | []=>ah | v :: vs=>sF v x&&pF vs xs)
end
noncomputable def kU(x:Str)(v:ay):Bool:=nsIn K mainGlobals x==U (U v) || (nsIn K mainGlobals x==U ae&&(x != "__name__"&& bootBuiltins x==U v))
noncomputable def BW(x:Str)(X:V):Bool:=match X with|.cC n=>decide (n≤15)&&kU K x (ec n)|X=>(match nsIn K mainGlobals x with | some (U v)=>sF K ls nl v X | _=>ah)
end
section
variable{c:aU}
theorem rZ(aW:c.Ok)(h:kU c.K x v=af):hH c x v:=by
  refine aS (ti.mp h) (λh=>?_) λh=>?_
  · exact .inl (mg_of aW.X aW.T.g (eqB h))
  · exact eS h λa h2 b=>.inr ⟨mg_none_of aW.X aW.T.g (eqB a),(aW.T.builtins x (bne_iff_ne.mp h2)).trans (eqB b)⟩
mutual
theorem ER(aW:c.Ok){v:ay}:∀ {X:V},sF c.K c.ls c.nl v X=af→aK c c.ak [] v X
  | .none,h=>(eqB h:v=_)▸.none
  | .bool b,h=>(eqB h:v=_)▸.bool b
  | .int i,h=>by cases v <;>first | exact cb h | exact(eqB h:_=i)▸.int _ _
  | .lit n,h=>by refine cq h λd h=>?_;cases v <;>first | exact cb h | exact .lit n _ (by rw [eqB h]) (of_decide_eq_true d)
  | .ao xs,h=>by
    cases v <;>first | exact cb h | skip
    refine(bD h) _ λvs e h=>?_;refine(Fa e) _ λo n f g j=>?_;exact .ao ⟨o,aW.X _ _ f,g,n,j⟩ (w7 aW h)
  | .a6 a,h=>by refine aC (eK h) λd h2=>?_;exact(eqB d:v=_)▸.a6 a h2
  | .cC n,h=>by refine aC (eK h) λd h2=>?_;exact .cC n (eqB d) (of_decide_eq_true h2)
  | .str _,h=>cb h
  | .bytes _,h=>cb h
  | .list _,h=>cb h
  | .dict _,h=>cb h
  | .a3 _ _,h=>cb h
  | .aB _,h=>cb h
theorem w7(aW:c.Ok):∀ {xs:List V},pF c.K c.ls c.nl vs xs=af→ba c c.ak [] vs xs
  | [],h=>by cases vs <;>first | exact .nil | exact cb h
  | x :: xs,h=>by
    cases vs <;>first | exact cb h | skip
    exact cq h λa h2=>.cons (ER aW a) (w7 aW h2)
end
theorem N5(aW:c.Ok)(h:BW c.K c.ls c.nl x X=af):∃ v,hH c x v∧aK c c.ak [] v X:=by
  have other:(match nsIn c.K mainGlobals x with | some (U v)=>sF c.K c.ls c.nl v X | _=>ah)=af→∃ v,hH c x v∧aK c c.ak [] v X:=λh=>by
    split at h
    · rename_i v e;exact(aM v (.inl (mg_of aW.X aW.T.g e)) (ER aW h))
    · exact cb h
  cases X with|cC n=>refine aC (eK h) λa h2=>?_;exact(aM _ (rZ aW h2) (.cC n rfl (of_decide_eq_true a)))|_=>exact other h
end
noncomputable def vq(K:de)(C:aq):Bool:=(plainGet K C "__class__" || oZ K C)&&(hasDictIn K C&&(findIn K (.ref C) "__class__"== U (U (.builtin "object.__class__"))&&(specialIn K (.builtin "object.__class__") "__get__"== U (U (.builtin "getset_descriptor.__get__")) &&
  (takesIn K (.builtin "object.__class__")==U af&&mroIn K C (.type "object")==U af))))
theorem J3{K:de}(h:vq K C=af):KitX K (.ref x) (.ref C) (λh=>uh h x C):=by
  refine jV h λf h2 g i j k=>?_;have Z:∀ ox od,KitX K (.ref x) (.ref C) (λh=>InstAt h x ox C (U od)):=λox od=>by
    refine aS (ti.mp f) (λf=>?_) λf=>?_
    · exact kitx_own f h2 (eqB g) (eqB i) (eqB j) (eqB k)
    · exact Po f h2 (eqB g) (eqB i) (eqB j) (eqB k)
  exact⟨λM h X o=>o _ λox cP ds n a b c d e=>(Z ox _).ty M h X (l9 a b c d e),λM h X m=>m _ λox cP ds n a b c d e=>(Z ox _).it M h X (l9 a b c d e),(Z default default).ne,λX l q=>l _ λox cP ds n a b c d e=>(Z ox _).ca X (l9 a b c d e) q⟩
noncomputable def zI(K:de)(C:aq)(x:Str):Bool:=(plainGet K C x || oZ K C)&&(hasDictIn K C&&((findIn K (.ref C) x).any (noGet K)&&(findIn K (.ref C) "__setattr__"== U (U (.builtin "object.__setattr__"))&&(nG K C&&takerIn K C x==U ae))))
theorem zJ(h:zI c.K C x=af):qs c C x∧uG c C x:=by
  refine jV h λb h2 d f g i=>(bD d) _ λa e d=>?_;refine⟨?_,Fb (eqB f) g (eqB i) h2⟩;refine aS (ti.mp b) (λb=>?_) λb=>?_
  · exact IF b h2 e d
  · exact IE b h2 e d
noncomputable def CU(K:de)(C:aq)(x:Str)(f:aq):Bool:=plainGet K C x&&(findIn K (.ref C) x==U (U (.ref f))&&(isFn K (.ref f)&&keepIn K (.ref f)))
theorem PY(h:CU c.K C x f=af):uC c C x f∧keepIn c.K (.ref f)=af:=by exact hq h λa h2 b d=>⟨P1 a (eqB h2) b,d⟩
noncomputable def kS(K:de)(f:aq):Option gx:=(K.lookup f).bind λo=>A9 o.data
theorem NV{K:de}(h:kS K f=U fd):∃ oc od iS,K.lookup f=U ⟨oc,od,.func fd,iS⟩:=by refine(df h) _ λo a h=>?_;exact(y0 o.cls o.dict o.slots (by refine ac a ?_;exact bG (Bb h) rfl))
noncomputable def fh(K:de)(f:aq):bJ:=((kS K f).map (·.scope)).getD ⟨.function,[],ah,ah,[]⟩
noncomputable def bodyOf:FuncBody→Option (List cH)|.stmts b=>U b|_=>ae
theorem I4(h:bodyOf x=U b):x=.stmts b:=by
  unfold bodyOf at h;split at h
  · exact bG (aX h) rfl
  · exact nn h
noncomputable def uW(p:Arguments):Option (List Arg):=bif p.posonlyargs.isEmpty&&(p.vararg.isNone&&(p.kwonlyargs.isEmpty&&(p.kw_defaults.isEmpty&&p.kwarg.isNone))) then U p.args else ae
theorem ze{p:Arguments}(h:uW p=U as):∃ ds,p=⟨[],as,ae,[],[],ae,ds⟩:=by obtain⟨j,a,k,g,c9,i,ds⟩:=p;exact aC (Av h) λh e=>oy h λb h2 c d f=>ac (show j=[] from eH.mp b) (ac (show k=ae from lm.mp h2) (ac (show g=[] from eH.mp c) (ac (show c9=[] from eH.mp d) (ac (show i=ae from lm.mp f) (ac (show a=as from e) ⟨ds,rfl⟩)))))
noncomputable def wb(v:ay):Bool:=v.ctorIdx==0
theorem OG(h:wb v=af):v=.none:=Value.none.elim (motive:=λv=>v=.none) v (eqB h) rfl
noncomputable def rL(K:de)(v:ay):Option (List ay):=bif wb v then U [] else(xp v).bind λa=>xd K a "tuple"
theorem Bm{K:de}(h:rL K v=U l):(v=.none∧l=[])∨∃ T o n,v=.ref T∧K.lookup T=U o∧o.data=.seq l.toArray n:=by
  unfold rL at h;cases e:wb v with
  | true=>obtain h:=e▸h;exact .inl ⟨OG e,(aX h).symm⟩
  | false=>
    obtain h:=e▸h;refine(df h) _ λa b h=>?_;refine(Fa h) _ λo n c _ d=>?_;exact .inr (lK a o n (UV b) c d)
theorem wD:∀ {l:List Str},mh l=af→l.Nodup:=by
  intro l
  induction l with
  | nil=>
    intro _;exact .nil
  | cons x r b=>
    intro h;exact cq h λa h2=>e5.mpr ⟨λm=>by obtain a:=(tv.mpr m)▸a;exact cb a,b h2⟩
noncomputable def vX(K:de)(fd:gx):Bool:=codeIn K fd.code fd.qualname&&(fd.globals==mainGlobals&&(fd.builtins==builtinsNs&&(fd.closure.isEmpty&&(fd.scope.kind==.function&&(!fd.scope.isCoroutine&&!fd.scope.isGenerator)))))
structure Hh(K:de)(fd:gx):Prop where
  code:codeIn K fd.code fd.qualname=af
  aO:fd.globals=mainGlobals
  blt:fd.builtins=builtinsNs
  m6:fd.closure=[]
  kind:fd.scope.kind=.function
  co:fd.scope.isCoroutine=ah
  gen:fd.scope.isGenerator=ah
theorem B4{K:de}{fd:gx}(h:vX K fd=af):Hh K fd:=by exact oz h λa h2 b c d e f=>⟨a,eqB h2,eqB b,eH.mp c,eqB d,by simpa using e,by simpa using f⟩
noncomputable def I2(K:de)(ls:Nat→Str)(nl:Nat)(g:en)(d:Def)(fd:gx):Bool:=(bodyOf fd.body).any (λb=>ia g (.def d.br) d.body b)&&((uW fd.params).any (λas=>as.map (·.arg)==d.br.nm.take d.br.np)&&((rL K fd.defaults).any (λvs=>pF K ls nl vs d.dC)&&decide (d.dC.length+(if d.cls then 1 else 0)≤d.br.np)))
noncomputable def Ts(br:kE):Bool:=mh (br.aa.names.map (·.1))&&(mh br.nm&&(br.nm.all (wi br.aa)&&decide (br.np≤br.nm.length)))
noncomputable def Be(K:de)(ls:Nat→Str)(nl:Nat)(g:en)(a:aq)(d:Def):Bool:=
  keepIn K (.ref a)&&((kS K d.f).any (λfd=>vX K fd&&I2 K ls nl g d fd)&&(Ts d.br &&
    if d.cls then makesIn K a&&(findIn K (.ref a) "__init__"== U (U (.ref d.f))&&typeIn K (.ref d.f)==U (.type "function")) else a==d.f))
theorem Kn{c:aU}(aW:c.Ok)(o:d.br.aa=fh c.K d.f)(h:Be c.K c.ls c.nl g a d=af):ky c g a d:=by
  refine hq h λm h2 n e=>(bD h2) _ λfd j h2=>?_;refine cq h2 λhh ak=>?_;obtain H:=B4 hh;refine hq ak λb0 cB eh c1=>(bD b0) _ λbody k b0=>?_;refine(bD cB) _ λas i cB=>?_;refine(bD eh) _ λvs l eh=>?_;refine aG (ze i) λds i=>hq n λs1 s2 s t=>?_;obtain b:fd.scope=d.br.aa:=by refine ac o ?_;unfold fh;refine ac j ?_;rfl
  refine⟨m,⟨b▸H.kind,b▸H.co,b▸H.gen,wD s1,wD s2,i2.mp s,of_decide_eq_true t⟩,HX fd body as ds vs ⟨NV j,H.code,H.aO,H.blt,H.m6,b,I4 k⟩ b0 i (eqB cB) (Bm l) (w7 aW eh) (of_decide_eq_true c1),?_⟩;cases a4:d.cls with
  | true=>
    obtain e:=a4▸e;exact eS e λp q r=>(bk p (eqB q) (eqB r))
  | false=>obtain e:=a4▸e;exact eqB e
end
section
set_option genCtorIdx false
set_option backward.match.sparseCases false
set_option genSizeOf false
set_option genInjectivity false
noncomputable def mf:List Str:=((["append","join","top","places","text","octets","is_hex","head","number","generation","null","truth","int","real","name","string","array","dict","stream","ref","no object","table","trailer","get","fetch","Root","numbers","Names","Nums","a key is of the wrong kind","a node is no dict"," is no array","a key has no value","Limits","Limits are not two keys","a node lies within itself","the tree is too deep","pop","Kids","extend","shelf","word","faults","seen","keys",": ","count",".","note","too deep","met before","is_new","no dict","both Kids and ","neither Kids nor ","take_pairs","visit","hold_limits","a key out of order","root","Limits at the root","no Limits","wrong Limits","no file of this name is embedded","EF","F","UF","Params","","Size","wrong Size","CheckSum","wrong CheckSum","no stream is embedded","no file specification","no stream","what","tree: ","add","r0","r1","r2","r3","r4","r5","r6","r7","r8","P","ModDate","Length","n","DOS","Type","Filespec","at","r","no","EmbeddedFiles","told","law","self"]:List String).map ek)
noncomputable def bR(n:Nat):Str:=mf.getD n ""
noncomputable abbrev iO:Nat:=102
noncomputable def vT:List Str:=((["SCALE","first_sine","abs","WORD_md5","bytes","len","low_first","word_in","mixed_bits","word_at","rotated","TURNS","words_in","stepped","tuple","added_numbers","padded","BEGIN","block_taken","isinstance","bool","int","Decimal","Name","String","list","dict","Stream","Reference","PaperError","kind_of","told_objects","sorted","told_plain","MOST_HOPS","TreeFault","row_of","key_of","MOST_DEEP","longer_way","node_of","node_pairs","node_limits","first_at_least","kid_for","str","TreeLook","names_of","BRANCH","tree_pairs","WORD_attachments","file_pairs","tree_find","digest","stream_of","specification","size_word","FilterFault","tree_faults","attached","file_word","sum","_law_dip","SyntaxFault","PaintFault","CrossFault","DraftFault","FontFault","DeskFault","_law_refuse","_law_size","_law_check","_law_put_behind","_law_params","_law_stream","_law_nothing","extract_by","_law_read","_law_kinds","_law_well","Shelf","_law_file","_law_is_due","_law_heard","faults_by"]:List String).map ek)
noncomputable def jv:List V:=[.int (10^60),.a6 158,.cC 13,.int 4294967296,.cC 4,.cC 12,.a6 170,.a6 184,.a6 196,.a6 203,.a6 210,.ao [.ao [.int 7,.int 12,.int 17,.int 22],.ao [.int 5,.int 9,.int 14,.int 20],.ao [.int 4,.int 11,.int 16,.int 23],.ao [.int 6,.int 10,.int 15,.int 21]],.a6 189,.a6 217,.cC 7,.a6 165,.a6 177,.ao [.int 1732584193,.int 4023233417,.int 2562383102,.int 271733878],.a6 222,.cC 11,.cC 1,.cC 0,.a6 321,.a6 356,.a6 378,.cC 2,.cC 3,.a6 399,.a6 427,.a6 46,.a6 438,.a6 450,.cC 15,.a6 445,.int 30,.a6 95,.a6 559,.a6 545,.int 40,.a6 578,.a6 552,.a6 564,.a6 571,.a6 590,.a6 597,.cC 6,.a6 655,.a6 673,.lit 98,.a6 583,.lit 27,.a6 680,.a6 603,.a6 227,.a6 699,.a6 692,.a6 706,.a6 83,.a6 666,.a6 685,.a6 720,.cC 14,.a6 737,.a6 59,.a6 107,.a6 71,.a6 131,.a6 119,.a6 143,.a6 751,.a6 772,.a6 779,.a6 744,.a6 786,.a6 791,.a6 798,.a6 713,.a6 765,.a6 758,.a6 730,.a6 536,.a6 805,.a6 817,.a6 812,.a6 725]
noncomputable def pf:List (aq×List Nat):=[(321,[2,3]),(356,[4]),(378,[5,6]),(399,[7,5]),(427,[8,9]),(536,[21,22]),(655,[40,41,42,43,44]),(46,[76,95]),(59,[76,95]),(71,[76,95]),(83,[76,95]),(95,[76,95]),(107,[76,95]),(119,[76,95]),(131,[76,95]),(143,[76,95])]
noncomputable def gZ(C:aq):List Nat:=(pf.lookup C).getD []
noncomputable def wv:List ((aq×Nat)×aq):=[((536,24),472),((536,23),479),((536,78),507),((536,26),521),((536,59),528),((536,99),533),((655,48),624),((655,51),631),((655,56),638),((655,55),645),((655,57),652)]
noncomputable def lX:List aq:=[321,356,378,399,427,536,655,46,59,71,83,95,107,119,131,143]
noncomputable def nc:List aq:=[46,59,71,83,95,107,119,131,143]
noncomputable def vJ:List (Nat×aq):=[(29,46),(63,59),(65,71),(57,83),(35,95),(64,107),(67,119),(66,131),(68,143)]
noncomputable def fS(C D:aq):Bool:=lX.contains C&&(lX.contains D&&(C==D || (D==46&&nc.contains C)))
noncomputable def vI(C:aq)(xs:List V):Option V:=if nc.contains C then(match xs with|[a]=>U (.a3 C [a,.int (-1)])|[a,b]=>U (.a3 C [a,b])|_=>ae) else ae
noncomputable def aF:cp:={ju:=λn=>jv[n]?,gH:=λn=>vT.getD n "",lay:=gZ,bE:=λC n=>wv.lookup (C,n),hu:=fS,fC:=lX.contains,ls:=bR,call:=λ_ _ _ _ _=>False,exc:=vI}
noncomputable def aN:dy:=⟨0,39,37,23,46,1⟩
noncomputable def l5:en:=⟨bR,iO,λn=>vT.getD n "",λn=>(vJ.lookup n).isSome⟩
noncomputable def cM:bh:=.cvar 0
noncomputable def j4:bh:=.aO 3
noncomputable def j5:bh:=.aO 4
noncomputable def fZ:bh:=.aO 5
noncomputable def dk:bh:=.aO 19
noncomputable def j3:bh:=.aO 26
noncomputable def jt:bh:=.aO 28
noncomputable def fq:bh:=.aO 62
noncomputable def ie:bh:=.aO 72
noncomputable def cx:bh:=.b5 0
noncomputable def cQ:bh:=.b5 1
noncomputable def eU:bh:=.b5 2
noncomputable def hv:bh:=.b5 3
noncomputable def fD:bh:=.b5 4
noncomputable def jy:bh:=.bC 68
noncomputable def aL:bh:=.var 0
noncomputable def bd:bh:=.var 1
noncomputable def bA:bh:=.var 2
noncomputable def bV:bh:=.var 3
noncomputable def cT:bh:=.var 4
noncomputable def d7:bh:=.var 5
noncomputable def fW:bh:=.var 6
noncomputable def fv:bh:=.var 7
noncomputable def iY:bh:=.var 8
noncomputable def ip:bh:=.var 9
noncomputable def ra:List be:=[.bH 0 cx,.bH 1 cx,.bH 2 (.aO 0),.gF [3] ah 1 [.b5 60] [.bn (.bi .Eq (.a7 .Mod bV fD) cx) [.bH 1 (.a7 .Add bd bA)] [.bn (.bi .Eq (.a7 .Mod bV fD) cQ) [.bH 0 (.a7 .Add aL bA)] [.bn (.bi .Eq (.a7 .Mod bV fD) eU) [.bH 1 (.a7 .Sub bd bA)] [.bH 0 (.a7 .Sub aL bA)]]],.bH 2 (.a7 .FloorDiv bA (.a7 .Add bV cQ))],.ret (.ao [aL,bd])]
noncomputable def oN:List be:=[.hr [0,1] (.call (.aO 1) []),.lQ [2,3] [aL,bd],.nH 4 [],.gF [5] ah 1 [.b5 64] [.ex (.k7 4 0 [.a7 .FloorDiv (.a7 .Mult (.call (.aO 2) [bA]) j4) (.aO 0)]),.lQ [2,3] [.a7 .FloorDiv (.a7 .Add (.a7 .Mult bA bd) (.a7 .Mult bV aL)) (.aO 0),.a7 .FloorDiv (.a7 .Sub (.a7 .Mult bV bd) (.a7 .Mult bA aL)) (.aO 0)]],.ret cT]
noncomputable def zL:List be:=[.ret (.call j5 [.comp (.a7 .Mod (.a7 .FloorDiv aL (.a7 .Pow (.b5 256) cM)) (.b5 256)) ae 1 [bd] ae])]
noncomputable def zM:List be:=[.bH 1 (.a7 .Mod (.a7 .Sub (.b5 55) (.call fZ [aL])) (.b5 64)),.ret (.a7 .Add (.a7 .Add (.call j5 [aL]) (.call j5 [.a7 .Add (.lst [.b5 128]) (.a7 .Mult (.lst [cx]) bd)])) (.call (.aO 6) [.a7 .Mult (.b5 8) (.call fZ [aL]),.b5 8]))]
noncomputable def zN:List be:=[.ret (.a7 .Add (.bq aL cx) (.a7 .Mult (.b5 256) (.a7 .Add (.bq aL cQ) (.a7 .Mult (.b5 256) (.a7 .Add (.bq aL eU) (.a7 .Mult (.b5 256) (.bq aL hv)))))))]
noncomputable def zO:List be:=[.ret (.comp (.call (.aO 7) [.hW aL (U (.a7 .Mult fD cM)) (U (.a7 .Add (.a7 .Mult fD cM) fD))]) ae 1 [.b5 16] ae)]
noncomputable def zP:List be:=[.bn (.bi .Eq aL cx) [.ret (.a7 .BitOr (.a7 .BitAnd bd bA) (.a7 .BitAnd (.a7 .Sub (.a7 .Sub j4 cQ) bd) bV))] [],.bn (.bi .Eq aL cQ) [.ret (.a7 .BitOr (.a7 .BitAnd bd bV) (.a7 .BitAnd bA (.a7 .Sub (.a7 .Sub j4 cQ) bV)))] [],.bn (.bi .Eq aL eU) [.ret (.a7 .BitXor (.a7 .BitXor bd bA) bV)] [],.ret (.a7 .BitXor bA (.a7 .BitOr bd (.a7 .Sub (.a7 .Sub j4 cQ) bV)))]
noncomputable def zQ:List be:=[.ret (.a7 .Mod (.bq (.ao [bd,.a7 .Add (.a7 .Mult (.b5 5) bd) cQ,.a7 .Add (.a7 .Mult hv bd) (.b5 5),.a7 .Mult (.b5 7) bd]) aL) (.b5 16))]
noncomputable def zR:List be:=[.ret (.a7 .BitOr (.a7 .BitAnd (.a7 .LShift aL bd) (.a7 .Sub j4 cQ)) (.a7 .RShift aL (.a7 .Sub (.b5 32) bd)))]
noncomputable def zS:List be:=[.hr [4,5,6,7] aL,.bH 8 (.a7 .FloorDiv bA (.b5 16)),.bH 9 (.a7 .Mod (.a7 .Add (.a7 .Add (.a7 .Add cT (.call (.aO 8) [iY,d7,fW,fv])) (.bq bd (.call (.aO 9) [iY,bA]))) bV) j4),.ret (.ao [fv,.a7 .Mod (.a7 .Add d7 (.call (.aO 10) [ip,.bq (.bq (.aO 11) iY) (.a7 .Mod bA fD)])) j4,d7,fW])]
noncomputable def rb:List be:=[.bH 3 (.call (.aO 12) [bd]),.bH 4 aL,.gF [5] ah 1 [.b5 64] [.bH 4 (.call (.aO 13) [cT,bV,d7,.bq bA d7])],.ret (.call (.aO 14) [.comp (.a7 .Mod (.a7 .Add cM (.cvar 1)) j4) (U 2) 4 [aL,cT] ae])]
noncomputable def rd:List be:=[.bH 1 (.call (.aO 15) []),.bH 2 (.call (.aO 16) [aL]),.bH 3 (.aO 17),.gF [4] ah 2 [cx,.call fZ [bA],.b5 64] [.bH 3 (.call (.aO 18) [bV,.hW bA (U cT) (U (.a7 .Add cT (.b5 64))),bd])],.ret (.bE (.gK []) 1 [.comp (.call (.aO 6) [cM,fD]) ae 0 [bV] ae])]
noncomputable def zT:List be:=[.kl (.eC .And [.bi .Gt bA cx,.bi .Eq (.a7 .Mod bd (.b5 10)) cx]) [.bH 1 (.a7 .FloorDiv bd (.b5 10)),.bH 2 (.a7 .Sub bA cQ)],.fI 0 2 bd,.fI 0 3 bA]
noncomputable def zU:List be:=[.fI 0 4 bd]
noncomputable def vd:List be:=[.fI 0 5 bd,.fI 0 6 bA]
noncomputable def zV:List be:=[.fI 0 7 bd,.fI 0 5 bA]
noncomputable def zW:List be:=[.fI 0 8 bd,.fI 0 9 bA]
noncomputable def zX:List be:=[.bn (.bi .Is aL .d5) [.ret (.bC 10)] [],.bn (.call dk [aL,.aO 20]) [.ret (.bC 11)] [],.bn (.call dk [aL,.aO 21]) [.ret (.bC 12)] [],.bn (.call dk [aL,.aO 22]) [.ret (.bC 13)] [],.bn (.call dk [aL,.aO 23]) [.ret (.bC 14)] [],.bn (.call dk [aL,.aO 24]) [.ret (.bC 15)] [],.bn (.call dk [aL,.aO 25]) [.ret (.bC 16)] [],.bn (.call dk [aL,j3]) [.ret (.bC 17)] [],.bn (.call dk [aL,.aO 27]) [.ret (.bC 18)] [],.bn (.call dk [aL,jt]) [.ret (.bC 19)] [],.e2 29 [.bC 20]]
noncomputable def zY:List be:=[.bn (.bi .Eq aL (.bC 10)) [.ret (.ao [.bC 10])] [],.bn (.bi .Eq aL (.bC 11)) [.ret (.ao [.bC 11,.bn bd cQ cx])] [],.bn (.bi .Eq aL (.bC 12)) [.ret (.ao [.bC 12,bd])] [],.bn (.bi .Eq aL (.bC 13)) [.ret (.ao [.bC 13,.bS bd 2,.bS bd 3])] [],.bn (.bi .Eq aL (.bC 14)) [.ret (.ao [.bC 14,.bS bd 4])] [],.bn (.bi .Eq aL (.bC 15)) [.ret (.ao [.bC 15,.call j5 [.bS bd 5]])] [],.ret (.ao [.bC 19,.bS bd 8,.bS bd 9])]
noncomputable def zZ:List be:=[.bH 1 (.call (.aO 30) [aL]),.bn (.bi .Eq bd (.bC 16)) [.ret (.a7 .Add (.ao [.bC 16]) (.call (.aO 14) [.comp (.call (.aO 31) [cM]) ae 0 [aL] ae]))] [],.bn (.bi .Eq bd (.bC 17)) [.ret (.a7 .Add (.ao [.bC 17]) (.call (.aO 14) [.comp (.ao [cM,.call (.aO 31) [.bq aL cM]]) ae 0 [.call (.aO 32) [aL]] (U (.bi .IsNot (.bq aL cM) .d5))]))] [],.bn (.bi .Eq bd (.bC 18)) [.ret (.ao [.bC 18,.call (.aO 31) [.bS aL 7],.call j5 [.bS aL 5]])] [],.ret (.call (.aO 33) [bd,aL])]
noncomputable def z0:List be:=[.fI 0 21 (.bn (.bi .Is bd .d5) (.eT [] []) bd),.fI 0 22 (.bn (.bi .Is bA .d5) (.eT [] []) bA)]
noncomputable def oO:List be:=[.bH 2 bd,.gF [3] ah 1 [.aO 34] [.bn (.not (.call dk [bA,jt])) [.ret bA] [],.hr [4,5] (.bE (.bS aL 21) 23 [.bS bA 8,.ao [.neg cQ,.d5]]),.bn (.bi .NotEq cT (.bS bA 9)) [.ret .d5] [],.bH 2 d7],.ret (.bn (.call dk [bA,jt]) .d5 bA)]
noncomputable def z1:List be:=[.ret (.bE aL 24 [.bE bd 23 [bA]])]
noncomputable def rf:List be:=[.bH 2 cQ,.kl (.bi .In bA (.bS aL 21)) [.bH 2 (.a7 .Add bA cQ)],.kg (.bS aL 21) bA (.ao [cx,bd]),.ret (.call jt [bA,cx])]
noncomputable def z2:List be:=[.ret (.call (.aO 32) [.bS aL 21])]
noncomputable def z3:List be:=[.bH 1 (.bE aL 23 [.bS aL 22,.bC 25]),.ret (.bn (.call dk [bd,j3]) bd (.eT [] []))]
noncomputable def ve:List be:=[.bH 1 (.call (.aO 14) [.comp (.ao [cM,.bq (.bq (.bS aL 21) cM) cx,.call (.aO 31) [.bq (.bq (.bS aL 21) cM) cQ]]) ae 0 [.bE aL 26 []] ae]),.ret (.ao [bd,.call (.aO 31) [.bS aL 22]])]
noncomputable def z4:List be:=[.bn (.eC .And [.bi .Eq aL (.bC 27),.call dk [bd,.aO 24]]) [.ret (.bS bd 5)] [],.bn (.eC .And [.bi .Eq aL (.bC 28),.call dk [bd,.aO 21],.not (.call dk [bd,.aO 20])]) [.ret bd] [],.e2 35 [.bC 29]]
noncomputable def z5:List be:=[.bH 2 (.bE aL 24 [bd]),.bn (.not (.call dk [bA,j3])) [.e2 35 [.bC 30]] [],.ret bA]
noncomputable def z6:List be:=[.bH 3 (.bE aL 23 [bd,bA]),.bn (.not (.call dk [bV,.aO 25])) [.e2 35 [.a7 .Add bA (.bC 31)]] [],.ret bV]
noncomputable def z7:List be:=[.bn (.bi .NotIn bA bd) [.ret (.lst [])] [],.bH 3 (.call (.aO 36) [aL,bd,bA]),.bn (.bi .NotEq (.a7 .Mod (.call fZ [bV]) eU) cx) [.e2 35 [.bC 32]] [],.ret (.comp (.ao [.call (.aO 37) [bA,.bE aL 24 [.bq bV cM]],.bq bV (.a7 .Add cM cQ)]) ae 2 [cx,.call fZ [bV],eU] ae)]
noncomputable def z8:List be:=[.bH 3 (.call (.aO 36) [aL,bd,.bC 33]),.bn (.bi .NotEq (.call fZ [bV]) eU) [.e2 35 [.bC 34]] [],.ret (.ao [.call (.aO 37) [bA,.bE aL 24 [.bq bV cx]],.call (.aO 37) [bA,.bE aL 24 [.bq bV cQ]]])]
noncomputable def z9:List be:=[.bH 2 (.ao [.neg cQ,.neg cQ]),.bn (.call dk [bd,jt]) [.bH 2 (.ao [.bS bd 8,.bS bd 9]),.bn (.bi .In bA aL) [.e2 35 [.bC 35]] []] [],.bn (.bi .Gt (.call fZ [aL]) (.aO 38)) [.e2 35 [.bC 36]] [],.ret (.a7 .Add aL (.ao [bA]))]
noncomputable def oP:List be:=[.nH 3 [],.nH 4 [.ao [bd,.ao []]],.kl (.bi .Gt (.pV 4) cx) [.hr [5,6] (.k7 4 37 []),.bH 6 (.call (.aO 39) [fW,d7]),.bH 7 (.call (.aO 40) [aL,d7]),.bn (.bi .In (.bC 38) fv) [.ex (.k7 4 39 [.comp (.ao [cM,fW]) ae 5 [.call (.aO 36) [aL,fv,.bC 38]] ae])] [.ex (.k7 3 39 [.call (.aO 41) [aL,fv,bA]])]],.ret bV]
noncomputable def rg:List be:=[.bH 2 cx,.bH 3 (.call fZ [aL]),.kl (.bi .Lt bA bV) [.bH 4 (.a7 .FloorDiv (.a7 .Add bA bV) eU),.bn (.bi .Lt (.bq aL cT) bd) [.bH 2 (.a7 .Add cT cQ)] [.bH 3 cT]],.ret bA]
noncomputable def rh:List be:=[.bH 4 cx,.bH 5 (.call fZ [bd]),.kl (.bi .Lt cT d7) [.bH 6 (.a7 .FloorDiv (.a7 .Add cT d7) eU),.bn (.bi .Lt (.bq (.call (.aO 42) [aL,.call (.aO 40) [aL,.bq bd fW],bA]) cQ) bV) [.bH 4 (.a7 .Add fW cQ)] [.bH 5 fW]],.ret cT]
noncomputable def ri:List be:=[.bH 5 bd,.gF [6] ah 1 [.a7 .Add (.aO 38) cQ] [.bH 7 (.call (.aO 40) [aL,d7]),.bn (.bi .NotIn (.bC 38) fv) [.bH 8 (.call (.aO 41) [aL,fv,bA]),.bH 9 (.call (.aO 43) [.comp (.bq cM cx) ae 0 [iY] ae,bV]),.ret (.bn (.eC .And [.bi .Lt ip (.call fZ [iY]),.bi .Eq (.bq (.bq iY ip) cx) bV]) (.bq (.bq iY ip) cQ) cT)] [],.bH 10 (.call (.aO 36) [aL,fv,.bC 38]),.bH 9 (.call (.aO 44) [aL,.var 10,bA,bV]),.bn (.eC .Or [.bi .Eq ip (.call fZ [.var 10]),.bi .Lt bV (.bq (.call (.aO 42) [aL,.call (.aO 40) [aL,.bq (.var 10) ip],bA]) cx)]) [.ret cT] [],.bH 5 (.bq (.var 10) ip)],.e2 35 [.bC 36]]
noncomputable def Aa:List be:=[.fI 0 40 bd,.fI 0 41 bA,.fI 0 42 (.l6 []),.fI 0 43 .r1,.fI 0 44 (.l6 [])]
noncomputable def IG:List be:=[.ex (.bE (.bS aL 42) 0 [.a7 .Add (.a7 .Add bd (.bC 45)) bA])]
noncomputable def Ab:List be:=[.bn (.bi .Gt (.bE bA 46 [.bC 47]) (.aO 38)) [.ex (.bE aL 48 [bA,.bC 49]),.ret (.f6 ah)] [],.bn (.call dk [bd,jt]) [.bn (.bi .In (.ao [.bS bd 8,.bS bd 9]) (.bS aL 43)) [.ex (.bE aL 48 [bA,.bC 50]),.ret (.f6 ah)] [],.kg (.bS aL 43) (.ao [.bS bd 8,.bS bd 9]) (.f6 af)] [],.ret (.f6 af)]
noncomputable def rj:List be:=[.bn (.not (.bE aL 51 [bd,bA])) [.ke] [],.bH 3 (.bE (.bS aL 40) 24 [bd]),.bn (.not (.call dk [bV,j3])) [.ex (.bE aL 48 [bA,.bC 52]),.ke] [],.bn (.bi .Eq (.bi .In (.bC 38) bV) (.bi .In (.bS aL 41) bV)) [.ex (.bE aL 48 [bA,.bn (.bi .In (.bC 38) bV) (.a7 .Add (.bC 53) (.bS aL 41)) (.a7 .Add (.bC 54) (.bS aL 41))])] [],.bH 4 (.call fZ [.bS aL 44]),.mx [.ex (.bE aL 55 [bV,bA]),.bH 5 (.bn (.bi .In (.bC 38) bV) (.call (.aO 36) [.bS aL 40,bV,.bC 38]) (.lst []))],.gF [7] ah 1 [.call fZ [d7]] [.ex (.bE aL 56 [.bq d7 fv,.a7 .Add (.a7 .Add bA (.bC 47)) (.call (.aO 45) [fv])])],.ex (.bE aL 57 [bV,bA,.hW (.bS aL 44) (U cT) ae])]
noncomputable def vf:List be:=[.gF [3,4] af 0 [.call (.aO 41) [.bS aL 40,bd,.bS aL 41]] [.bn (.eC .And [.bi .Gt (.call fZ [.bS aL 44]) cx,.not (.bi .Lt (.bq (.bS aL 44) (.neg cQ)) bV)]) [.ex (.bE aL 48 [bA,.bC 58])] [],.ex (.bE (.bS aL 44) 0 [bV])]]
noncomputable def Ac:List be:=[.bn (.bi .Eq bA (.bC 59)) [.bn (.bi .In (.bC 33) bd) [.ex (.bE aL 48 [bA,.bC 60])] []] [.bn (.bi .NotIn (.bC 33) bd) [.ex (.bE aL 48 [bA,.bC 61])] [.bn (.bi .Gt (.call fZ [bV]) cx) [.mx [.bn (.bi .NotEq (.call (.aO 42) [.bS aL 40,bd,.bS aL 41]) (.ao [.bq bV cx,.bq bV (.neg cQ)])) [.ex (.bE aL 48 [bA,.bC 62])] []]] []]]]
noncomputable def Ad:List be:=[.bH 3 (.call (.aO 46) [aL,bA]),.ex (.bE bV 56 [bd,.bC 59]),.ret (.rU (.bS bV 42))]
noncomputable def Ae:List be:=[.bH 1 (.bE aL 23 [.bE aL 59 [],.bC 27]),.ret (.bn (.call dk [bd,j3]) bd (.eT [] []))]
noncomputable def Af:List be:=[.bH 1 (.bE (.call (.aO 47) [aL]) 23 [.aO 48]),.ret (.bn (.bi .Is (.bE aL 24 [bd]) .d5) (.lst []) (.call (.aO 49) [aL,bd,.aO 50]))]
noncomputable def Ag:List be:=[.ret (.comp (.ao [cM,.bE aL 24 [.cvar 1]]) (U 2) 0 [.call (.aO 51) [aL]] ae)]
noncomputable def Ah:List be:=[.bH 2 (.bE (.call (.aO 47) [aL]) 23 [.aO 48]),.bH 3 (.bn (.bi .Is (.bE aL 24 [bA]) .d5) .d5 (.bE aL 24 [.call (.aO 52) [aL,bA,.aO 50,bd]])),.bn (.not (.call dk [bV,j3])) [.e2 35 [.bC 63]] [],.ret bV]
noncomputable def rk:List be:=[.bH 2 (.bE aL 23 [bd,.bC 64]),.bn (.not (.call dk [bA,j3])) [.ret .d5] [],.gF [3] ah 0 [.ao [.bC 65,.bC 66]] [.bH 4 (.bE aL 23 [bA,bV]),.bn (.call dk [cT,.aO 27]) [.ret cT] []],.ret .d5]
noncomputable def Ai:List be:=[.bH 3 (.bE aL 23 [.bS bd 7,.bC 67]),.bn (.not (.call dk [bV,j3])) [.ret jy] [],.bH 4 (.bE aL 23 [bV,.bC 69]),.bn (.eC .And [.bi .IsNot cT .d5,.eC .Or [.bi .NotEq (.call (.aO 30) [cT]) (.bC 12),.bi .NotEq cT (.call fZ [bA])]]) [.ret (.bC 70)] [],.bH 5 (.bE aL 23 [bV,.bC 71]),.bn (.eC .And [.bi .IsNot d7 .d5,.eC .Or [.bi .NotEq (.call (.aO 30) [d7]) (.bC 15),.bi .NotEq (.bS d7 5) (.call (.aO 53) [bA])]]) [.ret (.bC 72)] [],.ret jy]
noncomputable def Aj:List be:=[.bH 3 (.call (.aO 54) [aL,.call (.aO 55) [aL,bd]]),.bn (.bi .Is bV .d5) [.e2 35 [.bC 73]] [],.bH 4 (.call bA [aL,bV]),.bH 5 (.call (.aO 56) [aL,bV,cT]),.bn (.bi .NotEq d7 jy) [.e2 57 [d7]] [],.ret cT]
noncomputable def Ak:List be:=[.bn (.not (.call dk [bd,j3])) [.ret (.bC 74)] [],.bH 3 (.call (.aO 54) [aL,bd]),.bn (.bi .Is bV .d5) [.ret (.bC 75)] [],.nQ [.ret (.call (.aO 56) [aL,bV,.call bA [aL,bV]])] 29 4 (.mr 76)]
noncomputable def oQ:List be:=[.bH 2 (.bE (.call (.aO 47) [aL]) 23 [.aO 48]),.bn (.bi .Is (.bE aL 24 [bA]) .d5) [.ret (.lst [])] [],.lP 3 1 (.a7 .Add (.bC 77) cM) ae 0 [.call (.aO 58) [aL,bA,.aO 50]] ae,.mx [.bH 4 (.call (.aO 59) [aL])],.gF [5,6] af 3 [cT] [.bH 7 (.call (.aO 60) [aL,.bq fW cQ,bd]),.bn (.bi .NotEq fv jy) [.ex (.k7 3 0 [.a7 .Add (.a7 .Add (.call (.aO 45) [d7]) (.bC 45)) fv])] []],.ret bV]
noncomputable def vg:List be:=[.lP 1 2 (.call (.aO 21) [cM]) ae 0 [.hW aL ae (U (.b5 63))] ae,.ret (.l6 [bd,cx,cx,.a7 .Mod (.call (.aO 61) [bd]) (.b5 1009)])]
noncomputable def Al:List be:=[.bn (.eC .And [.bi .Eq (.bq aL cQ) cx,.bi .NotEq (.bq aL cx) (.lst [])]) [.kg aL cQ (.call (.aO 2) [.bE (.bq aL cx) 37 [cx]])] [],.bH 2 (.a7 .Mod (.bq aL cQ) bd),.kg aL cQ (.a7 .FloorDiv (.bq aL cQ) bd),.kg aL eU (.a7 .Add (.bq aL eU) cQ),.ret (.a7 .Mod (.a7 .Add (.a7 .Add bA (.a7 .Mult (.bq aL eU) (.bq aL hv))) (.a7 .FloorDiv (.a7 .Mult (.bq aL eU) (.a7 .Add (.bq aL eU) cQ)) eU)) bd)]
noncomputable def rl:List be:=[.gF [3] ah 1 [.bq (.ao [cx,cQ,cx,eU]) (.call fq [aL,fD])] [.bH 2 (.bE bd 78 [bA])],.ret bA]
noncomputable def Am:List be:=[.bn (.bi .Eq aL cx) [.e2 57 [.bC 79,cx]] [],.bn (.bi .Eq aL cQ) [.e2 63 [.bC 80,eU]] [],.bn (.bi .Eq aL eU) [.e2 64 [.bC 81,fD]] [],.bn (.bi .Eq aL hv) [.e2 29 [.bC 82,.b5 6]] [],.bn (.bi .Eq aL fD) [.e2 35 [.bC 83,.b5 8]] [],.bn (.bi .Eq aL (.b5 5)) [.e2 65 [.bC 84,.b5 10]] [],.bn (.bi .Eq aL (.b5 6)) [.e2 66 [.bC 85,.b5 12]] [],.bn (.bi .Eq aL (.b5 7)) [.e2 67 [.bC 86,.b5 14]] [],.e2 68 [.bC 87,.b5 16]]
noncomputable def An:List be:=[.bH 1 (.lst [.call dk [aL,.aO 57],.call dk [aL,.aO 63],.call dk [aL,.aO 64],.call dk [aL,.aO 29]]),.ret (.a7 .Add bd (.lst [.call dk [aL,.aO 35],.call dk [aL,.aO 65],.call dk [aL,.aO 66],.call dk [aL,.aO 67],.call dk [aL,.aO 68]]))]
noncomputable def Ao:List be:=[.bn (.eC .And [.bi .NotEq (.hW (.bS bd 5) ae (U cQ)) (.gK []),.bi .Lt (.bq (.bS bd 5) cx) (.b5 9)]) [.ex (.call (.aO 69) [.bq (.bS bd 5) cx])] [],.ret (.a7 .Add (.rev (.bS bd 5)) (.gK [43]))]
noncomputable def Ap:List be:=[.bH 2 (.call fZ [bd]),.bH 3 (.call fq [aL,.b5 10]),.bH 4 (.ao [.a7 .Add bA cQ,.a7 .Sub bA cQ,.f6 af,.call (.aO 22) [.a7 .Mult (.b5 10) bA,cQ],.lst [bA],.call (.aO 23) [.bC 69],.a7 .Add bA (.b5 65536)]),.ret (.bn (.bi .Lt bV eU) (.ao [bA,.f6 af]) (.bn (.bi .Eq bV eU) (.ao [.d5,.f6 af]) (.ao [.bq cT (.a7 .Sub bV hv),.f6 ah])))]
noncomputable def Aq:List be:=[.bH 3 (.call fq [aL,.b5 6]),.bn (.not bA) [.ret (.bn (.bi .Lt bV fD) (.ao [.d5,.f6 af]) (.ao [.bq (.ao [.b5 7,.call (.aO 23) [.bC 71]]) (.a7 .Sub bV fD),.f6 ah]))] [],.lQ [4,5] [.call (.aO 53) [bd],.call fq [aL,.b5 16]],.bn (.bi .Lt bV hv) [.ret (.ao [.call (.aO 24) [cT,.bi .Eq bV cQ],.f6 af])] [],.ret (.ao [.call (.aO 24) [.bn (.bi .Eq bV hv) (.hW cT ae (U d7)) (.bn (.bi .Eq bV fD) (.a7 .Add cT (.gK [48])) (.a7 .Add (.a7 .Add (.hW cT ae (U d7)) (.call j5 [.lst [.a7 .BitXor (.bq cT d7) cQ]])) (.hW cT (U (.a7 .Add d7 cQ)) ae))),.f6 af],.f6 ah])]
noncomputable def rm:List be:=[.bH 4 (.call fq [aL,.b5 7]),.bn (.bi .Eq cT cx) [.ret (.ao [.d5,jy])] [],.bn (.bi .Eq cT cQ) [.ret (.ao [.bq (.lst [.b5 5,.call jt [.b5 90,cQ],.call (.aO 23) [.bC 88]]) (.call fq [aL,hv]),jy])] [],.hr [5,6] (.call (.aO 70) [aL,bA]),.hr [7,8] (.call (.aO 71) [aL,bA,bV]),.pA 9 [89] [.call (.aO 24) [.gK [68,58,50,48,50,54]]],.bn (.eC .Or [.bi .IsNot d7 .d5,.bi .Eq (.call fq [aL,eU]) cx]) [.nM 9 69 (.bn (.bi .Is d7 .d5) (.call jt [.b5 90,cQ]) (.call ie [aL,bd,d7]))] [],.bn (.eC .Or [.bi .IsNot fv .d5,.bi .Eq (.call fq [aL,eU]) cx]) [.nM 9 71 (.bn (.bi .Is fv .d5) (.call jt [.b5 91,cx]) (.call ie [aL,bd,fv]))] [],.ret (.ao [.call ie [aL,bd,ip],.bn (.eC .And [fW,iY]) jy (.bn fW (.bC 72) (.bC 70))])]
noncomputable def rn:List be:=[.bH 3 (.call fq [aL,hv]),.bH 4 (.call j5 [.comp (.bn (.eC .Or [.bi .Gt cM cx,.bi .Gt bV cx]) (.a7 .Add (.b5 9) (.call fq [aL,.b5 247])) (.call fq [aL,.b5 9])) ae 1 [.call fq [aL,.b5 5]] ae]),.bH 5 (.a7 .Add (.rev cT) (.gK [43])),.hr [6,7] (.call (.aO 73) [aL,bd,d7,bA]),.pA 8 [90] [.call fZ [cT]],.bn (.bi .IsNot fW .d5) [.nM 8 67 fW] [],.bH 9 (.call ie [aL,bd,.bE bd 78 [.call (.aO 27) [iY,cT]]]),.bn (.eC .And [.bi .NotEq cT (.gK []),.bi .Lt (.bq cT cx) (.b5 9)]) [.ret (.ao [ip,.bq cT cx])] [],.ret (.ao [ip,.bn (.bi .Eq fv jy) d7 fv])]
noncomputable def Ar:List be:=[.ret (.bq (.ao [.b5 7,.call jt [.b5 90,cQ],.eT [90] [cx],.call (.aO 24) [.gK [115,116,114,101,97,109]]]) (.call fq [aL,fD]))]
noncomputable def vh:List be:=[.bH 3 (.call fq [aL,.b5 9]),.bn (.bi .Eq bV (.b5 7)) [.ret (.ao [.call ie [aL,bd,.bq (.ao [.b5 5,.lst [cQ],.call (.aO 23) [.bC 91]]) (.call fq [aL,hv])],.bC 74])] [],.hr [4,5] (.call (.aO 74) [aL,bd,bA]),.bn (.bi .Eq bV (.b5 8)) [.ret (.ao [.bn (.bi .Eq (.call fq [aL,eU]) cx) (.eT [65,64] [cT,.call (.aO 75) [aL]]) (.eT [66] [cT]),.bC 75])] [],.bH 6 (.call (.aO 75) [aL]),.bH 7 (.bE bd 78 [.call (.aO 27) [.eT [] [],.gK [111,116,104,101,114]]]),.bH 8 (.bq (.ao [.eT [65] [cT],.eT [65,66] [fW,cT],.eT [66] [cT],.eT [65,66] [cT,fv],.eT [66,65] [fW,cT],.eT [92,66] [fv,cT],.eT [65,66] [fW,.call (.aO 75) [aL]]]) bV),.bH 9 (.eT [93,64] [.call (.aO 23) [.bC 94],.call ie [aL,bd,iY]]),.ret (.ao [.call ie [aL,bd,ip],.bn (.bi .Eq bV (.b5 6)) (.bC 75) d7])]
noncomputable def As:List be:=[.bH 2 .d5,.nQ [.bH 2 (.call (.aO 76) [aL,bd,.aO 77])] 29 3 (.bH 2),.ret bA]
noncomputable def At:List be:=[.bn (.call dk [bd,j5]) [.ret (.ao [.eC .And [.call dk [aL,j5],.bi .Eq aL bd],jy])] [],.bn (.call dk [bd,.aO 21]) [.bH 2 (.eC .And [.bi .Eq (.call (.aO 78) [aL]) (.comp (.bi .In cM (.ao [hv,bd])) ae 1 [.b5 9] ae),.bi .Eq (.ao [.bS aL 76,.bS aL 95]) (.ao [.a7 .Add (.bC 96) (.call (.aO 45) [bd]),.a7 .Mult eU bd])]),.ret (.ao [bA,.a7 .Add (.bC 96) (.call (.aO 45) [bd])])] [],.bn (.bi .Eq (.hW bd ae (U eU)) (.bC 97)) [.ret (.ao [.call dk [aL,.aO 35],bd])] [],.ret (.ao [.eC .And [.call dk [aL,.aO 57],.bi .Eq (.bS aL 76) bd],bd])]
noncomputable def iC:List be:=[.bH 1 (.call (.aO 79) [aL]),.hr [2,3] (.ao [.call (.aO 80) [.rY 90 (.ao [cx,fD]),.rX],.lst [.gK [],.gK [97,0],.gK [98]]]),.hr [4,5] (.ao [.a7 .Add cQ (.call fq [bd,hv]),.call fq [bd,hv]]),.lP 6 0 (.call (.aO 81) [bd,bA,.bi .Eq cM d7]) ae 1 [cT] ae,.lP 7 0 (.lst [.call (.aO 24) [.bq bV cM],.bq (.bq fW cM) cx]) ae 1 [cT] ae,.bH 8 (.eT [27] [.flat fv]),.bn (.bi .Eq (.call fq [bd,eU]) cx) [.bH 8 (.eT [38] [.comp (.call ie [bd,bA,.eT [33,27] [.lst [.bq cM cx,.bq cM cx],cM]]) ae 0 [fv] ae])] [],.bH 9 (.eT [98] [.call ie [bd,bA,iY]]),.kg (.bS bA 22) (.bC 25) (.call ie [bd,bA,.eT [27] [.call ie [bd,bA,ip]]]),.lQ [10,11] [.bE bA 99 [],.l6 []],.gF [12] ah 1 [cT] [.hr [13,14] (.call (.aO 82) [.call (.aO 83) [bA,.bq bV (.var 12)],.bq (.bq fW (.var 12)) cQ]),.bn (.not (.var 13)) [.ret (.f6 ah)] [],.bn (.bi .NotEq (.var 14) jy) [.ex (.bE (.var 11) 0 [.a7 .Add (.a7 .Add (.call (.aO 45) [.var 12]) (.bC 45)) (.var 14)])] []],.bn (.eC .Or [.not (.call dk [.call (.aO 83) [bA,.gK [97]],.aO 35]),.bi .NotEq (.bE bA 99 []) (.var 10)]) [.ret (.f6 ah)] [],.ret (.eC .And [.bi .Eq (.call (.aO 84) [bA,.aO 77]) (.var 11),.bi .Eq (.bE bA 99 []) (.var 10)])]
structure Row where
  f:aq
  nm:List Str
  np:Nat
  dC:List V
  body:List be
  cls:Bool
noncomputable def DE:Row:=⟨158,["sine","cosine","part","step"],0,[],ra,ah⟩
noncomputable def DF:Row:=⟨165,["one_sine","one_cosine","sine","cosine","found","angle"],0,[],oN,ah⟩
noncomputable def DG:Row:=⟨170,["number","count"],2,[],zL,ah⟩
noncomputable def DH:Row:=⟨177,["octets","nulls"],1,[],zM,ah⟩
noncomputable def DI:Row:=⟨184,["octets"],1,[],zN,ah⟩
noncomputable def DJ:Row:=⟨189,["block"],1,[],zO,ah⟩
noncomputable def DK:Row:=⟨196,["lap","b","c","d"],4,[],zP,ah⟩
noncomputable def DL:Row:=⟨203,["lap","step"],2,[],zQ,ah⟩
noncomputable def DM:Row:=⟨210,["word","count"],2,[],zR,ah⟩
noncomputable def DN:Row:=⟨217,["four","words","step","added","a","b","c","d","lap","total"],4,[],zS,ah⟩
noncomputable def DO:Row:=⟨222,["four","block","numbers","words","here","step"],3,[],rb,ah⟩
noncomputable def DP:Row:=⟨227,["octets","numbers","data","four","first"],1,[],rd,ah⟩
noncomputable def DQ:Row:=⟨241,["self","top","places"],3,[],zT,af⟩
noncomputable def DR:Row:=⟨353,["self","text"],2,[],zU,af⟩
noncomputable def w5:Row:=⟨375,["self","octets","is_hex"],3,[.bool ah],vd,af⟩
noncomputable def DS:Row:=⟨396,["self","head","octets"],3,[],zV,af⟩
noncomputable def DT:Row:=⟨417,["self","number","generation"],3,[],zW,af⟩
noncomputable def DU:Row:=⟨438,["value"],1,[],zX,ah⟩
noncomputable def DV:Row:=⟨445,["kind","value"],2,[],zY,ah⟩
noncomputable def DW:Row:=⟨450,["value","kind"],1,[],zZ,ah⟩
noncomputable def D3:Row:=⟨465,["self","table","trailer"],3,[.none,.none],z0,af⟩
noncomputable def DX:Row:=⟨472,["self","value","here","hop","generation","found"],2,[],oO,ah⟩
noncomputable def DY:Row:=⟨479,["self","head","key"],3,[],z1,ah⟩
noncomputable def DZ:Row:=⟨507,["self","value","number"],2,[],rf,ah⟩
noncomputable def D0:Row:=⟨521,["self"],1,[],z2,ah⟩
noncomputable def D1:Row:=⟨528,["self","found"],1,[],z3,ah⟩
noncomputable def D2:Row:=⟨533,["self","rows"],1,[],ve,ah⟩
noncomputable def D4:Row:=⟨545,["word","value"],2,[],z4,ah⟩
noncomputable def D5:Row:=⟨552,["shelf","value","node"],2,[],z5,ah⟩
noncomputable def D6:Row:=⟨559,["shelf","node","key","row"],3,[],z6,ah⟩
noncomputable def D7:Row:=⟨564,["shelf","node","word","row"],3,[],z7,ah⟩
noncomputable def D8:Row:=⟨571,["shelf","node","word","row"],3,[],z8,ah⟩
noncomputable def D9:Row:=⟨578,["way","value","place"],2,[],z9,ah⟩
noncomputable def Ea:Row:=⟨583,["shelf","root","word","found","line","value","way","node"],3,[],oP,ah⟩
noncomputable def Eb:Row:=⟨590,["keys","key","low","high","half"],2,[],rg,ah⟩
noncomputable def Ec:Row:=⟨597,["shelf","kids","word","key","low","high","half"],4,[],rh,ah⟩
noncomputable def Ed:Row:=⟨603,["shelf","root","word","key","default","value","turn","node","pairs","at","kids"],5,[.none],ri,ah⟩
noncomputable def Ei:Row:=⟨617,["self","shelf","word"],3,[],Aa,af⟩
noncomputable def RZ:Row:=⟨624,["self","place","what"],3,[],IG,ah⟩
noncomputable def Ee:Row:=⟨631,["self","value","place"],3,[],Ab,ah⟩
noncomputable def Ef:Row:=⟨638,["self","value","place","node","begun","kids","fault","at"],3,[],rj,ah⟩
noncomputable def Eg:Row:=⟨645,["self","node","place","key","value"],3,[],vf,ah⟩
noncomputable def Eh:Row:=⟨652,["self","node","place","keys","fault"],4,[],Ac,ah⟩
noncomputable def Ej:Row:=⟨666,["shelf","root","word","look"],3,[],Ad,ah⟩
noncomputable def Ek:Row:=⟨673,["shelf","found"],1,[],Ae,ah⟩
noncomputable def El:Row:=⟨680,["shelf","root"],1,[],Af,ah⟩
noncomputable def Em:Row:=⟨685,["shelf"],1,[],Ag,ah⟩
noncomputable def En:Row:=⟨692,["shelf","name","root","found"],2,[],Ah,ah⟩
noncomputable def Eo:Row:=⟨699,["shelf","spec","files","key","found"],2,[],rk,ah⟩
noncomputable def Ep:Row:=⟨706,["shelf","stream","octets","params","size","check"],3,[],Ai,ah⟩
noncomputable def Er:Row:=⟨713,["shelf","name","read","stream","octets","word"],3,[],Aj,ah⟩
noncomputable def Es:Row:=⟨720,["shelf","spec","read","stream","error"],3,[],Ak,ah⟩
noncomputable def Et:Row:=⟨725,["shelf","read","root","found","files","at","pair","word"],2,[],oQ,ah⟩
noncomputable def Eu:Row:=⟨730,["script","cells"],1,[],vg,ah⟩
noncomputable def Ew:Row:=⟨737,["well","many","digit"],2,[],Al,ah⟩
noncomputable def Ex:Row:=⟨744,["well","shelf","value","turn"],3,[],rl,ah⟩
noncomputable def Ey:Row:=⟨751,["code"],1,[],Am,ah⟩
noncomputable def Ez:Row:=⟨758,["fault","first"],1,[],An,ah⟩
noncomputable def EA:Row:=⟨765,["shelf","stream"],2,[],Ao,ah⟩
noncomputable def EB:Row:=⟨772,["well","right","many","way","bad"],2,[],Ap,ah⟩
noncomputable def EC:Row:=⟨779,["well","right","is_summed","way","total","at"],3,[],Aq,ah⟩
noncomputable def ED:Row:=⟨786,["well","shelf","right","is_summed","way","size","is_size","check","is_check","params"],4,[],rm,ah⟩
noncomputable def EE:Row:=⟨791,["well","shelf","is_summed","first","octets","right","params","word","head","place"],3,[],rn,ah⟩
noncomputable def EF:Row:=⟨798,["well"],1,[],Ar,ah⟩
noncomputable def EG:Row:=⟨805,["well","shelf","is_summed","form","place","due","odd","other","files","spec"],3,[],vh,ah⟩
noncomputable def EH:Row:=⟨812,["shelf","name","found","fault"],2,[],As,ah⟩
noncomputable def EI:Row:=⟨817,["heard","due","is_right"],2,[],At,ah⟩
noncomputable def ft:Row:=⟨822,["script","well","shelf","names","many","summed","files","rows","tree","branches","before","words","spot","is_right","word"],1,[],iC,ah⟩
noncomputable def nO:List (aq×Row):=[(158,DE),(165,DF),(170,DG),(177,DH),(184,DI),(189,DJ),(196,DK),(203,DL),(210,DM),(217,DN),(222,DO),(227,DP),(321,DQ),(356,DR),(378,w5),(399,DS),(427,DT),(438,DU),(445,DV),(450,DW),(536,D3),(472,DX),(479,DY),(507,DZ),(521,D0),(528,D1),(533,D2),(545,D4),(552,D5),(559,D6),(564,D7),(571,D8),(578,D9),(583,Ea),(590,Eb),(597,Ec),(603,Ed),(655,Ei),(624,RZ),(631,Ee),(638,Ef),(645,Eg),(652,Eh),(666,Ej),(673,Ek),(680,El),(685,Em),(692,En),(699,Eo),(706,Ep),(713,Er),(720,Es),(725,Et),(730,Eu),(737,Ew),(744,Ex),(751,Ey),(758,Ez),(765,EA),(772,EB),(779,EC),(786,ED),(791,EE),(798,EF),(805,EG),(812,EH),(817,EI),(822,ft)]
noncomputable def Row.def(aa:aq→bJ)(r:Row):Def:=⟨r.f,⟨aa r.f,r.nm,r.np⟩,r.dC,r.body,r.cls⟩
noncomputable def fU(aa:aq→bJ)(a:aq):Option Def:=(nO.lookup a).map (Row.def aa)
end
section
set_option tactic.hygienic true
theorem PF{α β:Type}[BEq α][LawfulBEq α]{l:List (α×β)}{a:α}{b:β}(h:l.lookup a=U b):(a,b)∈l:=by
  induction l with
  | nil=>exact nn h
  | cons p r c=>
    rw [mI] at h;cases q:a==p.1 with
    | true=>obtain h:=q▸h;exact ac (eqB q) (bG (aX h) (.head _))
    | false=>obtain h:=q▸h;exact .tail _ (c h)
theorem qM{α β:Type}[BEq α][LawfulBEq α]{l:List (α×β)}{a:α}{b:β}{P:α×β→Bool}(h:l.all P=af)(e:l.lookup a=U b):P (a,b)=af:=i2.mp h _ (PF e)
theorem qL{α:Type}[BEq α][LawfulBEq α]{l:List α}{a:α}{P:α→Bool}(h:l.all P=af)(e:l.contains a=af):P a=af:=i2.mp h _ (tv.mp e)
theorem uU(h:(kp n).all P=af)(e:k<n):P k=af:=i2.mp h _ (xJ.mpr e)
noncomputable def sC:List (Nat×Nat×Nat×Nat):=[(8,8,8,17),(8,8,8,26),(8,27,8,31),(8,33,8,37),(8,8,8,38),(8,8,8,38),(9,8,9,12),(9,8,9,17),(9,20,9,24),(9,8,9,24),(10,8,10,12),(10,8,10,15),(10,18,10,20),(10,8,10,20)]
noncomputable def Dz(n:Nat):Pos:=⟨(sC.getD n default).1,(sC.getD n default).2.1,(sC.getD n default).2.2.1,(sC.getD n default).2.2.2⟩
noncomputable def Cs(K:de):Prop:=(kS K 36).map FuncData.body=U (.stmts (rO Dz))
noncomputable def BD(K:de)(fd:gx):Bool:=vX K fd&&(fd.scope.names.lookup ("self":Str)==U .local&&(fd.scope.names.lookup ("what":Str)==U .local&&(fd.scope.names.lookup ("at":Str)==U .local&&(fd.scope.names.lookup ("Exception":Str)==U .globalImplicit &&
  (kU K "Exception" (.type "Exception")&&((uW fd.params).any (λas=>as.map (·.arg)==([("self":Str),("what":Str),("at":Str)]:List Str))&&(rL K fd.defaults).any (λvs=>pF K (λag=>"") 0 vs [.int (-1)])))))))
noncomputable def r5(K:de):Bool:=match findCls K (.type "Exception") (.type "type") "__init__" with|some (.val (.builtin n))=>n=="Exception.__init__"|_=>ah
theorem Oy{K:de}(h:r5 K=af):findCls K (.type "Exception") (.type "type") "__init__"= U (.val (.builtin "Exception.__init__")):=by
  unfold r5 at h;split at h
  · rename_i n e;exact ac e (ac (eqB h) rfl)
  · exact cb h
noncomputable def vN(K:de)(f:aq):Bool:=(K.lookup f).any λo=>s5 o.cls==U "function"
theorem NL{K:de}(h:vN K f=af)(e:kS K f=U fd):∃ od iS,K.lookup f=U ⟨.type "function",od,.func fd,iS⟩:=by refine(bD h) _ λo a h=>?_;unfold kS at e;obtain e:=a▸e;exact(jT o.dict o.slots (by refine ac a ?_;refine bG (Bb e) ?_;exact bG (xq (eqB h)) rfl))
noncomputable def ML(c:aU)(f:aq)(fd:gx):Prop:=∀ a:Prop,(∀ args ds t,on c f fd→fd.params=⟨[],args,ae,[],[],ae,ds⟩→args.map (·.arg)=[("self":Str),("what":Str),("at":Str)]→((fd.defaults=.none∧[tQ (-1) t]=[])∨∃ T o n,fd.defaults=.ref T∧c.K.lookup T=U o∧o.data=.seq #[tQ (-1) t] n)→a)→a
theorem MK(aW:c.Ok)(e:kS c.K f=U fd)(p:vN c.K f=af)(h2:BD c.K fd=af)(q:r5 c.K=af)(ak:fd.body=.stmts (rO Dz)):ML c f fd:=by
  refine qN h2 λh i j k l m b a=>?_;obtain H:=B4 h;refine(bD b) _ λas d b=>?_;refine(bD a) _ λvs g a=>?_;refine aG (ze d) λds d=>?_;obtain o:∃ t,vs=[.int (-1) t]:=by
    rcases vs with _ | ⟨v,_ | ⟨u,vs⟩⟩
    · exact cb a
    · refine cq a λa ag=>?_;clear g;cases v <;>first | exact cb a | exact⟨_,by exact ac (show _=(-1:Int) from eqB a) rfl⟩
    · exact cb (eK a).2
  exact aG o λt n=>(λ_ aj=>aj as ds t ⟨NL p e,H.code,H.aO,H.blt,H.m6,H.kind,H.co,H.gen,aM _ ak rfl,eqB i,eqB j,eqB k,eqB l,Oy q,rZ aW m⟩ d (eqB b) (by refine bG n ?_;exact Bm g))
noncomputable def A8(v:Data)(h:v.ctorIdx=8):{p:F7 // v=.cls p}:=Data.cls.elim (motive:=λv=>{p:F7 // v=.cls p}) v h λa=>⟨a,rfl⟩
noncomputable def A7(v:Data):Option F7:=if h:v.ctorIdx=8 then U (A8 v h).1 else ae
theorem Kk(h:A7 v=U t):v=.cls t:=eD h λq h=>by obtain rfl:=aX h;exact(A8 v q).2
theorem Tx{α:Type}{l:List α}(h:l.length=6):∃ a b c d e f,l=[a,b,c,d,e,f]:=by
  rcases l with _ | ⟨a,_ | ⟨b,_ | ⟨c,_ | ⟨d,_ | ⟨e,_ | ⟨f,_ | ⟨g,l⟩⟩⟩⟩⟩⟩⟩
  case cons.cons.cons.cons.cons.cons.nil=>exact(HY a b c d e f rfl)
  case cons.cons.cons.cons.cons.cons.cons=>exact qh (congrArg (·-6) h)
  all_goals exact absurd h (Nat.ne_of_beq_eq_false rfl)
noncomputable def vG(K:de)(C:aq):Bool:=(K.lookup C).any λo=>s5 o.cls==U "type"&& (o.slots.toList.length==6&&(o.slots.toList[4]?==U (U (.builtin "Exception.__new__"))&&(A7 o.data).any λcd=>cd.mro==.ref C :: cd.mro.tail&&(!cd.hasDel&&(cd.mro.tail.contains (.type "Exception")&&(cd.mro.tail.contains (.type "BaseException")&&(!cd.mro.tail.contains (.type "AttributeError")&&!cd.mro.tail.contains (.type "NameError")))))))
theorem wK(h:(!b)=af):b=ah:=by cases b <;>first | rfl | exact cb h
theorem BC{K:de}{C:aq}(q:vG K C=af):∃ k:kx,K.lookup C=U (k.obj C)∧iz k.bm:=by refine(bD q) _ λd c q=>?_;obtain⟨oc,fY,g,⟨da⟩⟩:=d;refine hq q λh h2 a q=>(bD q) _ λf i q=>?_;obtain⟨nm,bs,mro,ns,n,hd,sn,sub,lL,col,b⟩:=f;refine jV q λj l t1 t2 t3 o=>HO (Tx (eqB h2)) λmc bX cw eu m md e=>?_;obtain e:da=_:=e;rw [show oc=_ from xq (eqB h),show g=_ from Kk i,show b=_ from wK l,show mro=_ from eqB j,e,show m=U (.builtin "Exception.__new__") from aX (by have a:da[4]?=_:=eqB a;rw [e] at a;exact a)] at c;exact(aM ⟨nm,n,ns,bs,mro.tail,hd,sn,sub,lL,col,fY,mc,bX,cw,eu,md⟩ c ⟨t1,t2,wK t3,wK o⟩)
noncomputable def vH(K:de)(C:aq):Bool:=vG K C&&(findIn K (.ref C) "__init__"== U (U (.ref 36))&&(findIn K (.ref C) "__setattr__"== U (U (.builtin "object.__setattr__"))&&(nG K C&&(hasDictIn K C&&(takerIn K C "what"== U ae&&(takerIn K C "at"== U ae&&keepIn K (.ref C)))))))
theorem BB(h:vH c.K C=af):jM c C 36:=by exact qN h λa b d e f g i j=>⟨BC a,eqB b,eqB d,e,f,eqB g,eqB i,j⟩
noncomputable def vn(K:de)(C:aq):Bool:=instIn K (.ref C) (.type "tuple")==U ah&&subIn K (.ref C) (.type "BaseException")==U af
theorem JU{c:aU}(h:vn c.K C=af)(h2:vG c.K C=af):qt c C:=by exact cq h λa b=>aI (BC h2) λk e _=>⟨eqB a,HU _ _ _ _ e,eqB b⟩
noncomputable def layB:Bool:=pf.all λp=>p.2.all (λk=>decide (k<iO))&&(decide p.2.Nodup&&decide (p.2.length≤400))
noncomputable def OU(K:de):Bool:=(kp jv.length).all λn=>BW K bR iO (vT.getD n "") (jv.getD n .none)
noncomputable def OT(K:de):Bool:=kU K "range" (ec 5)&&(kU K "enumerate" (ec 8)&&(kU K "zip" (ec 9)&&(kU K "reversed" (ec 10)&&kU K "len" (ec 12))))
noncomputable def wc(K:de):Bool:=lX.all λC=>vq K C&&(lX.all (λD=>kitOne K (.ref C) (.ref D)==U (fS C D)&&subIn K (.ref C) (.ref D)==U (fS C D))&&((kp 5).all (λn=>kitOne K (.ref C) (ec n)==U ah)&&(kp 8).all λt=>kitOne K (.type (tyName t)) (.ref C)==U ah))
noncomputable def OS(K:de):Bool:=pf.all λp=>p.2.all λn=>zI K p.1 (bR n)
noncomputable def OV(K:de):Bool:=wv.all λp=>decide (p.1.2<iO)&&(!(gZ p.1.1).contains p.1.2&&CU K p.1.1 (bR p.1.2) p.2)
noncomputable def Cq(K:de):Bool:=nc.all (λC=>vH K C&&vn K C)&&(vN K 36&&((kS K 36).any (BD K)&&r5 K))
structure uo(K:de):Prop where
  aO:OU K=af
  cC:OT K=af
  cls:wc K=af
  bS:OS K=af
  bE:OV K=af
  exc:Cq K=af
  v9:Cs K
section
variable{c:aU}
noncomputable abbrev P6(n:Nat)(i:String):Prop:=(i="dict.get"→bR n="get")∧(i="list.append"→bR n="append")∧(i="list.pop"→bR n="pop")∧(i="list.extend"→bR n="extend")∧(i="bytes.join"→bR n="join")∧(i="str.count"→bR n="count")
theorem P5(h:eG aN k n=U i):P6 n i:=by
  obtain key:(i="dict.get"∧n=aN.get)∨(i="list.append"∧n=aN.append)∨(i="list.pop"∧n=aN.pop)∨(i="list.extend"∧n=aN.extend)∨(i="bytes.join"∧n=aN.join)∨(i="str.count"∧n=aN.count):=by
    unfold eG at h
    repeat' split at h
    all_goals first | exact nn h | (rename_i q;have h:=aX h;first | exact .inl ⟨h.symm,q⟩ | exact .inr (.inl ⟨h.symm,q⟩) | exact .inr (.inr (.inl ⟨h.symm,q⟩)) | exact .inr (.inr (.inr (.inl ⟨h.symm,q⟩))) | exact .inr (.inr (.inr (.inr (.inl ⟨h.symm,q⟩)))) | exact .inr (.inr (.inr (.inr (.inr ⟨h.symm,q⟩)))))
  clear h;rcases key with⟨rfl,rfl⟩ | ⟨rfl,rfl⟩ | ⟨rfl,rfl⟩ | ⟨rfl,rfl⟩ | ⟨rfl,rfl⟩ | ⟨rfl,rfl⟩ <;>exact(HQ (λq=>by first | rfl | exact absurd q (by decide)) (λq=>by first | rfl | exact absurd q (by decide)) (λq=>by first | rfl | exact absurd q (by decide)) (λq=>by first | rfl | exact absurd q (by decide)) (λq=>by first | rfl | exact absurd q (by decide)) λq=>by first | rfl | exact absurd q (by decide))
theorem pe{C:aq}{P:aq×List Nat→Bool}(h:pf.all P=af):gZ C=[]∨P (C,gZ C)=af:=by unfold gZ;cases e:pf.lookup C with|none=>exact .inl rfl|some l=>exact .inr (qM h e)
noncomputable abbrev J4(K:de)(C:aq):Prop:=vq K C=af∧(∀ D,aF.fC D=af→kitOne K (.ref C) (.ref D)=U (fS C D)∧subIn K (.ref C) (.ref D)=U (fS C D))∧(∀ n,n≤4→kitOne K (.ref C) (ec n)=U ah)∧∀ t,t≤7→kitOne K (.type (tyName t)) (.ref C)=U ah
theorem oU(K)(h:wc K=af){C:aq}(g:aF.fC C=af):J4 K C:=by unfold wc at h;obtain h:=qL h (show lX.contains C=af from g);exact hq h λd h2 e f=>(c5 d (λD i=>by have q:=qL h2 (show lX.contains D=af from i);refine aC (eK q) λa b=>?_;exact⟨eqB a,eqB b⟩) (λn j=>eqB (uU e (qf j))) λt k=>eqB (uU f (qf k)))
theorem UA(aW:c.Ok)(j:c.ls=bR)(p:c.nl=iO)(d:c.lay=gZ)(O:uo c.K):h5 c aF aN where
  base:=⟨j.symm,λC x b=>J3 (oU _ O.cls b).1,λC D b o=>((oU _ O.cls b).2.1 D o).1,λC n b=>(oU _ O.cls b).2.2.1 n,λD t o=>(oU _ O.cls o).2.2.2 t⟩
  lay:=d.symm
  jz:=λC k f=>by
    obtain f:=d▸f;refine ac p (aS (pe (C:=C) (show layB=af by decide +kernel)) (λe=>?_) λh=>?_)
    · obtain f:=e▸f;exact absurd f c4
    · exact of_decide_eq_true (i2.mp (eK h).1 k f)
  sc:=λC=>by
    refine ac d (aS (pe (C:=C) (show layB=af by decide +kernel)) (λe=>?_) λh=>?_)
    · exact ac e .nil
    · exact of_decide_eq_true (eK (eK h).2).1
  sd:=λC=>by
    refine ac d (aS (pe (C:=C) (show layB=af by decide +kernel)) (λe=>?_) λh=>?_)
    · exact ac e (di _)
    · exact of_decide_eq_true (eK (eK h).2).2
  aO:=λg X h=>by
    refine aG (fM.mp (show jv[g]?=U X from h)) λl e=>?_;have:=uU O.aO l
    obtain this:=j.symm▸this;obtain this:=p.symm▸this;obtain r:jv.getD g .none=X:=by refine ac (xH) ?_;refine ac (show jv[g]?=U X from h) ?_;rfl
    obtain this:=r▸this;exact N5 aW this
  bE:=λC n a h=>by exact aC (eK (qM O.bE (show wv.lookup (C,n)=U a from h))) λs h=>cq h λh2 u=>ac d (ac j (ac p (bk (of_decide_eq_true s) (λm=>by obtain h2:=(tv.mpr m)▸h2;exact cb h2) (PY u))))
  bS:=λC n h=>by
    obtain h:=d▸h;refine ac j (aS (pe (C:=C) O.bS) (λe=>?_) λq=>?_)
    · obtain h:=e▸h;exact absurd h c4
    · exact(zJ (i2.mp q n h)).1
  set:=λC n h=>by
    obtain h:=d▸h;refine ac j (aS (pe (C:=C) O.bS) (λe=>?_) λq=>?_)
    · obtain h:=e▸h;exact absurd h c4
    · exact(zJ (i2.mp q n h)).2
  pm:=λn k i h=>by refine ac j ?_;exact P5 h
  sub:=λC D b o=>((oU _ O.cls b).2.1 D o).2
  pn:=by decide
theorem Cr(K)(h:Cq K=af){C:aq}(a:nc.contains C=af):vH K C=af∧vn K C=af:=by obtain q:=qL (eK h).1 a;exact eK q
theorem BF(ep:fd.params=⟨[],args,ae,[],[],ae,ds⟩)(a:args.map (·.arg)=[("self":Str),("what":Str),("at":Str)])
    (hd:(fd.defaults=.none∧[tQ (-1) t]=[])∨∃ T o n,fd.defaults=.ref T∧c.K.lookup T=U o∧o.data=.seq #[tQ (-1) t] n) (b:c.K.In s'.heap) (l1:vs.length≤3) (bY:2≤vs.length):
    mB s' fd ⟨vs,[]⟩ ([("self":Str),("what":Str),("at":Str)].zip (vs++[tQ (-1) t].drop (vs.length+1-3))):=by
  obtain la:args.length=3:=by refine bG (fn (f:=(·.arg))) ?_;refine ac a ?_;rfl
  have:=Az (vs:=vs) (cK:=[.int (-1) t]) (s:=s') ep (by refine ac a ?_;decide) (hd.imp id λh=>by refine kK h λT o n d e g=>?_;exact(lK T o n d (b _ _ e) g)) (by refine ac la ?_;exact l1) (by refine ac la ?_;exact ll bY) (by refine ac la ?_;exact jJ 1 2);obtain this:=a▸this;obtain this:=la▸this;exact this
theorem MY(aW:c.Ok)(n:c.ls=bR)(q:c.lay=gZ)(O:uo c.K){C:aq}{xs:List V}{x:V}(h:vI C xs=U x):xs.length≤10∧ExcAt c C xs x:=by
  unfold vI at h;split at h
  · rename_i m;refine aC (eK O.exc) λbX k=>aC (eK k) λcw k=>aC (eK k) λeu s=>(bD eu) _ λfd l eu=>?_;refine(MK aW l cw eu s (by have:=O.v9;unfold Cs at this;obtain this:=l▸this;exact aX this)) _ λargs ds t F ep j hd=>?_;obtain mk:∀ {x1 bI},x=.a3 C [x1,bI]→(∀ (e:aq) (vs:List ay) s' Z ga,c.K.In s'.heap→ba c Z ga vs xs→yb c fd e vs s' Z ga x1 bI)→ExcAt c C xs x:=λe b=>(λ_ aj=>aj 36 fd _ _ 76 95 (BB (Cr _ O.exc m).1) F e ((congrFun q C).trans (eqB (qL (P:=λC=>gZ C==[76,95]) (show nc.all _=af by decide +kernel) m))) (by refine ac n ?_;decide +kernel) (by refine ac n ?_;decide +kernel) b)
    rcases xs with _ | ⟨a,_ | ⟨b,_ | ⟨d,r⟩⟩⟩
    · exact nn h
    · refine⟨xO rfl,mk (aX h).symm λe vs s' Z ga g f=>?_⟩;refine aI f.one λv p i=>?_;clear f;obtain rfl:=p;exact(λ_ aj=>aj _ (.int (-1) t) (BF ep j hd g (vs:=[.ref e,_]) (al rfl) (al rfl)) i (.int _ _))
    · refine⟨xO rfl,mk (aX h).symm λe vs s' Z ga g f=>?_⟩;refine f.two _ λv u o i w=>?_;clear f;obtain rfl:=o;exact(λ_ aj=>aj _ _ (BF ep j hd g (vs:=[.ref e,_,_]) (al rfl) (al rfl)) i w)
    · exact nn h
  · exact nn h
theorem XM(aW:c.Ok)(b:c.ls=bR)(d:c.nl=iO)(g:c.lay=gZ)(O:uo c.K):lF c aF aN l5 where
  aW:=aW
  T:=UA aW b d g O
  ls:=b.symm
  nl:=d.symm
  gH:=rfl
  src:=λk f h=>by refine oy O.cC λl m o q r=>?_;rcases k with _ | _ | _ | _ | _ | _ | k <;>first | exact nn h | (refine bG (aX h) ?_;exact rZ aW ‹_›)
  len:=rZ aW (eK (eK (eK (eK O.cC).2).2).2).2
  m9:=λn h=>by
    refine aG (kr.mp (show(vJ.lookup n).isSome=af from h)) λC e=>aC (eK (qM (P:=λp:Nat×aq=>nc.contains p.2&&(match jv[p.1]? with | some (V.a6 D)=>D==p.2 | _=>ah)) (show vJ.all _=af by decide +kernel) e)) λj a=>aC (Cr _ O.exc j) λbX cw=>(cJ C ?_ ⟨36,BB bX⟩ (JU cw (eK bX).1));dsimp only at a;split at a
    · rename_i D e;exact bG (eqB a) e
    · exact cb a
  kV:=λC D h=>by exact cq h λi h=>⟨i,(eK h).1⟩
  exc:=λC xs x h=>MY aW b g O h
end
end
section
variable(aa:aq→bJ)
inductive C(n:Nat)(a:aq)(xs:List V)(G:List aQ)(Q X:el):Prop where|mk:h9 aF aN (fU aa) n a xs G Q X→C n a xs G Q X
theorem x3(n):C aa n=h9 aF aN (fU aa) n:=by
  funext a xs G Q X
  exact propext ⟨λ⟨h⟩=>h,.mk⟩
noncomputable abbrev T(n:Nat):cp:={aF with call:=C aa n}
noncomputable def a9(Q:el)(a:lz)(S:aA):Prop:=Q (match a with | .ret x=>x | .next=>.none) S.aE
noncomputable def bf(X:el)(x:V)(S:aA):Prop:=X x S.aE
noncomputable def jQ(a x:aq)(Q:el)(b:lz)(S:aA):Prop:=(match b with | .next=>True | .ret _=>False)∧∃ fs,S.aR[0]?=U (.d4 a x fs)∧Q (.a3 a fs) S.aE
noncomputable def bK(k:Nat)(a:aq)(xs:List V)(G:List aQ)(r:V)(b:List aQ):Prop:=∀ n Q X,Q r b→C aa (n+k) a xs G Q X
noncomputable def lI(k:Nat)(a:aq)(xs:List V)(G:List aQ)(r:V)(b:List aQ):Prop:=∀ n Q X,X r b→C aa (n+k) a xs G Q X
variable{aa}
theorem bK.up(h:bK aa k a xs G r b)(e:k≤m):bK aa m a xs G r b:=λn Q X q=>by
  have:=h (n+(m-k)) Q X q
  rwa [Gz,Wp e] at this
theorem lI.up(h:lI aa k a xs G r b)(e:k≤m):lI aa m a xs G r b:=λn Q X q=>by
  have:=h (n+(m-k)) Q X q
  rwa [Gz,Wp e] at this
theorem enter(h:nO.lookup a=U r)(a4:r.cls=ah)(b:xs.length≤r.np)(h2:r.np≤xs.length+r.dC.length)
    (w:aZ (T aa n) aN r.body ⟨((fill r.np r.dC xs).map .val).map U++h3 (r.nm.length-((fill r.np r.dC xs).map cA.val).length) ae,[],G,[]⟩ (a9 Q) (bf X)):C aa (n+1) a xs G Q X:=by
  obtain c:fU aa a=U (r.def aa):=by unfold fU;rw [h];rfl
  refine .mk ?_;show jY aF aN (fU aa) (h9 aF aN (fU aa) n) a xs G Q X
  delta jY
  rw [c,← x3];show if(r.def aa).cls then _ else _
  rw [if_neg (by rw [show(r.def aa).cls=ah from a4];exact λq=>cb q)];exact(bk b h2 w)
theorem kR(h:nO.lookup a=U r)(a4:r.cls=af)(b:xs.length+1≤r.np)(h2:r.np≤xs.length+1+r.dC.length)
    (w:∀ x,aZ (T aa n) aN r.body ⟨(cA.new x 0 :: (fill (r.np-1) r.dC xs).map .val).map U++h3 (r.nm.length-(cA.new x 0 :: (fill (r.np-1) r.dC xs).map cA.val).length) ae,[.d4 a x []],G,[]⟩ (jQ a x Q) (bf X)):C aa (n+1) a xs G Q X:=by
  obtain c:fU aa a=U (r.def aa):=by unfold fU;rw [h];rfl
  refine .mk ?_;show jY aF aN (fU aa) (h9 aF aN (fU aa) n) a xs G Q X
  delta jY
  rw [c,← x3];show if(r.def aa).cls then _ else _
  rw [if_pos (show(r.def aa).cls=af from a4)];exact(bk b h2 w)
end
noncomputable def bc{β:Sort u}(f:β)(g:β→Prop):Prop:=g f
theorem bc.of{β:Sort u}{f:β}{g:β→Prop}(h:g f):bc f g:=h
noncomputable abbrev W6:Prop:=([]:List V)=[]
noncomputable abbrev az:V:=.a3 536 [.aB 2,.aB 3]
noncomputable abbrev St(G:List aQ):aA:=⟨[],[],G,[]⟩
noncomputable def er(n:Nat)(x:V)(k:V→Prop):Prop:=iQ x λC fs=>bF (fieldOf (gZ C) fs n) k
noncomputable def cD(ai:cp)(bO:Option Nat)(elt:bh)(cond:Option bh)(x:V)(S:aA)(k:Option V→aA→Prop):Prop:=bindC bO x S λS=>nT ai aN cond S (λb S=>if b then cG ai aN elt S (λy S=>k (U y) S) (λag ag=>False) else k ae S) (λag ag=>False)
noncomputable def iq(ai:cp)(t:bh)(S:aA)(Q:Bool→aA→Prop):Prop:=cG ai aN t S (gW Q) (λag ag=>False)
noncomputable def cV(ai:cp)(b:List be)(S:aA)(Q:fc):Prop:=aZ ai aN b S Q (λag ag=>False)
theorem bl{P Q:Prop}(h:P=Q)(w:P):Q:=h▸w
section
set_option tactic.hygienic true
noncomputable abbrev ab(x:V):Option cA:=U (.val x)
section
variable{aa:aq→bJ}{x0 x1 bI dr s9:V}{n:Nat}{G:List aQ}{Q X:el}
theorem KG(w:aZ (T aa n) aN ra ⟨[ae,ae,ae,ae],[],G,[]⟩ (a9 Q) (bf X)):C aa (n+1) 158 [] G Q X:=enter (r:=DE) (by kernel_rfl) rfl (al rfl) (al rfl) w
theorem KH(w:aZ (T aa n) aN oN ⟨[ae,ae,ae,ae,ae,ae],[],G,[]⟩ (a9 Q) (bf X)):C aa (n+1) 165 [] G Q X:=enter (r:=DF) (by kernel_rfl) rfl (al rfl) (al rfl) w
theorem KI(w:aZ (T aa n) aN zL ⟨[ab x0,ab x1],[],G,[]⟩ (a9 Q) (bf X)):C aa (n+1) 170 [x0,x1] G Q X:=enter (r:=DG) (by kernel_rfl) rfl (al rfl) (al rfl) w
theorem KJ(w:aZ (T aa n) aN zM ⟨[ab x0,ae],[],G,[]⟩ (a9 Q) (bf X)):C aa (n+1) 177 [x0] G Q X:=enter (r:=DH) (by kernel_rfl) rfl (al rfl) (al rfl) w
theorem KL(w:aZ (T aa n) aN zN ⟨[ab x0],[],G,[]⟩ (a9 Q) (bf X)):C aa (n+1) 184 [x0] G Q X:=enter (r:=DI) (by kernel_rfl) rfl (al rfl) (al rfl) w
theorem KM(w:aZ (T aa n) aN zO ⟨[ab x0],[],G,[]⟩ (a9 Q) (bf X)):C aa (n+1) 189 [x0] G Q X:=enter (r:=DJ) (by kernel_rfl) rfl (al rfl) (al rfl) w
theorem KN(w:aZ (T aa n) aN zP ⟨[ab x0,ab x1,ab bI,ab dr],[],G,[]⟩ (a9 Q) (bf X)):C aa (n+1) 196 [x0,x1,bI,dr] G Q X:=enter (r:=DK) (by kernel_rfl) rfl (al rfl) (al rfl) w
theorem KP(w:aZ (T aa n) aN zQ ⟨[ab x0,ab x1],[],G,[]⟩ (a9 Q) (bf X)):C aa (n+1) 203 [x0,x1] G Q X:=enter (r:=DL) (by kernel_rfl) rfl (al rfl) (al rfl) w
theorem KQ(w:aZ (T aa n) aN zR ⟨[ab x0,ab x1],[],G,[]⟩ (a9 Q) (bf X)):C aa (n+1) 210 [x0,x1] G Q X:=enter (r:=DM) (by kernel_rfl) rfl (al rfl) (al rfl) w
theorem KR(w:aZ (T aa n) aN zS ⟨[ab x0,ab x1,ab bI,ab dr,ae,ae,ae,ae,ae,ae],[],G,[]⟩ (a9 Q) (bf X)):C aa (n+1) 217 [x0,x1,bI,dr] G Q X:=enter (r:=DN) (by kernel_rfl) rfl (al rfl) (al rfl) w
theorem KS(w:aZ (T aa n) aN rb ⟨[ab x0,ab x1,ab bI,ae,ae,ae],[],G,[]⟩ (a9 Q) (bf X)):C aa (n+1) 222 [x0,x1,bI] G Q X:=enter (r:=DO) (by kernel_rfl) rfl (al rfl) (al rfl) w
theorem KT(w:aZ (T aa n) aN rd ⟨[ab x0,ae,ae,ae,ae],[],G,[]⟩ (a9 Q) (bf X)):C aa (n+1) 227 [x0] G Q X:=enter (r:=DP) (by kernel_rfl) rfl (al rfl) (al rfl) w
theorem KU(w:∀ x,aZ (T aa n) aN zT ⟨[U (.new x 0),ab x0,ab x1],[.d4 321 x []],G,[]⟩ (jQ 321 x Q) (bf X)):C aa (n+1) 321 [x0,x1] G Q X:=kR (r:=DQ) (by kernel_rfl) rfl (al rfl) (al rfl) w
theorem KV(w:∀ x,aZ (T aa n) aN zU ⟨[U (.new x 0),ab x0],[.d4 356 x []],G,[]⟩ (jQ 356 x Q) (bf X)):C aa (n+1) 356 [x0] G Q X:=kR (r:=DR) (by kernel_rfl) rfl (al rfl) (al rfl) w
theorem KX(w:∀ x,aZ (T aa n) aN vd ⟨[U (.new x 0),ab x0,ab (.bool ah)],[.d4 378 x []],G,[]⟩ (jQ 378 x Q) (bf X)):C aa (n+1) 378 [x0] G Q X:=kR (r:=w5) (by kernel_rfl) rfl (al rfl) (al rfl) w
theorem KW(w:∀ x,aZ (T aa n) aN vd ⟨[U (.new x 0),ab x0,ab x1],[.d4 378 x []],G,[]⟩ (jQ 378 x Q) (bf X)):C aa (n+1) 378 [x0,x1] G Q X:=kR (r:=w5) (by kernel_rfl) rfl (al rfl) (al rfl) w
theorem KY(w:∀ x,aZ (T aa n) aN zV ⟨[U (.new x 0),ab x0,ab x1],[.d4 399 x []],G,[]⟩ (jQ 399 x Q) (bf X)):C aa (n+1) 399 [x0,x1] G Q X:=kR (r:=DS) (by kernel_rfl) rfl (al rfl) (al rfl) w
theorem KZ(w:∀ x,aZ (T aa n) aN zW ⟨[U (.new x 0),ab x0,ab x1],[.d4 427 x []],G,[]⟩ (jQ 427 x Q) (bf X)):C aa (n+1) 427 [x0,x1] G Q X:=kR (r:=DT) (by kernel_rfl) rfl (al rfl) (al rfl) w
theorem K0(w:aZ (T aa n) aN zX ⟨[ab x0],[],G,[]⟩ (a9 Q) (bf X)):C aa (n+1) 438 [x0] G Q X:=enter (r:=DU) (by kernel_rfl) rfl (al rfl) (al rfl) w
theorem K1(w:aZ (T aa n) aN zY ⟨[ab x0,ab x1],[],G,[]⟩ (a9 Q) (bf X)):C aa (n+1) 445 [x0,x1] G Q X:=enter (r:=DV) (by kernel_rfl) rfl (al rfl) (al rfl) w
theorem K2(w:aZ (T aa n) aN zZ ⟨[ab x0,ae],[],G,[]⟩ (a9 Q) (bf X)):C aa (n+1) 450 [x0] G Q X:=enter (r:=DW) (by kernel_rfl) rfl (al rfl) (al rfl) w
theorem K8(w:∀ x,aZ (T aa n) aN z0 ⟨[U (.new x 0),ab x0,ab x1],[.d4 536 x []],G,[]⟩ (jQ 536 x Q) (bf X)):C aa (n+1) 536 [x0,x1] G Q X:=kR (r:=D3) (by kernel_rfl) rfl (al rfl) (al rfl) w
theorem K3(w:aZ (T aa n) aN oO ⟨[ab x0,ab x1,ae,ae,ae,ae],[],G,[]⟩ (a9 Q) (bf X)):C aa (n+1) 472 [x0,x1] G Q X:=enter (r:=DX) (by kernel_rfl) rfl (al rfl) (al rfl) w
theorem Bn(w:aZ (T aa n) aN z1 ⟨[ab x0,ab x1,ab bI],[],G,[]⟩ (a9 Q) (bf X)):C aa (n+1) 479 [x0,x1,bI] G Q X:=enter (r:=DY) (by kernel_rfl) rfl (al rfl) (al rfl) w
theorem K4(w:aZ (T aa n) aN rf ⟨[ab x0,ab x1,ae],[],G,[]⟩ (a9 Q) (bf X)):C aa (n+1) 507 [x0,x1] G Q X:=enter (r:=DZ) (by kernel_rfl) rfl (al rfl) (al rfl) w
theorem K5(w:aZ (T aa n) aN z2 ⟨[ab x0],[],G,[]⟩ (a9 Q) (bf X)):C aa (n+1) 521 [x0] G Q X:=enter (r:=D0) (by kernel_rfl) rfl (al rfl) (al rfl) w
theorem K6(w:aZ (T aa n) aN z3 ⟨[ab x0,ae],[],G,[]⟩ (a9 Q) (bf X)):C aa (n+1) 528 [x0] G Q X:=enter (r:=D1) (by kernel_rfl) rfl (al rfl) (al rfl) w
theorem K7(w:aZ (T aa n) aN ve ⟨[ab x0,ae],[],G,[]⟩ (a9 Q) (bf X)):C aa (n+1) 533 [x0] G Q X:=enter (r:=D2) (by kernel_rfl) rfl (al rfl) (al rfl) w
theorem K9(w:aZ (T aa n) aN z4 ⟨[ab x0,ab x1],[],G,[]⟩ (a9 Q) (bf X)):C aa (n+1) 545 [x0,x1] G Q X:=enter (r:=D4) (by kernel_rfl) rfl (al rfl) (al rfl) w
theorem La(w:aZ (T aa n) aN z5 ⟨[ab x0,ab x1,ae],[],G,[]⟩ (a9 Q) (bf X)):C aa (n+1) 552 [x0,x1] G Q X:=enter (r:=D5) (by kernel_rfl) rfl (al rfl) (al rfl) w
theorem Lb(w:aZ (T aa n) aN z6 ⟨[ab x0,ab x1,ab bI,ae],[],G,[]⟩ (a9 Q) (bf X)):C aa (n+1) 559 [x0,x1,bI] G Q X:=enter (r:=D6) (by kernel_rfl) rfl (al rfl) (al rfl) w
theorem Lc(w:aZ (T aa n) aN z7 ⟨[ab x0,ab x1,ab bI,ae],[],G,[]⟩ (a9 Q) (bf X)):C aa (n+1) 564 [x0,x1,bI] G Q X:=enter (r:=D7) (by kernel_rfl) rfl (al rfl) (al rfl) w
theorem Ld(w:aZ (T aa n) aN z8 ⟨[ab x0,ab x1,ab bI,ae],[],G,[]⟩ (a9 Q) (bf X)):C aa (n+1) 571 [x0,x1,bI] G Q X:=enter (r:=D8) (by kernel_rfl) rfl (al rfl) (al rfl) w
theorem Le(w:aZ (T aa n) aN z9 ⟨[ab x0,ab x1,ae],[],G,[]⟩ (a9 Q) (bf X)):C aa (n+1) 578 [x0,x1] G Q X:=enter (r:=D9) (by kernel_rfl) rfl (al rfl) (al rfl) w
theorem Lf(w:aZ (T aa n) aN oP ⟨[ab x0,ab x1,ab bI,ae,ae,ae,ae,ae],[],G,[]⟩ (a9 Q) (bf X)):C aa (n+1) 583 [x0,x1,bI] G Q X:=enter (r:=Ea) (by kernel_rfl) rfl (al rfl) (al rfl) w
theorem Lg(w:aZ (T aa n) aN rg ⟨[ab x0,ab x1,ae,ae,ae],[],G,[]⟩ (a9 Q) (bf X)):C aa (n+1) 590 [x0,x1] G Q X:=enter (r:=Eb) (by kernel_rfl) rfl (al rfl) (al rfl) w
theorem Lh(w:aZ (T aa n) aN rh ⟨[ab x0,ab x1,ab bI,ab dr,ae,ae,ae],[],G,[]⟩ (a9 Q) (bf X)):C aa (n+1) 597 [x0,x1,bI,dr] G Q X:=enter (r:=Ec) (by kernel_rfl) rfl (al rfl) (al rfl) w
theorem Li(w:aZ (T aa n) aN ri ⟨[ab x0,ab x1,ab bI,ab dr,ab (.none),ae,ae,ae,ae,ae,ae],[],G,[]⟩ (a9 Q) (bf X)):C aa (n+1) 603 [x0,x1,bI,dr] G Q X:=enter (r:=Ed) (by kernel_rfl) rfl (al rfl) (al rfl) w
theorem Ln(w:∀ x,aZ (T aa n) aN Aa ⟨[U (.new x 0),ab x0,ab x1],[.d4 655 x []],G,[]⟩ (jQ 655 x Q) (bf X)):C aa (n+1) 655 [x0,x1] G Q X:=kR (r:=Ei) (by kernel_rfl) rfl (al rfl) (al rfl) w
theorem Lj(w:aZ (T aa n) aN Ab ⟨[ab x0,ab x1,ab bI],[],G,[]⟩ (a9 Q) (bf X)):C aa (n+1) 631 [x0,x1,bI] G Q X:=enter (r:=Ee) (by kernel_rfl) rfl (al rfl) (al rfl) w
theorem Lk(w:aZ (T aa n) aN rj ⟨[ab x0,ab x1,ab bI,ae,ae,ae,ae,ae],[],G,[]⟩ (a9 Q) (bf X)):C aa (n+1) 638 [x0,x1,bI] G Q X:=enter (r:=Ef) (by kernel_rfl) rfl (al rfl) (al rfl) w
theorem Ll(w:aZ (T aa n) aN vf ⟨[ab x0,ab x1,ab bI,ae,ae],[],G,[]⟩ (a9 Q) (bf X)):C aa (n+1) 645 [x0,x1,bI] G Q X:=enter (r:=Eg) (by kernel_rfl) rfl (al rfl) (al rfl) w
theorem Lm(w:aZ (T aa n) aN Ac ⟨[ab x0,ab x1,ab bI,ab dr,ae],[],G,[]⟩ (a9 Q) (bf X)):C aa (n+1) 652 [x0,x1,bI,dr] G Q X:=enter (r:=Eh) (by kernel_rfl) rfl (al rfl) (al rfl) w
theorem Lo(w:aZ (T aa n) aN Ad ⟨[ab x0,ab x1,ab bI,ae],[],G,[]⟩ (a9 Q) (bf X)):C aa (n+1) 666 [x0,x1,bI] G Q X:=enter (r:=Ej) (by kernel_rfl) rfl (al rfl) (al rfl) w
theorem Lp(w:aZ (T aa n) aN Ae ⟨[ab x0,ae],[],G,[]⟩ (a9 Q) (bf X)):C aa (n+1) 673 [x0] G Q X:=enter (r:=Ek) (by kernel_rfl) rfl (al rfl) (al rfl) w
theorem Lq(w:aZ (T aa n) aN Af ⟨[ab x0,ae],[],G,[]⟩ (a9 Q) (bf X)):C aa (n+1) 680 [x0] G Q X:=enter (r:=El) (by kernel_rfl) rfl (al rfl) (al rfl) w
theorem Lr(w:aZ (T aa n) aN Ag ⟨[ab x0],[],G,[]⟩ (a9 Q) (bf X)):C aa (n+1) 685 [x0] G Q X:=enter (r:=Em) (by kernel_rfl) rfl (al rfl) (al rfl) w
theorem Ls(w:aZ (T aa n) aN Ah ⟨[ab x0,ab x1,ae,ae],[],G,[]⟩ (a9 Q) (bf X)):C aa (n+1) 692 [x0,x1] G Q X:=enter (r:=En) (by kernel_rfl) rfl (al rfl) (al rfl) w
theorem Lu(w:aZ (T aa n) aN rk ⟨[ab x0,ab x1,ae,ae,ae],[],G,[]⟩ (a9 Q) (bf X)):C aa (n+1) 699 [x0,x1] G Q X:=enter (r:=Eo) (by kernel_rfl) rfl (al rfl) (al rfl) w
theorem Lv(w:aZ (T aa n) aN Ai ⟨[ab x0,ab x1,ab bI,ae,ae,ae],[],G,[]⟩ (a9 Q) (bf X)):C aa (n+1) 706 [x0,x1,bI] G Q X:=enter (r:=Ep) (by kernel_rfl) rfl (al rfl) (al rfl) w
theorem Lw(w:aZ (T aa n) aN Aj ⟨[ab x0,ab x1,ab bI,ae,ae,ae],[],G,[]⟩ (a9 Q) (bf X)):C aa (n+1) 713 [x0,x1,bI] G Q X:=enter (r:=Er) (by kernel_rfl) rfl (al rfl) (al rfl) w
theorem Lx(w:aZ (T aa n) aN Ak ⟨[ab x0,ab x1,ab bI,ae,ae],[],G,[]⟩ (a9 Q) (bf X)):C aa (n+1) 720 [x0,x1,bI] G Q X:=enter (r:=Es) (by kernel_rfl) rfl (al rfl) (al rfl) w
theorem Ly(w:aZ (T aa n) aN oQ ⟨[ab x0,ab x1,ae,ae,ae,ae,ae,ae],[],G,[]⟩ (a9 Q) (bf X)):C aa (n+1) 725 [x0,x1] G Q X:=enter (r:=Et) (by kernel_rfl) rfl (al rfl) (al rfl) w
theorem Lz(w:aZ (T aa n) aN vg ⟨[ab x0,ae],[],G,[]⟩ (a9 Q) (bf X)):C aa (n+1) 730 [x0] G Q X:=enter (r:=Eu) (by kernel_rfl) rfl (al rfl) (al rfl) w
theorem LA(w:aZ (T aa n) aN Al ⟨[ab x0,ab x1,ae],[],G,[]⟩ (a9 Q) (bf X)):C aa (n+1) 737 [x0,x1] G Q X:=enter (r:=Ew) (by kernel_rfl) rfl (al rfl) (al rfl) w
theorem LB(w:aZ (T aa n) aN rl ⟨[ab x0,ab x1,ab bI,ae],[],G,[]⟩ (a9 Q) (bf X)):C aa (n+1) 744 [x0,x1,bI] G Q X:=enter (r:=Ex) (by kernel_rfl) rfl (al rfl) (al rfl) w
theorem LC(w:aZ (T aa n) aN Am ⟨[ab x0],[],G,[]⟩ (a9 Q) (bf X)):C aa (n+1) 751 [x0] G Q X:=enter (r:=Ey) (by kernel_rfl) rfl (al rfl) (al rfl) w
theorem LD(w:aZ (T aa n) aN An ⟨[ab x0,ae],[],G,[]⟩ (a9 Q) (bf X)):C aa (n+1) 758 [x0] G Q X:=enter (r:=Ez) (by kernel_rfl) rfl (al rfl) (al rfl) w
theorem LF(w:aZ (T aa n) aN Ao ⟨[ab x0,ab x1],[],G,[]⟩ (a9 Q) (bf X)):C aa (n+1) 765 [x0,x1] G Q X:=enter (r:=EA) (by kernel_rfl) rfl (al rfl) (al rfl) w
theorem LG(w:aZ (T aa n) aN Ap ⟨[ab x0,ab x1,ae,ae,ae],[],G,[]⟩ (a9 Q) (bf X)):C aa (n+1) 772 [x0,x1] G Q X:=enter (r:=EB) (by kernel_rfl) rfl (al rfl) (al rfl) w
theorem LH(w:aZ (T aa n) aN Aq ⟨[ab x0,ab x1,ab bI,ae,ae,ae],[],G,[]⟩ (a9 Q) (bf X)):C aa (n+1) 779 [x0,x1,bI] G Q X:=enter (r:=EC) (by kernel_rfl) rfl (al rfl) (al rfl) w
theorem LI(w:aZ (T aa n) aN rm ⟨[ab x0,ab x1,ab bI,ab dr,ae,ae,ae,ae,ae,ae],[],G,[]⟩ (a9 Q) (bf X)):C aa (n+1) 786 [x0,x1,bI,dr] G Q X:=enter (r:=ED) (by kernel_rfl) rfl (al rfl) (al rfl) w
theorem LJ(w:aZ (T aa n) aN rn ⟨[ab x0,ab x1,ab bI,ae,ae,ae,ae,ae,ae,ae],[],G,[]⟩ (a9 Q) (bf X)):C aa (n+1) 791 [x0,x1,bI] G Q X:=enter (r:=EE) (by kernel_rfl) rfl (al rfl) (al rfl) w
theorem LK(w:aZ (T aa n) aN Ar ⟨[ab x0],[],G,[]⟩ (a9 Q) (bf X)):C aa (n+1) 798 [x0] G Q X:=enter (r:=EF) (by kernel_rfl) rfl (al rfl) (al rfl) w
theorem LL(w:aZ (T aa n) aN vh ⟨[ab x0,ab x1,ab bI,ae,ae,ae,ae,ae,ae,ae],[],G,[]⟩ (a9 Q) (bf X)):C aa (n+1) 805 [x0,x1,bI] G Q X:=enter (r:=EG) (by kernel_rfl) rfl (al rfl) (al rfl) w
theorem LM(w:aZ (T aa n) aN As ⟨[ab x0,ab x1,ae,ae],[],G,[]⟩ (a9 Q) (bf X)):C aa (n+1) 812 [x0,x1] G Q X:=enter (r:=EH) (by kernel_rfl) rfl (al rfl) (al rfl) w
theorem vD(w:aZ (T aa n) aN At ⟨[ab x0,ab x1,ae],[],G,[]⟩ (a9 Q) (bf X)):C aa (n+1) 817 [x0,x1] G Q X:=enter (r:=EI) (by kernel_rfl) rfl (al rfl) (al rfl) w
theorem LN(w:aZ (T aa n) aN iC ⟨[ab x0,ae,ae,ae,ae,ae,ae,ae,ae,ae,ae,ae,ae,ae,ae],[],G,[]⟩ (a9 Q) (bf X)):C aa (n+1) 822 [x0] G Q X:=enter (r:=ft) (by kernel_rfl) rfl (al rfl) (al rfl) w
end
end
section
set_option tactic.hygienic true
noncomputable def fQ(n:Nat)(l:List be):be:=l.getD n .ke
noncomputable def fP:be→List be|.bn _ a _=>a|.kl _ b=>b|.gF _ _ _ _ b=>b|.mx b=>b|.nQ b _ _ _=>b|_=>[]
noncomputable def ib:be→List be|.bn _ _ b=>b|_=>[]
noncomputable def lC:List be:=fP (fQ 1 oO)
noncomputable def oo:List be:=oO.drop 2
noncomputable def ui:List be:=(fP (fQ 1 oO)).drop 2
noncomputable def uI:bh:=(.bi .In bA (.bS aL 21))
noncomputable def uu:List be:=fP (fQ 1 rf)
noncomputable def yj:List be:=rf.drop 2
noncomputable def t6:bh:=(.ao [cM,.bq (.bq (.bS aL 21) cM) cx,.call (.aO 31) [.bq (.bq (.bS aL 21) cM) cQ]])
noncomputable def yk:List be:=ve.drop 1
noncomputable def t7:bh:=(.ao [.call (.aO 37) [bA,.bE aL 24 [.bq bV cM]],.bq bV (.a7 .Add cM cQ)])
noncomputable def uJ:bh:=(.bi .Gt (.pV 4) cx)
noncomputable def uv:List be:=fP (fQ 2 oP)
noncomputable def uk:List be:=oP.drop 3
noncomputable def yl:List be:=(fP (fQ 2 oP)).drop 1
noncomputable def t8:bh:=(.ao [cM,fW])
noncomputable def uK:bh:=(.bi .Lt bA bV)
noncomputable def uw:List be:=fP (fQ 2 rg)
noncomputable def ym:List be:=rg.drop 3
noncomputable def uL:bh:=(.bi .Lt cT d7)
noncomputable def ux:List be:=fP (fQ 2 rh)
noncomputable def yn:List be:=rh.drop 3
noncomputable def uy:List be:=fP (fQ 1 ri)
noncomputable def Hi:List be:=ri.drop 2
noncomputable def t9:bh:=(.bq cM cx)
noncomputable def uz:List be:=fP (fQ 6 rj)
noncomputable def ul:List be:=rj.drop 7
noncomputable def qC:List be:=fP (fQ 0 vf)
noncomputable def ua:bh:=(.ao [cM,.bE aL 24 [.cvar 1]])
noncomputable def yC:List be:=fP (fQ 2 rk)
noncomputable def yo:List be:=rk.drop 3
noncomputable def Hg:bh:=(.a7 .Add (.bC 77) cM)
noncomputable def yp:List be:=oQ.drop 3
noncomputable def uA:List be:=fP (fQ 4 oQ)
noncomputable def yq:List be:=oQ.drop 5
noncomputable def qx:bh:=(.call (.aO 21) [cM])
noncomputable def yr:List be:=vg.drop 1
noncomputable def yD:List be:=fP (fQ 0 rl)
noncomputable def yt:List be:=rl.drop 1
noncomputable def yu:List be:=rm.drop 4
noncomputable def um:List be:=rm.drop 5
noncomputable def qy:bh:=(.bn (.eC .Or [.bi .Gt cM cx,.bi .Gt bV cx]) (.a7 .Add (.b5 9) (.call fq [aL,.b5 247])) (.call fq [aL,.b5 9]))
noncomputable def yv:List be:=rn.drop 2
noncomputable def yw:List be:=rn.drop 4
noncomputable def yx:List be:=vh.drop 3
noncomputable def x8:bh:=(.bi .In cM (.ao [hv,bd]))
noncomputable def ub:bh:=(.call (.aO 81) [bd,bA,.bi .Eq cM d7])
noncomputable def yy:List be:=iC.drop 4
noncomputable def uc:bh:=(.lst [.call (.aO 24) [.bq bV cM],.bq (.bq fW cM) cx])
noncomputable def yz:List be:=iC.drop 5
noncomputable def qz:bh:=(.call ie [bd,bA,.eT [33,27] [.lst [.bq cM cx,.bq cM cx],cM]])
noncomputable def mT:List be:=iC.drop 7
noncomputable def uB:List be:=fP (fQ 10 iC)
noncomputable def un:List be:=iC.drop 11
noncomputable def yA:List be:=(fP (fQ 10 iC)).drop 1
noncomputable def uq:List be:=fP (fQ 3 ra)
noncomputable def ye:List be:=ra.drop 4
noncomputable def yf:List be:=oN.drop 1
noncomputable def ur:List be:=fP (fQ 3 oN)
noncomputable def yg:List be:=oN.drop 4
noncomputable def tY:bh:=(.a7 .Mod (.a7 .FloorDiv aL (.a7 .Pow (.b5 256) cM)) (.b5 256))
noncomputable def tZ:bh:=(.call (.aO 7) [.hW aL (U (.a7 .Mult fD cM)) (U (.a7 .Add (.a7 .Mult fD cM) fD))])
noncomputable def ut:List be:=fP (fQ 2 rb)
noncomputable def yh:List be:=rb.drop 3
noncomputable def t4:bh:=(.a7 .Mod (.a7 .Add cM (.cvar 1)) j4)
noncomputable def yB:List be:=fP (fQ 3 rd)
noncomputable def yi:List be:=rd.drop 4
noncomputable def x6:bh:=(.call (.aO 6) [cM,fD])
noncomputable def x7:bh:=(.call (.aO 31) [cM])
noncomputable def t5:bh:=(.ao [cM,.call (.aO 31) [.bq aL cM]])
section
variable{aa:aq→bJ}{x0 x1 bI dr s9 x hb ey:V}{n:Nat}{G:List aQ}{Q X:el}{Q':fc}{dg:Option V→aA→Prop}{dU:Bool→aA→Prop}{es hd:List (Nat×V)}{xs zs cS l1 bY:List V}{aj:Nat}{bx oc bw:Array UInt8}{a b c d i j m:Int}{sm m5 AF ro:Bool}{s0 s1:List (Nat×V)}{ny cX cg d6 n4 sl CY XI XJ XK XC XD XE XF XG XH:Int}{lR b0 cB eh c1 Xd Xe Xf Xg Xh W7 W8 W9 Xa Xb Xc:Array UInt8}{hK dQ fe hL iD vk Xn Xo Xi Xj Xk Xl Xm:Bool}{wk pc wl e9 f9 Pq Xy Xt Xu Pp Xv Xw Xx:List V}
variable{v0 v1 v2 v3 v4 cf v6 c3 pU k6 v10 v11 fJ fj fk XN:Option cA}{XO y1 y2 y3 d8 y5 ha gf y8 hE hD iZ XP XQ pY XR:V}
theorem Sv(w:(0:Int)≤30∧(30:Int)≤2^20∧forL [3] ah (cV (T aa n) lC) ((dw 0 30 1).map V.int) ⟨[ab az,ab x1,ab x1,ae,ae,ae],[],G,[]⟩ (ei (a9 Q) λS=>aZ (T aa n) aN oo S (a9 Q) (bf X))):C aa (n+1) 472 [az,x1] G Q X:=K3 (bl (by kernel_rfl) w)
theorem Dq(w:db aF y2 (.a6 427) (St G) λh=>if(!h)=af then(Q' (.ret y2) ⟨[ab az,ab x1,ab y2,ab (.int i),v4,cf],[],G,[]⟩) else(hx aF aN (St G) (.aB 2) 23∧er 8 y2 λg=>dM (St G) (.aB 2)=dM (St G) (.aB 2)∧bF G[2]? λk=>nv aN 2 23 k [g,.ao [.int (-1),.none]] (St G) λl f=>gb l λe=>e.length=2∧aZ (T aa n) aN ui (fu [4,5] e ⟨[ab az,ab x1,ab y2,ab (.int i),v4,cf],[],f.aE,[]⟩) Q' (λag ag=>False))):cV (T aa n) lC ⟨[ab az,ab x1,ab y2,ab (.int i),v4,cf],[],G,[]⟩ Q':=bl (by kernel_rfl) w
theorem wT(w:er 9 y2 λe=>b3 aF d8 e (St G) λf=>if(!f)=af then(Q' (.ret .none) ⟨[ab az,ab x1,ab y2,ab (.int i),ab d8,ab y5],[],G,[]⟩) else(Q' .next ⟨[ab az,ab x1,ab y5,ab (.int i),ab d8,ab y5],[],G,[]⟩)):aZ (T aa n) aN ui ⟨[ab az,ab x1,ab y2,ab (.int i),ab d8,ab y5],[],G,[]⟩ Q' (λag ag=>False):=bl (by kernel_rfl) w
theorem Sw(w:(aF.bE 536 24).isSome=af∧(eG aN 2 23).isSome=af∧2=2∧iR bI λf=>1=1∧C aa n 472 [az,(keyOf es f).getD .none] G (λg e=>Q g e) X):C aa (n+1) 479 [az,.dict es,bI] G Q X:=Bn (bl (by kernel_rfl) w)
theorem Sx(w:(aF.bE 536 24).isSome=af∧hx aF aN (St G) (.aB 3) 23∧dM (St G) (.aB 3)=dM (St G) (.aB 3)∧bF G[3]? λg=>nv aN 3 23 g [bI] (St G) λh f=>1=1∧C aa n 472 [az,h] f.aE (λk e=>Q k e) X):C aa (n+1) 479 [az,.aB 3,bI] G Q X:=Bn (bl (by kernel_rfl) w)
theorem Sy(w:∃ m,g9 (iq (T aa n) uI) (cV (T aa n) uu) m ⟨[ab az,ab x1,ab (.int 1)],[],G,[]⟩ (ei (a9 Q) λS=>aZ (T aa n) aN yj S (a9 Q) (bf X))):C aa (n+1) 507 [az,x1] G Q X:=K4 (bl (by kernel_rfl) w)
theorem Rz(w:Q' .next ⟨[ab az,ab x1,ab (.int (i+1))],[],G,[]⟩):cV (T aa n) uu ⟨[ab az,ab x1,ab (.int i)],[],G,[]⟩ Q':=bl (by kernel_rfl) w
theorem Dt(w:bZ (.int i) (.aB 2) (St G) λe=>dU e ⟨[ab az,ab x1,ab (.int i)],[],G,[]⟩):iq (T aa n) uI ⟨[ab az,ab x1,ab (.int i)],[],G,[]⟩ dU:=bl (by kernel_rfl) w
theorem Re(w:setG 2 (.int i) (.ao [.int 0,x1]) (St G) λf=>C aa n 427 [.int i,.int 0] f.aE (λg e=>Q g e) X):aZ (T aa n) aN yj ⟨[ab az,ab x1,ab (.int i)],[],G,[]⟩ (a9 Q) (bf X):=bl (by kernel_rfl) w
theorem Sz(w:pJ aF (.aB 2) (St G) λe=>Q e G):C aa (n+1) 521 [az] G Q X:=K5 (bl (by kernel_rfl) w)
theorem SA(w:(aF.bE 536 23).isSome=af∧1=1∧C aa n 479 [az,.aB 3,.lit 25] G (λf e=>db aF f (.cC 3) (St e) λg=>if g=af then(Q f e) else(ah=ah∧0=0∧0≤15∧Q (.dict []) e)) X):C aa (n+1) 528 [az] G Q X:=K6 (bl (by kernel_rfl) w)
theorem SC(w:(aF.bE 536 26).isSome=af∧1=1∧C aa n 521 [az] G (λk h=>bF (h8 k) λe=>e.length≤2^20∧e.length≤2^20∧dB (cD (T aa n) ae t6 ae) e ⟨[ab az,ae],[],h,[]⟩ [] λg f=>g.length≤2^20∧aZ (T aa n) aN yk ⟨f.bB.set 1 (ab (.ao g)),f.aR,f.aE,[]⟩ (a9 Q) (bf X)) X):C aa (n+1) 533 [az] G Q X:=K7 (bl (by kernel_rfl) w)
theorem QY(w:e0 G 2 x λg=>cr g (.int 0) (St G) λh=>e0 G 2 x λk=>cr k (.int 1) (St G) λl=>C aa n 450 [l] G (λf e=>dg (U (.ao [x,h,f])) ⟨[ab az,ae],[],e,[U x]⟩) (λag ag=>False)):cD (T aa n) ae t6 ae x ⟨[ab az,ae],[],G,[]⟩ dg:=bl (by kernel_rfl) w
theorem Rf(w:C aa n 450 [.aB 3] G (λf e=>Q (.ao [y1,f]) e) X):aZ (T aa n) aN yk ⟨[ab az,ab y1],[],G,[]⟩ (a9 Q) (bf X):=bl (by kernel_rfl) w
theorem SD(w:0≤64∧db aF x1 (.a6 378) (St G) λf=>if f=af then(er 5 x1 λe=>Q e G) else(0≤64∧X (.a3 95 [.lit 29,.int (-1)]) G)):C aa (n+1) 545 [.lit 27,x1] G Q X:=K9 (bl (by kernel_rfl) w)
theorem SE(w:(aF.bE 536 24).isSome=af∧1=1∧C aa n 472 [az,x1] G (λf e=>db aF f (.cC 3) (St e) λg=>if(!g)=af then(X (.a3 95 [.lit 30,.int (-1)]) e) else(Q f e)) X):C aa (n+1) 552 [az,x1] G Q X:=La (bl (by kernel_rfl) w)
theorem SF(w:(aF.bE 536 23).isSome=af∧1=1∧C aa n 479 [az,.dict es,.lit aj] G (λf e=>db aF f (.cC 2) (St e) λg=>if(!g)=af then(c7 aF .Add (.lit aj) (.lit 31) λh=>X (.a3 95 [h,.int (-1)]) e) else(Q f e)) X):C aa (n+1) 559 [az,.dict es,.lit aj] G Q X:=Lb (bl (by kernel_rfl) w)
theorem EY(w:if(!(keyOf es 27).isSome)=af then(Q (.list []) G) else(C aa n 559 [az,.dict es,.lit 27] G (λg f=>bF (lenOf (St f) g) λk=>k≤2^20∧(2:Int)≠0∧0≤64∧if(!((dm (k:Int) 2)==0))=af then(X (.a3 95 [.lit 32,.int (-1)]) f) else(bF (lenOf (St f) g) λl=>l≤2^20∧gN 2 [.int 0,.int (l:Int),.int 2] λe=>e.length≤2^20∧dB (cD (T aa n) ae t7 ae) e ⟨[ab az,ab (.dict es),ab (.lit 27),ab g],[],f,[]⟩ [] λh o=>Q (.list h) o.aE)) X)):C aa (n+1) 564 [az,.dict es,.lit 27] G Q X:=Lc (bl (by kernel_rfl) w)
theorem QZ(w:(aF.bE 536 24).isSome=af∧cr y3 x (St G) λk=>1=1∧C aa n 472 [az,k] G (λg f=>C aa n 545 [.lit 27,g] f (λh e=>c7 aF .Add x (.int 1) λl=>cr y3 l (St e) λo=>dg (U (.ao [h,o])) ⟨[ab az,ab (.dict es),ab (.lit 27),ab y3],[],e,[U x]⟩) (λag ag=>False)) (λag ag=>False)):cD (T aa n) ae t7 ae x ⟨[ab az,ab (.dict es),ab (.lit 27),ab y3],[],G,[]⟩ dg:=bl (by kernel_rfl) w
theorem SG(w:C aa n 559 [az,.dict es,.lit 33] G (λg e=>bF (lenOf (St e) g) λh=>h≤2^20∧0≤64∧if(!((h:Int)==2))=af then(X (.a3 95 [.lit 34,.int (-1)]) e) else((aF.bE 536 24).isSome=af∧cr g (.int 0) (St e) λu=>1=1∧C aa n 472 [az,u] e (λs r=>C aa n 545 [.lit 27,s] r (λt f=>(aF.bE 536 24).isSome=af∧cr g (.int 1) (St f) λq=>1=1∧C aa n 472 [az,q] f (λo k=>C aa n 545 [.lit 27,o] k (λp l=>Q (.ao [t,p]) l) X) X) X) X)) X):C aa (n+1) 571 [az,.dict es,.lit 27] G Q X:=Ld (bl (by kernel_rfl) w)
theorem sK(w:bc (λl=>xs.length≤2^20∧if(decide (40<(xs.length:Int)))=af then(X (.a3 95 [.lit 36,.int (-1)]) G) else(c7 aF .Add (.ao xs) (.ao [l]) λo=>Q o G)) λg=>db aF x1 (.a6 427) (St G) λk=>if k=af then(er 8 x1 λf=>er 9 x1 λe=>bZ (.ao [f,e]) (.ao xs) (St G) λh=>if h=af then(X (.a3 95 [.lit 35,.int (-1)]) G) else(g (.ao [f,e]))) else(g (.ao [.int (-1),.int (-1)]))):C aa (n+1) 578 [.ao xs,x1] G Q X:=Le (bl (by kernel_rfl) w)
theorem EZ(w:∃ m,g9 (iq (T aa n) uJ) (cV (T aa n) uv) m ⟨[ab az,ab x1,ab (.lit 27),U (.cv 0),U (.cv 1),ae,ae,ae],[.list [],.list [.ao [x1,.ao []]]],G,[]⟩ (ei (a9 Q) λS=>aZ (T aa n) aN uk S (a9 Q) (bf X))):C aa (n+1) 583 [az,x1,.lit 27] G Q X:=Lf (bl (by kernel_rfl) w)
theorem wW(w:af=af∧37=37∧(l1).length≤2^20∧bF (l1).getLast? λf=>gb f λe=>e.length=2∧aZ (T aa n) aN yl (fu [5,6] e ⟨[ab az,ab x1,ab (.lit 27),U (.cv 0),U (.cv 1),cf,v6,c3],[.list cS,.list (l1).dropLast],G,[]⟩) Q' (λag ag=>False)):cV (T aa n) uv ⟨[ab az,ab x1,ab (.lit 27),U (.cv 0),U (.cv 1),cf,v6,c3],[.list cS,.list l1],G,[]⟩ Q':=bl (by kernel_rfl) w
theorem pB(w:(l1).length≤2^20∧dU (decide (0<((l1).length:Int))) ⟨[ab az,ab x1,ab (.lit 27),U (.cv 0),U (.cv 1),cf,v6,c3],[.list cS,.list l1],G,[]⟩):iq (T aa n) uJ ⟨[ab az,ab x1,ab (.lit 27),U (.cv 0),U (.cv 1),cf,v6,c3],[.list cS,.list l1],G,[]⟩ dU:=bl (by kernel_rfl) w
theorem Do(w:Q (.list cS) G):aZ (T aa n) aN uk ⟨[ab az,ab x1,ab (.lit 27),U (.cv 0),U (.cv 1),cf,v6,c3],[.list cS,.list l1],G,[]⟩ (a9 Q) (bf X):=bl (by kernel_rfl) w
theorem wU(w:C aa n 578 [ha,y5] G (λo t=>C aa n 552 [az,y5] t (λf k=>bZ (.lit 38) f (St k) λv=>if v=af then(af=af∧C aa n 559 [az,f,.lit 38] k (λy u=>gN 5 [y] λg=>g.length≤2^20∧dB (cD (T aa n) ae t8 ae) g ⟨[ab az,ab x1,ab (.lit 27),U (.cv 0),U (.cv 1),ab y5,ab o,ab f],[.list cS,.list (l1).dropLast],u,[]⟩ [] λs e=>hU (⟨e.bB,e.aR,e.aE,[]⟩:aA).aR 1 λl=>pz aN 1 39 l [.list s] ⟨e.bB,e.aR,e.aE,[]⟩ λag q=>Q' .next q) (λag ag=>False)) else(af=af∧C aa n 564 [az,f,.lit 27] k (λr p=>([]:List V)=[]∧39=39∧hA r λh=>(cS).length+h.length≤2^20∧Q' .next ⟨[ab az,ab x1,ab (.lit 27),U (.cv 0),U (.cv 1),ab y5,ab o,ab f],[.list (cS++h),.list (l1).dropLast],p,[]⟩) (λag ag=>False))) (λag ag=>False)) (λag ag=>False)):aZ (T aa n) aN yl ⟨[ab az,ab x1,ab (.lit 27),U (.cv 0),U (.cv 1),ab y5,ab ha,c3],[.list cS,.list (l1).dropLast],G,[]⟩ Q' (λag ag=>False):=bl (by kernel_rfl) w
theorem Q0(w:dg (U (.ao [x,ha])) ⟨[ab az,ab x1,ab (.lit 27),U (.cv 0),U (.cv 1),ab y5,ab ha,ab gf],[.list cS,.list (l1).dropLast],G,[U x]⟩):cD (T aa n) ae t8 ae x ⟨[ab az,ab x1,ab (.lit 27),U (.cv 0),U (.cv 1),ab y5,ab ha,ab gf],[.list cS,.list (l1).dropLast],G,[]⟩ dg:=bl (by kernel_rfl) w
theorem SH(w:xs.length≤2^20∧∃ m,g9 (iq (T aa n) uK) (cV (T aa n) uw) m ⟨[ab (.list xs),ab x1,ab (.int 0),ab (.int (xs.length:Int)),ae],[],G,[]⟩ (ei (a9 Q) λS=>aZ (T aa n) aN ym S (a9 Q) (bf X))):C aa (n+1) 590 [.list xs,x1] G Q X:=Lg (bl (by kernel_rfl) w)
theorem RA(w:(2:Int)≠0∧hF (i+j) 2=ah∧bc (λg h=>Q' .next ⟨[ab (.list xs),ab x1,ab g,ab h,ab (.int (dY (i+j) 2))],[],G,[]⟩) λe=>cr (.list xs) (.int (dY (i+j) 2)) (St G) λk=>fT k x1 λf=>if f=af then(e (.int ((dY (i+j) 2)+1)) (.int j)) else(e (.int i) (.int (dY (i+j) 2)))):cV (T aa n) uw ⟨[ab (.list xs),ab x1,ab (.int i),ab (.int j),v4],[],G,[]⟩ Q':=bl (by kernel_rfl) w
theorem wY(w:dU (decide (i<j)) ⟨[ab (.list xs),ab x1,ab (.int i),ab (.int j),v4],[],G,[]⟩):iq (T aa n) uK ⟨[ab (.list xs),ab x1,ab (.int i),ab (.int j),v4],[],G,[]⟩ dU:=bl (by kernel_rfl) w
theorem Rg(w:Q (.int i) G):aZ (T aa n) aN ym ⟨[ab (.list xs),ab x1,ab (.int i),v3,v4],[],G,[]⟩ (a9 Q) (bf X):=bl (by kernel_rfl) w
theorem SI(w:xs.length≤2^20∧∃ m,g9 (iq (T aa n) uL) (cV (T aa n) ux) m ⟨[ab az,ab (.list xs),ab (.lit 27),ab dr,ab (.int 0),ab (.int (xs.length:Int)),ae],[],G,[]⟩ (ei (a9 Q) λS=>aZ (T aa n) aN yn S (a9 Q) (bf X))):C aa (n+1) 597 [az,.list xs,.lit 27,dr] G Q X:=Lh (bl (by kernel_rfl) w)
theorem RB(w:(2:Int)≠0∧hF (i+j) 2=ah∧bc (λq r l=>Q' .next ⟨[ab az,ab (.list xs),ab (.lit 27),ab dr,ab q,ab r,ab (.int (dY (i+j) 2))],[],l,[]⟩) λf=>cr (.list xs) (.int (dY (i+j) 2)) (St G) λs=>C aa n 552 [az,s] G (λp o=>C aa n 571 [az,p,.lit 27] o (λh e=>cr h (.int 1) (St e) λk=>fT k dr λg=>if g=af then(f (.int ((dY (i+j) 2)+1)) (.int j) (e)) else(f (.int i) (.int (dY (i+j) 2)) (e))) (λag ag=>False)) (λag ag=>False)):cV (T aa n) ux ⟨[ab az,ab (.list xs),ab (.lit 27),ab dr,ab (.int i),ab (.int j),v6],[],G,[]⟩ Q':=bl (by kernel_rfl) w
theorem wZ(w:dU (decide (i<j)) ⟨[ab az,ab (.list xs),ab (.lit 27),ab dr,ab (.int i),ab (.int j),v6],[],G,[]⟩):iq (T aa n) uL ⟨[ab az,ab (.list xs),ab (.lit 27),ab dr,ab (.int i),ab (.int j),v6],[],G,[]⟩ dU:=bl (by kernel_rfl) w
theorem Rh(w:Q (.int i) G):aZ (T aa n) aN yn ⟨[ab az,ab (.list xs),ab (.lit 27),ab dr,ab (.int i),cf,v6],[],G,[]⟩ (a9 Q) (bf X):=bl (by kernel_rfl) w
theorem SJ(w:(0:Int)≤(40+1)∧((40+1):Int)≤2^20∧forL [6] ah (cV (T aa n) uy) ((dw 0 (40+1) 1).map V.int) ⟨[ab az,ab x1,ab (.lit 27),ab dr,ab .none,ab x1,ae,ae,ae,ae,ae],[],G,[]⟩ (ei (a9 Q) λS=>aZ (T aa n) aN Hi S (a9 Q) (bf X))):C aa (n+1) 603 [az,x1,.lit 27,dr] G Q X:=Li (bl (by kernel_rfl) w)
theorem Dr(w:C aa n 552 [az,y5] G (λh H=>wM h λam=>if(!(keyOf am 38).isSome)=af then(C aa n 564 [az,h,.lit 27] H (λI fr=>bF (h8 I) λr=>r.length≤2^20∧r.length≤2^20∧dB (cD (T aa n) ae t9 ae) r ⟨[ab az,ab x1,ab (.lit 27),ab dr,ab .none,ab y5,ab (.int i),ab h,ab I,k6,v10],[],fr,[]⟩ [] λd1 v=>getVar 3 ⟨v.bB,v.aR,v.aE,[]⟩ λa2 k=>C aa n 590 [.list d1,a2] k.aE (λap L=>bc (λco O=>Q' (.ret co) O) λA=>bc (λcs t=>if cs=af then(getVar 8 t λbm P=>getVar 9 P λbs o=>cr bm bs (St o.aE) λd2=>cr d2 (.int 1) (St o.aE) λem=>A em o) else(getVar 4 t λca R=>A ca R)) λB=>getVar 9 ⟨k.bB.set 9 (ab ap),k.aR,L,k.aT⟩ λcd S=>getVar 8 S λce p=>bF (lenOf (St p.aE) ce) λE=>E≤2^20∧fT cd (.int (E:Int)) λy=>if(!y)=af then(B y p) else(getVar 8 p λcl W=>getVar 9 W λcm q=>cr cl cm (St q.aE) λep=>cr ep (.int 0) (St q.aE) λeq=>getVar 3 q λcn u=>b3 aF eq cn (St u.aE) λY=>B Y u)) (λag ag=>False)) (λag ag=>False)) else(C aa n 559 [az,h,.lit 38] H (λe M=>C aa n 597 [az,e,.lit 27,dr] M (λg f=>bc (λds l=>if ds=af then(Q' (.ret .none) ⟨[ab az,ab x1,ab (.lit 27),ab dr,ab .none,ab y5,ab (.int i),ab h,pU,ab g,ab e],[],l,[]⟩) else(cr e g (St l) λev=>Q' .next ⟨[ab az,ab x1,ab (.lit 27),ab dr,ab .none,ab ev,ab (.int i),ab h,pU,ab g,ab e],[],l,[]⟩)) λD=>bF (lenOf (St f) e) λF=>F≤2^20∧b3 aF g (.int (F:Int)) (St f) λz=>if z=af then(D z (f)) else(cr e g (St f) λex=>C aa n 552 [az,ex] f (λas N=>C aa n 571 [az,as,.lit 27] N (λa1 s=>cr a1 (.int 0) (St s) λfd=>fT dr fd λZ=>D Z (s)) (λag ag=>False)) (λag ag=>False))) (λag ag=>False)) (λag ag=>False))) (λag ag=>False)):cV (T aa n) uy ⟨[ab az,ab x1,ab (.lit 27),ab dr,ab .none,ab y5,ab (.int i),c3,pU,k6,v10],[],G,[]⟩ Q':=bl (by kernel_rfl) w
theorem Q2(w:cr x (.int 0) (St G) λe=>dg (U e) ⟨[ab az,ab x1,ab (.lit 27),ab dr,ab .none,ab y5,ab (.int i),ab gf,ab y8,k6,v10],[],G,[U x]⟩):cD (T aa n) ae t9 ae x ⟨[ab az,ab x1,ab (.lit 27),ab dr,ab .none,ab y5,ab (.int i),ab gf,ab y8,k6,v10],[],G,[]⟩ dg:=bl (by kernel_rfl) w
theorem SK(w:C aa n 655 [az,.lit 27] G (λe f=>hx aF aN (St f) e 56∧dM (St f) e=dM (St f) e∧hS (T aa n) aN e 56 [x1,.lit 59] (St f) (λo g=>er 42 e λl=>pr l λh=>hU g.aE h λk=>Q (.list k) (g.aE.set h .dead)) (λx S=>X x S.aE)) X):C aa (n+1) 666 [az,x1,.lit 27] G Q X:=Lo (bl (by kernel_rfl) w)
theorem E0(w:hx aF aN (St G) bI 46∧dM (St G) bI=dM (St G) bI∧hS (T aa n) aN bI 46 [.lit 47] (St G) (λt e=>cc t λs=>if(decide (40<s))=af then((aF.bE 655 48).isSome=af∧1=1∧C aa n 624 [.a3 655 [az,.lit 27,.aB 5,.aB 6,.aB 7],bI,.lit 49] e.aE (λv q=>Q (.bool ah) q) X) else(db aF x1 (.a6 427) (St e.aE) λr=>if r=af then(er 8 x1 λh=>er 9 x1 λk=>bZ (.ao [h,k]) (.aB 6) (St e.aE) λp=>if p=af then((aF.bE 655 48).isSome=af∧1=1∧C aa n 624 [.a3 655 [az,.lit 27,.aB 5,.aB 6,.aB 7],bI,.lit 50] e.aE (λu f=>Q (.bool ah) f) X) else(er 8 x1 λl=>er 9 x1 λo=>setG 6 (.ao [l,o]) (.bool af) (St e.aE) λg=>Q (.bool af) g.aE)) else(Q (.bool af) e.aE))) (λx S=>X x S.aE)):C aa (n+1) 631 [.a3 655 [az,.lit 27,.aB 5,.aB 6,.aB 7],x1,bI] G Q X:=Lj (bl (by kernel_rfl) w)
theorem E1(w:(aF.bE 655 51).isSome=af∧1=1∧C aa n 631 [.a3 655 [az,.lit 27,.aB 5,.aB 6,.aB 7],x1,bI] G (λO t=>nD O λM=>if(!M)=af then(Q .none t) else((aF.bE 536 24).isSome=af∧1=1∧C aa n 472 [az,x1] t (λf e=>db aF f (.cC 3) (St e) λN=>if(!N)=af then((aF.bE 655 48).isSome=af∧1=1∧C aa n 624 [.a3 655 [az,.lit 27,.aB 5,.aB 6,.aB 7],bI,.lit 52] e (λW L=>Q .none L) X) else(bc (λk=>bF (lenOf (St k) (.aB 7)) λs=>s≤2^20∧(aF.bE 655 55).isSome=af∧1=1∧C aa n 645 [.a3 655 [az,.lit 27,.aB 5,.aB 6,.aB 7],f,bI] k (λP h=>bc (λr l=>bF (lenOf (St l) r) λg=>g≤2^20∧(0:Int)≤(g:Int)∧((g:Int):Int)≤2^20∧forL [7] ah (cV (T aa n) uz) ((dw 0 (g:Int) 1).map V.int) ⟨[ab (.a3 655 [az,.lit 27,.aB 5,.aB 6,.aB 7]),ab x1,ab bI,ab f,ab (.int (s:Int)),ab r,ae,ae],[],l,[]⟩ (ei (a9 Q) λS=>aZ (T aa n) aN ul S (a9 Q) (bf X))) λo=>bZ (.lit 38) f (St h) λy=>if y=af then(C aa n 559 [az,f,.lit 38] h (λE u=>o E (u)) (λag ag=>False)) else(o (.list []) (h))) (λag ag=>False)) λp=>bZ (.lit 38) f (St e) λz=>bZ (.lit 27) f (St e) λA=>b3 aF (.bool z) (.bool A) (St e) λB=>if B=af then((aF.bE 655 48).isSome=af∧bc (λF=>1=1∧C aa n 624 [.a3 655 [az,.lit 27,.aB 5,.aB 6,.aB 7],bI,F] e (λR v=>p (v)) X) λq=>bZ (.lit 38) f (St e) λD=>if D=af then(c7 aF .Add (.lit 53) (.lit 27) λH=>q H) else(c7 aF .Add (.lit 54) (.lit 27) λI=>q I)) else(p (e)))) X)) X):C aa (n+1) 638 [.a3 655 [az,.lit 27,.aB 5,.aB 6,.aB 7],x1,bI] G Q X:=Lk (bl (by kernel_rfl) w)
theorem RC(w:(aF.bE 655 56).isSome=af∧cr y5 (.int i) (St G) λf=>c7 aF .Add bI (.lit 47) λg=>ko i<10^10∧c7 aF .Add g (.str (ek (toString (i:Int)))) λh=>1=1∧C aa n 638 [.a3 655 [az,.lit 27,.aB 5,.aB 6,.aB 7],f,h] G (λk e=>Q' .next ⟨[ab (.a3 655 [az,.lit 27,.aB 5,.aB 6,.aB 7]),ab x1,ab bI,ab y3,ab (.int n4),ab y5,ae,ab (.int i)],[],e,[]⟩) (λag ag=>False)):cV (T aa n) uz ⟨[ab (.a3 655 [az,.lit 27,.aB 5,.aB 6,.aB 7]),ab x1,ab bI,ab y3,ab (.int n4),ab y5,ae,ab (.int i)],[],G,[]⟩ Q':=bl (by kernel_rfl) w
theorem Dp(w:(aF.bE 655 57).isSome=af∧gu aF (.aB 7) (U (.int n4)) ae (St G) λf=>1=1∧C aa n 652 [.a3 655 [az,.lit 27,.aB 5,.aB 6,.aB 7],y3,bI,f] G (λg e=>Q .none e) X):aZ (T aa n) aN ul ⟨[ab (.a3 655 [az,.lit 27,.aB 5,.aB 6,.aB 7]),ab x1,ab bI,ab y3,ab (.int n4),ab y5,ae,c3],[],G,[]⟩ (a9 Q) (bf X):=bl (by kernel_rfl) w
theorem E2(w:C aa n 564 [az,.dict es,.lit 27] G (λg f=>bF (h8 g) λe=>e.length≤2^20∧forL [3,4] af (cV (T aa n) qC) e ⟨[ab (.a3 655 [az,.lit 27,.aB 5,.aB 6,.aB 7]),ab (.dict es),ab bI,ae,ae],[],f,[]⟩ (ei (a9 Q) λS=>aZ (T aa n) aN [] S (a9 Q) (bf X))) X):C aa (n+1) 645 [.a3 655 [az,.lit 27,.aB 5,.aB 6,.aB 7],.dict es,bI] G Q X:=Ll (bl (by kernel_rfl) w)
theorem RD(w:bc (λe=>hx aF aN (St e) (.aB 7) 0∧dM (St e) (.aB 7)=dM (St e) (.aB 7)∧bF e[7]? λq=>nv aN 7 0 q [y3] (St e) λs p=>Q' .next ⟨[ab (.a3 655 [az,.lit 27,.aB 5,.aB 6,.aB 7]),ab (.dict es),ab bI,ab y3,ab d8],[],p.aE,[]⟩) λg=>bc (λr=>if r=af then((aF.bE 655 48).isSome=af∧1=1∧C aa n 624 [.a3 655 [az,.lit 27,.aB 5,.aB 6,.aB 7],bI,.lit 58] G (λt o=>g (o)) (λag ag=>False)) else(g (G))) λh=>bF (lenOf (St G) (.aB 7)) λf=>f≤2^20∧if(!(decide (0<(f:Int))))=af then(h (decide (0<(f:Int)))) else(e0 G 7 (.int (-1)) λl=>fT l y3 λk=>h (!k))):cV (T aa n) qC ⟨[ab (.a3 655 [az,.lit 27,.aB 5,.aB 6,.aB 7]),ab (.dict es),ab bI,ab y3,ab d8],[],G,[]⟩ Q':=bl (by kernel_rfl) w
theorem E3(w:b3 aF bI (.lit 59) (St G) λq=>if q=af then(if(keyOf es 33).isSome=af then((aF.bE 655 48).isSome=af∧1=1∧C aa n 624 [.a3 655 [az,.lit 27,.aB 5,.aB 6,.aB 7],bI,.lit 60] G (λs p=>Q .none p) X) else(Q .none G)) else(if(!(keyOf es 33).isSome)=af then((aF.bE 655 48).isSome=af∧1=1∧C aa n 624 [.a3 655 [az,.lit 27,.aB 5,.aB 6,.aB 7],bI,.lit 61] G (λt f=>Q .none f) X) else(xs.length≤2^20∧if(decide (0<(xs.length:Int)))=af then(C aa n 571 [az,.dict es,.lit 27] G (λk e=>cr (.list xs) (.int 0) (St e) λl=>cr (.list xs) (.int (-1)) (St e) λo=>b3 aF k (.ao [l,o]) (St e) λh=>if(!h)=af then((aF.bE 655 48).isSome=af∧1=1∧C aa n 624 [.a3 655 [az,.lit 27,.aB 5,.aB 6,.aB 7],bI,.lit 62] e (λr g=>Q .none g) (λag ag=>False)) else(Q .none e)) (λag ag=>False)) else(Q .none G)))):C aa (n+1) 652 [.a3 655 [az,.lit 27,.aB 5,.aB 6,.aB 7],.dict es,bI,.list xs] G Q X:=Lm (bl (by kernel_rfl) w)
theorem SM(w:(aF.bE 536 23).isSome=af∧(aF.bE 536 59).isSome=af∧1=1∧C aa n 528 [az] G (λk g=>1=1∧C aa n 479 [az,k,.lit 27] g (λf e=>db aF f (.cC 3) (St e) λh=>if h=af then(Q f e) else(ah=ah∧0=0∧0≤15∧Q (.dict []) e)) X) X):C aa (n+1) 673 [az] G Q X:=Lp (bl (by kernel_rfl) w)
theorem SN(w:C aa n 673 [az] G (λf e=>hx aF aN (St e) f 23∧dM (St e) f=dM (St e) f∧hS (T aa n) aN f 23 [.lit 98] (St e) (λh p=>(aF.bE 536 24).isSome=af∧1=1∧C aa n 472 [az,h] p.aE (λk g=>et k=ah∧if(isNone k)=af then(Q (.list []) g) else(C aa n 583 [az,h,.lit 27] g (λo l=>Q o l) X)) X) (λx S=>X x S.aE)) X):C aa (n+1) 680 [az] G Q X:=Lq (bl (by kernel_rfl) w)
theorem SO(w:C aa n 680 [az] G (λk g=>bF (h8 k) λe=>e.length≤2^20∧e.length≤2^20∧dB (cD (T aa n) (U 2) ua ae) e ⟨[ab az],[],g,[]⟩ [] λf h=>Q (.list f) h.aE) X):C aa (n+1) 685 [az] G Q X:=Lr (bl (by kernel_rfl) w)
theorem Q3(w:2=2∧(aF.bE 536 24).isSome=af∧1=1∧C aa n 472 [az,ey] G (λf e=>dg (U (.ao [hb,f])) ⟨[ab az],[],e,[U hb,U ey]⟩) (λag ag=>False)):cD (T aa n) (U 2) ua ae (.ao [hb,ey]) ⟨[ab az],[],G,[]⟩ dg:=bl (by kernel_rfl) w
theorem SP(w:C aa n 673 [az] G (λf e=>hx aF aN (St e) f 23∧dM (St e) f=dM (St e) f∧hS (T aa n) aN f 23 [.lit 98] (St e) (λo u=>bc (λp h=>db aF p (.cC 3) (St h) λv=>if(!v)=af then(X (.a3 95 [.lit 63,.int (-1)]) h) else(Q p h)) λl=>(aF.bE 536 24).isSome=af∧1=1∧C aa n 472 [az,o] u.aE (λk g=>et k=ah∧if(isNone k)=af then(l .none (g)) else((aF.bE 536 24).isSome=af∧C aa n 603 [az,o,.lit 27,x1] g (λs q=>1=1∧C aa n 472 [az,s] q (λt r=>l t (r)) X) X)) X) (λx S=>X x S.aE)) X):C aa (n+1) 692 [az,x1] G Q X:=Ls (bl (by kernel_rfl) w)
theorem E4(w:(aF.bE 536 23).isSome=af∧1=1∧C aa n 479 [az,x1,.lit 64] G (λf e=>db aF f (.cC 3) (St e) λg=>if(!g)=af then(Q .none e) else(2≤2^20∧forL [3] ah (cV (T aa n) yC) [.lit 65,.lit 66] ⟨[ab az,ab x1,ab f,ae,ae],[],e,[]⟩ (ei (a9 Q) λS=>aZ (T aa n) aN yo S (a9 Q) (bf X)))) X):C aa (n+1) 699 [az,x1] G Q X:=Lu (bl (by kernel_rfl) w)
theorem Ds(w:(aF.bE 536 23).isSome=af∧1=1∧C aa n 479 [az,y2,y3] G (λe f=>db aF e (.a6 399) (St f) λg=>if g=af then(Q' (.ret e) ⟨[ab az,ab x1,ab y2,ab y3,ab e],[],f,[]⟩) else(Q' .next ⟨[ab az,ab x1,ab y2,ab y3,ab e],[],f,[]⟩)) (λag ag=>False)):cV (T aa n) yC ⟨[ab az,ab x1,ab y2,ab y3,v4],[],G,[]⟩ Q':=bl (by kernel_rfl) w
theorem Ri(w:Q .none G):aZ (T aa n) aN yo ⟨[ab az,ab x1,ab y2,v3,v4],[],G,[]⟩ (a9 Q) (bf X):=bl (by kernel_rfl) w
theorem E5(w:(aF.bE 536 23).isSome=af∧1=1∧C aa n 479 [az,.dict hd,.lit 67] G (λu q=>db aF u (.cC 3) (St q) λI=>if(!I)=af then(Q (.lit 68) q) else((aF.bE 536 23).isSome=af∧1=1∧C aa n 479 [az,u,.lit 69] q (λg v=>bc (λL y=>if L=af then(Q (.lit 70) y) else((aF.bE 536 23).isSome=af∧1=1∧C aa n 479 [az,u,.lit 71] y (λe l=>bc (λH o=>if H=af then(Q (.lit 72) o) else(Q (.lit 68) o)) λk=>et e=ah∧if(!(!isNone e))=af then(k (!isNone e) (l)) else(C aa n 438 [e] l (λD h=>b3 aF D (.lit 15) (St h) λr=>if(!r)=af then(k (!r) (h)) else(er 5 e λz=>C aa n 227 [.bytes oc] h (λE p=>b3 aF z E (St p) λA=>k (!A) (p)) X)) X)) X)) λt=>et g=ah∧if(!(!isNone g))=af then(t (!isNone g) (v)) else(C aa n 438 [g] v (λF f=>b3 aF F (.lit 12) (St f) λs=>if(!s)=af then(t (!s) (f)) else(oc.size≤2^20∧b3 aF g (.int (oc.size:Int)) (St f) λB=>t (!B) (f))) X)) X)) X):C aa (n+1) 706 [az,.a3 399 [.dict hd,.bytes bx],.bytes oc] G Q X:=Lv (bl (by kernel_rfl) w)
theorem sL(w:C aa n 692 [az,x1] G (λq o=>C aa n 699 [az,q] o (λe g=>et e=ah∧if(isNone e)=af then(X (.a3 95 [.lit 73,.int (-1)]) g) else(C aa n 765 [az,e] g (λh p=>C aa n 706 [az,e,h] p (λk f=>b3 aF k (.lit 68) (St f) λl=>if(!l)=af then(X (.a3 83 [k,.int (-1)]) f) else(Q h f)) X) X)) X) X):C aa (n+1) 713 [az,x1,.a6 765] G Q X:=Lw (bl (by kernel_rfl) w)
theorem pH(w:db aF x1 (.cC 3) (St G) λy=>if(!y)=af then(Q (.lit 74) G) else(C aa n 699 [az,x1] G (λe l=>et e=ah∧if(isNone e)=af then(Q (.lit 75) l) else(C aa n 765 [az,e] l (λz u=>C aa n 706 [az,e,z] u (λA v=>Q A v) (λq o=>iQ q λf h=>aF.hu f 46=af∧bF (fieldOf (gZ f) h 76) λs=>Q s o)) (λr p=>iQ r λg k=>aF.hu g 46=af∧bF (fieldOf (gZ g) k 76) λt=>Q t p))) X)):C aa (n+1) 720 [az,x1,.a6 765] G Q X:=Lx (bl (by kernel_rfl) w)
theorem SQ(w:C aa n 673 [az] G (λh g=>hx aF aN (St g) h 23∧dM (St g) h=dM (St g) h∧hS (T aa n) aN h 23 [.lit 98] (St g) (λk r=>(aF.bE 536 24).isSome=af∧1=1∧C aa n 472 [az,k] r.aE (λp o=>et p=ah∧if(isNone p)=af then(Q (.list []) o) else(C aa n 666 [az,k,.lit 27] o (λs q=>bF (h8 s) λf=>f.length≤2^20∧f.length≤2^20∧dB (cD (T aa n) ae Hg ae) f ⟨[ab az,ab (.a6 765),ab k,ae,ae,ae,ae,ae],[],q,[]⟩ [] λl e=>aZ (T aa n) aN yp ⟨e.bB.set 3 (U (.cv e.aR.length)),e.aR++[.list l],e.aE,[]⟩ (a9 Q) (bf X)) X)) X) (λx S=>X x S.aE)) X):C aa (n+1) 725 [az,.a6 765] G Q X:=Ly (bl (by kernel_rfl) w)
theorem Rj(w:C aa n 685 [az] G (λf g=>gN 3 [f] λe=>forL [5,6] af (cV (T aa n) uA) e ⟨[ab az,ab (.a6 765),ab y2,U (.cv 0),ab f,ae,ae,ae],[.list cS],g,[]⟩ (ei (a9 Q) λS=>aZ (T aa n) aN yq S (a9 Q) (bf X))) (λag ag=>False)):aZ (T aa n) aN yp ⟨[ab az,ab (.a6 765),ab y2,U (.cv 0),ae,ae,ae,ae],[.list cS],G,[]⟩ (a9 Q) (bf X):=bl (by kernel_rfl) w
theorem RE(w:cr ha (.int 1) (St G) λq=>C aa n 720 [az,q,.a6 765] G (λe f=>bc (λp=>Q' .next ⟨[ab az,ab (.a6 765),ab y2,U (.cv 0),ab d8,ab y5,ab ha,ab e],[.list p],f,[]⟩) λh=>b3 aF e (.lit 68) (St f) λo=>if(!o)=af then(af=af∧cc y5 λg=>ko g<10^10∧c7 aF .Add (.str (ek (toString (g:Int)))) (.lit 45) λk=>c7 aF .Add k e λl=>([]:List V)=[]∧(cS).length<2^20∧h ((cS++[l]))) else(h (cS))) (λag ag=>False)):cV (T aa n) uA ⟨[ab az,ab (.a6 765),ab y2,U (.cv 0),ab d8,ab y5,ab ha,c3],[.list cS],G,[]⟩ Q':=bl (by kernel_rfl) w
theorem Rk(w:Q (.list cS) G):aZ (T aa n) aN yq ⟨[ab az,ab (.a6 765),ab y2,U (.cv 0),ab d8,cf,v6,c3],[.list cS],G,[]⟩ (a9 Q) (bf X):=bl (by kernel_rfl) w
theorem SR(w:gu aF (.list xs) ae (U (.int 63)) (St G) λh=>bF (h8 h) λe=>e.length≤2^20∧e.length≤2^20∧dB (cD (T aa n) ae qx ae) e ⟨[ab (.list xs),ae],[],G,[]⟩ [] λg f=>aZ (T aa n) aN yr ⟨f.bB.set 1 (ab (.aB f.aE.length)),f.aR,f.aE++[.list g],[]⟩ (a9 Q) (bf X)):C aa (n+1) 730 [.list xs] G Q X:=Lz (bl (by kernel_rfl) w)
theorem Q4(w:cc x λe=>dg (U (.int e)) ⟨[ab (.list xs),ae],[],G,[U x]⟩):cD (T aa n) ae qx ae x ⟨[ab (.list xs),ae],[],G,[]⟩ dg:=bl (by kernel_rfl) w
theorem Rl(w:hU G 0 λf=>bF (allInts f) λe=>e.length≤2^20∧(1009:Int)≠0∧Q (.aB G.length) (G++[aQ.list [.aB 0,.int 0,.int 0,.int (dm e.sum 1009)]])):aZ (T aa n) aN yr ⟨[ab (.list xs),ab (.aB 0)],[],G,[]⟩ (a9 Q) (bf X):=bl (by kernel_rfl) w
theorem w9(w:bc (λg=>e0 g 1 (.int 1) λR=>cc R λP=>(m:Int)≠0∧e0 g 1 (.int 1) λW=>cc W λq=>(m:Int)≠0∧hF q m=ah∧setG 1 (.int 1) (.int (dY q m)) (St g) λh=>e0 h.aE 1 (.int 2) λA=>c7 aF .Add A (.int 1) λB=>setG 1 (.int 2) B (St h.aE) λe=>e0 e.aE 1 (.int 2) λD=>e0 e.aE 1 (.int 3) λE=>c7 aF .Mult D E λF=>cc F λu=>e0 e.aE 1 (.int 2) λH=>e0 e.aE 1 (.int 2) λI=>c7 aF .Add I (.int 1) λL=>c7 aF .Mult H L λM=>cc M λl=>(2:Int)≠0∧hF l 2=ah∧(m:Int)≠0∧Q (.int (dm (((dm P m)+u)+(dY l 2)) m)) e.aE) λo=>bc (λz=>if z=af then(e0 G 1 (.int 0) λf=>hx aF aN (St G) f 37∧dM (St G) f=dM (St G) f∧hS (T aa n) aN f 37 [.int 0] (St G) (λy r=>cc y λv=>setG 1 (.int 1) (.int (ko v:Int)) (St r.aE) λs=>o (s.aE)) (λx S=>X x S.aE)) else(o (G))) λp=>e0 G 1 (.int 1) λN=>b3 aF N (.int 0) (St G) λk=>if(!k)=af then(p k) else(e0 G 1 (.int 0) λO=>b3 aF O (.list []) (St G) λt=>p (!t))):C aa (n+1) 737 [.aB 1,.int m] G Q X:=LA (bl (by kernel_rfl) w)
theorem sM(w:C aa n 737 [.aB 1,.int 4] G (λg f=>cr (.ao [.int 0,.int 1,.int 0,.int 2]) g (St f) λh=>cc h λe=>(0:Int)≤e∧(e:Int)≤2^20∧forL [3] ah (cV (T aa n) yD) ((dw 0 e 1).map V.int) ⟨[ab (.aB 1),ab az,ab bI,ae],[],f,[]⟩ (ei (a9 Q) λS=>aZ (T aa n) aN yt S (a9 Q) (bf X))) X):C aa (n+1) 744 [.aB 1,az,bI] G Q X:=LB (bl (by kernel_rfl) w)
theorem wX(w:(aF.bE 536 78).isSome=af∧1=1∧C aa n 507 [az,y2] G (λf e=>Q' .next ⟨[ab (.aB 1),ab az,ab f,ab (.int i)],[],e,[]⟩) (λag ag=>False)):cV (T aa n) yD ⟨[ab (.aB 1),ab az,ab y2,ab (.int i)],[],G,[]⟩ Q':=bl (by kernel_rfl) w
theorem sz(w:Q y2 G):aZ (T aa n) aN yt ⟨[ab (.aB 1),ab az,ab y2,v3],[],G,[]⟩ (a9 Q) (bf X):=bl (by kernel_rfl) w
theorem kf(w:0≤64∧if(m==0)=af then(X (.a3 83 [.lit 79,.int 0]) G) else(0≤64∧if(m==1)=af then(X (.a3 59 [.lit 80,.int 2]) G) else(0≤64∧if(m==2)=af then(X (.a3 107 [.lit 81,.int 4]) G) else(0≤64∧if(m==3)=af then(X (.a3 46 [.lit 82,.int 6]) G) else(0≤64∧if(m==4)=af then(X (.a3 95 [.lit 83,.int 8]) G) else(0≤64∧if(m==5)=af then(X (.a3 71 [.lit 84,.int 10]) G) else(0≤64∧if(m==6)=af then(X (.a3 131 [.lit 85,.int 12]) G) else(0≤64∧if(m==7)=af then(X (.a3 119 [.lit 86,.int 14]) G) else(X (.a3 143 [.lit 87,.int 16]) G))))))))):C aa (n+1) 751 [.int m] G Q X:=LC (bl (by kernel_rfl) w)
theorem SS(w:db aF x0 (.a6 83) (St G) λo=>db aF x0 (.a6 59) (St G) λp=>db aF x0 (.a6 107) (St G) λq=>db aF x0 (.a6 46) (St G) λr=>db aF x0 (.a6 95) (St G) λe=>db aF x0 (.a6 71) (St G) λf=>db aF x0 (.a6 131) (St G) λg=>db aF x0 (.a6 119) (St G) λh=>db aF x0 (.a6 143) (St G) λk=>c7 aF .Add (.list [.bool o,.bool p,.bool q,.bool r]) (.list [.bool e,.bool f,.bool g,.bool h,.bool k]) λl=>Q l G):C aa (n+1) 758 [x0] G Q X:=LD (bl (by kernel_rfl) w)
theorem xa(w:bc (λh=>bx.size≤2^20∧mA bx.toList.reverse.toArray+mA (#[43]:Array UInt8)≤2^20∧Q (.bytes (bx.toList.reverse.toArray++#[43])) h) λf=>bc (λl=>if l=af then((0:Int)≤0∧0<(bx.size:Int)∧bx.size≤2^20∧C aa n 751 [.int ((bx.toList.getD (hi 0) 0).toNat:Int)] G (λo k=>f (k)) X) else(f (G))) λg=>bx.size≤2^20∧b3 aF (.bytes (cut bx.toList ae (U 1)).toArray) (.bytes #[]) (St G) λe=>if(!(!e))=af then(g (!e)) else((0:Int)≤0∧0<(bx.size:Int)∧bx.size≤2^20∧g (decide (((bx.toList.getD (hi 0) 0).toNat:Int)<9)))):C aa (n+1) 765 [az,.a3 399 [x1,.bytes bx]] G Q X:=LF (bl (by kernel_rfl) w)
theorem SU(w:bw.size≤2^20∧C aa n 737 [.aB 1,.int 10] G (λf p=>gy 10 (bw.size:Int)∧C aa n 321 [.int (10*(bw.size:Int)),.int 1] p (λr q=>C aa n 356 [.lit 69] q (λl e=>fT f (.int 2) λg=>if g=af then(Q (.ao [.int (bw.size:Int),.bool af]) e) else(b3 aF f (.int 2) (St e) λh=>if h=af then(Q (.ao [.none,.bool af]) e) else(cc f λk=>cr (.ao [.int ((bw.size:Int)+1),.int ((bw.size:Int)-1),.bool af,r,.list [.int (bw.size:Int)],l,.int ((bw.size:Int)+65536)]) (.int (k-3)) (St e) λo=>Q (.ao [o,.bool ah]) e))) X) X) X):C aa (n+1) 772 [.aB 1,.bytes bw] G Q X:=LG (bl (by kernel_rfl) w)
theorem E6(w:C aa n 737 [.aB 1,.int 6] G (λg l=>if(!sm)=af then(fT g (.int 4) λT=>if T=af then(Q (.ao [.none,.bool af]) l) else(C aa n 356 [.lit 71] l (λW o=>cc g λy=>cr (.ao [.int 7,W]) (.int (y-4)) (St o) λE=>Q (.ao [E,.bool ah]) o) X)) else(C aa n 227 [.bytes bw] l (λf p=>C aa n 737 [.aB 1,.int 16] p (λh e=>2=2∧fT g (.int 3) λs=>if s=af then(b3 aF g (.int 1) (St e) λt=>C aa n 378 [f,.bool t] e (λA q=>Q (.ao [A,.bool af]) q) X) else(bc (λD=>C aa n 378 [D,.bool af] e (λB r=>Q (.ao [B,.bool ah]) r) X) λk=>b3 aF g (.int 3) (St e) λu=>if u=af then(gu aF f ae (U h) (St e) λF=>k F) else(b3 aF g (.int 4) (St e) λv=>if v=af then(c7 aF .Add f (.bytes #[48]) λH=>k H) else(gu aF f ae (U h) (St e) λI=>cr f h (St e) λL=>cc L λz=>fB .BitXor z 1 λM=>jn (.list [.int M]) λN=>c7 aF .Add I N λO=>c7 aF .Add h (.int 1) λP=>gu aF f (U P) ae (St e) λR=>c7 aF .Add O R λS=>k S)))) X) X)) X):C aa (n+1) 779 [.aB 1,.bytes bw,.bool sm] G Q X:=LH (bl (by kernel_rfl) w)
theorem xb(w:C aa n 737 [.aB 1,.int 7] G (λh e=>b3 aF h (.int 0) (St e) λr=>if r=af then(Q (.ao [.none,.lit 68]) e) else(b3 aF h (.int 1) (St e) λs=>if s=af then(C aa n 427 [.int 90,.int 1] e (λt p=>C aa n 356 [.lit 88] p (λu q=>C aa n 737 [.aB 1,.int 3] q (λv g=>cr (.list [.int 5,t,u]) v (St g) λo=>Q (.ao [o,.lit 68]) g) X) X) X) else(C aa n 772 [.aB 1,.bytes bw] e (λl k=>gb l λf=>f.length=2∧aZ (T aa n) aN yu (fu [5,6] f ⟨[ab (.aB 1),ab az,ab (.bytes bw),ab (.bool sm),ab h,ae,ae,ae,ae,ae],[],k,[]⟩) (a9 Q) (bf X)) X))) X):C aa (n+1) 786 [.aB 1,az,.bytes bw,.bool sm] G Q X:=LI (bl (by kernel_rfl) w)
theorem Rm(w:C aa n 779 [.aB 1,.bytes bw,.bool sm] G (λg f=>gb g λe=>e.length=2∧aZ (T aa n) aN um (fu [7,8] e ⟨[ab (.aB 1),ab az,ab (.bytes bw),ab (.bool sm),ab d8,ab y5,ab (.bool m5),ae,ae,ae],[],f,[]⟩) (a9 Q) (bf X)) X):aZ (T aa n) aN yu ⟨[ab (.aB 1),ab az,ab (.bytes bw),ab (.bool sm),ab d8,ab y5,ab (.bool m5),ae,ae,ae],[],G,[]⟩ (a9 Q) (bf X):=bl (by kernel_rfl) w
theorem Rn(w:C aa n 378 [.bytes #[68,58,50,48,50,54]] G (λA y=>ah=ah∧1=1∧1≤15∧bc (λu z=>bc (λa2 a1=>C aa n 744 [.aB 1,az,.dict a2] a1 (λv k=>bc (λY=>if Y=af then(Q (.ao [v,.lit 68]) k) else(if m5=af then(Q (.ao [v,.lit 72]) k) else(Q (.ao [v,.lit 70]) k))) λl=>if(!m5)=af then(l m5) else(l AF)) X) λo=>bc (λZ e=>if Z=af then(bc (λam B=>mH u≤2^10∧o ((putN u 71 am)) (B)) λq=>et gf=ah∧if(isNone gf)=af then(C aa n 427 [.int 91,.int 0] e (λN D=>q N (D)) X) else(C aa n 744 [.aB 1,az,gf] e (λO E=>q O (E)) X)) else(o (u) (e))) λp=>et gf=ah∧if(!isNone gf)=af then(p (!isNone gf) (z)) else(C aa n 737 [.aB 1,.int 2] z (λP g=>b3 aF P (.int 0) (St g) λL=>p L (g)) X)) λr=>bc (λap f=>if ap=af then(bc (λas F=>1≤2^10∧r ([(89,A),(69,as)]) (F)) λt=>et y5=ah∧if(isNone y5)=af then(C aa n 427 [.int 90,.int 1] f (λR H=>t R (H)) X) else(C aa n 744 [.aB 1,az,y5] f (λS I=>t S (I)) X)) else(r ([(89,A)]) (f))) λs=>et y5=ah∧if(!isNone y5)=af then(s (!isNone y5) (y)) else(C aa n 737 [.aB 1,.int 2] y (λW h=>b3 aF W (.int 0) (St h) λM=>s M (h)) X)) X):aZ (T aa n) aN um ⟨[ab (.aB 1),ab az,ab (.bytes bw),ab (.bool sm),ab d8,ab y5,ab (.bool m5),ab gf,ab (.bool AF),ae],[],G,[]⟩ (a9 Q) (bf X):=bl (by kernel_rfl) w
theorem SV(w:C aa n 737 [.aB 1,.int 3] G (λl h=>C aa n 737 [.aB 1,.int 5] h (λo k=>cc o λe=>(0:Int)≤e∧(e:Int)≤2^20∧((dw 0 e 1).map V.int).length≤2^20∧dB (cD (T aa n) ae qy ae) ((dw 0 e 1).map V.int) ⟨[ab (.aB 1),ab az,ab (.bool sm),ab l,ae,ae,ae,ae,ae,ae],[],k,[]⟩ [] λg f=>jn (.list g) λp=>aZ (T aa n) aN yv ⟨f.bB.set 4 (ab p),f.aR,f.aE,[]⟩ (a9 Q) (bf X)) X) X):C aa (n+1) 791 [.aB 1,az,.bool sm] G Q X:=LJ (bl (by kernel_rfl) w)
theorem Dn(w:bc (λs o=>dg (U s) ⟨[ab (.aB 1),ab az,ab (.bool sm),ab y3,ae,ae,ae,ae,ae,ae],[],o,[U x]⟩) λf=>bc (λt=>if t=af then(C aa n 737 [.aB 1,.int 247] G (λr p=>cc r λq=>f (.int (9+q)) (p)) (λag ag=>False)) else(C aa n 737 [.aB 1,.int 9] G (λl h=>f l (h)) (λag ag=>False))) λg=>cc x λe=>if(decide (0<e))=af then(g (decide (0<e))) else(cc y3 λk=>g (decide (0<k)))):cD (T aa n) ae qy ae x ⟨[ab (.aB 1),ab az,ab (.bool sm),ab y3,ae,ae,ae,ae,ae,ae],[],G,[]⟩ dg:=bl (by kernel_rfl) w
theorem Ro(w:c1.size≤2^20∧mA c1.toList.reverse.toArray+mA (#[43]:Array UInt8)≤2^20∧C aa n 786 [.aB 1,az,.bytes (c1.toList.reverse.toArray++#[43]),.bool sm] G (λg f=>gb g λe=>e.length=2∧aZ (T aa n) aN yw (fu [6,7] e ⟨[ab (.aB 1),ab az,ab (.bool sm),ab y3,ab (.bytes c1),ab (.bytes (c1.toList.reverse.toArray++#[43])),ae,ae,ae,ae],[],f,[]⟩) (a9 Q) (bf X)) X):aZ (T aa n) aN yv ⟨[ab (.aB 1),ab az,ab (.bool sm),ab y3,ab (.bytes c1),ae,ae,ae,ae,ae],[],G,[]⟩ (a9 Q) (bf X):=bl (by kernel_rfl) w
theorem Rp(w:c1.size≤2^20∧ah=ah∧1=1∧1≤15∧bc (λr=>(aF.bE 536 78).isSome=af∧C aa n 399 [.dict r,.bytes c1] G (λs p=>1=1∧C aa n 507 [az,s] p (λt q=>C aa n 744 [.aB 1,az,t] q (λk e=>bc (λo=>if o=af then((0:Int)≤0∧0<(c1.size:Int)∧c1.size≤2^20∧Q (.ao [k,.int ((c1.toList.getD (hi 0) 0).toNat:Int)]) e) else(b3 aF gf (.lit 68) (St e) λl=>if l=af then(Q (.ao [k,.bytes (c1.toList.reverse.toArray++#[43])]) e) else(Q (.ao [k,gf]) e))) λg=>b3 aF (.bytes c1) (.bytes #[]) (St e) λf=>if(!(!f))=af then(g (!f)) else((0:Int)≤0∧0<(c1.size:Int)∧c1.size≤2^20∧g (decide (((c1.toList.getD (hi 0) 0).toNat:Int)<9)))) X) X) X) λh=>et ha=ah∧if(!isNone ha)=af then(1≤2^10∧h ([(90,(.int (c1.size:Int))),(67,ha)])) else(h ([(90,(.int (c1.size:Int)))]))):aZ (T aa n) aN yw ⟨[ab (.aB 1),ab az,ab (.bool sm),ab y3,ab (.bytes c1),ab (.bytes (c1.toList.reverse.toArray++#[43])),ab ha,ab gf,ae,ae],[],G,[]⟩ (a9 Q) (bf X):=bl (by kernel_rfl) w
theorem SW(w:C aa n 427 [.int 90,.int 1] G (λh f=>ah=ah∧1=1∧1≤15∧C aa n 378 [.bytes #[115,116,114,101,97,109]] f (λk g=>C aa n 737 [.aB 1,.int 4] g (λl e=>cr (.ao [.int 7,h,.dict [(90,(.int 0))],k]) l (St e) λo=>Q o e) X) X) X):C aa (n+1) 798 [.aB 1] G Q X:=LK (bl (by kernel_rfl) w)
theorem sN(w:C aa n 737 [.aB 1,.int 9] G (λh f=>b3 aF h (.int 7) (St f) λq=>if q=af then(C aa n 356 [.lit 91] f (λr p=>C aa n 737 [.aB 1,.int 3] p (λs g=>cr (.ao [.int 5,.list [.int 1],r]) s (St g) λu=>C aa n 744 [.aB 1,az,u] g (λt k=>Q (.ao [t,.lit 74]) k) X) X) X) else(C aa n 791 [.aB 1,az,.bool sm] f (λo l=>gb o λe=>e.length=2∧aZ (T aa n) aN yx (fu [4,5] e ⟨[ab (.aB 1),ab az,ab (.bool sm),ab h,ae,ae,ae,ae,ae,ae],[],l,[]⟩) (a9 Q) (bf X)) X)) X):C aa (n+1) 805 [.aB 1,az,.bool sm] G Q X:=LL (bl (by kernel_rfl) w)
theorem wV(w:b3 aF y3 (.int 8) (St G) λF=>if F=af then(bc (λM D=>Q (.ao [M,.lit 75]) D) λo=>C aa n 737 [.aB 1,.int 2] G (λI h=>b3 aF I (.int 0) (St h) λH=>if H=af then(C aa n 798 [.aB 1] h (λL E=>ah=ah∧2=2∧2≤15∧o (.dict [(65,d8),(64,L)]) (E)) X) else(ah=ah∧1=1∧1≤15∧o (.dict [(66,d8)]) (h))) X) else(C aa n 798 [.aB 1] G (λf p=>(aF.bE 536 78).isSome=af∧ah=ah∧0=0∧0≤15∧C aa n 399 [.dict [],.bytes #[111,116,104,101,114]] p (λv q=>1=1∧C aa n 507 [az,v] q (λk r=>ah=ah∧1=1∧1≤15∧ah=ah∧2=2∧2≤15∧ah=ah∧1=1∧1≤15∧ah=ah∧2=2∧2≤15∧ah=ah∧2=2∧2≤15∧ah=ah∧2=2∧2≤15∧C aa n 798 [.aB 1] r (λy g=>ah=ah∧2=2∧2≤15∧cr (.ao [.dict [(65,d8)],.dict [(65,f),(66,d8)],.dict [(66,d8)],.dict [(65,d8),(66,k)],.dict [(66,f),(65,d8)],.dict [(92,k),(66,d8)],.dict [(65,f),(66,y)]]) y3 (St g) λB=>C aa n 356 [.lit 94] g (λz s=>C aa n 744 [.aB 1,az,B] s (λA t=>ah=ah∧2=2∧2≤15∧C aa n 744 [.aB 1,az,.dict [(93,z),(64,A)]] t (λl e=>b3 aF y3 (.int 6) (St e) λu=>if u=af then(Q (.ao [l,.lit 75]) e) else(Q (.ao [l,y5]) e)) X) X) X) X) X) X) X)):aZ (T aa n) aN yx ⟨[ab (.aB 1),ab az,ab (.bool sm),ab y3,ab d8,ab y5,ae,ae,ae,ae],[],G,[]⟩ (a9 Q) (bf X):=bl (by kernel_rfl) w
theorem sO(w:C aa n 713 [az,x1,.a6 765] G (λk g=>Q k g) (λl h=>iQ l λe f=>aF.hu e 46=af∧Q (.a3 e f) h)):C aa (n+1) 812 [az,x1] G Q X:=LM (bl (by kernel_rfl) w)
theorem SX(w:4≤4∧bc (λh=>Q (.ao [.bool h,.lit 68]) G) λf=>db aF x0 (.cC 4) (St G) λe=>if(!e)=af then(f e) else(b3 aF x0 (.bytes bw) (St G) λg=>f g)):C aa (n+1) 817 [x0,.bytes bw] G Q X:=vD (bl (by kernel_rfl) w)
theorem SY(w:4≤4∧0≤4∧bc (λP f=>getVar 2 ⟨f.bB.set 2 (ab (.bool P)),f.aR,f.aE,f.aT⟩ λO N=>getVar 1 N λB r=>cc B λk=>ko k<10^10∧c7 aF .Add (.lit 96) (.str (ek (toString (k:Int)))) λI=>Q (.ao [O,I]) r.aE) λp=>C aa n 758 [x0] G (λA q=>(0:Int)≤9∧(9:Int)≤2^20∧((dw 0 9 1).map V.int).length≤2^20∧dB (cD (T aa n) ae x8 ae) ((dw 0 9 1).map V.int) ⟨[ab x0,ab (.int m),ae],[],q,[]⟩ [] λo e=>b3 aF A (.list o) (St e.aE) λh=>if(!h)=af then(p h ⟨e.bB,e.aR,e.aE,[]⟩) else(getVar 0 ⟨e.bB,e.aR,e.aE,[]⟩ λD s=>er 76 D λv=>getVar 0 s λE t=>er 95 E λy=>getVar 1 t λF u=>cc F λl=>ko l<10^10∧c7 aF .Add (.lit 96) (.str (ek (toString (l:Int)))) λL=>getVar 1 u λH g=>c7 aF .Mult (.int 2) H λM=>b3 aF (.ao [v,y]) (.ao [L,M]) (St g.aE) λz=>p z g)) X):C aa (n+1) 817 [x0,.int m] G Q X:=vD (bl (by kernel_rfl) w)
theorem Q5(w:bZ x (.ao [.int 3,.int m]) (St G) λe=>dg (U (.bool e)) ⟨[ab x0,ab (.int m),ae],[],G,[U x]⟩):cD (T aa n) ae x8 ae x ⟨[ab x0,ab (.int m),ae],[],G,[]⟩ dg:=bl (by kernel_rfl) w
theorem E7(w:4≤4∧0≤4∧gu aF (.lit aj) ae (U (.int 2)) (St G) λp=>b3 aF p (.lit 97) (St G) λl=>if l=af then(db aF x0 (.a6 95) (St G) λo=>Q (.ao [.bool o,.lit aj]) G) else(bc (λk=>Q (.ao [.bool k,.lit aj]) G) λf=>db aF x0 (.a6 83) (St G) λe=>if(!e)=af then(f e) else(er 76 x0 λg=>b3 aF g (.lit aj) (St G) λh=>f h))):C aa (n+1) 817 [x0,.lit aj] G Q X:=vD (bl (by kernel_rfl) w)
theorem SZ(w:C aa n 730 [.list xs] ([]:List aQ) (λh g=>C aa n 536 [.aB g.length,.aB (g++[aQ.id [(90,(.ao [.int 0,.int 4]))]]).length] ((g++[aQ.id [(90,(.ao [.int 0,.int 4]))]])++[aQ.cY []]) (λq o=>2=2∧C aa n 737 [h,.int 3] o (λr p=>cc r λe=>C aa n 737 [h,.int 3] p (λs l=>2=2∧(0:Int)≤(1+e)∧((1+e):Int)≤2^20∧((dw 0 (1+e) 1).map V.int).length≤2^20∧dB (cD (T aa n) ae ub ae) ((dw 0 (1+e) 1).map V.int) ⟨[ab (.list xs),ab h,ab q,ab (.list [.bytes #[],.bytes #[97,0],.bytes #[98]]),ab (.int (1+e)),ab s,ae,ae,ae,ae,ae,ae,ae,ae,ae],[],l,[]⟩ [] λk f=>aZ (T aa n) aN yy ⟨f.bB.set 6 (ab (.list k)),f.aR,f.aE,[]⟩ (a9 Q) (bf X)) X) X) X) X):C aa (n+1) 822 [.list xs] ([]:List aQ) Q X:=LN (bl (by kernel_rfl) w)
theorem Q6(w:b3 aF x y5 (St G) λf=>C aa n 805 [.aB 1,az,.bool f] G (λg e=>dg (U g) ⟨[ab (.list xs),ab (.aB 1),ab az,ab (.list [.bytes #[],.bytes #[97,0],.bytes #[98]]),ab (.int n4),ab y5,ae,ae,ae,ae,ae,ae,ae,ae,ae],[],e,[U x]⟩) (λag ag=>False)):cD (T aa n) ae ub ae x ⟨[ab (.list xs),ab (.aB 1),ab az,ab (.list [.bytes #[],.bytes #[97,0],.bytes #[98]]),ab (.int n4),ab y5,ae,ae,ae,ae,ae,ae,ae,ae,ae],[],G,[]⟩ dg:=bl (by kernel_rfl) w
theorem Rq(w:(0:Int)≤n4∧(n4:Int)≤2^20∧((dw 0 n4 1).map V.int).length≤2^20∧dB (cD (T aa n) ae uc ae) ((dw 0 n4 1).map V.int) ⟨[ab (.list xs),ab (.aB 1),ab az,ab (.list [.bytes #[],.bytes #[97,0],.bytes #[98]]),ab (.int n4),ab y5,ab (.list e9),ae,ae,ae,ae,ae,ae,ae,ae],[],G,[]⟩ [] λf e=>aZ (T aa n) aN yz ⟨e.bB.set 7 (ab (.list f)),e.aR,e.aE,[]⟩ (a9 Q) (bf X)):aZ (T aa n) aN yy ⟨[ab (.list xs),ab (.aB 1),ab az,ab (.list [.bytes #[],.bytes #[97,0],.bytes #[98]]),ab (.int n4),ab y5,ab (.list e9),ae,ae,ae,ae,ae,ae,ae,ae],[],G,[]⟩ (a9 Q) (bf X):=bl (by kernel_rfl) w
theorem Q7(w:cr (.list [.bytes #[],.bytes #[97,0],.bytes #[98]]) x (St G) λg=>C aa n 378 [g] G (λf e=>cr (.list e9) x (St e) λh=>cr h (.int 0) (St e) λk=>dg (U (.list [f,k])) ⟨[ab (.list xs),ab (.aB 1),ab az,ab (.list [.bytes #[],.bytes #[97,0],.bytes #[98]]),ab (.int n4),ab y5,ab (.list e9),ae,ae,ae,ae,ae,ae,ae,ae],[],e,[U x]⟩) (λag ag=>False)):cD (T aa n) ae uc ae x ⟨[ab (.list xs),ab (.aB 1),ab az,ab (.list [.bytes #[],.bytes #[97,0],.bytes #[98]]),ab (.int n4),ab y5,ab (.list e9),ae,ae,ae,ae,ae,ae,ae,ae],[],G,[]⟩ dg:=bl (by kernel_rfl) w
theorem Rr(w:hA (.list f9) λh=>bF (jq h) λe=>e.length≤2^10∧ah=ah∧1=1∧1≤15∧C aa n 737 [.aB 1,.int 2] G (λo f=>b3 aF o (.int 0) (St f) λl=>if l=af then(f9.length≤2^20∧f9.length≤2^20∧dB (cD (T aa n) ae qz ae) f9 ⟨[ab (.list xs),ab (.aB 1),ab az,ab (.list [.bytes #[],.bytes #[97,0],.bytes #[98]]),ab (.int n4),ab y5,ab (.list e9),ab (.list f9),ab (.dict [(27,(.list e))]),ae,ae,ae,ae,ae,ae],[],f,[]⟩ [] λk g=>ah=ah∧1=1∧1≤15∧aZ (T aa n) aN mT ⟨g.bB.set 8 (ab (.dict [(38,(.list k))])),g.aR,g.aE,[]⟩ (a9 Q) (bf X)) else(aZ (T aa n) aN mT ⟨[ab (.list xs),ab (.aB 1),ab az,ab (.list [.bytes #[],.bytes #[97,0],.bytes #[98]]),ab (.int n4),ab y5,ab (.list e9),ab (.list f9),ab (.dict [(27,(.list e))]),ae,ae,ae,ae,ae,ae],[],f,[]⟩ (a9 Q) (bf X))) X):aZ (T aa n) aN yz ⟨[ab (.list xs),ab (.aB 1),ab az,ab (.list [.bytes #[],.bytes #[97,0],.bytes #[98]]),ab (.int n4),ab y5,ab (.list e9),ab (.list f9),ae,ae,ae,ae,ae,ae,ae],[],G,[]⟩ (a9 Q) (bf X):=bl (by kernel_rfl) w
theorem Q8(w:cr x (.int 0) (St G) λg=>cr x (.int 0) (St G) λh=>ah=ah∧2=2∧2≤15∧C aa n 744 [.aB 1,az,.dict [(33,(.list [g,h])),(27,x)]] G (λf e=>dg (U f) ⟨[ab (.list xs),ab (.aB 1),ab az,ab (.list [.bytes #[],.bytes #[97,0],.bytes #[98]]),ab (.int n4),ab y5,ab (.list e9),ab (.list f9),ab y8,ae,ae,ae,ae,ae,ae],[],e,[U x]⟩) (λag ag=>False)):cD (T aa n) ae qz ae x ⟨[ab (.list xs),ab (.aB 1),ab az,ab (.list [.bytes #[],.bytes #[97,0],.bytes #[98]]),ab (.int n4),ab y5,ab (.list e9),ab (.list f9),ab y8,ae,ae,ae,ae,ae,ae],[],G,[]⟩ dg:=bl (by kernel_rfl) w
theorem Rs(w:C aa n 744 [.aB 1,az,y8] G (λf g=>ah=ah∧1=1∧1≤15∧C aa n 744 [.aB 1,az,.dict [(98,f)]] g (λo h=>ah=ah∧1=1∧1≤15∧C aa n 744 [.aB 1,az,.dict [(27,o)]] h (λp k=>setG 3 (.lit 25) p (St k) λl=>(aF.bE 536 99).isSome=af∧1=1∧C aa n 533 [az] l.aE (λq e=>2=2∧(0:Int)≤n4∧(n4:Int)≤2^20∧forL [12] ah (cV (T aa n) uB) ((dw 0 n4 1).map V.int) ⟨[ab (.list xs),ab (.aB 1),ab az,ab (.list [.bytes #[],.bytes #[97,0],.bytes #[98]]),ab (.int n4),ab y5,ab (.list e9),ab (.list f9),ab y8,ab (.dict [(98,f)]),ab q,ab (.aB e.length),ae,ae,ae],[],e++[aQ.list []],[]⟩ (ei (a9 Q) λS=>aZ (T aa n) aN un S (a9 Q) (bf X))) X) X) X) X):aZ (T aa n) aN mT ⟨[ab (.list xs),ab (.aB 1),ab az,ab (.list [.bytes #[],.bytes #[97,0],.bytes #[98]]),ab (.int n4),ab y5,ab (.list e9),ab (.list f9),ab y8,ae,ae,ae,ae,ae,ae],[],G,[]⟩ (a9 Q) (bf X):=bl (by kernel_rfl) w
theorem RF(w:cr (.list [.bytes #[],.bytes #[97,0],.bytes #[98]]) (.int i) (St G) λl=>C aa n 812 [az,l] G (λh e=>cr (.list e9) (.int i) (St e) λo=>cr o (.int 1) (St e) λp=>C aa n 817 [h,p] e (λk g=>gb k λf=>f.length=2∧aZ (T aa n) aN yA (fu [13,14] f ⟨[ab (.list xs),ab (.aB 1),ab az,ab (.list [.bytes #[],.bytes #[97,0],.bytes #[98]]),ab (.int n4),ab y5,ab (.list e9),ab (.list f9),ab y8,ab hE,ab hD,ab iZ,ab (.int i),fj,fk],[],g,[]⟩) Q' (λag ag=>False)) (λag ag=>False)) (λag ag=>False)):cV (T aa n) uB ⟨[ab (.list xs),ab (.aB 1),ab az,ab (.list [.bytes #[],.bytes #[97,0],.bytes #[98]]),ab (.int n4),ab y5,ab (.list e9),ab (.list f9),ab y8,ab hE,ab hD,ab iZ,ab (.int i),fj,fk],[],G,[]⟩ Q':=bl (by kernel_rfl) w
theorem Rt(w:bc (λy l=>if y=af then(Q (.bool ah) l) else(C aa n 725 [az,.a6 765] l (λv h=>b3 aF v iZ (St h) λo=>if(!o)=af then(Q (.bool o) h) else((aF.bE 536 99).isSome=af∧1=1∧C aa n 533 [az] h (λs f=>b3 aF s hD (St f) λq=>Q (.bool q) f) X)) X)) λp=>C aa n 812 [az,.bytes #[97]] G (λt e=>db aF t (.a6 95) (St e) λk=>if(!k)=af then(p (!k) (e)) else((aF.bE 536 99).isSome=af∧1=1∧C aa n 533 [az] e (λu g=>b3 aF u hD (St g) λr=>p (!r) (g)) X)) X):aZ (T aa n) aN un ⟨[ab (.list xs),ab (.aB 1),ab az,ab (.list [.bytes #[],.bytes #[97,0],.bytes #[98]]),ab (.int n4),ab y5,ab (.list e9),ab (.list f9),ab y8,ab hE,ab hD,ab iZ,fJ,fj,fk],[],G,[]⟩ (a9 Q) (bf X):=bl (by kernel_rfl) w
theorem Ru(w:if(!ro)=af then(Q' (.ret (.bool ah)) ⟨[ab (.list xs),ab (.aB 1),ab az,ab (.list [.bytes #[],.bytes #[97,0],.bytes #[98]]),ab (.int n4),ab y5,ab (.list e9),ab (.list f9),ab y8,ab hE,ab hD,ab iZ,ab (.int i),ab (.bool ro),ab pY],[],G,[]⟩) else(bc (λf=>Q' .next ⟨[ab (.list xs),ab (.aB 1),ab az,ab (.list [.bytes #[],.bytes #[97,0],.bytes #[98]]),ab (.int n4),ab y5,ab (.list e9),ab (.list f9),ab y8,ab hE,ab hD,ab iZ,ab (.int i),ab (.bool ro),ab pY],[],f,[]⟩) λe=>b3 aF pY (.lit 68) (St G) λh=>if(!h)=af then(hx aF aN (St G) iZ 0∧ko i<10^10∧c7 aF .Add (.str (ek (toString (i:Int)))) (.lit 45) λk=>c7 aF .Add k pY λl=>dM (St G) iZ=dM (St G) iZ∧hS (T aa n) aN iZ 0 [l] (St G) (λo g=>e (g.aE)) (λag ag=>False)) else(e (G)))):aZ (T aa n) aN yA ⟨[ab (.list xs),ab (.aB 1),ab az,ab (.list [.bytes #[],.bytes #[97,0],.bytes #[98]]),ab (.int n4),ab y5,ab (.list e9),ab (.list f9),ab y8,ab hE,ab hD,ab iZ,ab (.int i),ab (.bool ro),ab pY],[],G,[]⟩ Q' (λag ag=>False):=bl (by kernel_rfl) w
theorem Sj(w:(0:Int)≤60∧(60:Int)≤2^20∧forL [3] ah (cV (T aa n) uq) ((dw 0 60 1).map V.int) ⟨[ab (.int 0),ab (.int 0),ab (.int (10^60)),ae],[],G,[]⟩ (ei (a9 Q) λS=>aZ (T aa n) aN ye S (a9 Q) (bf X))):C aa (n+1) 158 [] G Q X:=KG (bl (by kernel_rfl) w)
theorem Rv(w:bc (λf g=>((i+1):Int)≠0∧hF c (i+1)=ah∧Q' .next ⟨[ab f,ab g,ab (.int (dY c (i+1))),ab (.int i)],[],G,[]⟩) λe=>(4:Int)≠0∧0≤64∧if((dm i 4)==0)=af then(e (.int a) (.int (b+c))) else((4:Int)≠0∧0≤64∧if((dm i 4)==1)=af then(e (.int (a+c)) (.int b)) else((4:Int)≠0∧0≤64∧if((dm i 4)==2)=af then(e (.int a) (.int (b-c))) else(e (.int (a-c)) (.int b))))):cV (T aa n) uq ⟨[ab (.int a),ab (.int b),ab (.int c),ab (.int i)],[],G,[]⟩ Q':=bl (by kernel_rfl) w
theorem Q9(w:Q (.ao [.int a,.int b]) G):aZ (T aa n) aN ye ⟨[ab (.int a),ab (.int b),v2,v3],[],G,[]⟩ (a9 Q) (bf X):=bl (by kernel_rfl) w
theorem Sk(w:C aa n 158 [] G (λg f=>gb g λe=>e.length=2∧aZ (T aa n) aN yf (fu [0,1] e ⟨[ae,ae,ae,ae,ae,ae],[],f,[]⟩) (a9 Q) (bf X)) X):C aa (n+1) 165 [] G Q X:=KH (bl (by kernel_rfl) w)
theorem Ra(w:2=2∧(0:Int)≤64∧(64:Int)≤2^20∧forL [5] ah (cV (T aa n) ur) ((dw 0 64 1).map V.int) ⟨[ab (.int a),ab (.int b),ab (.int a),ab (.int b),U (.cv 0),ae],[.list []],G,[]⟩ (ei (a9 Q) λS=>aZ (T aa n) aN yg S (a9 Q) (bf X))):aZ (T aa n) aN yf ⟨[ab (.int a),ab (.int b),ae,ae,ae,ae],[],G,[]⟩ (a9 Q) (bf X):=bl (by kernel_rfl) w
theorem Rw(w:af=af∧gy (ko c:Int) 4294967296∧((10^60):Int)≠0∧hF ((ko c:Int)*4294967296) (10^60)=ah∧([]:List V)=[]∧(cS).length<2^20∧gy c b∧gy d a∧((10^60):Int)≠0∧hF ((c*b)+(d*a)) (10^60)=ah∧gy d b∧gy c a∧((10^60):Int)≠0∧hF ((d*b)-(c*a)) (10^60)=ah∧2=2∧Q' .next ⟨[ab (.int a),ab (.int b),ab (.int (dY ((c*b)+(d*a)) (10^60))),ab (.int (dY ((d*b)-(c*a)) (10^60))),U (.cv 0),ab (.int i)],[.list (cS++[.int (dY ((ko c:Int)*4294967296) (10^60))])],G,[]⟩):cV (T aa n) ur ⟨[ab (.int a),ab (.int b),ab (.int c),ab (.int d),U (.cv 0),ab (.int i)],[.list cS],G,[]⟩ Q':=bl (by kernel_rfl) w
theorem Rb(w:Q (.list cS) G):aZ (T aa n) aN yg ⟨[ab (.int a),ab (.int b),v2,v3,U (.cv 0),cf],[.list cS],G,[]⟩ (a9 Q) (bf X):=bl (by kernel_rfl) w
theorem Sl(w:(0:Int)≤m∧(m:Int)≤2^20∧((dw 0 m 1).map V.int).length≤2^20∧dB (cD (T aa n) ae tY ae) ((dw 0 m 1).map V.int) ⟨[ab (.int i),ab (.int m)],[],G,[]⟩ [] λe f=>jn (.list e) λg=>Q g f.aE):C aa (n+1) 170 [.int i,.int m] G Q X:=KI (bl (by kernel_rfl) w)
theorem QU(w:cc x λf=>fB .Pow 256 f λe=>(e:Int)≠0∧hF i e=ah∧(256:Int)≠0∧dg (U (.int (dm (dY i e) 256))) ⟨[ab (.int i),ab (.int m)],[],G,[U x]⟩):cD (T aa n) ae tY ae x ⟨[ab (.int i),ab (.int m)],[],G,[]⟩ dg:=bl (by kernel_rfl) w
theorem Sm(w:oc.size≤2^20∧(64:Int)≠0∧oc.size≤2^20∧c7 aF .Mult (.list [.int 0]) (.int (dm (55-(oc.size:Int)) 64)) λk=>c7 aF .Add (.list [.int 128]) k λl=>jn l λo=>onBytes o λe=>mA oc+mA e≤2^20∧oc.size≤2^20∧gy 8 (oc.size:Int)∧C aa n 170 [.int (8*(oc.size:Int)),.int 8] G (λh g=>onBytes h λf=>mA (oc++e)+mA f≤2^20∧Q (.bytes ((oc++e)++f)) g) X):C aa (n+1) 177 [.bytes oc] G Q X:=KJ (bl (by kernel_rfl) w)
theorem Sn(w:(0:Int)≤0∧0<(oc.size:Int)∧oc.size≤2^20∧(0:Int)≤1∧1<(oc.size:Int)∧oc.size≤2^20∧(0:Int)≤2∧2<(oc.size:Int)∧oc.size≤2^20∧(0:Int)≤3∧3<(oc.size:Int)∧oc.size≤2^20∧gy 256 ((oc.toList.getD (hi 3) 0).toNat:Int)∧gy 256 (((oc.toList.getD (hi 2) 0).toNat:Int)+(256*((oc.toList.getD (hi 3) 0).toNat:Int)))∧gy 256 (((oc.toList.getD (hi 1) 0).toNat:Int)+(256*(((oc.toList.getD (hi 2) 0).toNat:Int)+(256*((oc.toList.getD (hi 3) 0).toNat:Int)))))∧Q (.int (((oc.toList.getD (hi 0) 0).toNat:Int)+(256*(((oc.toList.getD (hi 1) 0).toNat:Int)+(256*(((oc.toList.getD (hi 2) 0).toNat:Int)+(256*((oc.toList.getD (hi 3) 0).toNat:Int)))))))) G):C aa (n+1) 184 [.bytes oc] G Q X:=KL (bl (by kernel_rfl) w)
theorem So(w:(0:Int)≤16∧(16:Int)≤2^20∧((dw 0 16 1).map V.int).length≤2^20∧dB (cD (T aa n) ae tZ ae) ((dw 0 16 1).map V.int) ⟨[ab (.bytes oc)],[],G,[]⟩ [] λe f=>Q (.list e) f.aE):C aa (n+1) 189 [.bytes oc] G Q X:=KM (bl (by kernel_rfl) w)
theorem QV(w:c7 aF .Mult (.int 4) x λg=>c7 aF .Mult (.int 4) x λh=>c7 aF .Add h (.int 4) λk=>gu aF (.bytes oc) (U g) (U k) (St G) λl=>C aa n 184 [l] G (λf e=>dg (U f) ⟨[ab (.bytes oc)],[],e,[U x]⟩) (λag ag=>False)):cD (T aa n) ae tZ ae x ⟨[ab (.bytes oc)],[],G,[]⟩ dg:=bl (by kernel_rfl) w
theorem sI(w:0≤64∧if(i==0)=af then(fB .BitAnd b c λo=>fB .BitAnd ((4294967296-1)-b) d λp=>fB .BitOr o p λq=>Q (.int q) G) else(0≤64∧if(i==1)=af then(fB .BitAnd b d λr=>fB .BitAnd c ((4294967296-1)-d) λe=>fB .BitOr r e λf=>Q (.int f) G) else(0≤64∧if(i==2)=af then(fB .BitXor b c λg=>fB .BitXor g d λh=>Q (.int h) G) else(fB .BitOr b ((4294967296-1)-d) λk=>fB .BitXor c k λl=>Q (.int l) G)))):C aa (n+1) 196 [.int i,.int b,.int c,.int d] G Q X:=KN (bl (by kernel_rfl) w)
theorem Sp(w:gy 5 m∧gy 3 m∧gy 7 m∧cr (.ao [.int m,.int ((5*m)+1),.int ((3*m)+5),.int (7*m)]) (.int i) (St G) λf=>cc f λe=>(16:Int)≠0∧Q (.int (dm e 16)) G):C aa (n+1) 203 [.int i,.int m] G Q X:=KP (bl (by kernel_rfl) w)
theorem Sq(w:fB .LShift i m λe=>fB .BitAnd e (4294967296-1) λf=>fB .RShift i (32-m) λg=>fB .BitOr f g λh=>Q (.int h) G):C aa (n+1) 210 [.int i,.int m] G Q X:=KQ (bl (by kernel_rfl) w)
theorem Sr(w:4=4∧(16:Int)≠0∧hF i 16=ah∧C aa n 196 [.int (dY i 16),.int b,.int c,.int d] G (λr p=>cc r λq=>C aa n 203 [.int (dY i 16),.int i] p (λs e=>cr (.list xs) s (St e) λt=>cc t λg=>(4294967296:Int)≠0∧cr (jv.getD 11 .none) (.int (dY i 16)) (St e) λl=>(4:Int)≠0∧cr l (.int (dm i 4)) (St e) λo=>C aa n 210 [.int (dm (((a+q)+g)+m) 4294967296),o] e (λk f=>cc k λh=>(4294967296:Int)≠0∧Q (.ao [.int d,.int (dm (b+h) 4294967296),.int b,.int c]) f) X) X) X):C aa (n+1) 217 [.ao [.int a,.int b,.int c,.int d],.list xs,.int i,.int m] G Q X:=KR (bl (by kernel_rfl) w)
theorem Ss(w:C aa n 189 [.bytes oc] G (λf e=>(0:Int)≤64∧(64:Int)≤2^20∧forL [5] ah (cV (T aa n) ut) ((dw 0 64 1).map V.int) ⟨[ab (.ao xs),ab (.bytes oc),ab (.list zs),ab f,ab (.ao xs),ae],[],e,[]⟩ (ei (a9 Q) λS=>aZ (T aa n) aN yh S (a9 Q) (bf X))) X):C aa (n+1) 222 [.ao xs,.bytes oc,.list zs] G Q X:=KS (bl (by kernel_rfl) w)
theorem Rx(w:cr (.list zs) (.int i) (St G) λg=>C aa n 217 [d8,y3,.int i,g] G (λf e=>Q' .next ⟨[ab (.ao xs),ab (.bytes oc),ab (.list zs),ab y3,ab f,ab (.int i)],[],e,[]⟩) (λag ag=>False)):cV (T aa n) ut ⟨[ab (.ao xs),ab (.bytes oc),ab (.list zs),ab y3,ab d8,ab (.int i)],[],G,[]⟩ Q':=bl (by kernel_rfl) w
theorem Rc(w:gN 4 [.ao xs,d8] λe=>e.length≤2^20∧dB (cD (T aa n) (U 2) t4 ae) e ⟨[ab (.ao xs),ab (.bytes oc),ab (.list zs),ab y3,ab d8,cf],[],G,[]⟩ [] λf g=>f.length≤2^20∧Q (.ao f) g.aE):aZ (T aa n) aN yh ⟨[ab (.ao xs),ab (.bytes oc),ab (.list zs),ab y3,ab d8,cf],[],G,[]⟩ (a9 Q) (bf X):=bl (by kernel_rfl) w
theorem QW(w:2=2∧c7 aF .Add hb ey λf=>cc f λe=>(4294967296:Int)≠0∧dg (U (.int (dm e 4294967296))) ⟨[ab (.ao xs),ab (.bytes oc),ab (.list zs),ab y3,ab d8,cf],[],G,[U hb,U ey]⟩):cD (T aa n) (U 2) t4 ae (.ao [hb,ey]) ⟨[ab (.ao xs),ab (.bytes oc),ab (.list zs),ab y3,ab d8,cf],[],G,[]⟩ dg:=bl (by kernel_rfl) w
theorem Su(w:C aa n 165 [] G (λl k=>C aa n 177 [.bytes oc] k (λg f=>bF (lenOf (St f) g) λh=>h≤2^20∧gN 2 [.int 0,.int (h:Int),.int 64] λe=>forL [4] ah (cV (T aa n) yB) e ⟨[ab (.bytes oc),ab l,ab g,ab (jv.getD 17 .none),ae],[],f,[]⟩ (ei (a9 Q) λS=>aZ (T aa n) aN yi S (a9 Q) (bf X))) X) X):C aa (n+1) 227 [.bytes oc] G Q X:=KT (bl (by kernel_rfl) w)
theorem Ry(w:gu aF y2 (U (.int i)) (U (.int (i+64))) (St G) λg=>C aa n 222 [y3,g,y1] G (λf e=>Q' .next ⟨[ab (.bytes oc),ab y1,ab y2,ab f,ab (.int i)],[],e,[]⟩) (λag ag=>False)):cV (T aa n) yB ⟨[ab (.bytes oc),ab y1,ab y2,ab y3,ab (.int i)],[],G,[]⟩ Q':=bl (by kernel_rfl) w
theorem Rd(w:(eG aN 3 1).isSome=af∧bF (h8 y3) λe=>e.length≤2^20∧e.length≤2^20∧dB (cD (T aa n) ae x6 ae) e ⟨[ab (.bytes oc),ab y1,ab y2,ab y3,v4],[],G,[]⟩ [] λf g=>3=3∧Cp f (#[]:Array UInt8) λh=>Q (.bytes h) g.aE):aZ (T aa n) aN yi ⟨[ab (.bytes oc),ab y1,ab y2,ab y3,v4],[],G,[]⟩ (a9 Q) (bf X):=bl (by kernel_rfl) w
theorem sy(w:C aa n 170 [x,.int 4] G (λf e=>dg (U f) ⟨[ab (.bytes oc),ab y1,ab y2,ab y3,v4],[],e,[U x]⟩) (λag ag=>False)):cD (T aa n) ae x6 ae x ⟨[ab (.bytes oc),ab y1,ab y2,ab y3,v4],[],G,[]⟩ dg:=bl (by kernel_rfl) w
theorem iV(w:et x0=ah∧if(isNone x0)=af then(Q (.lit 10) G) else(db aF x0 (.cC 1) (St G) λl=>if l=af then(Q (.lit 11) G) else(db aF x0 (.cC 0) (St G) λo=>if o=af then(Q (.lit 12) G) else(db aF x0 (.a6 321) (St G) λp=>if p=af then(Q (.lit 13) G) else(db aF x0 (.a6 356) (St G) λq=>if q=af then(Q (.lit 14) G) else(db aF x0 (.a6 378) (St G) λe=>if e=af then(Q (.lit 15) G) else(db aF x0 (.cC 2) (St G) λf=>if f=af then(Q (.lit 16) G) else(db aF x0 (.cC 3) (St G) λg=>if g=af then(Q (.lit 17) G) else(db aF x0 (.a6 399) (St G) λh=>if h=af then(Q (.lit 18) G) else(db aF x0 (.a6 427) (St G) λk=>if k=af then(Q (.lit 19) G) else(X (.a3 46 [.lit 20,.int (-1)]) G))))))))))):C aa (n+1) 438 [x0] G Q X:=K0 (bl (by kernel_rfl) w)
theorem ms(w:b3 aF (.lit aj) (.lit 10) (St G) λs=>if s=af then(Q (.ao [.lit 10]) G) else(b3 aF (.lit aj) (.lit 11) (St G) λt=>if t=af then(bc (λz=>Q (.ao [.lit 11,z]) G) λe=>nD x1 λu=>if u=af then(e (.int 1)) else(e (.int 0))) else(b3 aF (.lit aj) (.lit 12) (St G) λv=>if v=af then(Q (.ao [.lit 12,x1]) G) else(b3 aF (.lit aj) (.lit 13) (St G) λy=>if y=af then(er 2 x1 λq=>er 3 x1 λr=>Q (.ao [.lit 13,q,r]) G) else(b3 aF (.lit aj) (.lit 14) (St G) λl=>if l=af then(er 4 x1 λf=>Q (.ao [.lit 14,f]) G) else(b3 aF (.lit aj) (.lit 15) (St G) λo=>if o=af then(er 5 x1 λg=>jn g λp=>Q (.ao [.lit 15,p]) G) else(er 8 x1 λh=>er 9 x1 λk=>Q (.ao [.lit 19,h,k]) G))))))):C aa (n+1) 445 [.lit aj,x1] G Q X:=K1 (bl (by kernel_rfl) w)
theorem sJ(w:C aa n 438 [x0] G (λf e=>b3 aF f (.lit 16) (St e) λE=>if E=af then(bF (h8 x0) λh=>h.length≤2^20∧h.length≤2^20∧dB (cD (T aa n) ae x7 ae) h ⟨[ab x0,ab f],[],e,[]⟩ [] λl D=>l.length≤2^20∧c7 aF .Add (.ao [.lit 16]) (.ao l) λF=>Q F D.aE) else(b3 aF f (.lit 17) (St e) λt=>if t=af then(pJ aF x0 (St e) λz=>bF (h8 z) λg=>g.length≤2^20∧g.length≤2^20∧dB (cD (T aa n) ae t5 (U (.bi .IsNot (.bq (.var 0) (.cvar 0)) .d5))) g ⟨[ab x0,ab f],[],e,[]⟩ [] λk q=>k.length≤2^20∧c7 aF .Add (.ao [.lit 17]) (.ao k) λA=>Q A q.aE) else(b3 aF f (.lit 18) (St e) λu=>if u=af then(er 7 x0 λr=>C aa n 450 [r] e (λv o=>er 5 x0 λs=>jn s λB=>Q (.ao [.lit 18,v,B]) o) X) else(C aa n 445 [f,x0] e (λy p=>Q y p) X)))) X):C aa (n+1) 450 [x0] G Q X:=K2 (bl (by kernel_rfl) w)
theorem QX(w:C aa n 450 [x] G (λf e=>dg (U f) ⟨[ab x0,ab y1],[],e,[U x]⟩) (λag ag=>False)):cD (T aa n) ae x7 ae x ⟨[ab x0,ab y1],[],G,[]⟩ dg:=bl (by kernel_rfl) w
theorem Dm(w:cr x0 x (St G) λe=>et e=ah∧if(!isNone e)=af then(cr x0 x (St G) λh=>C aa n 450 [h] G (λg f=>dg (U (.ao [x,g])) ⟨[ab x0,ab y1],[],f,[U x]⟩) (λag ag=>False)) else(dg ae ⟨[ab x0,ab y1],[],G,[U x]⟩)):cD (T aa n) ae t5 (U (.bi .IsNot (.bq (.var 0) (.cvar 0)) .d5)) x ⟨[ab x0,ab y1],[],G,[]⟩ dg:=bl (by kernel_rfl) w
end
end
section
set_option tactic.hygienic true
theorem na{C:aq}(b:S.bB[k]?=U (U (.new a i)))(h2:S.aR[i]?=U (.d4 C a fs))(h:P (a,i,C,fs)):bF (nA S k) P:=cu (by unfold nA;refine ac b ?_;show(S.aR[i]?.bind _)=_;refine ac h2 ?_;exact if_pos rfl) h
section
variable{aa:aq→bJ}{G:List aQ}
theorem m4(x):bK aa 1 356 [x] G (.a3 356 [x]) G:=λn Q X q=>KV λy=>na rfl rfl ⟨rfl,trivial,_,rfl,q⟩
theorem rp(x y):bK aa 1 378 [x,y] G (.a3 378 [x,y]) G:=λn Q X q=>KW λa=>na rfl rfl ⟨rfl,na rfl rfl ⟨rfl,trivial,_,rfl,q⟩⟩
theorem vj(x):bK aa 1 378 [x] G (.a3 378 [x,.bool ah]) G:=λn Q X q=>KX λa=>na rfl rfl ⟨rfl,na rfl rfl ⟨rfl,trivial,_,rfl,q⟩⟩
theorem AE(x y):bK aa 1 399 [x,y] G (.a3 399 [x,y]) G:=λn Q X q=>KY λa=>na rfl rfl ⟨rfl,na rfl rfl ⟨rfl,trivial,_,rfl,q⟩⟩
theorem rq(x y):bK aa 1 427 [x,y] G (.a3 427 [x,y]) G:=λn Q X q=>KZ λa=>na rfl rfl ⟨rfl,na rfl rfl ⟨rfl,trivial,_,rfl,q⟩⟩
theorem I9(x y):bK aa 1 536 [.aB x,.aB y] G (.a3 536 [.aB x,.aB y]) G:=λn Q X q=>K8 λa=>by refine⟨rfl,?_⟩;refine na rfl rfl ⟨rfl,rfl,?_⟩;refine na rfl rfl ⟨rfl,?_⟩;exact⟨trivial,_,rfl,q⟩
theorem bv{a C k n:Nat}(f:vs[k]?=U (U (.new a 0)))(d:(ai.lay C)[fs.length]?=U n)
    (he:∀ R:bU,R x ⟨vs,[.d4 C a fs],c,[]⟩→cG ai aN e ⟨vs,[.d4 C a fs],G,[]⟩ R X) (h:aZ ai aN b ⟨vs,[.d4 C a (fs++[x])],c,[]⟩ Q X):aZ ai aN (.fI k n e :: b) ⟨vs,[.d4 C a fs],G,[]⟩ Q X:=
  he _ (na f rfl ⟨d,h⟩)
theorem Ja(x y):bK aa 1 655 [x,y] G (.a3 655 [x,y,.aB G.length,.aB (G.length+1),.aB (G.length+2)]) (G++[.list [],.fV [],.list []]):=λn Q X q=>by
  obtain b:(G++[aQ.list []]).length=G.length+1:=gP;obtain h2:((G++[aQ.list []])++[aQ.fV []]).length=G.length+2:=by refine ac gP ?_;refine ac b ?_;rfl
  obtain c:((G++[aQ.list []])++[aQ.fV []])++[aQ.list []]=G++[.list [],.fV [],.list []]:=by rw [eM,eM];rfl
  obtain q:=b.symm▸q;obtain q:=h2.symm▸q;obtain q:=c.symm▸q;exact Ln λa=>bv (x:=x) rfl rfl (λag h=>h) <| bv (x:=y) rfl rfl (λag h=>h) <| bv rfl rfl (λag h=>h) <| bv rfl rfl (λag h=>h) <|
    bv rfl rfl (λag h=>h) ⟨trivial,_,rfl,q⟩
end
end
theorem eq_int(e:(a==b)=c)(q:Q c):b3 aF (.int a) (.int b) S Q:=by subst e;exact⟨di _,q⟩
theorem ci{A B:Prop}(e:c=af)(a:A):if c=af then A else B:=by refine ac (if_pos e) ?_;exact a
theorem bu{A B:Prop}(e:c=ah)(b:B):if c=af then A else B:=by refine ac e ?_;refine ac (if_neg (by decide)) ?_;exact b
theorem bN{n:Nat}(h:decide (-(n:Int)≤i∧i<n∧n<2^40)=af):placeOk n i:=(of_decide_eq_true h:-(n:Int)≤i∧i<n∧n<2^40)
theorem at_of{C:aq}(e:fieldOf (gZ C) fs n=U y)(p:P y):er n (.a3 C fs) P:=cu e p
theorem o9(e:G[g]?=U (.list xs))(h:placeOk xs.length i)(a:xs[place xs.length i]?=U y)(p:P y):e0 G g (.int i) P:=cu e ⟨h,cu a p⟩
theorem jw(h:placeOk xs.length i)(a:xs[place xs.length i]?=U y)(p:P y):cr (.ao xs) (.int i) S P:=⟨h,cu a p⟩
theorem QJ(e:x=.ao xs)(h:P xs):gb x P:=by subst e;exact h
theorem QH(e:x=.list xs)(h:P xs):hA x P:=by subst e;exact h
noncomputable def rowsOf:Nat→List V→List (Int×V)|_,[]=>[]|k,v :: r=>((k:Int),.ao [.int 0,v]) :: rowsOf (k+1) r
theorem sH:rowsOf k (v :: r)=((k:Int),.ao [.int 0,v]) :: rowsOf (k+1) r:=rfl
noncomputable def eL(vs:List V):List (Int×V):=(90,.ao [.int 0,.int 4]) :: rowsOf 1 vs
theorem EW:∀ vs k i,f7 (rowsOf k vs) ((k+i:Nat):Int)=vs[i]?.map λv=>.ao [.int 0,v]|[],k,i=>by rfl|v :: r,k,0=>if_pos (beq_self_eq_true _)|v :: r,k,i+1=>by have:=EW r (k+1) i;rw [show k+1+i=k+(i+1) by exact nZ _ _ _] at this;rw [sH,nr,if_neg (by simp;lia),this];simp
theorem Sh:∀ (vs:List V) (k:Nat) (i:Int),(i<k∨(k+vs.length:Nat)≤i)→f7 (rowsOf k vs) i=ae:=by
  intro vs
  induction vs with
  | nil=>
    intro k i h;exact rfl
  | cons v r a=>
    intro k i h;rewrite [sH,nr];exact ac (if_neg (by simp at h ⊢;lia)) (a (k+1) i (by simp at h ⊢;lia))
theorem FA(h:vs[i]?=U v)(l:vs.length<89):f7 (eL vs) ((i+1:Nat):Int)=U (.ao [.int 0,v]):=by obtain a:i<vs.length:=(fM.mp h).1;rewrite [eL,nr];refine ac (if_neg (by simp;lia)) (ac (show i+1=1+i by exact tC _ _) ?_);rewrite [EW];refine ac h ?_;rfl
theorem FC(h:(vs.length:Int)<i)(n:i≠90):f7 (eL vs) i=ae:=by rewrite [eL,nr];exact ac (if_neg (by simp;lia)) (Sh vs 1 i (.inr (by simp;lia)))
theorem Si:∀ vs k x,k1 (rowsOf k vs) ((k+vs.length:Nat):Int) (.ao [.int 0,x])=rowsOf k (vs++[x]):=by
  intro vs
  induction vs with
  | nil=>
    intro k x;rfl
  | cons v r a=>
    intro k x;have:=a (k+1) x
    rewrite [sH,w2];refine ac (if_neg (by simp;lia)) (ac (show k+(v :: r).length=k+1+r.length by simp;exact(tH _ _).symm) (ac this ?_));rfl
theorem UC(l:vs.length<89):k1 (eL vs) ((vs.length+1:Nat):Int) (.ao [.int 0,x])=eL (vs++[x]):=by rewrite [eL,w2];refine ac (if_neg (by simp;lia)) (ac (show vs.length+1=1+vs.length by exact tC _ _) ?_);rewrite [Si];rfl
theorem EX:∀ vs k,(rowsOf k vs).length=vs.length:=by
  intro vs
  induction vs with
  | nil=>
    intro _;exact rfl
  | cons v r a=>
    intro k;exact congrArg (·+1) (a (k+1))
noncomputable abbrev ref(k:Nat):V:=.a3 427 [.int k,.int 0]
noncomputable def ja(x:V):Prop:=∀ S Q,Q ah→db aF x (.a6 427) S Q
class inductive cU(vs:List V):Nat→V→V→Prop|base {x:V}:ja x→cU vs 0 x x|step {k d:Nat} {y v:V}:vs[k]?=U y→cU vs d y v→cU vs (d+1) (ref (k+1)) v|nK:cU vs 0 (.a3 427 [.int 90,.int 1]) .none|sP:cU vs 0 (.a3 427 [.int 91,.int 0]) .none
theorem cU.mono(h:cU vs d x v):cU (vs++ws) d x v:=by induction h with|base h=>exact .base h|step e _ a=>exact .step (by refine ac (Go (fM.mp e).1) ?_;exact ac e rfl) a|nK=>exact .nK|sP=>exact .sP
structure ea(G:List aQ)(vs:List V):Prop where
  at_:G[2]?=U (.id (eL vs))
  len:vs.length<80
section
variable{aa:aq→bJ}{G:List aQ}{vs:List V}{n:Nat}{Q X:el}
theorem vL(H:ea G vs)(h:∃ p q:V,(f7 (eL vs) k).getD (.ao [.int (-1),.none])=.ao [p,q]∧aZ (T aa n) aN ui ⟨[ab az,ab x1,ab (.a3 427 [.int k,g]),ab (.int i),ab p,ab q],[],G,[]⟩ Q' (λag ag=>False)):
    cV (T aa n) lC ⟨[ab az,ab x1,ab (.a3 427 [.int k,g]),ab (.int i),v4,cf],[],G,[]⟩ Q':=by
  refine dP h λp q e h=>?_;obtain a:(St G).aE[2]?.elim 0 j6=5:=by show G[2]?.elim 0 j6=5;refine ac H.at_ ?_;rfl
  refine Dq ⟨rfl,rfl,?_⟩;refine⟨by show(eG aN ((St G).aE[2]?.elim 0 j6) 23).isSome=af;refine ac a ?_;rfl,rfl,cu H.at_ ?_⟩;exact(QJ e ⟨rfl,h⟩)
theorem Np{d:Nat}{y v:V}(F:cU vs d y v)(H:ea G vs):∀ {a:List V} {x1:V} {v3 v4 cf:Option cA},d<a.length→(∀ t∈a,∃ i,t=.int i)→Q v G→forL [3] ah (cV (T aa n) lC) a ⟨[ab az,ab x1,ab y,v3,v4,cf],[],G,[]⟩ (ei (a9 Q) λS=>aZ (T aa n) aN oo S (a9 Q) (bf X)):=by
  have turn:∀ {a:List V} {y x1:V} {v3 v4 cf:Option cA},0<a.length→(∀ t∈a,∃ i,t=.int i)→(∀ t r i,a=t :: r→t=.int i→
      cV (T aa n) lC ⟨[ab az,ab x1,ab y,ab (.int i),v4,cf],[],G,[]⟩ (ei (ei (a9 Q) λS=>aZ (T aa n) aN oo S (a9 Q) (bf X)) λS=>forL [3] ah (cV (T aa n) lC) r S (ei (a9 Q) λS=>aZ (T aa n) aN oo S (a9 Q) (bf X))))→
      forL [3] ah (cV (T aa n) lC) a ⟨[ab az,ab x1,ab y,v3,v4,cf],[],G,[]⟩ (ei (a9 Q) λS=>aZ (T aa n) aN oo S (a9 Q) (bf X)):=λ{a} y x1 v3 v4 cf l au h=>by
    cases a with
    | nil=>exact absurd l (gA _)
    | cons t r=>
      refine aG (au t (.head _)) λi e=>?_;have:=h t r i rfl e
      exact ac e this
  induction F with
  | base f=>exact λl au q=>turn (eB (di _) l) au λt r i ag ag=>Dq (f _ _ q)
  | @step k d y v e F j=>
    intro a x1 v3 v4 cf l au q;refine turn (eB (di _) l) au λt r i b ag=>vL H (h7 _ _ (by refine ac (FA e (hj H.len (by decide))) ?_;rfl) (wT ?_));have m:d<r.length:=by obtain l:=b▸l;exact mM l
    exact⟨al rfl,j m (λt g=>au t (by refine ac b ?_;exact .tail _ g)) q⟩
  | nK=>exact λl au q=>turn (eB (di _) l) au λt r i ag ag=>vL H (h7 _ _ rfl (wT ⟨al rfl,q⟩))
  | sP=>exact λl au q=>turn (eB (di _) l) au λt r i ag ag=>vL H (h7 (.int (-1)) .none (by refine ac (FC (by have:=H.len;exact ir.mpr (ltB ‹_› rfl)) (by decide)) ?_;rfl) (wT (at_of (y:=.int 0) rfl (eq_int (c:=ah) (by decide) (ci rfl q)))))
theorem rangeInts(a b st):∀ t∈(dw a b st).map V.int,∃ i,t=.int i:=λt h=>by exact aI (fw.mp h) λi _ e=>⟨i,e.symm⟩
theorem hN(F:cU vs d x v)(H:ea G vs)(hd:d<30):bK aa 1 472 [az,x] G v G:=λn Q X q=>Sv (bk (by decide) (by decide) (Np F H (by refine ac (show((dw 0 30 1).map V.int).length=30 by decide) ?_;exact hd) (rangeInts _ _ _) q))
theorem js(e:(keyOf es k).getD .none=x)(F:cU vs d x v)(H:ea G vs)(hd:d<30):bK aa 2 479 [az,.dict es,.lit k] G v G:=λn Q X q=>Sw (c5 rfl rfl rfl ⟨rfl,by refine ac e ?_;exact hN F H hd _ _ _ q⟩)
theorem AB(h:a.natAbs<2^64):mC a≤64:=by
  unfold mC;split
  · decide
  · rename_i z;have:a.natAbs≠0:=λq=>z (by simp [Gg.mp q])
    exact Wr ((xP this).mpr h)
theorem hT(h:a.natAbs<2^64):gy a b:=IntMulOk.of_left (AB h)
theorem Qd(h:b.natAbs<2^64):gy a b:=IntMulOk.of_right (AB h)
theorem iG(h:b.natAbs<2^250):hF a b=ah:=by
  unfold hF;rw [Bool.and_eq_false_iff];refine .inl (decide_eq_false (gB.mpr ?_));dsimp only;split
  · decide
  · rename_i z;have:b.natAbs≠0:=λq=>z (by simp [Gg.mp q])
    have:=(xP this).mpr h;lia
class inductive jd(q:Nat)(vs:List V)(R:List (Nat×V)):List aQ→Prop|mk (cs:List V) (a mm:Int):(∀ c∈cs,∃ i,c=.int i)→cs.length≤63→jd q vs R [.list cs,.list [.aB 0,.int a,.int q,.int mm],.id (eL vs),.cY R]
noncomputable def Bj(aa:aq→bJ)(G:List aQ)(vs:List V)(m:Nat)(q:Nat)(R:List (Nat×V)):Prop:=∀ a:Prop,(∀ (r b),r<m→jd (q+1) vs R b→bK aa 1 737 [.aB 1,.int m] G (.int (r:Nat)) b→a)→a
noncomputable def rK(m q:Nat)(mm a:Int):Int:=dm (dm a m+(q+1)*mm+dY ((q+1)*(q+1+1)) 2) m
noncomputable def vB(cs:List V)(a q mm:Int)(vs:List V)(R:List (Nat×V)):List aQ:=[.list cs,.list [.aB 0,.int a,.int q,.int mm],.id (eL vs),.cY R]
noncomputable def qw(m:Int)(Q:el)(b:List aQ):Prop:=e0 b 1 (.int 1) λs=>cc s λr=>(m:Int)≠0∧e0 b 1 (.int 1) λt=>cc t λe=>(m:Int)≠0∧hF e m=ah∧setG 1 (.int 1) (.int (dY e m)) (St b) λc=>e0 c.aE 1 (.int 2) λg=>c7 aF .Add g (.int 1) λh=>setG 1 (.int 2) h (St c.aE) λa=>e0 a.aE 1 (.int 2) λi=>e0 a.aE 1 (.int 3) λj=>c7 aF .Mult i j λk=>cc k λf=>e0 a.aE 1 (.int 2) λl=>e0 a.aE 1 (.int 2) λo=>c7 aF .Add o (.int 1) λp=>c7 aF .Mult l p λq=>cc q λd=>(2:Int)≠0∧hF d 2=ah∧(m:Int)≠0∧Q (.int (dm (((dm r m)+f)+(dY d 2)) m)) a.aE
theorem Kz{m q:Nat}{cs:List V}{a mm:Int}{R:List (Nat×V)}{Q:el}(e:0<m)(f:m<2^20)(g:q<2^20)(h:Q (.int (rK m q mm a)) (vB cs (dY a m) (q+1) mm vs R)):qw m Q (vB cs a q mm vs R):=by obtain b:((m:Nat):Int)≠0:=Int.natCast_ne_zero.mpr (n2 e);obtain c:((m:Nat):Int).natAbs<2^250:=GC f (by decide);obtain d:((q:Int)+1).natAbs<2^64:=dE g rfl;exact⟨bN rfl,b,bN rfl,b,iG c,of_decide_eq_true rfl,of_decide_eq_true rfl,al rfl,bN rfl,of_decide_eq_true rfl,of_decide_eq_true rfl,al rfl,bN rfl,bN rfl,hT d,bN rfl,bN rfl,hT d,by decide,iG (by decide),b,h⟩
theorem vC{m q:Nat}(b:0<m)(d:m<2^20)(g:q<2^20)(a4:∀ c∈cs,∃ i,c=.int i)(f:cs.length≤63)(h:∀ n Q X,qw m Q (vB cs a q mm vs R)→C aa (n+1) 737 [.aB 1,.int m] G Q X):Bj aa G vs m q R:=by have bt:(0:Int)<m:=Int.natCast_pos.mpr b;have e:((rK m q mm a).toNat:Int)=rK m q mm a:=Gh (xF _ bt);refine(λ_ aj=>aj ((rK m q mm a).toNat) _ (ir.mp (by refine ac e ?_;exact xE _ bt)) (.mk cs (dY a m) mm a4 f) (λn Q X z=>h n Q X (Kz b d g ?_)));obtain z:=e▸z;exact z
theorem Ko:∀ {cs:List V},(∀ c∈cs,∃ i,c=.int i)→fz cs=0:=λ{cs}=>by
  induction cs with
  | nil=>exact λag=>rfl
  | cons c r b=>
    intro h;refine aG (h c (.head _)) λi a=>?_;obtain rfl:=a;show max 0 (fz r)=0;refine ac (b λc a4=>h c (.tail _ a4)) ?_;rfl
theorem Kx{m a q mm:Int}(b:G[1]?=U (.list [.aB 0,.int a,.int q,.int mm]))(c:(a==0)=ah)(w:qw m Q G):C aa (n+1) 737 [.aB 1,.int m] G Q X:=w9 (bc.of (bc.of (o9 b (bN rfl) rfl (eq_int c (ci rfl (bu rfl w))))))
theorem Ky{m a q mm:Int}(b:G[1]?=U (.list [.aB 0,.int a,.int q,.int mm]))(c:G[0]?=U (.list []))(d:(a==0)=af)(w:qw m Q G):C aa (n+1) 737 [.aB 1,.int m] G Q X:=w9 (bc.of (bc.of (o9 b (bN rfl) rfl (eq_int d (bu rfl (o9 b (bN rfl) rfl (cu (a:=[]) (show G[0]?.bind lM=_ by refine ac c ?_;rfl) ⟨al rfl,bu rfl w⟩)))))))
theorem Bi{m q:Nat}{R:List (Nat×V)}(W:jd q vs R G)(f:0<m)(g:m<2^20)(k:q<2^20):Bj aa G vs m q R:=by
  obtain⟨cs,a,mm,a4,b⟩:=W;cases j:(a==0) with
  | false=>exact vC (cs:=cs) (a:=a) (mm:=mm) f g k a4 b λn Q X w=>Kx rfl j w
  | true=>
    rcases cs with _ | ⟨hK,cs⟩
    · exact vC (cs:=[]) (a:=a) (mm:=mm) f g k a4 b λn Q X w=>Ky rfl rfl j w
    · refine aG (a4 hK (.head _)) λi e=>?_;obtain d:dep (.list (hK :: cs))≤64:=by show fz (hK :: cs)+1≤64;refine ac (Ko a4) ?_;decide
      rw [e] at d ⊢;exact vC (cs:=cs) (a:=(i.natAbs:Int)) (mm:=mm) f g k (λc h=>a4 c (.tail _ h)) (Nat.le_of_succ_le b) λn Q X w=>w9 (bc.of (bc.of (o9 rfl (bN rfl) rfl (eq_int j (bu rfl ⟨bN rfl,d,ci rfl ⟨bN rfl,rfl,rfl,rfl,rfl,dt b (by decide),_,_,rfl,of_decide_eq_true rfl,of_decide_eq_true rfl,al rfl,w⟩⟩)))))
theorem H3{x:V}{q:Nat}{R:List (Nat×V)}{Q':fc}(H:ea G vs):∀ t k,k+t=vs.length→Q' .next ⟨[ab az,ab x,ab (.int ((vs.length+1:Nat):Int))],[],G,[]⟩→g9 (iq (T aa n) uI) (cV (T aa n) uu) (t+1) ⟨[ab az,ab x,ab (.int ((k+1:Nat):Int))],[],G,[]⟩ Q':=by
  intro t
  induction t with
  | zero=>
    intro k e h;obtain e:k=vs.length:=e;subst e;exact Dt (cu (by show G[2]?.bind qP=_;refine ac H.at_ ?_;rfl) (bu (by refine ac (FC (by lia) (by have:=H.len;lia)) ?_;rfl) h))
  | succ t b=>
    intro k e h;obtain⟨v,a⟩:∃ v,vs[k]?=U v:=⟨vs[k]'(by lia),fm (by lia)⟩
    exact Dt (cu (by show G[2]?.bind qP=_;refine ac H.at_ ?_;rfl) (ci (by refine ac (FA a (hj H.len (by decide))) ?_;rfl) (Rz (b (k+1) (by lia) h))))
theorem zb{x:V}{q:Nat}{R:List (Nat×V)}(W:jd q vs R G)(h:vs.length<79):∃ b,jd q (vs++[x]) R b∧bK aa 2 507 [az,x] G (ref (vs.length+1)) b:=by
  obtain⟨cs,a,mm,a4,c⟩:=W;refine(aM _ (.mk cs a mm a4 c) λn Q X z=>Sy ⟨vs.length+1,H3 (q:=q) (R:=R) (vs:=vs) ⟨rfl,by exact leB ‹_› rfl⟩ vs.length 0 (mN _) (Re ?_)⟩);refine ?_;obtain bY:(eL vs).length≤2^20:=by show(rowsOf 1 vs).length+1≤_;rw [EX];exact leB ‹_› rfl
  refine⟨bY,rq _ _ _ _ _ ?_⟩;exact ac (UC (leB ‹_› rfl)) z
structure Hw(vs cL:List V)(x r:V):Prop where
  len:cL.length≤vs.length+2
  ext:∃ ws,cL=vs++ws∧∀ w∈ws,w=x∨∃ k,w=ref k
  du:∀ d y,cU vs d x y→∃ e,e≤d+2∧cU cL e r y
  val:r=x∨∃ k,r=ref k∧vs.length<k∧k≤cL.length
noncomputable def RY(aa:aq→bJ)(G:List aQ)(vs:List V)(x:V)(q:Nat)(R:List (Nat×V)):Prop:=∀ a:Prop,(∀ (cL r b),jd (q+1) cL R b→Hw vs cL x r→bK aa 3 744 [.aB 1,az,x] G r b→a)→a
theorem RX{x:V}(W:jd q vs R G)(o:vs.length<75)(j:q<2^20):RY aa G vs x q R:=by
  refine(Bi (aa:=aa) W (m:=4) (by decide) (by decide) j) _ λk bM l b a=>?_;have one:∀ {vs G} (y:V),jd (q+1) vs R G→vs.length<78→∃ c,jd (q+1) (vs++[y]) R c∧bK aa 2 507 [az,y] G (ref (vs.length+1)) c:=λy W h=>zb W (leB ‹_› rfl)
  rcases k with _ | _ | _ | _ | k
  · exact(λ_ aj=>aj vs x bM b ⟨by exact eA _ _,(aM [] (by exact(fL _).symm) (by simp)),λd y F=>(aM d (eA _ _) F),.inl rfl⟩ (λn Q X z=>sM (a (n+1) _ _ ⟨bN rfl,by decide,by decide,sz (aa:=aa) (n:=n+2) (X:=X) z⟩)))
  · refine aI (one x b (leB ‹_› rfl)) λeJ aY aJ=>(λ_ aj=>aj _ _ eJ aY ⟨by simp,(aM [x] rfl (by simp)),λd y F=>(aM (d+1) (by lia) (.step (k:=vs.length) (y:=x) (by simp) F.mono)),.inr (cJ _ rfl (eg _) (by simp))⟩ (λn Q X z=>sM (a (n+1) _ _ ⟨bN rfl,by decide,by decide,?_⟩)));exact wX (bk rfl rfl (aJ n _ _ (sz (aa:=aa) (n:=n+2) (X:=X) z)))
  · exact(λ_ aj=>aj vs x bM b ⟨by exact eA _ _,(aM [] (by exact(fL _).symm) (by simp)),λd y F=>(aM d (eA _ _) F),.inl rfl⟩ (λn Q X z=>sM (a (n+1) _ _ ⟨bN rfl,by decide,by decide,sz (aa:=aa) (n:=n+2) (X:=X) z⟩)))
  · refine aI (one x b (leB ‹_› rfl)) λeJ aY aJ=>aI (one (ref (vs.length+1)) aY (by simp;exact dE ‹_› rfl)) λf i g=>(λ_ aj=>aj _ _ f i ⟨by simp,(aM [x,ref (vs.length+1)] (eM ..) λw hw=>?_),λd y F=>(aM (d+2) (eg _) (.step (k:=(vs++[x]).length) (y:=ref (vs.length+1)) Gp (.step (k:=vs.length) (y:=x) (by simp) (F.mono.mono)))),.inr (cJ _ rfl (by simp;exact eA _ _) (by simp))⟩ (λn Q X z=>sM (a (n+1) _ _ ⟨bN rfl,by decide,by decide,?_⟩)))
    · refine aS (b9.mp hw) (λe=>?_) λhw=>?_
      · exact .inl e
      · exact .inr ⟨_,dx.mp hw⟩
    · exact wX (bk rfl rfl (aJ n _ _ (wX (bk rfl rfl (g n _ _ (sz (aa:=aa) (n:=n+2) (X:=X) z))))))
  · lia
end
theorem c2(e:(bR a==bR b)=c)(q:Q c):b3 aF (.lit a) (.lit b) S Q:=by subst e;exact⟨di _,q⟩
class inductive cz{α β:Type}(P:α→β→Prop):List α→List β→Prop|nil:cz P [] []|cons {a:α} {b:β} {l:List α} {m:List β}:P a b→cz P l m→cz P (a :: l) (b :: m)
theorem j0(c:∀ x aT k,f x ⟨vs,l,G,[]⟩ k→f x ⟨vs,l,G,aT⟩ k):∀ {items:List V} {os:List (Option V)} {acc:List V} {Q:List V→aA→Prop},cz (λx o=>∀ k:Option V→aA→Prop,(∀ aT,k o ⟨vs,l,G,aT⟩)→f x ⟨vs,l,G,[]⟩ k) items os→(∀ aT,Q (acc++os.filterMap id) ⟨vs,l,G,aT⟩)→∀ {aT},dB f items ⟨vs,l,G,aT⟩ acc Q:=λ{items os acc Q} z=>by
  induction z generalizing acc with
  | nil=>intro q aT;have:=q aT;rw [List.filterMap_nil,fL] at this;exact this
  | @cons x o r _ a _ b=>
    intro q aT;refine c _ _ _ (a _ λaT=>?_);clear a;cases o with|none=>exact b q|some y=>exact b λaT=>by rw [eM];exact q aT
theorem hs{cond:Option bh}(x:V)(aT)(k:Option V→aA→Prop)(h:cD ai bO elt cond x ⟨vs,l,G,[]⟩ k):cD ai bO elt cond x ⟨vs,l,G,aT⟩ k:=by cases bO <;>exact h
theorem rR{α β:Type}{P:α→β→Prop}:∀ {xs:List α},(∀ x∈xs,∃ y,P x y)→∃ ys,cz P xs ys:=λ{xs}=>by
  induction xs with
  | nil=>exact λag=>⟨[],.nil⟩
  | cons x r d=>
    intro h;exact aG (h x (.head _)) λy c=>aG (d λx b=>h x (.tail _ b)) λys a=>⟨y :: ys,.cons c a⟩
theorem BG{α β:Type}{P R:α→β→Prop}(h:∀ x y,P x y→R x y):∀ {xs:List α} {ys:List β},cz P xs ys→cz R xs ys:=λq=>by induction q with|nil=>exact .nil|cons a _ b=>exact .cons (h _ _ a) b
theorem rQ{α β:Type}{P:α→β→Prop}:∀ {xs:List α} {ys:List β},cz P xs ys→xs.length=ys.length:=λq=>by induction q with|nil=>rfl|cons _ _ a=>exact congrArg (·+1) a
theorem vK{α β:Type}{P:α→β→Prop}{R:β→Prop}(h:∀ x y,P x y→R y):∀ {xs:List α} {ys:List β},cz P xs ys→∀ y∈ys,R y:=λq=>by
  induction q with
  | nil=>exact λy b=>absurd b c4
  | cons a _ c=>
    intro y b;refine aS (b9.mp b) (λd=>?_) λb=>?_
    · obtain rfl:=d;exact h _ _ a
    · exact c y b
structure dz(d:Nat)(t:V):Prop where
  eq:gm aF t t=U af
  dep:dep t≤d
theorem dz.mono(h:dz d t)(l:d≤e):dz e t:=⟨h.eq,dt h.dep l⟩
theorem dz.int(i):dz d (.int i):=⟨congrArg U (beq_self_eq_true i),di _⟩
theorem dz.lit(i):dz d (.lit i):=⟨congrArg U (beq_self_eq_true (bR i)),di _⟩
theorem dz.bytes(b):dz d (.bytes b):=⟨congrArg U (beq_self_eq_true b.toList),di _⟩
theorem dz.ao(h:∀ t∈b1,dz d t):dz (d+1) (.ao b1):=by
  refine⟨?_,ll ?_⟩
  · show gX aF b1 b1=U af
    induction b1 with
    | nil=>rfl
    | cons t r b=>
      show jW (gm aF t t) (gX aF r r)=U af;refine ac ((h t (.head _)).eq) (ac (b λt a=>h t (.tail _ a)) ?_);rfl
  · show fz b1≤d
    induction b1 with|nil=>exact di _|cons t r b=>exact Nat.max_le.mpr ⟨(h t (.head _)).dep,b λt a=>h t (.tail _ a)⟩
theorem dz.t1(h:dz d a):∀ t∈[a],dz d t:=λt m=>by refine ac (dx.mp m) ?_;exact h
theorem dz.t2(h:dz d a)(h2:dz d b):∀ t∈[a,b],dz d t:=λt m=>by
  refine aS (b9.mp m) (λc=>?_) λm=>?_
  · obtain rfl:=c;exact h
  · exact h2.t1 t m
theorem dz.t3(h:dz d a)(h2:dz d b)(e:dz d c):∀ t∈[a,b,c],dz d t:=λt m=>by
  refine aS (b9.mp m) (λf=>?_) λm=>?_
  · obtain rfl:=f;exact h
  · exact h2.t2 e t m
section
variable{aa:aq→bJ}{G:List aQ}
theorem OZ:bK aa 1 438 [.none] G (.lit 10) G:=λn Q X q=>iV ⟨rfl,q⟩
theorem Ct(b):bK aa 1 438 [.bool b] G (.lit 11) G:=λn Q X q=>iV ⟨rfl,al rfl,q⟩
theorem wd(i):bK aa 1 438 [.int i] G (.lit 12) G:=λn Q X q=>iV ⟨rfl,al rfl,al rfl,q⟩
theorem Cu(fs):bK aa 1 438 [.a3 321 fs] G (.lit 13) G:=λn Q X q=>iV ⟨rfl,al rfl,rfl,al rfl,rfl,rfl,rfl,q⟩
theorem we(fs):bK aa 1 438 [.a3 356 fs] G (.lit 14) G:=λn Q X q=>iV ⟨rfl,al rfl,rfl,al rfl,rfl,rfl,rfl,rfl,rfl,q⟩
theorem Cv(fs):bK aa 1 438 [.a3 378 fs] G (.lit 15) G:=λn Q X q=>iV ⟨rfl,al rfl,rfl,al rfl,rfl,rfl,rfl,rfl,rfl,rfl,rfl,q⟩
theorem kd_list(xs):bK aa 1 438 [.list xs] G (.lit 16) G:=λn Q X q=>iV ⟨rfl,al rfl,al rfl,rfl,rfl,rfl,rfl,rfl,rfl,al rfl,q⟩
theorem OY(es):bK aa 1 438 [.dict es] G (.lit 17) G:=λn Q X q=>iV ⟨rfl,al rfl,al rfl,rfl,rfl,rfl,rfl,rfl,rfl,al rfl,al rfl,q⟩
theorem O1(fs):bK aa 1 438 [.a3 399 fs] G (.lit 18) G:=λn Q X q=>iV ⟨rfl,al rfl,rfl,al rfl,rfl,rfl,rfl,rfl,rfl,rfl,rfl,al rfl,rfl,al rfl,rfl,rfl,rfl,q⟩
theorem O0(fs):bK aa 1 438 [.a3 427 fs] G (.lit 19) G:=λn Q X q=>iV ⟨rfl,al rfl,rfl,al rfl,rfl,rfl,rfl,rfl,rfl,rfl,rfl,al rfl,rfl,al rfl,rfl,rfl,rfl,rfl,rfl,q⟩
noncomputable def b7(aa:aq→bJ)(l:Nat)(x:V):Prop:=et x=ah∧∃ t,dz (2*l+2) t∧∀ G,bK aa (l+3) 450 [x] G t G
theorem b7.mono(h:b7 aa l x)(e:l≤m):b7 aa m x:=by exact aC h λb xr=>aI xr λt a h=>⟨b,t,a.mono (by lia),λG=>(h G).up (tD ‹_› _)⟩
theorem mw(b:et x=ah)(f:dz 2 t)(e:∀ G,bK aa 1 438 [x] G (.lit k) G)(a:(bR k==bR 16)=ah)(c:(bR k==bR 17)=ah)(d:(bR k==bR 18)=ah)(h:∀ G,bK aa 1 445 [.lit k,x] G t G):b7 aa 0 x:=⟨b,t,f,λG n Q X q=>sJ (e G _ _ _ (c2 a (bu rfl (c2 c (bu rfl (c2 d (bu rfl (h G _ _ _ q))))))))⟩
theorem xn:b7 aa 0 .none:=mw rfl (.mono (.ao (d:=0) (.t1 (.lit 10))) (by decide)) (λG=>OZ) (by kernel_rfl) (by kernel_rfl) (by kernel_rfl) λG n Q X q=>ms (c2 (c:=af) (by kernel_rfl) (ci rfl q))
theorem UG(b:Bool):b7 aa 0 (.bool b):=mw (t:=.ao [.lit 11,if b=af then .int 1 else .int 0]) rfl (.mono (.ao (d:=0) (.t2 (.lit 11) (by cases b <;>exact .int _))) (by decide)) (λG=>Ct b) (by kernel_rfl) (by kernel_rfl) (by kernel_rfl)
  λG n Q X q=>ms (c2 (c:=ah) (by kernel_rfl) (bu rfl (c2 (c:=af) (by kernel_rfl) (ci rfl (bc.of (by cases b <;>exact q))))))
theorem iX(i:Int):b7 aa 0 (.int i):=mw rfl (.mono (.ao (d:=0) (.t2 (.lit 12) (.int i))) (by decide)) (λG=>wd i) (by kernel_rfl) (by kernel_rfl) (by kernel_rfl)
  λG n Q X q=>ms (c2 (c:=ah) (by kernel_rfl) (bu rfl (c2 (c:=ah) (by kernel_rfl) (bu rfl (c2 (c:=af) (by kernel_rfl) (ci rfl q))))))
theorem UH(i j:Int):b7 aa 0 (.a3 321 [.int i,.int j]):=mw rfl (.mono (.ao (d:=0) (.t3 (.lit 13) (.int i) (.int j))) (by decide)) (λG=>Cu _) (by kernel_rfl) (by kernel_rfl) (by kernel_rfl)
  λG n Q X q=>ms (c2 (c:=ah) (by kernel_rfl) (bu rfl (c2 (c:=ah) (by kernel_rfl) (bu rfl (c2 (c:=ah) (by kernel_rfl) (bu rfl (c2 (c:=af) (by kernel_rfl) (ci rfl (at_of rfl (at_of rfl q))))))))))
theorem pQ(i:Nat):b7 aa 0 (.a3 356 [.lit i]):=mw rfl (.mono (.ao (d:=0) (.t2 (.lit 14) (.lit i))) (by decide)) (λG=>we _) (by kernel_rfl) (by kernel_rfl) (by kernel_rfl)
  λG n Q X q=>ms (c2 (c:=ah) (by kernel_rfl) (bu rfl (c2 (c:=ah) (by kernel_rfl) (bu rfl (c2 (c:=ah) (by kernel_rfl) (bu rfl (c2 (c:=ah) (by kernel_rfl) (bu rfl (c2 (c:=af) (by kernel_rfl) (ci rfl (at_of rfl q)))))))))))
theorem pR(b:Array UInt8)(x:V)(ak:b.size≤2^20):b7 aa 0 (.a3 378 [.bytes b,x]):=mw rfl (.mono (.ao (d:=0) (.t2 (.lit 15) (.bytes b))) (by decide)) (λG=>Cv _) (by kernel_rfl) (by kernel_rfl) (by kernel_rfl)
  λG n Q X q=>ms (c2 (c:=ah) (by kernel_rfl) (bu rfl (c2 (c:=ah) (by kernel_rfl) (bu rfl (c2 (c:=ah) (by kernel_rfl) (bu rfl (c2 (c:=ah) (by kernel_rfl) (bu rfl (c2 (c:=ah) (by kernel_rfl) (bu rfl (c2 (c:=af) (by kernel_rfl) (ci rfl (at_of rfl ⟨ak,q⟩)))))))))))))
theorem jC(i j:Int):b7 aa 0 (.a3 427 [.int i,.int j]):=mw rfl (.mono (.ao (d:=0) (.t3 (.lit 19) (.int i) (.int j))) (by decide)) (λG=>O0 _) (by kernel_rfl) (by kernel_rfl) (by kernel_rfl)
  λG n Q X q=>ms (c2 (c:=ah) (by kernel_rfl) (bu rfl (c2 (c:=ah) (by kernel_rfl) (bu rfl (c2 (c:=ah) (by kernel_rfl) (bu rfl (c2 (c:=ah) (by kernel_rfl) (bu rfl (c2 (c:=ah) (by kernel_rfl) (bu rfl (c2 (c:=ah) (by kernel_rfl) (bu rfl (at_of rfl (at_of rfl q))))))))))))))
theorem BN{b1:List V}:(b1.map U).filterMap id=b1:=by induction b1 with | nil=>rfl | cons t r a=>simp
theorem Ni{α:Type}{P:α→Option V→Prop}:∀ {xs:List α} {b1:List V},cz (λx t=>P x (U t)) xs b1→cz P xs (b1.map U):=λq=>by induction q with|nil=>exact .nil|cons a _ b=>exact .cons a b
theorem lY{ai:cp}{bO:Option Nat}{elt:bh}{cond:Option bh}{vs:List (Option cA)}{l G:List aQ}{items b1:List V}{Q:List V→aA→Prop}(z:cz (λx y=>∀ k:Option V→aA→Prop,(∀ aT,k (U y) ⟨vs,l,G,aT⟩)→cD ai bO elt cond x ⟨vs,l,G,[]⟩ k) items b1)(q:∀ aT,Q b1 ⟨vs,l,G,aT⟩){aT:List (Option V)}:dB (cD ai bO elt cond) items ⟨vs,l,G,aT⟩ [] Q:=j0 (os:=b1.map U) (λx aT k h=>hs x aT k h) (Ni z) λaT=>by refine ac BN ?_;exact q aT
theorem nP{l:Nat}{xs:List V}(h:∀ x∈xs,b7 aa l x)(f:xs.length≤1000):b7 aa (l+1) (.list xs):=by
  refine aG (rR (P:=λx t=>dz (2*l+2) t∧∀ G,bK aa (l+3) 450 [x] G t G) λx c=>(h x c).2) λb1 a=>?_;have e:=rQ a
  refine⟨rfl,.ao (.lit 16 :: b1),.mono (.ao λt m=>?_) (show 2*l+2+1≤_ by lia),λG n Q X q=>?_⟩
  · refine aS (b9.mp m) (λd=>?_) λm=>?_
    · obtain rfl:=d;exact .lit 16
    · exact vK (R:=dz (2*l+2)) (λag ag z=>z.1) a t m
  · have b0:xs.length≤2^20:=by exact leB ‹_› rfl
    refine sJ (n:=n+(l+3)) (((kd_list xs).up (show 1≤l+3 by exact al rfl)) n _ _ (c2 (by kernel_rfl) (ci rfl (cu rfl ⟨b0,b0,?_⟩))));refine lY (BG (λx t z k b=>QX (z.2 G n _ _ (b _))) a) λaT=>⟨by lia,?_⟩;exact⟨by show [V.lit 16].length+b1.length≤_;simp;lia,q⟩
theorem FE(h:b7 aa l hd)(a:bx.size≤2^20):b7 aa (l+1) (.a3 399 [hd,.bytes bx]):=by refine aC h λ_ xr=>aI xr λt b h=>⟨rfl,.ao [.lit 18,t,.bytes bx],.mono (.ao (.t3 (.lit 18) b (.bytes bx))) (show 2*l+2+1≤_ by lia),λG n Q X q=>?_⟩;exact sJ (n:=n+(l+3)) (((O1 _).up (show 1≤l+3 by exact al rfl)) n _ _ (c2 (c:=ah) (by kernel_rfl) (bu rfl (c2 (c:=ah) (by kernel_rfl) (bu rfl (c2 (c:=af) (by kernel_rfl) (ci rfl (at_of rfl (h G n _ _ (at_of rfl ⟨a,q⟩))))))))))
theorem Pb(h:keyOf es k=U v):(k,v)∈es:=by
  induction es with
  | nil=>exact nn h
  | cons q r a=>
    unfold keyOf at h;split at h
    · rename_i e;exact bG (aX h) (bG (eqB e) (.head _))
    · exact .tail _ (a h)
theorem Pa(h:k∈es.map (·.1)):∃ v,keyOf es k=U v:=by
  induction es with
  | nil=>exact absurd h c4
  | cons q r a=>
    unfold keyOf;split
    · exact⟨q.2,rfl⟩
    · rename_i e;refine aS (b9.mp h) (λb=>?_) λh=>?_
      · obtain rfl:=b;exact absurd (beq_self_eq_true _) e
      · exact a h
theorem UL{ix:List aQ→Prop}{ks:List Nat}(au:∀ G,ix G→∀ k v (P:V→Prop),keyOf es k=U v→P v→cr x0 (.lit k) (St G) P)(h:∀ p∈es,b7 aa l p.2)(f:∀ k∈ks,k∈es.map (·.1)):
    ∃ os,(∀ t∈os.filterMap id,dz (2*l+3) t)∧(os.filterMap id).length≤ks.length∧∀ n G,ix G→cz (λx o=>∀ k:Option V→aA→Prop,(∀ aT,k o ⟨[ab x0,ab y1],[],G,aT⟩)→cD (T aa (n+(l+3))) ae t5 (U (.bi .IsNot (.bq (.var 0) (.cvar 0)) .d5)) x ⟨[ab x0,ab y1],[],G,[]⟩ k) (ks.map .lit) os:=by
  induction ks with
  | nil=>exact(cJ [] (by simp) (al rfl) λag ag ag=>.nil)
  | cons k r q=>
    refine c0 (q λk g=>f k (.tail _ g)) λos c h2 d=>aG (Pa (f k (.head _))) λv e=>aC (h _ (Pb e)) λb xr=>aI xr λt j m=>?_;cases i:isNone v with
    | true=>exact(cJ (ae :: os) (by simpa using c) (by simp at h2 ⊢;exact qe ‹_›) λn G z=>.cons (λK e8=>Dm (au G z k v _ e ⟨b,bu (by refine ac i ?_;rfl) (e8 _)⟩)) (d n G z))
    | false=>
      refine(cJ (U (.ao [.lit k,t]) :: os) (λy a=>?_) (by simp at h2 ⊢;assumption) λn G z=>.cons (λK e8=>Dm (au G z k v _ e ⟨b,ci (by refine ac i ?_;rfl) (au G z k v _ e (m G n _ _ (e8 _)))⟩)) (d n G z));refine aS (b9.mp (show y∈V.ao [.lit k,t] :: os.filterMap id from a)) (λs=>?_) λa=>?_
      · obtain rfl:=s;exact .ao (.t2 (.lit k) j)
      · exact c y a
theorem TO{es:List (Nat×V)}:∀ k∈ki aF (es.map (·.1)),k∈es.map (·.1):=λk h=>(V6 (le:=λa b=>decide ((aF.ls a).cps.toList≤(aF.ls b).cps.toList))).mp h
theorem FD{l:Nat}{ix:List aQ→Prop}(e:∀ G,ix G→∀ P:V→Prop,P (.list ((ki aF (es.map (·.1))).map .lit))→pJ aF x0 (St G) P)(au:∀ G,ix G→∀ k v (P:V→Prop),keyOf es k=U v→P v→cr x0 (.lit k) (St G) P)(h:∀ p∈es,b7 aa l p.2)(i:es.length<60)
    (d:∀ G,ix G→bK aa 1 438 [x0] G (.lit 17) G):∃ t,dz (2*l+4) t∧∀ G,ix G→bK aa (l+4) 450 [x0] G t G:=by
  have f:(ki aF (es.map (·.1))).length=es.length:=by unfold ki;rw [VX,fn]
  refine c0 (UL (aa:=aa) (l:=l) (x0:=x0) (y1:=.lit 17) (ix:=ix) au h TO) λos a h2 b=>(aM (.ao (.lit 17 :: os.filterMap id)) (.ao λt m=>?_) λG z n Q X q=>?_)
  · refine aS (b9.mp m) (λg=>?_) λm=>?_
    · obtain rfl:=g;exact .lit 17
    · exact a t m
  obtain b0:((ki aF (es.map (·.1))).map V.lit).length≤2^20:=by rewrite [fn];exact ac f (iM ‹_› rfl)
  refine sJ (n:=n+(l+3)) (((d G z).up (show 1≤l+3 by exact al rfl)) n _ _ (c2 (c:=ah) (by kernel_rfl) (bu rfl (c2 (c:=af) (by kernel_rfl) (ci rfl (e G z _ (cu rfl (bk b0 b0 ?_))))))));refine j0 (λx aT k h=>hs x aT k h) (b n G z) λaT=>?_;rw [mK];exact⟨by lia,by show [V.lit 17].length+(os.filterMap id).length≤_;simp only [gg,VY];lia,q⟩
theorem fi{l:Nat}{es:List (Nat×V)}(h:∀ p∈es,b7 aa l p.2)(a:es.length<60):b7 aa (l+1) (.dict es):=by exact aI (FD (aa:=aa) (l:=l) (x0:=.dict es) (ix:=λag=>True) (λG ag P p=>⟨a,p⟩) (λG ag k v P e p=>cu e p) h a λG ag=>OY es) λt b h2=>⟨rfl,t,b.mono (eg _),λG=>h2 G trivial⟩
theorem UI{l:Nat}(h:∀ p∈es,b7 aa l p.2)(d:es.length<60):∃ t,dz (2*l+4) t∧∀ G:List aQ,G[3]?=U (.cY es)→bK aa (l+4) 450 [.aB 3] G t G:=by
  refine FD (x0:=.aB 3) (es:=es) (ix:=λG=>G[3]?=U (.cY es)) (λG z P p=>cu (a:=aQ.cY es) z ⟨d,p⟩) (λG z k v P e p=>cu (a:=es) (by show G[3]?.bind qQ=_;refine ac z ?_;rfl) (cu e p)) h d λG z n Q X q=>?_;obtain ty:pT (St G) (.aB 3)=U 7:=by show G[3]?.bind qR=_;refine ac z ?_;rfl
  obtain no:∀ {n:Nat} {P:Bool→Prop},n≤4→P (iL 7 n)→db aF (.aB 3) (.cC n) (St G) P:=λc p=>⟨c,cu ty p⟩
  obtain b:∀ {D:Nat} {P:Bool→Prop},aF.fC D=af→P ah→db aF (.aB 3) (.a6 D) (St G) P:=λc p=>⟨c,by show(pT (St G) (.aB 3)).isSome=af;refine ac ty ?_;rfl,p⟩
  exact iV ⟨rfl,bu rfl (no (al rfl) (bu rfl (no (al rfl) (bu rfl (b rfl (bu rfl (b rfl (bu rfl (b rfl (bu rfl (no (al rfl) (bu rfl (no (al rfl) (ci rfl q))))))))))))))⟩
theorem Sg(h:i∈(rowsOf k vs).map (·.1)):∃ v∈vs,f7 (rowsOf k vs) i=U (.ao [.int 0,v]):=by
  induction vs generalizing k with
  | nil=>exact absurd h c4
  | cons v r a=>
    refine ac sH (ac nr ?_);split
    · exact(aM v (.head _) rfl)
    · rename_i e;refine aS (b9.mp h) (λb=>?_) λh=>?_
      · obtain rfl:=b;exact absurd (beq_self_eq_true _) e
      · exact aI (a h) λw m e=>(aM w (.tail _ m) e)
theorem UB(h:i∈(eL vs).map (·.1)):∃ v,(v=.int 4∨v∈vs)∧f7 (eL vs) i=U (.ao [.int 0,v]):=by
  unfold eL;refine ac nr ?_;split
  · exact(aM _ (.inl rfl) rfl)
  · rename_i e;refine aS (b9.mp h) (λa=>?_) λh=>?_
    · obtain rfl:=a;exact absurd (beq_self_eq_true _) e
    · exact aI (Sg h) λw m e=>(aM w (.inr m) e)
theorem UM{l:Nat}{vs:List V}(s:∀ v∈vs,b7 aa l v)(m:∀ p∈R,b7 aa l p.2)(w:vs.length<59)(o:R.length<60):
    ∃ t,dz (2*l+5) t∧∀ G,ea G vs→G[3]?=U (.cY R)→bK aa (l+5) 533 [az] G t G:=by
  refine aI (UI (aa:=aa) m o) λt2 d h2=>?_;obtain j:(eL vs).length=vs.length+1:=congrArg (·+1) (EX vs 1);refine aG (rR (xs:=((mu ((eL vs).map (·.1))).map V.int)) (P:=λx t=>dz (2*l+3) t∧∀ G,ea G vs→∀ n (k:Option V→aA→Prop),(∀ aT,k (U t) ⟨[ab az,ae],[],G,aT⟩)→cD (T aa (n+(l+4))) ae t6 ae x ⟨[ab az,ae],[],G,[]⟩ k) λx f=>by
    obtain⟨i,au,rfl⟩:=fw.mp f;obtain⟨v,b,e⟩:=UB (vs:=vs) (i:=i) (V6.mp au);obtain⟨t,r,h⟩:∃ t,dz (2*l+2) t∧∀ G,bK aa (l+3) 450 [v] G t G:=by
      clear e f;rcases b with rfl | b
      · exact((iX 4).mono (di l)).2
      · exact(s v b).2
    refine(aM (.ao [.int i,.int 0,t]) (.ao (.t3 (.int _) (.int _) r)) λG z n k c=>?_);have g:∀ {P:V→Prop},P (.ao [.int 0,v])→e0 G 2 (.int i) P:=λp=>cu z.at_ (cu e p)
    exact QY (g (jw (bN rfl) rfl (g (jw (bN rfl) rfl (((h G).up (i4 _)) n _ _ (c _))))))) λb1 a=>?_
  refine(aM (.ao [.ao b1,t2]) (.mono (.ao (.t2 (.ao (vK (R:=dz (2*l+3)) (λag ag z=>z.1) a)) (d.mono (eg _)))) (eg _)) λG z u n Q X q=>?_);obtain ls:(mu ((eL vs).map (·.1))).length=vs.length+1:=by unfold mu;rewrite [VX,fn];exact ac j rfl
  have b0:((mu ((eL vs).map (·.1))).map V.int).length≤2^20:=by rewrite [fn];exact ac ls (leB ‹_› rfl)
  refine SC (n:=n+(l+4)) (bk rfl rfl (Sz (n:=n+(l+3)) (cu z.at_ ⟨by refine ac j ?_;exact dE ‹_› rfl,cu rfl (bk b0 b0 ?_)⟩)));refine lY (BG (λx t y k c=>y.2 G z n k c) a) λaT=>⟨by refine bG (rQ a) ?_;exact b0,Rf (h2 G u n _ _ q)⟩
end
section
variable{aa:aq→bJ}{G:List aQ}
theorem I8(k):bK aa 1 321 [.int (10*k),.int 1] G (.a3 321 [.int k,.int 0]) G:=λn Q X q=>KU λa=>by refine⟨2,of_decide_eq_true rfl,al rfl,?_⟩;refine ci (c:=(dm (10*k) 10==0)) (beq_iff_eq.mpr (Int.mul_fmod_right 10 k)) (bk (of_decide_eq_true rfl) (iG (by decide)) ?_);refine na rfl rfl ⟨rfl,na rfl rfl ⟨rfl,trivial,_,rfl,?_⟩⟩;obtain e:dY (10*k) 10=k:=Int.mul_fdiv_cancel_left k (by decide);show Q (.a3 321 [.int (dY (10*k) 10),.int 0]) G;exact ac e q
noncomputable def dK(b:Nat)(vs:List V)(G:List aQ):Prop:=∃ q,q≤b∧jd q vs [] G
theorem dK.up{b c:Nat}{vs:List V}{G:List aQ}(h:dK b vs G)(e:b≤c):dK c vs G:=let ⟨q,a,h⟩:=h;⟨q,dt a e,h⟩
noncomputable def dI(aa:aq→bJ)(j:Nat)(vs cL:List V):Prop:=∃ ws,cL=vs++ws∧ws.length≤j∧∀ w∈ws,b7 aa 10 w
theorem dI.refl{j:Nat}(vs):dI aa j vs vs:=(cJ [] (by exact(fL _).symm) (al rfl) (by simp))
theorem dI.trans{i j k:Nat}{a b c:List V}(h:dI aa i a b)(h2:dI aa j b c)(e:i+j≤k):dI aa k a c:=by refine c0 h λws d l1 t1=>?_;clear h;obtain rfl:=d;refine c0 h2 λus d bY t2=>?_;clear h2;obtain rfl:=d;exact(cJ (ws++us) (eM ..) (by simp;lia) λw hw=>(dj.mp hw).elim (t1 w) (t2 w))
theorem dI.len{j:Nat}{a b:List V}(h:dI aa j a b):b.length≤a.length+j:=by refine c0 h λws c l _=>?_;clear h;obtain rfl:=c;simp;assumption
theorem dI.du{j d:Nat}{a b:List V}{x v:V}(h:dI aa j a b)(F:cU a d x v):cU b d x v:=by refine c0 h λws c l _=>?_;clear h;obtain rfl:=c;exact F.mono
theorem dI.up{j k:Nat}{a b:List V}(h:dI aa j a b)(e:j≤k):dI aa k a b:=let ⟨ws,a,l,t⟩:=h;⟨ws,a,dt l e,t⟩
noncomputable def Kw(aa:aq→bJ)(G:List aQ)(b:Nat)(m:Nat)(vs:List V):Prop:=∀ a:Prop,(∀ (r c),r<m→dK (b+1) vs c→bK aa 1 737 [.aB 1,.int m] G (.int (r:Nat)) c→a)→a
theorem gk{b m:Nat}{vs:List V}(W:dK b vs G)(c:0<m)(d:m<2^20)(ak:b<2^20):Kw aa G b m vs:=by refine aI W λq l W=>(Bi (aa:=aa) W c d (eB l ak)) _ λr a h W' S=>?_;exact(λ_ aj=>aj r a h (aM (q+1) (ll l) W') S)
structure yG(aa:aq→bJ)(vs cL:List V)(x r:V):Prop where
  b4:dI aa 2 vs cL
  du:∀ d y,cU vs d x y→∃ e,e≤d+2∧cU cL e r y
  val:r=x∨∃ k,r=ref k∧vs.length<k∧k≤cL.length
noncomputable def RU(aa:aq→bJ)(G:List aQ)(x:V)(b:Nat)(vs:List V):Prop:=∀ a:Prop,(∀ (cL r c),dK (b+1) cL c→yG aa vs cL x r→bK aa 3 744 [.aB 1,az,x] G r c→a)→a
theorem jA{x:V}{b:Nat}{vs:List V}(W:dK b vs G)(c:vs.length<75)(ak:b<2^20)(d:b7 aa 10 x):RU aa G x b vs:=by
  refine aI W λq l W=>(RX (aa:=aa) (x:=x) W c (eB l ak)) _ λcL r a W' P S=>?_;refine aI P.ext λws e hw=>(λ_ aj=>aj cL r a (aM (q+1) (ll l) W') ⟨(cJ ws e ?_ λw m=>?_),P.du,P.val⟩ S)
  · have:=P.len;obtain this:=e▸this;simp at this;exact this
  · clear P S aj;rcases hw w m with rfl | ⟨k,rfl⟩
    · exact d
    · exact(jC _ _).mono (di _)
noncomputable def H2(aa:aq→bJ)(G:List aQ)(x:V)(b:Nat)(vs:List V):Prop:=∀ a:Prop,(∀ (c),dK b (vs++[x]) c→dI aa 1 vs (vs++[x])→bK aa 2 507 [az,x] G (ref (vs.length+1)) c→a)→a
theorem za{x:V}{b:Nat}{vs:List V}(W:dK b vs G)(d:vs.length<75)(c:b7 aa 10 x):H2 aa G x b vs:=by exact aI W λq l W=>aI (zb (aa:=aa) (x:=x) W (leB ‹_› rfl)) λa W' S=>(λ_ aj=>aj a (aM q l W') (cJ [x] rfl (al rfl) λw m=>by refine ac (dx.mp m) ?_;exact c) S)
noncomputable def lG(aa:aq→bJ)(bw:Array UInt8)(v:V)(b:Bool):Prop:=∀ (n:Nat) (G:List aQ) X (j:Bool→List aQ→Prop),j (!b) G→(et v=ah∧if(!(!isNone v))=af then j (!isNone v) G else
  C aa (n+1) 438 [v] G (λe a=>b3 aF e (.lit 12) (St a) λc=>if(!c)=af then j (!c) a else(bw.size≤2^20∧b3 aF v (.int (bw.size:Int)) (St a) λd=>j (!d) a)) X)
theorem Fv(bw:Array UInt8):lG aa bw .none af:=λn G X j h=>⟨rfl,h⟩
theorem Us{bw:Array UInt8}{i:Int}{b:Bool}(h:bw.size≤2^20)(e:(i==(bw.size:Int))=b):lG aa bw (.int i) b:=λn G X j q=>⟨rfl,wd i n _ _ (c2 (c:=af) (by kernel_rfl) (bu rfl ⟨h,eq_int e q⟩))⟩
theorem sW{bw:Array UInt8}{v:V}{k:Nat}(b:et v=ah)(ny:isNone v=ah)(a:∀ G,bK aa 1 438 [v] G (.lit k) G)(ne:(bR k==bR 12)=ah):lG aa bw v ah:=λn G X j q=>⟨b,bu (by refine ac ny ?_;rfl) (a G n _ _ (c2 ne (ci rfl q)))⟩
noncomputable def TB(aa:aq→bJ)(G:List aQ)(b:Nat)(vs:List V)(bw:Array UInt8):Prop:=∀ a:Prop,(∀ (v ok c),dK (b+1) vs c→b7 aa 1 v→ja v→lG aa bw v ok→((isNone v=af→ok=af))→bK aa 2 772 [.aB 1,.bytes bw] G (.ao [v,.bool ok]) c→a)→a
noncomputable def yS(bw:Array UInt8)(bM:List aQ)(r:Nat)(v:V)(ok:Bool):Prop:=∀ Q:el,Q (.ao [v,.bool ok]) bM→fT (.int (r:Nat)) (.int 2) λa=>if a=af then(Q (.ao [.int (bw.size:Int),.bool af]) bM) else(b3 aF (.int (r:Nat)) (.int 2) (St bM) λb=>if b=af then(Q (.ao [.none,.bool af]) bM) else(cc (.int (r:Nat)) λc=>cr (.ao [.int ((bw.size:Int)+1),.int ((bw.size:Int)-1),.bool af,.a3 321 [.int (bw.size:Int),.int 0],.list [.int (bw.size:Int)],.a3 356 [.lit 69],.int ((bw.size:Int)+65536)]) (.int (c-3)) (St bM) λd=>Q (.ao [d,.bool ah]) bM))
noncomputable def yR(aa:aq→bJ)(bw:Array UInt8)(bM:List aQ)(r:Nat):Prop:=∀ a:Prop,(∀ v ok,b7 aa 1 v→ja v→lG aa bw v ok→(isNone v=af→ok=af)→yS bw bM r v ok→a)→a
theorem pO{bM:List aQ}{bw:Array UInt8}{r:Nat}{i:Int}{ok:Bool}(a:bw.size≤2^20)(e:(i==(bw.size:Int))=ok)(h:yS bw bM r (.int i) ok):yR aa bw bM r:=(λ_ aj=>aj _ ok ((iX i).mono (di _)) (λS Q q=>⟨rfl,rfl,q⟩) (Us a e) nofun h)
theorem xj{n:Nat}{k:Int}(a:k≠0):((n:Int)+k==(n:Int))=ah:=by rw [beq_eq_false_iff_ne];lia
theorem Ut{bw:Array UInt8}{bM:List aQ}(a:bw.size≤2^20):∀ {r:Nat},r<10→yR aa bw bM r|0,_=>pO a (beq_self_eq_true _) λQ q=>q|1,_=>pO a (beq_self_eq_true _) λQ q=>q|2,_=>(λ_ aj=>aj .none af (xn.mono (di _)) (λS Q q=>⟨rfl,rfl,q⟩) (Fv bw) (λag=>rfl) (λQ q=>⟨al rfl,q⟩))|3,_=>pO a (xj (k:=1) (by decide)) λQ q=>⟨al rfl,bN rfl,q⟩|4,_=>pO (i:=(bw.size:Int)-1) a (xj (k:=-1) (by decide):((bw.size:Int)+-1==(bw.size:Int))=ah) λQ q=>⟨al rfl,bN rfl,q⟩|5,_=>(λ_ aj=>aj _ ah ((UG af).mono (di _)) (λS Q q=>⟨rfl,rfl,q⟩) (sW rfl rfl (λG=>Ct af) (by kernel_rfl)) nofun (λQ q=>⟨al rfl,bN rfl,q⟩))|6,_=>(λ_ aj=>aj _ ah ((UH bw.size 0).mono (di _)) (λS Q q=>⟨rfl,rfl,q⟩) (sW rfl rfl (λG=>Cu _) (by kernel_rfl)) nofun (λQ q=>⟨al rfl,bN rfl,q⟩))|7,_=>(λ_ aj=>aj _ ah (nP (l:=0) (xs:=[.int bw.size]) (λx m=>by refine ac (dx.mp m) ?_;exact iX _) (al rfl)) (λS Q q=>⟨rfl,rfl,q⟩) (sW rfl rfl (λG=>kd_list _) (by kernel_rfl)) nofun (λQ q=>⟨al rfl,bN rfl,q⟩))|8,_=>(λ_ aj=>aj _ ah ((pQ 69).mono (di _)) (λS Q q=>⟨rfl,rfl,q⟩) (sW rfl rfl (λG=>we _) (by kernel_rfl)) nofun (λQ q=>⟨al rfl,bN rfl,q⟩))|9,_=>pO a (xj (k:=65536) (by decide)) λQ q=>⟨al rfl,bN rfl,q⟩|_+10,h=>absurd h (gB.mpr (jJ _ _))
theorem TA{b:Nat}{vs:List V}{bw:Array UInt8}(W:dK b vs G)(ak:b<2^20)(f:bw.size≤1000):TB aa G b vs bw:=by
  refine(gk (aa:=aa) W (m:=10) (by decide) (by decide) ak) _ λr bM c e d=>?_;have a:bw.size≤2^20:=leB f rfl
  refine(Ut (aa:=aa) (bM:=bM) a c) _ λv ok t g z o run=>?_;exact(λ_ aj=>aj v ok bM e t g z o (λn Q X q=>SU ⟨a,d n _ _ ⟨hT (by decide),I8 _ n _ _ (m4 _ n _ _ (run Q q))⟩⟩))
theorem lt_int{a b:Int}{Q:Bool→Prop}{c:Bool}(e:decide (a<b)=c)(q:Q c):fT (.int a) (.int b) Q:=by subst e;exact q
theorem rC{n k:Nat}(h:k≤n):clipAt n (k:Int)=k:=by unfold clipAt;refine ac (if_neg (Int.not_lt.mpr (fK k))) (ac (Int.min_eq_left (xG.mpr h)) (ac (VD (fK k)) ?_));rfl
theorem vv{α:Type}{xs:List α}{k:Nat}(h:k≤xs.length):cut xs ae (U (k:Int))=xs.take k:=by show(xs.drop 0).take (clipAt xs.length k-0)=_;refine ac (rC h) ?_;rfl
theorem A5{α:Type}{xs:List α}{k:Nat}(h:k≤xs.length):cut xs (U (k:Int)) ae=xs.drop k:=by show(xs.drop (clipAt xs.length k)).take (xs.length-clipAt xs.length k)=_;exact ac (rC h) (ac (Wf (by simp)) rfl)
theorem NK{xs:List UInt8}{k:Nat}{x:UInt8}(h:k<xs.length)(ne:x≠xs.getD k 0):xs.take k++([x]++xs.drop (k+1))≠xs:=λe=>by
  obtain a:(xs.take k++([x]++xs.drop (k+1)))[k]?=U x:=by refine ac (xI (by simp;lia)) ?_;refine ac jI (ac (n1 (iu h)) ?_);rewrite [GE];rfl
  rw [e] at a;exact ne (by refine ac (xH) ?_;refine ac a ?_;rfl)
theorem U9:∀ d:Fin 256,0≤tk (d.val:Int) 1∧tk (d.val:Int) 1<256∧n8 (tk (d.val:Int) 1).toNat≠n8 d.val:=by decide +kernel
noncomputable def lw(aa:aq→bJ)(bw:Array UInt8)(v:V)(b:Bool):Prop:=∀ (n:Nat) (G:List aQ) X (j:Bool→List aQ→Prop),j (!b) G→(et v=ah∧if(!(!isNone v))=af then j (!isNone v) G else
  C aa (n+4) 438 [v] G (λg a=>b3 aF g (.lit 15) (St a) λd=>if(!d)=af then j (!d) a else(er 5 v λe=>C aa (n+4) 227 [.bytes bw] a (λh c=>b3 aF e h (St c) λf=>j (!f) c) X)) X)
theorem AQ(bw:Array UInt8):lw aa bw .none af:=λn G X j h=>⟨rfl,h⟩
theorem AP{bw:Array UInt8}{v:V}{k:Nat}(b:et v=ah)(ny:isNone v=ah)(a:∀ G,bK aa 1 438 [v] G (.lit k) G)(ne:(bR k==bR 15)=ah):lw aa bw v ah:=λn G X j q=>⟨b,bu (by rw [ny];rfl) (a G (n+3) _ _ (c2 ne (ci rfl q)))⟩
theorem eq_bytes{a b:Array UInt8}{S:aA}{Q:Bool→Prop}{c:Bool}(e:(a.toList==b.toList)=c)(q:Q c):b3 aF (.bytes a) (.bytes b) S Q:=by subst e;exact⟨di _,q⟩
structure qv(aa:aq→bJ)(bw D:Array UInt8):Prop where
  size:D.size=16
  run:∀ G,bK aa 4 227 [.bytes bw] G (.bytes D) G
theorem J0{bw D B:Array UInt8}{x:V}{b:Bool}(h:qv aa bw D)(e:(B.toList==D.toList)=b):lw aa bw (.a3 378 [.bytes B,x]) b:=λn G X j q=>⟨rfl,bu rfl (Cv _ (n+3) _ _ (c2 (c:=af) (by kernel_rfl) (bu rfl (at_of rfl (h.run G n _ _ (eq_bytes e q))))))⟩
noncomputable def He(aa:aq→bJ)(G:List aQ)(b:Nat)(vs:List V)(bw:Array UInt8)(sm:Bool):Prop:=∀ a:Prop,(∀ v ok c,dK (b+2) vs c→b7 aa 1 v→ja v→lw aa bw v ok→(isNone v=af→ok=af)→bK aa 5 779 [.aB 1,.bytes bw,.bool sm] G (.ao [v,.bool ok]) c→a)→a
noncomputable def Hm(aa:aq→bJ)(bM:List aQ)(r:Nat)(v:V)(ok:Bool):Prop:=∀ (n:Nat) (Q X:el),Q (.ao [v,.bool ok]) bM→fT (.int (r:Nat)) (.int 4) λd=>if d=af then(Q (.ao [.none,.bool af]) bM) else(C aa (n+4) 356 [.lit 71] bM (λe a=>cc (.int (r:Nat)) λb=>cr (.ao [.int 7,e]) (.int (b-4)) (St a) λc=>Q (.ao [c,.bool ah]) a) X)
noncomputable def Hl(aa:aq→bJ)(bw:Array UInt8)(bM:List aQ)(r:Nat):Prop:=∀ a:Prop,(∀ v ok,b7 aa 1 v→ja v→lw aa bw v ok→(isNone v=af→ok=af)→Hm aa bM r v ok→a)→a
theorem Qo{bw:Array UInt8}{bM:List aQ}{r:Nat}(h:r<6):Hl aa bw bM r:=by
  by_cases a:r<4
  · exact(λ_ aj=>aj .none af (xn.mono (di _)) (λS Q q=>⟨rfl,rfl,q⟩) (AQ bw) (λag=>rfl) (λn Q X q=>lt_int (c:=af) (decide_eq_true (ir.mpr a)) (ci rfl q)))
  by_cases b:r=4
  · exact ac b (λ_ aj=>aj (.int 7) ah ((iX _).mono (di _)) (λS Q q=>⟨rfl,rfl,q⟩) (AP rfl rfl (λG=>wd 7) (by kernel_rfl)) nofun (λn Q X q=>m4 _ (n+3) _ _ ⟨bN rfl,q⟩))
  · exact ac (show r=5 by lia) (λ_ aj=>aj (.a3 356 [.lit 71]) ah ((pQ _).mono (di _)) (λS Q q=>⟨rfl,rfl,q⟩) (AP rfl rfl (λG=>we _) (by kernel_rfl)) nofun (λn Q X q=>m4 _ (n+3) _ _ ⟨bN rfl,q⟩))
noncomputable def HC(aa:aq→bJ)(D:Array UInt8)(a:Nat)(bM:List aQ)(r:Nat)(v:V)(ok:Bool):Prop:=∀ (n:Nat) (Q X:el),Q (.ao [v,.bool ok]) bM→fT (.int (r:Nat)) (.int 3) λe=>if e=af then(b3 aF (.int (r:Nat)) (.int 1) (St bM) λf=>C aa (n+4) 378 [.bytes D,.bool f] bM (λj c=>Q (.ao [j,.bool af]) c) X) else(bc (λ(l:V)=>C aa (n+4) 378 [l,.bool af] bM (λk d=>Q (.ao [k,.bool ah]) d) X) λb=>b3 aF (.int (r:Nat)) (.int 3) (St bM) λg=>if g=af then(gu aF (.bytes D) ae (U (.int (a:Nat))) (St bM) λm=>b m) else(b3 aF (.int (r:Nat)) (.int 4) (St bM) λh=>if h=af then(c7 aF .Add (.bytes D) (.bytes #[48]) λo=>b o) else(gu aF (.bytes D) ae (U (.int (a:Nat))) (St bM) λp=>cr (.bytes D) (.int (a:Nat)) (St bM) λq=>cc q λi=>fB .BitXor i 1 λs=>jn (.list [.int s]) λt=>c7 aF .Add p t λu=>c7 aF .Add (.int (a:Nat)) (.int 1) λw=>gu aF (.bytes D) (U w) ae (St bM) λx=>c7 aF .Add u x λy=>b y)))
noncomputable def qF(aa:aq→bJ)(D:Array UInt8)(a:Nat)(bM:List aQ)(r:Nat):Prop:=∀ b:Prop,(∀ B x ok,B.size≤40→(B.toList==D.toList)=ok→HC aa D a bM r (.a3 378 [.bytes B,.bool x]) ok→b)→b
theorem Ui{D:Array UInt8}{a:Nat}{bM:List aQ}(f:D.size=16)(b:a<16):qF aa D a bM 3:=by
  have d:D.toList.length=16:=f;have e:cut D.toList ae (U (a:Int))=D.toList.take a:=vv (by refine ac d ?_;exact iu b);refine(λ_ aj=>aj ((cut D.toList ae (U (a:Int))).toArray) af ah ?_ ?_ (λn Q X q=>lt_int (c:=ah) rfl (bu rfl (bc.of (eq_int (c:=af) rfl (ci rfl ⟨by refine ac f ?_;decide,rp _ _ (n+3) _ _ q⟩))))))
  · exact ac e (ac gQ (ac jI (dt (tE _ _) (iM b rfl))))
  · refine ac e ?_;rewrite [beq_eq_false_iff_ne];intro e;have e:=congrArg mH e
    rw [jI,d,n1 (iu b)] at e;exact absurd e (lj b)
theorem Uk{D:Array UInt8}{a:Nat}{bM:List aQ}(b:D.size=16):qF aa D a bM 4:=by refine(λ_ aj=>aj (D++#[48]) af ah (by refine ac td ?_;refine ac b ?_;decide) ?_ (λn Q X q=>lt_int (c:=ah) rfl (bu rfl (bc.of (eq_int (c:=ah) rfl (bu rfl (eq_int (c:=af) rfl (ci rfl ⟨by refine ac b ?_;decide,rp _ _ (n+3) _ _ q⟩))))))));rw [beq_eq_false_iff_ne];intro e;obtain e:=congrArg mH e;rw [F1,gP] at e;exact absurd e (n2 (qg _))
theorem Uj{D:Array UInt8}{a:Nat}{bM:List aQ}(f:D.size=16)(b:a<16):qF aa D a bM 5:=by
  have d:D.toList.length=16:=f;have lo:cut D.toList ae (U (a:Int))=D.toList.take a:=vv (by refine ac d ?_;exact iu b);have au:cut D.toList (U ((a+1:Nat):Int)) ae=D.toList.drop (a+1):=A5 (by refine ac d ?_;exact b);have hd:(D.toList.getD a 0).toNat<256:=(D.toList.getD a 0).toNat_lt;refine cR (U9 ⟨_,hd⟩) λx0 x1 bI=>?_;dsimp only at x0 x1 bI;rw [UInt8.ofNat_toNat] at bI;have s1:(cut D.toList ae (U (a:Int))).toArray.size≤16:=by refine ac lo ?_;exact ac gQ (ac jI (dt (tE _ _) (iu b)))
  have s2:(cut D.toList (U ((a+1:Nat):Int)) ae).toArray.size≤16:=by refine ac au ?_;exact ac gQ (ac qb (ac d (GD _ _)))
  refine(λ_ aj=>aj ((cut D.toList ae (U (a:Int))).toArray++([tk ((D.toList.getD a 0).toNat:Int) 1].map λi=>n8 i.toNat).toArray++(cut D.toList (U ((a+1:Nat):Int)) ae).toArray) af ah ?_ ?_ (λn Q X q=>lt_int (c:=ah) rfl (bu rfl (bc.of (eq_int (c:=ah) rfl (bu rfl (eq_int (c:=ah) rfl (bu rfl ?_))))))))
  · exact ac td (ac td (dt (xN (tD s1 _) s2) (al rfl)))
  · refine ac lo (ac au ?_);rewrite [beq_eq_false_iff_ne];intro e;rw [F1,F1,eM] at e;exact NK (by refine ac d ?_;exact b) bI e
  have g:D.size≤2^20:=by refine ac f ?_;decide
  exact⟨g,fK _,by refine ac f ?_;exact ir.mpr b,g,(bk (λi au=>by refine ac (dx.mp au) ?_;exact⟨x0,x1⟩) (al rfl) ⟨dt (tD s1 _) (al rfl),g,dt (xN (by refine ac td ?_;exact tD s1 _) s2) (al rfl),rp _ _ (n+3) _ _ q⟩)⟩
theorem Ul{D:Array UInt8}{a:Nat}{bM:List aQ}{r:Nat}(b:D.size=16)(d:a<16)(h:r<6):qF aa D a bM r:=by
  by_cases e:r<3
  · exact(λ_ aj=>aj D ((r:Int)==1) af (by refine ac b ?_;decide) (beq_self_eq_true _) (λn Q X q=>lt_int (c:=af) (decide_eq_true (ir.mpr e)) (ci rfl (eq_int rfl (rp _ _ (n+3) _ _ q)))))
  by_cases f:r=3
  · exact ac f (Ui b d)
  by_cases g:r=4
  · exact ac g (Uk b)
  · exact ac (show r=5 by lia) (Uj b d)
theorem JX{b:Nat}{vs:List V}{bw D:Array UInt8}{sm:Bool}(W:dK b vs G)(ak:b+1<2^20)(d:qv aa bw D):He aa G b vs bw sm:=by
  refine(gk (aa:=aa) W (m:=6) (by decide) (by decide) (GB ak)) _ λr bM c g f=>?_;cases sm with
  | false=>
    refine(Qo (aa:=aa) (bw:=bw) (bM:=bM) c) _ λv ok t j z o run=>?_;exact(λ_ aj=>aj v ok bM (g.up (i4 _)) t j z o (λn Q X q=>E6 (f (n+3) _ _ (run n Q X q))))
  | true=>
    refine(gk (aa:=aa) g (m:=16) (by decide) (by decide) ak) _ λa eJ i aY aJ=>?_;refine(Ul (aa:=aa) (bM:=eJ) d.size i c) _ λB x ok h e run=>?_;exact(λ_ aj=>aj _ ok eJ aY ((pR B (.bool x) (leB h rfl)).mono (di _)) (λS Q q=>⟨rfl,rfl,q⟩) (J0 d e) nofun (λn Q X q=>E6 (f (n+3) _ _ (d.run _ n _ _ (aJ (n+3) _ _ ⟨rfl,run n Q X q⟩)))))
end
section
variable{aa:aq→bJ}{G:List aQ}
theorem bc.gen(h:∀ j:Bool→List aQ→Prop,(∀ b G,f b G→j b G)→g j):bc f g:=h f λag ag x=>x
noncomputable def kD(aa:aq→bJ)(vs:List V)(hd:List (Nat×V))(bw:Array UInt8)(w:Nat):Prop:=∀ ws G bx,ea G (vs++ws)→bK aa 5 706 [az,.a3 399 [.dict hd,.bytes bx],.bytes bw] G (.lit w) G
noncomputable def lD(x:V):Prop:=∀ S Q,Q ah→db aF x (.cC 3) S Q
theorem sV(e:(keyOf hd 67).getD .none=p)(F:cU vs d p a)(l:d<30)(h:lD a):kD aa vs hd bw 68:=λws G bx A n Q X q=>E5 (bk rfl rfl (js e F.mono A l (n+2) _ _ (h _ _ (ci rfl q))))
theorem Un(e:(keyOf hd 67).getD .none=p)(F:cU vs d p (.dict ps))(l:d<30)(c:cU vs d1 ((keyOf ps 69).getD .none) f)(l1:d1<30)(b:lG aa bw f b0)
    (cz:cU vs d2 ((keyOf ps 71).getD .none) aT) (bY:d2<30) (h2:lw aa bw aT cB):kD aa vs hd bw (if b0=af then if cB=af then 68 else 72 else 70):=λws G bx A n Q X q=>by
  refine E5 (bk rfl rfl (js e F.mono A l (n+2) _ _ ⟨al rfl,rfl,rfl,js rfl c.mono A l1 (n+2) _ _ (bc.gen λj a=>b (n+3) _ _ j (a _ _ ?_))⟩));cases b0 with
  | false=>exact q
  | true=>
    refine(bk rfl rfl (js rfl cz.mono A bY (n+2) _ _ (bc.gen λj a=>h2 n _ _ j (a _ _ ?_))));(try clear h2);(try clear b);cases cB <;>exact q
noncomputable def vc(o:Option V)(A:V→Prop)(B:Prop):Prop:=match o with | some y=>A y | none=>B
noncomputable def mU(aa:aq→bJ)(G:List aQ)(v:V)(a g:Int)(o:Option V)(bM:List aQ):Prop:=∀ (n:Nat) (A:V→List aQ→Prop) (B:List aQ→Prop) X,vc o (λy=>A y bM) (B bM)→(bc (λp b=>if p=af then(bc (λq f=>A q f) λe=>et v=ah∧if(isNone v)=af then(C aa (n+3) 427 [.int a,.int g] b (λk h=>e k (h)) X) else(C aa (n+3) 744 [.aB 1,az,v] b (λl i=>e l (i)) X)) else(B (b))) λd=>et v=ah∧if(!isNone v)=af then(d (!isNone v) (G)) else(C aa (n+3) 737 [.aB 1,.int 2] G (λm c=>b3 aF m (.int 0) (St c) λj=>d j (c)) X))
noncomputable def Hs(aa:aq→bJ)(G:List aQ)(b:Nat)(vs:List V)(v:V)(a g:Int)(P:V→Prop):Prop:=∀ d:Prop,(∀ c bM o f e,dK (b+2) c bM→dI aa 2 vs c→(∀ y,o=U y→b7 aa 1 y)→P f→e≤2→cU c e (o.getD .none) f→mU aa G v a g o bM→d)→d
theorem Di(W:dK b vs G)(ak:b+2<2^20)(u:vs.length<75)(d:b7 aa 1 v)(z:ja v)(p:P v)(s:isNone v=af→P .none)(st:∀ us,cU us 0 (.a3 427 [.int a,.int g]) .none):Hs aa G b vs v a g P:=by
  obtain j:b<2^20:=eB (eA _ _) ak;cases i:isNone v with
  | false=>
    refine(jA (aa:=aa) (x:=v) W u j (d.mono (by decide))) _ λt r bM o l S=>?_;refine aI (l.du 0 v (.base z)) λe le F=>(λ_ aj=>aj t bM (U r) v e (o.up (i4 _)) l.b4 (λy f=>?_) p le F ?_)
    · refine bG (aX f) ?_;refine aS l.val (λe=>?_) λC=>aI C λk e _=>?_ <;>refine ac e ?_
      · exact d
      · exact(jC _ _).mono (by decide)
    · unfold mU;exact ac i λn A B X h=>bc.of ⟨d.1,ci rfl (ci rfl (bc.of ⟨d.1,bu rfl (S n _ _ h)⟩))⟩
  | true=>
    refine(gk (aa:=aa) W (m:=2) (by decide) (by decide) j) _ λr bM w o S=>?_;have aY:=o.up (i4 _)
    rcases r with _ | _ | r
    · refine(λ_ aj=>aj vs bM (U (.a3 427 [.int a,.int g])) .none 0 aY (.refl vs) (λy f=>by refine bG (aX f) ?_;exact(jC _ _).mono (by decide)) (s i) (di _) (st vs) ?_);unfold mU;exact ac i λn A B X h=>bc.of ⟨d.1,bu rfl (S (n+2) _ _ (eq_int (c:=af) rfl (ci rfl (bc.of ⟨d.1,ci rfl (rq _ _ (n+2) _ _ h)⟩))))⟩
    · refine(λ_ aj=>aj vs bM ae .none 0 aY (.refl vs) (λy f=>nn f) (s i) (di _) (.base λS Q q=>⟨rfl,rfl,q⟩) ?_);unfold mU;exact ac i λn A B X h=>bc.of ⟨d.1,bu rfl (S (n+2) _ _ (eq_int (c:=ah) rfl (bu rfl h)))⟩
    · exact absurd w (gB.mpr (jJ _ _))
theorem bc.eq{β:Type}{f:β}{g:β→Prop}(h:∀ j,j=f→g j):bc f g:=h f rfl
theorem e3{l k:Nat}{v:V}(h:b7 aa l v):∀ p∈[(k,v)],b7 aa l p.2:=λp m=>by refine ac (dx.mp m) ?_;exact h
theorem hY{l k:Nat}{v:V}{es:List (Nat×V)}(h:b7 aa l v)(h2:∀ p∈es,b7 aa l p.2):∀ p∈(k,v) :: es,b7 aa l p.2:=λp m=>by
  rcases b9.mp m with rfl | m
  · exact h
  · exact h2 p m
noncomputable abbrev mj:V:=.a3 378 [.bytes #[68,58,50,48,50,54],.bool ah]
noncomputable def ka(o:Option V):List (Nat×V):=match o with|some y=>[(89,mj),(69,y)]|none=>[(89,mj)]
noncomputable def ml(o u:Option V):List (Nat×V):=match u with|some y=>putN (ka o) 71 y|none=>ka o
structure Hu(aa:aq→bJ)(vs:List V)(bw:Array UInt8)(p:V)(w:Nat):Prop where
  told:b7 aa 3 p
  word:w=68∨w=70∨w=72
  sw:∀ hd,(keyOf hd 67).getD .none=p→kD aa vs hd bw w
theorem Qa{j:List (Nat×V)→List aQ→Prop}(h:j (ka o) G):vc o (λy=>1≤2^10∧j [(89,mj),(69,y)] G) (j [(89,mj)] G):=by cases o with|none=>exact h|some y=>exact⟨al rfl,h⟩
theorem Qb{j:List (Nat×V)→List aQ→Prop}(h:j (ml o u) G):vc u (λy=>(ka o).length≤2^10∧j (putN (ka o) 71 y) G) (j (ka o) G):=by cases u with|none=>exact h|some y=>exact⟨by cases o <;>exact al rfl,h⟩
noncomputable def Hv(aa:aq→bJ)(o u:Option V):Prop:=∀ a:Prop,((keyOf (ml o u) 69).getD .none=o.getD .none→(keyOf (ml o u) 71).getD .none=u.getD .none→b7 aa 2 (.dict (ml o u))→a)→a
theorem RN{o u:Option V}(a:∀ y,o=U y→b7 aa 1 y)(b:∀ y,u=U y→b7 aa 1 y):Hv aa o u:=by
  have str:b7 aa 1 mj:=(pR _ _ (by decide)).mono (by decide);cases o with
  | none=>cases u with
    | none=>exact(λ_ aj=>aj rfl rfl (fi (e3 str) (al rfl)))
    | some z=>exact(λ_ aj=>aj rfl rfl (fi (hY str (e3 (b z rfl))) (al rfl)))
  | some y=>cases u with
    | none=>exact(λ_ aj=>aj rfl rfl (fi (hY str (e3 (a y rfl))) (al rfl)))
    | some z=>exact(λ_ aj=>aj rfl rfl (fi (hY str (hY (a y rfl) (e3 (b z rfl)))) (al rfl)))
noncomputable def Dw(a b:Bool):Nat:=if a=af then if b=af then 68 else 72 else 70
theorem RK{bw:Array UInt8}{sm a b:Bool}{d8 h aT p:V}{d e f g:List aQ}{o u:Option V}{n:Nat}{Q X:el}(i:mU aa d h 90 1 o e)(k:mU aa e aT 91 0 u f)(l:bK aa 3 744 [.aB 1,az,.dict (ml o u)] f p g)(q:Q (.ao [p,.lit (Dw a b)]) g):
    aZ (T aa (n+6)) aN um ⟨[ab (.aB 1),ab az,ab (.bytes bw),ab (.bool sm),ab d8,ab h,ab (.bool a),ab aT,ab (.bool b),ae],[],d,[]⟩ (a9 Q) (bf X):=by
  refine Rn (vj _ (n+5) _ _ (c5 rfl rfl (al rfl) (bc.eq λj c=>i (n+3) (λy G=>1≤2^10∧j [(89,mj),(69,y)] G) (λG=>j [(89,mj)] G) X (Qa ?_))));refine ac c (bc.eq λj c=>k (n+3) (λy G=>(ka o).length≤2^10∧j (putN (ka o) 71 y) G) (λG=>j (ka o) G) X (Qb ?_));exact ac c (l (n+3) _ _ (by(try clear c);(try clear c);cases a <;>cases b <;>exact bc.of q))
noncomputable def RM(aa:aq→bJ)(G:List aQ)(b:Nat)(vs:List V)(bw:Array UInt8)(sm:Bool):Prop:=∀ a:Prop,(∀ (cL p w c),dK (b+10) cL c→dI aa 6 vs cL→Hu aa cL bw p w→bK aa 7 786 [.aB 1,az,.bytes bw,.bool sm] G (.ao [p,.lit w]) c→a)→a
theorem RL(W:dK b vs G)(ak:b+20<2^20)(cs:vs.length+6<75)(Z:bw.size≤1000)(Y:qv aa bw D):RM aa G b vs bw sm:=by
  refine(gk (aa:=aa) W (m:=7) (by decide) (by decide) (eB (eA _ _) ‹_›)) _ λr bM bm l j=>?_;rcases r with _ | _ | r
  · exact(λ_ aj=>aj vs .none 68 bM (l.up (by lia)) (.refl vs) ⟨xn.mono (by decide),.inl rfl,λhd e=>sV e (.base λS Q q=>⟨rfl,rfl,q⟩) (by decide) λS Q q=>⟨al rfl,q⟩⟩ (λn Q X q=>xb (j (n+5) _ _ (eq_int (c:=af) (by decide) (ci rfl q)))))
  · refine(gk (aa:=aa) l (m:=3) (by decide) (by decide) (ew ‹_› rfl)) _ λs eJ bs aY aJ=>?_;obtain run:∀ v,(∀ P:V→Prop,P v→cr (.list [.int 5,.a3 427 [.int 90,.int 1],.a3 356 [.lit 88]]) (.int (s:Nat)) (St eJ) P)→bK aa 7 786 [.aB 1,az,.bytes bw,.bool sm] G (.ao [v,.lit 68]) eJ:=λv h n Q X q=>xb (j (n+5) _ _ (eq_int (c:=ah) (by decide) (bu rfl (eq_int (c:=af) (by decide) (ci rfl (rq _ _ (n+5) _ _ (m4 _ (n+5) _ _ (aJ (n+5) _ _ (h _ q)))))))));rcases s with _ | _ | _ | s
    · exact(λ_ aj=>aj vs (.int 5) 68 eJ (aY.up (by lia)) (.refl vs) ⟨(iX 5).mono (by decide),.inl rfl,λhd e=>sV e (.base λS Q q=>⟨rfl,rfl,q⟩) (by decide) λS Q q=>⟨al rfl,q⟩⟩ (run _ λP h=>⟨bN rfl,h⟩))
    · exact(λ_ aj=>aj vs (.a3 427 [.int 90,.int 1]) 68 eJ (aY.up (by lia)) (.refl vs) ⟨(jC 90 1).mono (by decide),.inl rfl,λhd e=>sV e .nK (by decide) λS Q q=>⟨al rfl,q⟩⟩ (run _ λP h=>⟨bN rfl,h⟩))
    · exact(λ_ aj=>aj vs (.a3 356 [.lit 88]) 68 eJ (aY.up (by lia)) (.refl vs) ⟨(pQ 88).mono (by decide),.inl rfl,λhd e=>sV e (.base λS Q q=>⟨rfl,rfl,q⟩) (by decide) λS Q q=>⟨al rfl,rfl,q⟩⟩ (run _ λP h=>⟨bN rfl,h⟩))
    · lia
  · refine(TA (aa:=aa) (bw:=bw) l (ew ‹_› rfl) Z) _ λds f eJ aY t2 w fe cg aJ=>?_;refine(JX (aa:=aa) (bw:=bw) (sm:=sm) aY (by lia) Y) _ λaT i cd N t3 y hL d6 t=>?_;refine(Di (aa:=aa) (a:=90) (g:=1) (P:=λv=>lG aa bw v f) N (by lia) (eB (eA _ _) ‹_›) t2 w fe (λh=>cg h▸Fv bw) λus=>.nK) _ λv4 ce z d1 cm O cF as am pc C I=>?_;refine(Di (aa:=aa) (a:=91) (g:=0) (P:=λv=>lw aa bw v i) O (by lia) (by have:=cF.len;lia) t3 y hL (λh=>d6 h▸AQ bw) λus=>.sP) _ λcf cl A d2 cn R o a1 ap u E L=>?_;refine(RN as a1) _ λbX cw B=>?_;obtain wl:=o.len;obtain ca:=cF.len;refine(jA (aa:=aa) (x:=.dict (ml z A)) R (by lia) (by lia) (B.mono (by decide))) _ λv6 p H T d M=>?_;refine aI (d.du 0 (.dict (ml z A)) (.base λS Q q=>⟨rfl,rfl,q⟩)) λco e9 F=>(λ_ aj=>aj v6 p (Dw f i) H (T.up (by lia)) ((cF.trans o (eg 4)).trans d.b4 (eg 6)) ⟨?_,by(try clear d6);(try clear hL);(try clear cg);(try clear fe);(try clear t);(try clear aJ);cases f <;>cases i <;>first | exact .inl rfl | exact .inr (.inl rfl) | exact .inr (.inr rfl),λhd e=>Un e F (dE e9 rfl) (d.b4.du (o.du (by refine ac bX ?_;exact C))) (dE pc rfl) am (d.b4.du (by refine ac cw ?_;exact E)) (dE u rfl) ap⟩ (λn Q X q=>xb (j (n+5) _ _ (eq_int (c:=ah) (beq_false_of_ne (by lia)) (bu rfl (eq_int (c:=ah) (beq_false_of_ne (by lia)) (bu rfl (aJ (n+4) _ _ ⟨rfl,Rm (t (n+1) _ _ ⟨rfl,RK I L M q⟩)⟩))))))));refine aS d.val (λe=>?_) λa2=>aI a2 λk e _=>?_ <;>refine ac e ?_
    · exact B.mono (by decide)
    · exact(jC _ _).mono (by decide)
end
theorem Ka{f:Nat→V→aA→(Option V→aA→Prop)→Prop}{I:Nat→List aQ→Prop}{P:V→Prop}:∀ {items:List V},(∀ x∈items,∀ i G,i<m→I i G→∃ y a,P y∧I (i+1) a∧∀ n aT k,(∀ aT,k (U y) ⟨vs,l,a,aT⟩)→f n x ⟨vs,l,G,aT⟩ k)→∀ {i G},i+items.length≤m→I i G→∃ ys a,I (i+items.length) a∧ys.length=items.length∧(∀ y∈ys,P y)∧∀ n acc Q aT,(∀ aT,Q (acc++ys) ⟨vs,l,a,aT⟩)→dB (f n) items ⟨vs,l,G,aT⟩ acc Q:=by
  intro items
  induction items with
  | nil=>
    intro h i G b au;exact(jh [] G au rfl (λag m=>((absurd m c4))) λn acc Q aT q=>by have:=q aT;rwa [fL] at this)
  | cons x r g=>
    intro h i G b au;have c:i+1+r.length≤m:=by obtain b:=gg▸b;lia
    refine dn (h x (.head _) i G (dt (eA _ _) ‹_›) au) λy bM p c8 s1=>jf (g (λx d=>h x (.tail _ d)) c c8) λys eJ e j ps s2=>(jh (y :: ys) eJ (by refine ac gg ?_;rewrite [tC r.length,← Gz];exact e) (congrArg (·+1) j) (λz hz=>?_) λn acc Q aT q=>s1 n _ _ λaT=>s2 n _ _ _ λaT=>by rw [eM];exact q aT);clear s1;refine aS (b9.mp hz) (λo=>?_) λhz=>?_
    · obtain rfl:=o;exact p
    · exact ps z hz
theorem EJ(h:t∈(dw a b 1).map V.int):∃ i,t=.int i∧a≤i:=by refine aI (fw.mp h) λi m d=>?_;obtain rfl:=d;refine aI (fw.mp m) λk _ c=>?_;clear m h;obtain rfl:=c;exact(aM _ rfl (by lia))
theorem EK(k:Nat):jF 0 (k:Int) 1=k:=by unfold jF;refine ac (if_pos (by decide)) ?_;rewrite [Int.ediv_one];split <;>lia
theorem mq(k:Nat):((dw 0 (k:Int) 1).map V.int).length=k:=by unfold dw;rewrite [fn,fn];refine ac List.length_range ?_;rewrite [EK];rfl
section
variable{aa:aq→bJ}{G:List aQ}
noncomputable abbrev iU(bx:Array UInt8):Array UInt8:=bx.toList.reverse.toArray++#[43]
class inductive Due(aa:aq→bJ)(vs:List V)(hd:List (Nat×V))(bx:Array UInt8):V→Prop|low:bx.size≠0→(bx.toList.getD 0 0).toNat<9→Due aa vs hd bx (.int ((bx.toList.getD 0 0).toNat:Nat))|word {w:Nat}:(bx.size=0∨9≤(bx.toList.getD 0 0).toNat)→kD aa vs hd (iU bx) w→w=70∨w=72→Due aa vs hd bx (.lit w)|right:(bx.size=0∨9≤(bx.toList.getD 0 0).toNat)→kD aa vs hd (iU bx) 68→Due aa vs hd bx (.bytes (iU bx))
theorem kD.b4(h:kD aa a hd bw w)(g:dI aa j a b):kD aa b hd bw w:=by refine c0 g λws c _ _=>?_;clear g;obtain rfl:=c;exact λus G bx A=>h (ws++us) G bx (by rw [← eM];exact A)
theorem Due.b4(h:Due aa a hd bx v)(g:dI aa j a b):Due aa b hd bx v:=by cases h with|low c h2=>exact .low c h2|word c h2 d=>exact .word c (h2.b4 g) d|right c h2=>exact .right c (h2.b4 g)
noncomputable abbrev C9(sm:Bool)(y3:Nat)(G:List aQ)(aT:List (Option V)):aA:=⟨[ab (.aB 1),ab az,ab (.bool sm),ab (.int (y3:Nat)),ae,ae,ae,ae,ae,ae],[],G,aT⟩
noncomputable def Hp(aa:aq→bJ)(G:List aQ)(k:Nat)(sm:Bool)(y3:Nat)(os:Array UInt8)(a:List aQ):Prop:=∀ n Q,(∀ ys aT,(∀ P:V→Prop,P (.bytes os)→jn (.list ys) P)→Q ys (C9 sm y3 a aT))→dB (cD (T aa (n+1)) ae qy ae) ((dw 0 (k:Int) 1).map V.int) (C9 sm y3 G []) [] Q
noncomputable def Qz(aa:aq→bJ)(G:List aQ)(b:Nat)(k:Nat)(vs:List V)(sm:Bool)(y3:Nat):Prop:=∀ a:Prop,(∀ (os c),dK (b+k) vs c→os.size=k→Hp aa G k sm y3 os c→a)→a
theorem Qy{b k:Nat}{vs:List V}{sm:Bool}(W:dK b vs G)(ak:b+k<2^20):Qz aa G b k vs sm y3:=by
  refine jf (Ka (f:=λn=>cD (T aa (n+1)) ae qy ae) (vs:=[ab (.aB 1),ab az,ab (.bool sm),ab (.int (y3:Nat)),ae,ae,ae,ae,ae,ae]) (l:=[])
    (I:=λi G=>dK (b+i) vs G) (P:=λy=>∃ i:Nat,y=.int i∧i<256) (m:=k) (items:=(dw 0 (k:Int) 1).map V.int) (λx B i G au W=>by
      obtain⟨t,rfl,_⟩:=EJ B;cases s:decide (0<t) || decide (0<(y3:Int)) with
      | true=>
        refine(gk (aa:=aa) W (m:=247) (by decide) (by decide) (by lia)) _ λr bM A o d=>?_;refine(dL (.int ((9+r:Nat):Int)) bM (aM _ rfl (qd ‹_› _)) o λn aT k g=>hs _ _ _ (Dn (bc.of (bc.of ?_))));obtain go:∀ P:Prop,P→P:=λag p=>p;cases a:decide (0<t) with
        | true=>exact ci (c:=decide (0<t)) a (ci (c:=decide (0<t)) a (d n _ _ (g _)))
        | false=>
          rw [a,Vk] at s;exact bu (c:=decide (0<t)) a (ci (c:=decide (0<(y3:Int))) s (d n _ _ (g _)))
      | false=>
        obtain⟨a,h2⟩:=Vl.mp s;refine(gk (aa:=aa) W (m:=9) (by decide) (by decide) (by lia)) _ ?_;intro r bM A o d;exact(dL (.int (r:Nat)) bM (aM _ rfl (leB ‹_› rfl)) o λn aT k g=>hs _ _ _ (Dn (bc.of (bc.of (bu (c:=decide (0<t)) a (bu (c:=decide (0<(y3:Int))) h2 (d n _ _ (g _))))))))) (i:=0) (G:=G) (by rw [mq];lia) W) λys z W' v ps S=>?_
  rw [mq,mN] at W';rw [mq] at v;obtain⟨is,e,au⟩:∃ is:List Int,allInts ys=U is∧(∀ i∈is,0≤i∧i<256)∧is.length=ys.length:=by
    clear S v
    induction ys with
    | nil=>exact(cJ [] rfl (by decide) rfl)
    | cons y r D=>
      refine c0 (D λy C=>ps y (.tail _ C)) λis e h l=>aI (ps y (.head _)) λi w au=>?_;obtain rfl:=w;refine(cJ (i :: is) (by show lZ (U _) (allInts r)=_;refine ac e ?_;rfl) (λj u=>?_) (congrArg (·+1) l));refine aS (b9.mp u) (λE=>?_) λu=>?_
      · obtain rfl:=E;lia
      · exact h j u
  refine(λ_ aj=>aj ((is.map λi=>n8 i.toNat).toArray) z W' (by simp;lia) (λn Q q=>S n [] Q [] λaT=>q _ aT λP p=>?_));rw [mK];exact cu e (bk au.1 (by lia) p)
noncomputable def oj(aa:aq→bJ):Prop:=∀ bw:Array UInt8,bw.size≤55→∃ D,qv aa bw D
structure yP(aa:aq→bJ)(vs:List V)(p:V)(cO:V):Prop where
  isRef:∃ k,p=ref k
  out:∃ hd bx e,e≤3∧bx.size≤5∧cU vs e p (.a3 399 [.dict hd,.bytes bx])∧Due aa vs hd bx cO
noncomputable def gY(z:Int)(p:V):List (Nat×V):=if isNone p=af then [(90,.int z)] else [(90,.int z),(67,p)]
theorem Ob(z)(p):(keyOf (gY z p) 67).getD .none=p:=by
  unfold gY;split
  · rename_i h;cases p <;>first | rfl | exact cb h
  · rfl
noncomputable def yO(aa:aq→bJ)(G:List aQ)(b:Nat)(vs:List V)(sm:Bool):Prop:=∀ a:Prop,(∀ cL r cO c,dK (b+20) cL c→dI aa 9 vs cL→yP aa cL r cO→bK aa 9 791 [.aB 1,az,.bool sm] G (.ao [r,cO]) c→a)→a
theorem Ud(W:dK b vs G)(ak:b+40<2^20)(cl:vs.length+9<75)(ap:oj aa):yO aa G b vs sm:=by
  refine(gk (aa:=aa) W (m:=3) (by decide) (by decide) (eB (eA _ _) ‹_›)) _ λy3 bM cn R M=>?_;refine(gk (aa:=aa) R (m:=5) (by decide) (by decide) (ew ‹_› rfl)) _ λk eJ ce aY aJ=>?_;refine(Qy (aa:=aa) (sm:=sm) (k:=k) (y3:=y3) aY (by lia)) _ λbx bs T cm N=>?_;have a1:(iU bx).size≤5:=by simp [iU];lia
  refine aG (ap (iU bx) (leB ‹_› rfl)) λD F=>(RL (aa:=aa) (sm:=sm) (bw:=iU bx) T (by lia) (ew ‹_› rfl) (leB ‹_› rfl) F) _ λv4 p w ca V cF f u=>?_;obtain a2:b7 aa 4 (.dict (gY bx.size p)):=by
    refine fi ?_ ?_
    · unfold gY;split
      · exact e3 ((iX _).mono (di _))
      · exact hY ((iX _).mono (di _)) (e3 f.told)
    · unfold gY;split <;>exact al rfl
  obtain pc:=cF.len;refine(za (aa:=aa) (x:=.a3 399 [.dict (gY bx.size p),.bytes bx]) V (by lia) ((FE a2 (by lia)).mono (by decide))) _ λcd Y E O=>?_;refine(jA (aa:=aa) (x:=ref (v4.length+1)) Y (by have:=E.len;lia) (by lia) ((jC _ _).mono (di _))) _ λv6 r a Z t P=>?_;refine aI (t.du 1 _ (.step (k:=v4.length) (y:=.a3 399 [.dict (gY bx.size p),.bytes bx]) Gp (.base λS Q q=>⟨rfl,rfl,q⟩))) λam e9 L=>?_;have s:dI aa 3 v4 v6:=E.trans t.b4 (eg 3)
  obtain I:∃ k,r=ref k:=by
    refine aS t.val (λe=>?_) λbm=>aI bm λk e _=>?_
    · exact⟨_,e⟩
    · exact⟨_,e⟩
  have g:=(f.sw (gY bx.size p) (Ob _ _)).b4 s;have fin:∀ cO,Due aa v6 (gY bx.size p) bx cO→(∀ n (Q:el) (X:el),Q (.ao [r,cO]) a→(bc (λC=>if C=af then((0:Int)≤0∧0<(bx.size:Int)∧bx.size≤2^20∧Q (.ao [r,.int ((bx.toList.getD (hi 0) 0).toNat:Int)]) a) else(b3 aF (.lit w) (.lit 68) (St a) λd=>if d=af then(Q (.ao [r,.bytes (iU bx)]) a) else(Q (.ao [r,.lit w]) a))) λl=>b3 aF (.bytes bx) (.bytes #[]) (St a) λi=>if(!(!i))=af then(l (!i)) else((0:Int)≤0∧0<(bx.size:Int)∧bx.size≤2^20∧l (decide (((bx.toList.getD (hi 0) 0).toNat:Int)<9)))))→yO aa G b vs sm:=λcO A h=>by
    refine(λ_ aj=>aj v6 r cO a (Z.up (by lia)) (cF.trans s (eg 9)) ⟨I,_,bx,am,by assumption,by lia,L,A⟩ (λn Q X q=>SV (M (n+7) _ _ (aJ (n+7) _ _ ⟨by exact fK _,by lia,by rw [mq];exact iM ‹_› rfl,N (n+7) _ λys aT H=>(H _ (Ro ⟨by lia,?_,u (n+1) _ _ ⟨rfl,Rp ⟨by lia,rfl,rfl,al rfl,bc.eq λj as=>?_⟩⟩⟩))⟩))))
    · have:=a1;simp [iU] at this ⊢;exact leB ‹_› rfl
    · have key:j (gY bx.size p):=by subst as;exact⟨rfl,AE _ _ (n+7) _ _ ⟨rfl,O (n+6) _ _ (P (n+5) _ _ (h n Q X q))⟩⟩
      refine⟨f.told.1,?_⟩;unfold gY at key;clear f u;cases bt:isNone p with|true=>rw [bt,if_pos rfl] at key;exact key|false=>rw [bt,if_neg (by decide)] at key;exact⟨al rfl,key⟩
  have other:(bx.size=0∨9≤(bx.toList.getD 0 0).toNat)→∃ cO,Due aa v6 (gY bx.size p) bx cO∧∀ (Q:el),Q (.ao [r,cO]) a→(b3 aF (.lit w) (.lit 68) (St a) λd=>if d=af then(Q (.ao [r,.bytes (iU bx)]) a) else(Q (.ao [r,.lit w]) a)):=λB=>by
    clear u fin;rcases f.word with rfl | rfl | rfl
    · exact(aM _ (.right B g) λQ q=>c2 (c:=af) (by kernel_rfl) (ci rfl q))
    · exact(aM _ (.word B g (.inl rfl)) λQ q=>c2 (c:=ah) (by kernel_rfl) (bu rfl q))
    · exact(aM _ (.word B g (.inr rfl)) λQ q=>c2 (c:=ah) (by kernel_rfl) (bu rfl q))
  by_cases o:bx.size=0
  · refine aI (other (.inl o)) λcO hd h=>?_;have e:(bx.toList==(#[]:Array UInt8).toList)=af:=by refine ac (F0 o) ?_;rfl
    exact fin cO hd λn Q X q=>bc.of (eq_bytes e (ci rfl (bu rfl (h Q q))))
  · have e:(bx.toList==(#[]:Array UInt8).toList)=ah:=by rw [beq_eq_false_iff_ne];intro z;exact o (congrArg mH z)
    have hb:(0:Int)<(bx.size:Int):=by lia
    have ey:bx.size≤2^20:=by lia
    by_cases v:(bx.toList.getD 0 0).toNat<9
    · exact fin _ (.low o v) λn Q X q=>bc.of (eq_bytes e (bu rfl (c5 (p7 0) hb ey (ci (c:=decide _) (decide_eq_true (ir.mpr v)) (c5 (p7 0) hb ey q)))))
    · exact aI (other (.inr (gB.mp ‹_›))) λcO hd h=>fin cO hd λn Q X q=>bc.of (eq_bytes e (bu rfl (c5 (p7 0) hb ey (bu (c:=decide _) (decide_eq_false λz=>v (ir.mp z)) (h Q q)))))
end
section
variable{aa:aq→bJ}{G:List aQ}
noncomputable def qD(x:V):Prop:=∀ S Q,Q ah→db aF x (.a6 399) S Q
noncomputable def kG(aa:aq→bJ)(vs:List V)(es:List (Nat×V))(r:V):Prop:=∀ ws G,ea G (vs++ws)→bK aa 4 699 [az,.dict es] G r G
theorem kG.b4(h:kG aa a es r)(g:dI aa j a b):kG aa b es r:=by refine c0 g λws c _ _=>?_;clear g;obtain rfl:=c;exact λus G A=>h (ws++us) G (by rw [← eM];exact A)
theorem Fi(F:cU vs d ((keyOf es 64).getD .none) v)(l:d<30)(h:lD v):kG aa vs es .none:=λws G A n Q X q=>E4 (bk rfl rfl (js rfl F.mono A l (n+1) _ _ (h _ _ (ci rfl q))))
theorem k4(F:cU vs d ((keyOf es 64).getD .none) (.dict fs))(l:d<30)(b:cU vs d1 ((keyOf fs 65).getD .none) v1)(l1:d1<30)
    (bY:d2<30) (h:(∃ a,v1=.a3 399 a∧r=v1)∨(qD v1∧cU vs d2 ((keyOf fs 66).getD .none) v2∧((∃ a,v2=.a3 399 a∧r=v2)∨(qD v2∧r=.none)))):kG aa vs es r:=λws G A n Q X q=>by
  refine E4 (bk rfl rfl (js rfl F.mono A l (n+1) _ _ ⟨al rfl,al rfl,?_⟩));refine Ds (bk rfl rfl (js rfl b.mono A l1 (n+1) _ _ ?_));rcases h with⟨a,rfl,rfl⟩ | ⟨c,h⟩
  · exact⟨rfl,rfl,q⟩
  · obtain⟨cz,h⟩:=h;refine c _ _ (bu rfl (Ds (bk rfl rfl (js rfl cz.mono A bY (n+1) _ _ ?_))));rcases h with⟨a,rfl,rfl⟩ | ⟨h2,rfl⟩
    · exact⟨rfl,rfl,q⟩
    · exact h2 _ _ (bu rfl (Ri (aa:=aa) (n:=n+3) (X:=X) q))
structure qE(v eE:V):Prop where
  du:∀ us,cU us 0 v eE
  ns:qD eE
  bT:lD eE∨eE=.dict [(90,.int 0)]
noncomputable def Qr(aa:aq→bJ)(G:List aQ)(b:Nat)(vs:List V):Prop:=∀ a:Prop,(∀ (v eE c),dK (b+1) vs c→b7 aa 1 v→qE v eE→bK aa 2 798 [.aB 1] G v c→a)→a
noncomputable def Hn(bM:List aQ)(r:Nat)(v:V):Prop:=∀ P:V→Prop,P v→cr (.ao [.int 7,.a3 427 [.int 90,.int 1],.dict [(90,.int 0)],.a3 378 [.bytes #[115,116,114,101,97,109],.bool ah]]) (.int (r:Nat)) (St bM) P
noncomputable def Ho(aa:aq→bJ)(bM:List aQ)(r:Nat):Prop:=∀ a:Prop,(∀ v eE,b7 aa 1 v→qE v eE→Hn bM r v→a)→a
theorem Qq:∀ {r:Nat},r<4→Ho aa bM r|0,_=>(λ_ aj=>aj _ (.int 7) ((iX _).mono (di _)) ⟨λus=>.base λS Q q=>⟨rfl,rfl,q⟩,λS Q q=>⟨rfl,rfl,q⟩,.inl λS Q q=>⟨al rfl,q⟩⟩ (λP h=>⟨bN rfl,h⟩))|1,_=>(λ_ aj=>aj _ .none ((jC _ _).mono (di _)) ⟨λus=>.nK,λS Q q=>⟨rfl,rfl,q⟩,.inl λS Q q=>⟨al rfl,q⟩⟩ (λP h=>⟨bN rfl,h⟩))|2,_=>(λ_ aj=>aj _ (.dict [(90,.int 0)]) (fi (l:=0) (e3 (iX _)) (al rfl)) ⟨λus=>.base λS Q q=>⟨rfl,rfl,q⟩,λS Q q=>⟨rfl,rfl,q⟩,.inr rfl⟩ (λP h=>⟨bN rfl,h⟩))|3,_=>(λ_ aj=>aj _ _ ((pR _ _ (by decide)).mono (di _)) ⟨λus=>.base λS Q q=>⟨rfl,rfl,q⟩,λS Q q=>⟨rfl,rfl,q⟩,.inl λS Q q=>⟨al rfl,rfl,q⟩⟩ (λP h=>⟨bN rfl,h⟩))|_+4,h=>absurd h (gB.mpr (jJ _ _))
theorem wI(W:dK b vs G)(ak:b+2<2^20):Qr aa G b vs:=by refine(gk (aa:=aa) W (m:=4) (by decide) (by decide) (eB (eA _ _) ak)) _ λr bM d c a=>?_;refine(Qq (aa:=aa) (bM:=bM) d) _ λv eE t N run=>?_;exact(λ_ aj=>aj v eE bM c t N (λn Q X q=>SW (rq _ _ n _ _ (c5 rfl rfl (al rfl) (vj _ n _ _ (a n _ _ (run _ q)))))))
class inductive jN(aa:aq→bJ)(vs:List V):V→V→Prop|bad {v:V}:lD v→jN aa vs v (.lit 74)|none {es:List (Nat×V)}:kG aa vs es .none→jN aa vs (.dict es) (.lit 75)|some {es hd:List (Nat×V)} {bx:Array UInt8} {cO:V}:kG aa vs es (.a3 399 [.dict hd,.bytes bx])→bx.size≤5→Due aa vs hd bx cO→jN aa vs (.dict es) cO
theorem jN.b4(h:jN aa a v cO)(g:dI aa j a b):jN aa b v cO:=by cases h with|bad h=>exact .bad h|none h=>exact .none (h.b4 g)|some h l d=>exact .some (h.b4 g) l (d.b4 g)
structure kz(aa:aq→bJ)(vs:List V)(p cO:V):Prop where
  told:b7 aa 4 p
  out:∃ e v,e≤10∧cU vs e p v∧jN aa vs v cO
theorem kz.b4(h:kz aa a p cO)(g:dI aa j a b):kz aa b p cO:=by obtain⟨t,e,v,l,F,d⟩:=h;exact⟨t,e,v,l,g.du F,d.b4 g⟩
theorem mn(P:yG aa vs cL x r)(h:b7 aa l x):b7 aa l r:=by
  rcases P.val with rfl | ⟨k,rfl,_⟩
  · exact h
  · exact(jC _ _).mono (di _)
noncomputable abbrev NP(p o q u:V):List V:=[.dict [(65,p)],.dict [(65,o),(66,p)],.dict [(66,p)],.dict [(65,p),(66,q)],.dict [(66,o),(65,p)],.dict [(92,q),(66,p)],.dict [(65,o),(66,u)]]
noncomputable def NO(aa:aq→bJ)(vs:List V)(p:V)(o:V)(q:V)(u:V)(cO:V)(r:Nat):Prop:=∀ a:Prop,(∀ (fs d2),b7 aa 2 (.dict fs)→((∀ S P,P (.dict fs)→cr (.ao (NP p o q u)) (.int (r:Nat)) S P))→(((((r:Nat):Int)==6)=af→d2=.lit 75))→(((((r:Nat):Int)==6)=ah→d2=cO))→(∀ ws es d,dI aa 20 vs ws→cU ws d ((keyOf es 64).getD .none) (.dict fs)→d<30→jN aa ws (.dict es) d2)→a)→a
theorem NN{vs:List V}{p o q u n s cO x:V}{r:Nat}(bt:yP aa vs p cO)(c:qE o n)(j:qE u s)(b:b7 aa 1 p)(i:b7 aa 1 o)(m:b7 aa 1 q)(t:b7 aa 1 u)(v:r<7):NO aa vs p o q u cO r:=by
  obtain⟨_,hd,bx,e,le,ls,F,D⟩:=bt;obtain nm:∀ us,cU us 0 .none .none:=λus=>.base λS Q q=>⟨rfl,rfl,q⟩
  have f:qD .none:=λS Q q=>⟨rfl,rfl,q⟩
  obtain t1:∀ k,∀ z∈[(k,p)],b7 aa 1 z.2:=λk=>e3 b;rcases r with _ | _ | _ | _ | _ | _ | _ | r
  · exact(λ_ aj=>aj _ cO (fi (e3 b) (al rfl)) (λS P h=>⟨bN rfl,h⟩) (λh=>absurd h (by decide)) (λag=>rfl) (λws es d g a l=>.some (k4 (d2:=0) (v2:=.none) a l (g.du F) (dE ‹_› rfl) (al rfl) (.inl (aM _ rfl rfl))) ls (D.b4 g)))
  · exact(λ_ aj=>aj _ cO (fi (hY i (e3 b)) (al rfl)) (λS P h=>⟨bN rfl,h⟩) (λh=>absurd h (by decide)) (λag=>rfl) (λws es d g a l=>.some (k4 a l (c.du ws) (al rfl) (eB le (by decide)) (.inr (bk c.ns (g.du F) (.inl (aM _ rfl rfl))))) ls (D.b4 g)))
  · exact(λ_ aj=>aj _ cO (fi (e3 b) (al rfl)) (λS P h=>⟨bN rfl,h⟩) (λh=>absurd h (by decide)) (λag=>rfl) (λws es d g a l=>.some (k4 a l (nm ws) (al rfl) (eB le (by decide)) (.inr (bk f (g.du F) (.inl (aM _ rfl rfl))))) ls (D.b4 g)))
  · exact(λ_ aj=>aj _ cO (fi (hY b (e3 m)) (al rfl)) (λS P h=>⟨bN rfl,h⟩) (λh=>absurd h (by decide)) (λag=>rfl) (λws es d g a l=>.some (k4 (d2:=0) (v2:=.none) a l (g.du F) (dE ‹_› rfl) (al rfl) (.inl (aM _ rfl rfl))) ls (D.b4 g)))
  · exact(λ_ aj=>aj _ cO (fi (hY i (e3 b)) (al rfl)) (λS P h=>⟨bN rfl,h⟩) (λh=>absurd h (by decide)) (λag=>rfl) (λws es d g a l=>.some (k4 (d2:=0) (v2:=.none) a l (g.du F) (dE ‹_› rfl) (al rfl) (.inl (aM _ rfl rfl))) ls (D.b4 g)))
  · exact(λ_ aj=>aj _ cO (fi (hY m (e3 b)) (al rfl)) (λS P h=>⟨bN rfl,h⟩) (λh=>absurd h (by decide)) (λag=>rfl) (λws es d g a l=>.some (k4 a l (nm ws) (al rfl) (eB le (by decide)) (.inr (bk f (g.du F) (.inl (aM _ rfl rfl))))) ls (D.b4 g)))
  · exact(λ_ aj=>aj _ (.lit 75) (fi (hY i (e3 t)) (al rfl)) (λS P h=>⟨bN rfl,h⟩) (λag=>rfl) (λh=>absurd h (by decide)) (λws es d g a l=>.none (k4 a l (c.du ws) (al rfl) (by decide) (.inr (bk c.ns (j.du ws) (.inr ⟨j.ns,rfl⟩))))))
  · lia
noncomputable def uf(aa:aq→bJ)(G:List aQ)(b:Nat)(vs:List V)(sm:Bool):Prop:=∀ a:Prop,(∀ cL p cO c,dK (b+30) cL c→dI aa 14 vs cL→kz aa cL p cO→bK aa 11 805 [.aB 1,az,.bool sm] G (.ao [p,cO]) c→a)→a
noncomputable def HA(bM:List aQ)(r:Nat)(v:V):Prop:=∀ P:V→Prop,P v→cr (.ao [.int 5,.list [.int 1],.a3 356 [.lit 91]]) (.int (r:Nat)) (St bM) P
noncomputable def Hz(aa:aq→bJ)(bM:List aQ)(r:Nat):Prop:=∀ a:Prop,(∀ v,b7 aa 1 v→ja v→lD v→HA bM r v→a)→a
theorem Sd:∀ {r:Nat},r<3→Hz aa bM r|0,_=>(λ_ aj=>aj _ ((iX 5).mono (by decide)) (λS Q q=>⟨rfl,rfl,q⟩) (λS Q q=>⟨al rfl,q⟩) (λP h=>⟨bN rfl,h⟩))|1,_=>(λ_ aj=>aj _ (nP (l:=0) (λx m=>by refine ac (dx.mp m) ?_;exact iX 1) (al rfl)) (λS Q q=>⟨rfl,rfl,q⟩) (λS Q q=>⟨al rfl,q⟩) (λP h=>⟨bN rfl,h⟩))|2,_=>(λ_ aj=>aj _ ((pQ 91).mono (by decide)) (λS Q q=>⟨rfl,rfl,q⟩) (λS Q q=>⟨al rfl,rfl,q⟩) (λP h=>⟨bN rfl,h⟩))|_+3,h=>absurd h (gB.mpr (jJ _ _))
section
variable{b:Nat}{vs:List V}{sm:Bool}{r:Nat}{bM:List aQ}
theorem Nr(ak:b+100<2^20)(s:vs.length+14<75)(j:dK (b+1) vs bM)(h:bK aa 1 737 [.aB 1,.int 9] G (.int (7:Nat)) bM):uf aa G b vs sm:=by refine(gk (aa:=aa) j (m:=3) (by decide) (by decide) (ew ak rfl)) _ ?_;intro u eJ d aY aJ;refine(Sd (aa:=aa) (bM:=eJ) d) _ ?_;intro v f t bT au;refine(jA (aa:=aa) (x:=v) aY (eB (eA _ _) s) (ew ak (k:=2) rfl) (f.mono (by decide))) _ ?_;intro v3 p g o a i;refine aI (a.du 0 v (.base t)) λe l F=>?_;exact(λ_ aj=>aj v3 p (.lit 74) g (o.up (qd (al rfl:3≤30) b)) (a.b4.up (al rfl)) ⟨(mn a f).mono (by decide),e,v,leB l rfl,F,.bad bT⟩ (λn Q X q=>sN (h (n+9) _ _ (eq_int (c:=af) rfl (ci rfl (m4 _ (n+9) _ _ (aJ (n+9) _ _ (au _ (i (n+7) _ _ q)))))))))
variable{v2:List V}{p cO:V}{eJ:List aQ}
theorem Nt(ak:b+100<2^20)(z:vs.length+14<75)(f:bK aa 1 737 [.aB 1,.int 9] G (.int (8:Nat)) bM)(aY:dK (b+1+20) v2 eJ)(g2:dI aa 9 vs v2)(i:b7 aa 0 p)(aJ:bK aa 9 791 [.aB 1,az,.bool sm] bM (.ao [p,cO]) eJ):uf aa G b vs sm:=by
  refine(gk (aa:=aa) aY (m:=2) (by decide) (by decide) (ew ak (k:=21) rfl)) _ λv j x h g=>?_;cases a4:((v:Nat):Int)==0 with
  | true=>
    refine(wI (aa:=aa) h (ew ak (k:=24) rfl)) _ ?_;intro o y s u w a t;refine(λ_ aj=>aj v2 _ (.lit 75) s (u.up (qd (al rfl:23≤30) b)) (g2.up (al rfl)) ⟨(fi (l:=1) (hY (k:=65) (i.mono (by decide)) (e3 (k:=64) w)) (al rfl)).mono (by decide),0,_,al rfl,.base λS Q q=>⟨rfl,rfl,q⟩,.none ?_⟩ (λn Q X q=>sN (f (n+9) _ _ (eq_int (c:=ah) rfl (bu rfl (aJ (n+1) _ _ ⟨rfl,wV (eq_int (c:=af) rfl (ci rfl (bc.of (g (n+9) _ _ (eq_int a4 (ci rfl (t (n+8) _ _ (c5 rfl rfl (al rfl) q))))))))⟩))))));refine aS a.bT (λbT=>?_) λe=>?_
    · exact Fi (a.du v2) (by decide) bT
    · obtain nm:∀ us,cU us 0 .none .none:=λus=>.base λS Q q=>⟨rfl,rfl,q⟩
      exact k4 (d:=0) (d1:=0) (d2:=0) (v1:=.none) (v2:=.none) (fs:=[(90,.int 0)]) (by refine bG e ?_;exact a.du v2) (by decide) (nm v2) (by decide) (by decide) (.inr (bk (λS Q q=>⟨rfl,rfl,q⟩) (nm v2) (.inr ⟨λS Q q=>⟨rfl,rfl,q⟩,rfl⟩)))
  | false=>
    exact(λ_ aj=>aj v2 _ (.lit 75) j (h.up (qd (al rfl:22≤30) b)) (g2.up (al rfl)) ⟨(fi (l:=1) (e3 (k:=66) (i.mono (by decide))) (al rfl)).mono (by decide),0,_,al rfl,.base λS Q q=>⟨rfl,rfl,q⟩,.none (Fi (.base λS Q q=>⟨rfl,rfl,q⟩) (by decide) λS Q q=>⟨al rfl,q⟩)⟩ (λn Q X q=>sN (f (n+9) _ _ (eq_int (c:=ah) rfl (bu rfl (aJ (n+1) _ _ ⟨rfl,wV (eq_int (c:=af) rfl (ci rfl (bc.of (g (n+9) _ _ (eq_int a4 (bu rfl (c5 rfl rfl (al rfl) q)))))))⟩))))))
end
theorem Nw{b:Nat}{vs:List V}{sm:Bool}(W:dK b vs G)(ak:b+100<2^20)(g:vs.length+14<75)(am:oj aa):uf aa G b vs sm:=by
  refine(gk (aa:=aa) W (m:=9) (by decide) (by decide) (eB (eA _ _) ak)) _ λr bM cn h a=>?_;by_cases Y:r=7
  · obtain a:=Y▸a;exact Nr ak g h a
  refine(Ud (aa:=aa) (sm:=sm) h (ew ak (k:=41) rfl) (ew g rfl) am) _ λv2 p cO eJ aY g2 bt aJ=>?_;have t:b7 aa 0 p:=by refine aG bt.isRef λk e=>?_;exact ac e (jC _ _)
  by_cases Z:r=8
  · obtain a:=Z▸a;exact Nt ak g a aY g2 t aJ
  have P:(((r:Nat):Int)==7)=ah:=by rw [beq_eq_false_iff_ne];lia
  have bY:=g2.len;have R:(((r:Nat):Int)==8)=ah:=by rw [beq_eq_false_iff_ne];lia
  refine(wI (aa:=aa) aY (by lia)) _ λo cl bs H a1 ap B=>?_;refine(za (aa:=aa) (x:=.a3 399 [.dict [],.bytes #[111,116,104,101,114]]) H (by lia) ((FE (fi (l:=0) (es:=[]) (λag m=>absurd m c4) (al rfl)) (al rfl)).mono (by decide))) _ λca I cF C=>?_;refine(wI (aa:=aa) I (by lia)) _ λu cm cd L a2 as D=>?_;refine(NN (aa:=aa) (q:=ref (v2.length+1)) (x:=.none) bt ap as (t.mono (by decide)) a1 ((jC _ _).mono (by decide)) a2 (show r<7 by lia)) _ λfs d2 s au T j hf=>?_;refine(jA (aa:=aa) (x:=.dict fs) L (by have:=cF.len;lia) (by lia) (s.mono (by decide))) _ λv6 z ce M c E=>?_;obtain bm:b7 aa 2 z:=mn c s;refine aI (c.du 0 _ (.base λS Q q=>⟨rfl,rfl,q⟩)) λO e9 v=>?_;have b1:b7 aa 3 (.dict [(93,.a3 356 [.lit 94]),(64,z)]):=fi (hY ((pQ 94).mono (by decide)) (e3 bm)) (al rfl)
  refine(jA (aa:=aa) (x:=.dict [(93,.a3 356 [.lit 94]),(64,z)]) M (by have:=cF.len;have:=c.b4.len;lia) (by lia) (b1.mono (by decide))) _ ?_;intro c3 w A N d F;refine aI (d.du 0 _ (.base λS Q q=>⟨rfl,rfl,q⟩)) λi f9 y=>?_;obtain f:dI aa 5 v2 c3:=cF.trans (c.b4.trans d.b4 (eg 4)) (by decide);refine(λ_ aj=>aj c3 w d2 A (N.up (by lia)) (g2.trans f (by decide)) ⟨(mn d b1).mono (by decide),i,_,by exact leB ‹_› rfl,y,hf c3 _ O (f.up (by decide)) (d.b4.du v) (dE ‹_› rfl)⟩ (λn Q X q=>sN (a (n+9) _ _ (eq_int P (bu rfl (aJ (n+1) _ _ ⟨rfl,wV (eq_int R (bu rfl (B (n+8) _ _ (uP rfl rfl rfl (al rfl) (AE _ _ (n+9) _ _ ⟨rfl,C (n+8) _ _ ⟨rfl,rfl,al rfl,rfl,rfl,al rfl,rfl,rfl,al rfl,rfl,rfl,al rfl,rfl,rfl,al rfl,rfl,rfl,al rfl,D (n+8) _ _ (c5 rfl rfl (al rfl) (au _ _ (m4 _ (n+9) _ _ (E (n+7) _ _ (c5 rfl rfl (al rfl) (F (n+7) _ _ ?_))))))⟩⟩)))))⟩))))));cases a4:(((r:Nat):Int)==6) with|true=>exact eq_int a4 (ci rfl (T a4▸q))|false=>exact eq_int a4 (bu rfl (j a4▸q))
end
section
set_option backward.match.sparseCases false
section
variable{aa:aq→bJ}{G:List aQ}
noncomputable def m8(k:Nat):aq:=[83,59,107,46,95,71,131,119,143].getD k 0
noncomputable abbrev BE(k:Nat):V:=.a3 (m8 k) [.lit (79+k),.int (2*k:Nat)]
theorem R7(h:k<9):lI aa 1 751 [.int (k:Nat)] G (BE k) G:=λn Q X q=>by
  obtain f:∀ {a:Int} {A B:Prop},(((k:Nat):Int)==a)=ah→B→(0≤64∧if(((k:Nat):Int)==a)=af then A else B):=λe b=>⟨al rfl,bu e b⟩
  rcases k with _ | _ | _ | _ | _ | _ | _ | _ | _ | k
  · exact kf ⟨al rfl,q⟩
  · exact kf ⟨al rfl,al rfl,q⟩
  · exact kf ⟨al rfl,al rfl,al rfl,q⟩
  · exact kf ⟨al rfl,al rfl,al rfl,al rfl,q⟩
  · exact kf ⟨al rfl,al rfl,al rfl,al rfl,al rfl,q⟩
  · exact kf ⟨al rfl,al rfl,al rfl,al rfl,al rfl,al rfl,q⟩
  · exact kf ⟨al rfl,al rfl,al rfl,al rfl,al rfl,al rfl,al rfl,q⟩
  · exact kf ⟨al rfl,al rfl,al rfl,al rfl,al rfl,al rfl,al rfl,al rfl,q⟩
  · exact kf ⟨al rfl,al rfl,al rfl,al rfl,al rfl,al rfl,al rfl,al rfl,q⟩
  · lia
theorem Kj{bx:Array UInt8}(h:bx.size=0):((cut bx.toList ae (U 1)).toArray.toList==(#[]:Array UInt8).toList)=af:=by refine ac (F0 h) ?_;rfl
theorem A4{bx:Array UInt8}(h:bx.size≠0):((cut bx.toList ae (U 1)).toArray.toList==(#[]:Array UInt8).toList)=ah:=by
  rw [beq_eq_false_iff_ne];intro z;have:=congrArg mH z
  obtain a:1≤bx.toList.length:=by refine ac tc ?_;exact Nat.pos_of_ne_zero ‹_›
  obtain this:=(show(U (1:Int))=U ((1:Nat):Int) from rfl)▸this;obtain this:=(vv a)▸this;obtain this:(bx.toList.take 1).length=0:=this;obtain this:=jI▸this;lia
theorem EO{x:V}(b:bx.size≠0)(a:(bx.toList.getD 0 0).toNat<9)(d:bx.size≤5):lI aa 2 765 [az,.a3 399 [x,.bytes bx]] G (BE (bx.toList.getD 0 0).toNat) G:=λn Q X q=>by
  obtain hb:(0:Int)<(bx.size:Int):=by lia
  obtain ey:bx.size≤2^20:=by exact leB ‹_› rfl
  exact xa (bc.of (bc.of ⟨ey,eq_bytes (A4 b) (bu rfl (c5 (p7 0) hb ey (ci (c:=decide _) (decide_eq_true (ir.mpr a)) (c5 (p7 0) hb ey (R7 a n _ _ q)))))⟩))
theorem sE{x:V}{bx:Array UInt8}(h:bx.size=0∨9≤(bx.toList.getD 0 0).toNat)(e:bx.size≤5):bK aa 2 765 [az,.a3 399 [x,.bytes bx]] G (.bytes (iU bx)) G:=λn Q X q=>by
  obtain ey:bx.size≤2^20:=by exact leB ‹_› rfl
  obtain b:bx.toList.reverse.toArray.size+(#[43]:Array UInt8).size≤2^20:=by simp;lia
  by_cases a:bx.size=0
  · exact xa (bc.of (bc.of ⟨ey,eq_bytes (Kj a) (ci rfl (bk ey b q))⟩))
  · obtain hb:(0:Int)<(bx.size:Int):=by lia
    obtain d:¬ (bx.toList.getD 0 0).toNat<9:=by lia
    exact xa (bc.of (bc.of ⟨ey,eq_bytes (A4 a) (bu rfl (c5 (p7 0) hb ey (bu (c:=decide _) (decide_eq_false λz=>d (ir.mp z)) (bk ey b q))))⟩))
structure qG(w:V)(s:Str)(e:Bool):Prop where
  str:strOf aF w=U s
  eq:∀ S Q,Q e→b3 aF w (.lit 68) S Q
theorem kk(h:(bR k==bR 68)=e):qG (.lit k) (bR k) e:=⟨rfl,λS Q q=>c2 h q⟩
structure yc(aa:aq→bJ)(vs:List V)(v cO h gd g8:V)(s:Str)(e:Bool):Prop where
  FT:qG gd s e
  U2:qG g8 s e
  len:s.length≤100
  cO:∀ G,bK aa 3 817 [h,cO] G (.ao [.bool af,gd]) G
  word:∀ ws G,ea G (vs++ws)→bK aa 7 720 [az,v,.a6 765] G g8 G
  Oc:∀ ws G nm k,ea G (vs++ws)→(∀ es,v=.dict es→bK aa k 692 [az,nm] G v G)→(lD v→lI aa k 692 [az,nm] G (.a3 95 [.lit 63,.int (-1)]) G)→bK aa (k+8) 812 [az,nm] G h G
theorem eq_str(e:(a==bR b)=c)(q:Q c):b3 aF (.str a) (.lit b) S Q:=by subst e;exact⟨di _,q⟩
theorem eq_list(e:gm aF (.list xs) (.list ys)=U c)(d:dep (.list xs)≤64)(q:Q c):b3 aF (.list xs) (.list ys) S Q:=cu e ⟨d,q⟩
theorem Bw(e:gm aF (.ao xs) (.ao ys)=U c)(d:dep (.ao xs)≤64)(q:Q c):b3 aF (.ao xs) (.ao ys) S Q:=cu e ⟨d,q⟩
theorem Bl(e:(tM (bR k) ae (U 2)==bR 97)=af)(l:(bR k).length≤2^20):bK aa 3 817 [.a3 95 [m,.int (-1)],.lit k] G (.ao [.bool af,.lit k]) G:=λn Q X q=>E7 (bk (al rfl) (al rfl) ⟨rfl,l,eq_str e (ci rfl ⟨rfl,rfl,q⟩)⟩)
theorem KC(e:(tM (bR k) ae (U 2)==bR 97)=ah)(l:(bR k).length≤2^20):bK aa 3 817 [.a3 83 [.lit k,.int (-1)],.lit k] G (.ao [.bool af,.lit k]) G:=λn Q X q=>E7 (bk (al rfl) (al rfl) ⟨rfl,l,eq_str e (bu rfl (bc.of ⟨rfl,rfl,bu (c:=!fS 83 83) rfl (at_of rfl (c2 (beq_self_eq_true _) q))⟩))⟩)
theorem KB(bw):bK aa 3 817 [.bytes bw,.bytes bw] G (.ao [.bool af,.lit 68]) G:=λn Q X q=>SX ⟨al rfl,bc.of ⟨al rfl,cu rfl (bu (c:=!iL 4 4) rfl (eq_bytes (beq_self_eq_true _) q))⟩⟩
noncomputable def kinds(C:aq):List V:=[.bool (fS C 83),.bool (fS C 59),.bool (fS C 107),.bool (fS C 46),.bool (fS C 95),.bool (fS C 71),.bool (fS C 131),.bool (fS C 119),.bool (fS C 143)]
noncomputable def AA(m:Int)(x:V):Option V:=match x with|.int i=>U (.bool (([3,m]:List Int).any (·==i)))|_=>ae
noncomputable def bits(m:Int):List V:=(((dw 0 9 1).map V.int).map (AA m)).filterMap id
theorem Nh{α β:Type}{P:α→β→Prop}{g:α→β}:∀ {xs:List α},(∀ x∈xs,P x (g x))→cz P xs (xs.map g):=by
  intro xs
  induction xs with
  | nil=>
    intro _;exact .nil
  | cons x r b=>
    intro h;exact .cons (h x (.head _)) (b λx a=>h x (.tail _ a))
theorem KA{m:Nat}{C l:Nat}(a:aF.fC C=af)(r:gZ C=[76,95])(g:gm aF (.list (kinds C)) (.list (bits m))=U af)(j:(bR l==bR 96++ek (toString ((m:Nat):Int)))=af)(t:m<9)(d:dep (.list (kinds C))≤64)(bY:(bR 96).length+(ek (toString ((m:Nat):Int))).length≤2^20):
    bK aa 3 817 [.a3 C [.lit l,.int (2*m:Nat)],.int (m:Nat)] G (.ao [.bool af,.str (bR 96++ek (toString ((m:Nat):Int)))]) G:=λn Q X q=>by
  obtain f:∀ {nn:Nat} {y:V},nn=76∧y=.lit l∨nn=95∧y=.int (2*m:Nat)→∀ {P:V→Prop},P y→er nn (.a3 C [.lit l,.int (2*m:Nat)]) P:=λh P p=>by rcases h with⟨rfl,rfl⟩ | ⟨rfl,rfl⟩ <;>exact at_of (by refine ac r ?_;rfl) p
  obtain b:((m:Nat):Int).natAbs<10^10:=by rw [Int.natAbs_natCast];exact leB ‹_› rfl
  refine SY (bk (al rfl) (al rfl) (bc.of (SS ⟨rfl,a,rfl,a,rfl,a,rfl,a,rfl,a,rfl,a,rfl,a,rfl,a,rfl,a,al rfl,?_⟩)));refine(c5 (by decide) (by decide) (by decide) ?_);refine j0 (λx aT k h=>hs x aT k h) (os:=((dw 0 9 1).map V.int).map (AA m)) (Nh λx s k o=>?_) λaT=>?_
  · refine aI (EJ s) λi e _=>?_;obtain rfl:=e;exact Q5 (o _)
  · refine eq_list (c:=af) g d (bu rfl ?_);refine f (nn:=76) (.inl ⟨rfl,rfl⟩) (f (nn:=95) (.inr ⟨rfl,rfl⟩) ⟨b,bY,hT (by decide),?_⟩);refine Bw (c:=af) ?_ (al rfl) ⟨b,bY,q⟩;show jW (U (bR l==bR 96++ek (toString ((m:Nat):Int)))) (jW (U ((((2*m:Nat):Int))==(2:Int)*(m:Int))) (U af))=U af;refine ac j (ac (show((((2*m:Nat):Int))==(2:Int)*(m:Int))=af from beq_iff_eq.mpr (by rfl)) ?_);rfl
theorem Nk:∀ k:Fin 9,aF.fC (m8 k.val)=af∧gZ (m8 k.val)=[76,95]∧gm aF (.list (kinds (m8 k.val))) (.list (bits (k.val:Nat)))=U af∧(bR (79+k.val)==bR 96++ek (toString ((k.val:Nat):Int)))=af∧dep (.list (kinds (m8 k.val)))≤64∧(bR 96).length+(ek (toString ((k.val:Nat):Int))).length≤2^20∧(bR (79+k.val)==bR 68)=ah∧(bR (79+k.val)).length≤100∧fS (m8 k.val) 46=af:=by decide +kernel
theorem vY(F:kG aa vs es s)(ny:isNone s=ah)(lR:et s=ah)(k:Nat)(A:ea G (vs++ws))(l:bK aa k 692 [az,nm] G (.dict es) G)
    (go:∀ n (Q X:el),(Q h G)→C aa (n+6) 765 [az,s] G (λf j=>C aa (n+6) 706 [az,s,f] j (λg e=>b3 aF g (.lit 68) (St e) λi=>if(!i)=af then((λd c=>iQ d λa b=>aF.hu a 46=af∧Q (.a3 a b) c) (.a3 83 [g,.int (-1)]) e) else(Q f e)) (λd c=>iQ d λa b=>aF.hu a 46=af∧Q (.a3 a b) c)) (λd c=>iQ d λa b=>aF.hu a 46=af∧Q (.a3 a b) c)):
    bK aa (k+8) 812 [az,nm] G h G:=λn Q X q=>
  sO (n:=n+(k+6)+1) (sL (n:=n+(k+6)) ((l.up (eA k 6)) n _ _ (((F ws G A).up (show 4≤k+6 by exact al rfl)) n _ _ ⟨lR,bu ny (go (n+k) Q X q)⟩)))
noncomputable def Nv(aa:aq→bJ)(vs:List V)(v:V)(cO:V):Prop:=∀ a:Prop,(∀ (h gd g8 s e),yc aa vs v cO h gd g8 s e→a)→a
theorem Nu{vs:List V}(F:jN aa vs v cO):Nv aa vs v cO:=by
  cases F with
  | bad bT=>exact(λ_ aj=>aj _ _ _ _ _ ⟨kk (k:=74) rfl,kk (k:=74) rfl,by decide +kernel,λG=>Bl (m:=.lit 63) (by kernel_rfl) (by decide +kernel),λws G A n Q X q=>pH (bT _ _ (ci rfl q)),λws G nm k A ag h2 n Q X q=>sO (n:=n+(k+6)+1) (sL (n:=n+(k+6)) (((h2 bT).up (eA k 6)) n _ _ ⟨rfl,q⟩))⟩)
  | @none es bx=>exact(λ_ aj=>aj _ _ _ _ _ ⟨kk (k:=75) rfl,kk (k:=75) rfl,by decide +kernel,λG=>Bl (m:=.lit 73) (by kernel_rfl) (by decide +kernel),λws G A n Q X q=>pH ⟨al rfl,bx ws G A (n+2) _ _ ⟨rfl,q⟩⟩,λws G nm k A a ag n Q X q=>sO (n:=n+(k+6)+1) (sL (n:=n+(k+6)) (((a es rfl).up (eA k 6)) n _ _ (((bx ws G A).up (show 4≤k+6 by exact al rfl)) n _ _ ⟨rfl,rfl,q⟩)))⟩)
  | @some es hd bx _ f l d=>cases d with
    | low y g=>
      refine yV (Nk ⟨_,g⟩) λr i s j t u o x p=>?_;dsimp only at r i s j t u o x p;obtain h:bR 96++ek (toString (((bx.toList.getD 0 0).toNat:Nat):Int))=bR (79+(bx.toList.getD 0 0).toNat):=(eqB j).symm;refine(λ_ aj=>aj _ (.str (bR 96++ek (toString (((bx.toList.getD 0 0).toNat:Nat):Int)))) (.lit (79+(bx.toList.getD 0 0).toNat)) _ ah ⟨⟨congrArg U h,λS Q q=>eq_str (by refine ac h ?_;exact o) q⟩,kk o,x,λG=>KA r i s j g t u,λws G A n Q X q=>?_,λws G nm k A a ag=>?_⟩)
      · exact pH ⟨al rfl,f ws G A (n+2) _ _ ⟨rfl,EO y g l (n+4) _ _ ⟨p,cu (by refine ac i ?_;rfl) q⟩⟩⟩
      · exact vY f rfl rfl k A (a es rfl) λn Q X q=>EO y g l (n+4) _ _ ⟨p,q⟩
    | @word w b sw hw=>
      have e:(bR w==bR 68)=ah∧(bR w).length≤100∧(tM (bR w) ae (U 2)==bR 97)=ah∧(bR w).length≤2^20:=by clear sw;rcases hw with rfl | rfl <;>decide +kernel
      refine(λ_ aj=>aj _ _ _ _ ah ⟨kk e.1,kk e.1,e.2.1,λG=>KC e.2.2.1 e.2.2.2,λws G A n Q X q=>?_,λws G nm k A a ag=>?_⟩)
      · exact pH ⟨al rfl,f ws G A (n+2) _ _ ⟨rfl,sE b l (n+4) _ _ (sw ws G bx A (n+1) _ _ q)⟩⟩
      · exact vY f rfl rfl k A (a es rfl) λn Q X q=>sE b l (n+4) _ _ (sw ws G bx A (n+1) _ _ (c2 e.1 (ci rfl ⟨rfl,q⟩)))
    | right b sw=>
      refine(λ_ aj=>aj _ _ (.lit 68) _ af ⟨kk (k:=68) (by kernel_rfl),kk (by kernel_rfl),by decide +kernel,λG=>KB _,λws G A n Q X q=>?_,λws G nm k A a ag=>?_⟩)
      · exact pH ⟨al rfl,f ws G A (n+2) _ _ ⟨rfl,sE b l (n+4) _ _ (sw ws G bx A (n+1) _ _ q)⟩⟩
      · exact vY f rfl rfl k A (a es rfl) λn Q X q=>sE b l (n+4) _ _ (sw ws G bx A (n+1) _ _ (c2 (c:=af) (by kernel_rfl) (bu rfl q)))
end
end
noncomputable def dp:Nat→Array UInt8|0=>#[]|1=>#[97,0]|2=>#[98]|_=>#[97]
noncomputable abbrev fo(j:Nat):V:=.a3 378 [.bytes (dp j),.bool ah]
noncomputable def gc:Nat→List V→List V|_,[]=>[]|j,p :: r=>fo j :: p :: gc (j+1) r
noncomputable def gM:Nat→List V→List V|_,[]=>[]|j,p :: r=>.ao [.bytes (dp j),p] :: gM (j+1) r
noncomputable def jx:Nat→List V→List V|_,[]=>[]|j,_ :: r=>.bytes (dp j) :: jx (j+1) r
theorem O8:jx j []=[]:=rfl
theorem RH:gM j []=[]:=rfl
theorem pa:∀ j ps,(jx j ps).length=ps.length|_,[]=>rfl|j,_ :: r=>congrArg (·+1) (pa (j+1) r)
theorem nI:∀ j ps,(gM j ps).length=ps.length|_,[]=>rfl|j,_ :: r=>congrArg (·+1) (nI (j+1) r)
theorem w0:∀ {j i:Nat} {ps:List V} {p:V},ps[i]?=U p→(gM j ps)[i]?=U (.ao [.bytes (dp (j+i)),p])|j,0,q :: r,p,h=>by rw [← aX h];rfl|j,i+1,q :: r,p,h=>by have:=w0 (j:=j+1) (i:=i) (ps:=r) h;rw [show j+(i+1)=j+1+i by exact(tH _ _).symm];exact this
theorem Cw:∀ {j i:Nat} {ps:List V},i<ps.length→(jx j ps)[i]?=U (.bytes (dp (j+i)))|j,0,q :: r,h=>rfl|j,i+1,q :: r,h=>by have:=Cw (j:=j+1) (i:=i) (ps:=r) (mM h);rw [show j+(i+1)=j+1+i by exact(tH _ _).symm];exact this
theorem ij{p:Prop}[d:Decidable p](h:decide p=af):p:=of_decide_eq_true h
theorem RR{n i:Nat}:place n (i:Int)=i:=by unfold place;refine ac (if_pos (fK _)) ?_;rfl
theorem f5{xs:List V}(h:xs[i]?=U y)(a:xs.length<2^40)(p:P y):cr (.list xs) (.int (i:Nat)) S P:=by obtain b:=(fM.mp h).1;exact⟨(bk (by lia) (ir.mpr ‹_›) a),cu (by refine ac RR ?_;exact h) p⟩
section
variable{aa:aq→bJ}{G:List aQ}{vs:List V}
theorem wJ(j):ja (fo j):=λS Q q=>⟨rfl,rfl,q⟩
theorem wh(j):bK aa 1 545 [.lit 27,fo j] G (.bytes (dp j)) G:=λn Q X q=>SD ⟨al rfl,rfl,rfl,ci (c:=fS 378 378) rfl (at_of rfl q)⟩
theorem kZ(A:ea G vs)(F:cU vs d x (.dict es))(l:d<30):bK aa 2 552 [az,x] G (.dict es) G:=λn Q X q=>SE (bk rfl rfl (hN F A l n _ _ ⟨al rfl,q⟩))
theorem pG(A:ea G vs)(F:cU vs d ((keyOf es k).getD .none) (.list xs))(l:d<30):bK aa 3 559 [az,.dict es,.lit k] G (.list xs) G:=λn Q X q=>SF (bk rfl rfl (js rfl F A l n _ _ ⟨al rfl,q⟩))
theorem pq(xs):ja (.list xs):=λS Q q=>⟨rfl,rfl,q⟩
theorem su(es):ja (.dict es):=λS Q q=>⟨rfl,rfl,q⟩
theorem nJ{n:Nat}{es:List (Nat×V)}{a:List V}{i j:Nat}{p:V}{k:Option V→aA→Prop}(A:ea G vs)(c:a[i]?=U (fo j))(h2:a[i+1]?=U p)(b:a.length<2^40)
    (d:∀ aT,k (U (.ao [.bytes (dp j),p])) ⟨[ab az,ab (.dict es),ab (.lit 27),ab (.list a)],[],G,aT⟩):
    cD (T aa (n+1)) ae t7 ae (.int (i:Nat)) ⟨[ab az,ab (.dict es),ab (.lit 27),ab (.list a)],[],G,[]⟩ k:=
  QZ ⟨rfl,f5 c b ⟨rfl,hN (.base (wJ j)) A (by decide) n _ _ (wh j n _ _ (f5 (S:=St G) (i:=i+1) h2 b (d _)))⟩⟩
theorem sA{es:List (Nat×V)}{j:Nat}{ps:List V}(A:ea G vs)(h:keyOf es 27=U (.list (gc j ps)))(g:1≤ps.length)(l:ps.length≤3):bK aa 4 564 [az,.dict es,.lit 27] G (.list (gM j ps)) G:=λn Q X q=>by
  refine EY (bu (by refine ac h ?_;rfl) ((pG A (by refine ac h ?_;exact .base (pq _)) (by decide:0<30)) n _ _ ?_));rcases ps with _ | ⟨a,_ | ⟨b,_ | ⟨c,_ | ⟨d,r⟩⟩⟩⟩
  · exact absurd g (by decide)
  · obtain e:(gc j [a]).length=2:=rfl;refine(c5 (al rfl) (by decide) (al rfl) (bu (c:=!(dm ((2:Nat):Int) 2==0)) (by decide) ⟨al rfl,ij rfl,ij rfl,by refine ac e ?_;decide,by refine ac e ?_;decide,ij rfl,ij rfl,?_⟩));refine ac e ⟨al rfl,?_⟩;exact j0 (os:=[U _]) (λx aT k h=>hs x aT k h) (.cons (λk f=>nJ (n:=n+2) (i:=0) A rfl rfl (al rfl) f) .nil) λaT=>q
  · obtain e:(gc j [a,b]).length=4:=rfl;refine(c5 (al rfl) (by decide) (al rfl) (bu (c:=!(dm ((4:Nat):Int) 2==0)) (by decide) ⟨al rfl,ij rfl,ij rfl,by refine ac e ?_;decide,by refine ac e ?_;decide,ij rfl,ij rfl,?_⟩));refine ac e ⟨al rfl,?_⟩;exact j0 (os:=[U _,U _]) (λx aT k h=>hs x aT k h) (.cons (λk f=>nJ (n:=n+2) (i:=0) A rfl rfl (al rfl) f) (.cons (λk f=>nJ (n:=n+2) (i:=2) A rfl rfl (al rfl) f) .nil)) λaT=>q
  · obtain e:(gc j [a,b,c]).length=6:=rfl;refine(c5 (al rfl) (by decide) (al rfl) (bu (c:=!(dm ((6:Nat):Int) 2==0)) (by decide) ⟨al rfl,ij rfl,ij rfl,by refine ac e ?_;decide,by refine ac e ?_;decide,ij rfl,ij rfl,?_⟩));refine ac e ⟨al rfl,?_⟩;exact j0 (os:=[U _,U _,U _]) (λx aT k h=>hs x aT k h) (.cons (λk f=>nJ (n:=n+2) (i:=0) A rfl rfl (al rfl) f) (.cons (λk f=>nJ (n:=n+2) (i:=2) A rfl rfl (al rfl) f) (.cons (λk f=>nJ (n:=n+2) (i:=4) A rfl rfl (al rfl) f) .nil))) λaT=>q
  · exact absurd l (by simp)
theorem sf(A:ea G vs)(h:keyOf es 33=U (.list [fo j,fo j])):bK aa 4 571 [az,.dict es,.lit 27] G (.ao [.bytes (dp j),.bytes (dp j)]) G:=λn Q X q=>by refine SG ((pG A (by refine ac h ?_;exact .base (pq _)) (by decide:0<30)) n _ _ ⟨al rfl,al rfl,?_⟩);exact⟨rfl,bN rfl,rfl,(hN (.base (wJ j)) A (by decide)) (n+2) _ _ (wh j (n+2) _ _ ⟨rfl,bN rfl,rfl,(hN (.base (wJ j)) A (by decide)) (n+2) _ _ (wh j (n+2) _ _ q)⟩)⟩
theorem B0(a b:Nat):dY ((a:Int)+(b:Int)) 2=(((a+b)/2:Nat):Int):=by refine ac (Ge _ (by decide)) ?_;rfl
theorem NB(l:xs.length≤1000)(h:∀ j y,xs[j]?=U y→∀ Q:Bool→Prop,Q (decide (j<bq))→fT y x1 Q)(q:∀ v,Q' .next ⟨[ab (.list xs),ab x1,ab (.int (bq:Nat)),ab (.int (bq:Nat)),v],[],G,[]⟩):
    ∀ (m lo au:Nat) v4,au≤lo+m→lo≤bq→bq≤au→au≤xs.length→g9 (iq (T aa n) uK) (cV (T aa n) uw) (m+1) ⟨[ab (.list xs),ab x1,ab (.int (lo:Nat)),ab (.int (au:Nat)),v4],[],G,[]⟩ Q':=by
  intro m
  induction m with
  | zero=>
    intro lo au v4 i h2 d e;obtain a:lo=bq:=by lia
    obtain b:au=bq:=by lia
    exact ac a (ac b (wY (bu (c:=decide ((bq:Int)<(bq:Int))) (decide_eq_false (by lia)) (q v4))))
  | succ m g=>
    intro lo au v4 i h2 d e;by_cases k:lo<au
    · refine wY (ci (c:=decide ((lo:Int)<(au:Int))) (decide_eq_true (ir.mpr ‹_›)) (RA (bk (by decide) (iG (by decide)) (bc.of ?_))));rw [B0];obtain⟨y,f⟩:∃ y,xs[(lo+au)/2]?=U y:=⟨_,fm (by lia)⟩
      refine f5 f (dE ‹_› rfl) (h _ y f _ ?_);by_cases a4:(lo+au)/2<bq
      · exact ac (decide_eq_true a4) (g ((lo+au)/2+1) au _ (by lia) ‹_› d e)
      · exact ac (decide_eq_false a4) (g lo ((lo+au)/2) _ (by lia) h2 (gB.mp ‹_›) (by lia))
    · obtain a:lo=bq:=by lia
      obtain b:au=bq:=by lia
      exact ac a (ac b (wY (bu (c:=decide ((bq:Int)<(bq:Int))) (decide_eq_false (by lia)) (q v4))))
theorem BP(au:bq≤xs.length)(a:xs.length≤1000)(h:∀ j y,xs[j]?=U y→∀ Q:Bool→Prop,Q (decide (j<bq))→fT y x1 Q):bK aa 1 590 [.list xs,x1] G (.int (bq:Nat)) G:=λn Q X q=>SH ⟨by exact leB ‹_› rfl,xs.length+1,NB a h (λv=>Rg (aa:=aa) (n:=n) (X:=X) q) xs.length 0 xs.length ae (jJ _ _) (di _) au (eg _)⟩
structure lB(vs:List V)(j:Nat)(p k:V):Prop where
  out:∃ d es,d≤10∧cU vs d k (.dict es)∧keyOf es 33=U (.list [fo j,fo j])∧keyOf es 27=U (.list (gc j [p]))∧keyOf es 38=ae
theorem Pd(A:ea G vs)(u:xs.length≤1000)(o:∀ j y,xs[j]?=U y→∃ p,lB vs j p y)(h:∀ j,j<xs.length→∀ Q:Bool→Prop,Q (decide (j<bq))→fT (.bytes (dp j)) dr Q)
    (q:∀ v,Q' .next ⟨[ab az,ab (.list xs),ab (.lit 27),ab dr,ab (.int (bq:Nat)),ab (.int (bq:Nat)),v],[],G,[]⟩):
    ∀ (m lo au:Nat) v6,au≤lo+m→lo≤bq→bq≤au→au≤xs.length→g9 (iq (T aa (n+4)) uL) (cV (T aa (n+4)) ux) (m+1) ⟨[ab az,ab (.list xs),ab (.lit 27),ab dr,ab (.int (lo:Nat)),ab (.int (au:Nat)),v6],[],G,[]⟩ Q':=by
  intro m
  induction m with
  | zero=>
    intro lo au v4 l h2 e f;obtain a:lo=bq:=by lia
    obtain b:au=bq:=by lia
    exact ac a (ac b (wZ (bu (c:=decide ((bq:Int)<(bq:Int))) (decide_eq_false (by lia)) (q v4))))
  | succ m i=>
    intro lo au v4 l h2 e f;by_cases r:lo<au
    · refine wZ (ci (c:=decide ((lo:Int)<(au:Int))) (decide_eq_true (ir.mpr ‹_›)) (RB (bk (by decide) (iG (by decide)) (bc.of ?_))));rw [B0];obtain⟨y,g⟩:∃ y,xs[(lo+au)/2]?=U y:=⟨_,fm (by lia)⟩
      refine aG (o _ y g) λp xr=>?_;obtain⟨d,es,ld,F,k,s,t⟩:=xr;refine f5 g (dE ‹_› rfl) (kZ A F (dE ‹_› rfl) (n+2) _ _ (sf A k n _ _ (jw (bN rfl) rfl (h ((lo+au)/2) (by lia) _ ?_))));by_cases a4:(lo+au)/2<bq
      · exact ac (decide_eq_true a4) (i ((lo+au)/2+1) au _ (by lia) ‹_› e f)
      · exact ac (decide_eq_false a4) (i lo ((lo+au)/2) _ (by lia) h2 (gB.mp ‹_›) (by lia))
    · obtain a:lo=bq:=by lia
      obtain b:au=bq:=by lia
      exact ac a (ac b (wZ (bu (c:=decide ((bq:Int)<(bq:Int))) (decide_eq_false (by lia)) (q v4))))
theorem Pe{xs:List V}{dr:V}{bq:Nat}(A:ea G vs)(au:bq≤xs.length)(b:xs.length≤1000)(a:∀ j y,xs[j]?=U y→∃ p,lB vs j p y)(h:∀ j,j<xs.length→∀ Q:Bool→Prop,Q (decide (j<bq))→fT (.bytes (dp j)) dr Q):bK aa 5 597 [az,.list xs,.lit 27,dr] G (.int (bq:Nat)) G:=λn Q X q=>SI (n:=n+4) ⟨by exact leB ‹_› rfl,xs.length+1,Pd A b a h (λv=>Rh (aa:=aa) (n:=n+4) (X:=X) q) xs.length 0 xs.length ae (jJ _ _) (di _) au (eg _)⟩
theorem ju(e:S.bB[k]?=U (ab x))(p:P x S):getVar k S P:=cu (a:=cA.val x) (by refine ac e ?_;rfl) p
theorem Pc:∀ {j:Nat} {ps:List V},cz (λx y=>∀ k:Option V→aA→Prop,(∀ aT,k (U y) ⟨[ab az,ab x1,ab (.lit 27),ab dr,ab .none,ab y5,ab (.int i),ab gf,ab y8,k6,v10],[],G,aT⟩)→cD (T aa n) ae t9 ae x ⟨[ab az,ab x1,ab (.lit 27),ab dr,ab .none,ab y5,ab (.int i),ab gf,ab y8,k6,v10],[],G,[]⟩ k) (gM j ps) (jx j ps):=by
  intro j ps
  induction ps generalizing j with
  | nil=>
    exact .nil
  | cons p r b=>
    exact .cons (λk a=>Q2 ⟨bN rfl,a _⟩) b
theorem CH{n d ma bq:Nat}{key:Array UInt8}{Q':fc}{x1 y5 r:V}{es:List (Nat×V)}{ef:List V}{i:Int}{c3 pU k6 v10:Option cA}(A:ea G vs)(F:cU vs d y5 (.dict es))(l:d<30)(g:keyOf es 27=U (.list (gc ma ef)))(h:keyOf es 38=ae)(s:1≤ef.length)(t:ef.length≤3)
    (b:bK aa 1 590 [.list (jx ma ef),.bytes key] G (.int (bq:Nat)) G) (u:(bq=ef.length∧r=.none)∨(∃ p c,ef[bq]?=U p∧((dp (ma+bq)).toList==key.toList)=c∧r=if c=af then p else .none)) (q:∀ S:aA,S.aE=G→Q' (.ret r) S):
    cV (T aa (n+4)) uy ⟨[ab az,ab x1,ab (.lit 27),ab (.bytes key),ab .none,ab y5,ab (.int i),c3,pU,k6,v10],[],G,[]⟩ Q':=by
  have y:=nI ma ef;refine Dr (kZ A F l (n+2) _ _ (ci (by refine ac h ?_;rfl) (sA A g s t n _ _ (cu rfl (bk (by lia) (by lia) ?_)))));refine lY (Pc (j:=ma) (ps:=ef)) λaT=>?_;refine b (n+3) _ _ (bc.eq λv e=>bc.eq λw f=>(cu rfl ⟨by lia,?_⟩));refine aS u (λa=>?_) λa=>?_
  · refine aC a λk m=>?_;clear a;obtain rfl:=k;obtain rfl:=m;refine lt_int (c:=ah) (decide_eq_false (by lia)) (ci rfl ?_);subst f e;exact q _ rfl
  · refine dn a λp c bt a4 o=>?_;clear a;obtain rfl:=o;have x:=(fM.mp bt).1
    refine lt_int (c:=af) (decide_eq_true (by lia)) (bu rfl ?_);refine(f5 (S:=St G) (w0 bt) (by lia) (jw (S:=St G) (bN rfl) rfl (ju rfl (eq_bytes (S:=St G) a4 ?_))));subst f e;clear a4 b;cases c with|true=>exact(f5 (S:=St G) (w0 bt) (by lia) (jw (S:=St G) (bN rfl) rfl (q _ rfl)))|false=>exact q _ rfl
end
noncomputable def hP(t:Nat):Nat:=if t=3 then 1 else t
theorem PL:∀ j:Fin 3,∀ t:Fin 4,p4 "__lt__" (tj (dp j.val).toList (dp t.val).toList)=decide (j.val<hP t.val):=by decide +kernel
theorem pl(a:j<3)(b:t<4)(q:Q (decide (j<hP t))):fT (.bytes (dp j)) (.bytes (dp t)) Q:=by have:=PL ⟨j,a⟩ ⟨t,b⟩;show Q (p4 _ _);exact ac this q
theorem R2:∃ r,(dw 0 (40+1) 1).map V.int=.int 0 :: .int 1 :: r:=⟨_,rfl⟩
noncomputable def hI(x:V):Prop:=(∃ a,x=ref a)∨∃ es,x=.dict es
class inductive lJ(vs ps:List V)(B:V):Prop|flat {d:Nat}:d≤10→cU vs d B (.dict [(27,.list (gc 0 ps))])→lJ vs ps B|kids {d:Nat} {ks:List V}:d≤10→cU vs d B (.dict [(38,.list ks)])→ks.length=ps.length→(∀ (j:Nat) k,ks[j]?=U k→hI k∧∃ p,ps[j]?=U p∧lB vs j p k)→(∀ (i j a:Nat),ks[i]?=U (ref a)→ks[j]?=U (ref a)→i=j)→(∀ (i a:Nat),ks[i]?=U (ref a)→B≠ref a)→lJ vs ps B
section
variable{aa:aq→bJ}{G:List aQ}{vs ps:List V}{B:V}
theorem Cx(h:(jx j ps)[i]?=U y):i<ps.length∧y=.bytes (dp (j+i)):=by obtain a:=(fM.mp h).1;rw [pa] at a;rw [Cw a] at h;exact⟨a,(aX h).symm⟩
theorem NA(T:lJ vs ps B)(A:ea G vs)(P:1≤ps.length)(R:ps.length≤3)(m:t<4)(I:(t<ps.length∧ps[t]?=U r)∨(t=3∧r=.none)):bK aa 7 603 [az,B,.lit 27,.bytes (dp t)] G r G:=λn Q X q=>by
  have a:hP t≤ps.length:=by unfold hP;split <;>lia
  refine SJ (bk (by decide) (by decide) ?_);refine aG R2 λW e=>ac e ?_;cases T with
  | flat ld F=>
    refine CH (r:=r) (ma:=0) (bq:=hP t) (ef:=ps) (i:=0) A F (dE ‹_› rfl) rfl rfl P R (BP (by rw [pa];exact a) (by rw [pa];exact leB ‹_› rfl) λj y o Q q=>?_) ?_ λS z=>?_
    · refine aC (Cx o) λv N=>?_;clear o a;obtain rfl:=N;rw [mN];exact pl (hj ‹_› ‹_›) m q
    · clear q m a;rcases I with⟨l,bt⟩ | ⟨rfl,rfl⟩
      · have g:hP t=t:=by unfold hP;exact ac (if_neg (by lia)) rfl
        exact ac g (.inr (dL r af bt (by rw [mN];exact beq_self_eq_true _) rfl))
      · refine ac (show hP 3=1 from rfl) ?_;by_cases l1:ps.length=1
        · exact .inl ⟨l1.symm,rfl⟩
        · exact .inr (dL (ps[1]'(by lia)) ah (fm (by lia)) (by decide +kernel) rfl)
    · show Q r S.aE;exact ac z q
  | @kids d ks ld F H C hd ak=>
    obtain E:∀ j y,ks[j]?=U y→∃ p,lB vs j p y:=λj y h=>let ⟨_,p,_,k⟩:=C j y h;⟨p,k⟩
    have s:hP t≤ks.length:=by refine ac H ?_;exact a
    refine Dr (kZ A F (dE ‹_› rfl) (n+4) _ _ (pG A (.base (pq ks)) (by decide:0<30) (n+3) _ _ ((Pe A s (by lia) E λj v Q q=>pl (by lia) m q) (n+1) _ _ (bc.eq λL D=>(cu rfl ⟨by lia,?_⟩)))));rcases I with⟨l,bt⟩ | ⟨rfl,rfl⟩
    · have g:hP t=t:=by unfold hP;exact ac (if_neg (by lia)) rfl
      refine ac g ?_;obtain⟨k,b⟩:∃ k,ks[t]?=U k:=⟨_,fm (by lia)⟩
      refine aC (C t k b) λ_ xr=>aI xr λp f xr=>?_;obtain⟨d2,es,M,cz,u,w,x⟩:=xr;obtain f:=bt▸f;refine eq_int (c:=ah) (by rw [beq_eq_false_iff_ne];lia) (bu rfl (f5 (S:=St G) b (by lia) (kZ A cz (dE ‹_› rfl) (n+4) _ _ (sf A u (n+2) _ _ (jw (bN rfl) rfl (pl (hj ‹_› ‹_›) m ?_))))));refine ac g (ac (decide_eq_false (gA t)) ?_);subst D;refine ac g (f5 (S:=St G) b (by lia) (CH (n:=n+2) (ma:=t) (bq:=0) (ef:=[p]) (i:=1) (r:=r) A cz (dE ‹_› rfl) w x (al rfl) (al rfl) (BP (di _) (by rw [pa];exact al rfl) λj y o Q q=>?_) (.inr (dL p af rfl (beq_self_eq_true _) (aX f))) λS z=>?_))
      · refine aC (Cx o) λv O=>?_;obtain rfl:=O;have:j=0:=by simpa using v
        clear v o s a;subst this;refine pl (hj ‹_› ‹_›) m ?_;rewrite [Nat.add_zero];exact ac g (ac (decide_eq_false (gA t)) q)
      · show Q r S.aE;exact ac z q
    · have ke:L af G:=by clear m s a;subst D;exact q
      by_cases l1:ps.length=1
      · exact eq_int (c:=af) (by rewrite [beq_iff_eq];refine ac H ?_;refine ac l1 ?_;rfl) (ci rfl ke)
      · obtain⟨k,b⟩:∃ k,ks[1]?=U k:=⟨_,fm (by lia)⟩
        refine aC (C 1 k b) λ_ xr=>aI xr λp f xr=>?_;obtain⟨d2,es,M,cz,u,w,x⟩:=xr;refine eq_int (c:=ah) (by rw [beq_eq_false_iff_ne];show((1:Nat):Int)≠_;lia) (bu rfl (f5 (S:=St G) (i:=1) b (by lia) (kZ A cz (dE ‹_› rfl) (n+4) _ _ (sf A u (n+2) _ _ (jw (bN rfl) rfl ?_)))));show L (p4 "__lt__" (tj (dp 3).toList (dp 1).toList)) G;exact ac (show p4 "__lt__" (tj (dp 3).toList (dp 1).toList)=af by decide +kernel) ke
structure Doc(vs ps:List V)(R:List (Nat×V))(B:V):Prop where
  root:∃ vw d1 N,vw≤10∧d1≤10∧cU vs vw ((keyOf R 25).getD .none) (.dict [(27,N)])∧cU vs d1 N (.dict [(98,B)])
  tree:lJ vs ps B
  shape:hI B
  one:1≤ps.length
  three:ps.length≤3
structure iv(G:List aQ)(vs:List V)(R:List (Nat×V)):Prop extends ea G vs where
  hZ:G[3]?=U (.cY R)
noncomputable def HE(vs:List V)(B:V):Prop:=∀ a:Prop,(∀ (d es),d≤10→cU vs d B (.dict es)→a)→a
theorem lJ.du(T:lJ vs ps B):HE vs B:=by cases T with|flat l F=>exact(λ_ aj=>aj _ _ l F)|kids l F=>exact(λ_ aj=>aj _ _ l F)
theorem wA(D:Doc vs ps R B)(A:iv G vs R):bK aa 4 673 [az] G (.dict [(98,B)]) G:=λn Q X q=>by
  refine ov D.root λvw d1 N cS l1 a b=>?_;obtain c:(St G).aE[3]?.elim 0 j6=6:=by show G[3]?.elim 0 j6=6;refine ac A.hZ ?_;rfl
  refine SM (c5 rfl rfl rfl (SA (bk rfl rfl (Sx (c5 rfl ?_ rfl (cu A.hZ ⟨rfl,hN a A.toea (dE ‹_› rfl) n _ _ ⟨al rfl,rfl,js rfl b A.toea (dE ‹_› rfl) (n+1) _ _ ⟨al rfl,q⟩⟩⟩))))));show(eG aN ((St G).aE[3]?.elim 0 j6) 23).isSome=af;refine ac c ?_;rfl
theorem P7(h:Q ((keyOf es k).getD .none) (St G)):hS (T aa m) aN (.dict es) 23 [.lit k] (St G) Q X:=bl (by kernel_rfl) h
theorem Fm(D:Doc vs ps R B)(A:iv G vs R)(g:t<4)(f:(t<ps.length∧ps[t]?=U p)∨(t=3∧p=.none))(F:cU vs e p v)(le:e<30):
    (∀ es,v=.dict es→bK aa 8 692 [az,.bytes (dp t)] G v G)∧(lD v→lI aa 8 692 [az,.bytes (dp t)] G (.a3 95 [.lit 63,.int (-1)]) G):=by
  refine D.tree.du _ λd es ld cz=>?_;have run:∀ n (Q X:el),(db aF v (.cC 3) (St G) λa=>if(!a)=af then(X (.a3 95 [.lit 63,.int (-1)]) G) else(Q v G))→C aa (n+8) 692 [az,.bytes (dp t)] G Q X:=λn Q X h=>SP (wA D A (n+3) _ _ (bk rfl rfl (P7 (bc.eq λj b=>(bk rfl rfl (hN cz A.toea (dE ‹_› rfl) (n+6) _ _ ⟨rfl,bu (c:=isNone (.dict es)) rfl ⟨rfl,NA D.tree A.toea D.one D.three g f n _ _ ⟨rfl,hN F A.toea le (n+6) _ _ (by clear F;subst b;exact h)⟩⟩⟩))))))
  exact⟨λes e n Q X q=>run n Q X (by clear run F;subst e;exact⟨al rfl,q⟩),λbT n Q X q=>run n Q X (bT _ _ (ci rfl q))⟩
theorem Od(D:Doc vs ps R B)(A:iv G vs R):bK aa 16 812 [az,.bytes (dp 3)] G (.a3 95 [.lit 63,.int (-1)]) G:=λn Q X q=>sO (sL ((Fm D A (by decide) (.inr ⟨rfl,rfl⟩) (.base λS Q q=>⟨rfl,rfl,q⟩) (by decide)).2 (λS Q q=>⟨al rfl,q⟩) (n+6) _ _ ⟨rfl,q⟩))
end
section
set_option backward.match.sparseCases false
noncomputable def sB(x:V):Int×Int:=match x with|.a3 _ [.int a,.int b]=>(a,b)|_=>(-1,-1)
noncomputable abbrev iT(x:V):V:=.ao [.int (sB x).1,.int (sB x).2]
section
variable{aa:aq→bJ}{G:List aQ}{vs ps:List V}{B:V}
theorem FS(h:hI x):bK aa 1 578 [.ao [],x] G (.ao [iT x]) G:=λn Q X q=>by
  rcases h with⟨a,rfl⟩ | ⟨es,rfl⟩
  · exact sK (bc.of ⟨rfl,rfl,al rfl,al rfl,q⟩)
  · exact sK (bc.of ⟨rfl,rfl,al rfl,al rfl,q⟩)
theorem U1(h:hI x)(ne:∀ a,x=ref a→y≠ref a)(c:hI y):bK aa 1 578 [.ao [iT y],x] G (.ao [iT y,iT x]) G:=λn Q X q=>by
  rcases h with⟨a,rfl⟩ | ⟨es,rfl⟩
  · obtain f:(([[(sB y).1,(sB y).2]]:List (List Int)).any (·==[(a:Int),0]))=ah:=by
      refine ac lg (ac List.any_nil ?_);rewrite [Bool.or_false,beq_eq_false_iff_ne];intro e;rcases c with⟨b,rfl⟩ | ⟨es,rfl⟩
      · refine ne a rfl ?_;have:(b:Int)=(a:Int):=(mE e).1
        exact ac (tp this) rfl
      · have:(-1:Int)=(a:Int):=(mE e).1;lia
    exact sK (bc.of ⟨rfl,rfl,ci rfl (at_of rfl (at_of rfl (bu f ⟨al rfl,al rfl,q⟩)))⟩)
  · exact sK (bc.of ⟨rfl,rfl,al rfl,al rfl,q⟩)
theorem Px(A:ea G vs)(o:hI B):∀ {ks ps acc:List V} {j:Nat} {cf v6 c3:Option cA},ks.length=ps.length→(∀ (i:Nat) k,ks[i]?=U k→hI k∧(∀ a,k=ref a→B≠ref a)∧∃ p,ps[i]?=U p∧lB vs (j+i) p k)→acc.length+ks.length≤1000→
    (∀ cf v6 c3,Q' .next ⟨[ab az,ab x1,ab (.lit 27),U (.cv 0),U (.cv 1),cf,v6,c3],[.list (acc++gM j ps),.list []],G,[]⟩)→
    g9 (iq (T aa (n+4)) uJ) (cV (T aa (n+4)) uv) (ks.length+1) ⟨[ab az,ab x1,ab (.lit 27),U (.cv 0),U (.cv 1),cf,v6,c3],[.list acc,.list (ks.map λk=>V.ao [k,.ao [iT B]]).reverse],G,[]⟩ Q':=by
  intro ks
  induction ks with
  | nil=>
    intro ps acc j cf v6 c3 e b hz q;clear b;cases ps with
    | nil=>exact pB ⟨al rfl,by have:=q cf v6 c3;obtain this:=RH▸this;rw [fL] at this;exact this⟩
    | cons _ _=>exact qh e
  | cons k r s=>
    intro ps acc j cf v6 c3 e b hz q;cases ps with
    | nil=>exact qh e
    | cons p ps=>
        refine cR (b 0 k rfl) λej ne xr=>aI xr λt bt xr=>?_;obtain⟨d,es,ld,F,v,h,l⟩:=xr;obtain bt:p=t:=aX bt;subst bt;obtain m:((k :: r).map λk=>V.ao [k,.ao [iT B]]).reverse=(r.map λk=>V.ao [k,.ao [iT B]]).reverse++[V.ao [k,.ao [iT B]]]:=by refine ac fa ?_;exact ac tB rfl
        refine ac m ?_;obtain f:((r.map λk=>V.ao [k,.ao [iT B]]).reverse++[V.ao [k,.ao [iT B]]]).length=r.length+1:=by simp
        obtain u:acc.length+(r.length+1)≤1000:=hz;refine pB ⟨by refine ac f ?_;lia,ci (c:=decide (0<(((_:List V).length:Nat):Int))) (decide_eq_true (by refine ac f ?_;lia)) (wW (c5 rfl rfl (by refine ac f ?_;lia) (cu List.getLast?_concat ⟨rfl,?_⟩)))⟩;refine wU (U1 ej ne o (n+3) _ _ (kZ A F (dE ‹_› rfl) (n+2) _ _ (bu (by refine ac l ?_;rfl) ⟨rfl,sA A h (al rfl) (al rfl) n _ _ (bk rfl rfl ⟨by show acc.length+1≤_;lia,?_⟩)⟩)));refine ac List.dropLast_concat (s (j:=j+1) (xR e) (λi dg g=>?_) (by refine ac gP ?_;show acc.length+1+r.length≤_;lia) λcf v6 c3=>?_)
        · have:=b (i+1) dg g;obtain this:=(show j+(i+1)=j+1+i by exact(tH _ _).symm)▸this;exact this
        · rw [eM];exact q cf v6 c3
theorem Pf{cS l1:List V}:∀ {ks:List V},cz (λx y=>∀ k:Option V→aA→Prop,(∀ aT,k (U y) ⟨[ab az,ab x1,ab (.lit 27),U (.cv 0),U (.cv 1),ab y5,ab ha,ab gf],[.list cS,.list l1.dropLast],G,aT⟩)→cD (T aa n) ae t8 ae x ⟨[ab az,ab x1,ab (.lit 27),U (.cv 0),U (.cv 1),ab y5,ab ha,ab gf],[.list cS,.list l1.dropLast],G,[]⟩ k) ks (ks.map λx=>.ao [x,ha]):=by
  intro ks
  induction ks with
  | nil=>
    exact .nil
  | cons k r a=>
    exact .cons (λK e8=>Q0 (e8 _)) a
theorem RJ{R:List (Nat×V)}(D:Doc vs ps R B)(A:ea G vs):bK aa 5 583 [az,B,.lit 27] G (.list (gM 0 ps)) G:=λn Q X q=>by
  obtain b:=D.one;have c:=D.three
  have T:=D.tree;cases T with
  | flat ld F=>
    refine EZ (n:=n+4) ⟨2,pB ⟨al rfl,wW (c5 rfl rfl (al rfl) (cu rfl ⟨rfl,?_⟩))⟩⟩;refine wU (FS D.shape (n+3) _ _ (kZ A F (dE ‹_› rfl) (n+2) _ _ ⟨rfl,sA A rfl b c n _ _ (bk rfl rfl ⟨by show 0+_≤_;rw [nI];lia,?_⟩)⟩));exact pB ⟨al rfl,Do (aa:=aa) (n:=n+4) (X:=X) q⟩
  | @kids d ks ld F g f hd ak=>
    refine EZ (n:=n+4) ⟨ks.length+2,pB ⟨al rfl,wW (c5 rfl rfl (al rfl) (cu rfl ⟨rfl,?_⟩))⟩⟩;refine wU (FS D.shape (n+3) _ _ (kZ A F (dE ‹_› rfl) (n+2) _ _ ⟨rfl,pG A (.base (pq ks)) (by decide:0<30) (n+1) _ _ ⟨by lia,by refine ac VZ ?_;lia,?_⟩⟩));refine lY (l:=[.list [],.list ([.ao [B,.ao []]]:List V).dropLast]) (Pf (l1:=[.ao [B,.ao []]])) λaT=>?_;refine⟨rfl,rfl,by show 0+_≤_;rewrite [fn];refine ac VZ ?_;lia,?_⟩;obtain key:=Px (aa:=aa) (n:=n) (B:=B) (x1:=B) (Q':=ei (a9 Q) λS=>aZ (T aa (n+4)) aN uk S (a9 Q) (bf X)) A D.shape (ks:=ks) (ps:=ps) (acc:=[]) (j:=0) (cf:=ab B) (v6:=ab (.ao [iT B])) (c3:=ab (.dict [(38,.list ks)])) g (λi k au=>by refine aC (f i k au) λej xr=>aI xr λp bt c9=>?_;rw [mN];exact(bk ej (λa e=>ak i a (by refine ac au ?_;exact ac e rfl)) ⟨p,bt,c9⟩)) (by show 0+_≤_;lia) λcf v6 c3=>Do (aa:=aa) (n:=n+4) (X:=X) q;obtain key:=(List.map_reverse).symm▸key;exact key
theorem Nz(D:Doc vs ps R B)(A:iv G vs R):bK aa 6 680 [az] G (.list (gM 0 ps)) G:=λn Q X q=>by refine D.tree.du _ λd es ld cz=>?_;exact SN (wA D A (n+1) _ _ (bk rfl rfl ⟨rfl,rfl,hN cz A.toea (dE ‹_› rfl) (n+4) _ _ ⟨rfl,bu (c:=isNone (.dict es)) rfl (RJ D A.toea n _ _ q)⟩⟩))
end
end
section
set_option backward.match.sparseCases false
noncomputable def eF:Nat→List V|0=>[]|k+1=>eF k++[.bytes (dp k)]
theorem kW:∀ k,(eF k).length=k:=by
  intro k
  induction k with
  | zero=>
    exact rfl
  | succ k a=>
    rewrite [show eF (k+1)=_ from rfl];refine ac gP (ac a ?_);rfl
theorem OW:∀ ps j,eF j++jx j ps=eF (j+ps.length):=by
  intro ps
  induction ps with
  | nil=>
    intro j;rw [O8,fL];rfl
  | cons p r a=>
    intro j;have:=a (j+1)
    rw [eF,eM] at this;refine ac gg (ac (show j+(r.length+1)=j+1+r.length by exact(tH _ _).symm) (bG this ?_));rfl
theorem OX(k):(eF (k+1))[k]?=U (.bytes (dp k)):=by
  rw [eF];have:=Gp (l:=eF k) (a:=V.bytes (dp k))
  rwa [kW] at this
noncomputable abbrev gC:V:=.a3 655 [az,.lit 27,.aB 5,.aB 6,.aB 7]
noncomputable abbrev GT(g0 g1 cF:aQ)(vs:List V)(R:List (Nat×V))(sn:List ((Int×Int)×V))(ks:List V):List aQ:=[g0,g1,.id (eL vs),.cY R,cF,.list [],.fV sn,.list ks]
noncomputable def yF(x:V)(z:Str):Prop:=(x=.lit 59∧z=bR 59)∨x=.str z
noncomputable def seen(sn:List ((Int×Int)×V))(x:V):List ((Int×Int)×V):=match x with|.a3 _ [.int a,.int b]=>jB sn (a,b) (.bool af)|_=>sn
section
variable{aa:aq→bJ}{g0 g1 cF:aQ}{vs ps:List V}{R:List (Nat×V)}{B:V}
theorem C2{x place:V}(h:hI x)(bt:yF place z)(hz:(n7 z (bR 47):Int)≤40)(m:∀ a,x=ref a→gL sn ((a:Nat),0)=ae)(t:sn.length≤100):bK aa 1 631 [gC,x,place] (GT g0 g1 cF vs R sn ks) (.bool af) (GT g0 g1 cF vs R (seen sn x) ks):=λn Q X q=>by
  have go:∀ (Q:el) X,Q (.bool af) (GT g0 g1 cF vs R (seen sn x) ks)→cc (.int (n7 z (bR 47))) λr=>if(decide (40<r))=af then((aF.bE 655 48).isSome=af∧1=1∧C aa n 624 [gC,place,.lit 49] (GT g0 g1 cF vs R sn ks) (λv o=>Q (.bool ah) o) X) else(db aF x (.a6 427) (St (GT g0 g1 cF vs R sn ks)) λp=>if p=af then(er 8 x λg=>er 9 x λi=>bZ (.ao [g,i]) (.aB 6) (St (GT g0 g1 cF vs R sn ks)) λl=>if l=af then((aF.bE 655 48).isSome=af∧1=1∧C aa n 624 [gC,place,.lit 50] (GT g0 g1 cF vs R sn ks) (λu e=>Q (.bool ah) e) X) else(er 8 x λj=>er 9 x λk=>setG 6 (.ao [j,k]) (.bool af) (St (GT g0 g1 cF vs R sn ks)) λf=>Q (.bool af) f.aE)) else(Q (.bool af) (GT g0 g1 cF vs R sn ks))):=λQ X q=>by
    refine bu (c:=decide (40<(n7 z (bR 47):Int))) (decide_eq_false (by lia)) ⟨rfl,?_⟩;refine aS h (λb=>?_) λb=>?_
    · refine aG b λa d=>?_;clear b;obtain rfl:=d;exact⟨rfl,ci (c:=fS 427 427) rfl (at_of rfl (at_of rfl (bu (by refine ac (m a rfl) ?_;rfl) (at_of rfl (at_of rfl (bk (dt t (al rfl)) (m a rfl) q))))))⟩
    · refine aG b λes d=>?_;clear b;obtain rfl:=d;exact⟨rfl,q⟩
  clear m hz;refine aS bt (λb=>?_) λb=>?_
  · refine aC b λs d=>?_;clear b;obtain rfl:=s;obtain rfl:=d;exact E0 (bk rfl rfl (go Q X q))
  · obtain rfl:=b;exact E0 (bk rfl rfl (go Q X q))
theorem v8(e:(keyOf es k).isSome=b)(q:Q b):bZ (.lit k) (.dict es) S Q:=by subst e;exact q
theorem Uw{place:V}:∀ {ef:List V} {j:Nat} {v3 v4:Option cA},j+ef.length≤3→(∀ v3 v4,Q' .next ⟨[ab gC,ab (.dict es),ab place,v3,v4],[],GT g0 g1 cF vs R sn (eF (j+ef.length)),[]⟩)→forL [3,4] af (cV (T aa n) qC) (gM j ef) ⟨[ab gC,ab (.dict es),ab place,v3,v4],[],GT g0 g1 cF vs R sn (eF j),[]⟩ Q':=by
  intro ef
  induction ef with
  | nil=>
    intro j v3 v4 h q;exact q v3 v4
  | cons p r d=>
    intro j v3 v4 h q;rw [gg] at h;obtain f:=kW j;refine⟨rfl,RD (bc.of (bc.of (cu rfl ⟨by show(eF j).length≤_;lia,?_⟩)))⟩;obtain put:bF ((GT g0 g1 cF vs R sn (eF j))[7]?) λb=>nv aN 7 0 b [.bytes (dp j)] (St (GT g0 g1 cF vs R sn (eF j))) λe a=>ei Q' (λS=>forL [3,4] af (cV (T aa n) qC) (gM (j+1) r) S Q') .next ⟨[ab gC,ab (.dict es),ab place,ab (.bytes (dp j)),ab p],[],a.aE,[]⟩:=by refine cu rfl ⟨by lia,d (j:=j+1) (by lia) ?_⟩;rw [show j+1+r.length=j+(p :: r).length by rw [gg];exact nZ _ _ _];exact q
    rcases j with _ | j
    · exact(bk rfl rfl put)
    · refine bu (c:=!decide (0<(((eF (j+1)).length:Nat):Int))) (by rw [decide_eq_true (by lia)];rfl) (o9 rfl (bk (by lia) (fK _) (by lia)) (y:=.bytes (dp j)) ?_ (pl (dt (eA _ _) ‹_›) (by lia) ?_))
      · rw [show Internal.place (eF (j+1)).length (-1)=j by unfold Internal.place;rw [if_neg (by decide),kW];lia];exact OX j
      · rw [show hP (j+1)=j+1 by unfold hP;rw [if_neg (by lia)],decide_eq_true (qg j)];exact(bk rfl rfl put)
theorem Uz{place:V}(d:vs.length<80)(a:keyOf es 27=U (.list (gc j ef)))(b:1≤ef.length)(c:j+ef.length≤3):
    bK aa 5 645 [gC,.dict es,place] (GT g0 g1 cF vs R sn (eF j)) .none (GT g0 g1 cF vs R sn (eF (j+ef.length))):=λn Q X q=>
  E2 (sA (vs:=vs) ⟨rfl,d⟩ a b (dt (jJ _ _) ‹_›) n _ _ (cu rfl ⟨by rw [nI];lia,Uw c λv3 v4=>q⟩))
theorem Uy{place:V}(a:keyOf es 27=ae):bK aa 2 645 [gC,.dict es,place] G .none G:=λn Q X q=>E2 (EY (ci (by refine ac a ?_;rfl) ⟨al rfl,q⟩))
theorem B6(a:keyOf es 33=ae):bK aa 1 652 [gC,.dict es,.lit 59,.list xs] G .none G:=λn Q X q=>E3 (c2 (c:=af) (by kernel_rfl) (ci rfl (bu (by refine ac a ?_;rfl) q)))
theorem Oi(A:ea G vs)(hz:(z==bR 59)=ah)(a:keyOf es 33=U (.list [fo j,fo j])):bK aa 5 652 [gC,.dict es,.str z,.list [.bytes (dp j)]] G .none G:=λn Q X q=>E3 (eq_str hz (bu rfl (bu (by refine ac a ?_;rfl) ⟨al rfl,ci (c:=decide (0<((1:Nat):Int))) rfl (sf A a n _ _ ⟨bN rfl,bN rfl,Bw (S:=St G) (c:=af) (by show jW (U ((dp j).toList==(dp j).toList)) (jW (U ((dp j).toList==(dp j).toList)) (U af))=U af;rw [beq_self_eq_true];rfl) (al rfl) (bu rfl q)⟩)⟩)))
theorem FR{x place:V}(e:vs.length<80)(h:hI x)(F:cU vs d x (.dict es))(ld:d<30)(bt:yF place z)(hz:(n7 z (bR 47):Int)≤40)(m:∀ a,x=ref a→gL sn ((a:Nat),0)=ae)(l:sn.length≤100)
    (b:keyOf es 27=U (.list (gc j ef))) (f:keyOf es 38=ae) (i:1≤ef.length) (k:j+ef.length≤3) (hh:∀ G,ea G vs→bK aa 5 652 [gC,.dict es,place,.list (jx j ef)] G .none G):
    bK aa 6 638 [gC,x,place] (GT g0 g1 cF vs R sn (eF j)) .none (GT g0 g1 cF vs R (seen sn x) (eF (j+ef.length))):=λn Q X q=>by
  obtain dQ:((keyOf es 38).isSome)=ah:=by refine ac f ?_;rfl
  obtain fe:((keyOf es 27).isSome)=af:=by refine ac b ?_;rfl
  obtain g:cut (eF (j+ef.length)) (U (((eF j).length:Nat):Int)) ae=jx j ef:=by exact ac (A5 (by rw [kW,kW];exact eA _ _)) (bG (OW ef j) (ac List.drop_left rfl))
  obtain fin:aZ (T aa (n+5)) aN ul ⟨[ab gC,ab x,ab place,ab (.dict es),ab (.int ((eF j).length:Nat)),ab (.list []),ae,ae],[],GT g0 g1 cF vs R (seen sn x) (eF (j+ef.length)),[]⟩ (a9 Q) (bf X):=by refine Dp ⟨rfl,cu rfl ⟨by rw [kW];exact leB ‹_› rfl,rfl,?_⟩⟩;exact ac g (hh _ ⟨rfl,e⟩ n _ _ q)
  refine E1 (bk rfl rfl (C2 h bt hz m l (n+4) _ _ (bk rfl rfl (hN (vs:=vs) F ⟨rfl,e⟩ ld (n+4) _ _ ⟨al rfl,cu rfl (bu (c:=!iL 7 3) rfl (bc.of ?_))⟩))));refine v8 dQ (v8 fe ?_);refine⟨al rfl,cu rfl (c5 (by show(eF j).length≤_;rw [kW];lia) rfl rfl (Uz e b i k n _ _ (bc.of ?_)))⟩;refine v8 dQ ⟨al rfl,cu rfl (bk (by decide) (by decide) fin)⟩
theorem Nj:∀ j:Fin 3,(bR 59++bR 47).length+(ek (toString ((j.val:Nat):Int))).length≤2^20∧(n7 (bR 59++bR 47++ek (toString ((j.val:Nat):Int))) (bR 47):Int)≤40∧(bR 59++bR 47++ek (toString ((j.val:Nat):Int))==bR 59)=ah:=by decide +kernel
theorem Pu:(bR 59).length+(bR 47).length≤2^20:=by decide +kernel
structure ou(B:V)(ks:List V)(j:Nat)(sn:List ((Int×Int)×V)):Prop where
  old:∀ a:Nat,(gL sn ((a:Nat),0)).isSome=af→B=ref a∨∃ i,i<j∧ks[i]?=U (ref a)
  len:sn.length≤j+1
theorem RW:∀ l k v,(jB l k v).length≤l.length+1:=by
  intro l
  induction l with
  | nil=>
    intro k v;exact eg _
  | cons x0 r c=>
    obtain⟨a,b⟩:=x0;intro k v;refine ac w3 ?_;split
    · exact i4 _
    · exact ll (c k v)
theorem DD:∀ l k dg v,(gL (jB l k v) dg).isSome=af→k=dg∨(gL l dg).isSome=af:=by
  intro l
  induction l with
  | nil=>
    intro k dg v h;rw [show jB [] k v=[(k,v)] from rfl,nt] at h;split at h
    · rename_i e;exact .inl (eqB e)
    · exact cb h
  | cons x0 r d=>
    obtain⟨a,b⟩:=x0;intro k dg v h;rw [w3] at h;split at h
    · rename_i e;rw [nt] at h ⊢;split at h
      · rename_i c;exact .inl (by refine bG (eqB e) ?_;exact ac (eqB c) rfl)
      · rename_i c;exact ac (if_neg c) (.inr h)
    · rw [nt] at h ⊢;split at h
      · rename_i c;exact ac (if_pos c) (.inr rfl)
      · rename_i c;exact ac (if_neg c) (d k dg v h)
theorem ou.step(h:ou B ks j sn)(f:ks[j]?=U k)(ej:hI k):ou B ks (j+1) (seen sn k):=by
  refine aS ej (λd=>?_) λd=>?_
  · refine aG d λa c=>?_;obtain rfl:=c;refine⟨λb ak=>?_,dt (RW _ _ _) (ll h.len)⟩;refine aS (DD _ _ _ _ ak) (λe=>?_) λe=>?_
    · obtain e:(a:Int)=(b:Int):=congrArg GG e;exact .inr (aM j (qg j) (by refine bG (tp e) ?_;exact f))
    · exact(h.old b e).imp id λ⟨i,l,e⟩=>⟨i,xQ l,e⟩
  · refine aG d λes c=>?_;obtain rfl:=c;exact⟨λb ak=>(h.old b ak).imp id λ⟨i,l,e⟩=>⟨i,xQ l,e⟩,qe h.len⟩
noncomputable abbrev UY(aa:aq→bJ)(g0:aQ)(g1:aQ)(cF:aQ)(vs:List V)(R:List (Nat×V))(B:V)(n:Nat)(ks:List V)(es:List (Nat×V))(Q':fc)(m:Nat)(j:Nat)(sn:List ((Int×Int)×V))(c3:Option cA):Prop:=forL [7] ah (cV (T aa (n+6)) uz) ((kq j m).map λi=>V.int (i:Nat)) ⟨[ab gC,ab B,ab (.lit 59),ab (.dict es),ab (.int (0:Nat)),ab (.list ks),ae,c3],[],GT g0 g1 cF vs R sn (eF j),[]⟩ Q'
theorem UX(u:vs.length<80)(z:ks.length≤3)(t:∀ (i:Nat) k,ks[i]?=U k→hI k∧∃ p,lB vs i p k)(hd:∀ (i j a:Nat),ks[i]?=U (ref a)→ks[j]?=U (ref a)→i=j)(ak:∀ (i a:Nat),ks[i]?=U (ref a)→B≠ref a):
    ∀ {m j:Nat} {sn:List ((Int×Int)×V)} {c3:Option cA},j+m=ks.length→ou B ks j sn→(∀ c3,Q' .next ⟨[ab gC,ab B,ab (.lit 59),ab (.dict es),ab (.int (0:Nat)),ab (.list ks),ae,c3],[],GT g0 g1 cF vs R ((ks.drop j).foldl seen sn) (eF (j+m)),[]⟩)→UY aa g0 g1 cF vs R B n ks es Q' m j sn c3:=by
  intro m
  induction m with
  | zero=>
    intro j sn c3 s c q;have:=q c3
    obtain this:=(Gl (gR (xB ‹_›)))▸this;exact this
  | succ m v=>
    intro j sn c3 s c q;obtain⟨k,b⟩:∃ k,ks[j]?=U k:=⟨_,fm (by lia)⟩
    refine aC (t j k b) λej xr=>aG xr λp xr=>?_;obtain⟨d,x,ld,F,o,g,r⟩:=xr;refine cR (Nj ⟨j,by lia⟩) λf1 f2 f=>?_;dsimp only at f1 f2 f;obtain nw:∀ a,k=ref a→gL sn ((a:Nat),0)=ae:=λa e=>by
      cases h:gL sn ((a:Nat),0) with
      | none=>rfl
      | some y=>
        subst e;refine aS (c.old a (by refine ac h ?_;rfl)) (λe=>?_) λw=>aI w λi l e=>?_
        · exact absurd e (ak j a b)
        · exact absurd (hd i j a e b) (lj l)
    refine RC (i:=(j:Nat)) ⟨rfl,f5 b (dE ‹_› rfl) ⟨Pu,by lia,f1,rfl,?_⟩⟩;refine FR (ef:=[p]) u ej F (dE ‹_› rfl) (.inr rfl) f2 nw (dt c.len (by lia)) g r (al rfl) (by show j+1≤3;lia) (λG A=>Oi A f o) n _ _ (v (by lia) (c.step b ej) (ac (show j+1+m=j+(m+1) by exact nZ _ _ _) ?_));obtain e:ks.drop j=k :: ks.drop (j+1):=by refine ac (tw (by lia)) ?_;rw [fm (by lia)] at b;exact ac (aX b) rfl
    obtain q:=e▸q;exact q
theorem kc(k:Nat):(dw 0 (k:Int) 1).map V.int=(kq 0 k).map λi=>V.int (i:Nat):=by unfold dw;rewrite [EK,tq];refine bG List.range_eq_range' (ac V3 (V2 λi ag=>?_));show V.int (0+(i:Int)*1)=V.int i;rw [Int.mul_one,Int.zero_add]
theorem Nm(D:Doc vs ps R B)(g:vs.length<80):∃ f,iv f vs R∧f.length=8∧f[4]?=U cF∧bK aa 9 666 [az,B,.lit 27] [g0,g1,.id (eL vs),.cY R,cF] (.list []) f:=by
  have T:=D.tree;have r:=D.one;have s:=D.three;have go:∀ sn ks,bK aa 7 638 [gC,B,.lit 59] (GT g0 g1 cF vs R [] []) .none (GT g0 g1 cF vs R sn ks)→∃ f,iv f vs R∧f.length=8∧f[4]?=U cF∧bK aa 9 666 [az,B,.lit 27] [g0,g1,.id (eL vs),.cY R,cF] (.list []) f:=λsn ks h=>(HS [g0,g1,.id (eL vs),.cY R,cF,.dead,.fV sn,.list ks] ⟨⟨rfl,g⟩,rfl⟩ rfl rfl λn Q X q=>SK (Ja _ _ (n+7) _ _ (bk rfl rfl (h (n+1) _ _ (at_of rfl q)))))
  cases T with
  | flat ld F=>exact go _ _ ((FR (ef:=ps) (j:=0) g D.shape F (dE ‹_› rfl) (.inl ⟨rfl,rfl⟩) (by decide +kernel) (λag ag=>rfl) (al rfl) rfl rfl r (by lia) λG A=>(B6 rfl).up (by decide)).up (by decide))
  | @kids d ks ld F t o hd ak=>
    obtain s0:ou B ks 0 (seen [] B):=by
      clear F go;refine aS D.shape (λl=>?_) λl=>?_
      · refine aG l λa m=>?_;clear l;obtain rfl:=m;exact⟨λb ak=>by
          refine aS (DD [] _ _ _ ak) (λe=>?_) λe=>?_
          · obtain e:(a:Int)=(b:Int):=congrArg GG e;exact .inl (ac (tp e) rfl)
          · exact cb e,eg _⟩
      · refine aG l λes m=>?_;clear l;obtain rfl:=m;exact⟨λb ak=>cb ak,di _⟩
    refine go ((ks.drop 0).foldl seen (seen [] B)) (eF (0+ks.length)) λn Q X q=>E1 (bk rfl rfl (C2 D.shape (.inl ⟨rfl,rfl⟩) (by decide +kernel) (λag ag=>rfl) (al rfl) (n+5) _ _ (bk rfl rfl (hN (vs:=vs) F ⟨rfl,g⟩ (dE ‹_› rfl) (n+5) _ _ ⟨al rfl,cu rfl (bu (c:=!iL 7 3) rfl (bc.of ?_))⟩))));refine⟨al rfl,al rfl,rfl,rfl,Uy rfl (n+4) _ _ (bc.of ?_)⟩;refine pG (vs:=vs) (k:=38) ⟨rfl,g⟩ (.base (pq ks)) (by decide:0<30) (n+3) _ _ (cu rfl (c5 (by lia) (fK _) (by lia) ?_));rw [kc];refine UX (aa:=aa) (n:=n) (B:=B) (es:=[(38,.list ks)]) g (by lia) (λi k au=>⟨(o i k au).1,let ⟨p,_,z⟩:=(o i k au).2;⟨p,z⟩⟩) hd ak (j:=0) (mN _) s0 λc3=>Dp ⟨rfl,cu rfl ⟨by rw [kW];lia,rfl,?_⟩⟩;exact B6 rfl (n+5) _ _ q
end
end
noncomputable def eO:Nat→List (Str×Bool)→List V|_,[]=>[]|i,(s,e) :: r=>if e=af then eO (i+1) r else .str (ek (toString ((i:Nat):Int))++bR 45++s) :: eO (i+1) r
theorem FW:eO i []=[]:=rfl
theorem pW:eO i ((s,e) :: r)=if e=af then eO (i+1) r else .str (ek (toString ((i:Nat):Int))++bR 45++s) :: eO (i+1) r:=rfl
theorem U6(i)(a):gm aF (.list (eO i a)) (.list (eO i a))=U af∧dep (.list (eO i a))≤64:=by
  obtain h:∀ a i,gX aF (eO i a) (eO i a)=U af∧fz (eO i a)=0:=λa=>by
    induction a with
    | nil=>exact λi=>⟨rfl,rfl⟩
    | cons p r c=>
      intro i;obtain⟨s,e⟩:=p;refine ac pW ?_;split
      · exact c (i+1)
      · refine aC (c (i+1)) λb h2=>⟨?_,?_⟩
        · show jW (U (_==_)) (gX aF (eO (i+1) r) (eO (i+1) r))=_;refine ac b ?_;rewrite [beq_self_eq_true];rfl
        · show max 0 (fz (eO (i+1) r))=0;refine ac h2 ?_;rfl
  exact aC (h a i) λb h2=>⟨b,by show fz _+1≤64;refine ac h2 ?_;decide⟩
theorem Ue:∀ j:Fin 3,(ek (toString ((j.val:Nat):Int))).length+(bR 45).length≤100:=by decide +kernel
theorem str_len(a b:Str):(a++b).length=a.length+b.length:=Str.length_append a b
section
variable{aa:aq→bJ}{G:List aQ}{g0 g1 cF:aQ}{vs ps:List V}{R:List (Nat×V)}{B:V}
theorem FV(b:j<3)(hw:strOf aF w=U s)(c:s.length≤100)(p:P (.str (ek (toString ((j:Nat):Int))++bR 45++s))):
    c7 aF .Add (.str (ek (toString ((j:Nat):Int)))) (.lit 45) λa=>c7 aF .Add a w P:=by
  have l:=Ue ⟨j,b⟩;dsimp only at l;have d:(ek (toString ((j:Nat):Int))).length+(aF.ls 45).length≤100:=l;refine⟨by exact leB ‹_› rfl,cu hw ⟨?_,p⟩⟩;rw [str_len];show Str.length _+(bR 45).length+s.length≤_;lia
theorem IC(A:ea G vs):∀ {j:Nat} {ps ws:List V},cz (λp v=>∃ e,e<30∧cU vs e p v) ps ws→cz (λx y=>∀ k:Option V→aA→Prop,(∀ aT,k (U y) ⟨[ab az],[],G,aT⟩)→cD (T aa (n+1)) (U 2) ua ae x ⟨[ab az],[],G,[]⟩ k) (gM j ps) (gM j ws)
 :=λ{j ps ws} q=>by
  induction q generalizing j with
  | nil=>exact .nil
  | cons a _ c=>
    exact aI a λe l F=>.cons (λk b=>Q3 (c5 rfl rfl rfl (hN F A l n _ _ (b _)))) c
theorem ID(D:Doc vs ps R B)(A:iv G vs R)(hw:cz (λp v=>∃ e,e<30∧cU vs e p v) ps ws):bK aa 7 685 [az] G (.list (gM 0 ws)) G:=λn Q X q=>by obtain a:=D.three;obtain b:=nI 0 ps;refine SO (Nz D A n _ _ (cu rfl (bk (by lia) (by lia) (lY (IC (n:=n+5) A.toea hw) λaT=>?_))));exact q
noncomputable def ue(aa:aq→bJ)(vs:List V)(v:V)(s:Str)(e:Bool):Prop:=∃ w,qG w s e∧s.length≤100∧∀ G,ea G vs→bK aa 7 720 [az,v,.a6 765] G w G
theorem Nl(A:ea G vs):∀ {ws:List V} {d:List (Str×Bool)} {j:Nat} {cS:List V} {cf v6 c3:Option cA},cz (λv p=>ue aa vs v p.1 p.2) ws d→j+ws.length≤3→cS.length≤j→(∀ cf v6 c3,Q' .next ⟨[ab az,ab (.a6 765),ab y2,U (.cv 0),ab d8,cf,v6,c3],[.list (cS++eO j d)],G,[]⟩)→forL [5,6] af (cV (T aa (n+7)) uA) (oY (j:Nat) (gM j ws)) ⟨[ab az,ab (.a6 765),ab y2,U (.cv 0),ab d8,cf,v6,c3],[.list cS],G,[]⟩ Q':=λ{ws d j cS cf v6 c3} z=>by
  induction z generalizing j cS cf v6 c3 with
  | nil=>intro h f q;have:=q cf v6 c3;rw [FW,fL] at this;exact this
  | @cons v b r m a _ l=>
    intro h f q;obtain⟨s,e⟩:=b;refine c0 a λw hw ls run=>?_;clear a;rw [gg] at h;refine⟨rfl,RE (jw (bN rfl) rfl (run G A n _ _ (bc.eq λo k=>hw.eq _ _ ?_)))⟩;obtain next:∀ c:List V,c.length≤j+1→(c++eO (j+1) m=cS++eO j ((s,e) :: m))→o c:=λc g i=>by
      subst k;have:=l (j:=j+1) (cS:=c) (cf:=ab (.int (j:Nat))) (v6:=ab (.ao [.bytes (dp j),v])) (c3:=ab w) (by lia) g λcf v6 c3=>by refine ac i ?_;exact q cf v6 c3
      exact this
    clear q;cases e with
    | true=>exact bu rfl (next cS (qe ‹_›) (by rewrite [pW];exact ac (if_pos rfl) rfl))
    | false=>
      refine ci rfl ⟨rfl,by lia,FV (eB (eA _ _) ‹_›) hw.str ls (bk rfl (by lia) (next _ (by refine ac gP ?_;exact ll f) ?_))⟩;rewrite [pW];refine ac (if_neg (by decide)) ?_;rewrite [eM];rfl
noncomputable def No(aa:aq→bJ)(g0:aQ)(g1:aQ)(cF:aQ)(vs:List V)(R:List (Nat×V))(c:List (Str×Bool)):Prop:=∀ b:Prop,(∀ (a),iv a vs R→a[4]?=U cF→bK aa 10 725 [az,.a6 765] [g0,g1,.id (eL vs),.cY R,cF] (.list (eO 0 c)) a→b)→b
theorem Nn(D:Doc vs ps R B)(f:vs.length<80)(hw:cz (λp v=>∃ e,e<30∧cU vs e p v) ps ws)(i:cz (λv p=>ue aa vs v p.1 p.2) ws k):No aa g0 g1 cF vs R k:=by
  refine qH (Nm (aa:=aa) (g0:=g0) (g1:=g1) (cF:=cF) D f) λg a Pq h F=>(λ_ aj=>aj g a h (λn Q X q=>?_));refine D.tree.du _ λd es ld b=>?_;obtain A:iv [g0,g1,.id (eL vs),.cY R,cF] vs R:=⟨⟨rfl,f⟩,rfl⟩
  refine SQ (wA D A (n+5) _ _ (bk rfl rfl ⟨rfl,rfl,hN b A.toea (dE ‹_› rfl) (n+8) _ _ ⟨rfl,bu (c:=isNone (.dict es)) rfl (F n _ _ (cu rfl (bk (al rfl) (al rfl) ?_)))⟩⟩));refine Rj (cS:=[]) (ID D a hw (n+2) _ _ ?_);obtain l:=D.three;obtain l1:=nI 0 ws;obtain bY:=rQ hw;refine⟨by show(gM 0 ws).length≤_;lia,?_⟩;exact Nl (n:=n+2) (j:=0) (cS:=[]) a.toea i (by lia) (eg _) λcf v6 c3=>Rk (aa:=aa) (n:=n+9) (X:=X) q
end
noncomputable abbrev pp:List V:=[.bytes #[],.bytes #[97,0],.bytes #[98]]
theorem C3(h:i<3):pp[i]?=U (.bytes (dp i)):=by
  rcases i with _ | _ | _ | i
  · rfl
  · rfl
  · rfl
  · lia
noncomputable def g5:Nat→List V→List V|_,[]=>[]|j,p :: r=>.list [fo j,p] :: g5 (j+1) r
theorem EU:∀ j ps,jq (g5 j ps)=U (gc j ps)|_,[]=>rfl|j,p :: r=>by show(oI (.list [fo j,p])).bind _=_;show(jq (g5 (j+1) r)).map _=_;rw [EU (j+1) r];rfl
theorem w8:∀ j ps,(gc j ps).length=2*ps.length|_,[]=>rfl|j,p :: r=>by show(gc (j+1) r).length+2=_;rw [w8 (j+1) r,gg];rfl
section
variable{aa:aq→bJ}{G:List aQ}
theorem ints_of:∀ {xs:List V},(∀ x∈xs,∃ i,x=.int i)→∃ is,allInts xs=U is∧is.length=xs.length:=by
  intro xs
  induction xs with
  | nil=>
    intro _;exact(aM [] rfl rfl)
  | cons x r c=>
    intro h;refine aG (h x (.head _)) λi a=>?_;obtain rfl:=a;exact aI (c λx b=>h x (.tail _ b)) λis e l=>(aM (i :: is) (by show lZ (U i) (allInts r)=_;refine ac e ?_;rfl) (congrArg (·+1) l))
theorem U3(h:∀ x∈xs,∃ i,x=.int i)(d:xs.length≤63):∃ mm,bK aa 1 730 [.list xs] [] (.aB 1) [.list xs,.list [.aB 0,.int 0,.int 0,.int mm]]:=by
  refine aI (ints_of h) λis e l=>?_;obtain j1:cut xs ae (U 63)=xs:=by
    show(xs.drop 0).take (clipAt xs.length 63-0)=xs;have:clipAt xs.length 63=xs.length:=by unfold clipAt;refine ac (if_neg (by decide)) (ac (show(63:Int)=((63:Nat):Int) from rfl) (ac (Int.min_eq_right (xG.mpr d)) (ac (VD (fK _)) ?_)));rfl
    refine ac this ?_;simp
  refine⟨dm is.sum 1009,λn Q X q=>?_⟩;refine SR ⟨by exact leB ‹_› rfl,?_⟩;refine ac j1 (cu rfl (bk (leB ‹_› rfl) (leB ‹_› rfl) ?_));obtain f2:cz (λx y=>∀ k:Option V→aA→Prop,(∀ aT,k (U y) ⟨[ab (.list xs),ae],[],[],aT⟩)→cD (T aa n) ae qx ae x ⟨[ab (.list xs),ae],[],[],[]⟩ k) xs xs:=by
    have:∀ ys:List V,(∀ x∈ys,∃ i,x=.int i)→cz (λx y=>∀ k:Option V→aA→Prop,(∀ aT,k (U y) ⟨[ab (.list xs),ae],[],[],aT⟩)→cD (T aa n) ae qx ae x ⟨[ab (.list xs),ae],[],[],[]⟩ k) ys ys:=λys=>by
      induction ys with
      | nil=>exact λag=>.nil
      | cons y r g=>
        intro a;refine aG (a y (.head _)) λi b=>?_;obtain rfl:=b;exact .cons (λk c=>Q4 (c _)) (g λx f=>a x (.tail _ f))
    exact this xs h
  exact lY f2 λaT=>Rl (cu rfl (cu e (bk (by lia) (by decide) q)))
noncomputable abbrev xY(xs:List V)(n4:Int)(y5:V):List (Option cA):=[ab (.list xs),ab (.aB 1),ab az,ab (.list pp),ab (.int n4),ab y5,ae,ae,ae,ae,ae,ae,ae,ae,ae]
noncomputable abbrev l3(pd:List (V×V)):List V:=pd.map λq=>.ao [q.1,q.2]
noncomputable def Ny(aa:aq→bJ)(xs:List V)(n4:Int)(s:Nat)(m:Nat)(j:Nat)(b:Nat)(vs:List V)(G:List aQ):Prop:=∀ a:Prop,(∀ (pd cL c),pd.length=m→dK (b+31*m) cL c→dI aa (14*m) vs cL→(∀ q∈pd,kz aa cL q.1 q.2)→(∀ n acc Q aT,(∀ aT,Q (acc++l3 pd) ⟨xY xs n4 (.int (s:Nat)),[],c,aT⟩)→dB (cD (T aa (n+11)) ae ub ae) ((kq j m).map λi=>V.int (i:Nat)) ⟨xY xs n4 (.int (s:Nat)),[],G,aT⟩ acc Q)→a)→a
theorem Nx(f:oj aa):∀ {m j b:Nat} {vs:List V} {G:List aQ},dK b vs G→b+31*m+200<2^20→vs.length+14*m≤60→Ny aa xs n4 s m j b vs G:=by
  intro m
  induction m with
  | zero=>
    intro j b vs G W ak g;exact(λ_ aj=>aj [] vs G rfl W (.refl vs) (λag m=>absurd m c4) (λn acc Q aT q=>by have:=q aT;rwa [show l3 []=[] from rfl,fL] at this))
  | succ m h=>
    intro j b vs G W ak g;refine(Nw (aa:=aa) (sm:=((j:Nat):Int)==((s:Nat):Int)) W (by lia) (UT ‹_› rfl rfl) f) _ λv1 p cO bM e g1 c d=>?_;obtain l1:=g1.len;refine(h (j:=j+1) (e.up (show b+30≤b+31 by lia)) (by lia) (by lia)) _ λpd v2 eJ i aY g2 cz aJ=>?_;refine(λ_ aj=>aj ((p,cO) :: pd) v2 eJ (congrArg (·+1) i) (aY.up (by lia)) (g1.trans g2 (by lia)) (λq a=>?_) (λn acc Q aT q=>?_))
    · rcases b9.mp a with rfl | a
      · exact c.b4 g2
      · exact cz q a
    · refine hs _ _ _ (Q6 (eq_int rfl (d n _ _ (aJ n _ _ _ λaT=>?_))));rw [eM];exact q aT
noncomputable abbrev xZ(xs:List V)(n4:Int)(y5:V)(pd:List (V×V)):List (Option cA):=[ab (.list xs),ab (.aB 1),ab az,ab (.list pp),ab (.int n4),ab y5,ab (.list (l3 pd)),ae,ae,ae,ae,ae,ae,ae,ae]
noncomputable abbrev eN(pd:List (V×V)):List V:=pd.map (·.1)
theorem Sf(f:pd.length≤3):∀ {m j:Nat},j+m=pd.length→cz (λx y=>∀ k:Option V→aA→Prop,(∀ aT,k (U y) ⟨xZ xs n4 y5 pd,[],G,aT⟩)→cD (T aa (n+1)) ae uc ae x ⟨xZ xs n4 y5 pd,[],G,[]⟩ k) ((kq j m).map λi=>V.int (i:Nat)) (g5 j ((eN pd).drop j)):=by
  intro m
  induction m with
  | zero=>
    intro j h;exact ac (Gl (by rw [fn];exact gR (xB ‹_›))) .nil
  | succ m e=>
    intro j h;obtain⟨q,a⟩:∃ q,pd[j]?=U q:=⟨_,fm (by lia)⟩
    obtain b:(l3 pd)[j]?=U (.ao [q.1,q.2]):=by refine ac (qa) ?_;refine ac a ?_;rfl
    obtain c:(eN pd).drop j=q.1 :: (eN pd).drop (j+1):=by refine ac (tw (by rw [fn];lia)) ?_;rewrite [List.getElem_map];rw [fm (by lia)] at a;exact ac (aX a) rfl
    exact ac c (.cons (λk d=>Q7 (f5 (C3 (by lia)) (by decide) (vj _ n _ _ (f5 (S:=St G) b (by rw [fn];exact dE ‹_› rfl) (jw (S:=St G) (bN rfl) rfl (d _)))))) (e (by lia)))
noncomputable abbrev oh(xs:List V)(n4:Int)(y5:V)(pd:List (V×V))(rows:List V)(y8:V):List (Option cA):=[ab (.list xs),ab (.aB 1),ab az,ab (.list pp),ab (.int n4),ab y5,ab (.list (l3 pd)),ab (.list rows),ab y8,ae,ae,ae,ae,ae,ae]
noncomputable def Ph(aa:aq→bJ)(xs:List V)(rows:List V)(n4:Int)(y5:V)(y8:V)(pd:List (V×V))(ps:List V)(j:Nat)(b:Nat)(vs:List V)(G:List aQ):Prop:=∀ c:Prop,(∀ (ks cL d),ks.length=ps.length→dK (b+ps.length) cL d→dI aa (2*ps.length) vs cL→(∀ k∈ks,b7 aa 6 k)→((∀ (i:Nat) k,ks[i]?=U k→hI k∧∃ p,ps[i]?=U p∧lB cL (j+i) p k))→((∀ (i a:Nat),ks[i]?=U (ref a)→vs.length<a∧a≤cL.length))→((∀ (i e a:Nat),ks[i]?=U (ref a)→ks[e]?=U (ref a)→i=e))→(∀ n acc (Q:List V→aA→Prop) aT,(∀ aT,Q (acc++ks) ⟨oh xs n4 y5 pd rows y8,[],d,aT⟩)→dB (cD (T aa (n+3)) ae qz ae) (g5 j ps) ⟨oh xs n4 y5 pd rows y8,[],G,aT⟩ acc Q)→c)→c
theorem Pg:∀ {ps:List V} {j b:Nat} {vs:List V} {G:List aQ},dK b vs G→b+ps.length+200<2^20→vs.length+2*ps.length<60→(∀ p∈ps,b7 aa 4 p)→j+ps.length≤3→Ph aa xs rows n4 y5 y8 pd ps j b vs G:=by
  intro ps
  induction ps with
  | nil=>
    intro j b vs G W ak z t y;exact(λ_ aj=>aj [] vs G rfl W (.refl vs) (λag m=>absurd m c4) (λi k h=>nn h) (λi a h=>nn h) (λi o a h=>nn h) (λn acc Q aT q=>by have:=q aT;rwa [fL] at this))
  | cons p r D=>
    intro j b vs G W ak z t y;rw [gg] at ak z y;have t1:b7 aa 0 (fo j):=pR _ _ (by rcases j with _ | _ | _ | j <;>exact al rfl)
    have t2:b7 aa 6 (.dict [(33,.list [fo j,fo j]),(27,.list [fo j,p])]):=fi (hY ((nP (λx m=>by
      rcases b9.mp m with rfl | m
      · exact t1
      · refine ac (dx.mp m) ?_;exact t1) (al rfl)).mono (by decide)) (e3 (nP (l:=4) (λx m=>by
      rcases b9.mp m with rfl | m
      · exact t1.mono (by decide)
      · refine ac (dx.mp m) ?_;exact t p (.head _)) (al rfl)))) (al rfl)
    refine(jA (aa:=aa) (x:=.dict [(33,.list [fo j,fo j]),(27,.list [fo j,p])]) W (by lia) (by lia) (t2.mono (by decide))) _ λv1 k bM A d w=>?_;obtain l1:=d.b4.len;refine aI (d.du 0 _ (.base (su _))) λe le v=>(D (j:=j+1) A (by lia) (by lia) (λp bt=>t p (.tail _ bt)) (by lia)) _ λks v2 eJ lk aY g2 cj C s hd aJ=>?_;obtain bY:=g2.len;obtain Pp:v1.length≤v2.length:=by refine aI g2 λws e _=>?_;exact ac e (ac gP (eA _ _))
    obtain ej:hI k:=by
      refine aS d.val (λe=>?_) λu=>aI u λa e _=>?_
      · exact .inr ⟨_,e⟩
      · exact .inl ⟨a,e⟩
    have lo:∀ a,k=ref a→vs.length<a∧a≤v1.length:=λa e=>by
      refine aS d.val (λf=>?_) λu=>aI u λb f l=>?_
      · obtain f:=e▸f;exact nomatch f
      · obtain f:=e▸f;have:a=b:=by injection f with _ h;injection h with h _;injection h with h;exact tp h
        exact ac this l
    obtain E:vs.length≤v1.length:=by refine aI d.b4 λws e _=>?_;exact ac e (ac gP (eA _ _))
    refine(λ_ aj=>aj (k :: ks) v2 eJ (congrArg (·+1) lk) (aY.up (by refine ac gg ?_;lia)) (d.b4.trans g2 (by refine ac gg ?_;lia)) (λx c=>?_) (λi x c=>?_) (λi a c=>?_) (λi o a c g=>?_) (λn acc Q aT q=>?_))
    · clear lo ej v w;rcases b9.mp c with rfl | c
      · exact mn d t2
      · exact cj x c
    · rcases i with _ | i
      · exact bG (aX c) ⟨ej,p,rfl,e,_,by exact leB ‹_› rfl,g2.du v,rfl,rfl,rfl⟩
      · have:=C i x c;obtain this:=(show j+1+i=j+(i+1) by exact nZ _ _ _)▸this;exact this
    · rcases i with _ | i
      · have:=lo a (aX c);lia
      · have:=s i a c;lia
    · rcases i with _ | i <;>rcases o with _ | o
      · rfl
      · obtain B:=lo a (aX c);have h2:=s o a g;lia
      · obtain B:=lo a (aX g);have h2:=s i a c;lia
      · exact ac (hd i o a c g) rfl
    · refine hs _ _ _ (Q8 (f5 (xs:=[fo j,p]) (i:=0) rfl (al rfl) (f5 (S:=St G) (xs:=[fo j,p]) (i:=0) rfl (al rfl) (c5 rfl rfl (al rfl) (w n _ _ (aJ n _ _ _ λaT=>?_))))));rw [eM];exact q aT
end
section
variable{aa:aq→bJ}{G:List aQ}{vs:List V}{R:List (Nat×V)}{B:V}
theorem Bx(h:dz d t)(l:d≤64)(q:Q af):b3 aF t t S Q:=by have e:=h.eq;have p:=dt h.dep l;clear h;cases t with|aB g=>exact nn e|_=>exact cu (P:=λb=>_∧Q b) e ⟨p,q⟩
noncomputable abbrev ud(xs:List V)(n4:Int)(y5:V)(pd:List (V×V))(rows:List V)(y8 hE hD:V)(fJ fj fk:Option cA):List (Option cA):=[ab (.list xs),ab (.aB 1),ab az,ab (.list pp),ab (.int n4),ab y5,ab (.list (l3 pd)),ab (.list rows),ab y8,ab hE,ab hD,ab (.aB 4),fJ,fj,fk]
noncomputable def qB(aa:aq→bJ)(vs:List V)(q:V×V)(x:Str×Bool):Prop:=∃ v e h gd g8,e≤10∧cU vs e q.1 v∧yc aa vs v q.2 h gd g8 x.1 x.2
noncomputable abbrev jP(g0 g1:aQ)(vs:List V)(R:List (Nat×V))(ws:List V):List aQ:=[g0,g1,.id (eL vs),.cY R,.list ws]
noncomputable abbrev TS(aa:aq→bJ)(vs:List V)(R:List (Nat×V))(g0:aQ)(g1:aQ)(n:Nat)(xs:List V)(rows:List V)(n4:Int)(y5:V)(y8:V)(hE:V)(hD:V)(pd:List (V×V))(Q':fc)(m:Nat)(j:Nat)(wa:List V)(fJ:Option cA)(fj:Option cA)(fk:Option cA):Prop:=forL [12] ah (cV (T aa (n+16)) uB) ((kq j m).map λi=>V.int (i:Nat)) ⟨ud xs n4 y5 pd rows y8 hE hD fJ fj fk,[],jP g0 g1 vs R wa,[]⟩ Q'
theorem TR(D:Doc vs (eN pd) R B)(E:vs.length<80):∀ {m j:Nat} {b:List (Str×Bool)} {wa:List V} {fJ fj fk:Option cA},j+m=pd.length→cz (qB aa vs) (pd.drop j) b→wa.length≤j→(∀ fJ fj fk,Q' .next ⟨ud xs n4 y5 pd rows y8 hE hD fJ fj fk,[],jP g0 g1 vs R (wa++eO j b),[]⟩)→TS aa vs R g0 g1 n xs rows n4 y5 y8 hE hD pd Q' m j wa fJ fj fk:=by
  intro m
  induction m with
  | zero=>
    intro j b wa fJ fj fk z hf k q;rw [Gl (gR (xB ‹_›))] at hf;cases hf;have:=q fJ fj fk
    rw [FW,fL] at this;exact this
  | succ m I=>
    intro j b wa fJ fj fk z hf k q;have y:=D.three
    rw [fn] at y;obtain⟨f,g⟩:∃ f,pd[j]?=U f:=⟨_,fm (by lia)⟩
    have x:pd.drop j=f :: pd.drop (j+1):=by refine ac (tw (by lia)) ?_;rw [fm (by lia)] at g;exact ac (aX g) rfl
    rw [x] at hf;rcases hf with _ | @⟨_,⟨s,e⟩,_,b,⟨v,d,h,gd,g8,ld,F,H⟩,C⟩
    have A:iv (jP g0 g1 vs R wa) vs R:=⟨⟨rfl,E⟩,rfl⟩
    obtain w:(l3 pd)[j]?=U (.ao [f.1,f.2]):=by refine ac (qa) ?_;refine ac g ?_;rfl
    obtain ep:(eN pd)[j]?=U f.1:=by refine ac (qa) ?_;refine ac g ?_;rfl
    refine aC (Fm (aa:=aa) (t:=j) D A (by lia) (.inl ⟨by rw [fn];lia,ep⟩) F (dE ‹_› rfl)) λo p=>?_;obtain r:ea (jP g0 g1 vs R wa) (vs++[]):=by rw [fL];exact A.toea
    refine RF (f5 (C3 (by lia)) (by decide) (H.Oc [] _ _ 8 r o p n _ _ (f5 (S:=St (jP g0 g1 vs R wa)) w (by rw [fn];exact dE ‹_› rfl) (jw (S:=St (jP g0 g1 vs R wa)) (bN rfl) rfl (H.cO _ (n+13) _ _ ⟨rfl,Ru (bu (c:=!true) rfl (bc.eq λL i=>H.FT.eq _ _ ?_))⟩)))));have next:∀ a:List V,a.length≤j+1→(a++eO (j+1) b=wa++eO j ((s,e) :: b))→L (jP g0 g1 vs R a):=λa l u=>by
      subst i;have:=I (j:=j+1) (wa:=a) (fJ:=ab (.int (j:Nat))) (fj:=ab (.bool af)) (fk:=ab gd) (by lia) C l λfJ fj fk=>by refine ac u ?_;exact q fJ fj fk
      exact this
    clear q;cases e with
    | true=>exact bu rfl (next wa (qe ‹_›) (by rewrite [pW];exact ac (if_pos rfl) rfl))
    | false=>
      refine ci rfl (bk rfl (by lia) (FV (by lia) H.FT.str H.len ⟨rfl,by lia,next _ (by refine ac gP ?_;exact ll k) ?_⟩));rewrite [pW];refine ac (if_neg (by decide)) ?_;rewrite [eM];rfl
theorem Oe(h:∀ q∈pd,kz aa vs q.1 q.2):∃ c,cz (qB aa vs) pd c:=rR λq b=>by obtain⟨_,e,v,le,F,eE⟩:=h q b;refine(Nu eE) _ λh gd g8 s a H=>?_;exact⟨(s,a),v,e,h,gd,g8,le,F,H⟩
noncomputable def Og(aa:aq→bJ)(vs:List V)(pd:List (V×V))(b:List (Str×Bool)):Prop:=∀ a:Prop,(∀ (ws),cz (λp v=>∃ e,e<30∧cU vs e p v) (eN pd) ws→cz (λv p=>ue aa vs v p.1 p.2) ws b→a)→a
theorem Of:∀ {pd:List (V×V)} {c:List (Str×Bool)},cz (qB aa vs) pd c→Og aa vs pd c:=λq=>by
  induction q with
  | nil=>exact(λ_ aj=>aj [] .nil .nil)
  | cons a _ d=>
    refine HM a λv e h gd g8 le F H=>d _ λws a b=>?_;exact(λ_ aj=>aj (v :: ws) (.cons (aM e (dE ‹_› rfl) F) a) (.cons (cJ g8 H.U2 H.len λG A=>H.word [] G (by rw [fL];exact A)) b))
theorem LO(D:Doc vs (eN pd) R B)(g:vs.length<80)(k:cz (qB aa vs) pd b)(f:dz (2*l+5) t)(o:l≤10)(tell:∀ G,ea G vs→G[3]?=U (.cY R)→bK aa (l+5) 533 [az] G t G):
    ∃ d,∀ n Q X fJ fj fk,Q (.bool af) d→aZ (T aa (n+20)) aN un ⟨ud xs n4 y5 pd rows y8 hE t fJ fj fk,[],jP g0 g1 vs R (eO 0 b),[]⟩ (a9 Q) (bf X):=by
  refine(Of k) _ λws gd g8=>?_;refine(Nn (aa:=aa) (g0:=g0) (g1:=g1) (cF:=.list (eO 0 b)) D g gd g8) _ λd e h F=>?_;obtain A:iv (jP g0 g1 vs R (eO 0 b)) vs R:=⟨⟨rfl,g⟩,rfl⟩
  refine aC (U6 0 b) λge m=>⟨d,λn Q X fJ fj fk q=>Rt (bc.eq λj i=>Od D A (n+4) _ _ ⟨rfl,rfl,bu (c:=!fS 95 95) rfl (bk rfl rfl (((tell _ A.toea A.hZ).up (show l+5≤20 by lia)) n _ _ (Bx f (by lia) ?_)))⟩)⟩;subst i;exact F (n+10) _ _ (cu (a:=eO 0 b) (by show d[4]?.bind lM=_;refine ac h ?_;rfl) (cu ge ⟨m,bu rfl (bk rfl rfl (((tell _ e.toea e.hZ).up (show l+5≤20 by lia)) n _ _ (Bx f (by lia) q)))⟩))
end
section
variable{aa:aq→bJ}{G:List aQ}
noncomputable abbrev Uv(aa:aq→bJ)(G:List aQ)(xs:List V)(rows:List V)(y5:V)(te:List (Nat×V))(pd:List (V×V)):Prop:=∃ a,∀ n Q X,Q (.bool af) a→aZ (T aa (n+20)) aN mT ⟨oh xs (pd.length:Nat) y5 pd rows (.dict te),[],G,[]⟩ (a9 Q) (bf X)
theorem Fz(W:dK b vs G)(ak:b+300<2^20)(ce:vs.length≤48)(a1:∀ v∈vs,b7 aa 10 v)(A:b7 aa 8 (.dict te))(hf:∀ q∈pd,kz aa vs q.1 q.2)(V:1≤pd.length)(Y:pd.length≤3)
    (tree:∀ cL B d,dI aa 6 vs cL→d≤2→cU cL d B (.dict te)→(∀ a,B=ref a→vs.length<a)→lJ cL (eN pd) B):Uv aa G xs rows y5 te pd:=by
  refine(jA (aa:=aa) (x:=.dict te) W (dE ‹_› rfl) (eB (eA _ _) ‹_›) (A.mono (by decide))) _ λv1 B bM O f L=>?_;have l1:=f.b4.len
  obtain ap:=mn f A;refine aI (f.du 0 _ (.base (su _))) λP bm H=>?_;have C:b7 aa 9 (.dict [(98,B)]):=fi (e3 ap) (al rfl)
  refine(jA (aa:=aa) (x:=.dict [(98,B)]) O (by lia) (ew ‹_› rfl) (C.mono (by decide))) _ λv2 N eJ aY p aJ=>?_;have bY:=p.b4.len
  obtain as:=mn p C;refine aI (p.du 0 _ (.base (su _))) λS bs cz=>?_;have hZ:b7 aa 10 (.dict [(27,N)]):=fi (e3 as) (al rfl)
  refine(jA (aa:=aa) (x:=.dict [(27,N)]) aY (by lia) (by lia) hZ) _ λv3 z cd r i M=>?_;have wk:=i.b4.len
  refine aI (i.du 0 _ (.base (su _))) λT ca w=>?_;obtain s:dI aa 2 v2 v3:=i.b4;have m:dI aa 4 v1 v3:=p.b4.trans i.b4 (by decide)
  have k:dI aa 6 vs v3:=f.b4.trans m (by decide);obtain cl:vs.length≤v1.length:=by refine aI f.b4 λws e _=>?_;rw [e,gP];exact eA _ _
  obtain E:∀ v∈v3,b7 aa 10 v:=λv o=>by
    clear m i s w wk r;refine c0 k λws F _ my=>?_;obtain rfl:=F;refine aS (dj.mp o) (λo=>?_) λo=>?_
    · exact a1 v o
    · exact my v o
  refine aI r λq _ r=>?_;obtain⟨cs,a,mm,a4,a2⟩:=r;have D:Doc v3 (eN pd) [(25,z)] B:=by
    refine⟨(ji T S N (leB ‹_› rfl) (leB ‹_› rfl) w (s.du cz)),tree v3 B P k ‹_› (m.du H) λa e=>?_,?_,by rw [fn];exact V,by rw [fn];exact Y⟩
    · refine aS f.val (λg=>?_) λu=>c0 u λc g l _=>?_
      · obtain g:=e▸g;exact nomatch g
      · obtain g:=e▸g;have:a=c:=by injection g with _ h;injection h with h _;injection h with h;exact tp h
        lia
    · refine aS f.val (λe=>?_) λu=>aI u λc e _=>?_
      · exact .inr ⟨_,e⟩
      · exact .inl ⟨c,e⟩
  refine aG (Oe (pd:=pd) λq Z=>(hf q Z).b4 k) λcm y=>aI (UM (aa:=aa) (l:=10) (vs:=v3) (R:=[(25,z)]) E (e3 (mn i hZ)) (by lia) (al rfl)) λt am tell=>aG (LO (g0:=.list cs) (g1:=.list [.aB 0,.int a,.int q,.int mm]) (xs:=xs) (rows:=rows) (n4:=(pd.length:Nat)) (y5:=y5) (y8:=.dict te) (hE:=.dict [(98,B)]) D (by lia) y am (by decide) tell) λI fin=>⟨I,λn Q X q=>Rs (L (n+17) _ _ (c5 rfl rfl (al rfl) (aJ (n+17) _ _ (c5 rfl rfl (al rfl) (M (n+17) _ _ ⟨al rfl,rfl,rfl,((tell _ ⟨rfl,by lia⟩ rfl).up (show 15≤20 by decide)) n _ _ (c5 rfl (fK _) (xG.mpr (leB ‹_› rfl)) ?_)⟩)))))⟩;rw [kc];exact TR (n:=n+4) D (by lia) (j:=0) (wa:=[]) (mN _) y (eg _) λfJ fj fk=>fin n Q X fJ fj fk q
theorem DA(hf:∀ q∈pd,kz aa vs q.1 q.2):∀ p∈eN pd,b7 aa 4 p:=λp bt=>by refine aI (fw.mp bt) λq b a=>?_;obtain rfl:=a;exact(hf q b).told
theorem Se:∀ {j:Nat} {ps:List V},j+ps.length≤3→(∀ p∈ps,b7 aa 4 p)→∀ x∈gc j ps,b7 aa 4 x:=by
  intro j ps
  induction ps generalizing j with
  | nil=>
    intro _ _ x a;exact absurd a c4
  | cons p r d=>
    intro c h x a;rw [gg] at c;refine aS (b9.mp a) (λb=>?_) λa=>?_
    · obtain rfl:=b;exact(pR _ _ (by rcases j with _ | _ | _ | j <;>exact al rfl)).mono (by decide)
    · refine aS (b9.mp a) (λb=>?_) λa=>?_
      · obtain rfl:=b;exact h _ (.head _)
      · exact d (by lia) (λp bt=>h p (.tail _ bt)) x a
theorem EV:∀ j ps,(g5 j ps).length=ps.length|_,[]=>rfl|j,_ :: r=>congrArg (·+1) (EV (j+1) r)
theorem Pr(y:∀ x∈xs,∃ i,x=.int i)(R:xs.length≤63)(ce:oj aa):∃ b,bK aa 21 822 [.list xs] [] (.bool af) b:=by
  refine aG (U3 (aa:=aa) y R) λmm am=>?_;obtain bm:dK 0 [] [.list xs,.list [.aB 0,.int 0,.int 0,.int mm],.id (eL []),.cY []]:=(aM 0 (eg _) (.mk xs 0 mm y R))
  refine(gk (aa:=aa) bm (m:=3) (by decide) (by decide) (by decide)) _ λr bM ds bs ap=>?_;refine(gk (aa:=aa) bs (m:=3) (by decide) (by decide) (by decide)) _ λs eJ d1 aY aJ=>?_;refine(Nx (aa:=aa) (xs:=xs) (n4:=((r+1:Nat):Int)) (s:=s) ce (m:=r+1) (j:=0) aY (by lia) (by simp;lia)) _ λpd v3 Z V ca g3 u as=>?_;have wk:v3.length≤42:=by have:=g3.len;simp at this;lia
  have E:∀ v∈v3,b7 aa 10 v:=λv f=>by refine c0 g3 λws t _ my=>?_;clear g3;obtain rfl:=t;exact my v (by simpa using f)
  have em:(eN pd).length=r+1:=by rewrite [fn];exact ac V rfl
  refine(gk (aa:=aa) ca (m:=2) (by decide) (by decide) (by lia)) _ ?_;intro k H cs L a1;obtain rest:∀ b,(∀ n (Q X:el),Q (.bool af) b→(b3 aF (.int (k:Nat)) (.int 0) (St H) λN=>if N=af then((g5 0 (eN pd)).length≤2^20∧(g5 0 (eN pd)).length≤2^20∧dB (cD (T aa (n+20)) ae qz ae) (g5 0 (eN pd)) ⟨oh xs ((r+1:Nat):Int) (.int (s:Nat)) pd (g5 0 (eN pd)) (.dict [(27,.list (gc 0 (eN pd)))]),[],H,[]⟩ [] λI o=>ah=ah∧1=1∧1≤15∧aZ (T aa (n+20)) aN mT ⟨o.bB.set 8 (ab (.dict [(38,(.list I))])),o.aR,o.aE,[]⟩ (a9 Q) (bf X))
      else aZ (T aa (n+20)) aN mT ⟨oh xs ((r+1:Nat):Int) (.int (s:Nat)) pd (g5 0 (eN pd)) (.dict [(27,.list (gc 0 (eN pd)))]),[],H,[]⟩ (a9 Q) (bf X)))→∃ b,bK aa 21 822 [.list xs] [] (.bool af) b:=λb h=>⟨b,λn Q X q=>by
    refine SZ (am (n+19) _ _ (I9 2 3 (n+19) _ _ ⟨rfl,ap (n+19) _ _ (aJ (n+19) _ _ ⟨rfl,?_⟩)⟩));obtain cd:(1+((r:Nat):Int))=((r+1:Nat):Int):=by lia
    refine ac cd ?_;refine(c5 (fK _) (by lia) (by rw [mq];exact leB ‹_› rfl) ?_);rw [kc];refine as (n+9) _ _ _ λaT=>?_;rw [mK];refine Rq (c5 (fK _) (by lia) (by rw [mq];exact leB ‹_› rfl) ?_);rw [kc];refine lY (Sf (aa:=aa) (G:=Z) (xs:=xs) (n4:=((r+1:Nat):Int)) (y5:=.int (s:Nat)) (n:=n+19) (pd:=pd) (by lia) (j:=0) (by lia)) λaT=>?_;refine ac List.drop_zero ?_;exact Rr (QH rfl (cu (EU 0 (eN pd)) (uP (by rw [w8];lia) rfl rfl (al rfl) (a1 (n+19) _ _ (h n Q X q)))))⟩
  obtain W:(g5 0 (eN pd)).length≤2^20:=by rw [EV];lia
  obtain n4:((r+1:Nat):Int)=((pd.length:Nat):Int):=by exact ac V rfl
  rcases k with _ | _ | k
  · refine(Pg (aa:=aa) (xs:=xs) (rows:=g5 0 (eN pd)) (n4:=((r+1:Nat):Int)) (y5:=.int (s:Nat)) (y8:=.dict [(27,.list (gc 0 (eN pd)))]) (pd:=pd) (ps:=eN pd) (j:=0) L (by lia) (by lia) (DA u) (by lia)) _ λks cf cn lk M w cj z A P a2=>?_;obtain wl:=w.len;obtain Y:∀ v∈cf,b7 aa 10 v:=λv f=>by
      clear wl A z M;refine c0 w λws t _ my=>?_;clear w;obtain rfl:=t;refine aS (dj.mp f) (λf=>?_) λf=>?_
      · exact E v f
      · exact my v f
    refine aG (Fz (aa:=aa) (xs:=xs) (rows:=g5 0 (eN pd)) (y5:=.int (s:Nat)) (te:=[(38,.list ks)]) (pd:=pd) M (by lia) (by lia) Y (fi (e3 (nP cj (by lia))) (al rfl)) (λq cm=>(u q cm).b4 w) (by lia) (by lia) λcL B d g l F O=>
      .kids (leB ‹_› rfl) F ‹_› (λi x y=>by
        obtain⟨ej,p,bt,d2,es,ld,cz,D,C,S⟩:=z i x y;rw [mN] at D C;exact⟨ej,p,bt,d2,es,ld,g.du cz,D,C,S⟩) (λi j a au cl=>P i j a au cl) λi a au e=>by
        obtain co:=A i a au;obtain h2:=O a e;lia) λb fin=>?_
    refine rest b λn Q X q=>eq_int (c:=af) (by decide) (ci rfl (bk W W (a2 (n+17) _ _ _ λaT=>(c5 rfl rfl (al rfl) ?_))));rewrite [mK];exact ac n4 (fin n Q X q)
  · refine aG (Fz (aa:=aa) (xs:=xs) (rows:=g5 0 (eN pd)) (y5:=.int (s:Nat)) (te:=[(27,.list (gc 0 (eN pd)))]) (pd:=pd) L (by lia) (leB ‹_› rfl) E ((fi (e3 (nP (Se (by lia) (DA u)) (by rw [w8];lia))) (al rfl)).mono (by decide)) u (by lia) (by lia) λcL B d g l F O=>.flat (leB ‹_› rfl) F) λb fin=>rest b λn Q X q=>eq_int (c:=ah) (by decide) (bu rfl ?_);exact ac n4 (fin n Q X q)
  · lia
end
theorem BH(h:0≤b):(dY x b).natAbs≤x.natAbs:=by exact ac (Ge _ h) (Int.natAbs_ediv_le_natAbs x b)
theorem bits_le{a:Int}{p:Nat}(h:a.natAbs<2^p):mC a≤p:=by
  unfold mC;split
  · exact di _
  · rename_i z;have:a.natAbs≠0:=λq=>z (by simp [Gg.mp q])
    exact Wr ((xP this).mpr h)
theorem sk(c:a.natAbs<2^p)(h2:b.natAbs<2^q)(h:p+q≤100000):gy a b:=by
  unfold gy;obtain b0:=bits_le c;obtain cB:=bits_le h2;have:Vm ((mC a:Int)+(mC b:Int))=ah:=by
    unfold Vm;refine decide_eq_false ?_;show ¬ ((bitsLine:Nat):Int)<_;have:(100000:Int)≤((bitsLine:Nat):Int):=by decide +kernel
    lia
  refine ac this ?_;rewrite [tf];exact λq=>cb q
section
variable{aa:aq→bJ}
noncomputable def h4(aa:aq→bJ)(k:Nat)(a:aq)(xs:List V)(r:V):Prop:=∀ G,bK aa k a xs G r G
theorem se{a:Int}(h:a.natAbs≤j*P):a.natAbs≤(j+1)*P:=dt h (Nat.mul_le_mul_right P (i4 j))
theorem wo{a c:Int}(h:a.natAbs≤j*P)(k:c.natAbs≤P):(a+c).natAbs≤(j+1)*P:=by rw [Nat.succ_mul];exact dt (VE a c) (xN h k)
theorem CF{a c:Int}(h:a.natAbs≤j*P)(k:c.natAbs≤P):(a-c).natAbs≤(j+1)*P:=by refine ac Int.sub_eq_add_neg ?_;exact wo h (by rw [Int.natAbs_neg];exact k)
noncomputable def Tu(aa:aq→bJ)(P:Nat)(m:Nat)(j:Nat)(a:Int)(b:Int)(c:Int)(v3:Option cA):Prop:=∀ d:Prop,(∀ e f v2 g,e.natAbs≤(j+m)*P→f.natAbs≤(j+m)*P→(∀ n G Q',Q' .next ⟨[ab (.int e),ab (.int f),v2,g],[],G,[]⟩→forL [3] ah (cV (T aa n) uq) ((kq j m).map λi=>V.int (i:Nat)) ⟨[ab (.int a),ab (.int b),ab (.int c),v3],[],G,[]⟩ Q')→d)→d
theorem Tt:∀ {m j:Nat} {a b c:Int} {v3:Option cA},j+m≤1000→a.natAbs≤j*P→b.natAbs≤j*P→c.natAbs≤P→Tu aa P m j a b c v3:=by
  intro m
  induction m with
  | zero=>
    intro j a b c v3 h d ak a4;exact(λ_ aj=>aj a b _ _ d ak (λn G Q' q=>q))
  | succ m o=>
    intro j a b c v3 h d ak a4;obtain⟨e,b0,k,h2,run⟩:∃ e b0:Int,e.natAbs≤(j+1)*P∧b0.natAbs≤(j+1)*P∧∀ {mS:V→V→Prop},mS (.int e) (.int b0)→((4:Int)≠0∧0≤64∧if((dm (j:Nat) 4)==0)=af then(mS (.int a) (.int (b+c))) else((4:Int)≠0∧0≤64∧if((dm (j:Nat) 4)==1)=af then(mS (.int (a+c)) (.int b)) else((4:Int)≠0∧0≤64∧if((dm (j:Nat) 4)==2)=af then(mS (.int a) (.int (b-c))) else(mS (.int (a-c)) (.int b))))):=by
      cases s:(dm (j:Nat) 4)==0 with
      | true=>exact(dL a (b+c) (se d) (wo ak a4) λp=>(bk (by decide) (al rfl) p))
      | false=>
        cases t:(dm (j:Nat) 4)==1 with
        | true=>exact(dL (a+c) b (wo d a4) (se ak) λp=>(bk (by decide) (al rfl) ⟨by decide,al rfl,p⟩))
        | false=>
          cases u:(dm (j:Nat) 4)==2 with|true=>exact(dL a (b-c) (se d) (CF ak a4) λp=>(bk (by decide) (al rfl) ⟨by decide,al rfl,by decide,al rfl,p⟩))|false=>exact(dL (a-c) b (CF d a4) (se ak) λp=>(bk (by decide) (al rfl) ⟨by decide,al rfl,by decide,al rfl,p⟩))
    refine(o (j:=j+1) (a:=e) (b:=b0) (c:=dY c ((j:Nat)+1)) (v3:=ab (.int (j:Nat))) (by lia) k h2 (dt (BH (fK _)) a4)) _ λi cB v2 g bX cw f=>?_;rw [show j+1+m=j+(m+1) by exact nZ _ _ _] at bX cw;obtain sm:(((j:Nat):Int)+1).natAbs<2^250:=by
      have:(((j:Nat):Int)+1).natAbs≤1000:=by exact CG ‹_› rfl
      exact eB this (by decide)
    exact(λ_ aj=>aj i cB v2 g bX cw (λn G Q' q=>Rv (bc.eq λr l=>run (mS:=r) (by subst l;exact(bk (by lia) (iG sm) (f n G Q' q))))))
noncomputable def Tw(aa:aq→bJ):Prop:=∀ c:Prop,(∀ a b,a.natAbs<2^210→b.natAbs<2^210→h4 aa 1 158 [] (.ao [.int a,.int b])→c)→c
theorem Tv:Tw aa:=by refine(Tt (aa:=aa) (P:=10^60) (m:=60) (j:=0) (a:=0) (b:=0) (c:=10^60) (v3:=ae) (by decide) (by decide) (by decide) (by decide)) _ λa b v2 v3 d h2 run=>?_;refine(λ_ aj=>aj a b (eB d (by decide)) (eB h2 (by decide)) (λG n Q X q=>Sj (bk (by decide) (by decide) ?_)));refine ac (show(60:Int)=((60:Nat):Int) from rfl) ?_;rewrite [kc];exact run n G _ (Q9 q)
theorem CW{a b:Int}(c:a.natAbs<2^p)(h2:b.natAbs<2^q):(a*b).natAbs<2^(p+q):=by rw [Int.natAbs_mul,Nat.pow_add];exact Nat.mul_lt_mul'' c h2
theorem FH{a b c d x:Int}(f:a.natAbs<2^210)(ak:b.natAbs<2^210)(a4:c.natAbs<2^p)(hd:d.natAbs<2^p)(g:x.natAbs≤(c*b).natAbs+(d*a).natAbs):(dY x (10^60)).natAbs<2^(p+211):=by refine eB (BH (by decide)) ?_;obtain e:=CW a4 ak;obtain h2:=CW hd f;refine ac (show p+211=(p+210)+1 from rfl) ?_;rewrite [Nat.pow_succ,Nat.mul_two];exact eB g (Nat.add_lt_add e h2)
theorem Qs(o:a.natAbs<2^210)(ak:b.natAbs<2^210):∀ {m j:Nat} {c d:Int} {cS:List V} {cf:Option cA},j+m≤64→c.natAbs<2^(211*(j+1))→d.natAbs<2^(211*(j+1))→cS.length≤j→(∀ x∈cS,∃ i,x=.int i)→
    ∃ l v2 v3 k,l.length=cS.length+m∧(∀ x∈l,∃ i,x=.int i)∧∀ n G Q',Q' .next ⟨[ab (.int a),ab (.int b),v2,v3,U (.cv 0),k],[.list l],G,[]⟩→
    forL [5] ah (cV (T aa n) ur) ((kq j m).map λi=>V.int (i:Nat)) ⟨[ab (.int a),ab (.int b),ab (.int c),ab (.int d),U (.cv 0),cf],[.list cS],G,[]⟩ Q':=by
  intro m
  induction m with
  | zero=>
    intro j c d cS cf h a4 hd t au;exact(uS cS _ _ _ rfl au λn G Q' q=>q)
  | succ m u=>
    intro j c d cS cf h a4 hd t au;obtain e:211*(j+1)+211=211*(j+1+1):=by rfl
    obtain p:=FH (x:=c*b+d*a) o ak a4 hd (VE _ _);obtain r:=FH (x:=d*b-c*a) o ak hd a4 (Int.natAbs_sub_le _ _);rw [e] at p r;refine uO (u (j:=j+1) (cS:=cS++[.int (dY (((c.natAbs:Nat):Int)*4294967296) (10^60))]) (cf:=ab (.int (j:Nat))) (by lia) p r (by simp;lia) λx g=>by
      rcases dj.mp g with g | g
      · exact au x g
      · exact⟨_,dx.mp g⟩) λl v2 v3 k s h2 run=>?_
    obtain s1:211*(j+1)+210≤100000:=by lia
    have f:(10^60:Int).natAbs<2^250:=by decide
    exact(uS l v2 v3 k (by refine ac s ?_;refine ac gP ?_;simp;lia) h2 λn G Q' q=>Rw ⟨rfl,Qd (by decide),by decide,iG f,rfl,by lia,sk a4 ak s1,sk hd o s1,by decide,iG f,sk hd ak s1,sk a4 o s1,by decide,iG f,rfl,run n G Q' q⟩)
noncomputable def Qu(aa:aq→bJ):Prop:=∀ a:Prop,(∀ l,l.length=64→(∀ x∈l,∃ i,x=.int i)→h4 aa 2 165 [] (.list l)→a)→a
theorem Qt:Qu aa:=by refine(Tv (aa:=aa)) _ λa b e ak S=>?_;refine uO (Qs (aa:=aa) e ak (m:=64) (j:=0) (c:=a) (d:=b) (cS:=[]) (cf:=ae) (by decide) (GC e (Wo (by decide) (by decide))) (GC ak (Wo (by decide) (by decide))) (eg _) (λx m=>absurd m c4)) λl v2 v3 cf f h2 run=>(λ_ aj=>aj l (by refine ac f ?_;rfl) h2 (λG n Q X q=>Sk (S G n _ _ ⟨rfl,Ra ⟨rfl,by decide,by decide,?_⟩⟩)));refine ac (show(64:Int)=((64:Nat):Int) from rfl) ?_;rewrite [kc];exact run (n+1) G _ (Rb (aa:=aa) (n:=n+1) (X:=X) q)
noncomputable def J7(f:Nat→V→aA→(Option V→aA→Prop)→Prop)(P:Int→Prop)(vs:List aQ→List (Option cA))(m:Nat):Prop:=∀ a:Prop,(∀ (is:List Int),is.length=m→(∀ i∈is,P i)→(∀ n G Q,(∀ aT,Q (is.map V.int) ⟨vs G,[],G,aT⟩)→∀ aT,dB (f n) ((kq 0 m).map λi=>V.int (i:Nat)) ⟨vs G,[],G,aT⟩ [] Q)→a)→a
theorem AW(e:∀ n G x aT k,f n x ⟨vs G,[],G,[]⟩ k→f n x ⟨vs G,[],G,aT⟩ k)(h:∀ j<m,∃ i:Int,P i∧∀ n G k,(∀ aT,k (U (.int i)) ⟨vs G,[],G,aT⟩)→f n (.int (j:Nat)) ⟨vs G,[],G,[]⟩ k):J7 f P vs m:=by
  refine aG (rR (xs:=kq 0 m) (P:=λj (i:Int)=>P i∧∀ n G (k:Option V→aA→Prop),(∀ aT,k (U (.int i)) ⟨vs G,[],G,aT⟩)→f n (.int ((j:Nat):Int)) ⟨vs G,[],G,[]⟩ k) λj g=>h j (by rw [List.mem_range'_1] at g;lia)) λis b=>?_;obtain d:=rQ b;rw [List.length_range'] at d;refine(λ_ aj=>aj is d.symm (vK (R:=P) (λag ag z=>z.1) b) (λn G Q q aT=>?_));obtain go:∀ {c:List Nat} {is:List Int},cz (λj i=>P i∧∀ n G k,(∀ aT,k (U (.int i)) ⟨vs G,[],G,aT⟩)→f n (.int ((j:Nat):Int)) ⟨vs G,[],G,[]⟩ k) c is→cz (λx o=>∀ k:Option V→aA→Prop,(∀ aT,k o ⟨vs G,[],G,aT⟩)→f n x ⟨vs G,[],G,[]⟩ k) (c.map λi=>V.int ((i:Nat):Int)) ((is.map V.int).map U):=λ{c is} hh=>by induction hh with|nil=>exact .nil|cons a _ l=>exact .cons (a.2 n G) l
  refine j0 (e n G) (go b) λaT=>ac BN ?_;rewrite [mK];exact q aT
theorem ints_map(is):allInts (is.map V.int)=U is:=by induction is with|nil=>rfl|cons i r a=>show lZ (U i) (allInts (r.map V.int))=_;refine ac a ?_;rfl
theorem pk(w:Int)(e:m≤8):∃ b:Array UInt8,b.size=m∧h4 aa 1 170 [.int w,.int (m:Nat)] (.bytes b):=by
  refine AW (f:=λn=>cD (T aa n) ae tY ae) (P:=λi=>0≤i∧i<256) (vs:=λag=>[ab (.int w),ab (.int (m:Nat))]) (λn G x aT k h=>hs x aT k h) (m:=m) (λj d=>?_) _ ?_
  · refine(aM (dm (dY w (256^j)) 256) ⟨xF _ (by decide),xE _ (by decide)⟩ λn G k a=>QU (bk (fK _) ?_ ⟨?_,iG ?_,by decide,a _⟩))
    · have:mC 256=9:=by decide +kernel
      refine ac this ?_;lia
    · show(256:Int)^(((j:Nat):Int).toNat)≠0;exact Int.pow_ne_zero (by decide)
    · show((256:Int)^(((j:Nat):Int).toNat)).natAbs<_;rw [Int.natAbs_pow,tq];exact eB (Nat.pow_le_pow_right (by decide) (show j≤8 by exact iM (hj ‹_› ‹_›) rfl)) (by decide)
  intro is c bt run;refine(aM ((is.map λi=>n8 i.toNat).toArray) (by simp [c]) λG n Q X q=>Sl (c5 (fK _) (xG.mpr (leB ‹_› rfl)) (by rw [mq];exact leB ‹_› rfl) ?_));rw [kc];exact run n G _ (λaT=>(cu (ints_map is) (bk bt (by lia) q))) []
theorem RG(h:oc.size≤55):∃ d:Array UInt8,d.size=64∧h4 aa 2 177 [.bytes oc] (.bytes d):=by
  refine aI (pk (aa:=aa) (8*(oc.size:Int)) (m:=8) (by decide)) λb ak f=>?_;have e:dm (55-(oc.size:Int)) 64=((55-oc.size:Nat):Int):=by refine ac (VB _ (by decide)) ?_;lia
  obtain c:(h3 (((55-oc.size:Nat):Int)).toNat [V.int 0]).flatten=h3 (55-oc.size) (V.int 0):=by
    rw [tq]
    induction (55-oc.size) with|zero=>rfl|succ k g=>refine ac Wc ?_;refine ac List.flatten_cons (ac g ?_);rfl
  obtain a:[V.int 128]++h3 (55-oc.size) (V.int 0)=((128:Int) :: h3 (55-oc.size) 0).map V.int:=by refine ac fa ?_;refine ac List.map_replicate ?_;rfl
  refine(aM ((oc++(((128:Int) :: h3 (55-oc.size) 0).map λi=>n8 i.toNat).toArray)++b) (by simp [ak];lia) λG n Q X q=>?_);refine Sm (n:=n+1) (c5 (leB ‹_› rfl) (by decide) (leB ‹_› rfl) ?_);refine ac e (uP rfl (fK _) (by lia) (by simp;lia) ?_);refine ac c ⟨by simp;lia,?_⟩;refine ac a (cu (ints_map _) (bk (λi au=>?_) (by simp;lia) ⟨by simp;lia,by exact leB ‹_› rfl,hT (by decide),f G n _ _ ⟨by simp [ak];lia,q⟩⟩));rcases b9.mp au with rfl | au
  · decide
  · refine ac ((List.mem_replicate.mp au).2) ?_;decide
theorem U5(h:oc.size=4):∃ w:Int,h4 aa 1 184 [.bytes oc] (.int w):=⟨_,λG n Q X q=>Sn ⟨by decide,by lia,by exact leB (gR ‹_›) rfl,by decide,by lia,by exact leB (gR ‹_›) rfl,by decide,by lia,by exact leB (gR ‹_›) rfl,by decide,by lia,by exact leB (gR ‹_›) rfl,hT (by decide),hT (by decide),hT (by decide),q⟩⟩
theorem A6{α:Type}{xs:List α}{a b:Nat}(c:a≤b)(h2:b≤xs.length):(cut xs (U (a:Int)) (U (b:Int))).length=b-a:=by show((xs.drop (clipAt xs.length a)).take (clipAt xs.length b-clipAt xs.length a)).length=_;exact ac (rC h2) (ac (rC (dt c h2)) (ac jI (ac qb (n1 (Nat.sub_le_sub_right h2 a)))))
theorem U7{oc:Array UInt8}(h:oc.size=64):∃ ws:List Int,ws.length=16∧h4 aa 2 189 [.bytes oc] (.list (ws.map V.int)):=by
  refine AW (f:=λn=>cD (T aa (n+1)) ae tZ ae) (P:=λag=>True) (vs:=λag=>[ab (.bytes oc)]) (λn G x aT k h=>hs x aT k h) (m:=16) (λj e=>?_) _ ?_
  · refine aG (U5 (aa:=aa) (oc:=(cut oc.toList (U ((4*j:Nat):Int)) (U ((4*j+4:Nat):Int))).toArray) (by
      have:=A6 (xs:=oc.toList) (a:=4*j) (b:=4*j+4) (eA _ _) (by refine ac tc ?_;lia)
      simpa using this)) λw hw=>?_
    exact(aM w trivial λn G k c=>QV ⟨hT (by decide),hT (by decide),by exact leB (gR ‹_›) rfl,hw G n _ _ (c _)⟩)
  intro is d _ run;refine(aM is d λG n Q X q=>So (n:=n+1) (c5 (by decide) (by decide) (by decide) ?_));refine ac (show(16:Int)=((16:Nat):Int) from rfl) ?_;rewrite [kc];exact run n G _ (λaT=>q) []
theorem P8(i b c d):∃ r:Int,h4 aa 1 196 [.int i,.int b,.int c,.int d] (.int r):=by
  cases a:i==0 with
  | true=>exact⟨_,λG n Q X q=>sI ⟨al rfl,ci a q⟩⟩
  | false=>
    cases e:i==1 with
    | true=>exact⟨_,λG n Q X q=>sI ⟨al rfl,bu a ⟨al rfl,ci e q⟩⟩⟩
    | false=>
      cases h2:i==2 with|true=>exact⟨_,λG n Q X q=>sI ⟨al rfl,bu a ⟨al rfl,bu e ⟨al rfl,ci h2 q⟩⟩⟩⟩|false=>exact⟨_,λG n Q X q=>sI ⟨al rfl,bu a ⟨al rfl,bu e ⟨al rfl,bu h2 q⟩⟩⟩⟩
theorem U4(h:hR<4)(m):∃ r:Nat,r<16∧h4 aa 1 203 [.int (hR:Nat),.int m] (.int (r:Nat)):=by
  obtain go:∀ i:Int,(∀ P,P (.int i)→cr (.ao [.int m,.int ((5*m)+1),.int ((3*m)+5),.int (7*m)]) (.int (hR:Nat)) (St []) P)→∃ r:Nat,r<16∧h4 aa 1 203 [.int (hR:Nat),.int m] (.int (r:Nat)):=λi au=>by obtain a:=xF i (show(0:Int)<16 by decide);obtain b:=xE i (show(0:Int)<16 by decide);refine(aM ((dm i 16).toNat) (by lia) λG n Q X q=>Sp (c5 (hT (by decide)) (hT (by decide)) (hT (by decide)) (au _ ⟨by decide,?_⟩)));rw [Gh a] at q;exact q
  rcases hR with _ | _ | _ | _ | hR
  · exact go _ λP p=>⟨bN rfl,p⟩
  · exact go _ λP p=>⟨bN rfl,p⟩
  · exact go _ λP p=>⟨bN rfl,p⟩
  · exact go _ λP p=>⟨bN rfl,p⟩
  · lia
theorem Sc(b:0≤w)(c:w<4294967296)(a:0≤m)(ih:m≤32):∃ r:Int,h4 aa 1 210 [.int w,.int m] (.int r):=⟨_,λG n Q X q=>Sq (c5 a (p8 ‹_› (by decide)) (by lia) ⟨by lia,q⟩)⟩
noncomputable def UQ(hR:Nat)(i:Nat):Prop:=∀ b:Prop,(∀ m,0≤m→m≤32→(∀ G P,P (.int m)→cr (jv.getD 11 .none) (.int (hR:Nat)) (St G) λa=>(4:Int)≠0∧cr a (.int (i:Nat)) (St G) P)→b)→b
theorem UP(h:hR<4)(au:i<4):UQ hR i:=by
  rcases hR with _ | _ | _ | _ | hR
  · rcases i with _ | _ | _ | _ | i
    · exact(λ_ aj=>aj 7 (by decide) (by decide) (λG P p=>⟨bN rfl,by decide,bN rfl,p⟩))
    · exact(λ_ aj=>aj 12 (by decide) (by decide) (λG P p=>⟨bN rfl,by decide,bN rfl,p⟩))
    · exact(λ_ aj=>aj 17 (by decide) (by decide) (λG P p=>⟨bN rfl,by decide,bN rfl,p⟩))
    · exact(λ_ aj=>aj 22 (by decide) (by decide) (λG P p=>⟨bN rfl,by decide,bN rfl,p⟩))
    · lia
  · rcases i with _ | _ | _ | _ | i
    · exact(λ_ aj=>aj 5 (by decide) (by decide) (λG P p=>⟨bN rfl,by decide,bN rfl,p⟩))
    · exact(λ_ aj=>aj 9 (by decide) (by decide) (λG P p=>⟨bN rfl,by decide,bN rfl,p⟩))
    · exact(λ_ aj=>aj 14 (by decide) (by decide) (λG P p=>⟨bN rfl,by decide,bN rfl,p⟩))
    · exact(λ_ aj=>aj 20 (by decide) (by decide) (λG P p=>⟨bN rfl,by decide,bN rfl,p⟩))
    · lia
  · rcases i with _ | _ | _ | _ | i
    · exact(λ_ aj=>aj 4 (by decide) (by decide) (λG P p=>⟨bN rfl,by decide,bN rfl,p⟩))
    · exact(λ_ aj=>aj 11 (by decide) (by decide) (λG P p=>⟨bN rfl,by decide,bN rfl,p⟩))
    · exact(λ_ aj=>aj 16 (by decide) (by decide) (λG P p=>⟨bN rfl,by decide,bN rfl,p⟩))
    · exact(λ_ aj=>aj 23 (by decide) (by decide) (λG P p=>⟨bN rfl,by decide,bN rfl,p⟩))
    · lia
  · rcases i with _ | _ | _ | _ | i
    · exact(λ_ aj=>aj 6 (by decide) (by decide) (λG P p=>⟨bN rfl,by decide,bN rfl,p⟩))
    · exact(λ_ aj=>aj 10 (by decide) (by decide) (λG P p=>⟨bN rfl,by decide,bN rfl,p⟩))
    · exact(λ_ aj=>aj 15 (by decide) (by decide) (λG P p=>⟨bN rfl,by decide,bN rfl,p⟩))
    · exact(λ_ aj=>aj 21 (by decide) (by decide) (λG P p=>⟨bN rfl,by decide,bN rfl,p⟩))
    · lia
  · lia
noncomputable def four(a b c d:Int):V:=.ao [.int a,.int b,.int c,.int d]
noncomputable def T7(aa:aq→bJ)(a:Int)(b:Int)(c:Int)(d:Int)(m:Int)(ws:List Int)(i:Nat):Prop:=∀ e:Prop,(∀ f g h j,h4 aa 2 217 [four a b c d,.list (ws.map V.int),.int (i:Nat),.int m] (four f g h j)→e)→e
theorem T6(hw:ws.length=16)(au:i<64):T7 aa a b c d m ws i:=by
  obtain g:dY ((i:Nat):Int) 16=((i/16:Nat):Int):=by refine ac (Ge _ (by decide)) ?_;rfl
  obtain h:dm ((i:Nat):Int) 4=((i%4:Nat):Int):=by refine ac (VB _ (by decide)) ?_;rfl
  refine aG (P8 (aa:=aa) ((i/16:Nat):Int) b c d) λo j=>aI (U4 (aa:=aa) (hR:=i/16) (by lia) ((i:Nat):Int)) λf bY h2=>?_;obtain⟨w,e⟩:∃ w,(ws.map V.int)[f]?=U (.int w):=⟨ws[f]'(by lia),by refine ac (qa) ?_;refine ac (fm (by lia)) ?_;rfl⟩
  refine(UP (hR:=i/16) (i:=i%4) (by lia) (by lia)) _ λt t0 t1 l=>?_;refine aG (Sc (aa:=aa) (w:=dm (((a+o)+w)+m) 4294967296) (m:=t) (xF _ (by decide)) (xE _ (by decide)) t0 t1) λp k=>(λ_ aj=>aj d (dm (b+p) 4294967296) b c (λG n Q X q=>Sr (n:=n+1) (c5 rfl (by decide) (iG (by decide)) ?_)));exact ac g (ac h (j G n _ _ (h2 G n _ _ (f5 (S:=St G) e (by rw [fn];exact dE (gR ‹_›) rfl) ⟨by decide,l G _ (k G n _ _ ⟨by decide,q⟩)⟩))))
noncomputable def IZ(aa:aq→bJ)(xs:List V)(zs:List V)(oc:Array UInt8)(ws:List Int)(m:Nat)(j:Nat)(a:Int)(b:Int)(c:Int)(d:Int)(cf:Option cA):Prop:=∀ e:Prop,(∀ g h k l f,(∀ n G Q',Q' .next ⟨[ab (.ao xs),ab (.bytes oc),ab (.list zs),ab (.list (ws.map V.int)),ab (four g h k l),f],[],G,[]⟩→forL [5] ah (cV (T aa (n+2)) ut) ((kq j m).map λi=>V.int (i:Nat)) ⟨[ab (.ao xs),ab (.bytes oc),ab (.list zs),ab (.list (ws.map V.int)),ab (four a b c d),cf],[],G,[]⟩ Q')→e)→e
theorem IY(hw:ws.length=16)(hz:zs.length=64)(au:∀ z∈zs,∃ i,z=.int i):∀ {m j:Nat} {a b c d:Int} {cf:Option cA},j+m=64→IZ aa xs zs oc ws m j a b c d cf:=by
  intro m
  induction m with
  | zero=>
    intro j a b c d cf h;exact(λ_ aj=>aj a b c d cf (λn G Q' q=>q))
  | succ m o=>
    intro j a b c d cf h;obtain⟨z,e⟩:∃ z,zs[j]?=U z:=⟨_,fm (by lia)⟩
    refine aG (au z (qc e)) λk f=>?_;obtain rfl:=f;refine(T6 (aa:=aa) (a:=a) (b:=b) (c:=c) (d:=d) (m:=k) (i:=j) hw (by lia)) _ λg b0 dQ d1 S=>?_;refine(o (j:=j+1) (a:=g) (b:=b0) (c:=dQ) (d:=d1) (cf:=ab (.int (j:Nat))) (by lia)) _ λl cB fe d2 p run=>?_;exact(λ_ aj=>aj l cB fe d2 p (λn G Q' q=>Rx (f5 e (dE (gR ‹_›) rfl) (S G n _ _ (run n G Q' q)))))
noncomputable def I1(aa:aq→bJ)(a:Int)(b:Int)(c:Int)(d:Int)(oc:Array UInt8)(zs:List V):Prop:=∀ e:Prop,(∀ f g h i,h4 aa 3 222 [four a b c d,.bytes oc,.list zs] (four f g h i)→e)→e
theorem I0(g:oc.size=64)(hz:zs.length=64)(au:∀ z∈zs,∃ i,z=.int i):I1 aa a b c d oc zs:=by refine aI (U7 (aa:=aa) g) λws hw W=>(IY (aa:=aa) (xs:=[.int a,.int b,.int c,.int d]) (oc:=oc) hw hz au (m:=64) (j:=0) (a:=a) (b:=b) (c:=c) (d:=d) (cf:=ae) rfl) _ λf b0 dQ d1 cf run=>?_;refine(λ_ aj=>aj (dm (a+f) 4294967296) (dm (b+b0) 4294967296) (dm (c+dQ) 4294967296) (dm (d+d1) 4294967296) (λG n Q X q=>Ss (n:=n+2) (W G n _ _ (bk (by decide) (by decide) ?_))));refine ac (show(64:Int)=((64:Nat):Int) from rfl) ?_;rewrite [kc];refine run n G _ (Rc (bk (al rfl) (al rfl) ⟨al rfl,?_⟩));obtain it:∀ {x y:Int} {n:Nat} {vs:List (Option cA)} {k:Option V→aA→Prop} {cf:Option cA},(∀ aT,k (U (.int (dm (x+y) 4294967296))) ⟨[ab (.ao [.int a,.int b,.int c,.int d]),ab (.bytes oc),ab (.list zs),ab (.list (ws.map V.int)),ab (four f b0 dQ d1),cf],[],G,aT⟩)→cD (T aa n) (U 2) t4 ae (.ao [.int x,.int y]) ⟨[ab (.ao [.int a,.int b,.int c,.int d]),ab (.bytes oc),ab (.list zs),ab (.list (ws.map V.int)),ab (four f b0 dQ d1),cf],[],G,[]⟩ k:=λe=>QW ⟨rfl,by decide,e _⟩;exact j0 (os:=[U _,U _,U _,U _]) (λx aT k h=>hs x aT k h) (.cons (λk e=>it (vs:=[]) e) (.cons (λk e=>it (vs:=[]) e) (.cons (λk e=>it (vs:=[]) e) (.cons (λk e=>it (vs:=[]) e) .nil)))) λaT=>⟨al rfl,q⟩
theorem Kv:oj aa:=λbw h=>by
  refine(Qt (aa:=aa)) _ λl r p N=>?_;refine aI (RG (aa:=aa) h) λfY hd P=>?_;obtain j1:(cut fY.toList (U (0:Int)) (U (0+64:Int))).toArray.size=64:=by
    have:=A6 (xs:=fY.toList) (a:=0) (b:=64) (by decide) (by refine ac tc ?_;exact gR (xB ‹_›))
    simpa using this
  refine(I0 (aa:=aa) (a:=1732584193) (b:=4023233417) (c:=2562383102) (d:=271733878) (oc:=(cut fY.toList (U (0:Int)) (U (0+64:Int))).toArray) (zs:=l) j1 r p) _ λa b c d B=>?_;refine aI (pk (aa:=aa) a (m:=4) (by decide)) λb0 s1 f=>aI (pk (aa:=aa) b (m:=4) (by decide)) λcB s2 g=>aI (pk (aa:=aa) c (m:=4) (by decide)) λeh s j=>aI (pk (aa:=aa) d (m:=4) (by decide)) λc1 t o=>⟨b0++cB++eh++c1,by simp [s1,s2,s,t],λG n Q X q=>?_⟩;refine Su (n:=n+3) (N G (n+1) _ _ (P G (n+1) _ _ (cu (a:=fY.size) rfl ⟨by exact leB (gR ‹_›) rfl,?_⟩)));refine ac hd (qJ (by decide) (by decide) (by decide) (by decide) (by decide) (by decide) ?_);refine ac (show(dw 0 ((64:Nat):Int) 64).map V.int=[.int 0] from rfl) (Ry (i:=0) (y1:=.list l) (y2:=.bytes fY) (y3:=four 1732584193 4023233417 2562383102 271733878) ⟨by exact leB (gR ‹_›) rfl,B G n _ _ (Rd ⟨rfl,cu rfl (bk (al rfl) (al rfl) ?_)⟩)⟩);exact j0 (os:=[U _,U _,U _,U _]) (λx aT k h=>hs x aT k h) (.cons (λk e=>sy (f G (n+2) _ _ (e _))) (.cons (λk e=>sy (g G (n+2) _ _ (e _))) (.cons (λk e=>sy (j G (n+2) _ _ (e _))) (.cons (λk e=>sy (o G (n+2) _ _ (e _))) .nil)))) λaT=>⟨rfl,cu rfl (HW b0 cB eh c1 rfl rfl (leB (gR ‹_›) rfl) (leB (gR ‹_›) rfl) (leB (gR ‹_›) rfl) (leB (gR ‹_›) rfl) q)⟩
theorem Ps(c:∀ x∈xs,∃ i,x=.int i)(b:xs.length≤63):∃ a,bK aa 21 822 [.list xs] [] (.bool af) a:=Pr c b Kv
end
theorem ints_rep(h:tr vs is):ba c Z ga vs (is.map V.int):=ES h
theorem Xz(X:lF c aF aN l5)(D:∀ a d,fU (fh c.K) a=U d→ky c l5 a d)
    (ap:A.frames=U [env]) (hh:A.handled=ae) (hd:A.depth+50<recursionLimit) (bs:A.units+400<cLine) (hf:env.frame=U env.locals) (as:env.globals=mainGlobals) (ak:env.builtins=builtinsNs) (g:env.scope=fh c.K 822)
    (w:env.cells=cellsFrom (env.locals+1) env.scope.names []) (F:Fr c.ak env.locals s.heap m) (cells:∀ p∈env.cells,(∃ gw,s.heap.IsCell p.2 gw)∧env.locals<p.2) (E:(env.cells.map (·.2)).Nodup)
    (g1:s.gens=c.gens) (g2:s.drawn=c.drawn) (g3:s.os=c.os) (z:env.kindOf "script"= U .local) (a1:m "script"= U (.ref a)) (O:c.ak.IsList a vs.toArray) (au:tr vs is) (I:is.length≤63)
    (y:ia l5 (.def ⟨fh c.K 822,ft.nm,ft.np⟩) iC body=af):
    aD c.M A (execs body env) (λf s'=>f=.ret (.bool af)∧(∃ m',Fr c.ak env.locals s'.heap m')∧s'.gens=c.gens∧s'.os=c.os) (λag ag=>False) s:=by
  obtain T:=D 822 (ft.def (fh c.K)) (by unfold fU;refine ac (show nO.lookup 822=U ft by kernel_rfl) ?_;rfl);obtain K:=T.br;refine aG (Ps (aa:=fh c.K) (xs:=is.map V.int) (λx B=>let ⟨i,_,e⟩:=fw.mp B;⟨i,e.symm⟩) (by rw [fn];exact I)) λC L=>?_;obtain⟨L⟩:=L 0 (λr ag=>r=.bool af) (λag ag=>False) rfl;obtain W:aZ {aF with call:=h9 aF aN (fU (fh c.K)) 20} aN iC ⟨gV ⟨fh c.K 822,ft.nm,ft.np⟩ [.val (.list (is.map V.int))],[],[],[]⟩ (λH S=>(match H with | .ret x=>x | .next=>.none)=.bool af) (λx S=>False):=by
    obtain a2:fU (fh c.K) 822=U (ft.def (fh c.K)):=by unfold fU;refine ac (show nO.lookup 822=U ft by kernel_rfl) ?_;rfl
    obtain L:jY aF aN (fU (fh c.K)) (h9 aF aN (fU (fh c.K)) 20) _ _ _ _ _:=L
    delta jY at L
    obtain L:=a2▸L;exact L.2.2
  obtain N:cN c {aF with call:=h9 aF aN (fU (fh c.K)) 20} aN l5 A:=X.snd (λbW C e=>JM X D 20 bW C (by refine ac e ?_;lia) (by refine ac e ?_;lia)) (ew ‹_› rfl)
  let J:bo:=⟨A,env,env,[],ft.nm,[],ah⟩
  obtain G:J.Ok:=⟨ap,hh,hf,by show env.scope.kind=_;refine ac g ?_;exact K.kind,by show env.scope.kind=_;refine ac g ?_;exact K.kind,as,ak,K.nodup,.nil,by show A.units+100<_;exact ew ‹_› rfl,by show A.depth<_;exact eB (eA _ _) ‹_›,λag=>rfl⟩
  obtain M:eo J (.def ⟨fh c.K 822,ft.nm,ft.np⟩):=⟨G,rfl,(λh=>cb h),rfl,g,g,λx B=>by show(env.cells.lookup x).isSome=af;refine ac w ?_;exact rv (by refine ac g ?_;exact B),(λh=>cb h)⟩
  obtain R:=xf N iC body _ J _ _ _ y rfl M rfl W;have t:∀ b,b∈b6 J ⟨gV ⟨fh c.K 822,ft.nm,ft.np⟩ [.val (.list (is.map V.int))],[],[],[]⟩ ⟨m,m,[],[],[]⟩→b=env.locals∨b∈env.cells.map (·.2):=λb ak=>by
    obtain ak:=fF▸ak;simp only [dj,b9] at ak;rcases ak with(h | h) | h | h | h | h | h
    · exact .inl h
    · exact absurd h c4
    · exact .inr h
    · exact absurd h c4
    · exact absurd h c4
    · exact absurd h c4
    · exact absurd h c4
  have old:∀ b∈b6 J ⟨gV ⟨fh c.K 822,ft.nm,ft.np⟩ [.val (.list (is.map V.int))],[],[],[]⟩ ⟨m,m,[],[],[]⟩,c.ak.get? b=ae:=λb ak=>by
    rcases t b ak with rfl | h
    · exact jH F.above
    · refine aI (fw.mp h) λp bt Q=>?_;clear h ak;obtain rfl:=Q;exact jH (dt F.above (iu (cells p bt).2))
  obtain n:∀ b o,c.ak.get? b=U o→(ar J ⟨gV ⟨fh c.K 822,ft.nm,ft.np⟩ [.val (.list (is.map V.int))],[],[],[]⟩ ⟨m,m,[],[],[]⟩ s.heap).get? b=U o:=λb o e=>fg (F.keep b o e) λq=>by obtain e:=(old b q)▸e;exact nn e
  obtain sat:av c J ⟨gV ⟨fh c.K 822,ft.nm,ft.np⟩ [.val (.list (is.map V.int))],[],[],[]⟩ ⟨m,m,[],[],[]⟩ s:=by
    refine⟨g1,g2,g3,F.keep,F.above,F.ns,(λh=>cb h),λk x Y l h2=>?_,(λk x Y l h2=>by simp at h2),λx cl h=>(cells _ h).1,rfl,rfl,(λi a o h=>by simp at h),(λi a o h=>by simp at h),?_,old,λb ak=>?_,?_⟩
    · rcases k with _ | k
      · obtain l:("script":Str)=x:=aX l;obtain h2:cA.val (.list (is.map V.int))=Y:=aX (aX h2);clear ak;subst l h2;refine aI O λo Z am=>?_;clear O;exact(aM (.ref a) (.inl ⟨z,a1⟩) (.list (aM o (n _ _ Z) am) (ints_rep au)))
      · exfalso;unfold gV at h2;rw [xI (al rfl)] at h2;obtain h2:=(VS)▸h2;split at h2 <;>cases h2
    · refine ac fF ?_;have:(env.locals :: env.cells.map (·.2)).Nodup:=e5.mpr ⟨λq=>by
        refine aI (fw.mp q) λp bt e=>?_;have:=(cells p bt).2
        obtain this:=e▸this;exact absurd this (gA _),E⟩
      simpa [J,bo.dN,bo.cl,bo.dR,pg,PE] using this
    · rcases t b ak with rfl | h
      · exact jg F.ns λo _ _ e _=>⟨o,e⟩
      · refine aI (fw.mp h) λp bt P=>?_;clear h ak;obtain rfl:=P;refine aC (cells p bt) λu _=>dP u λgw o e _=>?_;clear u;exact⟨o,e⟩
    · refine(bk (by refine ac g ?_;refine ac (show(fh c.K 822).kind=_ from K.kind) ?_;decide) ?_ trivial);exact kK F.ns λo es ep e hd _=>(jh env.locals o hf (jH F.above) e λvs q=>by obtain q:=hd▸q;exact nomatch q)
  refine cI (R _ s sat) (λf s' p=>?_) λe s' p=>?_
  · refine p _ λH S' W' q j st bm=>?_;refine(c5 ?_ ⟨_,j.ns,j.keep,j.above⟩ j.gens j.os);revert q;refine ho.lT bm (λq=>?_) λv x r q=>?_
    · exact nomatch q
    · have q:x=V.bool af:=q;rw [q] at r;exact ac r.inv rfl
  · refine p _ λx S' W' q _ _ _=>?_;exact q
theorem XA:∀ i j,i<iO→j<iO→bR i=bR j→i=j:=by
  obtain h:mf.Nodup:=wD (by kernel_rfl);have l:mf.length=iO:=by kernel_rfl
  refine bG l ?_;obtain P:=List.pairwise_iff_getElem.mp h;intro i j a h2 e;have b:mf[i]=mf[j]:=by
    have c:bR i=mf[i]:=by unfold bR;refine ac (xH) ?_;refine ac (fm a) ?_;rfl
    obtain d:bR j=mf[j]:=by unfold bR;refine ac (xH) ?_;refine ac (fm h2) ?_;rfl
    exact bG c (bG d e)
  refine aS (Nat.lt_trichotomy i j) (λq=>?_) λf=>aS f (λq=>?_) λq=>?_
  · exact absurd b (P i j a h2 q)
  · exact q
  · exact absurd b.symm (P j i h2 a q)
theorem Xp(X:CellsAre cm cs ns)(N:News h₀ L h ns):∀ p∈cs,∃ gw,h.IsCell p.2 gw:=by
  induction X with
  | nil=>exact nofun
  | @cons n c o cs ns e _ b=>
    intro p bt;rcases b9.mp bt with rfl | bt
    · exact⟨_,o,(N _ (.head _)).1,e⟩
    · exact b (λq a=>N _ (.tail _ a)) p bt
theorem Xs{L:Nat}{a b c d e:Str}:(∀ p∈[(a,L+1+1+1+1+1),(b,L+1+1+1+1),(c,L+1+1+1),(d,L+1+1),(e,L+1)],L<p.2):=by intro p bt;simp only [b9,c4,or_false] at bt;rcases bt with rfl | rfl | rfl | rfl | rfl <;>exact hj (qg L) (by simp)
theorem nz:[L+1+1+1+1+1,L+1+1+1+1,L+1+1+1,L+1+1,L+1].Nodup:=by simp;lia
theorem Xq(aW:c.Ok)(g:c.ls=bR)(i:c.nl=iO)(h:nO.all (λq=>Be c.K bR iO l5 q.1 (q.2.def (fh c.K)))=af)(a)(d)(e:fU (fh c.K) a=U d):ky c l5 a d:=by refine aI (qi.mp e) λr f b=>?_;clear e;obtain rfl:=b;exact Kn aW rfl (by refine ac g ?_;refine ac i ?_;exact qM h f)
end Mine.Internal
open PySem PySem.W PyProof.Rows
set_option Elab.async true
set_option tactic.hygienic true
set_option autoImplicit false
set_option maxHeartbeats 8000000
namespace Mine.top
theorem tw10001883323181062329:1=1:=rfl
theorem tw10005945817407372193:1=1:=rfl
theorem tw10008009275831360322:1=1:=rfl
theorem tw10008474027749305400:1=1:=rfl
theorem tw10017263926548143515:1=1:=rfl
theorem tw10079171474624433434:1=1:=rfl
theorem tw1016984595167383106:1=1:=rfl
theorem tw10187264123177260123:1=1:=rfl
theorem tw10187724287525710026:1=1:=rfl
theorem tw10194810499950245846:1=1:=rfl
theorem tw10195997230039290492:1=1:=rfl
theorem tw10242591131026960117:1=1:=rfl
theorem tw10245639961735157870:1=1:=rfl
theorem tw10276331973627342096:1=1:=rfl
theorem tw10296497611174029103:1=1:=rfl
theorem tw10328360990557673835:1=1:=rfl
theorem tw10362775142378211054:1=1:=rfl
theorem tw10399464001100048223:1=1:=rfl
theorem tw10404823597219466188:1=1:=rfl
theorem tw10414433010598505635:1=1:=rfl
theorem tw104434173382791472:1=1:=rfl
theorem tw10467260515200827399:1=1:=rfl
theorem tw105208000716104510:1=1:=rfl
theorem tw10562855833978642645:1=1:=rfl
theorem tw10567129059001840431:1=1:=rfl
theorem tw10574840078274726829:1=1:=rfl
theorem tw10577272966987657301:1=1:=rfl
theorem tw10579768621468169598:1=1:=rfl
theorem tw10648311167861321448:1=1:=rfl
theorem tw10657950659306570408:1=1:=rfl
theorem tw1068965626710143233:1=1:=rfl
theorem tw10694878333477680388:1=1:=rfl
theorem tw10701185355368383236:1=1:=rfl
theorem tw10774637447528242797:1=1:=rfl
theorem tw10783980745131425670:1=1:=rfl
theorem tw10797620697341660853:1=1:=rfl
theorem tw10864713392326063847:1=1:=rfl
theorem tw10871174231137468428:1=1:=rfl
theorem tw1088946173253831356:1=1:=rfl
theorem tw10903130990627817921:1=1:=rfl
theorem tw10915162052029792233:1=1:=rfl
theorem tw10936122117785486979:1=1:=rfl
theorem tw10956490626425055710:1=1:=rfl
theorem tw10987319290404115282:1=1:=rfl
theorem tw10996937224433265937:1=1:=rfl
theorem tw11045010717311733409:1=1:=rfl
theorem tw11053662475850362967:1=1:=rfl
theorem tw11072019736110318841:1=1:=rfl
theorem tw1112988674713690477:1=1:=rfl
theorem tw11131206648525784891:1=1:=rfl
theorem tw11141966352661209427:1=1:=rfl
theorem tw11145643937294416527:1=1:=rfl
theorem tw11173010173815179391:1=1:=rfl
theorem tw11189890337720088615:1=1:=rfl
theorem tw11199710921928265848:1=1:=rfl
theorem tw11204274270748810449:1=1:=rfl
theorem tw11240886729373846589:1=1:=rfl
theorem tw1124271682379634556:1=1:=rfl
theorem tw11334203419191126389:1=1:=rfl
theorem tw11334350811105764591:1=1:=rfl
theorem tw11334415319851112604:1=1:=rfl
theorem tw11377482038585738817:1=1:=rfl
theorem tw11383000496634168614:1=1:=rfl
theorem tw11423202765487971197:1=1:=rfl
theorem tw1142415686869020238:1=1:=rfl
theorem tw11430207588045935325:1=1:=rfl
theorem tw11443710868159068359:1=1:=rfl
theorem tw11457754044182789617:1=1:=rfl
theorem tw11459358961799972967:1=1:=rfl
theorem tw11466170419677230873:1=1:=rfl
theorem tw114735475811551136:1=1:=rfl
theorem tw1147548669246485465:1=1:=rfl
theorem tw1149218181149386328:1=1:=rfl
theorem tw11520865232209809239:1=1:=rfl
theorem tw11542710104232473196:1=1:=rfl
theorem tw11546936639936008217:1=1:=rfl
theorem tw11577829705659331004:1=1:=rfl
theorem tw11582926029173025856:1=1:=rfl
theorem tw11584198869435930015:1=1:=rfl
theorem tw11593399256984752444:1=1:=rfl
theorem tw11613256710310857696:1=1:=rfl
theorem tw11620634932572840514:1=1:=rfl
theorem tw1169771345039838236:1=1:=rfl
theorem tw11845233108574324481:1=1:=rfl
theorem tw11954765096360761043:1=1:=rfl
theorem tw11960245374511038805:1=1:=rfl
theorem tw11994683656316670133:1=1:=rfl
theorem tw12018453282940300196:1=1:=rfl
theorem tw12080426169559351053:1=1:=rfl
theorem tw12094960947251128927:1=1:=rfl
theorem tw1209819496270969543:1=1:=rfl
theorem tw12105128591322288922:1=1:=rfl
theorem tw12117888159696746259:1=1:=rfl
theorem tw1212798325632107971:1=1:=rfl
theorem tw12166907935582030026:1=1:=rfl
theorem tw12182655422080760471:1=1:=rfl
theorem tw12209373703501877683:1=1:=rfl
theorem tw12256363837256957063:1=1:=rfl
theorem tw12287887523310495049:1=1:=rfl
theorem tw12318557346453588183:1=1:=rfl
theorem tw12342655685612074800:1=1:=rfl
theorem tw12376051458212225564:1=1:=rfl
theorem tw12379415707883124570:1=1:=rfl
theorem tw12392516345856041104:1=1:=rfl
theorem tw12415523145999629524:1=1:=rfl
theorem tw12425085872883035938:1=1:=rfl
theorem tw1245559373397905713:1=1:=rfl
theorem tw12457743357615880810:1=1:=rfl
theorem tw12483720753089274532:1=1:=rfl
theorem tw12507017104952529904:1=1:=rfl
theorem tw12535971307161669396:1=1:=rfl
theorem tw12545222027267286695:1=1:=rfl
theorem tw12559286593441436923:1=1:=rfl
theorem tw12564220515667953714:1=1:=rfl
theorem tw12609604535291364189:1=1:=rfl
theorem tw12622177474791663080:1=1:=rfl
theorem tw12718909917080609646:1=1:=rfl
theorem tw1275901062530889299:1=1:=rfl
theorem tw12762922103008790111:1=1:=rfl
theorem tw12764151676501842404:1=1:=rfl
theorem tw12787338502077490372:1=1:=rfl
theorem tw12819366960792805191:1=1:=rfl
theorem tw1284575025550258836:1=1:=rfl
theorem tw12879618353801967718:1=1:=rfl
theorem tw12894197372075662830:1=1:=rfl
theorem tw12904532413392791838:1=1:=rfl
theorem tw1291508964198565346:1=1:=rfl
theorem tw1294077662247117797:1=1:=rfl
theorem tw12958502747184954254:1=1:=rfl
theorem tw12958664272152378060:1=1:=rfl
theorem tw1297684725254868899:1=1:=rfl
theorem tw13001836021917841797:1=1:=rfl
theorem tw13012589842206080548:1=1:=rfl
theorem tw13044034144603486326:1=1:=rfl
theorem tw13047834502658803893:1=1:=rfl
theorem tw13068111086705522682:1=1:=rfl
theorem tw13091174067606910046:1=1:=rfl
theorem tw13120753694373217308:1=1:=rfl
theorem tw13160728816969591200:1=1:=rfl
theorem tw13167462122316868159:1=1:=rfl
theorem tw13177472732611162249:1=1:=rfl
theorem tw13187519465064655849:1=1:=rfl
theorem tw1321871150748368714:1=1:=rfl
theorem tw13223034962123697568:1=1:=rfl
theorem tw13264354339760550358:1=1:=rfl
theorem tw13272337422414781067:1=1:=rfl
theorem tw132903981291199154:1=1:=rfl
theorem tw13303987763403120937:1=1:=rfl
theorem tw13305523845174962083:1=1:=rfl
theorem tw13318506193475082254:1=1:=rfl
theorem tw13326734554550294991:1=1:=rfl
theorem tw13345470168829271861:1=1:=rfl
theorem tw13359135706311490777:1=1:=rfl
theorem tw13369591340354186047:1=1:=rfl
theorem tw13370185576492129568:1=1:=rfl
theorem tw13370750898655102155:1=1:=rfl
theorem tw13420762306968818387:1=1:=rfl
theorem tw13432635357386499347:1=1:=rfl
theorem tw13500427573557490136:1=1:=rfl
theorem tw13501252493785611398:1=1:=rfl
theorem tw1353657120722975067:1=1:=rfl
theorem tw13549259019975226677:1=1:=rfl
theorem tw13635007476017903164:1=1:=rfl
theorem tw13713866747541496747:1=1:=rfl
theorem tw13799840507378627052:1=1:=rfl
theorem tw13802547742096326172:1=1:=rfl
theorem tw13822267516522204269:1=1:=rfl
theorem tw13852830345959847167:1=1:=rfl
theorem tw13864677062968915208:1=1:=rfl
theorem tw13889309363888878346:1=1:=rfl
theorem tw13889484949932952446:1=1:=rfl
theorem tw13890846271309207196:1=1:=rfl
theorem tw13896958669275611876:1=1:=rfl
theorem tw13899568491130100285:1=1:=rfl
theorem tw13922054642007902626:1=1:=rfl
theorem tw1394568958698188020:1=1:=rfl
theorem tw13968125046926948103:1=1:=rfl
theorem tw13975414291046593716:1=1:=rfl
theorem tw13983857475226248213:1=1:=rfl
theorem tw13985988839938425345:1=1:=rfl
theorem tw13987285891283452908:1=1:=rfl
theorem tw1400011881503588481:1=1:=rfl
theorem tw14042817526060737062:1=1:=rfl
theorem tw14142502885225118848:1=1:=rfl
theorem tw14145802354927516647:1=1:=rfl
theorem tw14168018189251442112:1=1:=rfl
theorem tw14214845130331304391:1=1:=rfl
theorem tw14235281626263879747:1=1:=rfl
theorem tw14248925298954806443:1=1:=rfl
theorem tw14263998999751124003:1=1:=rfl
theorem tw14282377253939248939:1=1:=rfl
theorem tw14317375437502057738:1=1:=rfl
theorem tw14371913498598963198:1=1:=rfl
theorem tw14372152842798730730:1=1:=rfl
theorem tw14390669486469195807:1=1:=rfl
theorem tw14399976873020721970:1=1:=rfl
theorem tw14402358008270493973:1=1:=rfl
theorem tw14453841093610474573:1=1:=rfl
theorem tw14459580976405569124:1=1:=rfl
theorem tw14466935161476858967:1=1:=rfl
theorem tw14502225709538309166:1=1:=rfl
theorem tw14526540143163920134:1=1:=rfl
theorem tw14537839394382259888:1=1:=rfl
theorem tw14547135557781690198:1=1:=rfl
theorem tw14597223018079223185:1=1:=rfl
theorem tw14608685727046917156:1=1:=rfl
theorem tw14611434983143301774:1=1:=rfl
theorem tw14615657086365298920:1=1:=rfl
theorem tw14657780768301432306:1=1:=rfl
theorem tw14671331368771545958:1=1:=rfl
theorem tw146815374380898660:1=1:=rfl
theorem tw14724332232928298890:1=1:=rfl
theorem tw14747140909534839006:1=1:=rfl
theorem tw14762295962024373759:1=1:=rfl
theorem tw14771320824794740959:1=1:=rfl
theorem tw14796646475526232899:1=1:=rfl
theorem tw14823308797102314842:1=1:=rfl
theorem tw14826035006057030972:1=1:=rfl
theorem tw1483126911874232274:1=1:=rfl
theorem tw14861896470697024400:1=1:=rfl
theorem tw1486479319815781832:1=1:=rfl
theorem tw14871320189489406401:1=1:=rfl
theorem tw14881336485824456254:1=1:=rfl
theorem tw14901070454687303710:1=1:=rfl
theorem tw14917401599646851644:1=1:=rfl
theorem tw14983691940233647259:1=1:=rfl
theorem tw14987219478266130788:1=1:=rfl
theorem tw15073315481182737699:1=1:=rfl
theorem tw15092371282622821202:1=1:=rfl
theorem tw15095372191486117680:1=1:=rfl
theorem tw15125931889511115149:1=1:=rfl
theorem tw1516213087968936877:1=1:=rfl
theorem tw15169761463676818070:1=1:=rfl
theorem tw15177526630643400193:1=1:=rfl
theorem tw15212760480394562756:1=1:=rfl
theorem tw15245507539482535896:1=1:=rfl
theorem tw15286249088069653756:1=1:=rfl
theorem tw15299407806266782574:1=1:=rfl
theorem tw15349318334595610263:1=1:=rfl
theorem tw15361541807878343388:1=1:=rfl
theorem tw15362295582089109014:1=1:=rfl
theorem tw15383718091736126541:1=1:=rfl
theorem tw15451780782824253742:1=1:=rfl
theorem tw15508944514630427714:1=1:=rfl
theorem tw15525995667512963556:1=1:=rfl
theorem tw15542334942015070624:1=1:=rfl
theorem tw15569959144833144457:1=1:=rfl
theorem tw15623792648095043764:1=1:=rfl
theorem tw15638586536077026902:1=1:=rfl
theorem tw15646934709686841381:1=1:=rfl
theorem tw15687709949711836451:1=1:=rfl
theorem tw15696354942287192291:1=1:=rfl
theorem tw15740088241188596515:1=1:=rfl
theorem tw15744752440731449612:1=1:=rfl
theorem tw15799541711010589177:1=1:=rfl
theorem tw1584292188352093569:1=1:=rfl
theorem tw1585457916280141200:1=1:=rfl
theorem tw15874363893724204672:1=1:=rfl
theorem tw15877122091014420850:1=1:=rfl
theorem tw15878805988109762761:1=1:=rfl
theorem tw15918733279669447828:1=1:=rfl
theorem tw15976228082101565994:1=1:=rfl
theorem tw16004416686337608138:1=1:=rfl
theorem tw16007503158450755388:1=1:=rfl
theorem tw16034636559557993077:1=1:=rfl
theorem tw16044733080236030384:1=1:=rfl
theorem tw16054190913257422852:1=1:=rfl
theorem tw16058212318047004132:1=1:=rfl
theorem tw16068562728529669930:1=1:=rfl
theorem tw16123964013534891561:1=1:=rfl
theorem tw16155163154822807229:1=1:=rfl
theorem tw1617357707322924660:1=1:=rfl
theorem tw16174758807025615021:1=1:=rfl
theorem tw16196420915677631385:1=1:=rfl
theorem tw16262243036561855896:1=1:=rfl
theorem tw16264823338695392855:1=1:=rfl
theorem tw16273406610938067001:1=1:=rfl
theorem tw16325430554902658873:1=1:=rfl
theorem tw16352630495959832749:1=1:=rfl
theorem tw1638113669730673903:1=1:=rfl
theorem tw16414630628198896168:1=1:=rfl
theorem tw16439428074185983240:1=1:=rfl
theorem tw16453443671601555132:1=1:=rfl
theorem tw16509065781470453940:1=1:=rfl
theorem tw16514970309427898208:1=1:=rfl
theorem tw16541100652227675460:1=1:=rfl
theorem tw16580785732701462914:1=1:=rfl
theorem tw16597617366809209970:1=1:=rfl
theorem tw16612331741718818515:1=1:=rfl
theorem tw16674975167109581930:1=1:=rfl
theorem tw16713831800681072344:1=1:=rfl
theorem tw16734371015571099844:1=1:=rfl
theorem tw16736118626332596326:1=1:=rfl
theorem tw16759092144687519636:1=1:=rfl
theorem tw1676862907878916244:1=1:=rfl
theorem tw16795567611416646642:1=1:=rfl
theorem tw16797912686624300680:1=1:=rfl
theorem tw16800595933775061595:1=1:=rfl
theorem tw16809779246217341487:1=1:=rfl
theorem tw16821654228018055803:1=1:=rfl
theorem tw16866024460163772082:1=1:=rfl
theorem tw16878204669230926818:1=1:=rfl
theorem tw16885616592811714743:1=1:=rfl
theorem tw16896751376397280635:1=1:=rfl
theorem tw16900427199656544559:1=1:=rfl
theorem tw1697544655201012999:1=1:=rfl
theorem tw16982378080980825192:1=1:=rfl
theorem tw17009415399725018624:1=1:=rfl
theorem tw17022078359063049780:1=1:=rfl
theorem tw17030962893124633753:1=1:=rfl
theorem tw17033825039287860005:1=1:=rfl
theorem tw17050326753033342646:1=1:=rfl
theorem tw1706793611546318481:1=1:=rfl
theorem tw17085176360113175178:1=1:=rfl
theorem tw17089494485692210459:1=1:=rfl
theorem tw17103585973383926153:1=1:=rfl
theorem tw17135812771915316397:1=1:=rfl
theorem tw17176029603704830031:1=1:=rfl
theorem tw17177869089781658578:1=1:=rfl
theorem tw1717825165581474212:1=1:=rfl
theorem tw17219337458794519322:1=1:=rfl
theorem tw17280477951071501910:1=1:=rfl
theorem tw1729571736192261407:1=1:=rfl
theorem tw173095330431744528:1=1:=rfl
theorem tw17315540178315561739:1=1:=rfl
theorem tw1732150942055357024:1=1:=rfl
theorem tw17323899518341599180:1=1:=rfl
theorem tw17342085116792181814:1=1:=rfl
theorem tw17355269125676882429:1=1:=rfl
theorem tw17428532607074087071:1=1:=rfl
theorem tw17469865338272021226:1=1:=rfl
theorem tw17470836177267949868:1=1:=rfl
theorem tw17474498911051797155:1=1:=rfl
theorem tw17486766287000646611:1=1:=rfl
theorem tw17492772389151264855:1=1:=rfl
theorem tw17520232983638268411:1=1:=rfl
theorem tw17542608870123051758:1=1:=rfl
theorem tw1754339480302792767:1=1:=rfl
theorem tw17545328352263074274:1=1:=rfl
theorem tw17565814175750979855:1=1:=rfl
theorem tw17576949682797635024:1=1:=rfl
theorem tw17576975557295073227:1=1:=rfl
theorem tw17582957951858275007:1=1:=rfl
theorem tw17594962761535629368:1=1:=rfl
theorem tw17649136891296342810:1=1:=rfl
theorem tw17735899436944072409:1=1:=rfl
theorem tw17783859843131274014:1=1:=rfl
theorem tw17788931634197215145:1=1:=rfl
theorem tw17807222030613408314:1=1:=rfl
theorem tw17828378304095215089:1=1:=rfl
theorem tw17886615442053742456:1=1:=rfl
theorem tw17949459616832978204:1=1:=rfl
theorem tw17953984050398360512:1=1:=rfl
theorem tw17964300760807480141:1=1:=rfl
theorem tw17981982808018919739:1=1:=rfl
theorem tw1803303928475200142:1=1:=rfl
theorem tw18062624165398249997:1=1:=rfl
theorem tw18063644159110109576:1=1:=rfl
theorem tw18064794426631996164:1=1:=rfl
theorem tw18085771088847121727:1=1:=rfl
theorem tw18086089286151905521:1=1:=rfl
theorem tw18134043772397237400:1=1:=rfl
theorem tw18164388396756303480:1=1:=rfl
theorem tw18186074749648716422:1=1:=rfl
theorem tw18237780215024852062:1=1:=rfl
theorem tw18245740138792012028:1=1:=rfl
theorem tw18263738799287584448:1=1:=rfl
theorem tw18289109515434150305:1=1:=rfl
theorem tw18326957874037197240:1=1:=rfl
theorem tw1833847959688406909:1=1:=rfl
theorem tw18367679650794681301:1=1:=rfl
theorem tw18371284783138465269:1=1:=rfl
theorem tw18394268562011335289:1=1:=rfl
theorem tw1843344800811705456:1=1:=rfl
theorem tw1869187583165140508:1=1:=rfl
theorem tw1886144042066472794:1=1:=rfl
theorem tw1959476706220467273:1=1:=rfl
theorem tw196536941598035525:1=1:=rfl
theorem tw1971433849790844608:1=1:=rfl
theorem tw1988063486488863061:1=1:=rfl
theorem tw2029088862249889922:1=1:=rfl
theorem tw2057334267981633021:1=1:=rfl
theorem tw2126296398998916975:1=1:=rfl
theorem tw2145171640123136144:1=1:=rfl
theorem tw216529984938456764:1=1:=rfl
theorem tw2165817408578904141:1=1:=rfl
theorem tw2218668502564051296:1=1:=rfl
theorem tw2267912224990424062:1=1:=rfl
theorem tw2287362676942042354:1=1:=rfl
theorem tw2287823674025257028:1=1:=rfl
theorem tw2312856594315299383:1=1:=rfl
theorem tw2327409098240617249:1=1:=rfl
theorem tw2365566498512967660:1=1:=rfl
theorem tw2377541652452675900:1=1:=rfl
theorem tw2405475915293451298:1=1:=rfl
theorem tw2417791160451022400:1=1:=rfl
theorem tw2443449257678562572:1=1:=rfl
theorem tw2446451932059125521:1=1:=rfl
theorem tw2462062305354472974:1=1:=rfl
theorem tw2464713573024523455:1=1:=rfl
theorem tw2506305409684761478:1=1:=rfl
theorem tw2544169868661182894:1=1:=rfl
theorem tw2580922434103091657:1=1:=rfl
theorem tw2596539476470345881:1=1:=rfl
theorem tw2601905985415302144:1=1:=rfl
theorem tw2617181576586992344:1=1:=rfl
theorem tw2619622883677149074:1=1:=rfl
theorem tw2624093185689280933:1=1:=rfl
theorem tw2665807947273092163:1=1:=rfl
theorem tw2675166985342186458:1=1:=rfl
theorem tw2683898200743741643:1=1:=rfl
theorem tw2685012915969955173:1=1:=rfl
theorem tw2686433634493928565:1=1:=rfl
theorem tw2707679213066786127:1=1:=rfl
theorem tw2722852734226103192:1=1:=rfl
theorem tw2727672472851901052:1=1:=rfl
theorem tw2731995056826638727:1=1:=rfl
theorem tw2741389259953327712:1=1:=rfl
theorem tw2758071753971750899:1=1:=rfl
theorem tw2770239361232196585:1=1:=rfl
theorem tw2770563814800254177:1=1:=rfl
theorem tw2782073688633401757:1=1:=rfl
theorem tw2809488002615124206:1=1:=rfl
theorem tw2822501910515967889:1=1:=rfl
theorem tw283044589724301:1=1:=rfl
theorem tw2835187731363253809:1=1:=rfl
theorem tw2847958352784047137:1=1:=rfl
theorem tw2859833716702649255:1=1:=rfl
theorem tw2867133514656366558:1=1:=rfl
theorem tw2878843996050045342:1=1:=rfl
theorem tw2905170056284976902:1=1:=rfl
theorem tw2907113945770861938:1=1:=rfl
theorem tw2924597203103170677:1=1:=rfl
theorem tw2926424126403749041:1=1:=rfl
theorem tw2968346561183084112:1=1:=rfl
theorem tw2972514686349903234:1=1:=rfl
theorem tw297971269722091814:1=1:=rfl
theorem tw2985252069258134486:1=1:=rfl
theorem tw3002795768020413707:1=1:=rfl
theorem tw3033006917804047512:1=1:=rfl
theorem tw3120133295221510679:1=1:=rfl
theorem tw3140898538269762758:1=1:=rfl
theorem tw314455870634268127:1=1:=rfl
theorem tw3180438532700378233:1=1:=rfl
theorem tw3195968871104189447:1=1:=rfl
theorem tw3207569582813703071:1=1:=rfl
theorem tw3254097082911018636:1=1:=rfl
theorem tw3261557481417251176:1=1:=rfl
theorem tw3315250197877816394:1=1:=rfl
theorem tw3331421620988305804:1=1:=rfl
theorem tw3337584539547039419:1=1:=rfl
theorem tw3357215229441099570:1=1:=rfl
theorem tw3368050667910131433:1=1:=rfl
theorem tw3422688185749166683:1=1:=rfl
theorem tw342308947776675178:1=1:=rfl
theorem tw3453223234828964814:1=1:=rfl
theorem tw3469754501002267734:1=1:=rfl
theorem tw3474246075231452896:1=1:=rfl
theorem tw3479634599624807885:1=1:=rfl
theorem tw3484022092364678248:1=1:=rfl
theorem tw3486219094355674750:1=1:=rfl
theorem tw350670483859837877:1=1:=rfl
theorem tw352232786441526191:1=1:=rfl
theorem tw3548060758652744671:1=1:=rfl
theorem tw3561193834555079511:1=1:=rfl
theorem tw3581848524822189991:1=1:=rfl
theorem tw3584897518013459382:1=1:=rfl
theorem tw3669314199184481253:1=1:=rfl
theorem tw3696473221133414273:1=1:=rfl
theorem tw3712731000106771831:1=1:=rfl
theorem tw3715792687998586317:1=1:=rfl
theorem tw3730354652608582461:1=1:=rfl
theorem tw3767615275625035234:1=1:=rfl
theorem tw3796891538752321733:1=1:=rfl
theorem tw381845443943030031:1=1:=rfl
theorem tw3820434133910038737:1=1:=rfl
theorem tw3831216023754155268:1=1:=rfl
theorem tw3837212427673210956:1=1:=rfl
theorem tw3846862658102513837:1=1:=rfl
theorem tw3855276242980373810:1=1:=rfl
theorem tw3871027444623705763:1=1:=rfl
theorem tw3874152929960365753:1=1:=rfl
theorem tw3909029901177050473:1=1:=rfl
theorem tw390997316461189296:1=1:=rfl
theorem tw3969286963782609292:1=1:=rfl
theorem tw3976154599441133093:1=1:=rfl
theorem tw3995942328266245912:1=1:=rfl
theorem tw4010397242664982755:1=1:=rfl
theorem tw401921906979044612:1=1:=rfl
theorem tw4046864289407762814:1=1:=rfl
theorem tw4052878762203253943:1=1:=rfl
theorem tw4058662728301269685:1=1:=rfl
theorem tw411662067469150650:1=1:=rfl
theorem tw4134505453457115739:1=1:=rfl
theorem tw4159251561096739476:1=1:=rfl
theorem tw4166218997396506358:1=1:=rfl
theorem tw4177254973167742082:1=1:=rfl
theorem tw4250950275838387964:1=1:=rfl
theorem tw427269002284569659:1=1:=rfl
theorem tw427420600052151026:1=1:=rfl
theorem tw4299629679881509495:1=1:=rfl
theorem tw4321519831107876412:1=1:=rfl
theorem tw4392038535549328194:1=1:=rfl
theorem tw4468942710605802240:1=1:=rfl
theorem tw4498253355057717688:1=1:=rfl
theorem tw453181688931711583:1=1:=rfl
theorem tw4547018644641229820:1=1:=rfl
theorem tw4551080515912023512:1=1:=rfl
theorem tw4555866861457887817:1=1:=rfl
theorem tw4571971715460732019:1=1:=rfl
theorem tw4597200072644226624:1=1:=rfl
theorem tw462939625794472801:1=1:=rfl
theorem tw4655869559712951663:1=1:=rfl
theorem tw4656485037274611717:1=1:=rfl
theorem tw4671429814451907529:1=1:=rfl
theorem tw46980244435833615:1=1:=rfl
theorem tw4699463449715708850:1=1:=rfl
theorem tw4713442408853163898:1=1:=rfl
theorem tw4736427724481360342:1=1:=rfl
theorem tw4773702212245658779:1=1:=rfl
theorem tw4784893810139332661:1=1:=rfl
theorem tw4796303294375832693:1=1:=rfl
theorem tw4807692442873511580:1=1:=rfl
theorem tw4835499133494076262:1=1:=rfl
theorem tw4840481374290595910:1=1:=rfl
theorem tw4856909995586565122:1=1:=rfl
theorem tw4859757453598101857:1=1:=rfl
theorem tw487173335965325826:1=1:=rfl
theorem tw4940147422707163885:1=1:=rfl
theorem tw4951766788466123468:1=1:=rfl
theorem tw4963205469387433577:1=1:=rfl
theorem tw501154541418245514:1=1:=rfl
theorem tw5058314954733539658:1=1:=rfl
theorem tw5088376156974544275:1=1:=rfl
theorem tw5105846836358774362:1=1:=rfl
theorem tw5155950481276406077:1=1:=rfl
theorem tw516228168201391017:1=1:=rfl
theorem tw517144808224063464:1=1:=rfl
theorem tw5186518429493523239:1=1:=rfl
theorem tw5196900775432865589:1=1:=rfl
theorem tw5225153198818245361:1=1:=rfl
theorem tw5225916559131626549:1=1:=rfl
theorem tw5235370132326077648:1=1:=rfl
theorem tw5240762971458559404:1=1:=rfl
theorem tw5244899138074338376:1=1:=rfl
theorem tw5245862010334584759:1=1:=rfl
theorem tw5278709424875269971:1=1:=rfl
theorem tw5281040853351527523:1=1:=rfl
theorem tw53344730913325255:1=1:=rfl
theorem tw5363817208640889713:1=1:=rfl
theorem tw5398424786039705171:1=1:=rfl
theorem tw5476889619067714990:1=1:=rfl
theorem tw5513142621748847562:1=1:=rfl
theorem tw5523086135645875356:1=1:=rfl
theorem tw5552270689369575618:1=1:=rfl
theorem tw5581607755468803823:1=1:=rfl
theorem tw5596365628329696591:1=1:=rfl
theorem tw5597187220613765494:1=1:=rfl
theorem tw5609151216138764652:1=1:=rfl
theorem tw5648408011753718230:1=1:=rfl
theorem tw5667650583090716360:1=1:=rfl
theorem tw5692499903750754813:1=1:=rfl
theorem tw57105620205931156:1=1:=rfl
theorem tw5715316560689409759:1=1:=rfl
theorem tw5728218623943512802:1=1:=rfl
theorem tw5738303106652476479:1=1:=rfl
theorem tw575894324575664597:1=1:=rfl
theorem tw5766051744304087583:1=1:=rfl
theorem tw5839659824258004927:1=1:=rfl
theorem tw5860347150701562758:1=1:=rfl
theorem tw5868845118606482295:1=1:=rfl
theorem tw5915399644114372684:1=1:=rfl
theorem tw5938664839603501006:1=1:=rfl
theorem tw594810645892935528:1=1:=rfl
theorem tw5969682004907312646:1=1:=rfl
theorem tw5970215366352900667:1=1:=rfl
theorem tw5974996487933071022:1=1:=rfl
theorem tw5983031951866500094:1=1:=rfl
theorem tw602653604445443664:1=1:=rfl
theorem tw6042063481754889096:1=1:=rfl
theorem tw6075534854705499898:1=1:=rfl
theorem tw6124053682588569230:1=1:=rfl
theorem tw6127594578889010139:1=1:=rfl
theorem tw6176384092110617959:1=1:=rfl
theorem tw6187478851450931391:1=1:=rfl
theorem tw6189502492464219833:1=1:=rfl
theorem tw6196800358849779857:1=1:=rfl
theorem tw620129878449983639:1=1:=rfl
theorem tw6211089042160764376:1=1:=rfl
theorem tw6240723676877644813:1=1:=rfl
theorem tw6265701101103706036:1=1:=rfl
theorem tw6292954644110606532:1=1:=rfl
theorem tw6333448901615975916:1=1:=rfl
theorem tw6370870915552960936:1=1:=rfl
theorem tw6381231289166406305:1=1:=rfl
theorem tw6388654656322651781:1=1:=rfl
theorem tw6430265229019958763:1=1:=rfl
theorem tw6431110157172167083:1=1:=rfl
theorem tw6438537300738474071:1=1:=rfl
theorem tw6448850889433096767:1=1:=rfl
theorem tw6459276657848829223:1=1:=rfl
theorem tw6487610083215253720:1=1:=rfl
theorem tw6491118196486620199:1=1:=rfl
theorem tw649594095290182367:1=1:=rfl
theorem tw6505410396798821541:1=1:=rfl
theorem tw6520327441239513222:1=1:=rfl
theorem tw6583040956863952856:1=1:=rfl
theorem tw661290744650703789:1=1:=rfl
theorem tw6623532728838073528:1=1:=rfl
theorem tw6624316729101989866:1=1:=rfl
theorem tw6659320528611288953:1=1:=rfl
theorem tw6662652255960138227:1=1:=rfl
theorem tw6664487174759623829:1=1:=rfl
theorem tw6674990990233134667:1=1:=rfl
theorem tw668136137496459709:1=1:=rfl
theorem tw6694047246710070196:1=1:=rfl
theorem tw672699306608606093:1=1:=rfl
theorem tw6746510453823603384:1=1:=rfl
theorem tw6756868429301003459:1=1:=rfl
theorem tw6761616313442571491:1=1:=rfl
theorem tw6786057226368545225:1=1:=rfl
theorem tw681777741448182936:1=1:=rfl
theorem tw6859976401760118174:1=1:=rfl
theorem tw6883741973766446791:1=1:=rfl
theorem tw6885214360128481674:1=1:=rfl
theorem tw6893477703608230032:1=1:=rfl
theorem tw6898770573198911631:1=1:=rfl
theorem tw6906291655842520137:1=1:=rfl
theorem tw6908635100366463001:1=1:=rfl
theorem tw6912233166142098652:1=1:=rfl
theorem tw6919701780365589675:1=1:=rfl
theorem tw6930518751129746686:1=1:=rfl
theorem tw6973401727384321114:1=1:=rfl
theorem tw7008692893051332821:1=1:=rfl
theorem tw7033079012710635876:1=1:=rfl
theorem tw705360758644809490:1=1:=rfl
theorem tw7079599612431449588:1=1:=rfl
theorem tw708234853630380328:1=1:=rfl
theorem tw7142760348513883617:1=1:=rfl
theorem tw7160873610591055699:1=1:=rfl
theorem tw7198060816514059695:1=1:=rfl
theorem tw7204493036743257322:1=1:=rfl
theorem tw7215319984434753242:1=1:=rfl
theorem tw7250933059871147345:1=1:=rfl
theorem tw7273676953221729872:1=1:=rfl
theorem tw728428047077509346:1=1:=rfl
theorem tw7381879191629600215:1=1:=rfl
theorem tw7386116660499605909:1=1:=rfl
theorem tw7414872774492366064:1=1:=rfl
theorem tw7436774141650363327:1=1:=rfl
theorem tw7444641836354208208:1=1:=rfl
theorem tw7458633546980236471:1=1:=rfl
theorem tw7522852383072776753:1=1:=rfl
theorem tw7527032243904285869:1=1:=rfl
theorem tw7538252964068480738:1=1:=rfl
theorem tw7600245330811189008:1=1:=rfl
theorem tw76412952228603488:1=1:=rfl
theorem tw7671549972530922468:1=1:=rfl
theorem tw7681529838311687354:1=1:=rfl
theorem tw7715697345341360870:1=1:=rfl
theorem tw7717162694582976202:1=1:=rfl
theorem tw7744093853086628109:1=1:=rfl
theorem tw775762912060472103:1=1:=rfl
theorem tw7761843605638006849:1=1:=rfl
theorem tw7799483888651840948:1=1:=rfl
theorem tw7817637940432870852:1=1:=rfl
theorem tw7830913209206220567:1=1:=rfl
theorem tw7845129631348957993:1=1:=rfl
theorem tw7847352863974893604:1=1:=rfl
theorem tw7847650389618582240:1=1:=rfl
theorem tw7853026024644422306:1=1:=rfl
theorem tw7855079511596107753:1=1:=rfl
theorem tw788273225186049534:1=1:=rfl
theorem tw7913636548009798097:1=1:=rfl
theorem tw795583310449317561:1=1:=rfl
theorem tw7990429038631628895:1=1:=rfl
theorem tw8025738503920905074:1=1:=rfl
theorem tw8043003576528973991:1=1:=rfl
theorem tw8054331753737935190:1=1:=rfl
theorem tw8107780213005350392:1=1:=rfl
theorem tw8140125068956082859:1=1:=rfl
theorem tw814325599930780420:1=1:=rfl
theorem tw8148004212497801138:1=1:=rfl
theorem tw8170299122808406783:1=1:=rfl
theorem tw81815255157605957:1=1:=rfl
theorem tw8184561461823581802:1=1:=rfl
theorem tw8204474986945543665:1=1:=rfl
theorem tw8212240652046128837:1=1:=rfl
theorem tw821533727693411082:1=1:=rfl
theorem tw8237333600419904120:1=1:=rfl
theorem tw8265311939077410998:1=1:=rfl
theorem tw8281120267493503204:1=1:=rfl
theorem tw8297286125493194097:1=1:=rfl
theorem tw8311017846404947139:1=1:=rfl
theorem tw8321918168302905379:1=1:=rfl
theorem tw8327351992414209593:1=1:=rfl
theorem tw83393220934416808:1=1:=rfl
theorem tw8345894832289464959:1=1:=rfl
theorem tw8363718466572441477:1=1:=rfl
theorem tw8369368087495890639:1=1:=rfl
theorem tw8393700709775954928:1=1:=rfl
theorem tw8410488445778877200:1=1:=rfl
theorem tw8420165910927482534:1=1:=rfl
theorem tw8435561252592420358:1=1:=rfl
theorem tw8443935842833279946:1=1:=rfl
theorem tw8472579005086612782:1=1:=rfl
theorem tw8507776931139520737:1=1:=rfl
theorem tw8523463495250067690:1=1:=rfl
theorem tw8547604310838440241:1=1:=rfl
theorem tw8560541052185303311:1=1:=rfl
theorem tw8598144960395782539:1=1:=rfl
theorem tw8620165645458168473:1=1:=rfl
theorem tw8622502720953521162:1=1:=rfl
theorem tw8640399195822439974:1=1:=rfl
theorem tw8645369167282567922:1=1:=rfl
theorem tw864819663365544661:1=1:=rfl
theorem tw8657480035899644758:1=1:=rfl
theorem tw8679839319945467846:1=1:=rfl
theorem tw8690613079922662544:1=1:=rfl
theorem tw8693662901424576113:1=1:=rfl
theorem tw8694864300669457046:1=1:=rfl
theorem tw8729362747519067210:1=1:=rfl
theorem tw877433047237710547:1=1:=rfl
theorem tw8800459187187324500:1=1:=rfl
theorem tw8810280945414196856:1=1:=rfl
theorem tw8813761850579938390:1=1:=rfl
theorem tw8823455108540655025:1=1:=rfl
theorem tw8861496304317395749:1=1:=rfl
theorem tw8874702517807110003:1=1:=rfl
theorem tw887695700811335699:1=1:=rfl
theorem tw8892184565913893157:1=1:=rfl
theorem tw8912170899635468890:1=1:=rfl
theorem tw8968299171318014206:1=1:=rfl
theorem tw8973803690348224638:1=1:=rfl
theorem tw8999917154711486175:1=1:=rfl
theorem tw9016798869158615873:1=1:=rfl
theorem tw9059672392935016618:1=1:=rfl
theorem tw9059832203979395877:1=1:=rfl
theorem tw9063741608606530840:1=1:=rfl
theorem tw908825868028484722:1=1:=rfl
theorem tw9152664641465651067:1=1:=rfl
theorem tw9165953624949470791:1=1:=rfl
theorem tw9166809390415177425:1=1:=rfl
theorem tw919099199263921298:1=1:=rfl
theorem tw9195894827357321740:1=1:=rfl
theorem tw9227057690007400460:1=1:=rfl
theorem tw9227541089923242437:1=1:=rfl
theorem tw9229161468869434483:1=1:=rfl
theorem tw9233335307524088747:1=1:=rfl
theorem tw9238823003894178615:1=1:=rfl
theorem tw9259421805112917234:1=1:=rfl
theorem tw9272544492142499777:1=1:=rfl
theorem tw93012567124736588:1=1:=rfl
theorem tw9305691244287143441:1=1:=rfl
theorem tw9326722878772556681:1=1:=rfl
theorem tw9335426496214029073:1=1:=rfl
theorem tw9361663168868926718:1=1:=rfl
theorem tw9378254376102152143:1=1:=rfl
theorem tw9382581127745807760:1=1:=rfl
theorem tw9407396174263392564:1=1:=rfl
theorem tw9442318146202087700:1=1:=rfl
theorem tw9503340733035011235:1=1:=rfl
theorem tw9516688046558066552:1=1:=rfl
theorem tw953821971998124167:1=1:=rfl
theorem tw956942650209027819:1=1:=rfl
theorem tw9576743257966636567:1=1:=rfl
theorem tw9589608677651300831:1=1:=rfl
theorem tw9595331335577350427:1=1:=rfl
theorem tw9601329371697537090:1=1:=rfl
theorem tw9614876229902214918:1=1:=rfl
theorem tw9631074621892390191:1=1:=rfl
theorem tw9673933992889287130:1=1:=rfl
theorem tw9685713192446186341:1=1:=rfl
theorem tw9739860059890490050:1=1:=rfl
theorem tw9743097575036673082:1=1:=rfl
theorem tw9759319705405543751:1=1:=rfl
theorem tw9768079942903668216:1=1:=rfl
theorem tw9800703332001039478:1=1:=rfl
theorem tw9843447840031818808:1=1:=rfl
theorem tw9843949296442739443:1=1:=rfl
theorem tw984902984118615328:1=1:=rfl
theorem tw9851269098105209369:1=1:=rfl
theorem tw9854310039474760501:1=1:=rfl
theorem tw987869383939708018:1=1:=rfl
theorem tw9913501989792142831:1=1:=rfl
theorem tw9919435345466941130:1=1:=rfl
theorem tw9951221954081769418:1=1:=rfl
theorem tw9953747333497923681:1=1:=rfl
theorem tw995497684801637723:1=1:=rfl
theorem tw9961057766049560675:1=1:=rfl
theorem tw9962302188120564619:1=1:=rfl
end Mine.top
namespace Mine
open Internal
theorem top:PySem.Challenge.rw_pq0809_01.Holds:=by
  (w_on;o_law;k_head;(case hw=>w_witness2))
  w_strict (k_go0;(all_goals try k_fold);rename_i w s0 s1 mg mb G Y fa o pm doc ho hg KX XX V GL T B TE TW b1 b2 M b3 b4 hcd is hs hlay hL1 hr1 hl2 q1 q2 ai vs q4 hL ra w1 r0 hI hr hc1 hc2 K0 hD h1 tk1 F x1 x2 x3 x4 x5 l1 l2 l3 l4 r N X;skip)
  have Xc:aU.Ok ⟨PySem.Challenge.rw_pq0809_01.row.prog,w,Mine.top.heap_1_39 w.params,s1.heap,Mine.top.view_1_40,_,mg,mb,bR,iO,gZ,s1.gens,s1.drawn,s1.os⟩:=⟨KX,topRead_of T,XA,by
    obtain ⟨mm,⟨o,_,_,e,_⟩,_⟩:=(T.seer (by kernel_rfl)).mods
    rw [e];exact nofun⟩
  refine wpAny_mono (Xz (XM Xc rfl rfl rfl ⟨by kernel_rfl,by kernel_rfl,by kernel_rfl,by kernel_rfl,by kernel_rfl,by kernel_rfl,by unfold Cs;kernel_rfl⟩) (Xq Xc rfl rfl (by kernel_rfl)) (a:=ai) (vs:=vs) (is:=is) rfl rfl (al rfl) (al rfl) rfl rfl rfl rfl rfl F (fun p hp=>⟨Xp X N p hp,Xs p hp⟩) nz rfl rfl rfl rfl rfl hL hI (by omega) (by kernel_rfl)) ?zg (fun _ _ h=>h.elim)
  case zg=>
    rintro f s' ⟨rfl,⟨m',F'⟩,hg',ho'⟩
    refine ⟨.inl ⟨.bool true,.bool true,[],rfl,fun _=>rfl,.bool _,by kernel_rfl,fun _=>⟨.nil,nofun⟩⟩,F'.keep,ho',hg'.trans hg⟩
end Mine
theorem PySem.Challenge.cw_pq0809_01_holds : PySem.Challenge.rw_pq0809_01.Holds :=
  Mine.top
